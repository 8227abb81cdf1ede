import PyProof.Rows.All
import Wide.All
import OpenK.AllK
import Wide.FinOn
import HandS.ForMost
import HandS.ForExc
import HandS.IsInst
import HandS.Style
import HandS.Flow
import HandS.ExcInit
import HandS.TryMany
import HandS.Defaults
import HandS.CallSlots
import HandS.Conv
import HandS.Deep
import HandS.TupLen
import HandS.WordsDict
import HandS.NoneIn
import HandS.Iter
import HandS.Comp
import HandS.Zip
import PyProof.TupleCall
import HandS.ExcField
import HandS.ClsMeth
import HandS.HeadHook4
import HandS.HeadWalk
import HandS.MakeKwOnly
import HandS.StrMore
import HandS.StrSplit
import HandS.DictComp
import KE.KStateDown
import HandS.Head0
import HandS.Head1
import HandS.Head2
import HandS.HeadEnd
import HandS.HeadHook1
import HandS.HeadHook2
import HandS.HeadHook3
import PySem.Challenge.RW_streamrepair_k01_counts_lines_and_words
set_option Elab.async false
set_option linter.all false
set_option maxRecDepth 100000
set_option maxHeartbeats 4000000
/-! F1: data, tracked objects, worlds, the relation to the hand layer's heap. -/
namespace L2.G
open PySem PySem.Spec PyProof.Rows

/-- a text by its codes -/
def tx (cs : List Nat) : Str := ⟨cs.toArray⟩
theorem tx_inj {a b : List Nat} (h : tx a = tx b) : a = b := by
  have e : a.toArray = b.toArray := congrArg Str.cps h
  exact congrArg Array.toList e
theorem tx_of (x : Str) : x = tx x.cps.toList := by
  cases x with
  | mk c => show Str.mk c = Str.mk c.toList.toArray; simp
theorem tx_len (cs : List Nat) : (tx cs).length = cs.length := by
  show cs.toArray.size = cs.length
  simp
theorem tx_app (a b : List Nat) : tx a ++ tx b = tx (a ++ b) := by
  show Str.mk (a.toArray ++ b.toArray) = Str.mk (a ++ b).toArray
  simp
theorem tx_cps (cs : List Nat) : (tx cs).cps.toList = cs := by
  show cs.toArray.toList = cs
  simp

inductive DK where
  | i (n : Int) | s (cs : List Nat) | t (as : List (Int ⊕ List Nat))
  deriving DecidableEq
/-- data: frozen all through, but ref n, the n-th tracked object -/
inductive D where
  | non | bl (b : Bool) | int (i : Int) | str (cs : List Nat)
  | lst (xs : List D) | tup (xs : List D) | dic (t : Bool) (kvs : List (DK × D)) | ref (n : Nat) | scr (ns : List Int)
/-- a tracked object -/
inductive Ob where
  | lst (xs : List D) | dic (t : Bool) (kvs : List (DK × D)) | ins (c : Nat) (fs : List (List Nat × D)) | exc (c : Nat) (fs : List (List Nat × D)) | dead
  | lck (t : Bool) (kvs : List (DK × D))
abbrev Tb := List Ob
abbrev Env := List (Option D)

def keyOf : Int ⊕ List Nat → Key
  | .inl n => .inl n
  | .inr cs => .inr (tx cs)
theorem keyOf_inj : ∀ {a b : Int ⊕ List Nat}, keyOf a = keyOf b → a = b
  | .inl a, .inl b, h => by cases h; rfl
  | .inr a, .inr b, h => by rw [tx_inj (Sum.inr.inj h)]
  | .inl a, .inr b, h => nomatch h
  | .inr a, .inl b, h => nomatch h

/-- what is frozen, where the tracked objects stand, the exception at hand, what is hidden -/
structure Wd where
  Hf : Hp
  rho : List Addr
  cur : Option (Addr × Addr)
  hid : Hp
structure Wd.LeR (w w' : Wd) : Prop where
  hf : Same w.Hf w'.Hf
  rho : ∀ (n : Nat) (a : Addr), w.rho[n]? = some a → w'.rho[n]? = some a
structure Wd.Le (w w' : Wd) : Prop where
  r : w.LeR w'
  cur : w'.cur = w.cur
  hid : w'.hid = w.hid
theorem Wd.LeR.refl (w : Wd) : w.LeR w := ⟨Same.refl _, fun _ _ h => h⟩
theorem Wd.LeR.trans {a b c : Wd} (x : a.LeR b) (y : b.LeR c) : a.LeR c := ⟨x.hf.trans y.hf, fun n p h => y.rho n p (x.rho n p h)⟩
theorem Wd.Le.refl (w : Wd) : w.Le w := ⟨.refl w, rfl, rfl⟩
theorem Wd.Le.trans {a b c : Wd} (x : a.Le b) (y : b.Le c) : a.Le c := ⟨x.r.trans y.r, y.cur.trans x.cur, y.hid.trans x.hid⟩

/-! ### data and values -/
mutual
inductive RelD (K : PySem.W.Frag) (w : Wd) : D → V → Prop
  | non : RelD K w .non .non
  | bl (b : Bool) : RelD K w (.bl b) (.bl b)
  | int (i : Int) : RelD K w (.int i) (.int i)
  | str (cs : List Nat) : RelD K w (.str cs) (.str (tx cs))
  | lst {xs : List D} {a : Addr} {vs : List V} : w.Hf a = some (.lst vs) → RelDs K w xs vs → RelD K w (.lst xs) (.ref a)
  | scr {ns : List Int} {a : Addr} : SqL K w.Hf a (ns.map V.int) → RelD K w (.scr ns) (.ref a)
  | tup {xs : List D} {a : Addr} {vs : List V} : w.Hf a = some (.tup vs) → RelDs K w xs vs → RelD K w (.tup xs) (.ref a)
  | dic {kvs : List (DK × D)} {a : Addr} {vs : List (Key × V)} : Rd w.Hf a (.dK vs) → RelKs K w kvs vs → RelD K w (.dic false kvs) (.ref a)
  | dit {kvs : List (DK × D)} {a : Addr} {vs : List (List Key × V)} : Rd w.Hf a (.dT vs) → RelTs K w kvs vs → RelD K w (.dic true kvs) (.ref a)
  | ref {n : Nat} {a : Addr} : w.rho[n]? = some a → RelD K w (.ref n) (.ref a)
inductive RelDs (K : PySem.W.Frag) (w : Wd) : List D → List V → Prop
  | nil : RelDs K w [] []
  | cons {d : D} {v : V} {ds : List D} {vs : List V} : RelD K w d v → RelDs K w ds vs → RelDs K w (d :: ds) (v :: vs)
inductive RelKs (K : PySem.W.Frag) (w : Wd) : List (DK × D) → List (Key × V) → Prop
  | nil : RelKs K w [] []
  | int {k : Int} {d : D} {v : V} {ds : List (DK × D)} {vs : List (Key × V)} : RelD K w d v → RelKs K w ds vs → RelKs K w ((.i k, d) :: ds) ((.inl k, v) :: vs)
  | str {k : List Nat} {d : D} {v : V} {ds : List (DK × D)} {vs : List (Key × V)} : RelD K w d v → RelKs K w ds vs → RelKs K w ((.s k, d) :: ds) ((.inr (tx k), v) :: vs)
inductive RelTs (K : PySem.W.Frag) (w : Wd) : List (DK × D) → List (List Key × V) → Prop
  | nil : RelTs K w [] []
  | cons {k : List (Int ⊕ List Nat)} {d : D} {v : V} {ds : List (DK × D)} {vs : List (List Key × V)} : RelD K w d v → RelTs K w ds vs → RelTs K w ((.t k, d) :: ds) ((k.map keyOf, v) :: vs)
end
theorem Rd.same {H H' : Hp} {a : Addr} {o : HO} (s : Same H H') (h : Rd H a o) : Rd H' a o := h.elim (fun h => .inl (s _ _ h)) fun ⟨ob, h⟩ => .inr ⟨ob, s _ _ h⟩
theorem SqT.same {K : PySem.W.Frag} {H H' : Hp} {a : Addr} {xs : List V} (s : Same H H') (h : SqT K H a xs) : SqT K H' a xs := h.elim (fun h => .inl (Rd.same s h)) .inr
mutual
theorem RelD.mono {K : PySem.W.Frag} {w w' : Wd} (l : w.LeR w') : ∀ (d : D) (v : V), RelD K w d v → RelD K w' d v
  | .non, _, h => by cases h; exact .non
  | .bl b, _, h => by cases h; exact .bl b
  | .int i, _, h => by cases h; exact .int i
  | .str x, _, h => by cases h; exact .str x
  | .lst xs, _, h => by
    cases h with
    | lst a r => exact .lst (l.hf _ _ a) (RelDs.mono l xs _ r)
  | .tup xs, _, h => by
    cases h with
    | tup a r => exact .tup (l.hf _ _ a) (RelDs.mono l xs _ r)
  | .dic _ kvs, _, h => by
    cases h with
    | dic a r => exact .dic (Rd.same l.hf a) (RelKs.mono l kvs _ r)
    | dit a r => exact .dit (Rd.same l.hf a) (RelTs.mono l kvs _ r)
  | .ref n, _, h => by
    cases h with
    | ref a => exact .ref (l.rho _ _ a)
  | .scr ns, _, h => by
    cases h with
    | scr a => exact .scr (l.hf.seq a)
theorem RelDs.mono {K : PySem.W.Frag} {w w' : Wd} (l : w.LeR w') : ∀ (d : List D) (v : List V), RelDs K w d v → RelDs K w' d v
  | [], _, h => by cases h; exact .nil
  | x :: xs, _, h => by
    cases h with
    | cons a r => exact .cons (RelD.mono l x _ a) (RelDs.mono l xs _ r)
theorem RelKs.mono {K : PySem.W.Frag} {w w' : Wd} (l : w.LeR w') : ∀ (d : List (DK × D)) (v : List (Key × V)), RelKs K w d v → RelKs K w' d v
  | [], _, h => by cases h; exact .nil
  | (k, x) :: xs, _, h => by
    cases h with
    | int a r => exact .int (RelD.mono l x _ a) (RelKs.mono l xs _ r)
    | str a r => exact .str (RelD.mono l x _ a) (RelKs.mono l xs _ r)
theorem RelTs.mono {K : PySem.W.Frag} {w w' : Wd} (l : w.LeR w') : ∀ (d : List (DK × D)) (v : List (List Key × V)), RelTs K w d v → RelTs K w' d v
  | [], _, h => by cases h; exact .nil
  | (k, x) :: xs, _, h => by
    cases h with
    | cons a r => exact .cons (RelD.mono l x _ a) (RelTs.mono l xs _ r)
end
theorem RelD.upR {K : PySem.W.Frag} {w w' : Wd} {d : D} {v : V} (h : RelD K w d v) (l : w.LeR w') : RelD K w' d v := RelD.mono l d v h
theorem RelDs.upR {K : PySem.W.Frag} {w w' : Wd} {d : List D} {v : List V} (h : RelDs K w d v) (l : w.LeR w') : RelDs K w' d v := RelDs.mono l d v h
theorem RelD.up {K : PySem.W.Frag} {w w' : Wd} {d : D} {v : V} (h : RelD K w d v) (l : w.Le w') : RelD K w' d v := RelD.mono l.r d v h
theorem RelDs.up {K : PySem.W.Frag} {w w' : Wd} {d : List D} {v : List V} (h : RelDs K w d v) (l : w.Le w') : RelDs K w' d v := RelDs.mono l.r d v h

/-! ### the references within -/
mutual
def below (n : Nat) : D → Bool
  | .non => true
  | .bl _ => true
  | .int _ => true
  | .str _ => true
  | .lst xs => belows n xs
  | .tup xs => belows n xs
  | .dic _ kvs => belowk n kvs
  | .ref m => decide (m < n)
  | .scr _ => true
def belows (n : Nat) : List D → Bool
  | [] => true
  | x :: xs => below n x && belows n xs
def belowk (n : Nat) : List (DK × D) → Bool
  | [] => true
  | (_, x) :: xs => below n x && belowk n xs
end
/-- a world with the first n tracked objects alone -/
def Wd.cut (w : Wd) (n : Nat) : Wd := { w with rho := w.rho.take n }
mutual
theorem RelD.cut {K : PySem.W.Frag} {w : Wd} {n : Nat} : ∀ (d : D) (v : V), below n d = true → RelD K w d v → RelD K (w.cut n) d v
  | .non, _, _, h => by cases h; exact .non
  | .bl b, _, _, h => by cases h; exact .bl b
  | .int i, _, _, h => by cases h; exact .int i
  | .str x, _, _, h => by cases h; exact .str x
  | .lst xs, _, q, h => by
    cases h with
    | lst a r => exact .lst a (RelDs.cut xs _ q r)
  | .tup xs, _, q, h => by
    cases h with
    | tup a r => exact .tup a (RelDs.cut xs _ q r)
  | .dic _ kvs, _, q, h => by
    cases h with
    | dic a r => exact .dic a (RelKs.cut kvs _ q r)
    | dit a r => exact .dit a (RelTs.cut kvs _ q r)
  | .ref m, _, q, h => by
    cases h with
    | ref a =>
      refine .ref ?_
      have q' : m < n := by simpa [below] using q
      show (w.rho.take n)[m]? = some _
      rw [List.getElem?_take, if_pos q']; exact a
  | .scr ns, _, _, h => by
    cases h with
    | scr a => exact .scr a
theorem RelDs.cut {K : PySem.W.Frag} {w : Wd} {n : Nat} : ∀ (d : List D) (v : List V), belows n d = true → RelDs K w d v → RelDs K (w.cut n) d v
  | [], _, _, h => by cases h; exact .nil
  | x :: xs, _, q, h => by
    simp only [belows, Bool.and_eq_true] at q
    cases h with
    | cons a r => exact .cons (RelD.cut x _ q.1 a) (RelDs.cut xs _ q.2 r)
theorem RelKs.cut {K : PySem.W.Frag} {w : Wd} {n : Nat} : ∀ (d : List (DK × D)) (v : List (Key × V)), belowk n d = true → RelKs K w d v → RelKs K (w.cut n) d v
  | [], _, _, h => by cases h; exact .nil
  | (k, x) :: xs, _, q, h => by
    simp only [belowk, Bool.and_eq_true] at q
    cases h with
    | int a r => exact .int (RelD.cut x _ q.1 a) (RelKs.cut xs _ q.2 r)
    | str a r => exact .str (RelD.cut x _ q.1 a) (RelKs.cut xs _ q.2 r)
theorem RelTs.cut {K : PySem.W.Frag} {w : Wd} {n : Nat} : ∀ (d : List (DK × D)) (v : List (List Key × V)), belowk n d = true → RelTs K w d v → RelTs K (w.cut n) d v
  | [], _, _, h => by cases h; exact .nil
  | (k, x) :: xs, _, q, h => by
    simp only [belowk, Bool.and_eq_true] at q
    cases h with
    | cons a r => exact .cons (RelD.cut x _ q.1 a) (RelTs.cut xs _ q.2 r)
end
mutual
theorem RelD.bel {K : PySem.W.Frag} {w : Wd} : ∀ (d : D) (v : V), RelD K w d v → below w.rho.length d = true
  | .non, _, _ => rfl
  | .bl _, _, _ => rfl
  | .int _, _, _ => rfl
  | .str _, _, _ => rfl
  | .lst xs, _, h => by
    cases h with
    | lst a r => exact RelDs.bel xs _ r
  | .tup xs, _, h => by
    cases h with
    | tup a r => exact RelDs.bel xs _ r
  | .dic _ kvs, _, h => by
    cases h with
    | dic a r => exact RelKs.bel kvs _ r
    | dit a r => exact RelTs.bel kvs _ r
  | .ref m, _, h => by
    cases h with
    | ref a => simp only [below, decide_eq_true_eq]; exact (List.getElem?_eq_some_iff.mp a).1
  | .scr _, _, _ => rfl
theorem RelDs.bel {K : PySem.W.Frag} {w : Wd} : ∀ (d : List D) (v : List V), RelDs K w d v → belows w.rho.length d = true
  | [], _, _ => rfl
  | x :: xs, _, h => by
    cases h with
    | cons a r => simp only [belows, Bool.and_eq_true]; exact ⟨RelD.bel x _ a, RelDs.bel xs _ r⟩
theorem RelKs.bel {K : PySem.W.Frag} {w : Wd} : ∀ (d : List (DK × D)) (v : List (Key × V)), RelKs K w d v → belowk w.rho.length d = true
  | [], _, _ => rfl
  | (k, x) :: xs, _, h => by
    cases h with
    | int a r => simp only [belowk, Bool.and_eq_true]; exact ⟨RelD.bel x _ a, RelKs.bel xs _ r⟩
    | str a r => simp only [belowk, Bool.and_eq_true]; exact ⟨RelD.bel x _ a, RelKs.bel xs _ r⟩
theorem RelTs.bel {K : PySem.W.Frag} {w : Wd} : ∀ (d : List (DK × D)) (v : List (List Key × V)), RelTs K w d v → belowk w.rho.length d = true
  | [], _, _ => rfl
  | (k, x) :: xs, _, h => by
    cases h with
    | cons a r => simp only [belowk, Bool.and_eq_true]; exact ⟨RelD.bel x _ a, RelTs.bel xs _ r⟩
end

/-! ### lists of data -/
section
variable {K : PySem.W.Frag} {w : Wd}
theorem RelDs.length {ds : List D} {vs : List V} (h : RelDs K w ds vs) : ds.length = vs.length := by
  induction ds generalizing vs with
  | nil => cases h; rfl
  | cons d ds ih => cases h with | cons a r => simp [ih r]
theorem RelDs.append {ds es : List D} {vs us : List V} (h : RelDs K w ds vs) (k : RelDs K w es us) : RelDs K w (ds ++ es) (vs ++ us) := by
  induction ds generalizing vs with
  | nil => cases h; exact k
  | cons d ds ih => cases h with | cons a r => exact .cons a (ih r)
theorem RelDs.get {ds : List D} {vs : List V} {i : Nat} {d : D} (h : RelDs K w ds vs) (e : ds[i]? = some d) : ∃ v, vs[i]? = some v ∧ RelD K w d v := by
  induction ds generalizing vs i with
  | nil => simp at e
  | cons x ds ih =>
    cases h with
    | cons a r =>
      cases i with
      | zero => simp at e; subst e; exact ⟨_, rfl, a⟩
      | succ i => simpa using ih r (by simpa using e)
theorem RelDs.getV {ds : List D} {vs : List V} {i : Nat} {v : V} (h : RelDs K w ds vs) (e : vs[i]? = some v) : ∃ d, ds[i]? = some d ∧ RelD K w d v := by
  induction ds generalizing vs i with
  | nil => cases h; simp at e
  | cons x ds ih =>
    cases h with
    | cons a r =>
      cases i with
      | zero => simp at e; subst e; exact ⟨_, rfl, a⟩
      | succ i => simpa using ih r (by simpa using e)
theorem RelDs.set {ds : List D} {vs : List V} {i : Nat} {d : D} {v : V} (h : RelDs K w ds vs) (r : RelD K w d v) : RelDs K w (ds.set i d) (vs.set i v) := by
  induction ds generalizing vs i with
  | nil => cases h; exact .nil
  | cons x ds ih =>
    cases h with
    | cons a t =>
      cases i with
      | zero => exact .cons r t
      | succ i => exact .cons a (ih t)
theorem RelDs.take {ds : List D} {vs : List V} (n : Nat) (h : RelDs K w ds vs) : RelDs K w (ds.take n) (vs.take n) := by
  induction ds generalizing vs n with
  | nil => cases h; simp; exact .nil
  | cons x ds ih =>
    cases h with
    | cons a t =>
      cases n with
      | zero => exact .nil
      | succ n => exact .cons a (ih n t)
theorem RelDs.drop {ds : List D} {vs : List V} (n : Nat) (h : RelDs K w ds vs) : RelDs K w (ds.drop n) (vs.drop n) := by
  induction ds generalizing vs n with
  | nil => cases h; simp; exact .nil
  | cons x ds ih =>
    cases h with
    | cons a t =>
      cases n with
      | zero => exact .cons a t
      | succ n => exact ih n t
theorem RelDs.eraseIdx {ds : List D} {vs : List V} (n : Nat) (h : RelDs K w ds vs) : RelDs K w (ds.eraseIdx n) (vs.eraseIdx n) := by
  induction ds generalizing vs n with
  | nil => cases h; exact .nil
  | cons x ds ih =>
    cases h with
    | cons a t =>
      cases n with
      | zero => exact t
      | succ n => exact .cons a (ih n t)
theorem RelDs.reverse {ds : List D} {vs : List V} (h : RelDs K w ds vs) : RelDs K w ds.reverse vs.reverse := by
  induction ds generalizing vs with
  | nil => cases h; exact .nil
  | cons d ds ih => cases h with | cons a r => rw [List.reverse_cons, List.reverse_cons]; exact (ih r).append (.cons a .nil)
theorem RelDs.rep {ds : List D} {vs : List V} (h : RelDs K w ds vs) : ∀ k : Nat, RelDs K w (List.replicate k ds).flatten (List.replicate k vs).flatten
  | 0 => .nil
  | k + 1 => by
    rw [List.replicate_succ, List.replicate_succ, List.flatten_cons, List.flatten_cons]
    exact h.append (RelDs.rep h k)
theorem RelDs.ints {ns : List Int} {vs : List V} (h : RelDs K w (ns.map D.int) vs) : vs = ns.map V.int := by
  induction ns generalizing vs with
  | nil => cases h; rfl
  | cons n ns ih => cases h with | cons a r => cases a; rw [ih r]; rfl
theorem RelDs.bls {ns : List Bool} {vs : List V} (h : RelDs K w (ns.map D.bl) vs) : vs = ns.map V.bl := by
  induction ns generalizing vs with
  | nil => cases h; rfl
  | cons n ns ih => cases h with | cons a r => cases a; rw [ih r]; rfl
theorem RelDs.strs {ns : List (List Nat)} {vs : List V} (h : RelDs K w (ns.map D.str) vs) : vs = (ns.map tx).map V.str := by
  induction ns generalizing vs with
  | nil => cases h; rfl
  | cons n ns ih => cases h with | cons a r => cases a; rw [ih r]; rfl
theorem RelDs.ofInts (ns : List Int) : RelDs K w (ns.map D.int) (ns.map V.int) := by
  induction ns with
  | nil => exact .nil
  | cons n ns ih => exact .cons (.int n) ih
theorem RelDs.ofStrs (ns : List (List Nat)) : RelDs K w (ns.map D.str) ((ns.map tx).map V.str) := by
  induction ns with
  | nil => exact .nil
  | cons n ns ih => exact .cons (.str n) ih
end

/-! ### tracked objects and the heap -/
/-- the fields of an instance, an exception -/
def RelFs (K : PySem.W.Frag) (w : Wd) (fs : List (List Nat × D)) (gs : List (Str × V)) : Prop := ∃ vs, RelDs K w (fs.map (·.2)) vs ∧ gs = (fs.map fun p => tx p.1).zip vs
def Ob.mut : Ob → Bool
  | .lst _ => true
  | .dic _ _ => true
  | .ins _ _ => true
  | .lck _ _ => true
  | _ => false
/-- what may be written: not a dict that is locked -/
def Ob.wr : Ob → Bool
  | .lst _ => true
  | .dic _ _ => true
  | .ins _ _ => true
  | _ => false
theorem Ob.wr_mut {o : Ob} (h : o.wr = true) : o.mut = true := by cases o <;> first | rfl | cases h
def ObRel (K : PySem.W.Frag) (cA : Nat → Addr) (w : Wd) (H : Hp) (a : Addr) : Ob → Prop
  | .lst xs => ∃ vs, H a = some (.lst vs) ∧ RelDs K w xs vs
  | .dic false kvs => ∃ vs, H a = some (.dK vs) ∧ RelKs K w kvs vs
  | .dic true kvs => ∃ vs, H a = some (.dT vs) ∧ RelTs K w kvs vs
  | .ins c fs => ∃ dx gs, H a = some (.ins (cA c) dx gs) ∧ RelFs K w fs gs
  | .exc c fs => ∃ dx gs, w.cur = some (a, dx) ∧ w.Hf dx = some (.xd gs) ∧ RelFs K w fs gs
  | .dead => True
  | .lck false kvs => ∃ od vs, H a = some (.frz od (.dK vs)) ∧ w.hid a = some (.frz od (.dK vs)) ∧ RelKs K w kvs vs
  | .lck true kvs => ∃ od vs, H a = some (.frz od (.dT vs)) ∧ w.hid a = some (.frz od (.dT vs)) ∧ RelTs K w kvs vs
def isDicH : HO → Bool
  | .dK _ => true
  | .dT _ => true
  | _ => false
/-- what may be hidden -/
def hidK : HO → Bool
  | .lst _ => true
  | .dK _ => true
  | .dT _ => true
  | _ => false
structure Sim (K : PySem.W.Frag) (cA : Nat → Addr) (w : Wd) (tb : Tb) (H : Hp) : Prop where
  fro : ∀ (a : Addr) (o : HO), w.Hf a = some o → H a = some o ∨ (isDicH o = true ∧ ∃ ob, H a = some (.frz ob o) ∧ w.hid a = some (.frz ob o))
  len : w.rho.length = tb.length
  obs : ∀ (n : Nat) (a : Addr) (o : Ob), w.rho[n]? = some a → tb[n]? = some o → ObRel K cA w H a o
  off : ∀ (n : Nat) (a : Addr) (o : Ob), w.rho[n]? = some a → tb[n]? = some o → o.mut = true → w.Hf a = none
  sep : ∀ (n m : Nat) (a : Addr) (o o' : Ob), n ≠ m → w.rho[n]? = some a → w.rho[m]? = some a → tb[n]? = some o → tb[m]? = some o' → o.mut = true → o'.mut = true → False
  hid : ∀ (a : Addr) (o : HO), w.hid a = some o → H a = some o ∧ ((w.Hf a = none ∧ hidK o = true) ∨ ∃ od u, o = .frz od u)
  hsp : ∀ (n : Nat) (a : Addr) (o : Ob), w.rho[n]? = some a → tb[n]? = some o → o.wr = true → w.hid a = none

section
variable {K : PySem.W.Frag} {cA : Nat → Addr} {w w' : Wd} {tb : Tb} {H H' : Hp}
theorem RelFs.up {fs : List (List Nat × D)} {gs : List (Str × V)} (h : RelFs K w fs gs) (l : w.Le w') : RelFs K w' fs gs := by
  obtain ⟨vs, r, e⟩ := h
  exact ⟨vs, r.up l, e⟩
/-- an object's relation is carried over, where its own place stands -/
theorem ObRel.up {a : Addr} {o : Ob} (h : ObRel K cA w H a o) (l : w.Le w') (e : o.mut = true → H' a = H a) : ObRel K cA w' H' a o := by
  cases o with
  | lst xs => obtain ⟨vs, h1, h2⟩ := h; exact ⟨vs, (e rfl).trans h1, h2.up l⟩
  | dic t kvs =>
    cases t with
    | false => obtain ⟨vs, h1, h2⟩ := h; exact ⟨vs, (e rfl).trans h1, RelKs.mono l.r _ _ h2⟩
    | true => obtain ⟨vs, h1, h2⟩ := h; exact ⟨vs, (e rfl).trans h1, RelTs.mono l.r _ _ h2⟩
  | ins c fs => obtain ⟨dx, gs, h1, h2⟩ := h; exact ⟨dx, gs, (e rfl).trans h1, h2.up l⟩
  | exc c fs => obtain ⟨dx, gs, h1, h2, h3⟩ := h; exact ⟨dx, gs, l.cur.trans h1, l.r.hf _ _ h2, h3.up l⟩
  | dead => trivial
  | lck t kvs =>
    cases t with
    | false => obtain ⟨od, vs, h1, h3, h2⟩ := h; exact ⟨od, vs, (e rfl).trans h1, by rw [l.hid]; exact h3, RelKs.mono l.r _ _ h2⟩
    | true => obtain ⟨od, vs, h1, h3, h2⟩ := h; exact ⟨od, vs, (e rfl).trans h1, by rw [l.hid]; exact h3, RelTs.mono l.r _ _ h2⟩
theorem ObRel.there {a : Addr} {o : Ob} (h : ObRel K cA w H a o) (m : o.mut = true) : ∃ u, H a = some u := by
  cases o with
  | lst xs => obtain ⟨vs, h1, h2⟩ := h; exact ⟨_, h1⟩
  | dic t kvs =>
    cases t with
    | false => obtain ⟨vs, h1, h2⟩ := h; exact ⟨_, h1⟩
    | true => obtain ⟨vs, h1, h2⟩ := h; exact ⟨_, h1⟩
  | ins c fs => obtain ⟨dx, gs, h1, h2⟩ := h; exact ⟨_, h1⟩
  | exc c fs => cases m
  | dead => cases m
  | lck t kvs =>
    cases t with
    | false => obtain ⟨od, vs, h1, h2⟩ := h; exact ⟨_, h1⟩
    | true => obtain ⟨od, vs, h1, h2⟩ := h; exact ⟨_, h1⟩
/-- a new thing that is not tracked at all -/
theorem Sim.more (s : Sim K cA w tb H) {p : Addr} {o : HO} (hp : H p = none) : Sim K cA w tb (upd H p o) := by
  have ne : ∀ a u, H a = some u → a ≠ p := fun a u e => ne_of_none e hp
  refine ⟨fun a u e => ?_, s.len, fun n a u h1 h2 => (s.obs n a u h1 h2).up (.refl w) fun m => ?_, s.off, s.sep, fun a u e => ⟨by rw [upd_ne (ne _ _ (s.hid a u e).1)]; exact (s.hid a u e).1, (s.hid a u e).2⟩, s.hsp⟩
  · rcases s.fro a u e with h | ⟨d, ob, h, h'⟩
    · exact .inl (by rw [upd_ne (ne _ _ h)]; exact h)
    · exact .inr ⟨d, ob, by rw [upd_ne (ne _ _ h)]; exact h, h'⟩
  · obtain ⟨v, hv⟩ := (s.obs n a u h1 h2).there m
    rw [upd_ne (ne _ _ hv)]
theorem Sim.hfNone (s : Sim K cA w tb H) {p : Addr} (hp : H p = none) : w.Hf p = none := by
  cases e : w.Hf p with
  | none => rfl
  | some o =>
    rcases s.fro p o e with h | ⟨_, ob, h, _⟩
    · rw [hp] at h; cases h
    · rw [hp] at h; cases h
/-- .. that is frozen at once -/
def Wd.fz (w : Wd) (p : Addr) (o : HO) : Wd := { w with Hf := upd w.Hf p o }
theorem Wd.le_fz {w : Wd} {p : Addr} {o : HO} (hp : w.Hf p = none) : w.Le (w.fz p o) :=
  ⟨⟨fun b u e => by show upd w.Hf p o b = _; rw [upd_ne (ne_of_none e hp)]; exact e, fun _ _ h => h⟩, rfl, rfl⟩
theorem Sim.newF (s : Sim K cA w tb H) {p : Addr} {o : HO} (hp : H p = none) : w.Le (w.fz p o) ∧ Sim K cA (w.fz p o) tb (upd H p o) := by
  have hf := s.hfNone hp
  have l : w.Le (w.fz p o) := Wd.le_fz hf
  have s2 := s.more (o := o) hp
  refine ⟨l, ⟨fun a u e => ?_, s.len, fun n a u h1 h2 => (s2.obs n a u h1 h2).up l fun _ => rfl, fun n a u h1 h2 m => ?_, s.sep, fun a u e => ⟨(s2.hid a u e).1, by show (upd w.Hf p o a = none ∧ _) ∨ _; rw [upd_ne (ne_of_none (s.hid a u e).1 hp)]; exact (s.hid a u e).2⟩, s.hsp⟩⟩
  · by_cases ha : a = p
    · subst ha
      have e' : upd w.Hf a o a = some u := e
      rw [upd_same] at e'; cases e'
      exact .inl upd_same
    · have e' : upd w.Hf p o a = some u := e
      rw [upd_ne ha] at e'
      exact s2.fro a u e'
  · show upd w.Hf p o a = none
    obtain ⟨v, hv⟩ := (s.obs n a u h1 h2).there m
    rw [upd_ne (ne_of_none hv hp)]
    exact s.off n a u h1 h2 m
/-- .. that is tracked -/
def Wd.push (w : Wd) (p : Addr) : Wd := { w with rho := w.rho ++ [p] }
theorem Wd.le_push (w : Wd) (p : Addr) : w.Le (w.push p) :=
  ⟨⟨Same.refl _, fun n a h => by show (w.rho ++ [p])[n]? = some a; rw [List.getElem?_append_left (List.getElem?_eq_some_iff.mp h).1]; exact h⟩, rfl, rfl⟩
theorem push_at {w : Wd} {p : Addr} : (w.push p).rho[w.rho.length]? = some p := by show (w.rho ++ [p])[w.rho.length]? = some p; simp
theorem get_push {α : Type} {l : List α} {x y : α} {n : Nat} (h : (l ++ [x])[n]? = some y) : l[n]? = some y ∨ (n = l.length ∧ y = x) := by
  rcases Nat.lt_trichotomy n l.length with q | q | q
  · rw [List.getElem?_append_left q] at h; exact .inl h
  · subst q; simp at h; exact .inr ⟨rfl, h.symm⟩
  · rw [List.getElem?_eq_none (by simp; omega)] at h; cases h
theorem Sim.newT (s : Sim K cA w tb H) {p : Addr} {o : HO} {ob : Ob} (hp : H p = none) (r : ObRel K cA (w.push p) (upd H p o) p ob) : Sim K cA (w.push p) (tb ++ [ob]) (upd H p o) := by
  have s2 := s.more (o := o) hp
  have ne : ∀ (n : Nat) (a : Addr) (u : Ob), w.rho[n]? = some a → tb[n]? = some u → u.mut = true → a ≠ p := fun n a u h1 h2 m => by
    obtain ⟨v, hv⟩ := (s.obs n a u h1 h2).there m
    exact ne_of_none hv hp
  have hl := s.len
  refine ⟨s2.fro, by show (w.rho ++ [p]).length = (tb ++ [ob]).length; simp [hl], fun n a u h1 h2 => ?_, fun n a u h1 h2 m => ?_, fun n m a u u' nm h1 h2 h3 h4 m1 m2 => ?_, s2.hid, fun n a u h1 h2 m => ?_⟩
  · rcases get_push h1 with g1 | ⟨e1, rfl⟩
    · rcases get_push h2 with g2 | ⟨e2, rfl⟩
      · exact (s2.obs n a u g1 g2).up (w.le_push p) fun _ => rfl
      · have := (List.getElem?_eq_some_iff.mp g1).1; omega
    · rcases get_push h2 with g2 | ⟨e2, rfl⟩
      · have := (List.getElem?_eq_some_iff.mp g2).1; omega
      · exact r
  · show w.Hf a = none
    rcases get_push h1 with g1 | ⟨e1, rfl⟩
    · rcases get_push h2 with g2 | ⟨e2, rfl⟩
      · exact s.off n a u g1 g2 m
      · have := (List.getElem?_eq_some_iff.mp g1).1; omega
    · exact s.hfNone hp
  · rcases get_push h1 with g1 | ⟨e1, q1⟩
    · rcases get_push h3 with g3 | ⟨e3, rfl⟩
      · rcases get_push h2 with g2 | ⟨e2, q2⟩
        · rcases get_push h4 with g4 | ⟨e4, rfl⟩
          · exact s.sep n m a u u' nm g1 g2 g3 g4 m1 m2
          · have := (List.getElem?_eq_some_iff.mp g2).1; omega
        · exact ne n a u g1 g3 m1 q2
      · have := (List.getElem?_eq_some_iff.mp g1).1; omega
    · rcases get_push h2 with g2 | ⟨e2, q2⟩
      · rcases get_push h4 with g4 | ⟨e4, rfl⟩
        · exact ne m a u' g2 g4 m2 q1
        · have := (List.getElem?_eq_some_iff.mp g2).1; omega
      · omega
  · show w.hid a = none
    rcases get_push h1 with g1 | ⟨e1, rfl⟩
    · rcases get_push h2 with g2 | ⟨e2, rfl⟩
      · exact s.hsp n a u g1 g2 m
      · have := (List.getElem?_eq_some_iff.mp g1).1; omega
    · cases e : w.hid a with
      | none => rfl
      | some v => exact absurd (s.hid a v e).1 (by rw [hp]; simp)
/-- a tracked thing is changed -/
theorem Sim.put (s : Sim K cA w tb H) {n : Nat} {a : Addr} {ob ob' : Ob} {o : HO} (h1 : w.rho[n]? = some a) (h2 : tb[n]? = some ob) (mw : ob.wr = true) (m' : ob'.wr = true)
    (r : ObRel K cA w (upd H a o) a ob') : Sim K cA w (tb.set n ob') (upd H a o) := by
  have hn : n < tb.length := (List.getElem?_eq_some_iff.mp h2).1
  have m := Ob.wr_mut mw
  have off := s.off n a ob h1 h2 m
  refine ⟨fun b u e => ?_, by simp [s.len], fun k b u g1 g2 => ?_, fun k b u g1 g2 mu => ?_, fun k l b u u' kl g1 g2 g3 g4 m1 m2 => ?_, fun b u e => ?_, fun k b u g1 g2 mu => ?_⟩
  · have ne : b ≠ a := ne_of_none e off
    rcases s.fro b u e with h | ⟨d, obb, h, h'⟩
    · exact .inl (by rw [upd_ne ne]; exact h)
    · exact .inr ⟨d, obb, by rw [upd_ne ne]; exact h, h'⟩
  · by_cases hk : n = k
    · subst hk
      rw [h1] at g1; cases g1
      rw [List.getElem?_set_self hn] at g2; cases g2
      exact r
    · rw [List.getElem?_set_ne hk] at g2
      refine (s.obs k b u g1 g2).up (.refl w) fun mu => ?_
      rw [upd_ne]
      rintro rfl
      exact s.sep n k b ob u hk h1 g1 h2 g2 m mu
  · by_cases hk : n = k
    · subst hk
      rw [h1] at g1; cases g1
      exact off
    · rw [List.getElem?_set_ne hk] at g2
      exact s.off k b u g1 g2 mu
  · have old : ∀ (j : Nat) (v : Ob), (tb.set n ob')[j]? = some v → v.mut = true → ∃ v', tb[j]? = some v' ∧ v'.mut = true := fun j v g mv => by
      by_cases hj : n = j
      · subst hj; exact ⟨ob, h2, m⟩
      · rw [List.getElem?_set_ne hj] at g; exact ⟨v, g, mv⟩
    obtain ⟨v, g3', mv⟩ := old k u g3 m1
    obtain ⟨v', g4', mv'⟩ := old l u' g4 m2
    exact s.sep k l b v v' kl g1 g2 g3' g4' mv mv'
  · have z := s.hsp n a ob h1 h2 mw
    have ne : b ≠ a := fun q => by rw [q, z] at e; cases e
    rw [upd_ne ne]
    exact s.hid b u e
  · by_cases hk : n = k
    · subst hk
      rw [h1] at g1; cases g1
      exact s.hsp n a ob h1 h2 mw
    · rw [List.getElem?_set_ne hk] at g2
      exact s.hsp k b u g1 g2 mu
/-- a tracked thing dies, or is frozen as it stands -/
theorem Sim.die (s : Sim K cA w tb H) {n : Nat} : Sim K cA w (tb.set n .dead) H := by
  have back : ∀ (k : Nat) (u : Ob), (tb.set n Ob.dead)[k]? = some u → u = .dead ∨ tb[k]? = some u := fun k u g => by
    by_cases hk : n = k
    · subst hk
      by_cases hl : n < tb.length
      · rw [List.getElem?_set_self hl] at g; exact .inl (Option.some.inj g).symm
      · rw [List.getElem?_eq_none (by simpa using hl)] at g; cases g
    · rw [List.getElem?_set_ne hk] at g; exact .inr g
  refine ⟨s.fro, by simp [s.len], fun k b u g1 g2 => ?_, fun k b u g1 g2 mu => ?_, fun k l b u u' kl g1 g2 g3 g4 m1 m2 => ?_, s.hid, fun k b u g1 g2 mu => ?_⟩
  · rcases back k u g2 with rfl | g
    · trivial
    · exact s.obs k b u g1 g
  · rcases back k u g2 with rfl | g
    · cases mu
    · exact s.off k b u g1 g mu
  · rcases back k u g3 with rfl | g
    · cases m1
    · rcases back l u' g4 with rfl | g'
      · cases m2
      · exact s.sep k l b u u' kl g1 g2 g g' m1 m2
  · rcases back k u g2 with rfl | g
    · cases mu
    · exact s.hsp k b u g1 g mu
theorem Sim.ice (s : Sim K cA w tb H) {n : Nat} {a : Addr} {ob : Ob} {o : HO} (h1 : w.rho[n]? = some a) (h2 : tb[n]? = some ob) (mw : ob.wr = true) (hH : H a = some o) :
    w.Le (w.fz a o) ∧ Sim K cA (w.fz a o) (tb.set n .dead) H := by
  have m := Ob.wr_mut mw
  have off := s.off n a ob h1 h2 m
  have l : w.Le (w.fz a o) := Wd.le_fz off
  have d := s.die (n := n)
  refine ⟨l, ⟨fun b u e => ?_, d.len, fun k b u g1 g2 => (d.obs k b u g1 g2).up l fun _ => rfl, fun k b u g1 g2 mu => ?_, d.sep, fun b u e => ⟨(d.hid b u e).1, ?_⟩, d.hsp⟩⟩
  · by_cases hb : b = a
    · subst hb
      have e' : upd w.Hf b o b = some u := e
      rw [upd_same] at e'; cases e'
      exact .inl hH
    · have e' : upd w.Hf a o b = some u := e
      rw [upd_ne hb] at e'
      exact s.fro b u e'
  · show upd w.Hf a o b = none
    have hk : n ≠ k := by
      rintro rfl
      have hn : n < tb.length := (List.getElem?_eq_some_iff.mp h2).1
      rw [List.getElem?_set_self hn] at g2; cases g2; cases mu
    rw [List.getElem?_set_ne hk] at g2
    rw [upd_ne]
    · exact s.off k b u g1 g2 mu
    · rintro rfl
      exact s.sep n k b ob u hk h1 g1 h2 g2 m mu
  · show (upd w.Hf a o b = none ∧ _) ∨ _
    rw [upd_ne]
    · exact (s.hid b u e).2
    · rintro rfl
      have e' : w.hid b = some u := e
      rw [s.hsp n b ob h1 h2 mw] at e'; cases e'
/-- what is frozen is read -/
theorem Sim.rd (s : Sim K cA w tb H) {a : Addr} {o : HO} (h : Rd w.Hf a o) (nf : ∀ ob u, o ≠ .frz ob u) : Rd H a o := by
  rcases h with h | ⟨ob, h⟩
  · rcases s.fro a o h with q | ⟨_, ob, q, _⟩
    · exact .inl q
    · exact .inr ⟨ob, q⟩
  · rcases s.fro a _ h with q | ⟨z, _⟩
    · exact .inr ⟨ob, q⟩
    · cases z
theorem Sim.sqL (s : Sim K cA w tb H) {a : Addr} {xs : List V} (h : SqL K w.Hf a xs) : SqL K H a xs := h.elim (fun h => .inl (s.rd h fun _ _ z => nomatch z)) .inr
theorem Sim.sqT (s : Sim K cA w tb H) {a : Addr} {xs : List V} (h : SqT K w.Hf a xs) : SqT K H a xs := h.elim (fun h => .inl (s.rd h fun _ _ z => nomatch z)) .inr
/-- the tracked objects from n on are forgotten -/
def Ob.below (n : Nat) : Ob → Bool
  | .lst xs => belows n xs
  | .dic _ kvs => belowk n kvs
  | .ins _ fs => belows n (fs.map (·.2))
  | .exc _ fs => belows n (fs.map (·.2))
  | .dead => true
  | .lck _ kvs => belowk n kvs
theorem ObRel.cut {n : Nat} {a : Addr} {o : Ob} (h : ObRel K cA w H a o) (q : o.below n = true) : ObRel K cA (w.cut n) H a o := by
  cases o with
  | lst xs => obtain ⟨vs, h1, h2⟩ := h; exact ⟨vs, h1, RelDs.cut _ _ q h2⟩
  | dic t kvs =>
    cases t with
    | false => obtain ⟨vs, h1, h2⟩ := h; exact ⟨vs, h1, RelKs.cut _ _ q h2⟩
    | true => obtain ⟨vs, h1, h2⟩ := h; exact ⟨vs, h1, RelTs.cut _ _ q h2⟩
  | ins c fs => obtain ⟨dx, gs, h1, vs, h2, h3⟩ := h; exact ⟨dx, gs, h1, vs, RelDs.cut _ _ q h2, h3⟩
  | exc c fs => obtain ⟨dx, gs, h1, h0, vs, h2, h3⟩ := h; exact ⟨dx, gs, h1, h0, vs, RelDs.cut _ _ q h2, h3⟩
  | dead => trivial
  | lck t kvs =>
    cases t with
    | false => obtain ⟨od, vs, h1, h3, h2⟩ := h; exact ⟨od, vs, h1, h3, RelKs.cut _ _ q h2⟩
    | true => obtain ⟨od, vs, h1, h3, h2⟩ := h; exact ⟨od, vs, h1, h3, RelTs.cut _ _ q h2⟩
theorem ObRel.bel {a : Addr} {o : Ob} (h : ObRel K cA w H a o) : o.below w.rho.length = true := by
  cases o with
  | lst xs => obtain ⟨vs, h1, h2⟩ := h; exact RelDs.bel _ _ h2
  | dic t kvs =>
    cases t with
    | false => obtain ⟨vs, h1, h2⟩ := h; exact RelKs.bel _ _ h2
    | true => obtain ⟨vs, h1, h2⟩ := h; exact RelTs.bel _ _ h2
  | ins c fs => obtain ⟨dx, gs, h1, vs, h2, h3⟩ := h; exact RelDs.bel _ _ h2
  | exc c fs => obtain ⟨dx, gs, h1, h0, vs, h2, h3⟩ := h; exact RelDs.bel _ _ h2
  | dead => rfl
  | lck t kvs =>
    cases t with
    | false => obtain ⟨od, vs, h1, h3, h2⟩ := h; exact RelKs.bel _ _ h2
    | true => obtain ⟨od, vs, h1, h3, h2⟩ := h; exact RelTs.bel _ _ h2
theorem Sim.cut (s : Sim K cA w tb H) {n : Nat} (q : ∀ (k : Nat) (o : Ob), k < n → tb[k]? = some o → o.below n = true) : Sim K cA (w.cut n) (tb.take n) H := by
  have tk : ∀ {α : Type} {l : List α} {k : Nat} {x : α}, (l.take n)[k]? = some x → k < n ∧ l[k]? = some x := fun {α l k x} e => by
    rw [List.getElem?_take] at e
    split at e
    · exact ⟨by assumption, e⟩
    · cases e
  refine ⟨s.fro, by show (w.rho.take n).length = (tb.take n).length; simp [s.len], fun k a o h1 h2 => ?_, fun k a o h1 h2 m => s.off k a o (tk h1).2 (tk h2).2 m, fun k l a o o' kl h1 h2 h3 h4 m1 m2 => s.sep k l a o o' kl (tk h1).2 (tk h2).2 (tk h3).2 (tk h4).2 m1 m2, s.hid, fun k a o h1 h2 m => s.hsp k a o (tk h1).2 (tk h2).2 m⟩
  exact (s.obs k a o (tk h1).2 (tk h2).2).cut (q k o (tk h2).1 (tk h2).2)
end

/-! ### names -/
def RelE (K : PySem.W.Frag) (w : Wd) (e : Env) (σ : St) : Prop := e.length = σ.length ∧ ∀ (i : Nat) (d : D), e[i]? = some (some d) → ∃ v, σ[i]? = some (some v) ∧ RelD K w d v
section
variable {K : PySem.W.Frag} {w w' : Wd} {e : Env} {σ : St}
theorem RelE.upR (h : RelE K w e σ) (l : w.LeR w') : RelE K w' e σ := ⟨h.1, fun i d q => let ⟨v, a, b⟩ := h.2 i d q; ⟨v, a, b.upR l⟩⟩
theorem RelE.up (h : RelE K w e σ) (l : w.Le w') : RelE K w' e σ := h.upR l.r
theorem RelE.set {i : Nat} {d : D} {v : V} (h : RelE K w e σ) (r : RelD K w d v) : RelE K w (e.set i (some d)) (σ.set i (some v)) := by
  refine ⟨by simp [h.1], fun j x q => ?_⟩
  by_cases hj : i = j
  · subst hj
    by_cases hl : i < e.length
    · rw [List.getElem?_set_self hl] at q; cases q
      exact ⟨v, by rw [List.getElem?_set_self (by rw [← h.1]; exact hl)], r⟩
    · rw [List.getElem?_eq_none (by simpa using hl)] at q; cases q
  · rw [List.getElem?_set_ne hj] at q
    rw [List.getElem?_set_ne hj]
    exact h.2 j x q
theorem RelE.drop {i : Nat} {σ' : St} (h : RelE K w e σ) (hl : σ'.length = σ.length) (ho : ∀ (j : Nat), j ≠ i → σ'[j]? = σ[j]?) : RelE K w (e.set i none) σ' := by
  refine ⟨by simp [h.1, hl], fun j x q => ?_⟩
  by_cases hj : i = j
  · subst hj
    by_cases hl : i < e.length
    · rw [List.getElem?_set_self hl] at q; cases q
    · rw [List.getElem?_eq_none (by simpa using hl)] at q; cases q
  · rw [List.getElem?_set_ne hj] at q
    rw [ho j (Ne.symm hj)]
    exact h.2 j x q
end
end L2.G
set_option maxHeartbeats 4000000
/-! F2: readings by mirrors; expressions. -/
namespace L2.G
open PySem PySem.Spec PyProof.Rows

/-- what a mirror tells -/
inductive Rs (α : Type) where
  | ok (a : α) (tb : Tb) | ex (c : Nat) (fs : List (List Nat × D)) (tb : Tb) | fail
def Rs.bind {α β : Type} (r : Rs α) (f : α → Tb → Rs β) : Rs β :=
  match r with
  | .ok a tb => f a tb
  | .ex c fs tb => .ex c fs tb
  | .fail => .fail
@[simp] theorem Rs.bind_ok {α β : Type} (a : α) (tb : Tb) (f : α → Tb → Rs β) : (Rs.ok a tb).bind f = f a tb := Eq.trans rfl rfl
@[simp] theorem Rs.bind_ex {α β : Type} (c : Nat) (fs : List (List Nat × D)) (tb : Tb) (f : α → Tb → Rs β) : (Rs.ex c fs tb : Rs α).bind f = .ex c fs tb := Eq.trans rfl rfl
@[simp] theorem Rs.bind_fail {α β : Type} (f : α → Tb → Rs β) : (Rs.fail : Rs α).bind f = .fail := Eq.trans rfl rfl
abbrev ME := Env → Tb → Rs D
abbrev MT := Env → Tb → Rs Bool
abbrev MA := Env → Tb → Rs (List D)
/-- where the classes stand, the exception at hand -/
structure Cc where
  cA : Nat → Addr
  cur : Option (Addr × Addr)

section
variable {α β γ δ : Type} {K : PySem.W.Frag} {c : Cc} {W : WX} {σ : L2.St} {w w' : Wd}
/-- what must hold of the answer -/
def Post (K : PySem.W.Frag) (c : Cc) (W : WX) (σ : L2.St) (w : Wd) (rel : Wd → α → β → Prop) (Q : β → Hp → Prop) : Rs α → Prop
  | .ok a tb => ∀ w' H' b, w.Le w' → Sim K c.cA w' tb H' → rel w' a b → Q b H'
  | .ex k fs tb => ∀ w' H' dx gs, w.Le w' → Sim K c.cA w' tb H' → H' dx = some (.xd gs) → RelFs K w' fs gs → W (.ref (c.cA k)) (some dx) σ H'
  | .fail => False
theorem Post.le {rel : Wd → α → β → Prop} {Q : β → Hp → Prop} {r : Rs α} (p : Post K c W σ w rel Q r) (l : w.Le w') : Post K c W σ w' rel Q r := by
  cases r with
  | ok a tb => exact fun w2 H' b l2 => p w2 H' b (l.trans l2)
  | ex k fs tb => exact fun w2 H' dx gs l2 => p w2 H' dx gs (l.trans l2)
  | fail => exact p
theorem Post.seq {rel : Wd → α → β → Prop} {rel2 : Wd → γ → δ → Prop} {Q : δ → Hp → Prop} {Q1 : β → Hp → Prop} {r : Rs α} {f : α → Tb → Rs γ} (p : Post K c W σ w rel2 Q (r.bind f))
    (h : ∀ a tb w1 H1 b, w.Le w1 → Sim K c.cA w1 tb H1 → rel w1 a b → Post K c W σ w1 rel2 Q (f a tb) → Q1 b H1) : Post K c W σ w rel Q1 r := by
  cases r with
  | ok a tb => exact fun w1 H1 b l s re => h a tb w1 H1 b l s re (Post.le (r := f a tb) p l)
  | ex k fs tb => exact p
  | fail => exact p
theorem Post.now {rel : Wd → α → β → Prop} {Q : β → Hp → Prop} {a : α} {tb : Tb} {H : Hp} {b : β} (p : Post K c W σ w rel Q (.ok a tb)) (s : Sim K c.cA w tb H) (re : rel w a b) : Q b H := p w H b (.refl w) s re
theorem Post.nowD {Q : VK} {d : D} {tb : Tb} {H : Hp} {v : V} (p : Post K c W σ w (RelD K) Q (.ok d tb)) (s : Sim K c.cA w tb H) (re : RelD K w d v) : Q v H := p w H v (.refl w) s re
theorem Post.nowP {Q : VK} {d : D} {tb : Tb} {H : Hp} {v : V} (p : Post K c W σ w (RelD K) Q (.ok d tb)) (s : Sim K c.cA w tb H) (re : RelD K w d v) : Q v H := p w H v (.refl w) s re
/-- a reading by a mirror -/
def tG (K : PySem.W.Frag) (c : Cc) (W : WX) (rel : Wd → α → β → Prop) (m : Env → Tb → Rs α) : L2.St → Hp → (β → Hp → Prop) → Prop := fun σ H Q =>
  ∃ w env tb, Sim K c.cA w tb H ∧ w.cur = c.cur ∧ RelE K w env σ ∧ Post K c W σ w rel Q (m env tb)
end
abbrev tD (K : PySem.W.Frag) (c : Cc) (W : WX) (m : ME) : TE := tG K c W (RelD K) m
abbrev tT (K : PySem.W.Frag) (c : Cc) (W : WX) (m : MT) : TT := tG K c W (fun _ (a b : Bool) => a = b) m
abbrev tA (K : PySem.W.Frag) (c : Cc) (W : WX) (m : MA) : TA := tG K c W (RelDs K) m
/-- the expression e does what the mirror m says -/
def DE (X : Cx) (c : Cc) (W : WX) (e : Expr) (m : ME) : Prop := PE X e (tD X.K c W m)
def DT (X : Cx) (c : Cc) (W : WX) (e : Expr) (m : MT) : Prop := PT X e (tT X.K c W m)
def DW (X : Cx) (c : Cc) (W : WX) (e : Expr) (m : MT) : Prop := PW X e (tT X.K c W m)
def DA (X : Cx) (c : Cc) (W : WX) (es : List Expr) (m : MA) : Prop := PA X es (tA X.K c W m)
theorem PE.imp {X : Cx} {e : Expr} {t t' : TE} (h : PE X e t) (k : ∀ σ H Q, t' σ H Q → t σ H Q) : PE X e t' := ⟨fun pins s σ H Q I q => h.run pins s σ H Q I (k σ H Q q)⟩
theorem PT.imp {X : Cx} {e : Expr} {t t' : TT} (h : PT X e t) (k : ∀ σ H Q, t' σ H Q → t σ H Q) : PT X e t' := ⟨fun pins s σ H Q I q => h.run pins s σ H Q I (k σ H Q q)⟩
theorem PW.imp {X : Cx} {e : Expr} {t t' : TT} (h : PW X e t) (k : ∀ σ H Q, t' σ H Q → t σ H Q) : PW X e t' := ⟨fun wh pins s σ H Q I q => h.run wh pins s σ H Q I (k σ H Q q)⟩
theorem PA.imp {X : Cx} {e : List Expr} {t t' : TA} (h : PA X e t) (k : ∀ σ H Q, t' σ H Q → t σ H Q) : PA X e t' := ⟨fun pos pins s σ H Q I q => h.run pos pins s σ H Q I (k σ H Q q)⟩

/-! ### the mirrors' combinators -/
def mVar (i : Nat) : ME := fun env tb => match env[i]? with
  | some (some d) => .ok d tb
  | _ => .fail
def mC (d : D) : ME := fun _ tb => .ok d tb
def mOp (f : D → D → Tb → Rs D) (a b : ME) : ME := fun env tb => (a env tb).bind fun x tb => (b env tb).bind fun y tb => f x y tb
def mUn (f : D → Tb → Rs D) (a : ME) : ME := fun env tb => (a env tb).bind fun x tb => f x tb
def mNil : MA := fun _ tb => .ok [] tb
def mCons (a : ME) (r : MA) : MA := fun env tb => (a env tb).bind fun x tb => (r env tb).bind fun xs tb => .ok (x :: xs) tb
def mFn (f : List D → Tb → Rs D) (a : MA) : ME := fun env tb => (a env tb).bind fun xs tb => f xs tb
def asB : D → Tb → Rs Bool
  | .bl b, tb => .ok b tb
  | _, _ => .fail
def mB (a : ME) : MT := fun env tb => (a env tb).bind asB
def mBl (a : MT) : ME := fun env tb => (a env tb).bind fun b tb => .ok (.bl b) tb
def mAnd (a b : MT) : MT := fun env tb => (a env tb).bind fun x tb => if x = true then b env tb else .ok false tb
def mOr (a b : MT) : MT := fun env tb => (a env tb).bind fun x tb => if x = true then .ok true tb else b env tb
def mNot (a : MT) : MT := fun env tb => (a env tb).bind fun x tb => .ok (!x) tb
def mAndV (a b : ME) : ME := fun env tb => (mB a env tb).bind fun x tb => if x = true then b env tb else .ok (.bl false) tb
def mOrV (a b : ME) : ME := fun env tb => (mB a env tb).bind fun x tb => if x = true then .ok (.bl true) tb else b env tb
def mNotV (a : ME) : ME := fun env tb => (mB a env tb).bind fun x tb => .ok (.bl (!x)) tb
def mIfE (t : MT) (a b : ME) : ME := fun env tb => (t env tb).bind fun x tb => if x = true then a env tb else b env tb
def mChain (f g : D → D → Tb → Rs D) (a b d : ME) : ME := fun env tb => (a env tb).bind fun x tb => (b env tb).bind fun y tb => (f x y tb).bind fun z tb => (asB z tb).bind fun k tb =>
  if k = true then (d env tb).bind fun u tb => g y u tb else .ok (.bl false) tb

section
variable {X : Cx} {c : Cc} {W : WX} {a b : Expr} {ma mb : ME} {pos : Pos}
/-- the step from a reading to its part -/
theorem d_var (i : Nat) {x : Str} (hN : X.N[i]? = some x := by rfl) (hv : Vis X.env.scope x := by first | exact Or.inl rfl | exact Or.inr (Or.inl rfl) | exact Or.inr (Or.inr rfl)) (hd : (x == ("__debug__" : Str)) = false := by decide)
    (hcd : (x == ("__classdict__" : Str)) = false := by decide) : DE X c W (.Name x pos) (mVar i) := PE.imp (pe_var hN hv hd hcd) fun σ H Q ⟨w, env, tb, s, hc, e, p⟩ => by
  unfold mVar at p
  split at p
  · rename_i d he
    obtain ⟨v, h1, h2⟩ := e.2 i d he
    exact ⟨v, h1, p.now s h2⟩
  · exact p.elim
theorem d_c {d : D} {v : V} {e : Expr} (h : PE X e (tC v)) (r : ∀ w, RelD X.K w d v) : DE X c W e (mC d) := PE.imp h fun σ H Q ⟨w, env, tb, s, hc, e, p⟩ => Post.now (a := d) p s (r w)
theorem d_int {i j} : DE X c W (.Constant (.int i) j pos) (mC (.int i)) := d_c pe_int fun _ => .int i
theorem d_bl {i j} : DE X c W (.Constant (.bool i) j pos) (mC (.bl i)) := d_c pe_bl fun _ => .bl i
theorem d_non {j} : DE X c W (.Constant .none j pos) (mC .non) := d_c pe_non fun _ => .non
theorem d_str {x : Str} {cs : List Nat} {j} (h : x = tx cs) : DE X c W (.Constant (.str x) j pos) (mC (.str cs)) := d_c pe_str fun _ => h ▸ .str cs
theorem d_glob {x : Str} {v : V} {u : Value} {d : D} (hg : Gl X x) (hm : X.mg x = some u) (r : RelV v u) (rd : ∀ w, RelD X.K w d v) (hd : (x == ("__debug__" : Str)) = false := by decide) : DE X c W (.Name x pos) (mC d) := d_c (pe_glob hg hm r hd) rd

/-- an operator by its rule -/
def OpOk (K : PySem.W.Frag) (c : Cc) (f : D → D → Tb → Rs D) (r : R2) : Prop := ∀ (W : WX) σ w tb H x y xv yv Q, Sim K c.cA w tb H → RelD K w x xv → RelD K w y yv → Post K c W σ w (RelD K) Q (f x y tb) → r xv yv H Q
def UnOk (K : PySem.W.Frag) (c : Cc) (f : D → Tb → Rs D) (r : V → Hp → VK → Prop) : Prop := ∀ (W : WX) σ w tb H x xv Q, Sim K c.cA w tb H → RelD K w x xv → Post K c W σ w (RelD K) Q (f x tb) → r xv H Q
def FnOkD (K : PySem.W.Frag) (c : Cc) (f : List D → Tb → Rs D) (r : List V → Hp → VK → Prop) : Prop := ∀ (W : WX) σ w tb H xs vs Q, Sim K c.cA w tb H → RelDs K w xs vs → Post K c W σ w (RelD K) Q (f xs tb) → r vs H Q
theorem tOp_of {K : PySem.W.Frag} {f : D → D → Tb → Rs D} {r : R2} (ok : OpOk K c f r) {σ : L2.St} {H : Hp} {Q : VK} (h : tD K c W (mOp f ma mb) σ H Q) : tOp r (tD K c W ma) (tD K c W mb) σ H Q := by
  obtain ⟨w, env, tb, s, hc, e, p⟩ := h
  exact ⟨w, env, tb, s, hc, e, p.seq fun x tb1 w1 H1 xv l1 s1 r1 p1 => ⟨w1, env, tb1, s1, l1.cur.trans hc, e.up l1, p1.seq fun y tb2 w2 H2 yv l2 s2 r2 p2 => ok W σ w2 tb2 H2 x y xv yv Q s2 (r1.up l2) r2 p2⟩⟩
theorem d_bin {op : Operator} {f : D → D → Tb → Rs D} {r : R2} (ho : OpR X (binaryOp op) r) (ok : OpOk X.K c f r) (ha : DE X c W a ma) (hb : DE X c W b mb) : DE X c W (.BinOp a op b pos) (mOp f ma mb) :=
  PE.imp (pe_op ho ha hb) fun σ H Q h => tOp_of ok h
theorem d_cmp {op : CmpOp} {f : D → D → Tb → Rs D} {r : R2} (ho : OpR X (compareOp op) r) (ok : OpOk X.K c f r) (ha : DE X c W a ma) (hb : DE X c W b mb) (hm : behindInMarks op b = false) : DE X c W (.Compare a [op] [b] pos) (mOp f ma mb) :=
  PE.imp (pe_cmpR ho ha hb hm) fun σ H Q h => tOp_of ok h
theorem mB_of {K : PySem.W.Frag} {t : TE} {m : ME} {σ : L2.St} {H : Hp} {Q : Bool → Hp → Prop} (k : ∀ Q, tD K c W m σ H Q → t σ H Q) (h : tT K c W (mB m) σ H Q) : t σ H fun x H1 => ∃ d, x = .bl d ∧ Q d H1 := by
  obtain ⟨w, env, tb, s, hc, e, p⟩ := h
  refine k _ ⟨w, env, tb, s, hc, e, p.seq fun x tb1 w1 H1 xv l1 s1 r1 p1 => ?_⟩
  cases r1 with
  | bl b => exact ⟨b, rfl, p1.now s1 rfl⟩
  | _ => exact p1.elim
theorem t_cmp {op : CmpOp} {f : D → D → Tb → Rs D} {r : R2} (ho : OpR X (compareOp op) r) (ok : OpOk X.K c f r) (ha : DE X c W a ma) (hb : DE X c W b mb) (hm : behindInMarks op b = false) : DT X c W (.Compare a [op] [b] pos) (mB (mOp f ma mb)) :=
  PT.imp (pt_cmpR ho ha hb hm) fun σ H Q h => mB_of (t := tOp r (tD X.K c W ma) (tD X.K c W mb)) (fun Q q => tOp_of ok q) h
/-- an expression whose value is a bool, as a test -/
theorem t_val {e : Expr} {m : ME} (h : DE X c W e m) (he : ∀ whole, isTrue e X.env whole = (do let v ← whole; standAt e.pos; holding [v] (truthy v)) := by intro _; rfl) : DT X c W e (mB m) :=
  PT.imp (pt_val h he) fun σ H Q q => mB_of (fun Q q => q) q
theorem t_not {m : MT} (h : DT X c W a m) : DT X c W (.UnaryOp .Not a pos) (mNot m) := PT.imp (pt_not h) fun σ H Q ⟨w, env, tb, s, hc, e, p⟩ =>
  ⟨w, env, tb, s, hc, e, p.seq fun x tb1 w1 H1 xv l1 s1 r1 p1 => p1.now s1 (by rw [r1])⟩
variable {rest : List Expr} {m m' : MT}
theorem w_and1 (h : DT X c W a m) : DW X c W (.BoolOp .And [a] pos) m := pw_and1 h
theorem w_or1 (h : DT X c W a m) : DW X c W (.BoolOp .Or [a] pos) m := pw_or1 h
theorem w_and (h : DT X c W a m) (h' : DW X c W (.BoolOp .And (b :: rest) pos) m') : DW X c W (.BoolOp .And (a :: b :: rest) pos) (mAnd m m') := PW.imp (pw_and h h') fun σ H Q ⟨w, env, tb, s, hc, e, p⟩ =>
  ⟨w, env, tb, s, hc, e, p.seq fun x tb1 w1 H1 xv l1 s1 r1 p1 => by
    subst r1
    cases x with
    | true => rw [if_pos rfl] at p1 ⊢; exact ⟨w1, env, tb1, s1, l1.cur.trans hc, e.up l1, p1⟩
    | false => rw [if_neg Bool.false_ne_true] at p1 ⊢; exact p1.now s1 rfl⟩
theorem w_or (h : DT X c W a m) (h' : DW X c W (.BoolOp .Or (b :: rest) pos) m') : DW X c W (.BoolOp .Or (a :: b :: rest) pos) (mOr m m') := PW.imp (pw_or h h') fun σ H Q ⟨w, env, tb, s, hc, e, p⟩ =>
  ⟨w, env, tb, s, hc, e, p.seq fun x tb1 w1 H1 xv l1 s1 r1 p1 => by
    subst r1
    cases x with
    | false => rw [if_neg Bool.false_ne_true] at p1 ⊢; exact ⟨w1, env, tb1, s1, l1.cur.trans hc, e.up l1, p1⟩
    | true => rw [if_pos rfl] at p1 ⊢; exact p1.now s1 rfl⟩
theorem t_w {e : Expr} (h : DW X c W e m) : DT X c W e m := PW.pt h
/-- and, or, not as values -/
theorem d_one {op} (h : DE X c W a ma) : DE X c W (.BoolOp op [a] pos) ma := pe_one h
theorem d_and (ha : DE X c W a ma) (hb : DE X c W (.BoolOp .And (b :: rest) pos) mb) : DE X c W (.BoolOp .And (a :: b :: rest) pos) (mAndV ma mb) := PE.imp (pe_and ha hb) fun σ H Q ⟨w, env, tb, s, hc, e, p⟩ => by
  unfold mAndV at p
  refine mB_of (c := c) (W := W) (m := ma) (Q := fun d H1 => if d = true then tD X.K c W mb σ H1 Q else Q (.bl false) H1) (fun Q q => q) ⟨w, env, tb, s, hc, e, p.seq fun x tb1 w1 H1 xv l1 s1 r1 p1 => ?_⟩
  subst r1
  cases x with
  | true => rw [if_pos rfl] at p1 ⊢; exact ⟨w1, env, tb1, s1, l1.cur.trans hc, e.up l1, p1⟩
  | false => rw [if_neg Bool.false_ne_true] at p1 ⊢; exact p1.now s1 (.bl false)
theorem d_or (ha : DE X c W a ma) (hb : DE X c W (.BoolOp .Or (b :: rest) pos) mb) : DE X c W (.BoolOp .Or (a :: b :: rest) pos) (mOrV ma mb) := PE.imp (pe_or ha hb) fun σ H Q ⟨w, env, tb, s, hc, e, p⟩ => by
  unfold mOrV at p
  refine mB_of (c := c) (W := W) (m := ma) (Q := fun d H1 => if d = true then Q (.bl true) H1 else tD X.K c W mb σ H1 Q) (fun Q q => q) ⟨w, env, tb, s, hc, e, p.seq fun x tb1 w1 H1 xv l1 s1 r1 p1 => ?_⟩
  subst r1
  cases x with
  | false => rw [if_neg Bool.false_ne_true] at p1 ⊢; exact ⟨w1, env, tb1, s1, l1.cur.trans hc, e.up l1, p1⟩
  | true => rw [if_pos rfl] at p1 ⊢; exact p1.now s1 (.bl true)
theorem d_not (ha : DE X c W a ma) : DE X c W (.UnaryOp .Not a pos) (mNotV ma) := PE.imp (pe_not ha) fun σ H Q ⟨w, env, tb, s, hc, e, p⟩ => by
  unfold mNotV at p
  refine mB_of (c := c) (W := W) (m := ma) (Q := fun d H1 => Q (.bl (!d)) H1) (fun Q q => q) ⟨w, env, tb, s, hc, e, p.seq fun x tb1 w1 H1 xv l1 s1 r1 p1 => ?_⟩
  subst r1
  exact p1.now s1 (.bl _)
theorem d_ifE {e : Expr} (ht : DT X c W e m) (ha : DE X c W a ma) (hb : DE X c W b mb) : DE X c W (.IfExp e a b pos) (mIfE m ma mb) := PE.imp (pe_ifExp ht ha hb) fun σ H Q ⟨w, env, tb, s, hc, e, p⟩ =>
  ⟨w, env, tb, s, hc, e, p.seq fun x tb1 w1 H1 xv l1 s1 r1 p1 => by
    subst r1
    cases x with
    | false => rw [if_neg Bool.false_ne_true] at p1 ⊢; exact ⟨w1, env, tb1, s1, l1.cur.trans hc, e.up l1, p1⟩
    | true => rw [if_pos rfl] at p1 ⊢; exact ⟨w1, env, tb1, s1, l1.cur.trans hc, e.up l1, p1⟩⟩
theorem d_un {op : UnaryOp} {f : D → Tb → Rs D} {r : V → Hp → VK → Prop} (ho : UnR X (unaryOp op) r) (ok : UnOk X.K c f r) (ha : DE X c W a ma) : DE X c W (.UnaryOp op a pos) (mUn f ma) :=
  PE.imp (pe_un ho ha) fun σ H Q ⟨w, env, tb, s, hc, e, p⟩ => ⟨w, env, tb, s, hc, e, p.seq fun x tb1 w1 H1 xv l1 s1 r1 p1 => ok W σ w1 tb1 H1 x xv Q s1 r1 p1⟩
/-- a < b < d -/
theorem chain_of {K : PySem.W.Frag} {f g : D → D → Tb → Rs D} {r r' : R2} {md : ME} (ok : OpOk K c f r) (ok' : OpOk K c g r') {σ : L2.St} {H : Hp} {Q : VK} (h : tD K c W (mChain f g ma mb md) σ H Q) :
    tChain r r' (tD K c W ma) (tD K c W mb) (tD K c W md) σ H Q := by
  obtain ⟨w, env, tb, s, hc, e, p⟩ := h
  exact ⟨w, env, tb, s, hc, e, p.seq fun x tb1 w1 H1 xv l1 s1 r1 p1 => ⟨w1, env, tb1, s1, l1.cur.trans hc, e.up l1, p1.seq fun y tb2 w2 H2 yv l2 s2 r2 p2 =>
      ok W σ w2 tb2 H2 x y xv yv _ s2 (r1.up l2) r2 (p2.seq fun z tb3 w3 H3 zv l3 s3 r3 p3 => by
        cases r3 with
        | bl k =>
          refine ⟨k, rfl, ?_⟩
          have p3' : Post K c W σ w3 (RelD K) Q (if k = true then (md env tb3).bind fun u tb => g y u tb else .ok (.bl false) tb3) := p3
          cases k with
          | true =>
            rw [if_pos rfl] at p3' ⊢
            exact ⟨w3, env, tb3, s3, ((l1.trans l2).trans l3).cur.trans hc, e.up ((l1.trans l2).trans l3), p3'.seq fun u tb4 w4 H4 uv l4 s4 r4 p4 => ok' W σ w4 tb4 H4 y u yv uv Q s4 (r2.up (l3.trans l4)) r4 p4⟩
          | false =>
            rw [if_neg Bool.false_ne_true] at p3' ⊢
            exact p3'.now s3 (.bl false)
        | _ => exact p3.elim)⟩⟩
theorem d_chain {op op' : CmpOp} {f g : D → D → Tb → Rs D} {r r' : R2} {d : Expr} {md : ME} (ho : OpR X (compareOp op) r) (ok : OpOk X.K c f r) (ho' : OpR X (compareOp op') r') (ok' : OpOk X.K c g r') (ha : DE X c W a ma) (hb : DE X c W b mb) (hd : DE X c W d md)
    (hm : lastMarks [op, op'] [b, d] = false := by rfl) : DE X c W (.Compare a [op, op'] [b, d] pos) (mChain f g ma mb md) :=
  PE.imp (pe_chain ho ho' ha hb hd hm) fun σ H Q h => chain_of ok ok' h
theorem t_chain {op op' : CmpOp} {f g : D → D → Tb → Rs D} {r r' : R2} {d : Expr} {md : ME} (ho : OpR X (compareOp op) r) (ok : OpOk X.K c f r) (ho' : OpR X (compareOp op') r') (ok' : OpOk X.K c g r') (ha : DE X c W a ma) (hb : DE X c W b mb) (hd : DE X c W d md)
    (hm : lastMarks [op, op'] [b, d] = false := by rfl) : DT X c W (.Compare a [op, op'] [b, d] pos) (mB (mChain f g ma mb md)) :=
  PT.imp (pt_chain ho ho' ha hb hd hm) fun σ H Q h => mB_of (t := tChain r r' (tD X.K c W ma) (tD X.K c W mb) (tD X.K c W md)) (fun Q q => chain_of ok ok' q) h
/-- arguments -/
theorem a_nil : DA X c W [] mNil := PA.imp pa_nil fun σ H Q ⟨w, env, tb, s, hc, e, p⟩ => Post.now (a := []) p s .nil
theorem a_cons {es : List Expr} {mr : MA} (ha : DE X c W a ma) (hr : DA X c W es mr) (hs : starEach (a :: es) X.env = (false, eval a X.env) :: starEach es X.env := by rfl) : DA X c W (a :: es) (mCons ma mr) :=
  PA.imp (pa_cons ha hr hs) fun σ H Q ⟨w, env, tb, s, hc, e, p⟩ => ⟨w, env, tb, s, hc, e, p.seq fun x tb1 w1 H1 xv l1 s1 r1 p1 =>
    ⟨w1, env, tb1, s1, l1.cur.trans hc, e.up l1, p1.seq fun xs tb2 w2 H2 vs l2 s2 r2 p2 => p2.now s2 (.cons (r1.up l2) r2)⟩⟩
theorem tCB_of {K : PySem.W.Frag} {f : List D → Tb → Rs D} {r : List V → Hp → VK → Prop} (ok : FnOkD K c f r) {mr : MA} {σ : L2.St} {H : Hp} {Q : VK} (h : tD K c W (mFn f mr) σ H Q) : tCB r (tA K c W mr) σ H Q := by
  obtain ⟨w, env, tb, s, hc, e, p⟩ := h
  exact ⟨w, env, tb, s, hc, e, p.seq fun x tb1 w1 H1 xv l1 s1 r1 p1 => ok W σ w1 tb1 H1 x xv Q s1 r1 p1⟩
/-- a built-in called by its name -/
theorem d_callB {x : Str} {p : Pos} {es : List Expr} {mr : MA} {id : String} {f : List D → Tb → Rs D} {r : List V → Hp → VK → Prop} (hf : CallR X (.builtin id) r) (ok : FnOkD X.K c f r) (hg : Gl X x) (hm : X.mg x = none) (hv : bootBuiltins x = some (.builtin id)) (ha : DA X c W (a :: es) mr)
    (hn : x ≠ "__name__" := by decide) (hdb : (x == ("__debug__" : Str)) = false := by decide) (he : starEach (a :: es) X.env = (false, eval a X.env) :: starEach es X.env := by rfl) (hpl : (backTo pos (starEach es X.env)).any (·.1) = false := by rfl) :
    DE X c W (.Call (.Name x p) (a :: es) [] pos) (mFn f mr) := PE.imp (pe_callB hf hg hm hv ha hn hdb he hpl) fun σ H Q h => tCB_of ok h
theorem d_callTy {x : Str} {p : Pos} {es : List Expr} {mr : MA} {T : String} {f : List D → Tb → Rs D} {r : List V → Hp → VK → Prop} (hf : CallR X (.type T) r) (ok : FnOkD X.K c f r) (hg : Gl X x) (hm : X.mg x = none) (hv : bootBuiltins x = some (.type T)) (ha : DA X c W (a :: es) mr)
    (hn : x ≠ "__name__" := by decide) (hdb : (x == ("__debug__" : Str)) = false := by decide) (he : starEach (a :: es) X.env = (false, eval a X.env) :: starEach es X.env := by rfl) (hpl : (backTo pos (starEach es X.env)).any (·.1) = false := by rfl) :
    DE X c W (.Call (.Name x p) (a :: es) [] pos) (mFn f mr) := PE.imp (pe_callTy hf hg hm hv ha hn hdb he hpl) fun σ H Q h => tCB_of ok h
end
end L2.G
set_option maxHeartbeats 4000000
/-! F3: operators, comparisons, built-in calls. -/
namespace L2.G
open PySem PySem.Spec PyProof.Rows

abbrev LIM : Nat := 16777216
theorem lim_eq : (sizeLine : Nat) = LIM := sizeLine_eq
theorem le_lim {n : Nat} (h : n ≤ LIM) : n ≤ sizeLine := by rw [lim_eq]; exact h
theorem lt_lim {n : Nat} (h : n < LIM) : n < sizeLine := by rw [lim_eq]; exact h

/-! ### what stands there -/
def lst? : D → Tb → Option (List D)
  | .lst xs, _ => some xs
  | .ref n, tb => match tb[n]? with
    | some (.lst xs) => some xs
    | _ => none
  | _, _ => none
def tup? : D → Option (List D)
  | .tup xs => some xs
  | _ => none
def dic? : D → Tb → Option (Bool × List (DK × D))
  | .dic t kvs, _ => some (t, kvs)
  | .ref n, tb => match tb[n]? with
    | some (.dic t kvs) => some (t, kvs)
    | some (.lck t kvs) => some (t, kvs)
    | _ => none
  | _, _ => none
@[simp] theorem lst?_lst (xs : List D) (tb : Tb) : lst? (.lst xs) tb = some xs := rfl
@[simp] theorem tup?_tup (xs : List D) : tup? (.tup xs) = some xs := rfl
@[simp] theorem dic?_dic (t : Bool) (xs : List (DK × D)) (tb : Tb) : dic? (.dic t xs) tb = some (t, xs) := rfl

section
variable {K : PySem.W.Frag} {cA : Nat → Addr} {w : Wd} {tb : Tb} {H : Hp}
theorem Sim.lstAt (s : Sim K cA w tb H) {d : D} {v : V} {xs : List D} (r : RelD K w d v) (h : lst? d tb = some xs) : ∃ a vs, v = .ref a ∧ H a = some (.lst vs) ∧ RelDs K w xs vs := by
  cases r with
  | @lst ys a vs e rs =>
    cases (show some ys = some xs from h)
    rcases s.fro a _ e with q | ⟨z, _⟩
    · exact ⟨a, vs, rfl, q, rs⟩
    · cases z
  | @ref n a e =>
    have h' : (match tb[n]? with | some (.lst xs) => some xs | _ => none) = some xs := h
    split at h'
    · rename_i ys g
      cases h'
      obtain ⟨vs, h1, h2⟩ := s.obs n a _ e g
      exact ⟨a, vs, rfl, h1, h2⟩
    · cases h'
  | _ => cases h
theorem Sim.tupAt (s : Sim K cA w tb H) {d : D} {v : V} {xs : List D} (r : RelD K w d v) (h : tup? d = some xs) : ∃ a vs, v = .ref a ∧ H a = some (.tup vs) ∧ RelDs K w xs vs := by
  cases r with
  | @tup ys a vs e rs =>
    cases (show some ys = some xs from h)
    rcases s.fro a _ e with q | ⟨z, _⟩
    · exact ⟨a, vs, rfl, q, rs⟩
    · cases z
  | _ => cases h
/-- a dict, read -/
def DicAt (K : PySem.W.Frag) (w : Wd) (H : Hp) (a : Addr) (kvs : List (DK × D)) : Bool → Prop
  | false => ∃ vs, Rd H a (.dK vs) ∧ RelKs K w kvs vs
  | true => ∃ vs, Rd H a (.dT vs) ∧ RelTs K w kvs vs
theorem Sim.dicAt (s : Sim K cA w tb H) {d : D} {v : V} {t : Bool} {kvs : List (DK × D)} (r : RelD K w d v) (h : dic? d tb = some (t, kvs)) : ∃ a, v = .ref a ∧ DicAt K w H a kvs t := by
  cases r with
  | @dic ys a vs e rs =>
    cases (show some (false, ys) = some (t, kvs) from h)
    exact ⟨a, rfl, vs, s.rd e (fun _ _ z => nomatch z), rs⟩
  | @dit ys a vs e rs =>
    cases (show some (true, ys) = some (t, kvs) from h)
    exact ⟨a, rfl, vs, s.rd e (fun _ _ z => nomatch z), rs⟩
  | @ref n a e =>
    have h' : (match tb[n]? with | some (.dic t xs) => some (t, xs) | some (.lck t xs) => some (t, xs) | _ => none) = some (t, kvs) := h
    split at h'
    · rename_i u ys g
      cases h'
      cases t with
      | false =>
        obtain ⟨vs, h1, h2⟩ := s.obs n a _ e g
        exact ⟨a, rfl, vs, .inl h1, h2⟩
      | true =>
        obtain ⟨vs, h1, h2⟩ := s.obs n a _ e g
        exact ⟨a, rfl, vs, .inl h1, h2⟩
    · rename_i u ys g
      cases h'
      cases t with
      | false =>
        obtain ⟨od, vs, h1, _, h2⟩ := s.obs n a _ e g
        exact ⟨a, rfl, vs, .inr ⟨od, h1⟩, h2⟩
      | true =>
        obtain ⟨od, vs, h1, _, h2⟩ := s.obs n a _ e g
        exact ⟨a, rfl, vs, .inr ⟨od, h1⟩, h2⟩
    · cases h'
  | _ => cases h
end

/-! ### a new list: frozen, or tracked -/
def newL (t : Bool) (xs : List D) (tb : Tb) : Rs D := if t = true then .ok (.ref tb.length) (tb ++ [.lst xs]) else .ok (.lst xs) tb
section
variable {K : PySem.W.Frag} {c : Cc} {W : WX} {σ : L2.St} {w : Wd} {tb : Tb} {H : Hp} {Q : VK} {t : Bool} {xs : List D} {vs : List V}
theorem newL_ok (s : Sim K c.cA w tb H) (r : RelDs K w xs vs) (p : Post K c W σ w (RelD K) Q (newL t xs tb)) {a : Addr} (ha : H a = none) : Q (.ref a) (upd H a (.lst vs)) := by
  unfold newL at p
  cases t with
  | true =>
    rw [if_pos rfl] at p
    have s2 := s.newT (ob := .lst xs) (o := .lst vs) ha ⟨vs, upd_same, r.up (w.le_push a)⟩
    refine p _ _ _ (w.le_push a) s2 (.ref ?_)
    rw [← s.len]; exact push_at
  | false =>
    rw [if_neg Bool.false_ne_true] at p
    obtain ⟨l, s2⟩ := s.newF (o := .lst vs) ha
    exact p _ _ _ l s2 (.lst upd_same (r.up l))
theorem newTup_ok (s : Sim K c.cA w tb H) (r : RelDs K w xs vs) (p : Post K c W σ w (RelD K) Q (.ok (.tup xs) tb)) {a : Addr} (ha : H a = none) : Q (.ref a) (upd H a (.tup vs)) := by
  obtain ⟨l, s2⟩ := s.newF (o := .tup vs) ha
  exact p _ _ _ l s2 (.tup upd_same (r.up l))
end

/-! ### numbers -/
def opI (C : Int → Int → Bool) (g : Int → Int → Int) : D → D → Tb → Rs D
  | .int i, .int j, tb => if C i j = true then .ok (.int (g i j)) tb else .fail
  | _, _, _ => .fail
theorem opI_ok {K : PySem.W.Frag} {c : Cc} {C : Int → Int → Bool} {C' : Int → Int → Prop} {g : Int → Int → Int} (h : ∀ i j, C i j = true → C' i j) : OpOk K c (opI C g) (rI C' fun i j => .int (g i j)) := by
  intro W σ w tb H x y xv yv Q s rx ry p
  cases rx with
  | int i =>
    cases ry with
    | int j =>
      have p' : Post K c W σ w (RelD K) Q (if C i j = true then .ok (.int (g i j)) tb else .fail) := p
      by_cases e : C i j = true
      · rw [if_pos e] at p'
        exact ⟨i, j, rfl, rfl, h i j e, p'.now s (.int _)⟩
      · rw [if_neg e] at p'; exact p'.elim
    | _ => exact p.elim
  | _ => exact p.elim
def opB (g : Int → Int → Bool) : D → D → Tb → Rs D
  | .int i, .int j, tb => .ok (.bl (g i j)) tb
  | _, _, _ => .fail
theorem opB_ok {K : PySem.W.Frag} {c : Cc} {g : Int → Int → Bool} : OpOk K c (opB g) (rI0 fun i j => .bl (g i j)) := by
  intro W σ w tb H x y xv yv Q s rx ry p
  cases rx with
  | int i =>
    cases ry with
    | int j => exact ⟨i, j, rfl, rfl, Post.nowD (d := .bl (g i j)) p s (.bl _)⟩
    | _ => exact p.elim
  | _ => exact p.elim
def yes2 (_ _ : Int) : Bool := true
def modD := opI (fun _ j => decide (0 < j)) (fun i j => i % j)
def fdivD := opI (fun _ j => decide (0 < j ∧ j < 1073741824)) (fun i j => i / j)
def powD := opI (fun i j => decide (0 ≤ j ∧ j ≤ 1000000 ∧ i.natAbs < 2 ^ 64)) (fun i j => i ^ j.toNat)
def ltD := opB fun i j => decide (i < j)
def leD := opB fun i j => decide (i ≤ j)
def gtD := opB fun i j => decide (j < i)
def geD := opB fun i j => decide (j ≤ i)
section
variable {X : Cx} {c : Cc} {W : WX} {a b : Expr} {ma mb : ME} {pos : Pos}
theorem ok_mod {K : PySem.W.Frag} : OpOk K c modD (rI (fun _ j => 0 < j) fun i j => .int (i % j)) := opI_ok fun _ j h => show 0 < j from of_decide_eq_true h
theorem ok_fdiv {K : PySem.W.Frag} : OpOk K c fdivD (rI CDiv fun i j => .int (i / j)) := opI_ok fun _ j h => show 0 < j ∧ j < 1073741824 from of_decide_eq_true h
theorem ok_pow {K : PySem.W.Frag} : OpOk K c powD (rI CPow fun i j => .int (i ^ j.toNat)) := opI_ok fun i j h => show 0 ≤ j ∧ j ≤ 1000000 ∧ i.natAbs < 2 ^ 64 from of_decide_eq_true h
theorem d_mod (ha : DE X c W a ma) (hb : DE X c W b mb) : DE X c W (.BinOp a .Mod b pos) (mOp modD ma mb) := d_bin op_mod ok_mod ha hb
theorem d_fdiv (ha : DE X c W a ma) (hb : DE X c W b mb) : DE X c W (.BinOp a .FloorDiv b pos) (mOp fdivD ma mb) := d_bin op_fdiv ok_fdiv ha hb
theorem d_pow (ha : DE X c W a ma) (hb : DE X c W b mb) : DE X c W (.BinOp a .Pow b pos) (mOp powD ma mb) := d_bin op_pow ok_pow ha hb
end

/-! ### +, -, * -/
theorem OpOk.or {K : PySem.W.Frag} {c : Cc} {f g : D → D → Tb → Rs D} {r r' : R2} (sel : D → D → Bool) (h : OpOk K c f r) (h' : OpOk K c g r') : OpOk K c (fun x y tb => if sel x y = true then f x y tb else g x y tb) (fun x y H Q => r x y H Q ∨ r' x y H Q) := by
  intro W σ w tb H x y xv yv Q s rx ry p
  have p' : Post K c W σ w (RelD K) Q (if sel x y = true then f x y tb else g x y tb) := p
  by_cases e : sel x y = true
  · rw [if_pos e] at p'; exact .inl (h W σ w tb H x y xv yv Q s rx ry p')
  · rw [if_neg e] at p'; exact .inr (h' W σ w tb H x y xv yv Q s rx ry p')
def addS : D → D → Tb → Rs D
  | .str a, .str b, tb => if a.length + b.length ≤ LIM then .ok (.str (a ++ b)) tb else .fail
  | _, _, _ => .fail
theorem ok_addS {K : PySem.W.Frag} {c : Cc} : OpOk K c addS (fun x y H Q => ∃ i j, x = .str i ∧ y = .str j ∧ i.length + j.length ≤ sizeLine ∧ Q (.str (i ++ j)) H) := by
  intro W σ w tb H x y xv yv Q s rx ry p
  cases rx with
  | str a =>
    cases ry with
    | str b =>
      have p' : Post K c W σ w (RelD K) Q (if a.length + b.length ≤ LIM then .ok (.str (a ++ b)) tb else .fail) := p
      by_cases e : a.length + b.length ≤ LIM
      · rw [if_pos e] at p'
        refine ⟨_, _, rfl, rfl, by rw [tx_len, tx_len]; exact le_lim e, ?_⟩
        rw [tx_app]; exact p'.now s (.str _)
      · rw [if_neg e] at p'; exact p'.elim
    | _ => exact p.elim
  | _ => exact p.elim
def addL (t : Bool) (x y : D) (tb : Tb) : Rs D := match lst? x tb, lst? y tb with
  | some xs, some ys => if xs.length + ys.length ≤ LIM then newL t (xs ++ ys) tb else .fail
  | _, _ => .fail
theorem ok_addL {K : PySem.W.Frag} {c : Cc} {t : Bool} : OpOk K c (addL t) rCat := by
  intro W σ w tb H x y xv yv Q s rx ry p
  unfold addL at p
  split at p
  · rename_i xs ys e1 e2
    by_cases e : xs.length + ys.length ≤ LIM
    · rw [if_pos e] at p
      obtain ⟨a, vs, rfl, h1, r1⟩ := s.lstAt rx e1
      obtain ⟨b, us, rfl, h2, r2⟩ := s.lstAt ry e2
      exact ⟨a, b, vs, us, rfl, rfl, h1, h2, by rw [← r1.length, ← r2.length]; exact le_lim e, fun q hq => newL_ok s (r1.append r2) p hq⟩
    · rw [if_neg e] at p; exact p.elim
  · exact p.elim
def addT (x y : D) (tb : Tb) : Rs D := match x, y with
  | .tup xs, .tup ys => if xs ≠ [] ∧ ys ≠ [] ∧ xs.length + ys.length ≤ LIM then .ok (.tup (xs ++ ys)) tb else .fail
  | _, _ => .fail
theorem ok_addT {K : PySem.W.Frag} {c : Cc} : OpOk K c addT (rCatT K) := by
  intro W σ w tb H x y xv yv Q s rx ry p
  cases x with
  | tup xs =>
    cases y with
    | tup ys =>
      obtain ⟨a, vs, rfl, h1, r1⟩ := s.tupAt rx rfl
      obtain ⟨b, us, rfl, h2, r2⟩ := s.tupAt ry rfl
      have p' : Post K c W σ w (RelD K) Q (if xs ≠ [] ∧ ys ≠ [] ∧ xs.length + ys.length ≤ LIM then .ok (.tup (xs ++ ys)) tb else .fail) := p
      by_cases e : xs ≠ [] ∧ ys ≠ [] ∧ xs.length + ys.length ≤ LIM
      · rw [if_pos e] at p'
        have n1 : vs ≠ [] := fun z => by subst z; cases r1; exact e.1 rfl
        have n2 : us ≠ [] := fun z => by subst z; cases r2; exact e.2.1 rfl
        exact ⟨a, b, vs, us, rfl, rfl, SqT.of h1, SqT.of h2, n1, by rw [← r1.length, ← r2.length]; exact le_lim e.2.2, fun z => absurd z n2, fun _ q hq => newTup_ok s (r1.append r2) p' hq⟩
      · rw [if_neg e] at p'; exact p'.elim
    | _ => exact p.elim
  | _ => exact p.elim
def isI : D → D → Bool
  | .int _, _ => true
  | _, _ => false
def isS : D → D → Bool
  | .str _, _ => true
  | _, _ => false
def isT : D → D → Bool
  | .tup _, _ => true
  | _, _ => false
def addD (t : Bool) : D → D → Tb → Rs D := fun x y tb => if isI x y = true then opI yes2 (fun i j => i + j) x y tb else if isS x y = true then addS x y tb else if isT x y = true then addT x y tb else addL t x y tb
def subD := opI yes2 fun i j => i - j
section
variable {X : Cx} {c : Cc} {W : WX} {a b : Expr} {ma mb : ME} {pos : Pos}
theorem rI0_of {C : Int → Int → Bool} {g : Int → Int → Int} {K : PySem.W.Frag} : OpOk K c (opI C g) (rI0 fun i j => .int (g i j)) := by
  intro W σ w tb H x y xv yv Q s rx ry p
  obtain ⟨i, j, e1, e2, _, q⟩ := opI_ok (C' := fun _ _ => True) (fun _ _ _ => trivial) W σ w tb H x y xv yv Q s rx ry p
  exact ⟨i, j, e1, e2, q⟩
theorem d_add (t : Bool) (ha : DE X c W a ma) (hb : DE X c W b mb) : DE X c W (.BinOp a .Add b pos) (mOp (addD t) ma mb) :=
  d_bin (op_add.or (op_add_str.or (op_catT.or op_cat))) (.or isI rI0_of (.or isS ok_addS (.or isT ok_addT ok_addL))) ha hb
theorem d_sub (ha : DE X c W a ma) (hb : DE X c W b mb) : DE X c W (.BinOp a .Sub b pos) (mOp subD ma mb) := d_bin op_sub rI0_of ha hb
end
/-- a text times a number -/
def repS (cs : List Nat) (n : Int) : List Nat := (List.replicate n.toNat cs).flatten
theorem foldl_cps (cs : List Nat) : ∀ (k : Nat) (acc : List Nat), (List.replicate k cs.toArray).foldl (· ++ ·) acc.toArray = (acc ++ (List.replicate k cs).flatten).toArray
  | 0, acc => by simp
  | k + 1, acc => by
    have e : acc.toArray ++ cs.toArray = (acc ++ cs).toArray := by simp
    have e2 : (acc ++ cs) ++ (List.replicate k cs).flatten = acc ++ (List.replicate (k + 1) cs).flatten := by
      rw [List.replicate_succ, List.flatten_cons, List.append_assoc]
    rw [← e2, ← foldl_cps cs k (acc ++ cs), ← e, List.replicate_succ, List.foldl_cons]
theorem mul_tx (cs : List Nat) (n : Int) : Txt.mul (tx cs) n = tx (repS cs n) := by
  unfold Txt.mul repS
  by_cases h1 : n < 1
  · rw [if_pos h1]
    have : n.toNat = 0 := by omega
    rw [this]; rfl
  · rw [if_neg h1]
    by_cases h2 : (n == 1 || (tx cs).length == 0) = true
    · rw [if_pos h2]
      rcases Bool.or_eq_true_iff.mp h2 with q | q
      · have : n = 1 := by simpa using q
        subst this
        simp
      · have : cs = [] := by simpa [tx_len] using q
        subst this
        simp
    · rw [if_neg h2]
      have := foldl_cps cs n.toNat []
      simp only [List.nil_append] at this
      show Str.mk _ = Str.mk _
      congr 1
theorem mulOk_tx {cs : List Nat} {n : Int} (h : -(2 ^ 63) ≤ n ∧ n < 2 ^ 63 ∧ cs.length * n.toNat ≤ LIM) : MulOk (tx cs) n := by
  obtain ⟨h1, h2, h3⟩ := h
  refine ⟨?_, fun q1 q2 q3 => ?_, fun q1 q2 => ?_⟩
  · rw [decide_eq_false (by omega), decide_eq_false (by omega)]; rfl
  · rw [tx_len] at q3
    have hn : 0 < n := by omega
    have e : ((cs.length : Int)) * n ≤ 16777216 := by
      have z : ((cs.length * n.toNat : Nat) : Int) ≤ 16777216 := Int.ofNat_le.mpr h3
      rw [Int.natCast_mul, Int.toNat_of_nonneg (by omega)] at z
      exact z
    have e2 : (2 ^ 63 - 1) / n * n + n > 2 ^ 63 - 1 := by
      have d1 := Int.emod_add_mul_ediv (2 ^ 63 - 1) n
      have d2 := Int.emod_lt_of_pos (2 ^ 63 - 1) hn
      rw [Int.mul_comm] at d1
      omega
    have e3 : (cs.length : Int) * n ≥ ((2 ^ 63 - 1) / n + 1) * n := Int.mul_le_mul_of_nonneg_right (by omega) (by omega)
    rw [Int.add_mul, Int.one_mul] at e3
    omega
  · rw [tx_len]
    exact decide_eq_false (fun q => absurd (le_lim h3) (Nat.not_le_of_gt q))
theorem op_repS {X : Cx} : OpR X (binaryOp .Mult) (fun x y H Q => ∃ z n, x = .str z ∧ y = .int n ∧ MulOk z n ∧ Q (.str (Txt.mul z n)) H) := by
  intro pins s σ H x y v u Q I rx ry h
  obtain ⟨z, n, rfl, rfl, ok, q⟩ := h
  obtain ⟨t, rfl⟩ := rx
  obtain ⟨t', rfl⟩ := ry
  exact PySem.SB.mul ok fun t2 k => ⟨.str _, H, I.tok k, ⟨t2, rfl⟩, q⟩
def mulS : D → D → Tb → Rs D
  | .str a, .int n, tb => if -(2 ^ 63) ≤ n ∧ n < 2 ^ 63 ∧ a.length * n.toNat ≤ LIM then .ok (.str (repS a n)) tb else .fail
  | _, _, _ => .fail
theorem ok_mulS {K : PySem.W.Frag} {c : Cc} : OpOk K c mulS (fun x y H Q => ∃ z n, x = .str z ∧ y = .int n ∧ MulOk z n ∧ Q (.str (Txt.mul z n)) H) := by
  intro W σ w tb H x y xv yv Q s rx ry p
  cases rx with
  | str a =>
    cases ry with
    | int n =>
      have p' : Post K c W σ w (RelD K) Q (if -(2 ^ 63) ≤ n ∧ n < 2 ^ 63 ∧ a.length * n.toNat ≤ LIM then .ok (.str (repS a n)) tb else .fail) := p
      by_cases e : -(2 ^ 63) ≤ n ∧ n < 2 ^ 63 ∧ a.length * n.toNat ≤ LIM
      · rw [if_pos e] at p'
        refine ⟨_, _, rfl, rfl, mulOk_tx e, ?_⟩
        rw [mul_tx]; exact p'.now s (.str _)
      · rw [if_neg e] at p'; exact p'.elim
    | _ => exact p.elim
  | _ => exact p.elim
def mulL (t : Bool) (x y : D) (tb : Tb) : Rs D := match lst? x tb, y with
  | some xs, .int n => if -(2 ^ 63) ≤ n ∧ n < 2 ^ 63 ∧ xs.length * n.toNat ≤ LIM then newL t (List.replicate n.toNat xs).flatten tb else .fail
  | _, _ => .fail
theorem ok_mulL {K : PySem.W.Frag} {c : Cc} {t : Bool} : OpOk K c (mulL t) rRep := by
  intro W σ w tb H x y xv yv Q s rx ry p
  unfold mulL at p
  split at p
  · rename_i xs n e1
    cases ry
    by_cases e : -(2 ^ 63) ≤ n ∧ n < 2 ^ 63 ∧ xs.length * n.toNat ≤ LIM
    · rw [if_pos e] at p
      obtain ⟨a, vs, rfl, h1, r1⟩ := s.lstAt rx e1
      exact ⟨a, n, vs, rfl, rfl, h1, e.1, e.2.1, by rw [← r1.length]; exact le_lim e.2.2, fun q hq => newL_ok s (r1.rep _) p hq⟩
    · rw [if_neg e] at p; exact p.elim
  · exact p.elim
def mulD (t : Bool) : D → D → Tb → Rs D := fun x y tb => if isI x y = true then opI (fun i j => decide ((-(2 ^ 64) < i ∧ i < 2 ^ 64) ∨ (-(2 ^ 64) < j ∧ j < 2 ^ 64))) (fun i j => i * j) x y tb else if isS x y = true then mulS x y tb else mulL t x y tb
theorem d_mul {X : Cx} {c : Cc} {W : WX} {a b : Expr} {ma mb : ME} {pos : Pos} (t : Bool) (ha : DE X c W a ma) (hb : DE X c W b mb) : DE X c W (.BinOp a .Mult b pos) (mOp (mulD t) ma mb) :=
  d_bin (op_mul.or (op_repS.or op_rep)) (.or isI (opI_ok fun i j h => show (-(2 ^ 64) < i ∧ i < 2 ^ 64) ∨ (-(2 ^ 64) < j ∧ j < 2 ^ 64) from of_decide_eq_true h) (.or isS ok_mulS ok_mulL)) ha hb
def negD : D → Tb → Rs D
  | .int i, tb => .ok (.int (-i)) tb
  | _, _ => .fail
theorem d_neg {X : Cx} {c : Cc} {W : WX} {a : Expr} {ma : ME} {pos : Pos} (ha : DE X c W a ma) : DE X c W (.UnaryOp .USub a pos) (mUn negD ma) := d_un un_neg (by
  intro W σ w tb H x xv Q s rx p
  cases rx with
  | int i => exact ⟨i, rfl, Post.nowD (d := .int (-i)) p s (.int _)⟩
  | _ => exact p.elim) ha

/-! ### ==, != -/
mutual
def toP0 : D → Option PyData
  | .non => some .none
  | .bl b => some (.bool b)
  | .int i => some (.int i)
  | .str cs => some (.str (tx cs))
  | .lst xs => (toP0s xs).map .list
  | .tup xs => (toP0s xs).map .tuple
  | .dic _ _ => none
  | .ref _ => none
  | .scr _ => none
def toP0s : List D → Option (List PyData)
  | [] => some []
  | x :: xs => match toP0 x, toP0s xs with
    | some p, some ps => some (p :: ps)
    | _, _ => none
end
def toP1 (d : D) (tb : Tb) : Option PyData := match d with
  | .ref n => match tb[n]? with
    | some (.lst xs) => (toP0s xs).map .list
    | _ => none
  | d => toP0 d
/-- .. of what holds tracked lists within -/
def toPn : Nat → Tb → D → Option PyData
  | 0, _, d => toP0 d
  | n + 1, tb, d => match d with
    | .ref m => match tb[m]? with
      | some (.lst xs) => (xs.mapM (toPn n tb)).map .list
      | _ => none
    | .lst xs => (xs.mapM (toPn n tb)).map .list
    | .tup xs => (xs.mapM (toPn n tb)).map .tuple
    | d => toP0 d
def toP (d : D) (tb : Tb) : Option PyData := match toP1 d tb with
  | some p => some p
  | none => toPn 3 tb d
section
variable {K : PySem.W.Frag} {cA : Nat → Addr} {w : Wd} {tb : Tb} {H : Hp}
mutual
theorem toP0_ok (s : Sim K cA w tb H) : ∀ (d : D) (v : V) (q : PyData), RelD K w d v → toP0 d = some q → Dp K H v q
  | .non, _, _, r, h => by cases r; cases h; exact .non
  | .bl b, _, _, r, h => by cases r; cases h; exact .bl b
  | .int i, _, _, r, h => by cases r; cases h; exact .int i
  | .str cs, _, _, r, h => by cases r; cases h; exact .str _
  | .lst xs, _, _, r, h => by
    simp only [toP0, Option.map_eq_some_iff] at h
    obtain ⟨ps, h1, rfl⟩ := h
    obtain ⟨a, vs, rfl, e, rs⟩ := s.lstAt (xs := xs) r rfl
    exact .lst (SqL.of e) (toP0s_ok s xs vs ps rs h1)
  | .tup xs, _, _, r, h => by
    simp only [toP0, Option.map_eq_some_iff] at h
    obtain ⟨ps, h1, rfl⟩ := h
    obtain ⟨a, vs, rfl, e, rs⟩ := s.tupAt (xs := xs) r rfl
    exact .tup (SqT.of e) (toP0s_ok s xs vs ps rs h1)
  | .dic _ _, _, _, _, h => by simp [toP0] at h
  | .ref _, _, _, _, h => by simp [toP0] at h
  | .scr _, _, _, _, h => by simp [toP0] at h
theorem toP0s_ok (s : Sim K cA w tb H) : ∀ (ds : List D) (vs : List V) (ps : List PyData), RelDs K w ds vs → toP0s ds = some ps → DpAll K H vs ps
  | [], _, _, r, h => by cases r; simp [toP0s] at h; subst h; exact .nil
  | d :: ds, _, ps, r, h => by
    cases r with
    | cons r1 r2 =>
      simp only [toP0s] at h
      split at h
      · rename_i q qs e1 e2
        cases h
        exact .cons (toP0_ok s d _ q r1 e1) (toP0s_ok s ds _ qs r2 e2)
      · cases h
end
theorem toP1_ok (s : Sim K cA w tb H) {d : D} {v : V} {q : PyData} (r : RelD K w d v) (h : toP1 d tb = some q) : Dp K H v q := by
  unfold toP1 at h
  split at h
  · rename_i n
    split at h
    · rename_i xs g
      simp only [Option.map_eq_some_iff] at h
      obtain ⟨ps, h1, rfl⟩ := h
      obtain ⟨a, vs, rfl, e, rs⟩ := s.lstAt (xs := xs) r (by simp [lst?, g])
      exact .lst (SqL.of e) (toP0s_ok s xs vs ps rs h1)
    · cases h
  · exact toP0_ok s d v q r h
theorem mapP_ok {f : D → Option PyData} (k : ∀ (d : D) (v : V) (q : PyData), RelD K w d v → f d = some q → Dp K H v q) : ∀ (ds : List D) (vs : List V) (ps : List PyData), RelDs K w ds vs → ds.mapM f = some ps → DpAll K H vs ps
  | [], _, _, r, h => by cases r; simp at h; subst h; exact .nil
  | d :: ds, _, ps, r, h => by
    cases r with
    | cons r1 r2 =>
      simp only [List.mapM_cons, Option.bind_eq_bind, Option.bind_eq_some_iff] at h
      obtain ⟨q, h1, qs, h2, h3⟩ := h
      cases h3
      exact .cons (k d _ q r1 h1) (mapP_ok k ds _ qs r2 h2)
theorem toPn_ok (s : Sim K cA w tb H) : ∀ (n : Nat) (d : D) (v : V) (q : PyData), RelD K w d v → toPn n tb d = some q → Dp K H v q
  | 0, d, v, q, r, h => toP0_ok s d v q r h
  | n + 1, d, v, q, r, h => by
    unfold toPn at h
    split at h
    · rename_i m
      split at h
      · rename_i xs g
        simp only [Option.map_eq_some_iff] at h
        obtain ⟨ps, h1, rfl⟩ := h
        obtain ⟨a, vs, rfl, e, rs⟩ := s.lstAt (xs := xs) r (by simp [lst?, g])
        exact .lst (SqL.of e) (mapP_ok (toPn_ok s n) xs vs ps rs h1)
      · cases h
    · rename_i xs
      simp only [Option.map_eq_some_iff] at h
      obtain ⟨ps, h1, rfl⟩ := h
      obtain ⟨a, vs, rfl, e, rs⟩ := s.lstAt (xs := xs) r rfl
      exact .lst (SqL.of e) (mapP_ok (toPn_ok s n) xs vs ps rs h1)
    · rename_i xs
      simp only [Option.map_eq_some_iff] at h
      obtain ⟨ps, h1, rfl⟩ := h
      obtain ⟨a, vs, rfl, e, rs⟩ := s.tupAt (xs := xs) r rfl
      exact .tup (SqT.of e) (mapP_ok (toPn_ok s n) xs vs ps rs h1)
    · exact toP0_ok s d v q r h
theorem toP_ok (s : Sim K cA w tb H) {d : D} {v : V} {q : PyData} (r : RelD K w d v) (h : toP d tb = some q) : Dp K H v q := by
  unfold toP at h
  split at h
  · rename_i p e
    cases h
    exact toP1_ok s r e
  · exact toPn_ok s 3 d v q r h
end
def eqP (neg : Bool) (x y : D) (tb : Tb) : Rs D := match toP x tb, toP y tb with
  | some p, some q => if SeqAt.shaped p = true ∧ SeqAt.shaped q = true then .ok (.bl (if neg = true then !PyData.eqv p q else PyData.eqv p q)) tb else .fail
  | _, _ => .fail
section
variable {X : Cx} {c : Cc} {W : WX} {a b : Expr} {ma mb : ME} {pos : Pos} {K : PySem.W.Frag}
theorem ok_eqP : OpOk K c (eqP false) (rEqD K) := by
  intro W σ w tb H x y xv yv Q s rx ry p
  unfold eqP at p
  split at p
  · rename_i q q' e1 e2
    by_cases e : SeqAt.shaped q = true ∧ SeqAt.shaped q' = true
    · rw [if_pos e] at p
      exact ⟨q, q', toP_ok s rx e1, toP_ok s ry e2, e.1, e.2, p.now s (.bl _)⟩
    · rw [if_neg e] at p; exact p.elim
  · exact p.elim
theorem ok_neP : OpOk K c (eqP true) (rNeD K) := by
  intro W σ w tb H x y xv yv Q s rx ry p
  unfold eqP at p
  split at p
  · rename_i q q' e1 e2
    by_cases e : SeqAt.shaped q = true ∧ SeqAt.shaped q' = true
    · rw [if_pos e] at p
      exact ⟨q, q', toP_ok s rx e1, toP_ok s ry e2, e.1, e.2, p.now s (.bl _)⟩
    · rw [if_neg e] at p; exact p.elim
  · exact p.elim
theorem d_eq (hu : X.A.units + 64 < cLine) (ha : DE X c W a ma) (hb : DE X c W b mb) : DE X c W (.Compare a [.Eq] [b] pos) (mOp (eqP false) ma mb) := d_cmp (op_eqD hu) ok_eqP ha hb (nomark _)
theorem d_ne (hu : X.A.units + 64 < cLine) (ha : DE X c W a ma) (hb : DE X c W b mb) : DE X c W (.Compare a [.NotEq] [b] pos) (mOp (eqP true) ma mb) := d_cmp (op_neD hu) ok_neP ha hb (nomark _)
theorem t_eq (hu : X.A.units + 64 < cLine) (ha : DE X c W a ma) (hb : DE X c W b mb) : DT X c W (.Compare a [.Eq] [b] pos) (mB (mOp (eqP false) ma mb)) := t_cmp (op_eqD hu) ok_eqP ha hb (nomark _)
theorem t_ne (hu : X.A.units + 64 < cLine) (ha : DE X c W a ma) (hb : DE X c W b mb) : DT X c W (.Compare a [.NotEq] [b] pos) (mB (mOp (eqP true) ma mb)) := t_cmp (op_neD hu) ok_neP ha hb (nomark _)

/-! ### order -/
theorem d_lt (ha : DE X c W a ma) (hb : DE X c W b mb) : DE X c W (.Compare a [.Lt] [b] pos) (mOp ltD ma mb) := d_cmp op_lt opB_ok ha hb (nomark _)
theorem d_le (ha : DE X c W a ma) (hb : DE X c W b mb) : DE X c W (.Compare a [.LtE] [b] pos) (mOp leD ma mb) := d_cmp op_le opB_ok ha hb (nomark _)
theorem d_gt (ha : DE X c W a ma) (hb : DE X c W b mb) : DE X c W (.Compare a [.Gt] [b] pos) (mOp gtD ma mb) := d_cmp op_gt opB_ok ha hb (nomark _)
theorem d_ge (ha : DE X c W a ma) (hb : DE X c W b mb) : DE X c W (.Compare a [.GtE] [b] pos) (mOp geD ma mb) := d_cmp op_ge opB_ok ha hb (nomark _)
theorem t_lt (ha : DE X c W a ma) (hb : DE X c W b mb) : DT X c W (.Compare a [.Lt] [b] pos) (mB (mOp ltD ma mb)) := t_cmp op_lt opB_ok ha hb (nomark _)
theorem t_le (ha : DE X c W a ma) (hb : DE X c W b mb) : DT X c W (.Compare a [.LtE] [b] pos) (mB (mOp leD ma mb)) := t_cmp op_le opB_ok ha hb (nomark _)
theorem t_gt (ha : DE X c W a ma) (hb : DE X c W b mb) : DT X c W (.Compare a [.Gt] [b] pos) (mB (mOp gtD ma mb)) := t_cmp op_gt opB_ok ha hb (nomark _)
theorem t_ge (ha : DE X c W a ma) (hb : DE X c W b mb) : DT X c W (.Compare a [.GtE] [b] pos) (mB (mOp geD ma mb)) := t_cmp op_ge opB_ok ha hb (nomark _)
end

/-! ### is None, is True -/
def isN : D → Bool
  | .non => true
  | _ => false
def isD (neg : Bool) : D → D → Tb → Rs D
  | x, .non, tb => .ok (.bl (if neg = true then !isN x else isN x)) tb
  | .bl a, .bl b, tb => .ok (.bl (if neg = true then !decide (a = b) else decide (a = b))) tb
  | _, _, _ => .fail
section
variable {X : Cx} {c : Cc} {W : WX} {a b : Expr} {ma mb : ME} {pos : Pos} {K : PySem.W.Frag}
theorem isN_ok {w : Wd} {d : D} {v : V} (r : RelD K w d v) : decide (v = .non) = isN d := by
  cases r <;> simp [isN]
theorem ok_is : OpOk K c (isD false) (fun x y H Q => (y = .non ∧ Q (.bl (decide (x = .non))) H) ∨ rIsB x y H Q) := by
  intro W σ w tb H x y xv yv Q s rx ry p
  cases ry with
  | non =>
    refine .inl ⟨rfl, ?_⟩
    rw [isN_ok rx]
    have p' : Post K c W σ w (RelD K) Q (.ok (.bl (isN x)) tb) := by cases x <;> exact p
    exact p'.now s (.bl _)
  | bl k =>
    cases rx with
    | bl j => exact .inr ⟨j, k, rfl, rfl, Post.nowD (d := .bl (decide (j = k))) p s (.bl _)⟩
    | _ => exact p.elim
  | _ => cases x <;> exact p.elim
theorem ok_isnot : OpOk K c (isD true) (fun x y H Q => (y = .non ∧ Q (.bl (!decide (x = .non))) H) ∨ rNotB x y H Q) := by
  intro W σ w tb H x y xv yv Q s rx ry p
  cases ry with
  | non =>
    refine .inl ⟨rfl, ?_⟩
    rw [isN_ok rx]
    have p' : Post K c W σ w (RelD K) Q (.ok (.bl (!isN x)) tb) := by cases x <;> exact p
    exact p'.now s (.bl _)
  | bl k =>
    cases rx with
    | bl j => exact .inr ⟨j, k, rfl, rfl, Post.nowD (d := .bl (!decide (j = k))) p s (.bl _)⟩
    | _ => exact p.elim
  | _ => cases x <;> exact p.elim
theorem d_is (ha : DE X c W a ma) (hb : DE X c W b mb) : DE X c W (.Compare a [.Is] [b] pos) (mOp (isD false) ma mb) := d_cmp (op_isN.or op_isBl) ok_is ha hb (nomark _)
theorem d_isnot (ha : DE X c W a ma) (hb : DE X c W b mb) : DE X c W (.Compare a [.IsNot] [b] pos) (mOp (isD true) ma mb) := d_cmp (op_notN.or op_notBl) ok_isnot ha hb (nomark _)
theorem t_is (ha : DE X c W a ma) (hb : DE X c W b mb) : DT X c W (.Compare a [.Is] [b] pos) (mB (mOp (isD false) ma mb)) := t_cmp (op_isN.or op_isBl) ok_is ha hb (nomark _)
theorem t_isnot (ha : DE X c W a ma) (hb : DE X c W b mb) : DT X c W (.Compare a [.IsNot] [b] pos) (mB (mOp (isD true) ma mb)) := t_cmp (op_notN.or op_notBl) ok_isnot ha hb (nomark _)
end
end L2.G
set_option maxHeartbeats 4000000
/-! F4: subscripts, slices, displays, membership, calls of built-ins, methods. -/
namespace L2.G
open PySem PySem.Spec PyProof.Rows

/-! ### d[k] of a dict among the subscripts -/
theorem ix_dict {X : Cx} (hu : X.A.units + 1 < cLine) : IxR X (fun x y H Q => ∃ a v, x = .ref a ∧ DGet H a y (some v) ∧ Q v H) := by
  intro value slice pins s σ H x y v u Q I rx ry ⟨a, z, ex, g, q⟩ hs
  subst ex
  obtain rfl : v = Value.ref a := rx
  have hT := dict_typeIs I g
  unfold subscriptTail
  refine wpAny_bind ?_
  rw [getitemInPython_of_ne hT.not_modules]
  refine wpAny_bind (wpAny_specialOf hT PySem.F.slot_dict_getitem.lookup ?_)
  have fin : wpAny (model X.prog X.w) X.A (subscripted slice false (.ref a) u) (fun r s₃ => wpAny (model X.prog X.w) X.A (letTemporaryGo value (.ref a) r >>= fun _ => pure r) (EP X pins σ Q) X.xe s₃) X.xe s := by
    rw [hs]
    exact wpAny_operating (wpAny_mono (d_getItem hu I g ry fun w' s3 I3 rw' => (⟨z, H, I3, rw', q⟩ : EP X pins σ Q w' s3)) (fun r s₃ h₃ => wpAny_bind (wpAny_letTemporaryGo (wpAny_pure h₃))) fun _ _ x => x)
  first
    | exact wpAny_pure (wpAny_bind fin)
    | exact wpAny_bind (wpAny_pure (wpAny_bind fin))
    | exact wpAny_bind fin

/-! ### keys -/
def dkOf : D → Option DK
  | .int i => some (.i i)
  | .str cs => some (.s cs)
  | .tup xs => (xs.mapM fun (x : D) => match x with
    | .int i => some (Sum.inl i)
    | .str cs => some (Sum.inr cs)
    | _ => none).map .t
  | _ => none
def dget (kvs : List (DK × D)) (k : DK) : Option D := (kvs.find? fun kv => decide (kv.1 = k)).map (·.2)
def dput (kvs : List (DK × D)) (k : DK) (v : D) : List (DK × D) := if kvs.any fun kv => decide (kv.1 = k) then kvs.map fun kv => if kv.1 = k then (kv.1, v) else kv else kvs ++ [(k, v)]
def ddrop (kvs : List (DK × D)) (k : DK) : List (DK × D) := kvs.filter fun kv => decide (kv.1 ≠ k)
section
variable {K : PySem.W.Frag} {w : Wd}
theorem relKs_get {ds : List (DK × D)} {vs : List (Key × V)} (r : RelKs K w ds vs) (k : Int ⊕ List Nat) {dk : DK} (hk : dk = match k with | .inl n => .i n | .inr cs => .s cs) :
    (∃ d v, dget ds dk = some d ∧ valV vs (keyOf k) = some v ∧ RelD K w d v) ∨ (dget ds dk = none ∧ valV vs (keyOf k) = none) := by
  induction ds generalizing vs with
  | nil => cases r; exact .inr ⟨rfl, rfl⟩
  | cons p ds ih =>
    cases r with
    | @int n d v _ vs a t =>
      by_cases e : DK.i n = dk
      · have e2 : (Sum.inl n : Key) = keyOf k := by cases k <;> simp_all [keyOf]
        exact .inl ⟨d, v, by simp [dget, e], valV_pos e2, a⟩
      · have e2 : ¬ (Sum.inl n : Key) = keyOf k := fun z => e (by cases k <;> simp_all [keyOf])
        have h1 : dget ((DK.i n, d) :: ds) dk = dget ds dk := by simp [dget, e]
        have h2 : valV ((Sum.inl n, v) :: vs) (keyOf k) = valV vs (keyOf k) := valV_neg e2
        rw [h1, h2]; exact ih t
    | @str n d v _ vs a t =>
      by_cases e : DK.s n = dk
      · have e2 : (Sum.inr (tx n) : Key) = keyOf k := by cases k <;> simp_all [keyOf]
        exact .inl ⟨d, v, by simp [dget, e], valV_pos e2, a⟩
      · have e2 : ¬ (Sum.inr (tx n) : Key) = keyOf k := fun z => e (by
          cases k with
          | inl m => cases z
          | inr m => rw [hk, tx_inj (Sum.inr.inj z)])
        have h1 : dget ((DK.s n, d) :: ds) dk = dget ds dk := by simp [dget, e]
        have h2 : valV ((Sum.inr (tx n), v) :: vs) (keyOf k) = valV vs (keyOf k) := valV_neg e2
        rw [h1, h2]; exact ih t
theorem map_keyOf_inj : ∀ {a b : List (Int ⊕ List Nat)}, a.map keyOf = b.map keyOf → a = b
  | [], [], _ => rfl
  | [], _ :: _, h => by simp at h
  | _ :: _, [], h => by simp at h
  | x :: a, y :: b, h => by
    rw [List.map_cons, List.map_cons] at h
    obtain ⟨h1, h2⟩ := List.cons.inj h
    rw [keyOf_inj h1, map_keyOf_inj h2]
theorem relTs_get {ds : List (DK × D)} {vs : List (List Key × V)} (r : RelTs K w ds vs) (k : List (Int ⊕ List Nat)) :
    (∃ d v, dget ds (.t k) = some d ∧ valV vs (k.map keyOf) = some v ∧ RelD K w d v) ∨ (dget ds (.t k) = none ∧ valV vs (k.map keyOf) = none) := by
  induction ds generalizing vs with
  | nil => cases r; exact .inr ⟨rfl, rfl⟩
  | cons p ds ih =>
    cases r with
    | @cons n d v _ vs a t =>
      by_cases e : n = k
      · subst e
        exact .inl ⟨d, v, by simp [dget], valV_pos rfl, a⟩
      · have h1 : dget ((DK.t n, d) :: ds) (.t k) = dget ds (.t k) := by simp [dget, e]
        have h2 : valV ((n.map keyOf, v) :: vs) (k.map keyOf) = valV vs (k.map keyOf) := valV_neg fun z => e (map_keyOf_inj z)
        rw [h1, h2]; exact ih t
theorem kV_keyOf (k : Int ⊕ List Nat) : kV (keyOf k) = match k with | .inl n => V.int n | .inr cs => V.str (tx cs) := by cases k <;> rfl
theorem tupKeys {xs : List D} {vs : List V} {ks : List (Int ⊕ List Nat)} (r : RelDs K w xs vs) (h : xs.mapM (fun (x : D) => match x with
    | .int i => some (Sum.inl i)
    | .str cs => some (Sum.inr cs)
    | _ => none) = some ks) : vs = (ks.map keyOf).map kV := by
  induction xs generalizing vs ks with
  | nil => cases r; simp at h; subst h; rfl
  | cons x xs ih =>
    cases r with
    | cons a t =>
      simp only [List.mapM_cons, Option.bind_eq_bind, Option.bind_eq_some_iff] at h
      obtain ⟨k, hk, ks', h2, h3⟩ := h
      cases h3
      rw [ih t h2]
      cases a with
      | int i => cases hk; rfl
      | str cs => cases hk; rfl
      | _ => cases hk
end
/-- a key fits the kind of the dict -/
def DK.fits : Bool → DK → Bool
  | false, .i _ => true
  | false, .s _ => true
  | true, .t _ => true
  | _, _ => false
/-- a key and a dict, looked up -/
theorem DicAt.get {K : PySem.W.Frag} {cA : Nat → Addr} {w : Wd} {tb : Tb} {H : Hp} {a : Addr} {t : Bool} {kvs : List (DK × D)} {k : D} {kv : V} {dk : DK} (s : Sim K cA w tb H) (d : DicAt K w H a kvs t) (rk : RelD K w k kv) (hk : dkOf k = some dk) (hf : dk.fits t = true) :
    (∃ x v, dget kvs dk = some x ∧ DGet H a kv (some v) ∧ RelD K w x v) ∨ (dget kvs dk = none ∧ DGet H a kv none) := by
  cases t with
  | false =>
    obtain ⟨vs, h1, h2⟩ := d
    cases rk with
    | int i =>
      cases hk
      rcases relKs_get h2 (.inl i) rfl with ⟨x, v, e1, e2, e3⟩ | ⟨e1, e2⟩
      · exact .inl ⟨x, v, e1, .inl ⟨vs, .inl i, h1, rfl, e2.symm⟩, e3⟩
      · exact .inr ⟨e1, .inl ⟨vs, .inl i, h1, rfl, e2.symm⟩⟩
    | str cs =>
      cases hk
      rcases relKs_get h2 (.inr cs) rfl with ⟨x, v, e1, e2, e3⟩ | ⟨e1, e2⟩
      · exact .inl ⟨x, v, e1, .inl ⟨vs, .inr (tx cs), h1, rfl, e2.symm⟩, e3⟩
      · exact .inr ⟨e1, .inl ⟨vs, .inr (tx cs), h1, rfl, e2.symm⟩⟩
    | tup e r =>
      simp only [dkOf, Option.map_eq_some_iff] at hk
      obtain ⟨ks, _, rfl⟩ := hk
      cases hf
    | _ => cases hk
  | true =>
    obtain ⟨vs, h1, h2⟩ := d
    cases rk with
    | int i => cases hk; cases hf
    | str cs => cases hk; cases hf
    | @tup xs b us e r =>
      simp only [dkOf, Option.map_eq_some_iff] at hk
      obtain ⟨ks, hks, rfl⟩ := hk
      have eu := tupKeys r hks
      obtain ⟨b', us', eb, hb, r'⟩ := s.tupAt (xs := xs) (.tup e r) rfl
      cases eb
      rw [tupKeys r' hks] at hb
      rcases relTs_get h2 ks with ⟨x, v, e1, e2, e3⟩ | ⟨e1, e2⟩
      · exact .inl ⟨x, v, e1, .inr ⟨vs, _, b, h1, rfl, hb, e2.symm⟩, e3⟩
      · exact .inr ⟨e1, .inr ⟨vs, _, b, h1, rfl, hb, e2.symm⟩⟩
    | _ => cases hk

/-! ### x[i] -/
def cutL {α : Type} (xs : List α) (lo hi : Option Int) : List α := (xs.drop (HT.sIx xs.length 0 lo)).take (HT.sIx xs.length xs.length hi - HT.sIx xs.length 0 lo)
def optD {α : Type} (o : Option α) (f : α → D) (tb : Tb) : Rs D := match o with
  | some x => .ok (f x) tb
  | none => .fail
def ixL (x y : D) (tb : Tb) : Rs D := match lst? x tb, y with
  | some xs, .int i => optD (atI xs i) id tb
  | _, _ => match x, y with
    | .scr ns, .int i => optD (atI ns i) D.int tb
    | _, _ => .fail
def ixT (x y : D) (tb : Tb) : Rs D := match x, y with
  | .tup xs, .int i => optD (atI xs i) id tb
  | _, _ => .fail
def ixS (x y : D) (tb : Tb) : Rs D := match x, y with
  | .str cs, .int i => if cs.length ≤ LIM then optD (atI cs i) (fun c => .str [c]) tb else .fail
  | _, _ => .fail
def ixM (x y : D) (tb : Tb) : Rs D := match dic? x tb, dkOf y with
  | some (t, kvs), some k => if k.fits t = true then optD (dget kvs k) id tb else .fail
  | _, _ => .fail
def isDc : D → Tb → Bool
  | x, tb => (dic? x tb).isSome
def ixD (x y : D) (tb : Tb) : Rs D := if isDc x tb = true then ixM x y tb else if isT x y = true then ixT x y tb else if isS x y = true then ixS x y tb else ixL x y tb
theorem atI_relDs {K : PySem.W.Frag} {w : Wd} {ds : List D} {vs : List V} {i : Int} {d : D} (r : RelDs K w ds vs) (h : atI ds i = some d) : ∃ v, atI vs i = some v ∧ RelD K w d v := by
  unfold atI at h ⊢
  rw [← r.length]
  cases e : ixN ds.length i with
  | none => rw [e] at h; cases h
  | some j => rw [e] at h; exact r.get h
section
variable {X : Cx} {c : Cc} {W : WX} {a b : Expr} {ma mb : ME} {pos : Pos} {K : PySem.W.Frag}
theorem ok_ixL : OpOk K c ixL (rIxL K) := by
  intro W σ w tb H x y xv yv Q s rx ry p
  unfold ixL at p
  split at p
  · rename_i xs i e
    cases ry
    unfold optD at p
    split at p
    · rename_i d ed
      obtain ⟨a, vs, rfl, h, r⟩ := s.lstAt rx e
      obtain ⟨v, ev, rv⟩ := atI_relDs r ed
      exact ⟨a, vs, i, v, rfl, rfl, SqL.of h, ev, p.nowD s rv⟩
    · exact p.elim
  · split at p
    · rename_i ns i _
      cases ry
      unfold optD at p
      split at p
      · rename_i d ed
        cases rx with
        | @scr _ a e =>
          refine ⟨a, _, i, .int d, rfl, rfl, s.sqL e, ?_, p.nowD s (.int d)⟩
          unfold atI at ed ⊢
          rw [List.length_map]
          cases e2 : ixN ns.length i with
          | none => rw [e2] at ed; cases ed
          | some j =>
            rw [e2] at ed
            show (ns.map V.int)[j]? = _
            have ed' : ns[j]? = some d := ed
            rw [List.getElem?_map, ed']; rfl
      · exact p.elim
    · exact p.elim
theorem ok_ixT : OpOk K c ixT (rIxT K) := by
  intro W σ w tb H x y xv yv Q s rx ry p
  unfold ixT at p
  split at p
  · rename_i xs i
    cases ry
    unfold optD at p
    split at p
    · rename_i d ed
      obtain ⟨a, vs, rfl, h, r⟩ := s.tupAt rx rfl
      obtain ⟨v, ev, rv⟩ := atI_relDs r ed
      exact ⟨a, vs, i, v, rfl, rfl, SqT.of h, ev, p.nowD s rv⟩
    · exact p.elim
  · exact p.elim
theorem ok_ixS : OpOk K c ixS rIxS := by
  intro W σ w tb H x y xv yv Q s rx ry p
  unfold ixS at p
  split at p
  · rename_i cs i
    cases ry
    cases rx
    by_cases e : cs.length ≤ LIM
    · rw [if_pos e] at p
      unfold optD at p
      split at p
      · rename_i d ed
        exact ⟨tx cs, i, d, rfl, rfl, by rw [tx_len]; exact le_lim e, by rw [tx_cps]; exact ed, Post.nowD (d := .str [d]) p s (.str [d])⟩
      · exact p.elim
    · rw [if_neg e] at p; exact p.elim
  · exact p.elim
theorem ok_ixM : OpOk K c ixM (fun x y H Q => ∃ a v, x = .ref a ∧ DGet H a y (some v) ∧ Q v H) := by
  intro W σ w tb H x y xv yv Q s rx ry p
  unfold ixM at p
  split at p
  · rename_i t kvs k e1 e2
    by_cases e : k.fits t = true
    · rw [if_pos e] at p
      unfold optD at p
      split at p
      · rename_i d ed
        obtain ⟨a, rfl, h⟩ := s.dicAt rx e1
        rcases h.get s ry e2 e with ⟨x, v, g1, g2, g3⟩ | ⟨g1, g2⟩
        · rw [ed] at g1; cases g1
          exact ⟨a, v, rfl, g2, p.nowD s g3⟩
        · rw [ed] at g1; cases g1
      · exact p.elim
    · rw [if_neg e] at p; exact p.elim
  · exact p.elim
theorem OpOk.orTb {f g : D → D → Tb → Rs D} {r r' : R2} (sel : D → D → Tb → Bool) (h : OpOk K c f r) (h' : OpOk K c g r') : OpOk K c (fun x y tb => if sel x y tb = true then f x y tb else g x y tb) (fun x y H Q => r x y H Q ∨ r' x y H Q) := by
  intro W σ w tb H x y xv yv Q s rx ry p
  have p' : Post K c W σ w (RelD K) Q (if sel x y tb = true then f x y tb else g x y tb) := p
  by_cases e : sel x y tb = true
  · rw [if_pos e] at p'; exact .inl (h W σ w tb H x y xv yv Q s rx ry p')
  · rw [if_neg e] at p'; exact .inr (h' W σ w tb H x y xv yv Q s rx ry p')
theorem d_ix (hu : X.A.units + 1 < cLine) (ha : DE X c W a ma) (hb : DE X c W b mb) (hs : PlainIx b) : DE X c W (.Subscript a b pos) (mOp ixD ma mb) :=
  PE.imp (pe_ix ((ix_dict hu).or (ix_tup.or (ix_str.or ix_list))) ha hb hs) fun σ H Q h => tOp_of (OpOk.orTb (fun x _ tb => isDc x tb) ok_ixM (.or isT ok_ixT (.or isS ok_ixS ok_ixL))) h

/-! ### x[lo:hi] -/
def mPart (o : Option ME) : Env → Tb → Rs (Option Int) := fun env tb => match o with
  | none => .ok none tb
  | some m => (m env tb).bind fun x tb => match x with
    | .int i => .ok (some i) tb
    | _ => .fail
def DO (X : Cx) (c : Cc) (W : WX) (e : Option Expr) (m : Option ME) : Prop := PO X e (tG X.K c W (fun _ (a b : Option Int) => a = b) (mPart m))
theorem o_none : DO X c W none none := ⟨fun pins s σ H Q I h => po_none.run pins s σ H Q I (by
  obtain ⟨w, env, tb, s, hc, e, p⟩ := h
  exact Post.now (a := none) p s rfl)⟩
theorem o_some {e : Expr} {m : ME} (h : DE X c W e m) : DO X c W (some e) (some m) := ⟨fun pins s σ H Q I q => (po_some h).run pins s σ H Q I (by
  obtain ⟨w, env, tb, s, hc, e, p⟩ := q
  refine ⟨w, env, tb, s, hc, e, Post.seq (r := m env tb) p fun x tb1 w1 H1 xv l1 s1 r1 p1 => ?_⟩
  cases r1 with
  | int i => exact ⟨i, rfl, Post.now (a := some i) p1 s1 rfl⟩
  | _ => exact p1.elim)⟩
def slD (t : Bool) (x : D) (lo hi : Option Int) (tb : Tb) : Rs D := match lst? x tb with
  | some xs => newL t (cutL xs lo hi) tb
  | none => match x with
    | .tup xs => if HT.sIx xs.length 0 lo = 0 ∧ HT.sIx xs.length xs.length hi = xs.length then .fail else .ok (.tup (cutL xs lo hi)) tb
    | .str cs => if cs.length ≤ LIM then .ok (.str (cutL cs lo hi)) tb else .fail
    | .scr ns => newL t ((cutL ns lo hi).map D.int) tb
    | _ => .fail
def mSl (t : Bool) (a : ME) (lo hi : Option ME) : ME := fun env tb => (a env tb).bind fun x tb => (mPart lo env tb).bind fun l tb => (mPart hi env tb).bind fun u tb => slD t x l u tb
theorem cutL_map {α β : Type} (f : α → β) (xs : List α) (lo hi : Option Int) : (cutL xs lo hi).map f = cutL (xs.map f) lo hi := by
  unfold cutL; rw [List.map_take, List.map_drop, List.length_map]
theorem cut_rel {w : Wd} {ds : List D} {vs : List V} {lo hi : Option Int} (r : RelDs K w ds vs) : RelDs K w (cutL ds lo hi) (cutV vs lo hi) := by
  unfold cutL cutV; rw [r.length]; exact (r.drop _).take _
theorem d_sl {lo hi : Option Expr} {ml mh : Option ME} {p2 : Pos} (t : Bool) (ha : DE X c W a ma) (hl : DO X c W lo ml) (hh : DO X c W hi mh) : DE X c W (.Subscript a (.Slice lo hi none p2) pos) (mSl t ma ml mh) :=
  PE.imp (pe_slice (sl_list.or (sl_tup.or sl_str)) ha hl hh) fun σ H Q ⟨w, env, tb, s, hc, e, p⟩ =>
    ⟨w, env, tb, s, hc, e, p.seq fun x tb1 w1 H1 xv l1 s1 r1 p1 => ⟨w1, env, tb1, s1, l1.cur.trans hc, e.up l1, p1.seq fun l tb2 w2 H2 lv l2 s2 r2 p2 =>
      ⟨w2, env, tb2, s2, (l1.trans l2).cur.trans hc, e.up (l1.trans l2), p2.seq fun u tb3 w3 H3 uv l3 s3 r3 p3 => by
        subst r2 r3
        have rx := r1.up (l2.trans l3)
        unfold slD at p3
        split at p3
        · rename_i xs e1
          obtain ⟨a, vs, rfl, h, r⟩ := s3.lstAt rx e1
          exact .inl ⟨a, vs, rfl, SqL.of h, fun q hq => newL_ok s3 (cut_rel r) p3 hq⟩
        · split at p3
          · rename_i xs _
            obtain ⟨a, vs, rfl, h, r⟩ := s3.tupAt rx rfl
            by_cases e : HT.sIx xs.length 0 l = 0 ∧ HT.sIx xs.length xs.length u = xs.length
            · rw [if_pos e] at p3; exact p3.elim
            · rw [if_neg e] at p3
              rw [r.length] at e
              exact .inr (.inl ⟨a, vs, rfl, SqT.of h, e, fun q hq => newTup_ok s3 (cut_rel r) p3 hq⟩)
          · rename_i cs _
            cases rx
            by_cases e : cs.length ≤ LIM
            · rw [if_pos e] at p3
              refine .inr (.inr ⟨tx cs, rfl, by rw [tx_len]; exact le_lim e, ?_⟩)
              have ec : cutS (tx cs) l u = tx (cutL cs l u) := by
                unfold cutS cutL; rw [tx_cps, tx_len]; rfl
              rw [ec]; exact p3.nowD s3 (.str _)
            · rw [if_neg e] at p3; exact p3.elim
          · rename_i ns _
            cases rx with
            | @scr _ a e => exact .inl ⟨a, _, rfl, s3.sqL e, fun q hq => newL_ok s3 (by show RelDs X.K w3 _ (cutL (ns.map V.int) l u); rw [← cutL_map]; exact .ofInts _) p3 hq⟩
          · exact p3.elim⟩⟩⟩

/-! ### displays -/
def mTup (a : MA) : ME := fun env tb => (a env tb).bind fun xs tb => if xs.length ≤ LIM then .ok (.tup xs) tb else .fail
def mLst (t : Bool) (a : MA) : ME := fun env tb => (a env tb).bind fun xs tb => if xs.length ≤ LIM then newL t xs tb else .fail
theorem d_tup {es : List Expr} {mr : MA} {k} (h : DA X c W es mr) : DE X c W (.Tuple es k pos) (mTup mr) := PE.imp (pe_tup h) fun σ H Q ⟨w, env, tb, s, hc, e, p⟩ =>
  ⟨w, env, tb, s, hc, e, p.seq fun xs tb1 w1 H1 vs l1 s1 r1 p1 => by
    by_cases e : xs.length ≤ LIM
    · rw [if_pos e] at p1
      exact ⟨by rw [← r1.length]; exact le_lim e, fun q hq => newTup_ok s1 r1 p1 hq⟩
    · rw [if_neg e] at p1; exact p1.elim⟩
theorem d_lst {es : List Expr} {mr : MA} (t : Bool) (h : DA X c W es mr) : DE X c W (.List es pos) (mLst t mr) := PE.imp (pe_lst h) fun σ H Q ⟨w, env, tb, s, hc, e, p⟩ =>
  ⟨w, env, tb, s, hc, e, p.seq fun xs tb1 w1 H1 vs l1 s1 r1 p1 => by
    by_cases e : xs.length ≤ LIM
    · rw [if_pos e] at p1
      exact ⟨by rw [← r1.length]; exact le_lim e, fun q hq => newL_ok s1 r1 p1 hq⟩
    · rw [if_neg e] at p1; exact p1.elim⟩
/-- a new dict: its kind, frozen or tracked -/
def newD (t k : Bool) (kvs : List (DK × D)) (tb : Tb) : Rs D := if t = true then .ok (.ref tb.length) (tb ++ [.dic k kvs]) else .ok (.dic k kvs) tb
theorem newDK_ok {σ : L2.St} {w : Wd} {tb : Tb} {H : Hp} {Q : VK} {t : Bool} {kvs : List (DK × D)} {vs : List (Key × V)} (s : Sim K c.cA w tb H) (r : RelKs K w kvs vs) (p : Post K c W σ w (RelD K) Q (newD t false kvs tb)) {a : Addr} (ha : H a = none) : Q (.ref a) (upd H a (.dK vs)) := by
  unfold newD at p
  cases t with
  | true =>
    rw [if_pos rfl] at p
    have s2 := s.newT (ob := .dic false kvs) (o := .dK vs) ha ⟨vs, upd_same, RelKs.mono (w.le_push a).r _ _ r⟩
    refine p _ _ _ (w.le_push a) s2 (.ref ?_)
    rw [← s.len]; exact push_at
  | false =>
    rw [if_neg Bool.false_ne_true] at p
    obtain ⟨l, s2⟩ := s.newF (o := .dK vs) ha
    exact p _ _ _ l s2 (.dic (.inl upd_same) (RelKs.mono l.r _ _ r))
theorem newDT_ok {σ : L2.St} {w : Wd} {tb : Tb} {H : Hp} {Q : VK} {t : Bool} {kvs : List (DK × D)} {vs : List (List Key × V)} (s : Sim K c.cA w tb H) (r : RelTs K w kvs vs) (p : Post K c W σ w (RelD K) Q (newD t true kvs tb)) {a : Addr} (ha : H a = none) : Q (.ref a) (upd H a (.dT vs)) := by
  unfold newD at p
  cases t with
  | true =>
    rw [if_pos rfl] at p
    have s2 := s.newT (ob := .dic true kvs) (o := .dT vs) ha ⟨vs, upd_same, RelTs.mono (w.le_push a).r _ _ r⟩
    refine p _ _ _ (w.le_push a) s2 (.ref ?_)
    rw [← s.len]; exact push_at
  | false =>
    rw [if_neg Bool.false_ne_true] at p
    obtain ⟨l, s2⟩ := s.newF (o := .dT vs) ha
    exact p _ _ _ l s2 (.dit (.inl upd_same) (RelTs.mono l.r _ _ r))
def mDic0 (t k : Bool) : ME := fun _ tb => newD t k [] tb
theorem d_dic0K (t : Bool) : DE X c W (.Dict [] [] pos) (mDic0 t false) := PE.imp pe_dnewK fun σ H Q ⟨w, env, tb, s, hc, e, p⟩ a ha => newDK_ok s .nil p ha
theorem d_dic0T (t : Bool) : DE X c W (.Dict [] [] pos) (mDic0 t true) := PE.imp pe_dnewT fun σ H Q ⟨w, env, tb, s, hc, e, p⟩ a ha => newDT_ok s .nil p ha
end
end L2.G
set_option maxHeartbeats 4000000
/-! F5: len, isinstance, in, calls of built-ins, methods. -/
namespace L2.G
open PySem PySem.Spec PyProof.Rows

section
variable {X : Cx} {c : Cc} {W : WX} {a b : Expr} {ma mb : ME} {pos : Pos} {K : PySem.W.Frag}
theorem FnOkD.orTb {f g : List D → Tb → Rs D} {r r' : List V → Hp → VK → Prop} (sel : List D → Tb → Bool) (h : FnOkD K c f r) (h' : FnOkD K c g r') : FnOkD K c (fun xs tb => if sel xs tb = true then f xs tb else g xs tb) (fun xs H Q => r xs H Q ∨ r' xs H Q) := by
  intro W σ w tb H xs vs Q s rx p
  have p' : Post K c W σ w (RelD K) Q (if sel xs tb = true then f xs tb else g xs tb) := p
  by_cases e : sel xs tb = true
  · rw [if_pos e] at p'; exact .inl (h W σ w tb H xs vs Q s rx p')
  · rw [if_neg e] at p'; exact .inr (h' W σ w tb H xs vs Q s rx p')
theorem rel1 {w : Wd} {x : D} {vs : List V} (r : RelDs K w [x] vs) : ∃ v, vs = [v] ∧ RelD K w x v := by
  cases r with | cons a t => cases t; exact ⟨_, rfl, a⟩
theorem rel2 {w : Wd} {x y : D} {vs : List V} (r : RelDs K w [x, y] vs) : ∃ v u, vs = [v, u] ∧ RelD K w x v ∧ RelD K w y u := by
  cases r with | cons a t => cases t with | cons b t => cases t; exact ⟨_, _, rfl, a, b⟩

/-! ### len -/
theorem call_lenDT : CallR X (.builtin "len") (fun xs H Q => ∃ (p : Addr) (kvs : List (List Key × V)), xs = [.ref p] ∧ Rd H p (.dT kvs) ∧ Q (.int ((kvs.length : Nat) : Int)) H) := by
  intro pins s σ H xs us Q I r h
  obtain ⟨p, kvs, rfl, hp, q⟩ := h
  obtain ⟨u, rfl, rx⟩ := vals1 r
  obtain rfl : u = .ref p := rx
  obtain ⟨z, hd, ys, rel, dd⟩ := dt_rd I.hok hp
  have hl : kvs.length = ys.length := Paired.length rel
  refine PySem.call_len_dictH hd dd (by rw [← hl]; rw [sizeLine_eq] at z; omega) ?_
  rw [← hl]
  exact ⟨.int ((kvs.length : Nat) : Int), H, I.tok _, ⟨_, rfl⟩, q⟩
theorem call_lenDK : CallR X (.builtin "len") (fun xs H Q => ∃ a kvs, xs = [V.ref a] ∧ Rd H a (.dK kvs) ∧ Q (.int kvs.length) H) := by
  intro pins s σ H xs us Q I r h
  obtain ⟨a, kvs, rfl, ha, q⟩ := h
  obtain ⟨u, rfl, rx⟩ := vals1 r
  obtain rfl : u = .ref a := rx
  exact d_len I ha fun t s' I' => ⟨.int kvs.length, H, I', ⟨t, rfl⟩, q⟩
def lenM (x : D) (tb : Tb) : Rs D := match lst? x tb with
  | some xs => .ok (.int xs.length) tb
  | none => match x with
    | .tup xs => .ok (.int xs.length) tb
    | .scr ns => .ok (.int ns.length) tb
    | .str cs => if cs.length ≤ LIM then .ok (.int cs.length) tb else .fail
    | _ => match dic? x tb with
      | some (_, kvs) => .ok (.int kvs.length) tb
      | none => .fail
def on1 (f : D → Tb → Rs D) : List D → Tb → Rs D
  | [x], tb => f x tb
  | _, _ => .fail
def on2 (f : D → D → Tb → Rs D) : List D → Tb → Rs D
  | [x, y], tb => f x y tb
  | _, _ => .fail
theorem ok_on1 {f : D → Tb → Rs D} {r : List V → Hp → VK → Prop} (h : ∀ (W : WX) σ w tb H x v Q, Sim K c.cA w tb H → RelD K w x v → Post K c W σ w (RelD K) Q (f x tb) → r [v] H Q) : FnOkD K c (on1 f) r := by
  intro W σ w tb H xs vs Q s rx p
  match xs, rx, p with
  | [x], rx, p =>
    obtain ⟨v, rfl, r⟩ := rel1 rx
    exact h W σ w tb H x v Q s r p
  | [], _, p => exact p.elim
  | _ :: _ :: _, _, p => exact p.elim
theorem ok_on2 {f : D → D → Tb → Rs D} {r : List V → Hp → VK → Prop} (h : ∀ (W : WX) σ w tb H x y v u Q, Sim K c.cA w tb H → RelD K w x v → RelD K w y u → Post K c W σ w (RelD K) Q (f x y tb) → r [v, u] H Q) : FnOkD K c (on2 f) r := by
  intro W σ w tb H xs vs Q s rx p
  match xs, rx, p with
  | [x, y], rx, p =>
    obtain ⟨v, u, rfl, r, r'⟩ := rel2 rx
    exact h W σ w tb H x y v u Q s r r' p
  | [], _, p => exact p.elim
  | [_], _, p => exact p.elim
  | _ :: _ :: _ :: _, _, p => exact p.elim
theorem relKs_len {w : Wd} : ∀ {ds : List (DK × D)} {vs : List (Key × V)}, RelKs K w ds vs → ds.length = vs.length
  | [], _, r => by cases r; rfl
  | _ :: _, _, r => by
    cases r with
    | int a t => simp [relKs_len t]
    | str a t => simp [relKs_len t]
theorem relTs_len {w : Wd} : ∀ {ds : List (DK × D)} {vs : List (List Key × V)}, RelTs K w ds vs → ds.length = vs.length
  | [], _, r => by cases r; rfl
  | _ :: _, _, r => by
    cases r with
    | cons a t => simp [relTs_len t]
theorem ok_len : FnOkD K c (on1 lenM) (fun xs H Q => (∃ x n, xs = [x] ∧ LenV K x H n ∧ Q (.int n) H) ∨ (∃ a kvs, xs = [V.ref a] ∧ Rd H a (.dK kvs) ∧ Q (.int kvs.length) H) ∨ ∃ (p : Addr) (kvs : List (List Key × V)), xs = [.ref p] ∧ Rd H p (.dT kvs) ∧ Q (.int ((kvs.length : Nat) : Int)) H) := ok_on1 fun W σ w tb H x v Q s r p => by
  unfold lenM at p
  split at p
  · rename_i xs e
    obtain ⟨a, vs, rfl, h, rs⟩ := s.lstAt r e
    exact .inl ⟨_, _, rfl, .inl ⟨vs, SqL.of h, rs.length⟩, p.nowD s (.int _)⟩
  · split at p
    · rename_i xs _
      obtain ⟨a, vs, rfl, h, rs⟩ := s.tupAt r rfl
      exact .inl ⟨_, _, rfl, .inr ⟨vs, SqT.of h, rs.length⟩, p.nowD s (.int _)⟩
    · rename_i ns _
      cases r with
      | @scr _ a e => exact .inl ⟨_, _, rfl, .inl ⟨_, s.sqL e, by rw [List.length_map]⟩, p.nowD s (.int _)⟩
    · rename_i cs _
      cases r
      by_cases e : cs.length ≤ LIM
      · rw [if_pos e] at p
        exact .inl ⟨_, _, rfl, ⟨by rw [tx_len]; exact le_lim e, (tx_len cs).symm⟩, p.nowD s (.int _)⟩
      · rw [if_neg e] at p; exact p.elim
    · split at p
      · rename_i t kvs e
        obtain ⟨a, rfl, h⟩ := s.dicAt r e
        cases t with
        | false =>
          obtain ⟨vs, h1, h2⟩ := h
          exact .inr (.inl ⟨a, vs, rfl, h1, by rw [← relKs_len h2]; exact p.nowD s (.int _)⟩)
        | true =>
          obtain ⟨vs, h1, h2⟩ := h
          exact .inr (.inr ⟨a, vs, rfl, h1, by rw [← relTs_len h2]; exact p.nowD s (.int _)⟩)
      · exact p.elim
theorem d_len1 {p : Pos} (hg : Gl X "len") (hm : X.mg "len" = none) (ha : DE X c W a ma) (he : starEach [a] X.env = (false, eval a X.env) :: starEach [] X.env := by rfl) (hpl : (backTo pos (starEach [] X.env)).any (·.1) = false := by rfl) :
    DE X c W (.Call (.Name "len" p) [a] [] pos) (mFn (on1 lenM) (mCons ma mNil)) := d_callB (call_len.or (call_lenDK.or call_lenDT)) ok_len hg hm PySem.boot_len (a_cons ha a_nil he) (by decide) (by decide) he hpl

/-! ### isinstance -/
inductive Ty where
  | int | bool | str | list | tuple | dict
  deriving DecidableEq
def Ty.nm : Ty → String
  | .int => "int" | .bool => "bool" | .str => "str" | .list => "list" | .tuple => "tuple" | .dict => "dict"
/-- the type of data; none: NoneType -/
def tyD (x : D) (tb : Tb) : Option (Option Ty) := match x with
  | .non => some none
  | .bl _ => some (some .bool)
  | .int _ => some (some .int)
  | .str _ => some (some .str)
  | .lst _ => some (some .list)
  | .tup _ => some (some .tuple)
  | .dic _ _ => some (some .dict)
  | .scr _ => none
  | .ref n => match tb[n]? with
    | some (.lst _) => some (some .list)
    | some (.dic _ _) => some (some .dict)
    | some (.lck _ _) => some (some .dict)
    | _ => none
def nmO : Option Ty → String
  | none => "NoneType"
  | some t => t.nm
def Ty.has (t : Ty) : Option Ty → Bool
  | none => false
  | some s => decide (s = t) || (decide (s = .bool) && decide (t = .int))
theorem kit_has (o : Option Ty) (t : Ty) : kitB (nmO o) t.nm = some (t.has o) := by
  cases o with
  | none => cases t <;> decide +kernel
  | some s => cases s <;> cases t <;> decide +kernel
/-- a value's type, of a locked dict too -/
inductive TyZ (K : PySem.W.Frag) (H : Hp) : V → Value → Prop where
  | base {x : V} {t : Value} (h : TyX K H x t) : TyZ K H x t
  | fDictT {a : Addr} {o : Obj} {kvs : List (List Key × V)} (e : H a = some (.frz o (.dT kvs))) : TyZ K H (.ref a) (.type "dict")
theorem kit_ofZ {pins : List (Addr × Obj)} {σ : L2.St} {H : Hp} {s : Shared} {x : V} {u t : Value} (I : Inv X pins σ H s) (rx : RelV x u) (ty : TyZ X.K H x t) : ∃ P : Heap → Prop, PySem.W.KitX X.K u t P ∧ P s.heap ∧ u ≠ .builtin "__main__.__loader__#opaque" := by
  cases ty with
  | base h => exact kit_of I rx h
  | @fDictT a ob kvs ea =>
    cases (show u = Value.ref a from rx)
    obtain ⟨_, _, _, xs, _, o, es, ep, h1, h2, _⟩ := (show ObjOk X.prog X.w H s.heap a (.frz ob (.dT kvs)) from I.hok a _ ea)
    exact ⟨_, PySem.W.kitx_dict, ⟨o, h1, h2.1⟩, fun z => nomatch z⟩
def rIsiZ (K : PySem.W.Frag) : List V → Hp → VK → Prop := fun xs H Q => ∃ (x c : V) (t u : Value) (b : Bool), xs = [x, c] ∧ ClsV c u ∧ TyZ K H x t ∧ PySem.W.kitOne K t u = some b ∧ Q (.bl b) H
def rIsiTZ (K : PySem.W.Frag) : List V → Hp → VK → Prop := fun xs H Q => ∃ (x : V) (tp : Addr) (cs : List V) (t : Value) (us : List Value) (b : Bool), xs = [x, .ref tp] ∧ H tp = some (.tup cs) ∧ Paired ClsV cs us ∧ TyZ K H x t ∧ PySem.W.kitAny K t us = some b ∧ Q (.bl b) H
theorem call_isiZ : CallR X (.builtin "isinstance") (rIsiZ X.K) := by
  intro pins s σ H xs us Q I r h
  obtain ⟨x, c, t, u, b, rfl, k, ty, e, q⟩ := h
  obtain ⟨u1, u2, rfl, r1, r2⟩ := vals2 r
  have e2 := k.eq r2
  subst e2
  obtain ⟨P, Z, p, hx⟩ := kit_ofZ I r1 ty
  exact PySem.W.kia_one Z I.kIn p e hx fun tk => ⟨.bl b, H, I.tok tk, rfl, q⟩
theorem call_isiTZ : CallR X (.builtin "isinstance") (rIsiTZ X.K) := by
  intro pins s σ H xs us Q I r h
  obtain ⟨x, tp, cs, t, ws, b, rfl, hT, k, ty, e, q⟩ := h
  obtain ⟨u1, u2, rfl, r1, r2⟩ := vals2 r
  cases (show u2 = Value.ref tp from r2)
  obtain ⟨P, Z, p, hx⟩ := kit_ofZ I r1 ty
  obtain ⟨_, its, rv, o, h1, h2, n, h3⟩ := (show ObjOk X.prog X.w H s.heap tp (.tup cs) from I.hok tp _ hT)
  have e3 := ClsV.all k rv
  subst e3
  obtain ⟨oc, od, dt, sl⟩ := o
  simp only at h2 h3
  subst h2 h3
  exact PySem.W.kia_tup Z I.kIn p h1 e hx fun tk => ⟨.bl b, H, I.tok tk, rfl, q⟩
theorem Sim.ty {cA : Nat → Addr} {w : Wd} {tb : Tb} {H : Hp} (s : Sim K cA w tb H) {d : D} {v : V} {o : Option Ty} (r : RelD K w d v) (h : tyD d tb = some o) : TyZ K H v (.type (nmO o)) := by
  cases d with
  | non => cases r; cases h; exact .base (.base .non)
  | bl b => cases r; cases h; exact .base (.base (.bl b))
  | int b => cases r; cases h; exact .base (.base (.int b))
  | str b => cases r; cases h; exact .base (.base (.str _))
  | lst xs =>
    cases h
    obtain ⟨a, vs, rfl, e, _⟩ := s.lstAt (xs := xs) r rfl
    exact .base (.base (.lst e))
  | tup xs =>
    cases h
    obtain ⟨a, vs, rfl, e, _⟩ := s.tupAt (xs := xs) r rfl
    exact .base (.base (.tup e))
  | dic t kvs =>
    cases h
    obtain ⟨a, rfl, e⟩ := s.dicAt (kvs := kvs) r rfl
    cases t with
    | false =>
      obtain ⟨vs, e | ⟨ob, e⟩, _⟩ := e
      · exact .base (.base (.dK e))
      · exact .base (.fDict e)
    | true =>
      obtain ⟨vs, e | ⟨ob, e⟩, _⟩ := e
      · exact .base (.base (.dT e))
      · exact .fDictT e
  | scr ns => cases h
  | ref n =>
    have h' : (match tb[n]? with | some (.lst _) => some (some Ty.list) | some (.dic _ _) => some (some .dict) | some (.lck _ _) => some (some .dict) | _ => none) = some o := h
    split at h'
    · rename_i xs g
      cases h'
      obtain ⟨a, vs, rfl, e, _⟩ := s.lstAt (xs := xs) r (by simp [lst?, g])
      exact .base (.base (.lst e))
    · rename_i t kvs g
      cases h'
      obtain ⟨a, rfl, e⟩ := s.dicAt (kvs := kvs) (t := t) r (by simp [dic?, g])
      cases t with
      | false =>
        obtain ⟨vs, e | ⟨ob, e⟩, _⟩ := e
        · exact .base (.base (.dK e))
        · exact .base (.fDict e)
      | true =>
        obtain ⟨vs, e | ⟨ob, e⟩, _⟩ := e
        · exact .base (.base (.dT e))
        · exact .fDictT e
    · rename_i t kvs g
      cases h'
      obtain ⟨a, rfl, e⟩ := s.dicAt (kvs := kvs) (t := t) r (by simp [dic?, g])
      cases t with
      | false =>
        obtain ⟨vs, e | ⟨ob, e⟩, _⟩ := e
        · exact .base (.base (.dK e))
        · exact .base (.fDict e)
      | true =>
        obtain ⟨vs, e | ⟨ob, e⟩, _⟩ := e
        · exact .base (.base (.dT e))
        · exact .fDictT e
    · cases h'
def isiD (ts : List Ty) (x : D) (tb : Tb) : Rs D := match tyD x tb with
  | some o => .ok (.bl (ts.any fun t => t.has o)) tb
  | none => .fail
theorem d_isi1 {x : Str} {T : Ty} {p q : Pos} (hg : Gl X "isinstance") (hm : X.mg "isinstance" = none) (hgT : Gl X x) (hmT : X.mg x = none) (hvT : bootBuiltins x = some (.type T.nm)) (ha : DE X c W a ma) (hn : x ≠ "__name__" := by decide) (hd : (x == ("__debug__" : Str)) = false := by decide)
    (h1 : starEach [a, .Name x q] X.env = (false, eval a X.env) :: starEach [.Name x q] X.env := by rfl) (h2 : starEach [.Name x q] X.env = (false, eval (.Name x q) X.env) :: starEach [] X.env := by rfl)
    (hpl : (backTo pos (starEach [.Name x q] X.env)).any (·.1) = false := by rfl) :
    DE X c W (.Call (.Name "isinstance" p) [a, .Name x q] [] pos) (mUn (isiD [T]) ma) :=
  PE.imp (pe_callB call_isiZ hg hm PyProof.Rows.boot_isinstance (pa_cons ha (pa_cons (pe_bltn (v := .ty T.nm) hgT hmT hvT rfl hn hd) pa_nil h2) h1) (by decide) (by decide) h1 hpl) fun σ H Q ⟨w, env, tb, s, hc, e, p⟩ =>
    ⟨w, env, tb, s, hc, e, p.seq fun x tb1 w1 H1 xv l1 s1 r1 p1 => by
      unfold isiD at p1
      split at p1
      · rename_i o ho
        exact ⟨_, _, _, _, T.has o, rfl, .ty _, s1.ty r1 ho, kit_ty (kit_has o T), by
          have p2 : Post X.K c W σ w1 (RelD X.K) Q (.ok (.bl (T.has o)) tb1) := by simpa using p1
          exact p2.nowD s1 (.bl _)⟩
      · exact p1.elim⟩
theorem d_isi2 {x y : Str} {T U : Ty} {p q q2 q3 : Pos} {k} (hg : Gl X "isinstance") (hm : X.mg "isinstance" = none) (hgT : Gl X x) (hmT : X.mg x = none) (hvT : bootBuiltins x = some (.type T.nm)) (hgU : Gl X y) (hmU : X.mg y = none) (hvU : bootBuiltins y = some (.type U.nm)) (ha : DE X c W a ma)
    (hn : x ≠ "__name__" := by decide) (hd : (x == ("__debug__" : Str)) = false := by decide) (hn2 : y ≠ "__name__" := by decide) (hd2 : (y == ("__debug__" : Str)) = false := by decide)
    (h1 : starEach [a, .Tuple [.Name x q, .Name y q2] k q3] X.env = (false, eval a X.env) :: starEach [.Tuple [.Name x q, .Name y q2] k q3] X.env := by rfl) (h2 : starEach [.Tuple [.Name x q, .Name y q2] k q3] X.env = (false, eval (.Tuple [.Name x q, .Name y q2] k q3) X.env) :: starEach [] X.env := by rfl)
    (h3 : starEach [.Name x q, .Name y q2] X.env = (false, eval (.Name x q) X.env) :: starEach [.Name y q2] X.env := by rfl) (h4 : starEach [.Name y q2] X.env = (false, eval (.Name y q2) X.env) :: starEach [] X.env := by rfl)
    (hpl : (backTo pos (starEach [.Tuple [.Name x q, .Name y q2] k q3] X.env)).any (·.1) = false := by rfl) :
    DE X c W (.Call (.Name "isinstance" p) [a, .Tuple [.Name x q, .Name y q2] k q3] [] pos) (mUn (isiD [T, U]) ma) :=
  PE.imp (pe_callB call_isiTZ hg hm PyProof.Rows.boot_isinstance (pa_cons ha (pa_cons (pe_tup (pa_cons (pe_bltn (v := .ty T.nm) hgT hmT hvT rfl hn hd) (pa_cons (pe_bltn (v := .ty U.nm) hgU hmU hvU rfl hn2 hd2) pa_nil h4) h3)) pa_nil h2) h1) (by decide) (by decide) h1 hpl) fun σ H Q ⟨w, env, tb, s, hc, e, p⟩ =>
    ⟨w, env, tb, s, hc, e, p.seq fun x tb1 w1 H1 xv l1 s1 r1 p1 => ⟨(by show 2 ≤ sizeLine; decide), fun tp htp => by
      unfold isiD at p1
      split at p1
      · rename_i o ho
        have s2 := s1.more (o := .tup [V.ty T.nm, V.ty U.nm]) htp
        refine ⟨_, tp, _, _, [.type T.nm, .type U.nm], T.has o || U.has o, rfl, upd_same, .cons (.ty _) (.cons (.ty _) .nil), s2.ty r1 ho, ?_, ?_⟩
        · refine kitAny_cons (kit_ty (kit_has o T)) (fun h => ?_) fun h => by rw [h]; rfl
          refine kitAny_cons (kit_ty (kit_has o U)) (fun h' => ?_) fun h' => by rw [h']; simp
          rw [h, h']; exact kitAny_nil
        · have p2 : Post X.K c W σ w1 (RelD X.K) Q (.ok (.bl (T.has o || U.has o)) tb1) := by simpa using p1
          exact p2.nowD s2 (.bl _)
      · exact p1.elim⟩⟩

/-! ### in, not in -/
def neg' (n k : Bool) : Bool := if n = true then !k else k
def inS (n : Bool) (x y : D) (tb : Tb) : Rs D := match x, y with
  | .str [k], .str cs => .ok (.bl (neg' n (decide (k ∈ cs)))) tb
  | _, _ => .fail
def inM (n : Bool) (x y : D) (tb : Tb) : Rs D := match dic? y tb, dkOf x with
  | some (t, kvs), some k => if k.fits t = true then .ok (.bl (neg' n (dget kvs k).isSome)) tb else .fail
  | _, _ => .fail
def inP (n : Bool) (x y : D) (tb : Tb) : Rs D := match toP x tb, toP y tb with
  | some d, some (.list ds) => if SeqAt.shaped d = true ∧ SeqAt.shaped (.list ds) = true then .ok (.bl (neg' n (ds.any fun z => PyData.eqv z d))) tb else .fail
  | _, _ => .fail
def isStrD : D → Bool
  | .str _ => true
  | _ => false
def inD (n : Bool) (x y : D) (tb : Tb) : Rs D := if isStrD y = true then inS n x y tb else if isDc y tb = true then inM n x y tb else inP n x y tb
theorem op_in_dict (hu : X.A.units + 1 < cLine) : OpR X (compareOp .In) (fun y x H Q => ∃ a o, x = .ref a ∧ DGet H a y o ∧ Q (.bl o.isSome) H) := by
  intro pins s σ H y x iv u Q I ry rx h
  obtain ⟨a, ov, rfl, g, q⟩ := h
  obtain rfl : u = Value.ref a := rx
  exact d_in hu I g ry fun s3 I3 => ⟨.bl ov.isSome, H, I3, rfl, q⟩
theorem op_notin_dict (hu : X.A.units + 1 < cLine) : OpR X (compareOp .NotIn) (fun y x H Q => ∃ a o, x = .ref a ∧ DGet H a y o ∧ Q (.bl (!o.isSome)) H) := by
  intro pins s σ H y x iv u Q I ry rx h
  obtain ⟨a, ov, rfl, g, q⟩ := h
  obtain rfl : u = Value.ref a := rx
  exact d_notIn hu I g ry fun s3 I3 => ⟨.bl (!ov.isSome), H, I3, rfl, q⟩
theorem ok_inS {n : Bool} : OpOk K c (inS n) (fun x y H Q => ∃ (k : Nat) (z : Str), x = .str ⟨#[k]⟩ ∧ y = .str z ∧ Q (.bl (neg' n (decide (k ∈ z.cps.toList)))) H) := by
  intro W σ w tb H x y xv yv Q s rx ry p
  unfold inS at p
  split at p
  · rename_i k cs
    cases rx
    cases ry
    refine ⟨k, tx cs, rfl, rfl, ?_⟩
    rw [tx_cps]
    exact p.nowD s (.bl _)
  · exact p.elim
theorem ok_inM {n : Bool} : OpOk K c (inM n) (fun y x H Q => ∃ a o, x = .ref a ∧ DGet H a y o ∧ Q (.bl (neg' n o.isSome)) H) := by
  intro W σ w tb H x y xv yv Q s rx ry p
  unfold inM at p
  split at p
  · rename_i t kvs k e1 e2
    by_cases e : k.fits t = true
    · rw [if_pos e] at p
      obtain ⟨a, rfl, h⟩ := s.dicAt ry e1
      rcases h.get s rx e2 e with ⟨x, v, g1, g2, g3⟩ | ⟨g1, g2⟩
      · rw [g1] at p
        exact ⟨a, _, rfl, g2, p.nowD s (.bl _)⟩
      · rw [g1] at p
        exact ⟨a, _, rfl, g2, p.nowD s (.bl _)⟩
    · rw [if_neg e] at p; exact p.elim
  · exact p.elim
theorem ok_inP {n : Bool} : OpOk K c (inP n) (fun x y H Q => ∃ d ds, Dp K H x d ∧ Dp K H y (.list ds) ∧ SeqAt.shaped d = true ∧ SeqAt.shaped (.list ds) = true ∧ Q (.bl (neg' n (ds.any fun z => PyData.eqv z d))) H) := by
  intro W σ w tb H x y xv yv Q s rx ry p
  unfold inP at p
  split at p
  · rename_i d ds e1 e2
    by_cases e : SeqAt.shaped d = true ∧ SeqAt.shaped (.list ds) = true
    · rw [if_pos e] at p
      exact ⟨d, ds, toP_ok s rx e1, toP_ok s ry e2, e.1, e.2, p.nowD s (.bl _)⟩
    · rw [if_neg e] at p; exact p.elim
  · exact p.elim
theorem ok_in {n : Bool} : OpOk K c (inD n) (fun x y H Q => (∃ (k : Nat) (z : Str), x = .str ⟨#[k]⟩ ∧ y = .str z ∧ Q (.bl (neg' n (decide (k ∈ z.cps.toList)))) H) ∨ (∃ a o, y = .ref a ∧ DGet H a x o ∧ Q (.bl (neg' n o.isSome)) H) ∨
    ∃ d ds, Dp K H x d ∧ Dp K H y (.list ds) ∧ SeqAt.shaped d = true ∧ SeqAt.shaped (.list ds) = true ∧ Q (.bl (neg' n (ds.any fun z => PyData.eqv z d))) H) :=
  OpOk.orTb (fun _ y _ => isStrD y) ok_inS (OpOk.orTb (fun _ y tb => isDc y tb) ok_inM ok_inP)
theorem d_in1 (hu : X.A.units + 65 < cLine) (ha : DE X c W a ma) (hb : DE X c W b mb) (hm : behindInMarks .In b = false := by rfl) : DE X c W (.Compare a [.In] [b] pos) (mOp (inD false) ma mb) :=
  d_cmp (op_in_sign.or ((op_in_dict (by omega)).or (op_inD hu))) (ok_in (n := false)) ha hb hm
theorem d_nin (hu : X.A.units + 65 < cLine) (ha : DE X c W a ma) (hb : DE X c W b mb) (hm : behindInMarks .NotIn b = false := by rfl) : DE X c W (.Compare a [.NotIn] [b] pos) (mOp (inD true) ma mb) :=
  d_cmp (op_notIn_sign.or ((op_notin_dict (by omega)).or (op_notInD hu))) (ok_in (n := true)) ha hb hm
theorem t_in (hu : X.A.units + 65 < cLine) (ha : DE X c W a ma) (hb : DE X c W b mb) (hm : behindInMarks .In b = false := by rfl) : DT X c W (.Compare a [.In] [b] pos) (mB (mOp (inD false) ma mb)) :=
  t_cmp (op_in_sign.or ((op_in_dict (by omega)).or (op_inD hu))) (ok_in (n := false)) ha hb hm
theorem t_nin (hu : X.A.units + 65 < cLine) (ha : DE X c W a ma) (hb : DE X c W b mb) (hm : behindInMarks .NotIn b = false := by rfl) : DT X c W (.Compare a [.NotIn] [b] pos) (mB (mOp (inD true) ma mb)) :=
  t_cmp (op_notIn_sign.or ((op_notin_dict (by omega)).or (op_notInD hu))) (ok_in (n := true)) ha hb hm
end
end L2.G
set_option maxHeartbeats 4000000
/-! F6: calls of built-ins, methods of lists and texts, displays of dicts. -/
namespace L2.G
open PySem PySem.Spec PyProof.Rows

/-! ### lists of numbers, of truths, of texts -/
def int? : D → Option Int
  | .int i => some i
  | _ => none
def bl? : D → Option Bool
  | .bl i => some i
  | _ => none
def str? : D → Option (List Nat)
  | .str i => some i
  | _ => none
/-- a list or a tuple -/
def seq? (x : D) (tb : Tb) : Option (List D) := match x with
  | .tup xs => some xs
  | x => lst? x tb
theorem mapM_of {α : Type} {f : D → Option α} {g : α → D} (h : ∀ d a, f d = some a → d = g a) : ∀ {xs : List D} {ys : List α}, xs.mapM f = some ys → xs = ys.map g
  | [], ys, e => by simp at e; subst e; rfl
  | x :: xs, ys, e => by
    simp only [List.mapM_cons, Option.bind_eq_bind, Option.bind_eq_some_iff] at e
    obtain ⟨a, ha, as, has, e⟩ := e
    cases e
    rw [h x a ha, mapM_of h has]; rfl
theorem ints_of {xs : List D} {ns : List Int} (h : xs.mapM int? = some ns) : xs = ns.map D.int := mapM_of (fun d a e => by cases d <;> cases e; rfl) h
theorem bls_of {xs : List D} {ns : List Bool} (h : xs.mapM bl? = some ns) : xs = ns.map D.bl := mapM_of (fun d a e => by cases d <;> cases e; rfl) h
theorem strs_of {xs : List D} {ns : List (List Nat)} (h : xs.mapM str? = some ns) : xs = ns.map D.str := mapM_of (fun d a e => by cases d <;> cases e; rfl) h
theorem mapM_int (ns : List Int) : (ns.map D.int).mapM int? = some ns := by
  induction ns with
  | nil => rfl
  | cons n ns ih => simp [List.mapM_cons, ih, int?]
theorem mapM_bl (ns : List Bool) : (ns.map D.bl).mapM bl? = some ns := by
  induction ns with
  | nil => rfl
  | cons n ns ih => simp [List.mapM_cons, ih, bl?]
theorem mapM_str (ns : List (List Nat)) : (ns.map D.str).mapM str? = some ns := by
  induction ns with
  | nil => rfl
  | cons n ns ih => simp [List.mapM_cons, ih, str?]

section
variable {X : Cx} {c : Cc} {W : WX} {a b : Expr} {ma mb : ME} {pos : Pos} {K : PySem.W.Frag}
theorem Sim.seqAt {cA : Nat → Addr} {w : Wd} {tb : Tb} {H : Hp} (s : Sim K cA w tb H) {d : D} {v : V} {xs : List D} (r : RelD K w d v) (h : seq? d tb = some xs) : ∃ a vs, v = .ref a ∧ (SqL K H a vs ∨ SqT K H a vs) ∧ RelDs K w xs vs := by
  cases d with
  | tup ys =>
    cases (show some ys = some xs from h)
    obtain ⟨a, vs, rfl, e, rs⟩ := s.tupAt (xs := xs) r rfl
    exact ⟨a, vs, rfl, .inr (SqT.of e), rs⟩
  | _ =>
    obtain ⟨a, vs, rfl, e, rs⟩ := s.lstAt r (show lst? _ tb = some xs from h)
    exact ⟨a, vs, rfl, .inl (SqL.of e), rs⟩

/-! ### one number -/
def intD (x : D) (tb : Tb) : Rs D := match x with
  | .int i => .ok (.int i) tb
  | .bl k => .ok (.int (if k then 1 else 0)) tb
  | _ => .fail
def absD (x : D) (tb : Tb) : Rs D := match x with
  | .int i => .ok (.int (if i < 0 then -i else i)) tb
  | _ => .fail
theorem ok_int : FnOkD K c (on1 intD) (fun xs H Q => (∃ i, xs = [V.int i] ∧ Q (.int i) H) ∨ ∃ k, xs = [V.bl k] ∧ Q (.int (if k then 1 else 0)) H) := ok_on1 fun W σ w tb H x v Q s r p => by
  unfold intD at p
  split at p
  · cases r; exact .inl ⟨_, rfl, p.nowD s (.int _)⟩
  · cases r; exact .inr ⟨_, rfl, p.nowD s (.int _)⟩
  · exact p.elim
theorem ok_abs : FnOkD K c (on1 absD) (fun xs H Q => ∃ i, xs = [V.int i] ∧ Q (.int (if i < 0 then -i else i)) H) := ok_on1 fun W σ w tb H x v Q s r p => by
  unfold absD at p
  split at p
  · cases r; exact ⟨_, rfl, p.nowD s (.int _)⟩
  · exact p.elim
def max2 (x y : D) (tb : Tb) : Rs D := match x, y with
  | .int i, .int j => .ok (.int (if j > i then j else i)) tb
  | _, _ => .fail
def min2 (x y : D) (tb : Tb) : Rs D := match x, y with
  | .int i, .int j => .ok (.int (if j < i then j else i)) tb
  | _, _ => .fail
theorem ok_max2 : FnOkD K c (on2 max2) (fun xs H Q => ∃ i j, xs = [V.int i, V.int j] ∧ Q (.int (if j > i then j else i)) H) := ok_on2 fun W σ w tb H x y v u Q s r r' p => by
  unfold max2 at p
  split at p
  · cases r; cases r'; exact ⟨_, _, rfl, p.nowD s (.int _)⟩
  · exact p.elim
theorem ok_min2 : FnOkD K c (on2 min2) (fun xs H Q => ∃ i j, xs = [V.int i, V.int j] ∧ Q (.int (if j < i then j else i)) H) := ok_on2 fun W σ w tb H x y v u Q s r r' p => by
  unfold min2 at p
  split at p
  · cases r; cases r'; exact ⟨_, _, rfl, p.nowD s (.int _)⟩
  · exact p.elim
/-! ### a list of numbers, of truths -/
def ints? (x : D) (tb : Tb) : Option (List Int) := match x with
  | .scr ns => some ns
  | x => (lst? x tb).bind fun xs => xs.mapM int?
theorem Sim.intsAt {cA : Nat → Addr} {w : Wd} {tb : Tb} {H : Hp} (s : Sim K cA w tb H) {d : D} {v : V} {ns : List Int} (r : RelD K w d v) (h : ints? d tb = some ns) : ∃ a, v = .ref a ∧ SqL K H a (ns.map V.int) := by
  unfold ints? at h
  split at h
  · cases h
    cases r with
    | @scr _ a e => exact ⟨a, rfl, s.sqL e⟩
  · simp only [Option.bind_eq_some_iff] at h
    obtain ⟨xs, e1, e2⟩ := h
    obtain ⟨a, vs, rfl, e, rs⟩ := s.lstAt r e1
    rw [ints_of e2] at rs
    rw [rs.ints] at e
    exact ⟨a, rfl, SqL.of e⟩
def sumD (x : D) (tb : Tb) : Rs D := optD (ints? x tb) (fun ns => .int ns.sum) tb
def maxD (x : D) (tb : Tb) : Rs D := optD ((ints? x tb).bind fun ns => ns.max?) .int tb
def minD (x : D) (tb : Tb) : Rs D := optD ((ints? x tb).bind fun ns => ns.min?) .int tb
theorem ok_sum : FnOkD K c (on1 sumD) (rSum K) := ok_on1 fun W σ w tb H x v Q s r p => by
  unfold sumD optD at p
  split at p
  · rename_i ns e
    obtain ⟨a, rfl, h⟩ := s.intsAt r e
    exact ⟨a, ns, rfl, h, p.nowD s (.int _)⟩
  · exact p.elim
theorem ok_max : FnOkD K c (on1 maxD) (rMax K) := ok_on1 fun W σ w tb H x v Q s r p => by
  unfold maxD optD at p
  split at p
  · rename_i n e
    simp only [Option.bind_eq_some_iff] at e
    obtain ⟨ns, e1, e2⟩ := e
    obtain ⟨a, rfl, h⟩ := s.intsAt r e1
    refine ⟨a, ns, rfl, h, ?_, fun m h1 h2 => ?_⟩
    · cases ns with
      | nil => cases e2
      | cons _ _ => simp
    · have e3 := List.max?_eq_some_iff.mp e2
      have : m = n := Int.le_antisymm (e3.2 m h1) (h2 n e3.1)
      subst this
      exact p.nowD s (.int _)
  · exact p.elim
theorem ok_min : FnOkD K c (on1 minD) (rMin K) := ok_on1 fun W σ w tb H x v Q s r p => by
  unfold minD optD at p
  split at p
  · rename_i n e
    simp only [Option.bind_eq_some_iff] at e
    obtain ⟨ns, e1, e2⟩ := e
    obtain ⟨a, rfl, h⟩ := s.intsAt r e1
    refine ⟨a, ns, rfl, h, ?_, fun m h1 h2 => ?_⟩
    · cases ns with
      | nil => cases e2
      | cons _ _ => simp
    · have e3 := List.min?_eq_some_iff.mp e2
      have : m = n := Int.le_antisymm (h2 n e3.1) (e3.2 m h1)
      subst this
      exact p.nowD s (.int _)
  · exact p.elim
def allD (x : D) (tb : Tb) : Rs D := optD ((lst? x tb).bind fun xs => xs.mapM bl?) (fun bs => .bl (bs.all id)) tb
def anyD (x : D) (tb : Tb) : Rs D := optD ((lst? x tb).bind fun xs => xs.mapM bl?) (fun bs => .bl (bs.any id)) tb
theorem Sim.blsAt {cA : Nat → Addr} {w : Wd} {tb : Tb} {H : Hp} (s : Sim K cA w tb H) {d : D} {v : V} {ns : List Bool} (r : RelD K w d v) (h : ((lst? d tb).bind fun xs => xs.mapM bl?) = some ns) : ∃ a, v = .ref a ∧ SqL K H a (ns.map V.bl) := by
  simp only [Option.bind_eq_some_iff] at h
  obtain ⟨xs, e1, e2⟩ := h
  obtain ⟨a, vs, rfl, e, rs⟩ := s.lstAt r e1
  rw [bls_of e2] at rs
  rw [rs.bls] at e
  exact ⟨a, rfl, SqL.of e⟩
theorem ok_all : FnOkD K c (on1 allD) (rAll K) := ok_on1 fun W σ w tb H x v Q s r p => by
  unfold allD optD at p
  split at p
  · rename_i ns e
    obtain ⟨a, rfl, h⟩ := s.blsAt r e
    exact ⟨a, ns, rfl, h, p.nowD s (.bl _)⟩
  · exact p.elim
theorem ok_any : FnOkD K c (on1 anyD) (rAny K) := ok_on1 fun W σ w tb H x v Q s r p => by
  unfold anyD optD at p
  split at p
  · rename_i ns e
    obtain ⟨a, rfl, h⟩ := s.blsAt r e
    exact ⟨a, ns, rfl, h, p.nowD s (.bl _)⟩
  · exact p.elim
/-! ### list(x), tuple(x), dict(pairs) -/
def listD (t : Bool) (x : D) (tb : Tb) : Rs D := match seq? x tb with
  | some xs => newL t xs tb
  | none => match x with
    | .scr ns => newL t (ns.map D.int) tb
    | _ => .fail
theorem ok_list {t : Bool} : FnOkD K c (on1 (listD t)) (fun xs H Q => ∃ p ys, xs = [V.ref p] ∧ (SqL K H p ys ∨ SqT K H p ys) ∧ ∀ l, H l = none → Q (.ref l) (upd H l (.lst ys))) := ok_on1 fun W σ w tb H x v Q s r p => by
  unfold listD at p
  split at p
  · rename_i xs e
    obtain ⟨a, vs, rfl, h, rs⟩ := s.seqAt r e
    exact ⟨a, vs, rfl, h, fun l hl => newL_ok s rs p hl⟩
  · split at p
    · rename_i ns _
      cases r with
      | @scr _ a e => exact ⟨a, _, rfl, .inl (s.sqL e), fun l hl => newL_ok s (.ofInts _) p hl⟩
    · exact p.elim
def tupleD (x : D) (tb : Tb) : Rs D := match x with
  | .tup xs => .ok (.tup xs) tb
  | x => match lst? x tb with
    | some xs => .ok (.tup xs) tb
    | none => .fail
theorem ok_tuple : FnOkD K c (on1 tupleD) (fun xs H Q => ∃ p ys, xs = [V.ref p] ∧ ((SqL K H p ys ∧ ∀ l, H l = none → Q (.ref l) (upd H l (.tup ys))) ∨ (SqT K H p ys ∧ Q (.ref p) H))) := ok_on1 fun W σ w tb H x v Q s r p => by
  unfold tupleD at p
  split at p
  · obtain ⟨a, vs, rfl, h, rs⟩ := s.tupAt r rfl
    exact ⟨a, vs, rfl, .inr ⟨SqT.of h, p.nowD s r⟩⟩
  · split at p
    · rename_i xs e
      obtain ⟨a, vs, rfl, h, rs⟩ := s.lstAt r e
      exact ⟨a, vs, rfl, .inl ⟨SqL.of h, fun l hl => newTup_ok s rs p hl⟩⟩
    · exact p.elim
/-- pairs (key, value), flat keys -/
def pair? : D → Option (DK × D)
  | .tup [.int i, v] => some (.i i, v)
  | .tup [.str cs, v] => some (.s cs, v)
  | _ => none
def dmerge (kvs more : List (DK × D)) : List (DK × D) := more.foldl (fun acc kv => dput acc kv.1 kv.2) kvs
def dictD (t : Bool) (x : D) (tb : Tb) : Rs D := match lst? x tb with
  | some xs => match xs.mapM pair? with
    | some kvs => newD t false (dmerge [] kvs) tb
    | none => .fail
  | none => match dic? x tb with
    | some (false, kvs) => newD t false kvs tb
    | _ => .fail
theorem relKs_any {w : Wd} {kvs : List (DK × D)} {vs : List (Key × V)} (r : RelKs K w kvs vs) {k : Int ⊕ List Nat} {dk : DK} (hk : dk = match k with | .inl n => .i n | .inr cs => .s cs) :
    (kvs.any fun kv => decide (kv.1 = dk)) = vs.any fun kv => decide (kv.1 = keyOf k) := by
  induction kvs generalizing vs with
  | nil => cases r; rfl
  | cons p kvs ih =>
    cases r with
    | @int n d v _ vs a t =>
      have e : decide (DK.i n = dk) = decide ((Sum.inl n : Key) = keyOf k) := by
        cases k with
        | inl m => simp only [hk, keyOf, DK.i.injEq, Sum.inl.injEq]
        | inr m => simp [hk, keyOf]
      simp only [List.any_cons, e, ih t]
    | @str n d v _ vs a t =>
      have e : decide (DK.s n = dk) = decide ((Sum.inr (tx n) : Key) = keyOf k) := by
        cases k with
        | inl m => simp [hk, keyOf]
        | inr m =>
          rw [hk]
          by_cases q : n = m
          · subst q; simp [keyOf]
          · rw [decide_eq_false (by simpa using q)]; exact (decide_eq_false (fun z => q (tx_inj (Sum.inr.inj z)))).symm
      simp only [List.any_cons, e, ih t]
theorem relKs_append {w : Wd} {a b : List (DK × D)} {vs us : List (Key × V)} (r : RelKs K w a vs) (r' : RelKs K w b us) : RelKs K w (a ++ b) (vs ++ us) := by
  induction a generalizing vs with
  | nil => cases r; exact r'
  | cons p a ih =>
    cases r with
    | int h t => exact .int h (ih t)
    | str h t => exact .str h (ih t)
theorem relKs_repl {w : Wd} {kvs : List (DK × D)} {vs : List (Key × V)} (r : RelKs K w kvs vs) {k : Int ⊕ List Nat} {dk : DK} (hk : dk = match k with | .inl n => .i n | .inr cs => .s cs) {d : D} {v : V} (rd : RelD K w d v) :
    RelKs K w (kvs.map fun kv => if kv.1 = dk then (kv.1, d) else kv) (vs.map fun kv => if kv.1 = keyOf k then (kv.1, v) else kv) := by
  induction kvs generalizing vs with
  | nil => cases r; exact .nil
  | cons p kvs ih =>
    cases r with
    | @int n x y _ vs a t =>
      rw [List.map_cons, List.map_cons]
      by_cases q : DK.i n = dk
      · have q2 : (Sum.inl n : Key) = keyOf k := by cases k <;> simp_all [keyOf]
        simp only [q, q2, if_true]
        cases k with
        | inl m => rw [hk]; exact .int rd (by rw [← hk]; exact ih t)
        | inr m => rw [hk] at q; cases q
      · have q2 : ¬ (Sum.inl n : Key) = keyOf k := fun z => q (by cases k <;> simp_all [keyOf])
        simp only [q, q2, if_false]
        exact .int a (ih t)
    | @str n x y _ vs a t =>
      rw [List.map_cons, List.map_cons]
      by_cases q : DK.s n = dk
      · have q2 : (Sum.inr (tx n) : Key) = keyOf k := by cases k <;> simp_all [keyOf]
        simp only [q, q2, if_true]
        cases k with
        | inl m => rw [hk] at q; cases q
        | inr m => rw [hk]; exact .str rd (by rw [← hk]; exact ih t)
      · have q2 : ¬ (Sum.inr (tx n) : Key) = keyOf k := fun z => q (by
          cases k with
          | inl m => cases z
          | inr m => rw [hk, tx_inj (Sum.inr.inj z)])
        simp only [q, q2, if_false]
        exact .str a (ih t)
theorem relKs_put {w : Wd} {kvs : List (DK × D)} {vs : List (Key × V)} (r : RelKs K w kvs vs) {k : Int ⊕ List Nat} {dk : DK} (hk : dk = match k with | .inl n => .i n | .inr cs => .s cs) {d : D} {v : V} (rd : RelD K w d v) :
    RelKs K w (dput kvs dk d) (putK vs (keyOf k) v) := by
  unfold dput putK
  rw [relKs_any r hk]
  split
  · exact relKs_repl r hk rd
  · refine relKs_append r ?_
    cases k with
    | inl m => rw [hk]; exact .int rd .nil
    | inr m => rw [hk]; exact .str rd .nil
theorem relKs_merge {w : Wd} {more : List (DK × D)} : ∀ {kvs : List (DK × D)} {ms vs : List (Key × V)}, RelKs K w more ms → RelKs K w kvs vs → RelKs K w (dmerge kvs more) (mergeK vs ms) := by
  induction more with
  | nil => intro kvs ms vs r q; cases r; exact q
  | cons p more ih =>
    intro kvs ms vs r q
    cases r with
    | @int n d v _ ns a t =>
      show RelKs K w (dmerge (dput kvs (.i n) d) more) (mergeK (putK vs (.inl n) v) ns)
      exact ih t (relKs_put q (k := .inl n) rfl a)
    | @str n d v _ ns a t =>
      show RelKs K w (dmerge (dput kvs (.s n) d) more) (mergeK (putK vs (.inr (tx n)) v) ns)
      exact ih t (relKs_put q (k := .inr n) rfl a)
/-- the pairs as they stand -/
theorem pairs_at {cA : Nat → Addr} {w : Wd} {tb : Tb} {H : Hp} (s : Sim K cA w tb H) : ∀ {xs : List D} {vs : List V} {kvs : List (DK × D)}, RelDs K w xs vs → xs.mapM pair? = some kvs →
    ∃ (ps : List Addr) (ms : List (Key × V)), vs = ps.map V.ref ∧ RelKs K w kvs ms ∧ Paired (fun p kv => SqT K H p [kV kv.1, kv.2]) ps ms
  | [], _, kvs, r, e => by
    cases r
    simp at e
    subst e
    exact ⟨[], [], rfl, .nil, .nil⟩
  | x :: xs, _, kvs, r, e => by
    simp only [List.mapM_cons, Option.bind_eq_bind, Option.bind_eq_some_iff] at e
    obtain ⟨p, hp, ps', hps, e⟩ := e
    cases e
    cases r with
    | cons rx rt =>
      obtain ⟨as, ms, e1, e2, e3⟩ := pairs_at s rt hps
      unfold pair? at hp
      split at hp
      · cases hp
        obtain ⟨a, us, rfl, h, ru⟩ := s.tupAt rx rfl
        obtain ⟨v, u, rfl, r1, r2⟩ := rel2 ru
        cases r1
        exact ⟨a :: as, (.inl _, u) :: ms, by rw [e1]; rfl, .int r2 e2, .cons (SqT.of h) e3⟩
      · cases hp
        obtain ⟨a, us, rfl, h, ru⟩ := s.tupAt rx rfl
        obtain ⟨v, u, rfl, r1, r2⟩ := rel2 ru
        cases r1
        exact ⟨a :: as, (.inr _, u) :: ms, by rw [e1]; rfl, .str r2 e2, .cons (SqT.of h) e3⟩
      · cases hp
theorem call_dictC : CallR X (.type "dict") (fun xs H Q => ∃ a kvs, xs = [V.ref a] ∧ Rd H a (.dK kvs) ∧ ∀ p, H p = none → Q (.ref p) (upd H p (.dK kvs))) := by
  intro pins s σ H xs us Q I r h
  obtain ⟨a, kvs, rfl, ha, q⟩ := h
  obtain ⟨u, rfl, rx⟩ := vals1 r
  obtain rfl : u = Value.ref a := rx
  exact d_copyOf I ha fun p s' hp I' => ⟨.ref p, _, I', rfl, q p hp⟩
theorem ok_dict {t : Bool} : FnOkD K c (on1 (dictD t)) (fun xs H Q => (∃ (a : Addr) (ps : List Addr) (kvs : List (Key × V)), xs = [V.ref a] ∧ SqL K H a (ps.map V.ref) ∧ Paired (fun p kv => SqT K H p [kV kv.1, kv.2]) ps kvs ∧ ∀ p, H p = none → Q (.ref p) (upd H p (.dK (mergeK [] kvs)))) ∨
    ∃ a kvs, xs = [V.ref a] ∧ Rd H a (.dK kvs) ∧ ∀ p, H p = none → Q (.ref p) (upd H p (.dK kvs))) := ok_on1 fun W σ w tb H x v Q s r p => by
  unfold dictD at p
  split at p
  · rename_i xs e
    split at p
    · rename_i kvs e2
      obtain ⟨a, vs, rfl, h, rs⟩ := s.lstAt r e
      obtain ⟨ps, ms, rfl, rk, hp⟩ := pairs_at s rs e2
      exact .inl ⟨a, ps, ms, rfl, SqL.of h, hp, fun q hq => newDK_ok s (relKs_merge rk .nil) p hq⟩
    · exact p.elim
  · split at p
    · rename_i kvs e
      obtain ⟨a, rfl, vs, h, rk⟩ := s.dicAt r e
      exact .inr ⟨a, vs, rfl, h, fun q hq => newDK_ok s rk p hq⟩
    · exact p.elim

/-! ### methods of lists and texts -/
def MtOk (K : PySem.W.Frag) (c : Cc) (f : D → List D → Tb → Rs D) (r : V → List V → Hp → VK → Prop) : Prop := ∀ (W : WX) σ w tb H x xv xs vs Q, Sim K c.cA w tb H → RelD K w x xv → RelDs K w xs vs → Post K c W σ w (RelD K) Q (f x xs tb) → r xv vs H Q
def isStrT : D → Tb → Bool
  | .str _, _ => true
  | _, _ => false
def isLstT (x : D) (tb : Tb) : Bool := (lst? x tb).isSome
def mMt (sel : D → Tb → Bool) (f : D → List D → Tb → Rs D) (a : ME) (m : MA) : ME := fun env tb => (a env tb).bind fun x tb => if sel x tb = true then (m env tb).bind fun xs tb => f x xs tb else .fail
def SelOk (K : PySem.W.Frag) (cA : Nat → Addr) (T : String) (sel : D → Tb → Bool) : Prop := ∀ w tb H x v, Sim K cA w tb H → RelD K w x v → sel x tb = true → tyV K T v H
theorem sel_lst {cA : Nat → Addr} : SelOk K cA "list" isLstT := by
  intro w tb H x v s r h
  unfold isLstT at h
  cases e : lst? x tb with
  | none => rw [e] at h; cases h
  | some xs =>
    obtain ⟨a, vs, rfl, h1, _⟩ := s.lstAt r e
    exact .inl ⟨rfl, _, SqL.of h1⟩
theorem sel_str {cA : Nat → Addr} : SelOk K cA "str" isStrT := by
  intro w tb H x v s r h
  cases r with
  | str cs => exact rfl
  | _ => cases h
theorem d_mt {T id : String} {name : Str} {apos : Pos} {e : Expr} {es : List Expr} {mr : MA} {r : V → List V → Hp → VK → Prop} {f : D → List D → Tb → Rs D} {sel : D → Tb → Bool} (pa : PlainAttrs T) (slot : Slot T name id) (hty : typeOf (.builtin id) = pure (.type "method_descriptor")) (hm : MtR X id r) (ok : MtOk X.K c f r)
    (so : SelOk X.K c.cA T sel) (ho : DE X c W a ma) (ha : DA X c W (e :: es) mr)
    (hbase : attributeBase a name X.env (eval a X.env) = eval a X.env := by rfl)
    (hfew : ((backTo pos (starEach (e :: es) X.env)).all (fun x => !x.1) && (backToKw pos (keywordEach [] X.env)).all (fun x => x.1.isSome)
      && decide ((e :: es).length + ([] : List Keyword).length + (if ([] : List Keyword).isEmpty then 0 else 1) < 30)) = true := by rfl)
    (hline : (apos.endLine == pos.line) = true := by rfl) (hs : starEach (e :: es) X.env = (false, eval e X.env) :: starEach es X.env := by rfl) (hplain : (backTo pos (starEach es X.env)).any (·.1) = false := by rfl) :
    DE X c W (.Call (.Attribute a name apos) (e :: es) [] pos) (mMt sel f ma mr) := PE.imp (pe_bm pa slot hty hm ho ha hbase hfew hline hs hplain) fun σ H Q ⟨w, env, tb, s, hc, e, p⟩ =>
  ⟨w, env, tb, s, hc, e, p.seq fun x tb1 w1 H1 xv l1 s1 r1 p1 => by
    by_cases q : sel x tb1 = true
    · rw [if_pos q] at p1
      exact ⟨so w1 tb1 H1 x xv s1 r1 q, w1, env, tb1, s1, l1.cur.trans hc, e.up l1, p1.seq fun xs tb2 w2 H2 vs l2 s2 r2 p2 => ok W σ w2 tb2 H2 x xv xs vs Q s2 (r1.up l2) r2 p2⟩
    · rw [if_neg q] at p1; exact p1.elim⟩
theorem d_mt0 {T id : String} {name : Str} {apos : Pos} {r : V → List V → Hp → VK → Prop} {f : D → List D → Tb → Rs D} {sel : D → Tb → Bool} (pa : PlainAttrs T) (slot : Slot T name id) (hty : typeOf (.builtin id) = pure (.type "method_descriptor")) (hm : MtR X id r) (ok : MtOk X.K c f r)
    (so : SelOk X.K c.cA T sel) (ho : DE X c W a ma) (hbase : attributeBase a name X.env (eval a X.env) = eval a X.env := by rfl) (hline : (apos.endLine == pos.line) = true := by rfl) :
    DE X c W (.Call (.Attribute a name apos) [] [] pos) (mMt sel f ma mNil) := PE.imp (pe_bm0 pa slot hty hm ho hbase hline) fun σ H Q ⟨w, env, tb, s, hc, e, p⟩ =>
  ⟨w, env, tb, s, hc, e, p.seq fun x tb1 w1 H1 xv l1 s1 r1 p1 => by
    by_cases q : sel x tb1 = true
    · rw [if_pos q] at p1
      exact ⟨so w1 tb1 H1 x xv s1 r1 q, ok W σ w1 tb1 H1 x xv [] [] Q s1 r1 .nil p1⟩
    · rw [if_neg q] at p1; exact p1.elim⟩
/-- the n-th tracked object, a list -/
def onRef (x : D) (tb : Tb) (f : Nat → List D → Rs D) : Rs D := match x with
  | .ref n => match tb[n]? with
    | some (.lst xs) => f n xs
    | _ => .fail
  | _ => .fail
theorem onRef_of {w : Wd} {σ : L2.St} {tb : Tb} {H : Hp} {x : D} {v : V} {f : Nat → List D → Rs D} {Q : VK} (s : Sim K c.cA w tb H) (r : RelD K w x v) (p : Post K c W σ w (RelD K) Q (onRef x tb f)) :
    ∃ n a xs vs, v = .ref a ∧ w.rho[n]? = some a ∧ tb[n]? = some (.lst xs) ∧ H a = some (.lst vs) ∧ RelDs K w xs vs ∧ Post K c W σ w (RelD K) Q (f n xs) := by
  unfold onRef at p
  split at p
  · rename_i n
    split at p
    · rename_i xs g
      cases r with
      | @ref _ a e =>
        obtain ⟨vs, h1, h2⟩ := s.obs n a _ e g
        exact ⟨n, a, xs, vs, rfl, e, g, h1, h2, p⟩
    · exact p.elim
  · exact p.elim
def appendD (x : D) (ys : List D) (tb : Tb) : Rs D := match ys with
  | [y] => onRef x tb fun n xs => if xs.length < LIM then .ok .non (tb.set n (.lst (xs ++ [y]))) else .fail
  | _ => .fail
theorem ok_append : MtOk K c appendD rAppend := by
  intro W σ w tb H x xv ys vs Q s rx rs p
  unfold appendD at p
  split at p
  · rename_i y
    obtain ⟨v, rfl, ry⟩ := rel1 rs
    obtain ⟨n, a, xs, us, rfl, e1, e2, h, ru, p⟩ := onRef_of s rx p
    by_cases q : xs.length < LIM
    · rw [if_pos q] at p
      refine ⟨a, us, v, rfl, rfl, h, by rw [← ru.length]; exact lt_lim q, ?_⟩
      exact p.nowP (s.put e1 e2 rfl rfl ⟨_, upd_same, ru.append (.cons ry .nil)⟩) .non
    · rw [if_neg q] at p; exact p.elim
  · exact p.elim
def popAtD (x : D) (ys : List D) (tb : Tb) : Rs D := match ys with
  | [.int i] => onRef x tb fun n xs => if -(2 ^ 63) ≤ i ∧ i < 2 ^ 63 then match ixN xs.length i with
      | some k => match xs[k]? with
        | some d => .ok d (tb.set n (.lst (xs.eraseIdx k)))
        | none => .fail
      | none => .fail
    else .fail
  | _ => .fail
theorem ok_popAt : MtOk K c popAtD rPopAt := by
  intro W σ w tb H x xv ys vs Q s rx rs p
  unfold popAtD at p
  split at p
  · rename_i i
    obtain ⟨v, rfl, ry⟩ := rel1 rs
    cases ry
    obtain ⟨n, a, xs, us, rfl, e1, e2, h, ru, p⟩ := onRef_of s rx p
    by_cases q : -(2 ^ 63) ≤ i ∧ i < 2 ^ 63
    · rw [if_pos q] at p
      split at p
      · rename_i k ek
        split at p
        · rename_i d ed
          obtain ⟨u, eu, rd⟩ := ru.get ed
          refine ⟨a, us, i, k, u, rfl, rfl, h, q.1, q.2, by rw [← ru.length]; exact (ixN_seq ek).1, eu, ?_⟩
          exact p.nowP (s.put e1 e2 rfl rfl ⟨_, upd_same, ru.eraseIdx k⟩) rd
        · exact p.elim
      · exact p.elim
    · rw [if_neg q] at p; exact p.elim
  · exact p.elim
def popD (x : D) (ys : List D) (tb : Tb) : Rs D := match ys with
  | [] => onRef x tb fun n xs => match xs[xs.length - 1]? with
    | some d => .ok d (tb.set n (.lst xs.dropLast))
    | none => .fail
  | _ => .fail
theorem dropLast_rel {w : Wd} {ds : List D} {vs : List V} (r : RelDs K w ds vs) : RelDs K w ds.dropLast vs.dropLast := by
  rw [List.dropLast_eq_take, List.dropLast_eq_take, r.length]; exact r.take _
theorem ok_pop : MtOk K c popD rPop := by
  intro W σ w tb H x xv ys vs Q s rx rs p
  unfold popD at p
  split at p
  · cases rs
    obtain ⟨n, a, xs, us, rfl, e1, e2, h, ru, p⟩ := onRef_of s rx p
    split at p
    · rename_i d ed
      obtain ⟨u, eu, rd⟩ := ru.get ed
      refine ⟨a, us, u, rfl, rfl, h, by rw [← ru.length]; exact eu, ?_⟩
      exact p.nowP (s.put e1 e2 rfl rfl ⟨_, upd_same, dropLast_rel ru⟩) rd
    · exact p.elim
  · exact p.elim
def extendD (x : D) (ys : List D) (tb : Tb) : Rs D := match ys with
  | [y] => onRef x tb fun n xs => match lst? y tb with
    | some zs => if xs.length + zs.length ≤ LIM then .ok .non (tb.set n (.lst (xs ++ zs))) else .fail
    | none => .fail
  | _ => .fail
theorem ok_extend : MtOk K c extendD rExtend := by
  intro W σ w tb H x xv ys vs Q s rx rs p
  unfold extendD at p
  split at p
  · rename_i y
    obtain ⟨v, rfl, ry⟩ := rel1 rs
    obtain ⟨n, a, xs, us, rfl, e1, e2, h, ru, p⟩ := onRef_of s rx p
    split at p
    · rename_i zs ez
      obtain ⟨b, ws, rfl, hb, rz⟩ := s.lstAt ry ez
      by_cases q : xs.length + zs.length ≤ LIM
      · rw [if_pos q] at p
        refine ⟨a, b, us, ws, rfl, rfl, h, hb, by rw [← ru.length, ← rz.length]; exact le_lim q, ?_⟩
        exact p.nowP (s.put e1 e2 rfl rfl ⟨_, upd_same, ru.append rz⟩) .non
      · rw [if_neg q] at p; exact p.elim
    · exact p.elim
  · exact p.elim
def reverseD (x : D) (ys : List D) (tb : Tb) : Rs D := match ys with
  | [] => onRef x tb fun n xs => .ok .non (tb.set n (.lst xs.reverse))
  | _ => .fail
theorem ok_reverse : MtOk K c reverseD rReverse := by
  intro W σ w tb H x xv ys vs Q s rx rs p
  unfold reverseD at p
  split at p
  · cases rs
    obtain ⟨n, a, xs, us, rfl, e1, e2, h, ru, p⟩ := onRef_of s rx p
    exact ⟨a, us, rfl, rfl, h, p.nowP (s.put e1 e2 rfl rfl ⟨_, upd_same, ru.reverse⟩) .non⟩
  · exact p.elim
def clearD (x : D) (ys : List D) (tb : Tb) : Rs D := match ys with
  | [] => onRef x tb fun n _ => .ok .non (tb.set n (.lst []))
  | _ => .fail
theorem ok_clear : MtOk K c clearD rClear := by
  intro W σ w tb H x xv ys vs Q s rx rs p
  unfold clearD at p
  split at p
  · cases rs
    obtain ⟨n, a, xs, us, rfl, e1, e2, h, ru, p⟩ := onRef_of s rx p
    exact ⟨a, us, rfl, rfl, h, p.nowP (s.put e1 e2 rfl rfl ⟨_, upd_same, .nil⟩) .non⟩
  · exact p.elim
/-- sep.join(texts) -/
def joinL (sep : List Nat) : List (List Nat) → List Nat
  | [] => []
  | [x] => x
  | x :: y :: r => x ++ sep ++ joinL sep (y :: r)
theorem join_tx (sep : List Nat) : ∀ ys : List (List Nat), Txt.join (tx sep) (ys.map tx) = tx (joinL sep ys) := by
  intro ys
  unfold Txt.join
  rw [StrLaws.glued_eq_join]
  induction ys with
  | nil => rfl
  | cons x ys ih =>
    cases ys with
    | nil => rfl
    | cons y r =>
      show tx x ++ tx sep ++ Str.join (tx sep) ((y :: r).map tx) = _
      rw [ih, tx_app, tx_app]; rfl
def joinD (x : D) (ys : List D) (tb : Tb) : Rs D := match x, ys with
  | .str sep, [y] => match (seq? y tb).bind fun xs => xs.mapM str? with
    | some zs => if (zs.map (·.length)).sum + zs.length * sep.length ≤ LIM then .ok (.str (joinL sep zs)) tb else .fail
    | none => .fail
  | _, _ => .fail
theorem ok_join : MtOk K c joinD (fun x xs H Q => ∃ a p, ∃ ys : List Str, x = .str a ∧ xs = [.ref p] ∧ (SqL K H p (ys.map V.str) ∨ SqT K H p (ys.map V.str)) ∧ (ys.map (·.length)).sum + ys.length * a.length ≤ 16777216 ∧ Q (.str (Txt.join a ys)) H) := by
  intro W σ w tb H x xv ys vs Q s rx rs p
  unfold joinD at p
  split at p
  · rename_i sep y
    cases rx
    obtain ⟨v, rfl, ry⟩ := rel1 rs
    split at p
    · rename_i zs e
      simp only [Option.bind_eq_some_iff] at e
      obtain ⟨xs, e1, e2⟩ := e
      by_cases q : (zs.map (·.length)).sum + zs.length * sep.length ≤ LIM
      · rw [if_pos q] at p
        obtain ⟨a, us, rfl, h, ru⟩ := s.seqAt ry e1
        rw [strs_of e2] at ru
        rw [ru.strs] at h
        refine ⟨tx sep, a, zs.map tx, rfl, rfl, h, ?_, ?_⟩
        · rw [List.map_map, List.length_map, tx_len]
          have : (List.length ∘ fun (x : List Nat) => x) = List.length := rfl
          have e3 : ((fun x => Str.length x) ∘ tx) = fun (x : List Nat) => x.length := by funext z; exact tx_len z
          rw [e3]; exact q
        · rw [join_tx]; exact p.nowD s (.str _)
      · rw [if_neg q] at p; exact p.elim
    · exact p.elim
  · exact p.elim
end
end L2.G
set_option maxHeartbeats 4000000
/-! F7: statements, targets, what is walked, loops, list comprehensions. -/
namespace L2.G
open PySem PySem.Spec PyProof.Rows

inductive RS where
  | nx (e : Env) (tb : Tb) | rt (d : D) (tb : Tb) | bk (e : Env) (tb : Tb) | ct (e : Env) (tb : Tb) | ex (k : Nat) (fs : List (List Nat × D)) (e : Env) (tb : Tb) | fail
abbrev MS := Env → Tb → RS
abbrev MG := D → Env → Tb → Option (Env × Tb)
abbrev MGs := List D → Env → Tb → Option (Env × Tb)
def PostS (K : PySem.W.Frag) (c : Cc) (W : WX) (E : Ends) (w : Wd) : RS → Prop
  | .nx e tb => ∀ w' σ' H', w.Le w' → Sim K c.cA w' tb H' → RelE K w' e σ' → E.nx σ' H'
  | .rt d tb => ∀ w' H' v, w.Le w' → Sim K c.cA w' tb H' → RelD K w' d v → E.rt v H'
  | .bk e tb => ∀ w' σ' H', w.Le w' → Sim K c.cA w' tb H' → RelE K w' e σ' → E.bk σ' H'
  | .ct e tb => ∀ w' σ' H', w.Le w' → Sim K c.cA w' tb H' → RelE K w' e σ' → E.ct σ' H'
  | .ex k fs e tb => ∀ w' σ' H' dx gs, w.Le w' → Sim K c.cA w' tb H' → RelE K w' e σ' → H' dx = some (.xd gs) → RelFs K w' fs gs → W (.ref (c.cA k)) (some dx) σ' H'
  | .fail => False
section
variable {K : PySem.W.Frag} {c : Cc} {W : WX} {E : Ends} {w w' : Wd}
theorem PostS.le {r : RS} (p : PostS K c W E w r) (l : w.Le w') : PostS K c W E w' r := by
  cases r with
  | nx e tb => exact fun w2 σ' H' l2 => p w2 σ' H' (l.trans l2)
  | rt d tb => exact fun w2 H' v l2 => p w2 H' v (l.trans l2)
  | bk e tb => exact fun w2 σ' H' l2 => p w2 σ' H' (l.trans l2)
  | ct e tb => exact fun w2 σ' H' l2 => p w2 σ' H' (l.trans l2)
  | ex k fs e tb => exact fun w2 σ' H' dx gs l2 => p w2 σ' H' dx gs (l.trans l2)
  | fail => exact p
theorem PostS.nxt {e : Env} {tb : Tb} {σ : L2.St} {H : Hp} (p : PostS K c W E w (.nx e tb)) (s : Sim K c.cA w tb H) (r : RelE K w e σ) : E.nx σ H := p w σ H (.refl w) s r
theorem PostS.ret {d : D} {tb : Tb} {v : V} {H : Hp} (p : PostS K c W E w (.rt d tb)) (s : Sim K c.cA w tb H) (r : RelD K w d v) : E.rt v H := p w H v (.refl w) s r
end
/-- an expression in a statement -/
def Rs.st {α : Type} (r : Rs α) (env : Env) (f : α → Tb → RS) : RS := match r with
  | .ok a tb => f a tb
  | .ex k fs tb => .ex k fs env tb
  | .fail => .fail
@[simp] theorem Rs.st_ok {α : Type} (a : α) (tb : Tb) (env : Env) (f : α → Tb → RS) : (Rs.ok a tb).st env f = f a tb := Eq.trans rfl rfl
@[simp] theorem Rs.st_ex {α : Type} (c : Nat) (fs : List (List Nat × D)) (tb : Tb) (env : Env) (f : α → Tb → RS) : (Rs.ex c fs tb : Rs α).st env f = .ex c fs env tb := Eq.trans rfl rfl
@[simp] theorem Rs.st_fail {α : Type} (env : Env) (f : α → Tb → RS) : (Rs.fail : Rs α).st env f = .fail := Eq.trans rfl rfl
def tS (K : PySem.W.Frag) (c : Cc) (W : WX) (m : MS) : TS := fun E σ H => ∃ w env tb, Sim K c.cA w tb H ∧ w.cur = c.cur ∧ RelE K w env σ ∧ PostS K c W E w (m env tb)
def DS (X : Cx) (c : Cc) (W : WX) (st : Stmt) (m : MS) : Prop := PS X st (tS X.K c W m)
def DSs (X : Cx) (c : Cc) (W : WX) (st : List Stmt) (m : MS) : Prop := PSs X st (tS X.K c W m)
theorem PS.imp {X : Cx} {st : Stmt} {t t' : TS} (h : PS X st t) (k : ∀ E σ H, t' E σ H → t E σ H) : PS X st t' := ⟨fun pins s σ H E I q => h.run pins s σ H E I (k E σ H q)⟩
theorem PSs.imp {X : Cx} {st : List Stmt} {t t' : TS} (h : PSs X st t) (k : ∀ E σ H, t' E σ H → t E σ H) : PSs X st t' := ⟨fun pins s σ H E I q => h.run pins s σ H E I (k E σ H q)⟩
theorem PG.imp {X : Cx} {e : Expr} {t t' : TG} (h : PG X e t) (k : ∀ v σ H Q, t' v σ H Q → t v σ H Q) : PG X e t' := ⟨fun pins s σ H v u Q I r q => h.run pins s σ H v u Q I r (k v σ H Q q)⟩
theorem PGs.imp {X : Cx} {e : List Expr} {t t' : TGs} (h : PGs X e t) (k : ∀ v σ H Q, t' v σ H Q → t v σ H Q) : PGs X e t' := ⟨fun pins s σ H v u Q I r q => h.run pins s σ H v u Q I r (k v σ H Q q)⟩
theorem PI.imp {X : Cx} {tg e : Expr} {t t' : TI} (h : PI X tg e t) (k : ∀ σ H R, t' σ H R → t σ H R) : PI X tg e t' := ⟨fun pins s σ H R I q => h.run pins s σ H R I (k σ H R q)⟩

section
variable {X : Cx} {c : Cc} {W : WX} {σ : L2.St} {H : Hp} {E : Ends}
theorem Post.stS {α β : Type} {K : PySem.W.Frag} {w : Wd} {rel : Wd → α → β → Prop} {Q1 : β → Hp → Prop} {r : Rs α} {env : Env} {f : α → Tb → RS} (he : RelE K w env σ) (p : PostS K c W E w (r.st env f))
    (h : ∀ a tb w1 H1 b, w.Le w1 → Sim K c.cA w1 tb H1 → rel w1 a b → PostS K c W E w1 (f a tb) → Q1 b H1) : Post K c W σ w rel Q1 r := by
  cases r with
  | ok a tb => exact fun w1 H1 b l s re => h a tb w1 H1 b l s re (PostS.le (r := f a tb) p l)
  | ex k fs tb => exact fun w1 H1 dx gs l s h1 h2 => p w1 σ H1 dx gs l s (he.up l) h1 h2
  | fail => exact p

/-! ### blocks -/
def mSkip : MS := fun env tb => .nx env tb
def mSeq (a b : MS) : MS := fun env tb => match a env tb with
  | .nx e t => b e t
  | r => r
def mRet (a : ME) : MS := fun env tb => (a env tb).st env fun d tb => .rt d tb
def mRetN : MS := fun _ tb => .rt .non tb
def mExpr (a : ME) : MS := fun env tb => (a env tb).st env fun _ tb => .nx env tb
def mSet (i : Nat) (a : ME) : MS := fun env tb => (a env tb).st env fun d tb => .nx (env.set i (some d)) tb
def mIf (t : MT) (a b : MS) : MS := fun env tb => (t env tb).st env fun k tb => if k = true then a env tb else b env tb
def mBrk : MS := fun env tb => .bk env tb
def mCnt : MS := fun env tb => .ct env tb
variable {st : Stmt} {sts : List Stmt} {m m' : MS} {e : Expr} {me : ME} {pos : Pos}
theorem s_nil : DSs X c W [] mSkip := PSs.imp pss_nil fun E σ H ⟨w, env, tb, s, hc, e, p⟩ => PostS.nxt (e := env) (tb := tb) p s e
theorem s_cons (h : DS X c W st m) (h' : DSs X c W sts m') : DSs X c W (st :: sts) (mSeq m m') := PSs.imp (pss_cons h h') fun E σ H ⟨w, env, tb, s, hc, e, p⟩ => by
  refine ⟨w, env, tb, s, hc, e, ?_⟩
  have p' : PostS X.K c W E w (match m env tb with | .nx e t => m' e t | r => r) := p
  cases q : m env tb with
  | nx e2 t2 => rw [q] at p'; exact fun w' σ' H' l s' r' => ⟨w', e2, t2, s', l.cur.trans hc, r', PostS.le (r := m' e2 t2) p' l⟩
  | rt d tb => rw [q] at p'; exact p'
  | bk e tb => rw [q] at p'; exact p'
  | ct e tb => rw [q] at p'; exact p'
  | ex k fs e tb => rw [q] at p'; exact p'
  | fail => rw [q] at p'; exact p'
theorem s_one (h : DS X c W st m) : DSs X c W [st] m := pss_one h
theorem s_pass : DS X c W (.Pass pos) mSkip := PS.imp ps_pass fun E σ H ⟨w, env, tb, s, hc, e, p⟩ => PostS.nxt (e := env) (tb := tb) p s e
theorem s_brk : DS X c W (.Break pos) mBrk := PS.imp ps_break fun E σ H ⟨w, env, tb, s, hc, e, p⟩ => p w σ H (.refl w) s e
theorem s_cnt : DS X c W (.Continue pos) mCnt := PS.imp ps_continue fun E σ H ⟨w, env, tb, s, hc, e, p⟩ => p w σ H (.refl w) s e
theorem s_doc {x j pos'} : DS X c W (.Expr (.Constant (.str x) j pos) pos') mSkip := PS.imp ps_doc fun E σ H ⟨w, env, tb, s, hc, e, p⟩ => PostS.nxt (e := env) (tb := tb) p s e
theorem s_ret (h : DE X c W e me) : DS X c W (.Return (some e) pos) (mRet me) := PS.imp (ps_ret h) fun E σ H ⟨w, env, tb, s, hc, e, p⟩ =>
  ⟨w, env, tb, s, hc, e, Post.stS e p fun d tb1 w1 H1 v l1 s1 r1 p1 => p1.ret s1 r1⟩
theorem s_retN : DS X c W (.Return none pos) mRetN := PS.imp ps_retN fun E σ H ⟨w, env, tb, s, hc, e, p⟩ => PostS.ret (d := .non) p s .non
theorem s_expr (h : DE X c W e me) (hs : swapsWith e none pos.line X.env = pure false := by rfl) : DS X c W (.Expr e pos) (mExpr me) := PS.imp (ps_expr h hs) fun E σ H ⟨w, env, tb, s, hc, e, p⟩ =>
  ⟨w, env, tb, s, hc, e, Post.stS e p fun d tb1 w1 H1 v l1 s1 r1 p1 => p1.nxt s1 (e.up l1)⟩
theorem s_if {t : Expr} {mt : MT} {a b : List Stmt} (ht : DT X c W t mt) (ha : DSs X c W a m) (hb : DSs X c W b m') : DS X c W (.If t a b pos) (mIf mt m m') := PS.imp (ps_if ht ha hb) fun E σ H ⟨w, env, tb, s, hc, e, p⟩ =>
  ⟨w, env, tb, s, hc, e, Post.stS e p fun k tb1 w1 H1 v l1 s1 r1 p1 => by
    subst r1
    cases k with
    | true => rw [if_pos rfl] at p1 ⊢; exact ⟨w1, env, tb1, s1, l1.cur.trans hc, e.up l1, p1⟩
    | false => rw [if_neg Bool.false_ne_true] at p1 ⊢; exact ⟨w1, env, tb1, s1, l1.cur.trans hc, e.up l1, p1⟩⟩
theorem s_set {i : Nat} {x : Str} {pos' : Pos} (hN : X.N.Nodup) (hi : X.N[i]? = some x) (hx : Loc X.env.scope x) (h : DE X c W e me) (hs : swapsWith e (some (.Name x pos')) pos.line X.env = pure false := by rfl)
    (hf : X.fn x = true ∨ X.env.scope.names.lookup x = some .local := by first | exact .inl rfl | exact .inr rfl | assumption) : DS X c W (.Assign [.Name x pos'] e pos) (mSet i me) := PS.imp (ps_set hN hi hx h hs hf) fun E σ H ⟨w, env, tb, s, hc, e, p⟩ =>
  ⟨w, env, tb, s, hc, e, Post.stS e p fun d tb1 w1 H1 v l1 s1 r1 p1 => p1.nxt s1 ((e.up l1).set r1)⟩
/-- a, b = x, y -/
def mPar (i j : Nat) (a : MA) : MS := fun env tb => (a env tb).st env fun ds tb => match ds with
  | [x, y] => .nx ((env.set i (some x)).set j (some y)) tb
  | _ => .fail
theorem s_par {i j : Nat} {x y : Str} {a b : Expr} {ma : MA} {px py pt : Pos} {kt k2 pt2} (hc : X.calm = true) (hN : X.N.Nodup) (hi : X.N[i]? = some x) (hj : X.N[j]? = some y) (hij : i ≠ j)
    (hx : X.env.scope.names.lookup x = some .local) (hy : X.env.scope.names.lookup y = some .local) (ha : DA X c W [a, b] ma)
    (hw : swappedStores [.Tuple [.Name x px, .Name y py] kt pt] (.Tuple [a, b] k2 pt2) X.env = pure (some [x, y]))
    (hs : swapsWithSole [.Tuple [.Name x px, .Name y py] kt pt] (.Tuple [a, b] k2 pt2) pos.line X.env = pure false := by rfl) :
    DS X c W (.Assign [.Tuple [.Name x px, .Name y py] kt pt] (.Tuple [a, b] k2 pt2) pos) (mPar i j ma) := PS.imp (ps_par hc hN hi hj hij hx hy ha hw hs) fun E σ H ⟨w, env, tb, s, hc, e, p⟩ =>
  ⟨w, env, tb, s, hc, e, Post.stS e p fun ds tb1 w1 H1 vs l1 s1 r1 p1 => by
    match ds, r1, p1 with
    | [x, y], r1, p1 =>
      obtain ⟨v, u, rfl, rx, ry⟩ := rel2 r1
      exact ⟨v, u, rfl, p1.nxt s1 (((e.up l1).set rx).set ry)⟩
    | [], _, p1 => exact p1.elim
    | [_], _, p1 => exact p1.elim
    | _ :: _ :: _ :: _, _, p1 => exact p1.elim⟩
def mPar3 (i j l : Nat) (a : MA) : MS := fun env tb => (a env tb).st env fun ds tb => match ds with
  | [x, y, z] => .nx (((env.set i (some x)).set j (some y)).set l (some z)) tb
  | _ => .fail
/-- name op= e -/
def mAug (i : Nat) (f : D → D → Tb → Rs D) (a : ME) : MS := fun env tb => (mVar i env tb).st env fun x tb => (a env tb).st env fun y tb => (f x y tb).st env fun z tb => .nx (env.set i (some z)) tb
theorem ip_of {X : Cx} {op : Operator} {r : R2} (h : OpR X (inplaceOp op) r) : PIp X op r := fun pins s σ H x y v u Q I rx ry q => h pins s σ H x y v u Q I rx ry q
theorem s_aug {i : Nat} {x : Str} {op : Operator} {f : D → D → Tb → Rs D} {r : R2} {pos' : Pos} (hN : X.N.Nodup) (hi : X.N[i]? = some x) (hx : Loc X.env.scope x) (h : DE X c W e me) (ho : OpR X (inplaceOp op) r) (ok : OpOk X.K c f r)
    (hf : X.fn x = true ∨ X.env.scope.names.lookup x = some .local := by first | exact .inl rfl | exact .inr rfl | assumption) : DS X c W (.AugAssign (.Name x pos') op e pos) (mAug i f me) := PS.imp (ps_aug hN hi hx h (ip_of ho) hf) fun E σ H ⟨w, env, tb, s, hc, e, p⟩ => by
  unfold mAug mVar at p
  split at p
  · rename_i d he
    obtain ⟨v, h1, h2⟩ := e.2 i d he
    refine ⟨v, h1, w, env, tb, s, hc, e, Post.stS e p fun y tb1 w1 H1 u l1 s1 r1 p1 => ?_⟩
    exact ok W σ w1 tb1 H1 d y v u _ s1 (h2.up l1) r1 (Post.stS (e.up l1) p1 fun z tb2 w2 H2 zv l2 s2 r2 p2 => p2.nxt s2 ((e.up (l1.trans l2)).set r2))
  · exact p.elim
theorem iop_addD {t : Bool} : OpOk X.K c (fun x y tb => if isI x y = true then opI yes2 (fun i j => i + j) x y tb else addS x y tb) (fun x y H Q => rI0 (fun i j => .int (i + j)) x y H Q ∨ ∃ i j, x = .str i ∧ y = .str j ∧ i.length + j.length ≤ sizeLine ∧ Q (.str (i ++ j)) H) := .or isI rI0_of ok_addS
def iaddD : D → D → Tb → Rs D := fun x y tb => if isI x y = true then opI yes2 (fun i j => i + j) x y tb else addS x y tb
theorem s_augAdd {i : Nat} {x : Str} {pos' : Pos} (hN : X.N.Nodup) (hi : X.N[i]? = some x) (hx : Loc X.env.scope x) (h : DE X c W e me)
    (hf : X.fn x = true ∨ X.env.scope.names.lookup x = some .local := by first | exact .inl rfl | exact .inr rfl | assumption) : DS X c W (.AugAssign (.Name x pos') .Add e pos) (mAug i iaddD me) := s_aug hN hi hx h (iop_add.or iop_add_str) (iop_addD (t := true)) hf
end

/-! ### targets -/
/-- σ' is σ but for the slots of vs (none: no matter which) -/
def SameS (vs : Option (List Nat)) (σ σ' : L2.St) : Prop := σ'.length = σ.length ∧ match vs with
  | some vs => ∀ j, j ∉ vs → σ'[j]? = σ[j]?
  | none => True
theorem SameS.refl (vs : Option (List Nat)) (σ : L2.St) : SameS vs σ σ := ⟨rfl, by cases vs <;> simp⟩
theorem SameS.trans {vs : Option (List Nat)} {a b d : L2.St} (h : SameS vs a b) (h' : SameS vs b d) : SameS vs a d := ⟨h'.1.trans h.1, by
  cases vs with
  | none => trivial
  | some vs => exact fun j hj => (h'.2 j hj).trans (h.2 j hj)⟩
def inSl (i : Nat) : Option (List Nat) → Bool
  | none => true
  | some vs => decide (i ∈ vs)
theorem SameS.set {vs : Option (List Nat)} {i : Nat} (h : inSl i vs = true) (σ : L2.St) (v : Option V) : SameS vs σ (σ.set i v) := ⟨by simp, by
  cases vs with
  | none => trivial
  | some vs =>
    intro j hj
    rw [List.getElem?_set_ne]
    rintro rfl
    exact hj (by simpa [inSl] using h)⟩
def tGt (K : PySem.W.Frag) (c : Cc) (L : Option (List Nat)) (g : MG) : TG := fun v σ H Q => ∃ w env tb d, Sim K c.cA w tb H ∧ w.cur = c.cur ∧ RelE K w env σ ∧ RelD K w d v ∧ ∃ r, g d env tb = some r ∧ ∀ w' σ' H', w.Le w' → Sim K c.cA w' r.2 H' → RelE K w' r.1 σ' → SameS L σ σ' → Q σ' H'
def tGs (K : PySem.W.Frag) (c : Cc) (L : Option (List Nat)) (g : MGs) : TGs := fun vs σ H Q => ∃ w env tb ds, Sim K c.cA w tb H ∧ w.cur = c.cur ∧ RelE K w env σ ∧ RelDs K w ds vs ∧ ∃ r, g ds env tb = some r ∧ ∀ w' σ' H', w.Le w' → Sim K c.cA w' r.2 H' → RelE K w' r.1 σ' → SameS L σ σ' → Q σ' H'
def DG (X : Cx) (c : Cc) (L : Option (List Nat)) (tg : Expr) (g : MG) : Prop := PG X tg (tGt X.K c L g)
def DGs (X : Cx) (c : Cc) (L : Option (List Nat)) (tg : List Expr) (g : MGs) : Prop := PGs X tg (tGs X.K c L g)
def gN (i : Nat) : MG := fun d env tb => some (env.set i (some d), tb)
def gZ : MGs := fun ds env tb => match ds with
  | [] => some (env, tb)
  | _ => none
def gC (g : MG) (r : MGs) : MGs := fun ds env tb => match ds with
  | d :: ds => match g d env tb with
    | some (e, t) => r ds e t
    | none => none
  | [] => none
def gT (n : Nat) (g : MGs) : MG := fun d env tb => match seq? d tb with
  | some ds => if ds.length = n then g ds env tb else none
  | none => none
section
variable {X : Cx} {c : Cc} {pos : Pos} {L : Option (List Nat)}
theorem g_name {i : Nat} {x : Str} (hN : X.N.Nodup) (hi : X.N[i]? = some x) (hx : Loc X.env.scope x) (hf : X.fn x = true ∨ X.env.scope.names.lookup x = some .local := by first | exact .inl rfl | exact .inr rfl | assumption) (hL : inSl i L = true := by rfl) : DG X c L (.Name x pos) (gN i) :=
  PG.imp (pg_name hN hi hx hf) fun v σ H Q ⟨w, env, tb, d, s, hc, e, r, z, hz, k⟩ => by
    cases hz
    exact k w _ H (.refl w) s (e.set r) (SameS.set hL σ _)
theorem gs_nil : DGs X c L [] gZ := PGs.imp pgs_nil fun vs σ H Q ⟨w, env, tb, ds, s, hc, e, r, z, hz, k⟩ => by
  cases r with
  | nil => cases hz; exact ⟨rfl, k w σ H (.refl w) s e (.refl L σ)⟩
  | cons _ _ => cases hz
theorem gs_cons {x : Expr} {es : List Expr} {g : MG} {gr : MGs} (h1 : DG X c L x g) (h2 : DGs X c L es gr) (hs : (assignEach (x :: es) X.env).map (·.2) = assign x X.env :: (assignEach es X.env).map (·.2) := by rfl) : DGs X c L (x :: es) (gC g gr) :=
  PGs.imp (pgs_cons h1 h2 hs) fun vs σ H Q ⟨w, env, tb, ds, s, hc, e, r, z, hz, k⟩ => by
    cases r with
    | nil => cases hz
    | @cons d v ds vs r1 r2 =>
      unfold gC at hz
      dsimp only at hz
      split at hz
      · rename_i e1 t1 he
        exact ⟨v, vs, rfl, w, env, tb, d, s, hc, e, r1, (e1, t1), he, fun w1 σ1 H1 l1 s1 e1' q1 => ⟨w1, e1, t1, ds, s1, l1.cur.trans hc, e1', r2.up l1, z, hz, fun w2 σ2 H2 l2 s2 e2 q2 => k w2 σ2 H2 (l1.trans l2) s2 e2 (q1.trans q2)⟩⟩
      · cases hz
theorem PG.or {X : Cx} {e : Expr} {t t' : TG} (h : PG X e t) (h' : PG X e t') : PG X e (fun v σ H Q => t v σ H Q ∨ t' v σ H Q) := ⟨fun pins s σ H v u Q I r q => q.elim (h.run pins s σ H v u Q I r) (h'.run pins s σ H v u Q I r)⟩
theorem g_tup {es : List Expr} {k : Nat} {g : MGs} {n : Nat} (hc : X.calm = true) (h : DGs X c L es g) (hn : (assignEach es X.env).length = n := by rfl) (hst : (assignEach es X.env).findIdx? (·.1) = none := by rfl) : DG X c L (.Tuple es k pos) (gT n g) :=
  PG.imp (PG.or (pg_tup hc h hn hst) (pg_unl hc h hn hst)) fun v σ H Q ⟨w, env, tb, d, s, hc, e, r, z, hz, k⟩ => by
    unfold gT at hz
    split at hz
    · rename_i ds hd
      obtain ⟨a, vs, rfl, ha, rs⟩ := s.seqAt r hd
      by_cases q : ds.length = n
      · rw [if_pos q] at hz
        rcases ha with ha | ha
        · exact .inr ⟨a, vs, rfl, ha, rs.length.symm.trans q, w, env, tb, ds, s, hc, e, rs, z, hz, k⟩
        · exact .inl ⟨a, vs, rfl, ha, rs.length.symm.trans q, w, env, tb, ds, s, hc, e, rs, z, hz, k⟩
      · rw [if_neg q] at hz; cases hz
    · cases hz
/-- target = e -/
def mAsg (a : ME) (g : MG) : MS := fun env tb => (a env tb).st env fun d tb => match g d env tb with
  | some (e, t) => .nx e t
  | none => .fail
theorem s_asg {tg e : Expr} {W : WX} {me : ME} {g : MG} (he : DE X c W e me) (hg : DG X c none tg g) (hs : swapsWithSole [tg] e pos.line X.env = pure false := by rfl) (hw : swappedStores [tg] e X.env = pure none := by rfl)
    (h1 : (assignEach [tg] X.env).map (·.2) = [assign tg X.env] := by rfl) : DS X c W (.Assign [tg] e pos) (mAsg me g) := PS.imp (ps_asg he hg hs hw h1) fun E σ H ⟨w, env, tb, s, hc, e, p⟩ =>
  ⟨w, env, tb, s, hc, e, Post.stS e p fun d tb1 w1 H1 v l1 s1 r1 p1 => by
    cases q : g d env tb1 with
    | some r =>
      rw [q] at p1
      exact ⟨w1, env, tb1, d, s1, l1.cur.trans hc, e.up l1, r1, r, q, fun w2 σ2 H2 l2 s2 e2 _ => p1 w2 σ2 H2 l2 s2 e2⟩
    | none => rw [q] at p1; exact p1.elim⟩
/-- o[i] = v -/
def setD (x y v : D) (tb : Tb) : Option Tb := match x with
  | .ref n => match tb[n]? with
    | some (.lst xs) => match y with
      | .int i => match ixN xs.length i with
        | some j => some (tb.set n (.lst (xs.set j v)))
        | none => none
      | _ => none
    | some (.dic t kvs) => match dkOf y with
      | some k => if k.fits t = true ∧ kvs.length < LIM then some (tb.set n (.dic t (dput kvs k v))) else none
      | none => none
    | _ => none
  | _ => none
theorem set_dict {X : Cx} (hu : X.A.units + 1 < cLine) : PSet X (fun o i v H Q => ∃ a H', o = .ref a ∧ DPut H a i v H' ∧ Q H') := by
  intro pins s σ H o i v ov iv u Q I ro ri rv h
  obtain ⟨a, H', rfl, g, q⟩ := h
  obtain rfl : ov = Value.ref a := ro
  exact d_setItem hu I g ri rv fun s4 I4 => ⟨H', I4, q⟩
theorem PSet.or {X : Cx} {t t' : TSet} (h : PSet X t) (h' : PSet X t') : PSet X (fun o i v H Q => t o i v H Q ∨ t' o i v H Q) := fun pins s σ H o i v ov iv u Q I ro ri rv q => q.elim (h pins s σ H o i v ov iv u Q I ro ri rv) (h' pins s σ H o i v ov iv u Q I ro ri rv)
end
/-- tuple keys: a store -/
theorem relTs_any {K : PySem.W.Frag} {w : Wd} {kvs : List (DK × D)} {vs : List (List Key × V)} (r : RelTs K w kvs vs) (k : List (Int ⊕ List Nat)) :
    (kvs.any fun kv => decide (kv.1 = .t k)) = vs.any fun kv => decide (kv.1 = k.map keyOf) := by
  induction kvs generalizing vs with
  | nil => cases r; rfl
  | cons p kvs ih =>
    cases r with
    | @cons n d v _ vs a t =>
      have e : decide (DK.t n = .t k) = decide (n.map keyOf = k.map keyOf) := by
        by_cases q : n = k
        · subst q; simp
        · rw [decide_eq_false (by simpa using q), decide_eq_false (fun z => q (map_keyOf_inj z))]
      simp only [List.any_cons, e, ih t]
theorem relTs_append {K : PySem.W.Frag} {w : Wd} {a b : List (DK × D)} {vs us : List (List Key × V)} (r : RelTs K w a vs) (r' : RelTs K w b us) : RelTs K w (a ++ b) (vs ++ us) := by
  induction a generalizing vs with
  | nil => cases r; exact r'
  | cons p a ih => cases r with | cons h t => exact .cons h (ih t)
theorem relTs_repl {K : PySem.W.Frag} {w : Wd} {kvs : List (DK × D)} {vs : List (List Key × V)} (r : RelTs K w kvs vs) (k : List (Int ⊕ List Nat)) {d : D} {v : V} (rd : RelD K w d v) :
    RelTs K w (kvs.map fun kv => if kv.1 = .t k then (kv.1, d) else kv) (vs.map fun kv => if kv.1 = k.map keyOf then (kv.1, v) else kv) := by
  induction kvs generalizing vs with
  | nil => cases r; exact .nil
  | cons p kvs ih =>
    cases r with
    | @cons n x y _ vs a t =>
      rw [List.map_cons, List.map_cons]
      by_cases q : n = k
      · subst q
        simp only [if_true]
        exact .cons rd (ih t)
      · have q2 : ¬ n.map keyOf = k.map keyOf := fun z => q (map_keyOf_inj z)
        have q1 : ¬ DK.t n = .t k := fun z => q (by injection z)
        simp only [q1, q2, if_false]
        exact .cons a (ih t)
theorem relTs_put {K : PySem.W.Frag} {w : Wd} {kvs : List (DK × D)} {vs : List (List Key × V)} (r : RelTs K w kvs vs) (k : List (Int ⊕ List Nat)) {d : D} {v : V} (rd : RelD K w d v) : RelTs K w (dput kvs (.t k) d) (putK vs (k.map keyOf) v) := by
  unfold dput putK
  rw [relTs_any r k]
  split
  · exact relTs_repl r k rd
  · exact relTs_append r (.cons rd .nil)
section
variable {X : Cx} {c : Cc} {pos : Pos} {W : WX}
def mSub (v o i : ME) : MS := fun env tb => (v env tb).st env fun v tb => (o env tb).st env fun o tb => (i env tb).st env fun i tb => match setD o i v tb with
  | some tb => .nx env tb
  | none => .fail
theorem setD_ok {K : PySem.W.Frag} {w : Wd} {tb tb' : Tb} {H : Hp} {x y d : D} {xv yv v : V} {Q : Hp → Prop} (s : Sim K c.cA w tb H) (rx : RelD K w x xv) (ry : RelD K w y yv) (rd : RelD K w d v) (h : setD x y d tb = some tb')
    (k : ∀ H', Sim K c.cA w tb' H' → Q H') : rSetL xv yv v H Q ∨ ∃ a H', xv = .ref a ∧ DPut H a yv v H' ∧ Q H' := by
  unfold setD at h
  split at h
  · rename_i n
    cases rx with
    | @ref _ a e =>
      split at h
      · rename_i xs g
        obtain ⟨vs, h1, h2⟩ := s.obs n a _ e g
        split at h
        · rename_i i
          cases ry
          split at h
          · rename_i j ej
            cases h
            exact .inl ⟨a, vs, i, j, rfl, rfl, h1, by rw [← h2.length]; exact ej, k _ (s.put e g rfl rfl ⟨_, upd_same, h2.set rd⟩)⟩
          · cases h
        · cases h
      · rename_i t kvs g
        split at h
        · rename_i dk ek
          by_cases q : dk.fits t = true ∧ kvs.length < LIM
          · rw [if_pos q] at h
            cases h
            refine .inr ⟨a, ?_⟩
            cases t with
            | false =>
              obtain ⟨vs, h1, h2⟩ := s.obs n a _ e g
              have hl : vs.length < sizeLine := by rw [← relKs_len h2]; exact lt_lim q.2
              cases ry with
              | int i =>
                cases ek
                exact ⟨_, rfl, .inl ⟨vs, .inl i, h1, rfl, hl, rfl⟩, k _ (s.put e g rfl rfl ⟨_, upd_same, relKs_put h2 (k := .inl i) rfl rd⟩)⟩
              | str cs =>
                cases ek
                exact ⟨_, rfl, .inl ⟨vs, .inr (tx cs), h1, rfl, hl, rfl⟩, k _ (s.put e g rfl rfl ⟨_, upd_same, relKs_put h2 (k := .inr cs) rfl rd⟩)⟩
              | tup e2 r2 =>
                simp only [dkOf, Option.map_eq_some_iff] at ek
                obtain ⟨ks, _, rfl⟩ := ek
                cases q.1
              | _ => cases ek
            | true =>
              obtain ⟨vs, h1, h2⟩ := s.obs n a _ e g
              have hl : vs.length < sizeLine := by rw [← relTs_len h2]; exact lt_lim q.2
              cases ry with
              | int i => cases ek; cases q.1
              | str i => cases ek; cases q.1
              | @tup ys b us e2 r2 =>
                simp only [dkOf, Option.map_eq_some_iff] at ek
                obtain ⟨ks, hks, rfl⟩ := ek
                obtain ⟨b', us', eb, hb, r'⟩ := s.tupAt (xs := ys) (.tup e2 r2) rfl
                cases eb
                rw [tupKeys r' hks] at hb
                exact ⟨_, rfl, .inr ⟨vs, ks.map keyOf, b, h1, rfl, hb, hl, rfl⟩, k _ (s.put e g rfl rfl ⟨_, upd_same, relTs_put h2 ks rd⟩)⟩
              | _ => cases ek
          · rw [if_neg q] at h; cases h
        · cases h
      · cases h
  · cases h
theorem s_sub {o i e : Expr} {mo mi me : ME} {pos' : Pos} (hu : X.A.units + 1 < cLine) (ho : DE X c W o mo) (hi : DE X c W i mi) (he : DE X c W e me)
    (ha : ∀ v, assign (.Subscript o i pos') X.env v = (do
      let ov ← holding [v] (eval o X.env)
      let iv ← holding [v, ov] (eval i X.env)
      standAt pos'
      holding [v, ov, iv] (setItem ov iv v)
      release [v, ov, iv] []) := by intro _; rfl)
    (hs : swapsWithSole [.Subscript o i pos'] e pos.line X.env = pure false := by rfl) (hw : swappedStores [.Subscript o i pos'] e X.env = pure none := by rfl)
    (h1 : (assignEach [.Subscript o i pos'] X.env).map (·.2) = [assign (.Subscript o i pos') X.env] := by rfl) : DS X c W (.Assign [.Subscript o i pos'] e pos) (mSub me mo mi) :=
  PS.imp (ps_asg he (pg_sub ho hi (PSet.or set_list (set_dict hu)) ha) hs hw h1) fun E σ H ⟨w, env, tb, s, hc, e, p⟩ =>
    ⟨w, env, tb, s, hc, e, Post.stS e p fun d tb1 w1 H1 v l1 s1 r1 p1 => ⟨w1, env, tb1, s1, l1.cur.trans hc, e.up l1, Post.stS (e.up l1) p1 fun o tb2 w2 H2 ov l2 s2 r2 p2 =>
      ⟨w2, env, tb2, s2, (l1.trans l2).cur.trans hc, e.up (l1.trans l2), Post.stS (e.up (l1.trans l2)) p2 fun i tb3 w3 H3 iv l3 s3 r3 p3 => by
        cases q : setD o i d tb3 with
        | some tb4 =>
          rw [q] at p3
          exact setD_ok s3 (r2.up l3) r3 (r1.up (l2.trans l3)) q fun H' s4 => p3.nxt s4 (e.up ((l1.trans l2).trans l3))
        | none => rw [q] at p3; exact p3.elim⟩⟩⟩
end
end L2.G
set_option maxHeartbeats 4000000
/-! F8: hidden cells, locked dicts, what is walked, loops, list comprehensions. -/
namespace L2.G
open PySem PySem.Spec PyProof.Rows

/-! ### worlds that hide more -/
structure Wd.LeI (w w' : Wd) : Prop where
  r : w.LeR w'
  cur : w'.cur = w.cur
  hid : ∀ (a : Addr) (o : HO), w.hid a = some o → w'.hid a = some o
theorem Wd.LeI.refl (w : Wd) : w.LeI w := ⟨.refl w, rfl, fun _ _ h => h⟩
theorem Wd.LeI.trans {a b c : Wd} (x : a.LeI b) (y : b.LeI c) : a.LeI c := ⟨x.r.trans y.r, y.cur.trans x.cur, fun p o h => y.hid p o (x.hid p o h)⟩
theorem Wd.Le.toI {a b : Wd} (x : a.Le b) : a.LeI b := ⟨x.r, x.cur, fun p o h => by rw [x.hid]; exact h⟩
def Wd.hide (w : Wd) (p : Addr) (o : HO) : Wd := { w with hid := upd w.hid p o }
def Wd.withHid (w : Wd) (h : Hp) : Wd := { w with hid := h }
theorem Wd.leR_hid {w : Wd} {h : Hp} : w.LeR (w.withHid h) := ⟨Same.refl _, fun _ _ h => h⟩
theorem Wd.leR_hid' {w : Wd} {h : Hp} : (w.withHid h).LeR w := ⟨Same.refl _, fun _ _ h => h⟩
section
variable {K : PySem.W.Frag} {cA : Nat → Addr} {w w' : Wd} {tb : Tb} {H H' : Hp}
/-- a dict's contents -/
def DicH (K : PySem.W.Frag) (w : Wd) (u : HO) (kvs : List (DK × D)) : Bool → Prop
  | false => ∃ vs, u = .dK vs ∧ RelKs K w kvs vs
  | true => ∃ vs, u = .dT vs ∧ RelTs K w kvs vs
theorem DicH.up {u : HO} {kvs : List (DK × D)} {t : Bool} (h : DicH K w u kvs t) (l : w.LeR w') : DicH K w' u kvs t := by
  cases t with
  | false => obtain ⟨vs, e, r⟩ := h; exact ⟨vs, e, RelKs.mono l _ _ r⟩
  | true => obtain ⟨vs, e, r⟩ := h; exact ⟨vs, e, RelTs.mono l _ _ r⟩
theorem DicH.is {u : HO} {kvs : List (DK × D)} {t : Bool} (h : DicH K w u kvs t) : isDicH u = true := by
  cases t with
  | false => obtain ⟨vs, rfl, r⟩ := h; rfl
  | true => obtain ⟨vs, rfl, r⟩ := h; rfl
theorem isDicH_mut {u : HO} (h : isDicH u = true) : Mut (some u) := by cases u <;> first | trivial | cases h
theorem isDicH_nf {u : HO} (h : isDicH u = true) (od : Obj) (v : HO) : u ≠ .frz od v := by rintro rfl; cases h
theorem obDic {a : Addr} {t : Bool} {kvs : List (DK × D)} : ObRel K cA w H a (.dic t kvs) ↔ ∃ u, H a = some u ∧ DicH K w u kvs t := by
  cases t with
  | false => exact ⟨fun ⟨vs, h, r⟩ => ⟨_, h, vs, rfl, r⟩, fun ⟨u, h, vs, e, r⟩ => ⟨vs, e ▸ h, r⟩⟩
  | true => exact ⟨fun ⟨vs, h, r⟩ => ⟨_, h, vs, rfl, r⟩, fun ⟨u, h, vs, e, r⟩ => ⟨vs, e ▸ h, r⟩⟩
theorem obLck {a : Addr} {t : Bool} {kvs : List (DK × D)} : ObRel K cA w H a (.lck t kvs) ↔ ∃ od u, H a = some (.frz od u) ∧ w.hid a = some (.frz od u) ∧ DicH K w u kvs t := by
  cases t with
  | false => exact ⟨fun ⟨od, vs, h, h2, r⟩ => ⟨od, _, h, h2, vs, rfl, r⟩, fun ⟨od, u, h, h2, vs, e, r⟩ => ⟨od, vs, e ▸ h, e ▸ h2, r⟩⟩
  | true => exact ⟨fun ⟨od, vs, h, h2, r⟩ => ⟨od, _, h, h2, vs, rfl, r⟩, fun ⟨od, u, h, h2, vs, e, r⟩ => ⟨od, vs, e ▸ h, e ▸ h2, r⟩⟩
/-- an object's relation where its own cell, hidden or not, stands -/
theorem ObRel.upI {a : Addr} {o : Ob} (h : ObRel K cA w H a o) (l : w.LeR w') (hc : w'.cur = w.cur) (e : o.mut = true → H' a = H a ∧ (o.wr = false → w'.hid a = w.hid a)) : ObRel K cA w' H' a o := by
  cases o with
  | lst xs => obtain ⟨vs, h1, h2⟩ := h; exact ⟨vs, (e rfl).1.trans h1, h2.upR l⟩
  | dic t kvs => obtain ⟨u, h1, h2⟩ := obDic.mp h; exact obDic.mpr ⟨u, (e rfl).1.trans h1, h2.up l⟩
  | ins c fs => obtain ⟨dx, gs, h1, vs, h2, h3⟩ := h; exact ⟨dx, gs, (e rfl).1.trans h1, vs, h2.upR l, h3⟩
  | exc c fs => obtain ⟨dx, gs, h1, h2, vs, h3, h4⟩ := h; exact ⟨dx, gs, hc.trans h1, l.hf _ _ h2, vs, h3.upR l, h4⟩
  | dead => trivial
  | lck t kvs => obtain ⟨od, u, h1, h2, h3⟩ := obLck.mp h; exact obLck.mpr ⟨od, u, (e rfl).1.trans h1, ((e rfl).2 rfl).trans h2, h3.up l⟩
/-- what is hidden is no tracked thing of its own, but for a lock -/
theorem Sim.hidNe (s : Sim K cA w tb H) {p : Addr} {o : HO} (h : w.hid p = some o) (nf : ∀ od u, o ≠ .frz od u) {n : Nat} {a : Addr} {ob : Ob} (h1 : w.rho[n]? = some a) (h2 : tb[n]? = some ob) (m : ob.mut = true) : a ≠ p := by
  rintro rfl
  cases q : ob.wr with
  | true => rw [s.hsp n a ob h1 h2 q] at h; cases h
  | false =>
    cases ob with
    | lck t kvs =>
      obtain ⟨od, u, _, e, _⟩ := obLck.mp (s.obs n a _ h1 h2)
      rw [h] at e
      exact nf _ _ (Option.some.inj e)
    | dead => cases m
    | exc c fs => cases m
    | _ => cases q
/-- a new cell, hidden -/
theorem Sim.hideO (s : Sim K cA w tb H) {p : Addr} {o : HO} (ho : hidK o = true) (hp : H p = none) : Sim K cA (w.hide p o) tb (upd H p o) := by
  have hf := s.hfNone hp
  have ne : ∀ (a : Addr) (u : HO), H a = some u → a ≠ p := fun a u e => ne_of_none e hp
  have s2 := s.more (o := o) hp
  have lR : w.LeR (w.hide p o) := ⟨Same.refl _, fun _ _ h => h⟩
  refine ⟨fun a u e => ?_, s.len, fun n a u h1 h2 => (s2.obs n a u h1 h2).upI lR rfl fun m => ⟨rfl, fun _ => ?_⟩, s.off, s.sep, fun a u e => ?_, fun n a u h1 h2 m => ?_⟩
  · rcases s2.fro a u e with h | ⟨d, ob, h, h'⟩
    · exact .inl h
    · refine .inr ⟨d, ob, h, ?_⟩
      have hh : w.hid a = some (.frz ob u) := h'
      show upd w.hid p o a = _
      rw [upd_ne (ne _ _ (s.hid a _ hh).1)]; exact hh
  · obtain ⟨v, hv⟩ := (s.obs n a u h1 h2).there m
    show upd w.hid p o a = _
    rw [upd_ne (ne _ _ hv)]
  · by_cases ha : a = p
    · subst ha
      have e' : upd w.hid a o a = some u := e
      rw [upd_same] at e'; cases e'
      exact ⟨upd_same, .inl ⟨hf, ho⟩⟩
    · have e' : upd w.hid p o a = some u := e
      rw [upd_ne ha] at e'
      exact ⟨(s2.hid a u e').1, (s.hid a u e').2⟩
  · obtain ⟨v, hv⟩ := (s.obs n a u h1 h2).there (Ob.wr_mut m)
    show upd w.hid p o a = none
    rw [upd_ne (ne _ _ hv)]
    exact s.hsp n a u h1 h2 m
/-- a hidden cell is written -/
theorem Sim.rehideO (s : Sim K cA w tb H) {p : Addr} {o o' : HO} (ho : hidK o' = true) (h : w.hid p = some o) (nf : ∀ od u, o ≠ .frz od u) : Sim K cA (w.hide p o') tb (upd H p o') := by
  have hf : w.Hf p = none := by
    rcases (s.hid p o h).2 with ⟨q, _⟩ | ⟨od, u, q⟩
    · exact q
    · exact absurd q (nf od u)
  have lR : w.LeR (w.hide p o') := ⟨Same.refl _, fun _ _ h => h⟩
  refine ⟨fun a u e => ?_, s.len, fun n a u h1 h2 => (s.obs n a u h1 h2).upI lR rfl fun m => ?_, s.off, s.sep, fun a u e => ?_, fun n a u h1 h2 m => ?_⟩
  · have ne : a ≠ p := ne_of_none e hf
    rcases s.fro a u e with h | ⟨d, ob, h, h'⟩
    · exact .inl (by rw [upd_ne ne]; exact h)
    · exact .inr ⟨d, ob, by rw [upd_ne ne]; exact h, by show upd w.hid p o' a = _; rw [upd_ne ne]; exact h'⟩
  · have ne := s.hidNe h nf h1 h2 m
    exact ⟨by rw [upd_ne ne], fun _ => by show upd w.hid p o' a = _; rw [upd_ne ne]⟩
  · by_cases ha : a = p
    · subst ha
      have e' : upd w.hid a o' a = some u := e
      rw [upd_same] at e'; cases e'
      exact ⟨upd_same, .inl ⟨hf, ho⟩⟩
    · have e' : upd w.hid p o' a = some u := e
      rw [upd_ne ha] at e'
      exact ⟨by rw [upd_ne ha]; exact (s.hid a u e').1, (s.hid a u e').2⟩
  · have ne := s.hidNe h nf h1 h2 (Ob.wr_mut m)
    show upd w.hid p o' a = none
    rw [upd_ne ne]
    exact s.hsp n a u h1 h2 m
theorem Sim.hide (s : Sim K cA w tb H) {p : Addr} {xs : List V} (hp : H p = none) : Sim K cA (w.hide p (.lst xs)) tb (upd H p (.lst xs)) := s.hideO rfl hp
theorem Sim.rehide (s : Sim K cA w tb H) {p : Addr} {o : HO} {ys : List V} (h : w.hid p = some o) (nf : ∀ od u, o ≠ .frz od u) : Sim K cA (w.hide p (.lst ys)) tb (upd H p (.lst ys)) := s.rehideO rfl h nf
/-- a hidden cell comes forth: frozen -/
theorem Sim.forthF (s : Sim K cA w tb H) {p : Addr} {o : HO} {h0 : Hp} (hw : w.hid = upd h0 p o) (h0p : h0 p = none) (nf : ∀ od u, o ≠ .frz od u) :
    w.LeR ((w.withHid h0).fz p o) ∧ Sim K cA ((w.withHid h0).fz p o) tb H := by
  have hp : w.hid p = some o := by rw [hw]; exact upd_same
  have hf : w.Hf p = none := by
    rcases (s.hid p o hp).2 with ⟨q, _⟩ | ⟨od, u, q⟩
    · exact q
    · exact absurd q (nf od u)
  have h0e : ∀ a, a ≠ p → h0 a = w.hid a := fun a ha => by rw [hw, upd_ne ha]
  have lR : w.LeR ((w.withHid h0).fz p o) := ⟨fun b u e => by show upd w.Hf p o b = _; rw [upd_ne (ne_of_none e hf)]; exact e, fun _ _ h => h⟩
  refine ⟨lR, ⟨fun a u e => ?_, s.len, fun n a u h1 h2 => (s.obs n a u h1 h2).upI lR rfl fun m => ⟨rfl, fun _ => h0e a (s.hidNe hp nf h1 h2 m)⟩, fun n a u h1 h2 m => ?_, s.sep, fun a u e => ?_, fun n a u h1 h2 m => ?_⟩⟩
  · by_cases ha : a = p
    · subst ha
      have e' : upd w.Hf a o a = some u := e
      rw [upd_same] at e'; cases e'
      exact .inl (s.hid a o hp).1
    · have e' : upd w.Hf p o a = some u := e
      rw [upd_ne ha] at e'
      rcases s.fro a u e' with h | ⟨d, ob, h, h'⟩
      · exact .inl h
      · exact .inr ⟨d, ob, h, (h0e a ha).trans h'⟩
  · show upd w.Hf p o a = none
    rw [upd_ne (s.hidNe hp nf h1 h2 m)]
    exact s.off n a u h1 h2 m
  · have ha : a ≠ p := fun z => by
      have e' : h0 a = some u := e
      rw [z, h0p] at e'; cases e'
    have e' : w.hid a = some u := (h0e a ha).symm.trans e
    refine ⟨(s.hid a u e').1, ?_⟩
    show (upd w.Hf p o a = none ∧ _) ∨ _
    rw [upd_ne ha]
    exact (s.hid a u e').2
  · exact (h0e a (s.hidNe hp nf h1 h2 (Ob.wr_mut m))).trans (s.hsp n a u h1 h2 m)
/-- .. tracked -/
theorem Sim.forthT (s : Sim K cA w tb H) {p : Addr} {o : HO} {h0 : Hp} {ob : Ob} (hw : w.hid = upd h0 p o) (h0p : h0 p = none) (nf : ∀ od u, o ≠ .frz od u) (r : ObRel K cA ((w.withHid h0).push p) H p ob) :
    w.LeR ((w.withHid h0).push p) ∧ Sim K cA ((w.withHid h0).push p) (tb ++ [ob]) H := by
  have hp : w.hid p = some o := by rw [hw]; exact upd_same
  have hf : w.Hf p = none := by
    rcases (s.hid p o hp).2 with ⟨q, _⟩ | ⟨od, u, q⟩
    · exact q
    · exact absurd q (nf od u)
  have h0e : ∀ a, a ≠ p → h0 a = w.hid a := fun a ha => by rw [hw, upd_ne ha]
  have hl : (w.withHid h0).rho.length = tb.length := s.len
  have lR : w.LeR ((w.withHid h0).push p) := (Wd.leR_hid (h := h0)).trans ((w.withHid h0).le_push p).r
  refine ⟨lR, ⟨fun a u e => ?_, by show (w.rho ++ [p]).length = (tb ++ [ob]).length; simp [s.len], fun n a u h1 h2 => ?_, fun n a u h1 h2 m => ?_, fun n m a u u' nm h1 h2 h3 h4 m1 m2 => ?_, fun a u e => ?_, fun n a u h1 h2 m => ?_⟩⟩
  · have ha : a ≠ p := ne_of_none e hf
    rcases s.fro a u e with h | ⟨d, ob, h, h'⟩
    · exact .inl h
    · exact .inr ⟨d, ob, h, (h0e a ha).trans h'⟩
  · rcases get_push h1 with g1 | ⟨e1, rfl⟩
    · rcases get_push h2 with g2 | ⟨e2, rfl⟩
      · exact (s.obs n a u g1 g2).upI lR rfl fun m => ⟨rfl, fun _ => h0e a (s.hidNe hp nf g1 g2 m)⟩
      · have := (List.getElem?_eq_some_iff.mp g1).1; omega
    · rcases get_push h2 with g2 | ⟨e2, rfl⟩
      · have := (List.getElem?_eq_some_iff.mp g2).1; omega
      · exact r
  · show w.Hf a = none
    rcases get_push h1 with g1 | ⟨e1, rfl⟩
    · rcases get_push h2 with g2 | ⟨e2, rfl⟩
      · exact s.off n a u g1 g2 m
      · have := (List.getElem?_eq_some_iff.mp g1).1; omega
    · exact hf
  · rcases get_push h1 with g1 | ⟨e1, q1⟩
    · rcases get_push h3 with g3 | ⟨e3, rfl⟩
      · rcases get_push h2 with g2 | ⟨e2, q2⟩
        · rcases get_push h4 with g4 | ⟨e4, rfl⟩
          · exact s.sep n m a u u' nm g1 g2 g3 g4 m1 m2
          · have := (List.getElem?_eq_some_iff.mp g2).1; omega
        · exact s.hidNe hp nf g1 g3 m1 q2
      · have := (List.getElem?_eq_some_iff.mp g1).1; omega
    · rcases get_push h2 with g2 | ⟨e2, q2⟩
      · rcases get_push h4 with g4 | ⟨e4, rfl⟩
        · exact s.hidNe hp nf g2 g4 m2 q1
        · have := (List.getElem?_eq_some_iff.mp g2).1; omega
      · omega
  · have ha : a ≠ p := fun z => by
      have e' : h0 a = some u := e
      rw [z, h0p] at e'; cases e'
    exact s.hid a u ((h0e a ha).symm.trans e)
  · show h0 a = none
    rcases get_push h1 with g1 | ⟨e1, rfl⟩
    · rcases get_push h2 with g2 | ⟨e2, rfl⟩
      · exact (h0e a (s.hidNe hp nf g1 g2 (Ob.wr_mut m))).trans (s.hsp n a u g1 g2 m)
      · have := (List.getElem?_eq_some_iff.mp g1).1; omega
    · exact h0p
/-- a tracked dict is locked -/
theorem Sim.lockT (s : Sim K cA w tb H) {n : Nat} {a : Addr} {t : Bool} {kvs : List (DK × D)} (h1 : w.rho[n]? = some a) (h2 : tb[n]? = some (.dic t kvs)) :
    w.hid a = none ∧ ∃ u, H a = some u ∧ DicH K w u kvs t ∧ ∀ od, Sim K cA (w.hide a (.frz od u)) (tb.set n (.lck t kvs)) (upd H a (.frz od u)) := by
  obtain ⟨u, hu, dh⟩ := obDic.mp (s.obs n a _ h1 h2)
  have hh := s.hsp n a _ h1 h2 rfl
  have off := s.off n a _ h1 h2 rfl
  have hn : n < tb.length := (List.getElem?_eq_some_iff.mp h2).1
  refine ⟨hh, u, hu, dh, fun od => ?_⟩
  have lR : w.LeR (w.hide a (.frz od u)) := ⟨Same.refl _, fun _ _ h => h⟩
  have old : ∀ (k : Nat) (v : Ob), (tb.set n (Ob.lck t kvs))[k]? = some v → (n = k ∧ v = .lck t kvs) ∨ (n ≠ k ∧ tb[k]? = some v) := fun k v g => by
    by_cases hk : n = k
    · subst hk; rw [List.getElem?_set_self hn] at g; exact .inl ⟨rfl, (Option.some.inj g).symm⟩
    · rw [List.getElem?_set_ne hk] at g; exact .inr ⟨hk, g⟩
  have apart : ∀ (k : Nat) (b : Addr) (v : Ob), n ≠ k → w.rho[k]? = some b → tb[k]? = some v → v.mut = true → b ≠ a := fun k b v hk g1 g2 m => by
    rintro rfl
    exact s.sep n k b _ v hk h1 g1 h2 g2 rfl m
  refine ⟨fun b v e => ?_, by simp [Wd.hide, s.len], fun k b v g1 g2 => ?_, fun k b v g1 g2 m => ?_, fun k l b v v' kl g1 g2 g3 g4 m1 m2 => ?_, fun b v e => ?_, fun k b v g1 g2 m => ?_⟩
  · have ne : b ≠ a := ne_of_none e off
    rcases s.fro b v e with h | ⟨d, ob, h, h'⟩
    · exact .inl (by rw [upd_ne ne]; exact h)
    · exact .inr ⟨d, ob, by rw [upd_ne ne]; exact h, by show upd w.hid a _ b = _; rw [upd_ne ne]; exact h'⟩
  · rcases old k v g2 with ⟨rfl, rfl⟩ | ⟨hk, g⟩
    · rw [show w.rho[n]? = some b from g1] at h1; cases h1
      exact obLck.mpr ⟨od, u, upd_same, upd_same, dh.up lR⟩
    · refine (s.obs k b v g1 g).upI lR rfl fun m => ?_
      have ne := apart k b v hk g1 g m
      exact ⟨by rw [upd_ne ne], fun _ => by show upd w.hid a _ b = _; rw [upd_ne ne]⟩
  · rcases old k v g2 with ⟨rfl, rfl⟩ | ⟨hk, g⟩
    · rw [show w.rho[n]? = some b from g1] at h1; cases h1
      exact off
    · exact s.off k b v g1 g m
  · rcases old k v g3 with ⟨rfl, rfl⟩ | ⟨hk, g⟩
    · rw [show w.rho[n]? = some b from g1] at h1; cases h1
      rcases old l v' g4 with ⟨rfl, rfl⟩ | ⟨hl, g'⟩
      · exact kl rfl
      · exact s.sep n l _ _ v' hl g1 g2 h2 g' rfl m2
    · rcases old l v' g4 with ⟨rfl, rfl⟩ | ⟨hl, g'⟩
      · rw [show w.rho[n]? = some b from g2] at h1; cases h1
        exact s.sep n k _ _ v hk g2 g1 h2 g rfl m1
      · exact s.sep k l b v v' kl g1 g2 g g' m1 m2
  · by_cases hb : b = a
    · subst hb
      have e' : upd w.hid b (.frz od u) b = some v := e
      rw [upd_same] at e'; cases e'
      exact ⟨upd_same, .inr ⟨od, u, rfl⟩⟩
    · have e' : upd w.hid a (.frz od u) b = some v := e
      rw [upd_ne hb] at e'
      exact ⟨by rw [upd_ne hb]; exact (s.hid b v e').1, (s.hid b v e').2⟩
  · rcases old k v g2 with ⟨rfl, rfl⟩ | ⟨hk, g⟩
    · cases m
    · show upd w.hid a _ b = none
      rw [upd_ne (apart k b v hk g1 g (Ob.wr_mut m))]
      exact s.hsp k b v g1 g m
theorem Sim.unlockT (s : Sim K cA w tb H) {n : Nat} {a : Addr} {t : Bool} {kvs kv0 : List (DK × D)} {od : Obj} {u : HO} {h0 : Hp} (h1 : w.rho[n]? = some a) (h2 : tb[n]? = some (.lck t kvs)) (hw : w.hid = upd h0 a (.frz od u)) (h0a : h0 a = none) (dh : DicH K w u kv0 t) :
    H a = some (.frz od u) ∧ Sim K cA (w.withHid h0) (tb.set n (.dic t kv0)) (upd H a u) := by
  have hp : w.hid a = some (.frz od u) := by rw [hw]; exact upd_same
  have off := s.off n a _ h1 h2 rfl
  have hn : n < tb.length := (List.getElem?_eq_some_iff.mp h2).1
  have h0e : ∀ b, b ≠ a → h0 b = w.hid b := fun b hb => by rw [hw, upd_ne hb]
  have lR : w.LeR (w.withHid h0) := Wd.leR_hid
  have old : ∀ (k : Nat) (v : Ob), (tb.set n (Ob.dic t kv0))[k]? = some v → (n = k ∧ v = .dic t kv0) ∨ (n ≠ k ∧ tb[k]? = some v) := fun k v g => by
    by_cases hk : n = k
    · subst hk; rw [List.getElem?_set_self hn] at g; exact .inl ⟨rfl, (Option.some.inj g).symm⟩
    · rw [List.getElem?_set_ne hk] at g; exact .inr ⟨hk, g⟩
  have apart : ∀ (k : Nat) (b : Addr) (v : Ob), n ≠ k → w.rho[k]? = some b → tb[k]? = some v → v.mut = true → b ≠ a := fun k b v hk g1 g2 m => by
    rintro rfl
    exact s.sep n k b _ v hk h1 g1 h2 g2 rfl m
  refine ⟨(s.hid a _ hp).1, ⟨fun b v e => ?_, by simp [Wd.withHid, s.len], fun k b v g1 g2 => ?_, fun k b v g1 g2 m => ?_, fun k l b v v' kl g1 g2 g3 g4 m1 m2 => ?_, fun b v e => ?_, fun k b v g1 g2 m => ?_⟩⟩
  · have ne : b ≠ a := ne_of_none e off
    rcases s.fro b v e with h | ⟨d, ob, h, h'⟩
    · exact .inl (by rw [upd_ne ne]; exact h)
    · exact .inr ⟨d, ob, by rw [upd_ne ne]; exact h, (h0e b ne).trans h'⟩
  · rcases old k v g2 with ⟨rfl, rfl⟩ | ⟨hk, g⟩
    · rw [show w.rho[n]? = some b from g1] at h1; cases h1
      exact obDic.mpr ⟨u, upd_same, dh.up lR⟩
    · refine (s.obs k b v g1 g).upI lR rfl fun m => ?_
      have ne := apart k b v hk g1 g m
      exact ⟨by rw [upd_ne ne], fun _ => h0e b ne⟩
  · rcases old k v g2 with ⟨rfl, rfl⟩ | ⟨hk, g⟩
    · rw [show w.rho[n]? = some b from g1] at h1; cases h1
      exact off
    · exact s.off k b v g1 g m
  · rcases old k v g3 with ⟨rfl, rfl⟩ | ⟨hk, g⟩
    · rw [show w.rho[n]? = some b from g1] at h1; cases h1
      rcases old l v' g4 with ⟨rfl, rfl⟩ | ⟨hl, g'⟩
      · exact kl rfl
      · exact s.sep n l _ _ v' hl g1 g2 h2 g' rfl m2
    · rcases old l v' g4 with ⟨rfl, rfl⟩ | ⟨hl, g'⟩
      · rw [show w.rho[n]? = some b from g2] at h1; cases h1
        exact s.sep n k _ _ v hk g2 g1 h2 g rfl m1
      · exact s.sep k l b v v' kl g1 g2 g g' m1 m2
  · have hb : b ≠ a := fun z => by
      have e' : h0 b = some v := e
      rw [z, h0a] at e'; cases e'
    have e' : w.hid b = some v := (h0e b hb).symm.trans e
    exact ⟨by rw [upd_ne hb]; exact (s.hid b v e').1, (s.hid b v e').2⟩
  · rcases old k v g2 with ⟨rfl, rfl⟩ | ⟨hk, g⟩
    · rw [show w.rho[n]? = some b from g1] at h1; cases h1
      exact h0a
    · exact (h0e b (apart k b v hk g1 g (Ob.wr_mut m))).trans (s.hsp k b v g1 g m)
/-- a frozen dict is locked -/
theorem Sim.lockF (s : Sim K cA w tb H) {a : Addr} {u : HO} (hf : w.Hf a = some u) (hu : isDicH u = true) (hH : H a = some u) :
    w.hid a = none ∧ ∀ od, Sim K cA (w.hide a (.frz od u)) tb (upd H a (.frz od u)) := by
  have hh : w.hid a = none := by
    cases e : w.hid a with
    | none => rfl
    | some v =>
      obtain ⟨h1, h2⟩ := s.hid a v e
      rw [hH] at h1; cases h1
      rcases h2 with ⟨q, _⟩ | ⟨od, x, q⟩
      · rw [hf] at q; cases q
      · exact absurd q (isDicH_nf hu od x)
  refine ⟨hh, fun od => ?_⟩
  have lR : w.LeR (w.hide a (.frz od u)) := ⟨Same.refl _, fun _ _ h => h⟩
  have apart : ∀ (k : Nat) (b : Addr) (v : Ob), w.rho[k]? = some b → tb[k]? = some v → v.mut = true → b ≠ a := fun k b v g1 g2 m => by
    rintro rfl
    have z := s.off k b v g1 g2 m
    rw [hf] at z; cases z
  refine ⟨fun b v e => ?_, s.len, fun k b v g1 g2 => (s.obs k b v g1 g2).upI lR rfl fun m => ?_, s.off, s.sep, fun b v e => ?_, fun k b v g1 g2 m => ?_⟩
  · by_cases hb : b = a
    · subst hb
      rw [show w.Hf b = some v from e] at hf; cases hf
      exact .inr ⟨hu, od, upd_same, upd_same⟩
    · rcases s.fro b v e with h | ⟨d, ob, h, h'⟩
      · exact .inl (by rw [upd_ne hb]; exact h)
      · exact .inr ⟨d, ob, by rw [upd_ne hb]; exact h, by show upd w.hid a _ b = _; rw [upd_ne hb]; exact h'⟩
  · have ne := apart k b v g1 g2 m
    exact ⟨by rw [upd_ne ne], fun _ => by show upd w.hid a _ b = _; rw [upd_ne ne]⟩
  · by_cases hb : b = a
    · subst hb
      have e' : upd w.hid b (.frz od u) b = some v := e
      rw [upd_same] at e'; cases e'
      exact ⟨upd_same, .inr ⟨od, u, rfl⟩⟩
    · have e' : upd w.hid a (.frz od u) b = some v := e
      rw [upd_ne hb] at e'
      exact ⟨by rw [upd_ne hb]; exact (s.hid b v e').1, (s.hid b v e').2⟩
  · show upd w.hid a _ b = none
    rw [upd_ne (apart k b v g1 g2 (Ob.wr_mut m))]
    exact s.hsp k b v g1 g2 m
theorem Sim.unlockF (s : Sim K cA w tb H) {a : Addr} {od : Obj} {u : HO} {h0 : Hp} (hf : w.Hf a = some u) (hu : isDicH u = true) (hw : w.hid = upd h0 a (.frz od u)) (h0a : h0 a = none) :
    H a = some (.frz od u) ∧ Sim K cA (w.withHid h0) tb (upd H a u) := by
  have hp : w.hid a = some (.frz od u) := by rw [hw]; exact upd_same
  have h0e : ∀ b, b ≠ a → h0 b = w.hid b := fun b hb => by rw [hw, upd_ne hb]
  have lR : w.LeR (w.withHid h0) := Wd.leR_hid
  have apart : ∀ (k : Nat) (b : Addr) (v : Ob), w.rho[k]? = some b → tb[k]? = some v → v.mut = true → b ≠ a := fun k b v g1 g2 m => by
    rintro rfl
    have z := s.off k b v g1 g2 m
    rw [hf] at z; cases z
  refine ⟨(s.hid a _ hp).1, ⟨fun b v e => ?_, s.len, fun k b v g1 g2 => (s.obs k b v g1 g2).upI lR rfl fun m => ?_, s.off, s.sep, fun b v e => ?_, fun k b v g1 g2 m => ?_⟩⟩
  · by_cases hb : b = a
    · subst hb
      rw [show w.Hf b = some v from e] at hf; cases hf
      exact .inl upd_same
    · rcases s.fro b v e with h | ⟨d, ob, h, h'⟩
      · exact .inl (by rw [upd_ne hb]; exact h)
      · exact .inr ⟨d, ob, by rw [upd_ne hb]; exact h, (h0e b hb).trans h'⟩
  · have ne := apart k b v g1 g2 m
    exact ⟨by rw [upd_ne ne], fun _ => h0e b ne⟩
  · have hb : b ≠ a := fun z => by
      have e' : h0 b = some v := e
      rw [z, h0a] at e'; cases e'
    have e' : w.hid b = some v := (h0e b hb).symm.trans e
    exact ⟨by rw [upd_ne hb]; exact (s.hid b v e').1, (s.hid b v e').2⟩
  · exact (h0e b (apart k b v g1 g2 (Ob.wr_mut m))).trans (s.hsp k b v g1 g2 m)
end
end L2.G
set_option maxHeartbeats 4000000
/-! F9: what is walked, loops, list comprehensions. -/
namespace L2.G
open PySem PySem.Spec PyProof.Rows

/-! ### data told apart -/
mutual
def deq : D → D → Bool
  | .non, .non => true
  | .bl a, .bl b => a == b
  | .int a, .int b => decide (a = b)
  | .str a, .str b => decide (a = b)
  | .lst a, .lst b => deqs a b
  | .tup a, .tup b => deqs a b
  | .dic t a, .dic u b => (t == u) && deqk a b
  | .ref a, .ref b => decide (a = b)
  | .scr a, .scr b => decide (a = b)
  | _, _ => false
def deqs : List D → List D → Bool
  | [], [] => true
  | x :: xs, y :: ys => deq x y && deqs xs ys
  | _, _ => false
def deqk : List (DK × D) → List (DK × D) → Bool
  | [], [] => true
  | (k, x) :: xs, (l, y) :: ys => decide (k = l) && (deq x y && deqk xs ys)
  | _, _ => false
end
mutual
theorem deq_ok : ∀ a b : D, deq a b = true → a = b
  | .non, b, h => by cases b <;> first | rfl | (simp [deq] at h)
  | .bl a, b, h => by cases b <;> first | (simp [deq] at h; rw [h]) | (simp [deq] at h)
  | .int a, b, h => by cases b <;> first | (simp [deq] at h; rw [h]) | (simp [deq] at h)
  | .str a, b, h => by cases b <;> first | (simp [deq] at h; rw [h]) | (simp [deq] at h)
  | .ref a, b, h => by cases b <;> first | (simp [deq] at h; rw [h]) | (simp [deq] at h)
  | .scr a, b, h => by cases b <;> first | (simp [deq] at h; rw [h]) | (simp [deq] at h)
  | .lst a, b, h => by
    cases b with
    | lst b => rw [deqs_ok a b (by simpa [deq] using h)]
    | _ => simp [deq] at h
  | .tup a, b, h => by
    cases b with
    | tup b => rw [deqs_ok a b (by simpa [deq] using h)]
    | _ => simp [deq] at h
  | .dic t a, b, h => by
    cases b with
    | dic u b =>
      simp only [deq, Bool.and_eq_true, beq_iff_eq] at h
      rw [h.1, deqk_ok a b h.2]
    | _ => simp [deq] at h
theorem deqs_ok : ∀ a b : List D, deqs a b = true → a = b
  | [], b, h => by cases b <;> first | rfl | (simp [deqs] at h)
  | x :: xs, b, h => by
    cases b with
    | nil => simp [deqs] at h
    | cons y ys =>
      simp only [deqs, Bool.and_eq_true] at h
      rw [deq_ok x y h.1, deqs_ok xs ys h.2]
theorem deqk_ok : ∀ a b : List (DK × D), deqk a b = true → a = b
  | [], b, h => by cases b <;> first | rfl | (simp [deqk] at h)
  | (k, x) :: xs, b, h => by
    cases b with
    | nil => simp [deqk] at h
    | cons y ys =>
      obtain ⟨l, y⟩ := y
      simp only [deqk, Bool.and_eq_true, decide_eq_true_eq] at h
      rw [h.1, deq_ok x y h.2.1, deqk_ok xs ys h.2.2]
end
mutual
theorem deq_re : ∀ a : D, deq a a = true
  | .non => rfl
  | .bl a => by simp [deq]
  | .int a => by simp [deq]
  | .str a => by simp [deq]
  | .ref a => by simp [deq]
  | .scr a => by simp [deq]
  | .lst a => by rw [deq]; exact deqs_re a
  | .tup a => by rw [deq]; exact deqs_re a
  | .dic t a => by rw [deq, deqk_re a]; simp
theorem deqs_re : ∀ a : List D, deqs a a = true
  | [] => rfl
  | x :: xs => by rw [deqs, deq_re x, deqs_re xs]; rfl
theorem deqk_re : ∀ a : List (DK × D), deqk a a = true
  | [] => rfl
  | (k, x) :: xs => by rw [deqk, deq_re x, deqk_re xs]; simp
end
instance : DecidableEq D := fun a b => if h : deq a b = true then .isTrue (deq_ok a b h) else .isFalse fun e => h (e ▸ deq_re a)

/-! ### what is walked -/
structure IT where
  ds : List D
  kp : List (Nat × List D)
def keptB (tb : Tb) (p : Nat × List D) : Bool := match tb[p.1]? with
  | some (.lst xs) => decide (xs = p.2)
  | _ => false
def IT.Kept (it : IT) (tb : Tb) : Prop := it.kp.all (keptB tb) = true
instance (it : IT) (tb : Tb) : Decidable (it.Kept tb) := by unfold IT.Kept; infer_instance
theorem kept_at {tb : Tb} {n : Nat} {xs : List D} : keptB tb (n, xs) = true ↔ tb[n]? = some (.lst xs) := by
  unfold keptB
  constructor
  · intro h
    split at h
    · rename_i ys e
      rw [e, of_decide_eq_true h]
    · cases h
  · intro h
    simp [h]
theorem IT.kept0 {ds : List D} {tb : Tb} : IT.Kept ⟨ds, []⟩ tb := rfl
theorem IT.kept1 {ds : List D} {tb : Tb} {n : Nat} {xs : List D} : IT.Kept ⟨ds, [(n, xs)]⟩ tb ↔ tb[n]? = some (.lst xs) := by
  unfold IT.Kept
  simp [kept_at]
structure ItOk (K : PySem.W.Frag) (cA : Nat → Addr) (w0 : Wd) (J : It) (it : IT) : Prop where
  stop : ∀ (w : Wd) (tb : Tb) (H : Hp) (i : Nat), w0.LeI w → Sim K cA w tb H → it.Kept tb → it.ds.length ≤ i → J.stop i H
  go : ∀ (w : Wd) (tb : Tb) (H : Hp) (i : Nat), w0.LeI w → Sim K cA w tb H → it.Kept tb → i < it.ds.length → J.go i H
  yld : ∀ (w : Wd) (tb : Tb) (H : Hp) (i : Nat) (d : D) (x : V) (H' : Hp), w0.LeI w → Sim K cA w tb H → it.Kept tb → it.ds[i]? = some d → J.yld i H x H' → ∃ w', w.Le w' ∧ Sim K cA w' tb H' ∧ RelD K w' d x
def DI (X : Cx) (c : Cc) (W : WX) (tg e : Expr) (m : Env → Tb → Rs IT) : Prop := PI X tg e (tG X.K c W (fun w (it : IT) (J : It) => ItOk X.K c.cA w J it) m)
section
variable {K : PySem.W.Frag} {cA : Nat → Addr} {w0 : Wd}
theorem itl_ok {a : Addr} {it : IT} (h : ∀ (w : Wd) (tb : Tb) (H : Hp), w0.LeI w → Sim K cA w tb H → it.Kept tb → ∃ vs, SqL K H a vs ∧ RelDs K w it.ds vs) : ItOk K cA w0 (Itl K a) it where
  stop := fun w tb H i l s k hi => by
    obtain ⟨vs, h1, h2⟩ := h w tb H l s k
    exact ⟨vs, h1, by rw [← h2.length]; exact hi⟩
  go := fun w tb H i l s k hi => by
    obtain ⟨vs, h1, h2⟩ := h w tb H l s k
    obtain ⟨v, e, _⟩ := h2.get (List.getElem?_eq_getElem hi)
    exact ⟨vs, v, h1, e⟩
  yld := fun w tb H i d x H' l s k e y => by
    obtain ⟨vs, h1, h2⟩ := h w tb H l s k
    obtain ⟨v, e2, r⟩ := h2.get e
    obtain ⟨rfl, y⟩ := y
    have z := y vs h1
    rw [e2] at z; cases z
    exact ⟨w, .refl w, s, r⟩
theorem itt_ok {a : Addr} {it : IT} (h : ∀ (w : Wd) (tb : Tb) (H : Hp), w0.LeI w → Sim K cA w tb H → it.Kept tb → ∃ vs, SqT K H a vs ∧ RelDs K w it.ds vs) : ItOk K cA w0 (Itt K a) it where
  stop := fun w tb H i l s k hi => by
    obtain ⟨vs, h1, h2⟩ := h w tb H l s k
    exact ⟨vs, h1, by rw [← h2.length]; exact hi⟩
  go := fun w tb H i l s k hi => by
    obtain ⟨vs, h1, h2⟩ := h w tb H l s k
    obtain ⟨v, e, _⟩ := h2.get (List.getElem?_eq_getElem hi)
    exact ⟨vs, v, h1, e⟩
  yld := fun w tb H i d x H' l s k e y => by
    obtain ⟨vs, h1, h2⟩ := h w tb H l s k
    obtain ⟨v, e2, r⟩ := h2.get e
    obtain ⟨rfl, y⟩ := y
    have z := y vs h1
    rw [e2] at z; cases z
    exact ⟨w, .refl w, s, r⟩
theorem its_ok (cs : List Nat) : ItOk K cA w0 (Its (tx cs)) ⟨cs.map fun c => .str [c], []⟩ where
  stop := fun w tb H i l s k hi => by
    show (tx cs).cps.size ≤ i
    have : (tx cs).cps.size = cs.length := tx_len cs
    simp at hi; omega
  go := fun w tb H i l s k hi => by
    show i < (tx cs).cps.size
    have : (tx cs).cps.size = cs.length := tx_len cs
    simp at hi; omega
  yld := fun w tb H i d x H' l s k e y => by
    obtain ⟨rfl, c, hc, rfl⟩ := y
    have hc' : cs[i]? = some c := by
      have z : (cs.toArray)[i]? = some c := hc
      simpa using z
    have e' : d = .str [c] := by
      simp [hc'] at e; exact e.symm
    subst e'
    exact ⟨w, .refl w, s, .str [c]⟩
/-- whole numbers from lo on -/
def rngIt (lo : Int) (n : Nat) : IT := ⟨(List.range n).map fun (i : Nat) => .int (lo + (i : Int)), []⟩
theorem itr_ok (lo : Int) (n : Nat) : ItOk K cA w0 (Itr lo n) (rngIt lo n) where
  stop := fun w tb H i l s k hi => by
    show n ≤ i
    simpa [rngIt] using hi
  go := fun w tb H i l s k hi => by
    show i < n
    simpa [rngIt] using hi
  yld := fun w tb H i d x H' l s k e y => by
    obtain ⟨rfl, rfl⟩ := y
    have e' : d = .int (lo + (i : Int)) := by
      have hi : i < n := by
        have q := (List.getElem?_eq_some_iff.mp e).1
        simpa [rngIt] using q
      have z : (rngIt lo n).ds[i]? = some (D.int (lo + (i : Int))) := by simp [rngIt, hi]
      rw [z] at e
      exact (Option.some.inj e).symm
    subst e'
    exact ⟨w, .refl w, s, .int _⟩
end
/-- a list, a tuple, a text, walked -/
def seqIt : D → Tb → Option IT
  | .str cs, _ => some ⟨cs.map fun c => .str [c], []⟩
  | .lst xs, _ => some ⟨xs, []⟩
  | .tup xs, _ => some ⟨xs, []⟩
  | .scr ns, _ => some ⟨ns.map D.int, []⟩
  | .ref n, tb => match tb[n]? with
    | some (.lst xs) => some ⟨xs, [(n, xs)]⟩
    | _ => none
  | _, _ => none
def mItV (a : ME) : Env → Tb → Rs IT := fun env tb => (a env tb).bind fun d tb => match seqIt d tb with
  | some it => .ok it tb
  | none => .fail
section
variable {X : Cx} {tg e : Expr} {te : TE}
theorem pi_any (he : PE X e te) : PI X tg e (fun σ H R => te σ H fun x H1 => (∃ a, x = .ref a ∧ (∃ xs, SqL X.K H1 a xs) ∧ R (Itl X.K a) H1) ∨ (∃ a, x = .ref a ∧ (∃ xs, SqT X.K H1 a xs) ∧ R (Itt X.K a) H1) ∨ ∃ y, x = .str y ∧ R (Its y) H1) := by
  refine ⟨fun pins s σ H R I h => ?_⟩
  refine thn (he.run pins s σ H _ I h) fun v s1 ⟨x, H1, I1, r1, q1⟩ => ?_
  rcases q1 with ⟨a, rfl, ⟨xs, hq⟩, q⟩ | ⟨a, rfl, ⟨xs, hq⟩, q⟩ | ⟨y, rfl, q⟩
  · cases r1
    obtain ⟨its, rv, p, hz⟩ := I1.list hq
    refine wpAny_pyIter_list p.isList ?_
    refine ⟨s1.heap.objs.size, [s1.heap.objs.size], _, _, H1, rfl, I1.kept (t' := s1.toks) fun b o e => Heap.get?_push_of_some _ e, turn_list a _, ⟨_, Heap.get?_push_size _ rfl, rfl, rfl⟩, fun b hb => ?_, q⟩
    have e : b = s1.heap.objs.size := by simpa using hb
    subst e
    exact I1.fpOk (Nat.le_refl _) (I1.hok.fresh (Nat.le_refl _))
  · cases r1
    obtain ⟨its, rv, p, hz⟩ := I1.tuple hq
    refine wpAny_pyIter_tuple (show s1.heap.IsTuple a its.toArray from p) ?_
    refine ⟨s1.heap.objs.size, [s1.heap.objs.size], _, _, H1, rfl, I1.kept (t' := s1.toks) fun b o e => Heap.get?_push_of_some _ e, turn_tuple a _, ⟨_, Heap.get?_push_size _ rfl, rfl, rfl⟩, fun b hb => ?_, q⟩
    have e : b = s1.heap.objs.size := by simpa using hb
    subst e
    exact I1.fpOk (Nat.le_refl _) (I1.hok.fresh (Nat.le_refl _))
  · obtain ⟨t, rfl⟩ := r1
    cases ha : y.cps.all (· < 128)
    · exact wpAny_pyIter_wide ha (pi_one (tk := s1.toks) I1 _ (turn_str _ y t "str_iterator" (.inr rfl)) ⟨_, Heap.get?_push_size _ rfl, rfl, rfl⟩ q)
    · exact wpAny_pyIter_ascii ha (pi_one (tk := s1.toks) I1 _ (turn_str _ y t "str_ascii_iterator" (.inl rfl)) ⟨_, Heap.get?_push_size _ rfl, rfl, rfl⟩ q)
variable {c : Cc} {W : WX} {me : ME}
theorem seq_at {K : PySem.W.Frag} {cA : Nat → Addr} {w : Wd} {tb : Tb} {H : Hp} {d : D} {v : V} {it : IT} {R : It → Hp → Prop} (s : Sim K cA w tb H) (r : RelD K w d v) (h : seqIt d tb = some it) (q : ∀ J, ItOk K cA w J it → R J H) :
    (∃ a, v = .ref a ∧ (∃ xs, SqL K H a xs) ∧ R (Itl K a) H) ∨ (∃ a, v = .ref a ∧ (∃ xs, SqT K H a xs) ∧ R (Itt K a) H) ∨ ∃ y, v = .str y ∧ R (Its y) H := by
  cases r with
  | str cs => cases h; exact .inr (.inr ⟨_, rfl, q _ (its_ok cs)⟩)
  | @lst xs a vs e rs =>
    cases h
    have g : ∀ (w' : Wd) (tb' : Tb) (H' : Hp), w.LeI w' → Sim K cA w' tb' H' → IT.Kept ⟨xs, []⟩ tb' → ∃ us, SqL K H' a us ∧ RelDs K w' xs us := fun w' tb' H' l s' _ => ⟨vs, s'.sqL (.inl (.inl (l.r.hf _ _ e))), rs.upR l.r⟩
    obtain ⟨us, h1, _⟩ := g w tb H (.refl w) s IT.kept0
    exact .inl ⟨a, rfl, ⟨us, h1⟩, q _ (itl_ok g)⟩
  | @tup xs a vs e rs =>
    cases h
    have g : ∀ (w' : Wd) (tb' : Tb) (H' : Hp), w.LeI w' → Sim K cA w' tb' H' → IT.Kept ⟨xs, []⟩ tb' → ∃ us, SqT K H' a us ∧ RelDs K w' xs us := fun w' tb' H' l s' _ => ⟨vs, s'.sqT (.inl (.inl (l.r.hf _ _ e))), rs.upR l.r⟩
    obtain ⟨us, h1, _⟩ := g w tb H (.refl w) s IT.kept0
    exact .inr (.inl ⟨a, rfl, ⟨us, h1⟩, q _ (itt_ok g)⟩)
  | @scr ns a e =>
    cases h
    have g : ∀ (w' : Wd) (tb' : Tb) (H' : Hp), w.LeI w' → Sim K cA w' tb' H' → IT.Kept ⟨ns.map D.int, []⟩ tb' → ∃ us, SqL K H' a us ∧ RelDs K w' (ns.map D.int) us := fun w' tb' H' l s' _ => ⟨ns.map V.int, s'.sqL (l.r.hf.seq e), .ofInts ns⟩
    obtain ⟨us, h1, _⟩ := g w tb H (.refl w) s IT.kept0
    exact .inl ⟨a, rfl, ⟨us, h1⟩, q _ (itl_ok g)⟩
  | @ref n a e =>
    have h' : (match tb[n]? with | some (.lst xs) => some (IT.mk xs [(n, xs)]) | _ => none) = some it := h
    split at h'
    · rename_i xs g0
      cases h'
      have g : ∀ (w' : Wd) (tb' : Tb) (H' : Hp), w.LeI w' → Sim K cA w' tb' H' → IT.Kept ⟨xs, [(n, xs)]⟩ tb' → ∃ us, SqL K H' a us ∧ RelDs K w' xs us := fun w' tb' H' l s' k => by
        obtain ⟨us, h1, h2⟩ := s'.obs n a _ (l.r.rho _ _ e) (IT.kept1.mp k)
        exact ⟨us, SqL.of h1, h2⟩
      obtain ⟨us, h1, _⟩ := g w tb H (.refl w) s (IT.kept1.mpr g0)
      exact .inl ⟨a, rfl, ⟨us, h1⟩, q _ (itl_ok g)⟩
    · cases h'
  | _ => cases h
theorem di_seq (he : DE X c W e me) : DI X c W tg e (mItV me) := PI.imp (pi_any he) fun σ H R ⟨w, env, tb, s, hc, e, p⟩ =>
  ⟨w, env, tb, s, hc, e, p.seq fun d tb1 w1 H1 v l1 s1 r1 p1 => by
    cases q : seqIt d tb1 with
    | none => rw [q] at p1; exact p1.elim
    | some it => rw [q] at p1; exact seq_at s1 r1 q fun J ok => p1.now s1 ok⟩
/-- range -/
def mRng1 (a : MA) : Env → Tb → Rs IT := fun env tb => (a env tb).bind fun ds tb => match ds with
  | [.int j] => if -(2 ^ 62) ≤ j ∧ j < 2 ^ 62 then .ok (rngIt 0 j.toNat) tb else .fail
  | _ => .fail
def mRng2 (a : MA) : Env → Tb → Rs IT := fun env tb => (a env tb).bind fun ds tb => match ds with
  | [.int i, .int j] => if -(2 ^ 62) ≤ i ∧ i < 2 ^ 62 ∧ -(2 ^ 62) ≤ j ∧ j < 2 ^ 62 then .ok (rngIt i (j - i).toNat) tb else .fail
  | _ => .fail
variable {a b : Expr} {ma : MA} {p pos : Pos}
theorem di_range1 (hg : Gl X "range") (hm : X.mg "range" = none) (ha : DA X c W [a] ma) (hs : starEach [a] X.env = [(false, eval a X.env)] := by rfl) : DI X c W tg (.Call (.Name "range" p) [a] [] pos) (mRng1 ma) :=
  PI.imp (pi_range1 hg hm ha hs) fun σ H R ⟨w, env, tb, s, hc, e, p⟩ => ⟨w, env, tb, s, hc, e, p.seq fun ds tb1 w1 H1 vs l1 s1 r1 p1 => by
    match ds, r1, p1 with
    | [.int j], .cons (.int _) .nil, p1 =>
      have p1 : Post X.K c W σ w1 (fun w (it : IT) (J : It) => ItOk X.K c.cA w J it) R (if -(2 ^ 62) ≤ j ∧ j < 2 ^ 62 then .ok (rngIt 0 j.toNat) tb1 else .fail) := p1
      by_cases q : -(2 ^ 62) ≤ j ∧ j < 2 ^ 62
      · rw [if_pos q] at p1
        exact ⟨j, rfl, q.1, q.2, p1.now s1 (itr_ok 0 _)⟩
      · rw [if_neg q] at p1; exact p1.elim⟩
theorem di_range2 (hg : Gl X "range") (hm : X.mg "range" = none) (ha : DA X c W [a, b] ma) (hs : starEach [a, b] X.env = [(false, eval a X.env), (false, eval b X.env)] := by rfl) (hs2 : starEach [b] X.env = [(false, eval b X.env)] := by rfl) : DI X c W tg (.Call (.Name "range" p) [a, b] [] pos) (mRng2 ma) :=
  PI.imp (pi_range2 hg hm ha hs hs2) fun σ H R ⟨w, env, tb, s, hc, e, p⟩ => ⟨w, env, tb, s, hc, e, p.seq fun ds tb1 w1 H1 vs l1 s1 r1 p1 => by
    match ds, r1, p1 with
    | [.int i, .int j], .cons (.int _) (.cons (.int _) .nil), p1 =>
      have p1 : Post X.K c W σ w1 (fun w (it : IT) (J : It) => ItOk X.K c.cA w J it) R (if -(2 ^ 62) ≤ i ∧ i < 2 ^ 62 ∧ -(2 ^ 62) ≤ j ∧ j < 2 ^ 62 then .ok (rngIt i (j - i).toNat) tb1 else .fail) := p1
      by_cases q : -(2 ^ 62) ≤ i ∧ i < 2 ^ 62 ∧ -(2 ^ 62) ≤ j ∧ j < 2 ^ 62
      · rw [if_pos q] at p1
        exact ⟨i, j, rfl, q, p1.now s1 (itr_ok i _)⟩
      · rw [if_neg q] at p1; exact p1.elim⟩
end

/-! ### for, while -/
def mLoop (it : IT) (g : MG) (mb mo : MS) : List D → MS
  | [], env, tb => if it.Kept tb then mo env tb else .fail
  | d :: ds, env, tb => if it.Kept tb then
      match g d env tb with
      | some (e, t) => match mb e t with
        | .nx e t => mLoop it g mb mo ds e t
        | .ct e t => mLoop it g mb mo ds e t
        | .bk e t => .nx e t
        | .rt d t => .rt d t
        | .ex k fs e t => .ex k fs e t
        | .fail => .fail
      | none => .fail
    else .fail
def mFor (mi : Env → Tb → Rs IT) (g : MG) (mb mo : MS) : MS := fun env tb => (mi env tb).st env fun it tb => mLoop it g mb mo it.ds env tb
def mWhile (t : MT) (mb mo : MS) : Nat → MS
  | 0, _, _ => .fail
  | n + 1, env, tb => (t env tb).st env fun k tb => if k = true then
      match mb env tb with
      | .nx e t1 => mWhile t mb mo n e t1
      | .ct e t1 => mWhile t mb mo n e t1
      | .bk e t1 => .nx e t1
      | .rt d t1 => .rt d t1
      | .ex k fs e t1 => .ex k fs e t1
      | .fail => .fail
    else mo env tb
section
variable {X : Cx} {c : Cc} {W : WX} {tg e : Expr} {pos : Pos} {g : MG} {mb mo : MS} {mi : Env → Tb → Rs IT} {body orelse : List Stmt}
theorem loop_ok {K : PySem.W.Frag} {w0 w : Wd} {J : It} {it : IT} {E : Ends} {σ : L2.St} {H : Hp} {env : Env} {tb : Tb} (ok : ItOk K c.cA w0 J it) (l0 : w0.LeI w) (hc : w.cur = c.cur) (s : Sim K c.cA w tb H) (re : RelE K w env σ) (p : PostS K c W E w (mLoop it g mb mo it.ds env tb)) :
    ∃ Wi : Nat → Nat → L2.St → Hp → Prop, (∃ m, Wi 0 m σ H) ∧ ∀ i m σ H, Wi i m σ H → (J.stop i H ∧ tS K c W mo E σ H) ∨ (J.go i H ∧ ∃ N : L2.St → Hp → Prop, (∀ σ' H', N σ' H' → ∃ m', m' < m ∧ Wi (i + 1) m' σ' H') ∧
      ∀ x H', J.yld i H x H' → tGt K c none g x σ H' fun σ2 H2 => tS K c W mb { E with nx := N, ct := N, bk := E.nx } σ2 H2) := by
  refine ⟨fun i m σ H => ∃ w env tb, w0.LeI w ∧ w.cur = c.cur ∧ Sim K c.cA w tb H ∧ RelE K w env σ ∧ m = it.ds.length - i ∧ i ≤ it.ds.length ∧ PostS K c W E w (mLoop it g mb mo (it.ds.drop i) env tb), ⟨it.ds.length, w, env, tb, l0, hc, s, re, rfl, Nat.zero_le _, p⟩, ?_⟩
  rintro i m σ H ⟨w, env, tb, l0, hc, s, re, rfl, hi, p⟩
  by_cases hlt : i < it.ds.length
  · rw [List.drop_eq_getElem_cons hlt] at p
    unfold mLoop at p
    by_cases hk : it.Kept tb
    · rw [if_pos hk] at p
      refine .inr ⟨ok.go w tb H i l0 s hk hlt, fun σ' H' => ∃ w env tb, w0.LeI w ∧ w.cur = c.cur ∧ Sim K c.cA w tb H' ∧ RelE K w env σ' ∧ PostS K c W E w (mLoop it g mb mo (it.ds.drop (i + 1)) env tb), fun σ' H' ⟨w, env, tb, a1, a2, a3, a4, a5⟩ => ⟨it.ds.length - (i + 1), by omega, w, env, tb, a1, a2, a3, a4, rfl, hlt, a5⟩, fun x H' y => ?_⟩
      obtain ⟨w1, l1, s1, r1⟩ := ok.yld w tb H i _ x H' l0 s hk (List.getElem?_eq_getElem hlt) y
      cases hg : g it.ds[i] env tb with
      | none => rw [hg] at p; exact p.elim
      | some et =>
        obtain ⟨e1, t1⟩ := et
        rw [hg] at p
        refine ⟨w1, env, tb, _, s1, l1.cur.trans hc, re.up l1, r1, (e1, t1), hg, fun w2 σ2 H2 l2 s2 re2 _ => ⟨w2, e1, t1, s2, (l1.trans l2).cur.trans hc, re2, ?_⟩⟩
        have p : PostS K c W E w (match mb e1 t1 with
          | .nx e t => mLoop it g mb mo (it.ds.drop (i + 1)) e t
          | .ct e t => mLoop it g mb mo (it.ds.drop (i + 1)) e t
          | .bk e t => .nx e t
          | .rt d t => .rt d t
          | .ex k fs e t => .ex k fs e t
          | .fail => .fail) := p
        have l : w.Le w2 := l1.trans l2
        cases q : mb e1 t1 with
        | nx e2 t2 => rw [q] at p; exact fun w3 σ3 H3 l3 s3 re3 => ⟨w3, e2, t2, l0.trans (l.trans l3).toI, (l.trans l3).cur.trans hc, s3, re3, p.le (l.trans l3)⟩
        | ct e2 t2 => rw [q] at p; exact fun w3 σ3 H3 l3 s3 re3 => ⟨w3, e2, t2, l0.trans (l.trans l3).toI, (l.trans l3).cur.trans hc, s3, re3, p.le (l.trans l3)⟩
        | bk e2 t2 => rw [q] at p; exact fun w3 σ3 H3 l3 s3 re3 => p w3 σ3 H3 (l.trans l3) s3 re3
        | rt d2 t2 => rw [q] at p; exact fun w3 H3 v l3 s3 r3 => p w3 H3 v (l.trans l3) s3 r3
        | ex k fs e2 t2 => rw [q] at p; exact fun w3 σ3 H3 dx gs l3 => p w3 σ3 H3 dx gs (l.trans l3)
        | fail => rw [q] at p; exact p
    · rw [if_neg hk] at p; exact p.elim
  · have e : i = it.ds.length := by omega
    rw [e, List.drop_length] at p
    unfold mLoop at p
    by_cases hk : it.Kept tb
    · rw [if_pos hk] at p
      exact .inl ⟨ok.stop w tb H i l0 s hk (by omega), w, env, tb, s, hc, re, p⟩
    · rw [if_neg hk] at p; exact p.elim
theorem s_for (hp : PassesOwn (model X.prog X.w) X.A X.env X.xe) (hc : X.calm = true) (hi : DI X c W tg e mi) (hg : DG X c none tg g) (hb : DSs X c W body mb) (ho : DSs X c W orelse mo) (hs : ∀ x, foldedSetIterable e X.env x = pure x := by intro _; rfl) :
    DS X c W (.For tg e body orelse pos) (mFor mi g mb mo) := PS.imp (ps_forE hp hc hi hg hb ho hs) fun E σ H ⟨w, env, tb, s, hc, re, p⟩ =>
  ⟨w, env, tb, s, hc, re, Post.stS re p fun it tb1 w1 H1 J l1 s1 ok p1 => loop_ok ok (.refl w1) (l1.cur.trans hc) s1 (re.up l1) p1⟩
theorem s_while {t : Expr} {mt : MT} (n : Nat) (hp : PassesOwn (model X.prog X.w) X.A X.env X.xe) (ht : DT X c W t mt) (hb : DSs X c W body mb) (ho : DSs X c W orelse mo) : DS X c W (.While t body orelse pos) (mWhile mt mb mo n) :=
  PS.imp (ps_whileE hp ht hb ho) fun E σ H ⟨w, env, tb, s, hc, re, p⟩ => by
    refine ⟨fun m σ H => ∃ w env tb, Sim X.K c.cA w tb H ∧ w.cur = c.cur ∧ RelE X.K w env σ ∧ PostS X.K c W E w (mWhile mt mb mo m env tb), ⟨n, w, env, tb, s, hc, re, p⟩, ?_⟩
    rintro m σ H ⟨w, env, tb, s, hc, re, p⟩
    cases m with
    | zero => exact p.elim
    | succ m =>
      unfold mWhile at p
      refine ⟨w, env, tb, s, hc, re, Post.stS re p fun k tb1 w1 H1 v l1 s1 r1 p1 => ?_⟩
      subst r1
      cases k with
      | false => rw [if_neg Bool.false_ne_true] at p1 ⊢; exact ⟨w1, env, tb1, s1, l1.cur.trans hc, re.up l1, p1⟩
      | true =>
        rw [if_pos rfl] at p1 ⊢
        refine ⟨fun σ' H' => ∃ w env tb, Sim X.K c.cA w tb H' ∧ w.cur = c.cur ∧ RelE X.K w env σ' ∧ PostS X.K c W E w (mWhile mt mb mo m env tb), fun σ' H' h => ⟨m, Nat.lt_succ_self m, h⟩, w1, env, tb1, s1, l1.cur.trans hc, re.up l1, ?_⟩
        cases q : mb env tb1 with
        | nx e2 t2 => rw [q] at p1; exact fun w3 σ3 H3 l3 s3 re3 => ⟨w3, e2, t2, s3, (l1.trans l3).cur.trans hc, re3, PostS.le (r := mWhile mt mb mo m e2 t2) p1 l3⟩
        | ct e2 t2 => rw [q] at p1; exact fun w3 σ3 H3 l3 s3 re3 => ⟨w3, e2, t2, s3, (l1.trans l3).cur.trans hc, re3, PostS.le (r := mWhile mt mb mo m e2 t2) p1 l3⟩
        | bk e2 t2 => rw [q] at p1; exact p1
        | rt d2 t2 => rw [q] at p1; exact p1
        | ex k fs e2 t2 => rw [q] at p1; exact p1
        | fail => rw [q] at p1; exact p1
end
end L2.G
set_option maxHeartbeats 4000000
/-! F10: list comprehensions; dicts walked by their keys. -/
namespace L2.G
open PySem PySem.Spec PyProof.Rows

def wipeE (e : Env) : List Nat → Env
  | [] => e
  | v :: vs => (wipeE e vs).set v none
def WF : WX := fun _ _ _ _ => False
def mYes : MT := fun _ tb => .ok true tb
section
variable {K : PySem.W.Frag} {w : Wd}
theorem RelE.wipe {e : Env} {σ : L2.St} (h : RelE K w e σ) : ∀ vs : List Nat, RelE K w (wipeE e vs) (L2.wipe σ vs)
  | [] => h
  | v :: vs => by
    have ih := RelE.wipe h vs
    refine ih.drop (i := v) (by show (List.set (L2.wipe σ vs) v none).length = _; simp) fun j hj => ?_
    show (List.set (L2.wipe σ vs) v none)[j]? = _
    rw [List.getElem?_set_ne (Ne.symm hj)]
theorem wipe_get (σ : L2.St) (j : Nat) : ∀ vs : List Nat, (L2.wipe σ vs)[j]? = if j ∈ vs then (if j < σ.length then some none else none) else σ[j]?
  | [] => by simp [L2.wipe]
  | v :: vs => by
    show (List.set (L2.wipe σ vs) v none)[j]? = _
    by_cases hj : v = j
    · subst hj
      by_cases hl : v < σ.length
      · rw [List.getElem?_set_self (by rw [wipe_length]; exact hl)]; simp [hl]
      · rw [List.getElem?_eq_none (by simp [wipe_length]; omega)]; simp [hl]
    · rw [List.getElem?_set_ne hj, wipe_get σ j vs]
      have e : (j ∈ v :: vs) = (j ∈ vs) := by
        simp only [List.mem_cons, eq_iff_iff, or_iff_right_iff_imp]
        exact fun z => absurd z.symm hj
      simp only [e]
theorem wipe_same {σ σ2 : L2.St} {vs : List Nat} (h : SameS (some vs) (L2.wipe σ vs) σ2) : L2.wipe σ2 vs = L2.wipe σ vs := by
  obtain ⟨hl, hs⟩ := h
  have hl' : σ2.length = σ.length := by rw [hl, wipe_length]
  refine List.ext_getElem? fun j => ?_
  rw [wipe_get σ2 j vs, wipe_get σ j vs, hl']
  by_cases hj : j ∈ vs
  · rw [if_pos hj, if_pos hj]
  · rw [if_neg hj, if_neg hj, hs j hj, wipe_get σ j vs, if_neg hj]
end
def mLcGo (it : IT) (g : MG) (tt : MT) (te : ME) (vs : List Nat) (env : Env) : List D → List D → Tb → Rs (List D)
  | [], acc, tb => if it.Kept tb then .ok acc tb else .fail
  | d :: ds, acc, tb => if it.Kept tb ∧ acc.length < LIM then
      match g d (wipeE env vs) tb with
      | some (e, t) => match tt e t with
        | .ok b t1 => if b = true then
            match te e t1 with
            | .ok y t2 => mLcGo it g tt te vs env ds (acc ++ [y]) t2
            | _ => .fail
          else mLcGo it g tt te vs env ds acc t1
        | _ => .fail
      | none => .fail
    else .fail
def mLc (t : Bool) (mi : Env → Tb → Rs IT) (g : MG) (tt : MT) (te : ME) (vs : List Nat) : ME := fun env tb => (mi env tb).bind fun it tb => (mLcGo it g tt te vs env it.ds [] tb).bind fun ds tb => newL t ds tb
def LcR (K : PySem.W.Frag) (c : Cc) (g : MG) (mt : MT) (me : ME) (vs : List Nat) (σ : L2.St) (Q : VK) : It → Hp → Prop := fun J H1 =>
    ∀ A, H1 A = none → ∃ Wi : Nat → Nat → Hp → Prop, (∃ m, Wi 0 m (upd H1 A (.lst []))) ∧ ∀ i m H, Wi i m H → (J.stop i H ∧ Q (.ref A) H) ∨ (J.go i H ∧ ∃ Nx : Hp → Prop, (∀ H', Nx H' → ∃ m', m' < m ∧ Wi (i + 1) m' H') ∧
      ∀ x H', J.yld i H x H' → tGt K c (some vs) g x (L2.wipe σ vs) H' fun σ2 H2 => L2.wipe σ2 vs = L2.wipe σ vs ∧ tT K c WF mt σ2 H2 fun b H3 =>
        if b = true then tD K c WF me σ2 H3 fun y H4 => ∃ acc, H4 A = some (.lst acc) ∧ acc.length < sizeLine ∧ Nx (upd H4 A (.lst (acc ++ [y]))) else Nx H3)
section
variable {X : Cx} {c : Cc} {W : WX} {tg e elt : Expr} {pos : Pos} {g : MG} {mi : Env → Tb → Rs IT} {mt : MT} {me : ME}
theorem lc_ok {K : PySem.W.Frag} {w1 : Wd} {J : It} {it : IT} {σ : L2.St} {H1 : Hp} {env : Env} {tb1 : Tb} {Q : VK} {vs : List Nat} {t : Bool} (ok : ItOk K c.cA w1 J it) (hc : w1.cur = c.cur) (s : Sim K c.cA w1 tb1 H1) (re : RelE K w1 env σ)
    (p : Post K c W σ w1 (RelD K) Q ((mLcGo it g mt me vs env it.ds [] tb1).bind fun ds tb => newL t ds tb)) :
    LcR K c g mt me vs σ Q J H1 := by
  intro A hA
  have h0A : w1.hid A = none := by
    cases q : w1.hid A with
    | none => rfl
    | some o => have z := (s.hid A o q).1; rw [hA] at z; cases z
  -- the word
  let IV : Nat → Hp → Prop := fun i H => ∃ w tb acc us, w1.LeR w ∧ w.cur = w1.cur ∧ w.hid = upd w1.hid A (.lst us) ∧ Sim K c.cA w tb H ∧ RelDs K w acc us ∧ Post K c W σ w1 (RelD K) Q ((mLcGo it g mt me vs env (it.ds.drop i) acc tb).bind fun ds tb => newL t ds tb)
  have leI : ∀ {w : Wd} {us : List V}, w1.LeR w → w.cur = w1.cur → w.hid = upd w1.hid A (.lst us) → w1.LeI w := fun {w us} a b d => ⟨a, b, fun p o e => by
    rw [d, upd_ne]
    · exact e
    · rintro rfl
      rw [h0A] at e; cases e⟩
  refine ⟨fun i m H => m = it.ds.length - i ∧ i ≤ it.ds.length ∧ IV i H, ⟨it.ds.length, rfl, Nat.zero_le _, w1.hide A (.lst []), tb1, [], [], ⟨Same.refl _, fun _ _ h => h⟩, rfl, rfl, s.hide hA, .nil, p⟩, ?_⟩
  rintro i m H ⟨rfl, hi, w, tb, acc, us, lR, hcu, hh, s1, racc, p⟩
  have lI := leI lR hcu hh
  have hidA : w.hid A = some (.lst us) := by rw [hh]; exact upd_same
  by_cases hlt : i < it.ds.length
  · rw [List.drop_eq_getElem_cons hlt] at p
    unfold mLcGo at p
    by_cases hk : it.Kept tb ∧ acc.length < LIM
    · rw [if_pos hk] at p
      refine .inr ⟨ok.go w tb H i lI s1 hk.1 hlt, IV (i + 1), fun H' h => ⟨it.ds.length - (i + 1), by omega, rfl, hlt, h⟩, fun x H' y => ?_⟩
      obtain ⟨w2, l2, s2, r2⟩ := ok.yld w tb H i _ x H' lI s1 hk.1 (List.getElem?_eq_getElem hlt) y
      cases hg : g it.ds[i] (wipeE env vs) tb with
      | none => rw [hg] at p; exact p.elim
      | some et =>
        obtain ⟨e3, t3⟩ := et
        rw [hg] at p
        refine ⟨w2, wipeE env vs, tb, _, s2, l2.cur.trans (hcu.trans hc), (re.upR (lR.trans l2.r)).wipe vs, r2, (e3, t3), hg, fun w3 σ3 H3 l3 s3 re3 same => ⟨wipe_same same, w3, e3, t3, s3, (l2.trans l3).cur.trans (hcu.trans hc), re3, ?_⟩⟩
        have l23 := l2.trans l3
        cases q : mt e3 t3 with
        | ex k fs tb => simp only [q] at p; exact p.elim
        | fail => simp only [q] at p; exact p.elim
        | ok b t4 =>
          simp only [q] at p
          intro w4 H4 b' l4 s4 hb'
          obtain rfl : b = b' := hb'
          have l4' := l23.trans l4
          have hh4 : w4.hid = upd w1.hid A (.lst us) := l4'.hid.trans hh
          cases b with
          | false =>
            rw [if_neg Bool.false_ne_true] at p ⊢
            exact ⟨w4, t4, acc, us, lR.trans l4'.r, l4'.cur.trans hcu, hh4, s4, racc.up l4', p⟩
          | true =>
            rw [if_pos rfl] at p ⊢
            refine ⟨w4, e3, t4, s4, l4'.cur.trans (hcu.trans hc), re3.up l4, ?_⟩
            cases q2 : me e3 t4 with
            | ex k fs tb => simp only [q2] at p; exact p.elim
            | fail => simp only [q2] at p; exact p.elim
            | ok y t5 =>
              simp only [q2] at p
              intro w5 H5 yv l5 s5 ry
              have l5' := l4'.trans l5
              have hh5 : w5.hid = upd w1.hid A (.lst us) := l5'.hid.trans hh
              have hid5 : w5.hid A = some (.lst us) := by rw [hh5]; exact upd_same
              have l6 : w5.LeR (w5.hide A (.lst (us ++ [yv]))) := ⟨Same.refl _, fun _ _ h => h⟩
              refine ⟨us, (s5.hid A _ hid5).1, by rw [← racc.length]; exact lt_lim hk.2, w5.hide A (.lst (us ++ [yv])), t5, acc ++ [y], us ++ [yv], (lR.trans l5'.r).trans l6, l5'.cur.trans hcu, ?_, s5.rehide hid5 (fun _ _ z => nomatch z), ((racc.up l5').append (.cons ry .nil)).upR l6, p⟩
              show upd w5.hid A _ = _
              rw [hh5]
              funext b
              by_cases hb : b = A
              · subst hb; rw [upd_same, upd_same]
              · rw [upd_ne hb, upd_ne hb, upd_ne hb]
    · rw [if_neg hk] at p; exact p.elim
  · have e : i = it.ds.length := by omega
    rw [e, List.drop_length] at p
    unfold mLcGo at p
    by_cases hk : it.Kept tb
    · rw [if_pos hk] at p
      refine .inl ⟨ok.stop w tb H i lI s1 hk (by omega), ?_⟩
      have p : Post K c W σ w1 (RelD K) Q (newL t acc tb) := p
      unfold newL at p
      cases t with
      | true =>
        rw [if_pos rfl] at p
        have lp : w.LeR ((w.withHid w1.hid).push A) := (Wd.leR_hid (h := w1.hid)).trans ((w.withHid w1.hid).le_push A).r
        obtain ⟨l6, s6⟩ := s1.forthT (ob := .lst acc) hh h0A (fun _ _ z => nomatch z) ⟨us, (s1.hid A _ hidA).1, racc.upR lp⟩
        refine p _ _ _ ⟨lR.trans l6, hcu, rfl⟩ s6 (.ref ?_)
        rw [← s1.len]
        exact push_at
      | false =>
        rw [if_neg Bool.false_ne_true] at p
        obtain ⟨l6, s6⟩ := s1.forthF hh h0A (fun _ _ z => nomatch z)
        exact p _ _ _ ⟨lR.trans l6, hcu, rfl⟩ s6 (.lst upd_same (racc.upR l6))
    · rw [if_neg hk] at p; exact p.elim
variable {ifs : List Expr} {scope : Scope} {own : List (Str × Nat)}
theorem PTs.imp {X : Cx} {e : List Expr} {t t' : TT} (h : PTs X e t) (k : ∀ σ H Q, t' σ H Q → t σ H Q) : PTs X e t' := ⟨fun pins s σ H Q I q => h.run pins s σ H Q I (k σ H Q q)⟩
def DTs (X : Cx) (c : Cc) (ifs : List Expr) (m : MT) : Prop := PTs X ifs (tT X.K c WF m)
theorem ts_nil : DTs X c [] mYes := PTs.imp pts_nil fun σ H Q ⟨w, env, tb, s, hc, e, p⟩ => Post.now (a := true) p s rfl
theorem ts_one {x : Expr} (h : DT X c WF x mt) : DTs X c [x] mt := pts_one h
theorem d_lc (t : Bool) (hc : X.calm = true) (hN : X.N.Nodup) (hi : DI X c W tg e mi) (ok : BlkOk X.N X.env.scope scope own)
    (hg : ∀ (s : Shared) (H : Hp) (C : Addr) (cl : List (Str × Addr)) (fp : List Addr), DG (X.blk s H scope (compEnvC scope cl C X.env) fp) c (some (own.map (·.2))) tg g)
    (ht : ∀ (s : Shared) (H : Hp) (C : Addr) (cl : List (Str × Addr)) (fp : List Addr), DTs (X.blk s H scope (compEnvC scope cl C X.env) fp) c ifs mt)
    (he : ∀ (s : Shared) (H : Hp) (C : Addr) (cl : List (Str × Addr)) (fp : List Addr), DE (X.blk s H scope (compEnvC scope cl C X.env) fp) c WF elt me) (hs : ∀ x, foldedSetIterable e X.env x = pure x := by intro _; rfl) :
    DE X c W (.ListComp elt [⟨tg, e, ifs, 0⟩] scope pos) (mLc t mi g mt me (own.map (·.2))) :=
  PE.imp (pe_lc (g := tGt X.K c (some (own.map fun p : Str × Nat => p.2)) g) (tt := tT X.K c WF mt) (te := tD X.K c WF me) hc hN hi ok hg ht he hs) fun σ H Q ⟨w, env, tb, s, hcu, re, p⟩ => ⟨w, env, tb, s, hcu, re, p.seq fun it tb1 w1 H1 J l1 s1 okJ p1 => lc_ok okJ (l1.cur.trans hcu) s1 (re.up l1) p1⟩
theorem s_setLc {i : Nat} {y : Str} {py spos : Pos} (t : Bool) (hc : X.calm = true) (hN : X.N.Nodup) (hy : X.N[i]? = some y) (hyl : X.env.scope.names.lookup y = some .local)
    (hsw : swapsWith (.ListComp elt [⟨tg, e, ifs, 0⟩] scope pos) (some (.Name y py)) spos.line X.env = pure true) (hi : DI X c W tg e mi) (ok : BlkOk X.N X.env.scope scope own)
    (hg : ∀ (s : Shared) (H : Hp) (C : Addr) (cl : List (Str × Addr)) (fp : List Addr), DG (X.blk s H scope (compEnvC scope cl C X.env) fp) c (some (own.map (·.2))) tg g)
    (ht : ∀ (s : Shared) (H : Hp) (C : Addr) (cl : List (Str × Addr)) (fp : List Addr), DTs (X.blk s H scope (compEnvC scope cl C X.env) fp) c ifs mt)
    (he : ∀ (s : Shared) (H : Hp) (C : Addr) (cl : List (Str × Addr)) (fp : List Addr), DE (X.blk s H scope (compEnvC scope cl C X.env) fp) c WF elt me) (hs : ∀ x, foldedSetIterable e X.env x = pure x := by intro _; rfl) :
    DS X c W (.Assign [.Name y py] (.ListComp elt [⟨tg, e, ifs, 0⟩] scope pos) spos) (mSet i (mLc t mi g mt me (own.map (·.2)))) :=
  PS.imp (ps_setLc (g := tGt X.K c (some (own.map fun p : Str × Nat => p.2)) g) (tt := tT X.K c WF mt) (te := tD X.K c WF me) hc hN hy hyl hsw hi ok hg ht he hs) fun E σ H ⟨w, env, tb, s, hcu, re, p⟩ => by
    have p : PostS X.K c W E w ((((mi env tb).bind fun it tb => (mLcGo it g mt me (own.map (·.2)) env it.ds [] tb).bind fun ds tb => newL t ds tb)).st env fun d tb => .nx (env.set i (some d)) tb) := p
    have p2 : Post X.K c W σ w (RelD X.K) (fun x H1 => E.nx (σ.set i (some x)) H1) ((mi env tb).bind fun it tb => (mLcGo it g mt me (own.map (·.2)) env it.ds [] tb).bind fun ds tb => newL t ds tb) :=
      Post.stS re p fun d tb1 w1 H1 v l1 s1 r1 p1 => p1.nxt s1 ((re.up l1).set r1)
    exact ⟨w, env, tb, s, hcu, re, p2.seq fun it tb1 w1 H1 J l1 s1 okJ p1 => lc_ok okJ (l1.cur.trans hcu) s1 (re.up l1) p1⟩

/-! ### over the keys of a dict that a name holds -/
def dkD : DK → D
  | .i n => .int n
  | .s cs => .str cs
  | .t as => .tup (as.map fun x => match x with
    | .inl n => .int n
    | .inr cs => .str cs)
theorem relKs_key {K : PySem.W.Frag} {w w' : Wd} : ∀ {kvs : List (DK × D)} {vs : List (Key × V)}, RelKs K w kvs vs → ∀ {i : Nat} {k : Key} {v : V} {d : D}, vs[i]? = some (k, v) → (kvs.map fun p => dkD p.1)[i]? = some d → RelD K w' d (kV k) := by
  intro kvs
  induction kvs with
  | nil => intro vs r i k v d h1 h2; simp at h2
  | cons p kvs ih =>
    intro vs r i k v d h1 h2
    cases r with
    | @int n x u _ us a t =>
      cases i with
      | zero => simp at h1 h2; obtain ⟨rfl, rfl⟩ := h1; subst h2; exact .int n
      | succ i => exact ih t (by simpa using h1) (by simpa using h2)
    | @str n x u _ us a t =>
      cases i with
      | zero => simp at h1 h2; obtain ⟨rfl, rfl⟩ := h1; subst h2; exact .str n
      | succ i => exact ih t (by simpa using h1) (by simpa using h2)
theorem itk_ok {K : PySem.W.Frag} {cA : Nat → Addr} {w0 : Wd} {a : Addr} {od : Obj} {vs : List (Key × V)} {kvs : List (DK × D)} (r : RelKs K w0 kvs vs) (h : ∀ (w : Wd) (tb : Tb) (H : Hp), w0.LeI w → Sim K cA w tb H → H a = some (.frz od (.dK vs))) :
    ItOk K cA w0 (Itk a od vs) ⟨kvs.map fun p => dkD p.1, []⟩ where
  stop := fun w tb H i l s k hi => ⟨h w tb H l s, by rw [← relKs_len r]; simpa using hi⟩
  go := fun w tb H i l s k hi => ⟨h w tb H l s, by rw [← relKs_len r]; simpa using hi⟩
  yld := fun w tb H i d x H' l s k e y => by
    obtain ⟨rfl, k, v, h1, rfl⟩ := y
    exact ⟨w, .refl w, s, relKs_key r h1 e⟩
inductive Lk where
  | no | fz | at (n : Nat)
def dKeys : D → Tb → Option (List (DK × D) × Lk)
  | .dic false kvs, _ => some (kvs, .fz)
  | .ref n, tb => match tb[n]? with
    | some (.dic false kvs) => some (kvs, .at n)
    | some (.lck false kvs) => some (kvs, .no)
    | _ => none
  | _, _ => none
def Lk.set (kvs : List (DK × D)) (tb : Tb) : Lk → Tb
  | .at n => tb.set n (.lck false kvs)
  | _ => tb
def Lk.back (kvs : List (DK × D)) (tb : Tb) : Lk → Option Tb
  | .at n => match tb[n]? with
    | some (.lck false _) => some (tb.set n (.dic false kvs))
    | _ => none
  | _ => some tb
/-- the reading while the dict is locked -/
def relock (kvs : List (DK × D)) (l : Lk) (r : Rs D) : Rs D := match r with
  | .ok d tb => match l.back kvs tb with
    | some tb => .ok d tb
    | none => .fail
  | _ => .fail
def mLcN (t : Bool) (i : Nat) (g : MG) (tt : MT) (te : ME) (vs : List Nat) : ME := fun env tb => match env[i]? with
  | some (some d) => match seqIt d tb with
    | some it => (mLcGo it g tt te vs env it.ds [] tb).bind fun ds tb => newL t ds tb
    | none => match dKeys d tb with
      | some (kvs, l) => relock kvs l ((mLcGo ⟨kvs.map fun p => dkD p.1, []⟩ g tt te vs env (kvs.map fun p => dkD p.1) [] (l.set kvs tb)).bind fun ds tb => newL t ds tb)
      | none => .fail
  | _ => .fail
theorem relock_no {K : PySem.W.Frag} {w : Wd} {σ : L2.St} {Q : VK} {kvs : List (DK × D)} {r : Rs D} {l : Lk} (hl : l = .fz ∨ l = .no) (p : Post K c W σ w (RelD K) Q (relock kvs l r)) : Post K c W σ w (RelD K) Q r := by
  rcases hl with rfl | rfl <;> (cases r with
    | ok d tb2 => exact p
    | ex k fs tb2 => exact p.elim
    | fail => exact p)
theorem relock_fz {K : PySem.W.Frag} {w : Wd} {σ : L2.St} {Q : VK} {kvs : List (DK × D)} {r : Rs D} {a : Addr} {u : HO} {od : Obj} (e0 : w.Hf a = some u) (hu : isDicH u = true) (hn : w.hid a = none) (p : Post K c W σ w (RelD K) Q (relock kvs .fz r)) :
    Post K c W σ (w.hide a (.frz od u)) (RelD K) (fun v H' => H' a = some (.frz od u) ∧ Q v (upd H' a u)) r := by
  have lR : w.LeR (w.hide a (.frz od u)) := ⟨Same.refl _, fun _ _ h => h⟩
  cases r with
  | ok d tb2 =>
    intro w' H' b0 l' s' r'
    obtain ⟨h1, h2⟩ := s'.unlockF (l'.r.hf _ _ e0) hu l'.hid hn
    exact ⟨h1, p (w'.withHid w.hid) _ _ ⟨(lR.trans l'.r).trans Wd.leR_hid, l'.cur, rfl⟩ h2 (r'.upR Wd.leR_hid)⟩
  | ex k fs tb2 => exact p.elim
  | fail => exact p
theorem relock_at {K : PySem.W.Frag} {w : Wd} {σ : L2.St} {Q : VK} {kvs : List (DK × D)} {r : Rs D} {a : Addr} {u : HO} {od : Obj} {n : Nat} (e0 : w.rho[n]? = some a) (dh : DicH K w u kvs false) (hn : w.hid a = none) (p : Post K c W σ w (RelD K) Q (relock kvs (.at n) r)) :
    Post K c W σ (w.hide a (.frz od u)) (RelD K) (fun v H' => H' a = some (.frz od u) ∧ Q v (upd H' a u)) r := by
  have lR : w.LeR (w.hide a (.frz od u)) := ⟨Same.refl _, fun _ _ h => h⟩
  cases r with
  | ok d tb2 =>
    intro w' H' b0 l' s' r'
    have p2 : Post K c W σ w (RelD K) Q (match (match tb2[n]? with | some (.lck false _) => some (tb2.set n (.dic false kvs)) | _ => none) with | some tb => .ok d tb | none => .fail) := p
    split at p2
    · rename_i tb3 h3
      split at h3
      · rename_i g3
        cases h3
        obtain ⟨h1, h2⟩ := s'.unlockT (kv0 := kvs) (l'.r.rho _ _ e0) g3 l'.hid hn (dh.up (lR.trans l'.r))
        exact ⟨h1, p2 (w'.withHid w.hid) _ _ ⟨(lR.trans l'.r).trans Wd.leR_hid, l'.cur, rfl⟩ h2 (r'.upR Wd.leR_hid)⟩
      · cases h3
    · exact p2.elim
  | ex k fs tb2 => exact p.elim
  | fail => exact p
theorem d_lcN {i : Nat} {x : Str} {px : Pos} (t : Bool) (hx : X.N[i]? = some x) (hc : X.calm = true) (hN : X.N.Nodup) (ok : BlkOk X.N X.env.scope scope own)
    (hg : ∀ (s : Shared) (H : Hp) (C : Addr) (cl : List (Str × Addr)) (fp : List Addr), DG (X.blk s H scope (compEnvC scope cl C X.env) fp) c (some (own.map (·.2))) tg g)
    (ht : ∀ (s : Shared) (H : Hp) (C : Addr) (cl : List (Str × Addr)) (fp : List Addr), DTs (X.blk s H scope (compEnvC scope cl C X.env) fp) c ifs mt)
    (he : ∀ (s : Shared) (H : Hp) (C : Addr) (cl : List (Str × Addr)) (fp : List Addr), DE (X.blk s H scope (compEnvC scope cl C X.env) fp) c WF elt me)
    (hv : Vis X.env.scope x := by first | exact Or.inl rfl | exact Or.inr (Or.inl rfl) | exact Or.inr (Or.inr rfl)) (hd : (x == ("__debug__" : Str)) = false := by decide)
    (hcd : (x == ("__classdict__" : Str)) = false := by decide) (hs : ∀ u, foldedSetIterable (.Name x px) X.env u = pure u := by intro _; rfl) :
    DE X c W (.ListComp elt [⟨tg, .Name x px, ifs, 0⟩] scope pos) (mLcN t i g mt me (own.map (·.2))) := by
  have v := pe_var (X := X) (pos := px) hx hv hd hcd
  have a := pe_lc (pos := pos) (g := tGt X.K c (some (own.map fun p : Str × Nat => p.2)) g) (tt := tT X.K c WF mt) (te := tD X.K c WF me) hc hN (pi_any (tg := tg) v) ok hg ht he hs
  have b := pe_lc (pos := pos) (g := tGt X.K c (some (own.map fun p : Str × Nat => p.2)) g) (tt := tT X.K c WF mt) (te := tD X.K c WF me) hc hN (pi_keys (tg := tg) v) ok hg ht he hs
  have d := pe_lock b
  refine ⟨fun pins s σ H Q I ⟨w, env, tb, s1, hcu, re, p⟩ => ?_⟩
  unfold mLcN at p
  split at p
  · rename_i x0 hx0
    obtain ⟨v0, hv0, r0⟩ := re.2 i x0 hx0
    split at p
    · rename_i it hit
      exact a.run pins s σ H Q I ⟨v0, hv0, seq_at (R := LcR X.K c g mt me (own.map fun p : Str × Nat => p.2) σ Q) s1 r0 hit fun J okJ => lc_ok okJ hcu s1 re p⟩
    · split at p
      · rename_i kvs l hkl
        cases r0 with
        | @dic ks a0 vs0 e0 rk0 =>
          cases hkl
          have go : ∀ (od : Obj), (∀ (w' : Wd) (tb' : Tb) (H' : Hp), w.LeI w' → Sim X.K c.cA w' tb' H' → H' a0 = some (.frz od (.dK vs0))) → wpAny (model X.prog X.w) X.A (eval (.ListComp elt [⟨tg, .Name x px, ifs, 0⟩] scope pos) X.env) (EP X pins σ Q) X.xe s := fun od hf =>
            b.run pins s σ H Q I ⟨_, hv0, a0, od, rfl, .inl ⟨vs0, hf w tb H (.refl w) s1, lc_ok (Q := Q) (itk_ok rk0 hf) hcu s1 re (relock_no (.inl rfl) p)⟩⟩
          rcases e0 with e0 | ⟨od, e0⟩
          · rcases s1.fro a0 _ e0 with hH | ⟨_, od, hH, hh⟩
            · obtain ⟨hn, hlk⟩ := s1.lockF e0 rfl hH
              refine d.run pins s σ H Q I ⟨a0, .dK vs0, hH, trivial, fun od => ?_⟩
              have lR : w.LeR (w.hide a0 (.frz od (.dK vs0))) := ⟨Same.refl _, fun _ _ h => h⟩
              have hf : ∀ (w' : Wd) (tb' : Tb) (H' : Hp), (w.hide a0 (.frz od (.dK vs0))).LeI w' → Sim X.K c.cA w' tb' H' → H' a0 = some (.frz od (.dK vs0)) := fun w' tb' H' l' s' => (s'.hid a0 _ (l'.hid a0 _ upd_same)).1
              exact ⟨_, hv0, a0, od, rfl, .inl ⟨vs0, upd_same, lc_ok (Q := fun v H' => H' a0 = some (.frz od (.dK vs0)) ∧ Q v (upd H' a0 (.dK vs0))) (itk_ok (RelKs.mono lR _ _ rk0) hf) hcu (hlk od) (re.upR lR) (relock_fz (od := od) e0 rfl hn p)⟩⟩
            · exact go od fun w' tb' H' l' s' => (s'.hid a0 _ (l'.hid a0 _ hh)).1
          · refine go od fun w' tb' H' l' s' => ?_
            rcases s'.fro a0 _ (l'.r.hf _ _ e0) with q | ⟨z, _⟩
            · exact q
            · cases z
        | @ref n a0 e0 =>
          have h' : (match tb[n]? with | some (.dic false kvs) => some (kvs, Lk.at n) | some (.lck false kvs) => some (kvs, .no) | _ => none) = some (kvs, l) := hkl
          split at h'
          · rename_i ks g0
            cases h'
            obtain ⟨hn, u, hH, dh, hlk⟩ := s1.lockT e0 g0
            obtain ⟨vs0, rfl, rk0⟩ := id dh
            refine d.run pins s σ H Q I ⟨a0, .dK vs0, hH, trivial, fun od => ?_⟩
            have lR : w.LeR (w.hide a0 (.frz od (.dK vs0))) := ⟨Same.refl _, fun _ _ h => h⟩
            have hf : ∀ (w' : Wd) (tb' : Tb) (H' : Hp), (w.hide a0 (.frz od (.dK vs0))).LeI w' → Sim X.K c.cA w' tb' H' → H' a0 = some (.frz od (.dK vs0)) := fun w' tb' H' l' s' => (s'.hid a0 _ (l'.hid a0 _ upd_same)).1
            exact ⟨_, hv0, a0, od, rfl, .inl ⟨vs0, upd_same, lc_ok (Q := fun v H' => H' a0 = some (.frz od (.dK vs0)) ∧ Q v (upd H' a0 (.dK vs0))) (itk_ok (RelKs.mono lR _ _ rk0) hf) hcu (hlk od) (re.upR lR) (relock_at (od := od) e0 dh hn p)⟩⟩
          · rename_i ks g0
            cases h'
            obtain ⟨od, u, hH, hh, dh⟩ := obLck.mp (s1.obs n a0 _ e0 g0)
            obtain ⟨vs0, rfl, rk0⟩ := dh
            have hf : ∀ (w' : Wd) (tb' : Tb) (H' : Hp), w.LeI w' → Sim X.K c.cA w' tb' H' → H' a0 = some (.frz od (.dK vs0)) := fun w' tb' H' l' s' => (s'.hid a0 _ (l'.hid a0 _ hh)).1
            exact b.run pins s σ H Q I ⟨_, hv0, a0, od, rfl, .inl ⟨vs0, hH, lc_ok (Q := Q) (itk_ok rk0 hf) hcu s1 re (relock_no (.inr rfl) p)⟩⟩
          · cases h'
        | _ => cases hkl
      · exact p.elim
  · exact p.elim
end
end L2.G
set_option maxHeartbeats 4000000
/-! F11: defs, calls, what is forgotten behind a call, freezing. -/
namespace L2.G
open PySem PySem.Spec PyProof.Rows

/-! ### behind a call the table is cut -/
def gcTb (n : Nat) (r : List D) (tb : Tb) : Tb := if tb.length ≤ n then tb else if (belows n r && (tb.take n).all (Ob.below n)) = true then tb.take n else tb
def gcN (n : Nat) : D → Nat
  | .ref m => max n (m + 1)
  | _ => n
section
variable {K : PySem.W.Frag} {cA : Nat → Addr} {w w' : Wd} {tb : Tb} {H : Hp}
theorem gc_ok {r : List D} {vs : List V} {n : Nat} (s : Sim K cA w' tb H) (l : w.Le w') (hn : w.rho.length ≤ n) (rr : RelDs K w' r vs) : ∃ w2, w.Le w2 ∧ Sim K cA w2 (gcTb n r tb) H ∧ RelDs K w2 r vs := by
  unfold gcTb
  split
  · exact ⟨w', l, s, rr⟩
  · split
    · rename_i h
      simp only [Bool.and_eq_true, List.all_eq_true] at h
      refine ⟨w'.cut n, ⟨⟨l.r.hf, fun k a e => ?_⟩, l.cur, l.hid⟩, s.cut fun k o hk e => h.2 o ?_, RelDs.cut r vs h.1 rr⟩
      · have hk : k < n := Nat.lt_of_lt_of_le (List.getElem?_eq_some_iff.mp e).1 hn
        show (w'.rho.take n)[k]? = _
        rw [List.getElem?_take, if_pos hk]
        exact l.r.rho k a e
      · refine List.mem_of_getElem? (i := k) ?_
        rw [List.getElem?_take, if_pos hk]
        exact e
    · exact ⟨w', l, s, rr⟩
end
/-- a def by what its body does; k: the slots behind the parameters -/
def mDef (k : Nat) (mb : MS) : List D → Tb → Rs D := fun ds tb => match mb (ds.map some ++ List.replicate k none) tb with
  | .nx _ tb' => .ok .non (gcTb tb.length [] tb')
  | .rt d tb' => .ok d (gcTb (gcN tb.length d) [d] tb')
  | .ex k fs _ tb' => .ex k fs (gcTb tb.length (fs.map (·.2)) tb')
  | _ => .fail
def spD (K : PySem.W.Frag) (cA : Nat → Addr) (np : Nat) (m : List D → Tb → Rs D) : Sp := fun vs H Q E => ∃ w tb ds, Sim K cA w tb H ∧ w.cur = none ∧ RelDs K w ds vs ∧ ds.length = np ∧ Post K ⟨cA, none⟩ (fun cls d _ H => E cls d H) [] w (RelD K) Q (m ds tb)
theorem spD_len {K : PySem.W.Frag} {cA : Nat → Addr} {np : Nat} {m : List D → Tb → Rs D} : ∀ vs H Q E, spD K cA np m vs H Q E → vs.length = np := fun vs H Q E ⟨w, tb, ds, _, _, r, h, _⟩ => r.length.symm.trans h
theorem start_rel {K : PySem.W.Frag} {w : Wd} {ds : List D} {vs : List V} (N : List Str) (r : RelDs K w ds vs) : RelE K w (ds.map some ++ List.replicate (N.length - ds.length) none) (start N vs) := by
  have hl := r.length
  refine ⟨by simp [start, hl], fun i d e => ?_⟩
  unfold start
  by_cases hi : i < ds.length
  · rw [List.getElem?_append_left (by simpa using hi), List.getElem?_map] at e
    have e' : ds[i]? = some d := by
      cases q : ds[i]? with
      | none => rw [q] at e; cases e
      | some x => rw [q] at e; cases e; rfl
    obtain ⟨v, h1, h2⟩ := r.get e'
    exact ⟨v, by rw [List.getElem?_append_left (by simpa [← hl] using hi), List.getElem?_map, h1]; rfl, h2⟩
  · rw [List.getElem?_append_right (by simpa using hi)] at e
    rw [List.getElem?_replicate] at e
    split at e <;> cases e
section
variable {P : Program} {w : World} {K : PySem.W.Frag} {mg : Str → Option Value} {base : Heap} {cA : Nat → Addr}
/-- the context of a def's body -/
abbrev bX (P : Program) (w : World) (K : PySem.W.Frag) (mg : Str → Option Value) (base : Heap) (N : List Str) (qual : Str) (sc : Scope) (f : Addr) (cdv : Value) (A : Around) (outer : List PySem.Env) (s : Shared) (H : Hp) (E : XK) : Cx := cxOf (L2.CX P w) P w K mg base N qual sc f cdv A outer s H E
abbrev WEx (E : XK) : WX := fun cls d _ H => E cls d H
theorem takes_b {N : List Str} {qual : Str} {sc : Scope} {f : Addr} {cdv : Value} {A : Around} {outer : List PySem.Env} {s : Shared} {H : Hp} {E : XK} : Takes (bX P w K mg base N qual sc f cdv A outer s H E) (WEx E) := takes_of rfl rfl rfl rfl
theorem owns_b {N : List Str} {qual : Str} {sc : Scope} {f : Addr} {cdv : Value} {A : Around} {outer : List PySem.Env} {s : Shared} {H : Hp} {E : XK} : PassesOwn (model (bX P w K mg base N qual sc f cdv A outer s H E).prog (bX P w K mg base N qual sc f cdv A outer s H E).w) (bX P w K mg base N qual sc f cdv A outer s H E).A (bX P w K mg base N qual sc f cdv A outer s H E).env (bX P w K mg base N qual sc f cdv A outer s H E).xe := passes_of rfl
theorem mDef_ok {wd : Wd} {tb : Tb} {ds : List D} {H : Hp} {Q : VK} {E : XK} {k : Nat} {mb : MS} (hs : Sim K cA wd tb H) (p : Post K ⟨cA, none⟩ (WEx E) [] wd (RelD K) Q (mDef k mb ds tb)) :
    PostS K ⟨cA, none⟩ (WEx E) { nx := fun _ H' => Q .non H', rt := Q } wd (mb (ds.map some ++ List.replicate k none) tb) := by
  have hrho : wd.rho.length ≤ tb.length := Nat.le_of_eq hs.len
  unfold mDef at p
  cases q : mb (ds.map some ++ List.replicate k none) tb with
  | nx e tb' =>
    simp only [q] at p
    intro w' σ' H' l s' _
    obtain ⟨w2, l2, s2, _⟩ := gc_ok (r := []) s' l hrho .nil
    exact p w2 H' .non l2 s2 .non
  | rt d tb' =>
    simp only [q] at p
    intro w' H' v l s' r'
    have hn : wd.rho.length ≤ gcN tb.length d := by
      refine Nat.le_trans hrho ?_
      unfold gcN
      split
      · exact Nat.le_max_left _ _
      · exact Nat.le_refl _
    obtain ⟨w2, l2, s2, r2⟩ := gc_ok (r := [d]) s' l hn (.cons r' .nil)
    cases r2 with
    | cons r2 _ => exact p w2 H' v l2 s2 r2
  | bk e tb' => simp only [q] at p; exact p.elim
  | ct e tb' => simp only [q] at p; exact p.elim
  | ex k fs e tb' =>
    simp only [q] at p
    intro w' σ' H' dx gs l s' _ h1 ⟨us, h2, h3⟩
    obtain ⟨w2, l2, s2, r2⟩ := gc_ok (r := fs.map (·.2)) s' l hrho h2
    exact p w2 H' dx gs l2 s2 h1 ⟨us, r2, h3⟩
  | fail => simp only [q] at p; exact p.elim
/-- at level 0 nothing is promised -/
theorem fn_none {f : Addr} {fd : FuncData} {ps : List Str} {k np : Nat} (h : np = ps.length) : FnOk P w K mg base (L2.CX P w) k f fd ps (spD K cA np fun _ _ => .fail) :=
  ⟨h ▸ spD_len, fun A outer s H args us vs Q E _ _ _ _ ⟨_, _, _, _, _, _, _, p⟩ => p.elim⟩
end

/-! ### calls -/
def mCall (np : Nat) (m : List D → Tb → Rs D) : List D → Tb → Rs D := fun ds tb => if ds.length = np then m ds tb else .fail
section
variable {X : Cx} {c : Cc} {W : WX} {k np : Nat} {f : Addr} {fd : FuncData} {ps : List Str} {m : List D → Tb → Rs D} {x : Str} {p pos : Pos} {e : Expr} {es : List Expr} {ma : MA}
theorem sp_at {K : PySem.W.Frag} {cA : Nat → Addr} {w1 : Wd} {tb1 : Tb} {H1 : Hp} {xs : List D} {vs : List V} {Q : VK} {σ : L2.St} {cc : Option (Addr × Addr)} (hcur : cc = none) (s : Sim K cA w1 tb1 H1) (hc : w1.cur = cc) (r : RelDs K w1 xs vs) (p : Post K ⟨cA, cc⟩ W σ w1 (RelD K) Q (mCall np m xs tb1)) :
    spD K cA np m vs H1 Q (WE W σ) := by
  subst hcur
  unfold mCall at p
  by_cases h : xs.length = np
  · rw [if_pos h] at p
    refine ⟨w1, tb1, xs, s, hc, r, h, ?_⟩
    cases q : m xs tb1 with
    | ok d tb2 => rw [q] at p; exact p
    | ex k fs tb2 => rw [q] at p; exact p
    | fail => rw [q] at p; exact p
  · rw [if_neg h] at p; exact p.elim
theorem d_call (hcur : c.cur = none) (tk : Takes X W) (F : FnOk X.prog X.w X.K X.mg X.base (L2.CX X.prog X.w) k f fd ps (spD X.K c.cA np m)) (hr : Room k X.A) (hg : Gl X x) (hm : X.mg x = some (.ref f)) (hk : PySem.W.keepIn X.K (.ref f) = true) (hb : Binds X.K fd ps [])
    (ha : DA X c W (e :: es) ma) (hdb : (x == ("__debug__" : Str)) = false := by decide) (he : starEach (e :: es) X.env = (false, eval e X.env) :: starEach es X.env := by rfl) (hpl : (backTo pos (starEach es X.env)).any (·.1) = false := by rfl) :
    DE X c W (.Call (.Name x p) (e :: es) [] pos) (mFn (mCall np m) ma) :=
  PE.imp (pe_callS F hr hg hm hk hb (passAt tk) ha hdb he hpl) fun σ H Q ⟨w, env, tb, s, hc, re, q⟩ =>
    ⟨w, env, tb, s, hc, re, q.seq fun xs tb1 w1 H1 vs l1 s1 r1 p1 => sp_at hcur s1 (l1.cur.trans hc) r1 p1⟩
/-- keywords alone: f(k = v, ..); g puts the values in the parameters' order -/
def DK' (X : Cx) (c : Cc) (W : WX) (kws : List Keyword) (m : MA) : Prop := PK X kws (tA X.K c W m)
theorem PK.imp {X : Cx} {e : List Keyword} {t t' : TA} (h : PK X e t) (k : ∀ σ H Q, t' σ H Q → t σ H Q) : PK X e t' := ⟨fun pos pins s σ H Q I q => h.run pos pins s σ H Q I (k σ H Q q)⟩
theorem k_nil : DK' X c W [] mNil := PK.imp pk_nil fun σ H Q ⟨w, env, tb, s, hc, e, p⟩ => Post.now (a := []) p s .nil
theorem k_cons {nm : Option Str} {kpos : Pos} {kws : List Keyword} {me : ME} {mr : MA} (ha : DE X c W e me) (hr : DK' X c W kws mr) : DK' X c W (⟨nm, e, kpos⟩ :: kws) (mCons me mr) :=
  PK.imp (pk_cons ha hr) fun σ H Q ⟨w, env, tb, s, hc, e, p⟩ => ⟨w, env, tb, s, hc, e, p.seq fun x tb1 w1 H1 xv l1 s1 r1 p1 =>
    ⟨w1, env, tb1, s1, l1.cur.trans hc, e.up l1, p1.seq fun xs tb2 w2 H2 vs l2 s2 r2 p2 => p2.now s2 (.cons (r1.up l2) r2)⟩⟩
def tCallKS (n m : Nat) (sp : Sp) (gV : List V → List V → List V) (E : L2.St → XK) (t tk : TA) : TE := fun σ H Q => t σ H fun vs H1 => tk σ H1 fun zs H2 => vs.length = n ∧ zs.length = m ∧ sp (gV vs zs) H2 Q (E σ)
section
variable {CX : CXT} {n : Nat} {ks : List Str} {sp : Sp} {E : L2.St → XK} {kws : List Keyword} {t tk : TA} {g : List Value → List Value → List Value} {gV : List V → List V → List V}
theorem run_fnKS {pins : List (Addr × Obj)} {σ : L2.St} {H : Hp} {s : Shared} {Q : VK} {us ws : List Value} {vs zs : List V} (F : FnOk X.prog X.w X.K X.mg X.base CX k f fd ps sp) (hr : Room k X.A) (hb : KBn X.K fd ps n ks g gV) (hx : PassesAt CX X σ (E σ))
    (I : Inv X pins σ H s) (r : Vals vs us) (rz : Vals zs ws) (l1 : vs.length = n) (l2 : zs.length = ks.length) (h : sp (gV vs zs) H Q (E σ)) : wpAny (model X.prog X.w) X.A (call (.ref f) us (ks.zip ws)) (EP X pins σ Q) X.xe s := by
  have r2 := hb.rel r rz
  refine wpAny_call (codeAny_mono (F.run X.A X.stack s H ⟨us, ks.zip ws⟩ (g us ws) (gV vs zs) Q (E σ) hr I.env0 (hb.to s us ws I.kIn (r.length.symm.trans l1) (rz.length.symm.trans l2)) r2 h) fun r s' hq => ?_)
  cases r with
  | error e => exact hx pins H s e s' I hq
  | ok fl =>
    cases fl with
    | ret u => exact I.after hq
    | next => exact False.elim hq
    | brk => exact False.elim hq
    | cont => exact False.elim hq
theorem pe_callKS (F : FnOk X.prog X.w X.K X.mg X.base CX k f fd ps sp) (hr : Room k X.A) (hg : Gl X x) (hm : X.mg x = some (.ref f)) (hk : PySem.W.keepIn X.K (.ref f) = true) (hb : KBn X.K fd ps n ks g gV) (hx : ∀ σ, PassesAt CX X σ (E σ))
    (ha : PA X (e :: es) t) (hkw : PK X kws tk) (hall : (backToKw pos (keywordEach kws X.env)).all (·.1.isSome) = true := by rfl) (hks : (backToKw pos (keywordEach kws X.env)).filterMap (·.1) = ks := by rfl)
    (hdb : (x == ("__debug__" : Str)) = false := by decide) (he : starEach (e :: es) X.env = (false, eval e X.env) :: starEach es X.env := by rfl)
    (hpl : ((backTo pos (starEach (e :: es) X.env)).any (·.1) || (backToKw pos (keywordEach kws X.env)).any (·.1.isNone)) = false := by rfl) :
    PE X (.Call (.Name x p) (e :: es) kws pos) (tCallKS n ks.length sp gV E t tk) := by
  refine ⟨fun pins s σ H Q I h => ?_⟩
  refine wpAny_Call_Name_kw (ld_glob I hg hm ?_ hdb)
  refine PySem.W.callWith_KW (h₀ := X.base) I.ok.mod.kin hk hall (thn (ha.run pos pins s σ H _ I h) fun us s1 ⟨vs, H1, I1, r, q⟩ => ?_) hpl he
  refine thn (hkw.run pos pins s1 σ H1 _ I1 q) fun ws s2 ⟨zs, H2, I2, rz, l1, l2, q2⟩ => ⟨I2.kIn, ?_⟩
  rw [hks]
  exact run_fnKS F hr hb (hx σ) I2 r rz l1 l2 q2
theorem pe_callKS0 (F : FnOk X.prog X.w X.K X.mg X.base CX k f fd ps sp) (hr : Room k X.A) (hg : Gl X x) (hm : X.mg x = some (.ref f)) (hk : PySem.W.keepIn X.K (.ref f) = true) (hb : KBn X.K fd ps 0 ks g gV) (hx : ∀ σ, PassesAt CX X σ (E σ))
    (hkw : PK X kws tk) (hall : (backToKw pos (keywordEach kws X.env)).all (·.1.isSome) = true := by rfl) (hks : (backToKw pos (keywordEach kws X.env)).filterMap (·.1) = ks := by rfl)
    (hdb : (x == ("__debug__" : Str)) = false := by decide)
    (hpl : ((backTo pos (starEach [] X.env)).any (·.1) || (backToKw pos (keywordEach kws X.env)).any (·.1.isNone)) = false := by rfl) :
    PE X (.Call (.Name x p) [] kws pos) (tCallKS 0 ks.length sp gV E tNil tk) := by
  refine ⟨fun pins s σ H Q I h => ?_⟩
  refine wpAny_Call_Name_kw (ld_glob I hg hm ?_ hdb)
  refine PySem.W.callWith_KW0 (h₀ := X.base) I.ok.mod.kin hk hall (thn (hkw.run pos pins s σ H _ I h) fun ws s2 ⟨zs, H2, I2, rz, l1, l2, q2⟩ => ⟨I2.kIn, ?_⟩) hpl
  rw [hks]
  exact run_fnKS F hr hb (hx σ) I2 .nil rz rfl l2 q2
end
/-- the values in another order -/
def permL {α : Type} (is : List Nat) (xs : List α) : List α := is.filterMap fun i => xs[i]?
theorem permL_rel {K : PySem.W.Frag} {w : Wd} {ds : List D} {vs : List V} (r : RelDs K w ds vs) : ∀ is : List Nat, RelDs K w (permL is ds) (permL is vs)
  | [] => .nil
  | i :: is => by
    have ih := permL_rel r is
    unfold permL at ih ⊢
    rw [List.filterMap_cons, List.filterMap_cons]
    cases e : ds[i]? with
    | none =>
      have e2 : vs[i]? = none := by
        rw [List.getElem?_eq_none_iff] at e ⊢
        rw [← r.length]; exact e
      rw [e2]; exact ih
    | some d =>
      obtain ⟨v, e2, rv⟩ := r.get e
      rw [e2]; exact .cons rv ih
theorem permL_vals {vs : List V} {us : List Value} (r : Vals vs us) : ∀ is : List Nat, Vals (permL is vs) (permL is us)
  | [] => .nil
  | i :: is => by
    have ih := permL_vals r is
    unfold permL at ih ⊢
    rw [List.filterMap_cons, List.filterMap_cons]
    cases e : vs[i]? with
    | none =>
      have e2 : us[i]? = none := by
        rw [List.getElem?_eq_none_iff] at e ⊢
        rw [← r.length]; exact e
      rw [e2]; exact ih
    | some d =>
      obtain ⟨v, e2, rv⟩ := r.get e
      rw [e2]; exact .cons rv ih
def mKw (n nk : Nat) (is : List Nat) (np : Nat) (m : List D → Tb → Rs D) (a b : MA) : ME := fun env tb => (a env tb).bind fun xs tb => (b env tb).bind fun ys tb => if xs.length = n ∧ ys.length = nk then mCall np m (permL is (xs ++ ys)) tb else .fail
theorem d_callK0 {kws : List Keyword} {ks : List Str} {mk : MA} {is : List Nat} (hcur : c.cur = none) (tk : Takes X W) (F : FnOk X.prog X.w X.K X.mg X.base (L2.CX X.prog X.w) k f fd ps (spD X.K c.cA np m)) (hr : Room k X.A) (hg : Gl X x) (hm : X.mg x = some (.ref f)) (hk : PySem.W.keepIn X.K (.ref f) = true)
    (hb : KBn X.K fd ps 0 ks (fun us ws => permL is (us ++ ws)) (fun us ws => permL is (us ++ ws))) (hkw : DK' X c W kws mk)
    (hall : (backToKw pos (keywordEach kws X.env)).all (·.1.isSome) = true := by rfl) (hks : (backToKw pos (keywordEach kws X.env)).filterMap (·.1) = ks := by rfl)
    (hdb : (x == ("__debug__" : Str)) = false := by decide)
    (hpl : ((backTo pos (starEach [] X.env)).any (·.1) || (backToKw pos (keywordEach kws X.env)).any (·.1.isNone)) = false := by rfl) :
    DE X c W (.Call (.Name x p) [] kws pos) (mKw 0 ks.length is np m mNil mk) :=
  PE.imp (pe_callKS0 F hr hg hm hk hb (passAt tk) hkw hall hks hdb hpl) fun σ H Q ⟨w, env, tb, s, hc, re, q⟩ =>
    ⟨w, env, tb, s, hc, re, Post.seq (rel2 := RelD X.K) (Q := Q) (f := fun ys tb => if ([] : List D).length = 0 ∧ ys.length = ks.length then mCall np m (permL is ([] ++ ys)) tb else .fail) q fun ys tb1 w1 H1 vs l1 s1 r1 p1 => by
      by_cases h : ([] : List D).length = 0 ∧ ys.length = ks.length
      · rw [if_pos h] at p1
        exact ⟨rfl, r1.length.symm.trans h.2, sp_at hcur s1 (l1.cur.trans hc) (permL_rel (by simpa using r1) is) p1⟩
      · rw [if_neg h] at p1; exact p1.elim⟩
theorem d_callK {kws : List Keyword} {ks : List Str} {mk : MA} {is : List Nat} {n : Nat} (hcur : c.cur = none) (tk : Takes X W) (F : FnOk X.prog X.w X.K X.mg X.base (L2.CX X.prog X.w) k f fd ps (spD X.K c.cA np m)) (hr : Room k X.A) (hg : Gl X x) (hm : X.mg x = some (.ref f)) (hk : PySem.W.keepIn X.K (.ref f) = true)
    (hb : KBn X.K fd ps n ks (fun us ws => permL is (us ++ ws)) (fun us ws => permL is (us ++ ws))) (ha : DA X c W (e :: es) ma) (hkw : DK' X c W kws mk)
    (hall : (backToKw pos (keywordEach kws X.env)).all (·.1.isSome) = true := by rfl) (hks : (backToKw pos (keywordEach kws X.env)).filterMap (·.1) = ks := by rfl)
    (hdb : (x == ("__debug__" : Str)) = false := by decide) (he : starEach (e :: es) X.env = (false, eval e X.env) :: starEach es X.env := by rfl)
    (hpl : ((backTo pos (starEach (e :: es) X.env)).any (·.1) || (backToKw pos (keywordEach kws X.env)).any (·.1.isNone)) = false := by rfl) :
    DE X c W (.Call (.Name x p) (e :: es) kws pos) (mKw n ks.length is np m ma mk) :=
  PE.imp (pe_callKS F hr hg hm hk hb (passAt tk) ha hkw hall hks hdb he hpl) fun σ H Q ⟨w, env, tb, s, hc, re, q⟩ =>
    ⟨w, env, tb, s, hc, re, q.seq fun xs tb1 w1 H1 vs l1 s1 r1 p1 => ⟨w1, env, tb1, s1, l1.cur.trans hc, re.up l1, p1.seq fun ys tb2 w2 H2 zs l2 s2 r2 p2 => by
      by_cases h : xs.length = n ∧ ys.length = ks.length
      · rw [if_pos h] at p2
        exact ⟨r1.length.symm.trans h.1, r2.length.symm.trans h.2, sp_at hcur s2 ((l1.trans l2).cur.trans hc) (permL_rel ((r1.up l2).append r2) is) p2⟩
      · rw [if_neg h] at p2; exact p2.elim⟩⟩
end

/-! ### a tracked list, a dict, frozen as it stands -/
def fzD (d : D) (tb : Tb) : D × Tb := match d with
  | .ref n => match tb[n]? with
    | some (.lst xs) => (.lst xs, tb.set n .dead)
    | some (.dic t kvs) => (.dic t kvs, tb.set n .dead)
    | _ => (d, tb)
  | _ => (d, tb)
def mFz (a : ME) : ME := fun env tb => (a env tb).bind fun d tb => .ok (fzD d tb).1 (fzD d tb).2
theorem fz_ok {K : PySem.W.Frag} {cA : Nat → Addr} {w : Wd} {tb : Tb} {H : Hp} {d : D} {v : V} (s : Sim K cA w tb H) (r : RelD K w d v) : ∃ w', w.Le w' ∧ Sim K cA w' (fzD d tb).2 H ∧ RelD K w' (fzD d tb).1 v := by
  unfold fzD
  split
  · rename_i n
    cases r with
    | @ref _ a e =>
      split
      · rename_i xs g
        obtain ⟨vs, h1, h2⟩ := s.obs n a _ e g
        obtain ⟨l, s2⟩ := s.ice e g rfl h1
        exact ⟨_, l, s2, .lst upd_same (h2.up l)⟩
      · rename_i t kvs g
        cases t with
        | false =>
          obtain ⟨vs, h1, h2⟩ := s.obs n a _ e g
          obtain ⟨l, s2⟩ := s.ice e g rfl h1
          exact ⟨_, l, s2, .dic (.inl upd_same) (RelKs.mono l.r _ _ h2)⟩
        | true =>
          obtain ⟨vs, h1, h2⟩ := s.obs n a _ e g
          obtain ⟨l, s2⟩ := s.ice e g rfl h1
          exact ⟨_, l, s2, .dit (.inl upd_same) (RelTs.mono l.r _ _ h2)⟩
      · exact ⟨w, .refl w, s, .ref e⟩
  · exact ⟨w, .refl w, s, r⟩
theorem d_fz {X : Cx} {c : Cc} {W : WX} {e : Expr} {me : ME} (h : DE X c W e me) : DE X c W e (mFz me) := PE.imp h fun σ H Q ⟨w, env, tb, s, hc, re, p⟩ =>
  ⟨w, env, tb, s, hc, re, p.seq fun d tb1 w1 H1 v l1 s1 r1 p1 => by
    obtain ⟨w2, l2, s2, r2⟩ := fz_ok s1 r1
    exact p1 w2 H1 v l2 s2 r2⟩
end L2.G
set_option maxHeartbeats 4000000
/-! F12: exceptions: making them, raising them, catching them, their fields. -/
namespace L2.G
open PySem PySem.Spec PyProof.Rows

/-! ### Base.__init__(self, ..) by a class of the program -/
theorem pe_voinit {X : Cx} {B : Addr} {mc : Value} {nm : Str} {e : Expr} {es : List Expr} {ta : TA} {p1 p2 pos : Pos} {pl : Sem Bool} (hg : Gl X nm) (hm : X.mg nm = some (.ref B)) (rd : PySem.W.readsIn X.K B mc = true) (ga : PySem.W.specialIn X.K (.ref B) "__getattribute__" = some (some (.builtin "type.__getattribute__"))) (hv : PySem.W.findCls X.K (.ref B) mc "__init__" = some (.val (.builtin "ValueError.__init__"))) (ha : PA X (e :: es) ta)
    (hdb : (nm == ("__debug__" : Str)) = false := by decide)
    (hc : eval (.Call (.Attribute (.Name nm p1) "__init__" p2) (e :: es) [] pos) X.env = (do
      let ov ← eval (.Name nm p1) X.env
      standAt p2.atName
      let (f, first) ← holding [ov] (getMethod ov "__init__" pl)
      callWith pos f first (backTo pos (starEach (e :: es) X.env)) (backToKw pos (keywordEach [] X.env))) := by rfl)
    (he : starEach (e :: es) X.env = (false, eval e X.env) :: starEach es X.env := by rfl) (hpl : (backTo pos (starEach es X.env)).any (·.1) = false := by rfl) :
    PE X (.Call (.Attribute (.Name nm p1) "__init__" p2) (e :: es) [] pos) (tVeI X.K ta) := by
  refine ⟨fun pins s σ H Q I h => ?_⟩
  refine PySem.W.methodCall_KW (ld_glob I hg hm ?_ hdb) hc
  refine PySem.W.method_cls I.kIn ga (PySem.W.cls_value I.kIn rd hv (by decide +kernel) ?_)
  show wpAny _ _ (callWith pos (Value.builtin "ValueError.__init__") [] (backTo pos (starEach (e :: es) X.env)) []) _ _ _
  refine PyProof.Rows.callWith_method1 (thn (ha.run pos pins _ σ H _ (I.tok _) h) fun us s1 ⟨vs, H1, I1, r1, a, C, ws, ev, hl, T, ea, q⟩ => ?_) he hpl
  subst ev
  cases r1 with
  | @cons _ u0 _ ur ra rw' =>
    obtain rfl : u0 = Value.ref a := ra
    have hlen : ur.length ≤ sizeLine := by
      rw [← Paired.length rw', sizeLine_eq]
      omega
    exact oinit_ok T I1 ea hlen fun s' J => ⟨.non, H1, J, rfl, q⟩
/-- __init__(self, v): Base.__init__(self, text); self.f = v -/
def spI (K : PySem.W.Frag) (f : Str) : Sp := fun vs H Q E => ∃ a C y, vs = [.ref a, y] ∧ H a = some (exo a C none) ∧ OexC K C ∧ PySem.W.findIn K (.ref C) f = some none ∧ ∀ dx, H dx = none → dx ≠ a → Q .non (upd (upd H dx (exd dx [(f, y)])) a (exo a C (some dx)))
section
variable {P : Program} {w : World} {K : PySem.W.Frag} {mg : Str → Option Value} {base : Heap}
theorem init_ok {x qual : Str} {st : Stmt} {fI : Addr} {fd : FuncData} {N : List Str} {k : Nat} {f msg : Str} (F : Fun K x qual st fI fd) (hN : N.length = 2) (S : FnScope N N (defScope st))
    (hbody : ∀ cdv A outer s H E, PSs (bX P w K mg base N qual (defScope st) fI cdv A outer s H E) (defBody st) (tSeq (tDrop (tVeI K (tCons (tVar 0) (tCons (tC (.str msg)) tNil)))) (tOst K f (tVar 0) (tVar 1)))) :
    FnOk P w K mg base (L2.CX P w) (k + 1) fI fd N (spI K f) := by
  refine F.okX S (fun vs H Q E ⟨a, C, y, e, _⟩ => by rw [e, hN]; rfl) fun cdv A outer s H vs Q E hr ⟨a, C, y, e, ha, T, hno, q⟩ => ⟨_, hbody cdv A outer s H E, ?_⟩
  subst e
  have s0' : (start N [V.ref a, y])[0]? = some (some (V.ref a)) := by simp [start]
  have s1' : (start N [V.ref a, y])[1]? = some (some y) := by simp [start]
  exact ⟨V.ref a, s0', a, C, [V.str msg], rfl, by simp, T, ha, y, s1', V.ref a, s0', a, C, rfl, T, hno, .inl ⟨ha, fun dx hd ne => q dx hd ne⟩⟩
end

/-! ### raise -/
def mRaise (k : Nat) (f : List Nat) (a : MA) : MS := fun env tb => (a env tb).st env fun ds tb => match ds with
  | [d] => .ex k [(f, d)] env tb
  | _ => .fail
theorem s_raise {X : Cx} {c : Cc} {W : WX} {e : Expr} {ma : MA} {x : Str} {fI : Addr} {k : Nat} {fd : FuncData} {ps : List Str} {p pos rpos : Pos} {f : List Nat} (kc : Nat) (hc : X.calm = true) (tk : Takes X W) (T : OexC X.K (c.cA kc)) (hno : PySem.W.findIn X.K (.ref (c.cA kc)) (tx f) = some none) (iC : PySem.W.findIn X.K (.ref (c.cA kc)) "__init__" = some (some (.ref fI)))
    (tI : PySem.W.typeIn X.K (.ref fI) = some (.type "function")) (F1 : FnOk X.prog X.w X.K X.mg X.base (L2.CX X.prog X.w) k fI fd ps (spI X.K (tx f))) (hr : Room (k + 1) X.A) (hb : Binds X.K fd ps []) (hg : Gl X x) (hm : X.mg x = some (.ref (c.cA kc))) (ha : DA X c W [e] ma)
    (hdb : (x == ("__debug__" : Str)) = false := by decide) (he : starEach [e] X.env = (false, eval e X.env) :: starEach [] X.env := by rfl) (hpl : (backTo pos (starEach [] X.env)).any (·.1) = false := by rfl) :
    DS X c W (.Raise (some (.Call (.Name x p) [e] [] pos)) none rpos) (mRaise kc f ma) :=
  PS.imp (ps_raise hc tk (pmk_oex T iC tI F1 hr hb .nil passL hg hm ha hdb he hpl)) fun E σ H ⟨w, env, tb, s, hcu, re, p⟩ =>
    ⟨w, env, tb, s, hcu, re, Post.stS re p fun ds tb1 w1 H1 vs l1 s1 r1 p1 => by
      match ds, r1, p1 with
      | [d], .cons (v := v) rd .nil, p1 =>
        refine ⟨by simp, fun a hA => ⟨a, c.cA kc, v, rfl, upd_same, T, hno, fun dx hd ne => ⟨rfl, dx, [(tx f, v)], upd_same, ?_, ?_, ?_⟩⟩⟩
        · rw [upd_ne ne]; exact upd_same
        · rw [upd_ne ne] at hd; exact hd
        · have hd1 : H1 dx = none := by rw [upd_ne ne] at hd; exact hd
          have eH : upd (del (upd (upd (upd H1 a (exo a (c.cA kc) none)) dx (exd dx [(tx f, v)])) a (exo a (c.cA kc) (some dx))) a) dx (.xd [(tx f, v)]) = upd H1 dx (.xd [(tx f, v)]) := by
            funext b
            by_cases hb1 : b = dx
            · subst hb1; rw [upd_same, upd_same]
            · rw [upd_ne hb1, upd_ne hb1]
              by_cases hb2 : b = a
              · subst hb2; rw [del_same, hA]
              · rw [del_ne hb2, upd_ne hb2, upd_ne hb1, upd_ne hb2]
          rw [eH]
          obtain ⟨l2, s2⟩ := s1.newF (o := .xd [(tx f, v)]) hd1
          exact p1 _ σ _ dx [(tx f, v)] l2 s2 ((re.up l1).up l2) upd_same ⟨[v], .cons (rd.up l2) .nil, rfl⟩
      | [], _, p1 => exact p1.elim
      | _ :: _ :: _, _, p1 => exact p1.elim⟩

/-! ### try, several clauses with names -/
def unS (i : Nat) (E : Ends) : Ends := { nx := fun σ' H' => E.nx (σ'.set i none) H', rt := E.rt, bk := fun σ' H' => E.bk (σ'.set i none) H', ct := fun σ' H' => E.ct (σ'.set i none) H' }
def wManyA (K : PySem.W.Frag) (Wout : WX) (E : Ends) : List (Value × Nat × (Addr → Value → Option Addr → TS)) → WX
  | [] => Wout
  | (c, i, ts) :: r => fun cls d σ H => ∃ b, PySem.W.exmOne K cls c = some b ∧ (b = true → ∀ a, H a = none → ts a cls d (unS i E) (σ.set i (some (.ref a))) H) ∧ (b = false → wManyA K Wout E r cls d σ H)
inductive HdsA (X : Cx) : List ExceptHandler → List (Value × Nat × (Addr → Value → Option Addr → TS)) → Prop
  | nil : HdsA X [] []
  | cons {x n : Str} {i : Nat} {c : Value} {ts : Addr → Value → Option Addr → TS} {b₀ : Stmt} {suite : List Stmt} {np pos' : Pos} {hds : List ExceptHandler} {l : List (Value × Nat × (Addr → Value → Option Addr → TS))} (hi : X.N[i]? = some n) (hln : X.env.kindOf n = some .local) (hc : Names X x c)
      (hsu : ∀ (a : Addr) (oe : Obj) (cls : Value) (d : Option Addr) (pn : List (Addr × Obj)), Zc cls d oe → (∃ vs, oe.data = .fields vs) → PSs (X.suite a ((a, oe) :: pn)) (b₀ :: suite) (ts a cls d)) (r : HdsA X hds l) :
      HdsA X (.ExceptHandler (some (.Name x np)) (some n) (b₀ :: suite) pos' :: hds) ((c, i, ts) :: l)
section
variable {X : Cx} {body : List Stmt} {h₀ : ExceptHandler} {hds : List ExceptHandler} {l : List (Value × Nat × (Addr → Value → Option Addr → TS))} {pos : Pos} {tb : WX → TS} {Wout : WX}
theorem ps_try_manyA (hs : X.stack = X.env :: X.outer) (hf : X.env.frame = some X.env.locals) (hN : X.N.Nodup) (tk : Takes X Wout)
    (hb : ∀ (W : WX) (pn : List (Addr × Obj)) (xe : Value → Shared → Prop), Takes (X.tr pn xe) W → PassesOwn (model X.prog X.w) X.A X.env xe → PSs (X.tr pn xe) body (tb W))
    (hh : HdsA X (h₀ :: hds) l) : PS X (.Try body (h₀ :: hds) [] [] pos) (fun D σ H => tb (wManyA X.K Wout D l) D σ H) := by
  refine ⟨fun pins s σ H D I h => ?_⟩
  have ok := I.ok
  have hfr : X.A.frames = some (X.env :: X.outer) := by rw [ok.frames, hs]
  refine wpAny_Try_except ?_
  refine wpAny_mono ((hb (wManyA X.K Wout D l) (X.pn ++ pins) (fun e s₁ => wpAny (model X.prog X.w) X.A (noteFrame e X.env) (fun _ s₂ => wpAny (model X.prog X.w) X.A (setFlight e none) (fun _ s₃ =>
    wpAny (model X.prog X.w) X.A (handleBy e X.env (h₀ :: hds)) (SP X pins D) X.xe s₃) X.xe s₂) X.xe s₁) (fun u s' xx => ?_) PassesOwn.looking).run [] s σ H D (I.toTry _) h) (fun f s1 hsp => ?_) (fun e s1 he => he)
  · obtain ⟨a, B, sI, pins', σ', H', cls, d, rfl, J', nb, up, sky, na, os, ag, w⟩ := xx
    have J : Inv X pins σ' H' sI := J'.ofTry ok
    have sky' : Sky B (X.env :: X.outer) a (Zc cls d) X.env.locals s'.heap := by rw [← hs]; exact sky
    show wpAny (model X.prog X.w) X.A (noteFrame (.ref a) X.env) _ _ _
    refine Sky.land Zc.steady hfr hf sky' fun h3 fl3 up3 => ?_
    have J3 : Inv X pins σ' H' { s' with heap := h3 } := J.landed nb fl3.1 (up.trans up3) os ag
    obtain ⟨oe3, vs3, he3, hz3, hd3⟩ := fl3.there
    have notFr : ∀ {h : Heap} {o : Obj} {vs : Array Value}, h.FunFrames B (X.env :: X.outer) → h.get? a = some o → o.data = .fields vs → a ∉ frs (X.env :: X.outer) := fun {h o vs} ff e dd hm => by
      obtain ⟨_, o', e', hnf⟩ := ff.mem hm
      rw [e] at e'; cases e'
      exact hnf _ dd
    have nfr := notFr fl3.2.2.1 he3 hd3
    have nL : a ≠ X.env.locals := fun z => nfr (List.mem_filterMap.mpr ⟨X.env, List.mem_cons_self, by rw [hf, z]⟩)
    have nF : a ∉ X.fs := fun hm => by
      obtain ⟨e, he, q⟩ := List.mem_filterMap.mp hm
      exact nfr (List.mem_filterMap.mpr ⟨e, List.mem_cons_of_mem _ he, q⟩)
    have S3 := J3.suite he3 hd3 na nL nF
    have go : ∀ {hds' : List ExceptHandler} {l' : List (Value × Nat × (Addr → Value → Option Addr → TS))}, HdsA X hds' l' → wManyA X.K Wout D l' cls d σ' H' →
        wpAny (model X.prog X.w) X.A (handleBy (.ref a) X.env hds') (SP X pins D) X.xe { s' with heap := h3 } := by
      intro hds' l' hk
      induction hk with
      | nil =>
        intro w
        refine wpAny_handleBy_nil ?_
        obtain ⟨k1, k2, k3, oe, vs, T, oT, ts', he, hz, hd, h1, hr⟩ := id fl3
        unfold PySem.passOn
        refine wpAny_bind (wpAny_field he hd h1 ?_)
        rw [if_neg (show ¬ ((Value.ref T == Value.none) = true) from by simp)]
        have fin : wpAny (model X.prog X.w) X.A (setFlight (.ref a) X.env.frame) (fun _ s4 => wpAny (model X.prog X.w) X.A (throw (.ref a) : Sem Flow) (SP X pins D) X.xe s4) X.xe { s' with heap := h3 } := by
          rw [hf]
          refine HandSPX.setFlight_upZ fl3 fun h4 hh4 up4 => wpAny_throw (tk _ _ ?_)
          exact ⟨a, B, sI, pins, σ', H', cls, d, rfl, J, nb, (up.trans up3).trans up4, .inr (.inr (by rw [hs]; exact hh4)), na, os, ag, w⟩
        first
          | exact wpAny_bind (wpAny_pure (wpAny_bind fin))
          | exact wpAny_bind fin
      | @cons x n i c ts b₀ suite np pos' hds2 l2 hi hln hc hsu r ih =>
        intro w
        obtain ⟨b, hb1, hyes, hno⟩ := w
        have hloc : Loc X.env.scope n := .inl hln
        refine wpAny_handleBy_cons (codeAny_handlers_test ?_) (by intro q; cases q)
        have LT : PySem.W.Looks (model X.prog X.w) h3 (typeOf (.ref a)) cls := fun A Q E s k q => wpAny_typeOf_ref (k _ _ he3) (by rw [hz3.1]; exact q)
        have LM := PySem.W.exm_one (M := model X.prog X.w) (J3.kIn) LT hb1
        have test : ∀ {Q : Value → Shared → Prop} {E : Value → Shared → Prop}, Q c { s' with heap := h3 } → wpAny (model X.prog X.w) (X.A.mark (some (.ref a))) (eval (.Name x np) X.env) Q E { s' with heap := h3 } := fun {Q E} q => by
          obtain ⟨hg, hdbg, hm | ⟨hm, hv, hnn⟩⟩ := hc
          · exact ld_glob (X := X.suite a ((a, oe3) :: (X.pn ++ pins))) S3 hg hm q hdbg
          · exact ld_blt (X := X.suite a ((a, oe3) :: (X.pn ++ pins))) S3 hg hm hv q hnn hdbg
        refine test (LM.here ?_)
        cases b with
        | true =>
          refine codeAny_handlers_suite_as ?_
          refine HandSPX.lands_againZ fl3 fun h4 fl4 up4 => ?_
          have J4 : Inv X pins σ' H' { s' with heap := h4 } := J.landed nb fl4.1 ((up.trans up3).trans up4) os ag
          obtain ⟨oe4, vs4, he4, hz4, hd4⟩ := fl4.there
          have S4 := J4.suite he4 hd4 na nL nF
          refine store_ok (X := X.suite a ((a, oe4) :: (X.pn ++ pins))) (v := .ref a) S4 hN hi hloc rfl (fun s5 S5 => ?_) (.inr hln)
          refine wpAny_mono ((hsu a oe4 cls d (X.pn ++ pins) hz4 ⟨_, hd4⟩).run [] s5 _ H' _ S5 (hyes rfl a na)) (fun f s6 hsp => ?_) (fun _ _ z => False.elim z)
          have end_ : ∀ {σ6 : L2.St} {H6 : Hp} {Q : Shared → Prop}, Inv (X.suite a ((a, oe4) :: (X.pn ++ pins))) [] σ6 H6 s6 → (∀ s7, Inv X pins (σ6.set i none) H6 s7 → Q s7) →
              wpAny (model X.prog X.w) X.A (do bindName X.env n .none; unbindBehindTheSuite X.env n pos') (fun _ s7 => Q s7) X.xe s6 := fun {σ6 H6 Q} S6 hq => gone_ok (S6.unsuite ok) hN hi hln hq
          cases f with
          | next =>
            obtain ⟨σ6, H6, S6, q6⟩ := hsp
            exact end_ S6 fun s7 J7 => ⟨_, _, J7, q6⟩
          | brk =>
            obtain ⟨σ6, H6, S6, q6⟩ := hsp
            exact end_ S6 fun s7 J7 => ⟨_, _, J7, q6⟩
          | cont =>
            obtain ⟨σ6, H6, S6, q6⟩ := hsp
            exact end_ S6 fun s7 J7 => ⟨_, _, J7, q6⟩
          | ret u =>
            obtain ⟨v6, σ6, H6, S6, r6, q6⟩ := hsp
            exact end_ S6 fun s7 J7 => ⟨_, _, _, J7, r6, q6⟩
        | false =>
          show wpAny _ X.A (handleBy (.ref a) X.env hds2) _ _ _
          exact ih (hno rfl)
    exact go hh w
  · cases f with
    | next =>
      obtain ⟨σ', H', J', q⟩ := hsp
      exact wpAny_execs_nil ⟨σ', H', J'.ofTry ok, q⟩
    | brk =>
      obtain ⟨σ', H', J', q⟩ := hsp
      exact ⟨σ', H', J'.ofTry ok, q⟩
    | cont =>
      obtain ⟨σ', H', J', q⟩ := hsp
      exact ⟨σ', H', J'.ofTry ok, q⟩
    | ret u =>
      obtain ⟨v, σ', H', J', r, q⟩ := hsp
      exact ⟨v, σ', H', J'.ofTry ok, r, q⟩
end

/-! ### the exception at hand -/
def Ob.notExc : Ob → Bool
  | .exc _ _ => false
  | _ => true
section
variable {K : PySem.W.Frag} {cA : Nat → Addr} {w : Wd} {tb : Tb} {H : Hp}
def Wd.enter (w : Wd) (a dx : Addr) (gs : List (Str × V)) : Wd := { Hf := upd w.Hf dx (.xd gs), rho := w.rho ++ [a], cur := some (a, dx), hid := w.hid }
def Wd.leave (w : Wd) : Wd := { w with cur := none }
theorem Sim.enter (s : Sim K cA w tb H) (hc : w.cur = none) {a dx : Addr} {k : Nat} {fs : List (List Nat × D)} {gs : List (Str × V)} (hd : H dx = some (.xd gs)) (r : RelFs K w fs gs) :
    w.LeR (w.enter a dx gs) ∧ Sim K cA (w.enter a dx gs) (tb ++ [.exc k fs]) H := by
  have lR : w.LeR (w.enter a dx gs) := ⟨fun b u e => by
      show upd w.Hf dx _ b = _
      by_cases hb : b = dx
      · subst hb
        rcases s.fro b u e with q | ⟨_, ob, q, _⟩
        · rw [hd] at q; cases q; exact upd_same
        · rw [hd] at q; cases q
      · rw [upd_ne hb]; exact e,
    fun n p h => by show (w.rho ++ [a])[n]? = some p; rw [List.getElem?_append_left (List.getElem?_eq_some_iff.mp h).1]; exact h⟩
  have hl := s.len
  have old : ∀ (n : Nat) (p : Addr) (o : Ob), w.rho[n]? = some p → tb[n]? = some o → ObRel K cA (w.enter a dx gs) H p o := fun n p o h1 h2 => by
    have q := s.obs n p o h1 h2
    cases o with
    | exc c gs' => obtain ⟨_, _, z, _⟩ := q; rw [hc] at z; cases z
    | lst xs => obtain ⟨vs, h1, h2⟩ := q; exact ⟨vs, h1, h2.upR lR⟩
    | dic t kvs => obtain ⟨u, h1, h2⟩ := obDic.mp q; exact obDic.mpr ⟨u, h1, h2.up lR⟩
    | ins c fs => obtain ⟨dx, gs, h1, vs, h2, h3⟩ := q; exact ⟨dx, gs, h1, vs, h2.upR lR, h3⟩
    | dead => trivial
    | lck t kvs => obtain ⟨od, u, h1, h2, h3⟩ := obLck.mp q; exact obLck.mpr ⟨od, u, h1, h2, h3.up lR⟩
  have ne : ∀ (n : Nat) (p : Addr) (o : Ob), w.rho[n]? = some p → tb[n]? = some o → o.mut = true → p ≠ dx := fun n p o h1 h2 m z => by
    have q := s.obs n p o h1 h2
    rw [z] at q
    cases o with
    | exc c gs' => cases m
    | lst xs => obtain ⟨vs, h1, h2⟩ := q; rw [hd] at h1; cases h1
    | dic t kvs => obtain ⟨u, h1, h2⟩ := obDic.mp q; rw [hd] at h1; cases h1; cases h2.is
    | ins c fs => obtain ⟨dx, gs, h1, vs, h2, h3⟩ := q; rw [hd] at h1; cases h1
    | dead => cases m
    | lck t kvs => obtain ⟨od, u, h1, h2, h3⟩ := obLck.mp q; rw [hd] at h1; cases h1
  refine ⟨lR, ⟨fun b u e => ?_, by show (w.rho ++ [a]).length = (tb ++ [Ob.exc k fs]).length; simp [hl], fun n p o h1 h2 => ?_, fun n p o h1 h2 m => ?_, fun n m p o o' nm h1 h2 h3 h4 m1 m2 => ?_, fun b o e => ?_, fun n p o h1 h2 m => ?_⟩⟩
  · by_cases hb : b = dx
    · subst hb
      have e' : upd w.Hf b (.xd gs) b = some u := e
      rw [upd_same] at e'; cases e'
      exact .inl hd
    · have e' : upd w.Hf dx (.xd gs) b = some u := e
      rw [upd_ne hb] at e'
      exact s.fro b u e'
  · rcases get_push h1 with g1 | ⟨e1, rfl⟩
    · rcases get_push h2 with g2 | ⟨e2, rfl⟩
      · exact old n p o g1 g2
      · have := (List.getElem?_eq_some_iff.mp g1).1; omega
    · rcases get_push h2 with g2 | ⟨e2, rfl⟩
      · have := (List.getElem?_eq_some_iff.mp g2).1; omega
      · obtain ⟨vs, r1, r2⟩ := r
        exact ⟨dx, gs, rfl, upd_same, vs, r1.upR lR, r2⟩
  · show upd w.Hf dx _ p = none
    rcases get_push h2 with g2 | ⟨e2, rfl⟩
    · rcases get_push h1 with g1 | ⟨e1, rfl⟩
      · rw [upd_ne (ne n p o g1 g2 m)]; exact s.off n p o g1 g2 m
      · have := (List.getElem?_eq_some_iff.mp g2).1; omega
    · cases m
  · rcases get_push h3 with g3 | ⟨e3, rfl⟩
    · rcases get_push h4 with g4 | ⟨e4, rfl⟩
      · rcases get_push h1 with g1 | ⟨e1, rfl⟩
        · rcases get_push h2 with g2 | ⟨e2, rfl⟩
          · exact s.sep n m p o o' nm g1 g2 g3 g4 m1 m2
          · have := (List.getElem?_eq_some_iff.mp g4).1; omega
        · have := (List.getElem?_eq_some_iff.mp g3).1; omega
      · cases m2
    · cases m1
  · obtain ⟨h1, h2⟩ := s.hid b o e
    refine ⟨h1, ?_⟩
    show (upd w.Hf dx _ b = none ∧ _) ∨ _
    rw [upd_ne]
    · exact h2
    · rintro rfl
      rw [hd] at h1; cases h1
      rcases h2 with ⟨_, xs, z⟩ | ⟨od, u, z⟩ <;> cases z
  · rcases get_push h2 with g2 | ⟨e2, rfl⟩
    · rcases get_push h1 with g1 | ⟨e1, rfl⟩
      · exact s.hsp n p o g1 g2 m
      · have := (List.getElem?_eq_some_iff.mp g2).1; omega
    · cases m
theorem Sim.leave (s : Sim K cA w tb H) (h : tb.all Ob.notExc = true) : w.LeR w.leave ∧ Sim K cA w.leave tb H := by
  have lR : w.LeR w.leave := ⟨Same.refl _, fun _ _ h => h⟩
  refine ⟨lR, ⟨s.fro, s.len, fun n p o h1 h2 => ?_, s.off, s.sep, s.hid, s.hsp⟩⟩
  have q := s.obs n p o h1 h2
  cases o with
  | exc c gs' =>
    rw [List.all_eq_true] at h
    exact absurd (h _ (List.mem_of_getElem? h2)) (by simp [Ob.notExc])
  | lst xs => obtain ⟨vs, h1, h2⟩ := q; exact ⟨vs, h1, h2.upR lR⟩
  | dic t kvs => obtain ⟨u, h1, h2⟩ := obDic.mp q; exact obDic.mpr ⟨u, h1, h2.up lR⟩
  | ins c fs => obtain ⟨dx, gs, h1, vs, h2, h3⟩ := q; exact ⟨dx, gs, h1, vs, h2.upR lR, h3⟩
  | dead => trivial
  | lck t kvs => obtain ⟨od, u, h1, h2, h3⟩ := obLck.mp q; exact obLck.mpr ⟨od, u, h1, h2, h3.up lR⟩
end

/-! ### try by mirrors -/
structure Cl where
  cat : Nat → Option Bool
  i : Nat
  ms : Nat → MS
def outTb (n : Nat) (tb : Tb) : Option Tb := if (tb.set n .dead).all Ob.notExc = true then some (tb.set n .dead) else none
def endCl (i n : Nat) : RS → RS
  | .nx e t => match outTb n t with
    | some t => .nx (e.set i none) t
    | none => .fail
  | .bk e t => match outTb n t with
    | some t => .bk (e.set i none) t
    | none => .fail
  | .ct e t => match outTb n t with
    | some t => .ct (e.set i none) t
    | none => .fail
  | .rt d t => match outTb n t with
    | some t => .rt d t
    | none => .fail
  | _ => .fail
def runCl (k : Nat) (fs : List (List Nat × D)) (e : Env) (tb : Tb) : List Cl → RS
  | [] => .ex k fs e tb
  | h :: r => match h.cat k with
    | some true => endCl h.i tb.length (h.ms k (e.set h.i (some (.ref tb.length))) (tb ++ [.exc k fs]))
    | some false => runCl k fs e tb r
    | none => .fail
def mTry (mb : MS) (hs : List Cl) : MS := fun env tb => match mb env tb with
  | .ex k fs e t => runCl k fs e t hs
  | r => r
inductive ClsOk (X : Cx) (c : Cc) : List Cl → List ExceptHandler → List (Value × Nat × (Addr → Value → Option Addr → TS)) → Prop
  | nil : ClsOk X c [] [] []
  | cons {h : Cl} {cv : Value} {x n : Str} {b₀ : Stmt} {suite : List Stmt} {np pos' : Pos} {hs : List Cl} {hds : List ExceptHandler} {l : List (Value × Nat × (Addr → Value → Option Addr → TS))} (hi : X.N[h.i]? = some n) (hln : X.env.kindOf n = some .local) (hc : Names X x cv)
      (hcat : ∀ k b, h.cat k = some b → PySem.W.exmOne X.K (.ref (c.cA k)) cv = some b)
      (hsu : ∀ k, h.cat k = some true → ∀ (a dx : Addr) (oe : Obj) (pn : List (Addr × Obj)), Zc (.ref (c.cA k)) (some dx) oe → (∃ vs, oe.data = .fields vs) → DSs (X.suite a ((a, oe) :: pn)) ⟨c.cA, some (a, dx)⟩ WF (b₀ :: suite) (h.ms k)) (r : ClsOk X c hs hds l) :
      ClsOk X c (h :: hs) (.ExceptHandler (some (.Name x np)) (some n) (b₀ :: suite) pos' :: hds) ((cv, h.i, fun a cls d E σ H => ∃ k dx, cls = .ref (c.cA k) ∧ d = some dx ∧ h.cat k = some true ∧ tS X.K ⟨c.cA, some (a, dx)⟩ WF (h.ms k) E σ H) :: l)
theorem ClsOk.hds {X : Cx} {c : Cc} {hs : List Cl} {hds : List ExceptHandler} {l : List (Value × Nat × (Addr → Value → Option Addr → TS))} (h : ClsOk X c hs hds l) : HdsA X hds l := by
  induction h with
  | nil => exact .nil
  | @cons h cv x n b₀ suite np pos' hs hds l hi hln hc hcat hsu r ih =>
    refine .cons hi hln hc (fun a oe cls d pn hz hv => ⟨fun pins s σ H E I q => ?_⟩) ih
    obtain ⟨k, dx, e1, e2, e3, q⟩ := q
    subst e1; subst e2
    exact (hsu k e3 a dx oe pn hz hv).run pins s σ H E I q
theorem RelE.unset {K : PySem.W.Frag} {w : Wd} {e : Env} {σ : L2.St} {i : Nat} (h : RelE K w e σ) : RelE K w (e.set i none) (σ.set i none) := by
  refine h.drop (by simp) fun j hj => ?_
  rw [List.getElem?_set_ne (Ne.symm hj)]
section
variable {X : Cx} {c : Cc} {W : WX} {body : List Stmt} {h₀ : ExceptHandler} {hds : List ExceptHandler} {l : List (Value × Nat × (Addr → Value → Option Addr → TS))} {pos : Pos} {mb : MS} {hs : List Cl}
theorem cl_ok {E : Ends} {w1 : Wd} {k : Nat} {fs : List (List Nat × D)} {e1 : Env} {t1 : Tb} {σ1 : L2.St} {H1 : Hp} {dx : Addr} {gs : List (Str × V)} (hcu : w1.cur = none) (s1 : Sim X.K c.cA w1 t1 H1) (re : RelE X.K w1 e1 σ1) (hd : H1 dx = some (.xd gs)) (rf : RelFs X.K w1 fs gs)
    (h : ClsOk X c hs hds l) (p : PostS X.K c W E w1 (runCl k fs e1 t1 hs)) : wManyA X.K W E l (.ref (c.cA k)) (some dx) σ1 H1 := by
  induction h with
  | nil => exact p w1 σ1 H1 dx gs (.refl w1) s1 re hd rf
  | @cons h cv x n b₀ suite np pos' hs hds l hi hln hc hcat hsu r ih =>
    unfold runCl at p
    cases q : h.cat k with
    | none => rw [q] at p; exact p.elim
    | some b =>
      refine ⟨b, hcat k b q, fun hb a hA => ?_, fun hb => ?_⟩
      · subst hb
        rw [q] at p
        obtain ⟨lR, s2⟩ := s1.enter (k := k) (a := a) hcu hd rf
        refine ⟨k, dx, rfl, rfl, q, w1.enter a dx gs, e1.set h.i (some (.ref t1.length)), t1 ++ [.exc k fs], s2, rfl, ((re.upR lR).set (.ref ?_)), ?_⟩
        · show (w1.rho ++ [a])[t1.length]? = some a
          rw [← s1.len]; simp
        · -- the ends
          have out : ∀ {w3 : Wd} {t3 t4 : Tb} {H3 : Hp}, (w1.enter a dx gs).Le w3 → Sim X.K c.cA w3 t3 H3 → outTb t1.length t3 = some t4 → w1.Le w3.leave ∧ Sim X.K c.cA w3.leave t4 H3 ∧ w3.LeR w3.leave := fun {w3 t3 t4 H3} l3 s3 ho => by
            unfold outTb at ho
            split at ho
            · rename_i hall
              cases ho
              obtain ⟨l4, s4⟩ := (s3.die (n := t1.length)).leave hall
              exact ⟨⟨(lR.trans l3.r).trans l4, hcu.symm ▸ rfl, l3.hid⟩, s4, l4⟩
            · cases ho
          have p : PostS X.K c W E w1 (endCl h.i t1.length (h.ms k (e1.set h.i (some (.ref t1.length))) (t1 ++ [.exc k fs]))) := p
          cases q2 : h.ms k (e1.set h.i (some (.ref t1.length))) (t1 ++ [.exc k fs]) with
          | nx e t =>
            rw [q2] at p
            have p : PostS X.K c W E w1 (match outTb t1.length t with | some t => .nx (e.set h.i none) t | none => .fail) := p
            intro w3 σ3 H3 l3 s3 r3
            cases ho : outTb t1.length t with
            | none => rw [ho] at p; exact p.elim
            | some t4 =>
              rw [ho] at p
              obtain ⟨l4, s4, l5⟩ := out l3 s3 ho
              exact p w3.leave _ H3 l4 s4 (r3.upR l5).unset
          | bk e t =>
            rw [q2] at p
            have p : PostS X.K c W E w1 (match outTb t1.length t with | some t => .bk (e.set h.i none) t | none => .fail) := p
            intro w3 σ3 H3 l3 s3 r3
            cases ho : outTb t1.length t with
            | none => rw [ho] at p; exact p.elim
            | some t4 =>
              rw [ho] at p
              obtain ⟨l4, s4, l5⟩ := out l3 s3 ho
              exact p w3.leave _ H3 l4 s4 (r3.upR l5).unset
          | ct e t =>
            rw [q2] at p
            have p : PostS X.K c W E w1 (match outTb t1.length t with | some t => .ct (e.set h.i none) t | none => .fail) := p
            intro w3 σ3 H3 l3 s3 r3
            cases ho : outTb t1.length t with
            | none => rw [ho] at p; exact p.elim
            | some t4 =>
              rw [ho] at p
              obtain ⟨l4, s4, l5⟩ := out l3 s3 ho
              exact p w3.leave _ H3 l4 s4 (r3.upR l5).unset
          | rt d t =>
            rw [q2] at p
            have p : PostS X.K c W E w1 (match outTb t1.length t with | some t => .rt d t | none => .fail) := p
            intro w3 H3 v l3 s3 r3
            cases ho : outTb t1.length t with
            | none => rw [ho] at p; exact p.elim
            | some t4 =>
              rw [ho] at p
              obtain ⟨l4, s4, l5⟩ := out l3 s3 ho
              exact p w3.leave H3 v l4 s4 (r3.upR l5)
          | ex k fs e t => rw [q2] at p; exact p.elim
          | fail => rw [q2] at p; exact p.elim
      · subst hb
        rw [q] at p
        exact ih p
theorem s_try (hst : X.stack = X.env :: X.outer) (hf : X.env.frame = some X.env.locals) (hN : X.N.Nodup) (hcur : c.cur = none) (tk : Takes X W)
    (hb : ∀ (W : WX) (pn : List (Addr × Obj)) (xe : Value → Shared → Prop), Takes (X.tr pn xe) W → PassesOwn (model X.prog X.w) X.A X.env xe → DSs (X.tr pn xe) c W body mb)
    (hh : ClsOk X c hs (h₀ :: hds) l) : DS X c W (.Try body (h₀ :: hds) [] [] pos) (mTry mb hs) :=
  PS.imp (ps_try_manyA (tb := fun W => tS X.K c W mb) hst hf hN tk hb hh.hds) fun E σ H ⟨w, env, tb, s, hcu, re, p⟩ => by
    refine ⟨w, env, tb, s, hcu, re, ?_⟩
    unfold mTry at p
    cases q : mb env tb with
    | nx e t => simp only [q] at p; exact p
    | bk e t => simp only [q] at p; exact p
    | ct e t => simp only [q] at p; exact p
    | rt d t => simp only [q] at p; exact p
    | fail => simp only [q] at p; exact p
    | ex k fs e t =>
      simp only [q] at p
      intro w' σ' H' dx gs l' s' r' hd rf
      exact cl_ok ((l'.cur.trans hcu).trans hcur) s' r' hd rf hh (p.le l')
end
/-- e.f of the exception at hand -/
def mXf (k : Nat) (f : List Nat) (a : ME) : ME := fun env tb => (a env tb).bind fun d tb => match d with
  | .ref n => match tb[n]? with
    | some (.exc k' [(f', v)]) => if k' = k ∧ f' = f then .ok v tb else .fail
    | _ => .fail
  | _ => .fail
theorem d_xf {X : Cx} {cA : Nat → Addr} {a dx : Addr} {oe : Obj} {pn : List (Addr × Obj)} {e : Expr} {me : ME} {pos : Pos} {f : List Nat} {k : Nat} (T : XfC X.K (cA k)) (hno : PySem.W.findIn X.K (.ref (cA k)) (tx f) = some none) (hz : Zc (.ref (cA k)) (some dx) oe) (hf : ∃ vs, oe.data = .fields vs)
    (he : DE (X.suite a ((a, oe) :: pn)) ⟨cA, some (a, dx)⟩ WF e me) (hb : attributeBase e (tx f) X.env (eval e X.env) = eval e X.env := by rfl) :
    DE (X.suite a ((a, oe) :: pn)) ⟨cA, some (a, dx)⟩ WF (.Attribute e (tx f) pos) (mXf k f me) :=
  PE.imp (pe_xf T hno hz hf he hb) fun σ H Q ⟨w, env, tb, s, hc, re, p⟩ => ⟨w, env, tb, s, hc, re, p.seq fun d tb1 w1 H1 v l1 s1 r1 p1 => by
    split at p1
    · rename_i n
      split at p1
      · rename_i k' f' v' g
        by_cases q : k' = k ∧ f' = f
        · rw [if_pos q] at p1
          obtain ⟨rfl, rfl⟩ := q
          cases r1 with
          | @ref _ a' e' =>
            obtain ⟨dx', gs, h1, h2, vs, h3, h4⟩ := s1.obs n a' _ e' g
            have h5 := (l1.cur.trans hc).symm.trans h1
            cases h5
            cases h3 with
            | cons rv rn =>
              cases rn
              refine ⟨rfl, rfl, dx, gs, _, rfl, ?_, ?_, p1.nowD s1 rv⟩
              · rcases s1.fro dx _ h2 with q | ⟨z, _⟩
                · exact q
                · cases z
              · rw [h4]
                simp [List.lookup]
        · rw [if_neg q] at p1; exact p1.elim
      · exact p1.elim
    · exact p1.elim⟩
end L2.G
set_option maxHeartbeats 4000000
/-! F13: short forms for the derivations; defs that may be called. -/
namespace L2.G
open PySem PySem.Spec PyProof.Rows

section
variable {X : Cx} {c : Cc} {W : WX} {a b e : Expr} {es : List Expr} {ma mb : ME} {mr : MA} {p pos apos : Pos}
theorem d_int1 (hc : X.calm = true) (hg : Gl X "int") (hm : X.mg "int" = none) (ha : DE X c W a ma) (he : starEach [a] X.env = (false, eval a X.env) :: starEach [] X.env := by rfl) (hpl : (backTo pos (starEach [] X.env)).any (·.1) = false := by rfl) :
    DE X c W (.Call (.Name "int" p) [a] [] pos) (mFn (on1 intD) (mCons ma mNil)) := d_callTy call_int1 ok_int hg hm PyProof.Rows.boot_int (a_cons ha a_nil he) (by decide) (by decide) he hpl
theorem d_abs1 (hc : X.calm = true) (hg : Gl X "abs") (hm : X.mg "abs" = none) (ha : DE X c W a ma) (he : starEach [a] X.env = (false, eval a X.env) :: starEach [] X.env := by rfl) (hpl : (backTo pos (starEach [] X.env)).any (·.1) = false := by rfl) :
    DE X c W (.Call (.Name "abs" p) [a] [] pos) (mFn (on1 absD) (mCons ma mNil)) := d_callB call_abs ok_abs hg hm PyProof.Rows.boot_abs (a_cons ha a_nil he) (by decide) (by decide) he hpl
theorem d_sum1 (hc : X.calm = true) (hg : Gl X "sum") (hm : X.mg "sum" = none) (ha : DE X c W a ma) (he : starEach [a] X.env = (false, eval a X.env) :: starEach [] X.env := by rfl) (hpl : (backTo pos (starEach [] X.env)).any (·.1) = false := by rfl) :
    DE X c W (.Call (.Name "sum" p) [a] [] pos) (mFn (on1 sumD) (mCons ma mNil)) := d_callB (cr_sum hc) ok_sum hg hm PyProof.Rows.boot_sum (a_cons ha a_nil he) (by decide) (by decide) he hpl
theorem d_all1 (hc : X.calm = true) (hg : Gl X "all") (hm : X.mg "all" = none) (ha : DE X c W a ma) (he : starEach [a] X.env = (false, eval a X.env) :: starEach [] X.env := by rfl) (hpl : (backTo pos (starEach [] X.env)).any (·.1) = false := by rfl) :
    DE X c W (.Call (.Name "all" p) [a] [] pos) (mFn (on1 allD) (mCons ma mNil)) := d_callB (cr_all hc) ok_all hg hm PyProof.Rows.boot_all (a_cons ha a_nil he) (by decide) (by decide) he hpl
theorem d_any1 (hc : X.calm = true) (hg : Gl X "any") (hm : X.mg "any" = none) (ha : DE X c W a ma) (he : starEach [a] X.env = (false, eval a X.env) :: starEach [] X.env := by rfl) (hpl : (backTo pos (starEach [] X.env)).any (·.1) = false := by rfl) :
    DE X c W (.Call (.Name "any" p) [a] [] pos) (mFn (on1 anyD) (mCons ma mNil)) := d_callB (cr_any hc) ok_any hg hm PyProof.Rows.boot_any (a_cons ha a_nil he) (by decide) (by decide) he hpl
theorem d_max1 (hc : X.calm = true) (hg : Gl X "max") (hm : X.mg "max" = none) (ha : DE X c W a ma) (he : starEach [a] X.env = (false, eval a X.env) :: starEach [] X.env := by rfl) (hpl : (backTo pos (starEach [] X.env)).any (·.1) = false := by rfl) :
    DE X c W (.Call (.Name "max" p) [a] [] pos) (mFn (on1 maxD) (mCons ma mNil)) := d_callB (cr_max hc) ok_max hg hm PyProof.Rows.boot_max (a_cons ha a_nil he) (by decide) (by decide) he hpl
theorem d_min1 (hc : X.calm = true) (hg : Gl X "min") (hm : X.mg "min" = none) (ha : DE X c W a ma) (he : starEach [a] X.env = (false, eval a X.env) :: starEach [] X.env := by rfl) (hpl : (backTo pos (starEach [] X.env)).any (·.1) = false := by rfl) :
    DE X c W (.Call (.Name "min" p) [a] [] pos) (mFn (on1 minD) (mCons ma mNil)) := d_callB (cr_min hc) ok_min hg hm PyProof.Rows.boot_min (a_cons ha a_nil he) (by decide) (by decide) he hpl
theorem d_max2 (hc : X.calm = true) (hg : Gl X "max") (hm : X.mg "max" = none) (ha : DE X c W a ma) (hb : DE X c W b mb) (he : starEach [a, b] X.env = (false, eval a X.env) :: starEach [b] X.env := by rfl) (he2 : starEach [b] X.env = (false, eval b X.env) :: starEach [] X.env := by rfl) (hpl : (backTo pos (starEach [b] X.env)).any (·.1) = false := by rfl) :
    DE X c W (.Call (.Name "max" p) [a, b] [] pos) (mFn (on2 max2) (mCons ma (mCons mb mNil))) := d_callB (call_max2 hc) ok_max2 hg hm PyProof.Rows.boot_max (a_cons ha (a_cons hb a_nil he2) he) (by decide) (by decide) he hpl
theorem d_min2 (hc : X.calm = true) (hg : Gl X "min") (hm : X.mg "min" = none) (ha : DE X c W a ma) (hb : DE X c W b mb) (he : starEach [a, b] X.env = (false, eval a X.env) :: starEach [b] X.env := by rfl) (he2 : starEach [b] X.env = (false, eval b X.env) :: starEach [] X.env := by rfl) (hpl : (backTo pos (starEach [b] X.env)).any (·.1) = false := by rfl) :
    DE X c W (.Call (.Name "min" p) [a, b] [] pos) (mFn (on2 min2) (mCons ma (mCons mb mNil))) := d_callB (call_min2 hc) ok_min2 hg hm PyProof.Rows.boot_min (a_cons ha (a_cons hb a_nil he2) he) (by decide) (by decide) he hpl
theorem d_list1 (t : Bool) (hc : X.calm = true) (hg : Gl X "list") (hm : X.mg "list" = none) (ha : DE X c W a ma) (he : starEach [a] X.env = (false, eval a X.env) :: starEach [] X.env := by rfl) (hpl : (backTo pos (starEach [] X.env)).any (·.1) = false := by rfl) :
    DE X c W (.Call (.Name "list" p) [a] [] pos) (mFn (on1 (listD t)) (mCons ma mNil)) := d_callTy call_list_of ok_list hg hm PyProof.Rows.boot_list (a_cons ha a_nil he) (by decide) (by decide) he hpl
theorem d_tuple1 (hc : X.calm = true) (hg : Gl X "tuple") (hm : X.mg "tuple" = none) (ha : DE X c W a ma) (he : starEach [a] X.env = (false, eval a X.env) :: starEach [] X.env := by rfl) (hpl : (backTo pos (starEach [] X.env)).any (·.1) = false := by rfl) :
    DE X c W (.Call (.Name "tuple" p) [a] [] pos) (mFn (on1 tupleD) (mCons ma mNil)) := d_callTy call_tuple_of ok_tuple hg hm PyProof.Rows.boot_tuple (a_cons ha a_nil he) (by decide) (by decide) he hpl
theorem d_dict1 (t : Bool) (hc : X.calm = true) (hg : Gl X "dict") (hm : X.mg "dict" = none) (ha : DE X c W a ma) (he : starEach [a] X.env = (false, eval a X.env) :: starEach [] X.env := by rfl) (hpl : (backTo pos (starEach [] X.env)).any (·.1) = false := by rfl) :
    DE X c W (.Call (.Name "dict" p) [a] [] pos) (mFn (on1 (dictD t)) (mCons ma mNil)) := d_callTy ((call_dictP hc).or call_dictC) ok_dict hg hm PyProof.Rows.boot_dict (a_cons ha a_nil he) (by decide) (by decide) he hpl
end
/-! ### room -/
theorem Room.u1 {k : Nat} {A : Around} (r : Room k A) : A.units + 1 < cLine := by have := r.un; omega
theorem Room.u65 {k : Nat} {A : Around} (r : Room k A) : A.units + 65 < cLine := by have := r.un; omega

/-! ### a def that may be called by its name -/
structure CalG (P : Program) (w : World) (K : PySem.W.Frag) (mg : Str → Option Value) (base : Heap) (cA : Nat → Addr) (k : Nat) (x : Str) (st : Stmt) (ps : List Str) (m : List D → Tb → Rs D) : Prop where
  ex : ∃ f fd, FnOk P w K mg base (L2.CX P w) k f fd ps (spD K cA ps.length m) ∧ mg x = some (.ref f) ∧ FunD K x x (defArgs st) (defBody st) (defScope st) [] [] f fd ∧ Binds K fd ps []
/-- .. as it stands -/
structure StdG (K : PySem.W.Frag) (mg : Str → Option Value) (x : Str) (st : Stmt) : Prop where
  ex : ∃ f fd, mg x = some (.ref f) ∧ FunD K x x (defArgs st) (defBody st) (defScope st) [] [] f fd
section
variable {P : Program} {w : World} {K : PySem.W.Frag} {mg : Str → Option Value} {base : Heap} {cA : Nat → Addr} {x : Str} {st : Stmt} {N ps : List Str}
def BindT (x : Str) (st : Stmt) (ps : List Str) : Prop := ∀ (kV doc pm : Value) (an : Option Addr) (cdv ct : Value) (us : List Value), us.length = ps.length → bindArgs (PySem.W.fnOf x x (defArgs st) (defBody st) (defScope st) .none kV doc pm an cdv ct) ⟨us, []⟩ = pure (ps.zip us)
theorem cal_none {k : Nat} (T : StdG K mg x st) (b : BindT x st ps) : CalG P w K mg base cA k x st ps (fun _ _ => .fail) := by
  obtain ⟨f, fd, h1, F⟩ := T.ex
  exact ⟨f, fd, fn_none rfl, h1, F, F.bindsN b⟩
theorem cal_mirror {k : Nat} {mb : MS} (T : StdG K mg x st) (b : BindT x st ps) (S : FnScope N ps (defScope st))
    (hbody : ∀ (f : Addr) (cdv : Value) (A : Around) (outer : List PySem.Env) (s : Shared) (H : Hp) (E : XK), Room k (A.deeper (envOfC x (defScope st) s.heap.objs.size f cdv)) →
      DSs (bX P w K mg base N x (defScope st) f cdv A outer s H E) ⟨cA, none⟩ (WEx E) (defBody st) mb) : CalG P w K mg base cA (k + 1) x st ps (mDef (N.length - ps.length) mb) := by
  obtain ⟨f, fd, h1, F⟩ := T.ex
  refine ⟨f, fd, ?_, h1, F, F.bindsN b⟩
  refine F.ok S spD_len fun cdv A outer s H vs Q E hr ⟨wd, tb, ds, hs, hc, r, hl, p⟩ => ⟨_, hbody f cdv A outer s H E hr, wd, ds.map some ++ List.replicate (N.length - ps.length) none, tb, hs, hc, hl ▸ start_rel N r, ?_⟩
  exact mDef_ok hs p
end
section
variable {X : Cx} {c : Cc} {W : WX} {k : Nat} {x : Str} {st : Stmt} {ps : List Str} {m : List D → Tb → Rs D} {p pos : Pos} {e : Expr} {es : List Expr} {ma : MA}
theorem d_callG (C : CalG X.prog X.w X.K X.mg X.base c.cA k x st ps m) (hcur : c.cur = none) (tk : Takes X W) (hr : Room k X.A) (hg : Gl X x) (ha : DA X c W (e :: es) ma) {np : Nat} (hnp : ps.length = np := by rfl)
    (hdb : (x == ("__debug__" : Str)) = false := by decide) (he : starEach (e :: es) X.env = (false, eval e X.env) :: starEach es X.env := by rfl) (hpl : (backTo pos (starEach es X.env)).any (·.1) = false := by rfl) :
    DE X c W (.Call (.Name x p) (e :: es) [] pos) (mFn (mCall np m) ma) := by
  subst hnp
  obtain ⟨f, fd, F, hm, FD, hb⟩ := C.ex
  exact d_call hcur tk F hr hg hm FD.kp hb ha hdb he hpl
/-- the binding of keywords, no defaults: is: the written values' places in the parameters' order -/
def KBT (x : Str) (st : Stmt) (ps : List Str) (n : Nat) (ks : List Str) (is : List Nat) : Prop := ∀ (kV doc pm : Value) (an : Option Addr) (cdv ct : Value) (us ws : List Value), us.length = n → ws.length = ks.length → bindArgs (PySem.W.fnOf x x (defArgs st) (defBody st) (defScope st) .none kV doc pm an cdv ct) ⟨us, ks.zip ws⟩ = pure (ps.zip (permL is (us ++ ws)))
theorem kbn_of {K : PySem.W.Frag} {f : Addr} {fd : FuncData} {n : Nat} {ks : List Str} {is : List Nat} (F : FunD K x x (defArgs st) (defBody st) (defScope st) [] [] f fd) (h : KBT x st ps n ks is) : KBn K fd ps n ks (fun us ws => permL is (us ++ ws)) (fun us ws => permL is (us ++ ws)) := by
  obtain ⟨oc, od, dV, kV, doc, pm, an, cdv, ct, osl, rfl, lk, hcd, hD, hK⟩ := F.ex
  rcases hD with ⟨_, rfl⟩ | ⟨e, _⟩
  · exact ⟨fun s us ws _ l1 l2 => .of_eq (h kV doc pm an cdv ct us ws l1 l2), fun r1 r2 => permL_vals (r1.append r2) is⟩
  · exact absurd rfl e
theorem d_callGK0 {kws : List Keyword} {ks : List Str} {mk : MA} {is : List Nat} (C : CalG X.prog X.w X.K X.mg X.base c.cA k x st ps m) (hb : KBT x st ps 0 ks is) (hcur : c.cur = none) (tk : Takes X W) (hr : Room k X.A) (hg : Gl X x) (hkw : DK' X c W kws mk) {np nk : Nat} (hnp : ps.length = np := by rfl) (hnk : ks.length = nk := by rfl)
    (hall : (backToKw pos (keywordEach kws X.env)).all (·.1.isSome) = true := by rfl) (hks : (backToKw pos (keywordEach kws X.env)).filterMap (·.1) = ks := by rfl)
    (hdb : (x == ("__debug__" : Str)) = false := by decide)
    (hpl : ((backTo pos (starEach [] X.env)).any (·.1) || (backToKw pos (keywordEach kws X.env)).any (·.1.isNone)) = false := by rfl) :
    DE X c W (.Call (.Name x p) [] kws pos) (mKw 0 nk is np m mNil mk) := by
  subst hnp; subst hnk
  obtain ⟨f, fd, F, hm, FD, _⟩ := C.ex
  exact d_callK0 hcur tk F hr hg hm FD.kp (kbn_of FD hb) hkw hall hks hdb hpl
theorem d_callGK {kws : List Keyword} {ks : List Str} {mk : MA} {is : List Nat} {n : Nat} (C : CalG X.prog X.w X.K X.mg X.base c.cA k x st ps m) (hb : KBT x st ps n ks is) (hcur : c.cur = none) (tk : Takes X W) (hr : Room k X.A) (hg : Gl X x) (ha : DA X c W (e :: es) ma) (hkw : DK' X c W kws mk) {np nk : Nat} (hnp : ps.length = np := by rfl) (hnk : ks.length = nk := by rfl)
    (hall : (backToKw pos (keywordEach kws X.env)).all (·.1.isSome) = true := by rfl) (hks : (backToKw pos (keywordEach kws X.env)).filterMap (·.1) = ks := by rfl)
    (hdb : (x == ("__debug__" : Str)) = false := by decide) (he : starEach (e :: es) X.env = (false, eval e X.env) :: starEach es X.env := by rfl)
    (hpl : ((backTo pos (starEach (e :: es) X.env)).any (·.1) || (backToKw pos (keywordEach kws X.env)).any (·.1.isNone)) = false := by rfl) :
    DE X c W (.Call (.Name x p) (e :: es) kws pos) (mKw n nk is np m ma mk) := by
  subst hnp; subst hnk
  obtain ⟨f, fd, F, hm, FD, _⟩ := C.ex
  exact d_callK hcur tk F hr hg hm FD.kp (kbn_of FD hb) ha hkw hall hks hdb he hpl
end
/-! ### constants of the module -/
theorem d_globI {X : Cx} {c : Cc} {W : WX} {pos : Pos} {x : Str} {i : Int} (h : ∃ t, X.mg x = some (.int i t)) (hg : Gl X x) (hd : (x == ("__debug__" : Str)) = false := by decide) : DE X c W (.Name x pos) (mC (.int i)) := by
  obtain ⟨t, h⟩ := h
  exact d_glob (v := .int i) hg h ⟨t, rfl⟩ (fun _ => .int i) hd
theorem d_globS {X : Cx} {c : Cc} {W : WX} {pos : Pos} {x : Str} {cs : List Nat} (h : ∃ t, X.mg x = some (.str (tx cs) t)) (hg : Gl X x) (hd : (x == ("__debug__" : Str)) = false := by decide) : DE X c W (.Name x pos) (mC (.str cs)) := by
  obtain ⟨t, h⟩ := h
  exact d_glob (v := .str (tx cs)) hg h ⟨t, rfl⟩ (fun _ => .str cs) hd

/-! ### own exceptions -/
structure ExcS (K : PySem.W.Frag) (mg : Str → Option Value) (C : Addr) (b qual f : Str) (st : Stmt) : Prop where
  bs : ∃ B, mg b = some (.ref B) ∧ PySem.W.readsIn K B (.type "type") = true ∧ PySem.W.specialIn K (.ref B) "__getattribute__" = some (some (.builtin "type.__getattribute__")) ∧ PySem.W.findCls K (.ref B) (.type "type") "__init__" = some (.val (.builtin "ValueError.__init__"))
  ox : OexC K C
  xf : XfC K C
  no : PySem.W.findIn K (.ref C) f = some none
  ini : ∃ fI fd, FunD K "__init__" qual (defArgs st) (defBody st) (defScope st) [] [] fI fd ∧ PySem.W.findIn K (.ref C) "__init__" = some (some (.ref fI)) ∧ PySem.W.typeIn K (.ref fI) = some (.type "function")
structure ExcG (P : Program) (w : World) (K : PySem.W.Frag) (mg : Str → Option Value) (base : Heap) (cA : Nat → Addr) (k : Nat) (x : Str) (f : List Nat) : Prop where
  ex : ∃ fI fd ps, OexC K (cA k) ∧ XfC K (cA k) ∧ PySem.W.findIn K (.ref (cA k)) (tx f) = some none ∧ PySem.W.findIn K (.ref (cA k)) "__init__" = some (some (.ref fI)) ∧ PySem.W.typeIn K (.ref fI) = some (.type "function") ∧
    FnOk P w K mg base (L2.CX P w) 1 fI fd ps (spI K (tx f)) ∧ Binds K fd ps [] ∧ mg x = some (.ref (cA k))
theorem excG_of {P : Program} {w : World} {K : PySem.W.Frag} {mg : Str → Option Value} {base : Heap} {cA : Nat → Addr} {k : Nat} {x b qual msg : Str} {f : List Nat} {st : Stmt} {N : List Str} (hm : mg x = some (.ref (cA k))) (S : ExcS K mg (cA k) b qual (tx f) st) (sc : FnScope N N (defScope st)) (hN : N.length = 2)
    (hbody : ∀ B, mg b = some (.ref B) → PySem.W.readsIn K B (.type "type") = true → PySem.W.specialIn K (.ref B) "__getattribute__" = some (some (.builtin "type.__getattribute__")) → PySem.W.findCls K (.ref B) (.type "type") "__init__" = some (.val (.builtin "ValueError.__init__")) →
      ∀ fI cdv A outer s H E, PSs (bX P w K mg base N qual (defScope st) fI cdv A outer s H E) (defBody st) (tSeq (tDrop (tVeI K (tCons (tVar 0) (tCons (tC (.str msg)) tNil)))) (tOst K (tx f) (tVar 0) (tVar 1))))
    (hb : ∀ (kV doc pm : Value) (an : Option Addr) (cdv ct : Value) (us : List Value), us.length = N.length → bindArgs (PySem.W.fnOf "__init__" qual (defArgs st) (defBody st) (defScope st) .none kV doc pm an cdv ct) ⟨us, []⟩ = pure (N.zip us)) : ExcG P w K mg base cA k x f := by
  obtain ⟨B, b1, b2, b3, b4⟩ := S.bs
  obtain ⟨fI, fd, F, i1, i2⟩ := S.ini
  refine ⟨fI, fd, N, S.ox, S.xf, S.no, i1, i2, ?_, F.bindsN hb, hm⟩
  refine F.ok sc (fun vs H Q E ⟨a, C, y, e, _⟩ => by rw [e, hN]; rfl) fun cdv A outer s H vs Q E hr ⟨a, C, y, e, ha, T, hno, q⟩ => ⟨_, hbody B b1 b2 b3 b4 fI cdv A outer s H E, ?_⟩
  subst e
  have s0' : (start N [V.ref a, y])[0]? = some (some (V.ref a)) := by simp [start]
  have s1' : (start N [V.ref a, y])[1]? = some (some y) := by simp [start]
  exact ⟨V.ref a, s0', a, C, [V.str msg], rfl, by simp, T, ha, y, s1', V.ref a, s0', a, C, rfl, T, hno, .inl ⟨ha, fun dx hd ne => q dx hd ne⟩⟩
theorem s_raiseG {X : Cx} {c : Cc} {W : WX} {e : Expr} {ma : MA} {x : Str} {p pos rpos : Pos} {f : List Nat} {kc : Nat} (G : ExcG X.prog X.w X.K X.mg X.base c.cA kc x f) (hc : X.calm = true) (tk : Takes X W) (hr : Room 2 X.A) (hg : Gl X x) (ha : DA X c W [e] ma)
    (hdb : (x == ("__debug__" : Str)) = false := by decide) (he : starEach [e] X.env = (false, eval e X.env) :: starEach [] X.env := by rfl) (hpl : (backTo pos (starEach [] X.env)).any (·.1) = false := by rfl) :
    DS X c W (.Raise (some (.Call (.Name x p) [e] [] pos)) none rpos) (mRaise kc f ma) := by
  obtain ⟨fI, fd, ps, g1, g2, g3, g4, g5, g6, g7, g8⟩ := G.ex
  exact s_raise kc hc tk g1 g3 g4 g5 g6 hr g7 hg g8 ha hdb he hpl
theorem d_xfG {X : Cx} {cA : Nat → Addr} {a dx : Addr} {oe : Obj} {pn : List (Addr × Obj)} {e : Expr} {me : ME} {pos : Pos} {n x : Str} {f : List Nat} {k : Nat} (G : ExcG X.prog X.w X.K X.mg X.base cA k x f) (hz : Zc (.ref (cA k)) (some dx) oe) (hf : ∃ vs, oe.data = .fields vs)
    (he : DE (X.suite a ((a, oe) :: pn)) ⟨cA, some (a, dx)⟩ WF e me) (hn : n = tx f := by rfl) (hb : attributeBase e n X.env (eval e X.env) = eval e X.env := by rfl) :
    DE (X.suite a ((a, oe) :: pn)) ⟨cA, some (a, dx)⟩ WF (.Attribute e n pos) (mXf k f me) := by
  obtain ⟨fI, fd, ps, g1, g2, g3, g4, g5, g6, g7, g8⟩ := G.ex
  subst hn
  exact d_xf g2 g3 hz hf he hb
end L2.G
set_option maxHeartbeats 1000000
/-! F14: how mirrors are reckoned. -/
namespace L2.G
open PySem PySem.Spec PyProof.Rows

section
variable {t : Bool} {i j : Int} {tb : Tb}
theorem add_ii : addD t (.int i) (.int j) tb = .ok (.int (i + j)) tb := by simp [addD, isI, opI, yes2]
theorem sub_ii : subD (.int i) (.int j) tb = .ok (.int (i - j)) tb := rfl
theorem mul_ii (h : (-18446744073709551616 < i ∧ i < 18446744073709551616) ∨ (-18446744073709551616 < j ∧ j < 18446744073709551616)) : mulD t (.int i) (.int j) tb = .ok (.int (i * j)) tb := by
  simp only [mulD, isI, opI, if_true]
  rw [if_pos (decide_eq_true (by simpa using h))]
theorem mod_ii (h : 0 < j) : modD (.int i) (.int j) tb = .ok (.int (i % j)) tb := by simp [modD, opI, h]
theorem fdiv_ii (h : 0 < j ∧ j < 1073741824) : fdivD (.int i) (.int j) tb = .ok (.int (i / j)) tb := by simp [fdivD, opI, h]
theorem pow_ii {n : Nat} (hn : n ≤ 1000000) (h : -18446744073709551616 < i ∧ i < 18446744073709551616) : powD (.int i) (.int (n : Int)) tb = .ok (.int (i ^ n)) tb := by
  have e : (0 : Int) ≤ (n : Int) ∧ (n : Int) ≤ 1000000 ∧ i.natAbs < 2 ^ 64 := ⟨by omega, by omega, by omega⟩
  simp only [powD, opI]
  rw [if_pos (decide_eq_true e)]
  simp
theorem lt_ii : ltD (.int i) (.int j) tb = .ok (.bl (decide (i < j))) tb := rfl
theorem le_ii : leD (.int i) (.int j) tb = .ok (.bl (decide (i ≤ j))) tb := rfl
theorem gt_ii : gtD (.int i) (.int j) tb = .ok (.bl (decide (j < i))) tb := rfl
theorem ge_ii : geD (.int i) (.int j) tb = .ok (.bl (decide (j ≤ i))) tb := rfl
theorem neg_i : negD (.int i) tb = .ok (.int (-i)) tb := rfl
theorem add_ss {a b : List Nat} (h : a.length + b.length ≤ LIM) : addD t (.str a) (.str b) tb = .ok (.str (a ++ b)) tb := by simp [addD, isI, isS, addS, h]
theorem isI_lst {x y : D} {xs : List D} (h : lst? x tb = some xs) : isI x y = false ∧ isS x y = false ∧ isT x y = false := by
  cases x <;> simp_all [lst?, isI, isS, isT]
theorem add_ll {x y : D} {xs ys : List D} (h1 : lst? x tb = some xs) (h2 : lst? y tb = some ys) (h : xs.length + ys.length ≤ LIM) : addD t x y tb = newL t (xs ++ ys) tb := by
  obtain ⟨a, b, c⟩ := isI_lst (y := y) h1
  simp only [addD, a, b, c, Bool.false_eq_true, if_false, addL, h1, h2, h, if_true]
theorem mul_si {a : List Nat} {n : Nat} (h : n < 9223372036854775808) (hl : a.length * n ≤ LIM) : mulD t (.str a) (.int (n : Int)) tb = .ok (.str (repS a n)) tb := by
  have e : -(2 ^ 63) ≤ (n : Int) ∧ (n : Int) < 2 ^ 63 ∧ a.length * (n : Int).toNat ≤ LIM := ⟨by omega, by omega, by simpa using hl⟩
  simp only [mulD, isI, isS, Bool.false_eq_true, if_false, if_true, mulS]
  rw [if_pos e]
theorem mul_li {x : D} {xs : List D} {n : Nat} (h1 : lst? x tb = some xs) (h : n < 9223372036854775808) (hl : xs.length * n ≤ LIM) : mulD t x (.int (n : Int)) tb = newL t (List.replicate n xs).flatten tb := by
  obtain ⟨a, b, c⟩ := isI_lst (y := .int n) h1
  have e : -(2 ^ 63) ≤ (n : Int) ∧ (n : Int) < 2 ^ 63 ∧ xs.length * (n : Int).toNat ≤ LIM := ⟨by omega, by omega, by simpa using hl⟩
  simp only [mulD, a, b, Bool.false_eq_true, if_false, mulL, h1]
  rw [if_pos e]
  simp
/-! items -/
theorem atI_nat' {α : Type} {xs : List α} {n : Nat} : atI xs (n : Int) = xs[n]? := by
  unfold atI ixN
  by_cases h : n < xs.length
  · rw [if_pos (by omega), if_pos (by omega)]; simp
  · rw [if_pos (by omega), if_neg (by omega)]; simp; omega
theorem ix_lst {x : D} {xs : List D} {n : Nat} {d : D} (h : lst? x tb = some xs) (e : xs[n]? = some d) : ixD x (.int (n : Int)) tb = .ok d tb := by
  obtain ⟨a, b, c⟩ := isI_lst (y := .int n) h
  have h1 : isDc x tb = false := by
    cases x with
    | ref m =>
      simp only [lst?] at h
      split at h
      · rename_i g; simp [isDc, dic?, g]
      · cases h
    | _ => first | (simp [isDc, dic?]; done) | (simp [lst?] at h)
  simp only [ixD, h1, b, c, Bool.false_eq_true, if_false, ixL, h, atI_nat', e, optD, id]
theorem ix_tup {xs : List D} {n : Nat} {d : D} (e : xs[n]? = some d) : ixD (.tup xs) (.int (n : Int)) tb = .ok d tb := by
  simp only [ixD, isDc, dic?, isT, Option.isSome, Bool.false_eq_true, if_false, if_true, ixT, atI_nat', e, optD, id]
theorem ix_str {cs : List Nat} {n c : Nat} (hl : cs.length ≤ LIM) (e : cs[n]? = some c) : ixD (.str cs) (.int (n : Int)) tb = .ok (.str [c]) tb := by
  simp only [ixD, isDc, dic?, isT, isS, Option.isSome, Bool.false_eq_true, if_false, if_true, ixS, hl, atI_nat', e, optD]
theorem ix_scr {ns : List Int} {n : Nat} {k : Int} (e : ns[n]? = some k) : ixD (.scr ns) (.int (n : Int)) tb = .ok (.int k) tb := by
  simp only [ixD, isDc, dic?, isT, isS, lst?, Option.isSome, Bool.false_eq_true, if_false, ixL, atI_nat', e, optD]
theorem len_lst {x : D} {xs : List D} (h : lst? x tb = some xs) : lenM x tb = .ok (.int xs.length) tb := by simp only [lenM, h]
theorem len_tup {xs : List D} : lenM (.tup xs) tb = .ok (.int xs.length) tb := by simp [lenM, lst?]
theorem len_scr {xs : List Int} : lenM (.scr xs) tb = .ok (.int xs.length) tb := by simp [lenM, lst?]
theorem len_str {cs : List Nat} (h : cs.length ≤ LIM) : lenM (.str cs) tb = .ok (.int cs.length) tb := by simp [lenM, lst?, h]
theorem set_ref {n : Nat} {xs : List D} {m : Nat} {v : D} (h : tb[n]? = some (.lst xs)) (hm : m < xs.length) : setD (.ref n) (.int (m : Int)) v tb = some (tb.set n (.lst (xs.set m v))) := by
  have e : ixN xs.length (m : Int) = some m := by
    unfold ixN; rw [if_pos (by omega), if_pos (by omega)]; simp
  simp only [setD, h, e]
/-! ==, != -/
theorem shaped_int {i : Int} : SeqAt.shaped (.int i) = true := by simp [SeqAt.shaped, PyData.canLay0, PyData.depth]
theorem shaped_str {cs : List Nat} (h : cs.all (fun c => decide (c < 1114112)) = true) : SeqAt.shaped (.str (tx cs)) = true := by
  have e : (tx cs).cps.all (fun c => decide (c < 1114112)) = true := by
    show (cs.toArray).all _ = true
    simpa using h
  simp only [SeqAt.shaped, PyData.canLay0, PyData.depth, PyData.strOk, Bool.and_eq_true]
  exact ⟨e, rfl⟩
theorem eq_ii {neg : Bool} : eqP neg (.int i) (.int j) tb = .ok (.bl (if neg = true then !(i == j) else i == j)) tb := by
  simp [eqP, toP, toP1, toP0, shaped_int, PyData.eqv]
theorem tx_beq {a b : List Nat} : (tx a == tx b) = decide (a = b) := by
  by_cases h : a = b
  · subst h; simp
  · rw [decide_eq_false h]; exact beq_false_of_ne fun z => h (tx_inj z)
theorem eq_ss {neg : Bool} {a b : List Nat} (ha : a.all (fun c => decide (c < 1114112)) = true) (hb : b.all (fun c => decide (c < 1114112)) = true) : eqP neg (.str a) (.str b) tb = .ok (.bl (if neg = true then !decide (a = b) else decide (a = b))) tb := by
  simp [eqP, toP, toP1, toP0, shaped_str ha, shaped_str hb, PyData.eqv, tx_beq]
theorem eq_bb {neg a b : Bool} : eqP neg (.bl a) (.bl b) tb = .ok (.bl (if neg = true then !(a == b) else a == b)) tb := by
  simp [eqP, toP, toP1, toP0, SeqAt.shaped, PyData.canLay0, PyData.depth, PyData.eqv]
end
/-! ### the combinators, unfolded -/
section
variable (e : Env) (tb : Tb)
@[simp] theorem u_seq (a b : MS) : mSeq a b e tb = (match a e tb with | .nx e t => b e t | r => r) := Eq.trans rfl rfl
@[simp] theorem u_if (t : MT) (a b : MS) : mIf t a b e tb = (t e tb).st e fun k tb => if k = true then a e tb else b e tb := Eq.trans rfl rfl
@[simp] theorem u_set (i : Nat) (a : ME) : mSet i a e tb = (a e tb).st e fun d tb => .nx (e.set i (some d)) tb := Eq.trans rfl rfl
@[simp] theorem u_ret (a : ME) : mRet a e tb = (a e tb).st e fun d tb => .rt d tb := Eq.trans rfl rfl
@[simp] theorem u_retN : mRetN e tb = .rt .non tb := Eq.trans rfl rfl
@[simp] theorem u_expr (a : ME) : mExpr a e tb = (a e tb).st e fun _ tb => .nx e tb := Eq.trans rfl rfl
@[simp] theorem u_skip : mSkip e tb = .nx e tb := Eq.trans rfl rfl
@[simp] theorem u_brk : mBrk e tb = .bk e tb := Eq.trans rfl rfl
@[simp] theorem u_cnt : mCnt e tb = .ct e tb := Eq.trans rfl rfl
@[simp] theorem u_asg (a : ME) (g : MG) : mAsg a g e tb = (a e tb).st e fun d tb => match g d e tb with | some (e, t) => .nx e t | none => .fail := Eq.trans rfl rfl
@[simp] theorem u_par (i j : Nat) (a : MA) : mPar i j a e tb = (a e tb).st e fun ds tb => match ds with | [x, y] => .nx ((e.set i (some x)).set j (some y)) tb | _ => .fail := Eq.trans rfl rfl
@[simp] theorem u_aug (i : Nat) (f : D → D → Tb → Rs D) (a : ME) : mAug i f a e tb = (mVar i e tb).st e fun x tb => (a e tb).st e fun y tb => (f x y tb).st e fun z tb => .nx (e.set i (some z)) tb := Eq.trans rfl rfl
@[simp] theorem u_sub (v o i : ME) : mSub v o i e tb = (v e tb).st e fun v tb => (o e tb).st e fun o tb => (i e tb).st e fun i tb => match setD o i v tb with | some tb => .nx e tb | none => .fail := Eq.trans rfl rfl
@[simp] theorem u_raise (k : Nat) (f : List Nat) (a : MA) : mRaise k f a e tb = (a e tb).st e fun ds tb => match ds with | [d] => .ex k [(f, d)] e tb | _ => .fail := Eq.trans rfl rfl
@[simp] theorem u_try (b : MS) (hs : List Cl) : mTry b hs e tb = (match b e tb with | .ex k fs e t => runCl k fs e t hs | r => r) := Eq.trans rfl rfl
@[simp] theorem u_for (mi : Env → Tb → Rs IT) (g : MG) (mb mo : MS) : mFor mi g mb mo e tb = (mi e tb).st e fun it tb => mLoop it g mb mo it.ds e tb := Eq.trans rfl rfl
@[simp] theorem u_c (d : D) : mC d e tb = .ok d tb := Eq.trans rfl rfl
@[simp] theorem u_op (f : D → D → Tb → Rs D) (a b : ME) : mOp f a b e tb = (a e tb).bind fun x tb => (b e tb).bind fun y tb => f x y tb := Eq.trans rfl rfl
@[simp] theorem u_un (f : D → Tb → Rs D) (a : ME) : mUn f a e tb = (a e tb).bind fun x tb => f x tb := Eq.trans rfl rfl
@[simp] theorem u_nil : mNil e tb = .ok [] tb := Eq.trans rfl rfl
@[simp] theorem u_cons (a : ME) (r : MA) : mCons a r e tb = (a e tb).bind fun x tb => (r e tb).bind fun xs tb => .ok (x :: xs) tb := Eq.trans rfl rfl
@[simp] theorem u_fn (f : List D → Tb → Rs D) (a : MA) : mFn f a e tb = (a e tb).bind fun xs tb => f xs tb := Eq.trans rfl rfl
@[simp] theorem u_call (n : Nat) (m : List D → Tb → Rs D) (ds : List D) : mCall n m ds tb = if ds.length = n then m ds tb else .fail := Eq.trans rfl rfl
@[simp] theorem u_asB (b : Bool) : asB (.bl b) tb = .ok b tb := Eq.trans rfl rfl
@[simp] theorem u_mB (a : ME) : mB a e tb = (a e tb).bind asB := Eq.trans rfl rfl
@[simp] theorem u_bl (a : MT) : mBl a e tb = (a e tb).bind fun b tb => .ok (.bl b) tb := Eq.trans rfl rfl
@[simp] theorem u_and (a b : MT) : mAnd a b e tb = (a e tb).bind fun x tb => if x = true then b e tb else .ok false tb := Eq.trans rfl rfl
@[simp] theorem u_or (a b : MT) : mOr a b e tb = (a e tb).bind fun x tb => if x = true then .ok true tb else b e tb := Eq.trans rfl rfl
@[simp] theorem u_not (a : MT) : mNot a e tb = (a e tb).bind fun x tb => .ok (!x) tb := Eq.trans rfl rfl
@[simp] theorem u_andV (a b : ME) : mAndV a b e tb = (mB a e tb).bind fun x tb => if x = true then b e tb else .ok (.bl false) tb := Eq.trans rfl rfl
@[simp] theorem u_orV (a b : ME) : mOrV a b e tb = (mB a e tb).bind fun x tb => if x = true then .ok (.bl true) tb else b e tb := Eq.trans rfl rfl
@[simp] theorem u_notV (a : ME) : mNotV a e tb = (mB a e tb).bind fun x tb => .ok (.bl (!x)) tb := Eq.trans rfl rfl
@[simp] theorem u_ifE (t : MT) (a b : ME) : mIfE t a b e tb = (t e tb).bind fun x tb => if x = true then a e tb else b e tb := Eq.trans rfl rfl
@[simp] theorem u_chain (f g : D → D → Tb → Rs D) (a b d : ME) : mChain f g a b d e tb = (a e tb).bind fun x tb => (b e tb).bind fun y tb => (f x y tb).bind fun z tb => (asB z tb).bind fun k tb => if k = true then (d e tb).bind fun u tb => g y u tb else .ok (.bl false) tb := Eq.trans rfl rfl
@[simp] theorem u_on1 (f : D → Tb → Rs D) (x : D) : on1 f [x] tb = f x tb := Eq.trans rfl rfl
@[simp] theorem u_on2 (f : D → D → Tb → Rs D) (x y : D) : on2 f [x, y] tb = f x y tb := Eq.trans rfl rfl
@[simp] theorem u_tup (a : MA) : mTup a e tb = (a e tb).bind fun xs tb => if xs.length ≤ LIM then .ok (.tup xs) tb else .fail := Eq.trans rfl rfl
@[simp] theorem u_lst (t : Bool) (a : MA) : mLst t a e tb = (a e tb).bind fun xs tb => if xs.length ≤ LIM then newL t xs tb else .fail := Eq.trans rfl rfl
@[simp] theorem u_newF (xs : List D) : newL false xs tb = .ok (.lst xs) tb := Eq.trans rfl rfl
@[simp] theorem u_newT (xs : List D) : newL true xs tb = .ok (.ref tb.length) (tb ++ [.lst xs]) := Eq.trans rfl rfl
@[simp] theorem u_itV (a : ME) : mItV a e tb = (a e tb).bind fun d tb => match seqIt d tb with | some it => .ok it tb | none => .fail := Eq.trans rfl rfl
@[simp] theorem u_fz (a : ME) : mFz a e tb = (a e tb).bind fun d tb => .ok (fzD d tb).1 (fzD d tb).2 := Eq.trans rfl rfl
@[simp] theorem u_mt (sel : D → Tb → Bool) (f : D → List D → Tb → Rs D) (a : ME) (m : MA) : mMt sel f a m e tb = (a e tb).bind fun x tb => if sel x tb = true then (m e tb).bind fun xs tb => f x xs tb else .fail := Eq.trans rfl rfl
@[simp] theorem u_var {i : Nat} {d : D} (h : e[i]? = some (some d)) : mVar i e tb = .ok d tb := by simp [mVar, h]
@[simp] theorem u_gN (i : Nat) (d : D) : gN i d e tb = some (e.set i (some d), tb) := Eq.trans rfl rfl
@[simp] theorem u_yes : mYes e tb = .ok true tb := Eq.trans rfl rfl
@[simp] theorem u_add {t : Bool} {i j : Int} : addD t (.int i) (.int j) tb = .ok (.int (i + j)) tb := add_ii
@[simp] theorem u_sub' {i j : Int} : subD (.int i) (.int j) tb = .ok (.int (i - j)) tb := Eq.trans rfl rfl
@[simp] theorem u_lt {i j : Int} : ltD (.int i) (.int j) tb = .ok (.bl (decide (i < j))) tb := Eq.trans rfl rfl
@[simp] theorem u_le {i j : Int} : leD (.int i) (.int j) tb = .ok (.bl (decide (i ≤ j))) tb := Eq.trans rfl rfl
@[simp] theorem u_gt {i j : Int} : gtD (.int i) (.int j) tb = .ok (.bl (decide (j < i))) tb := Eq.trans rfl rfl
@[simp] theorem u_ge {i j : Int} : geD (.int i) (.int j) tb = .ok (.bl (decide (j ≤ i))) tb := Eq.trans rfl rfl
@[simp] theorem u_neg {i : Int} : negD (.int i) tb = .ok (.int (-i)) tb := Eq.trans rfl rfl
@[simp] theorem u_int {i : Int} : intD (.int i) tb = .ok (.int i) tb := Eq.trans rfl rfl
@[simp] theorem u_intb {k : Bool} : intD (.bl k) tb = .ok (.int (if k then 1 else 0)) tb := Eq.trans rfl rfl
@[simp] theorem u_eqi {n : Bool} {i j : Int} : eqP n (.int i) (.int j) tb = .ok (.bl (if n = true then !(i == j) else i == j)) tb := eq_ii
@[simp] theorem u_isN {n : Bool} {x : D} : isD n x .non tb = .ok (.bl (if n = true then !isN x else isN x)) tb := by cases x <;> rfl
end
/-- a comprehension whose items change nothing -/
theorem lcGo_pure {it : IT} {g : MG} {tt : MT} {te : ME} {vs : List Nat} {env : Env} {tb : Tb} (hk : it.Kept tb) (f : D → D) : ∀ (ds acc : List D), (∀ d ∈ ds, ∃ e, g d (wipeE env vs) tb = some (e, tb) ∧ tt e tb = .ok true tb ∧ te e tb = .ok (f d) tb) → acc.length + ds.length ≤ LIM →
    mLcGo it g tt te vs env ds acc tb = .ok (acc ++ ds.map f) tb
  | [], acc, _, _ => by unfold mLcGo; rw [if_pos hk]; simp
  | d :: ds, acc, h, hl => by
    simp only [List.length_cons] at hl
    obtain ⟨e, h1, h2, h3⟩ := h d List.mem_cons_self
    unfold mLcGo
    rw [if_pos ⟨hk, by omega⟩, h1]
    simp only [h2, h3, if_true]
    rw [lcGo_pure hk f ds (acc ++ [f d]) (fun x hx => h x (List.mem_cons_of_mem _ hx)) (by simp; omega)]
    simp
/-- .. with a test that leaves some out -/
theorem lcGo_filter {it : IT} {g : MG} {tt : MT} {te : ME} {vs : List Nat} {env : Env} {tb : Tb} (hk : it.Kept tb) : ∀ (ds acc : List D), (∀ d ∈ ds, ∃ e, g d (wipeE env vs) tb = some (e, tb) ∧ tt e tb = .ok false tb) → acc.length + ds.length ≤ LIM →
    mLcGo it g tt te vs env ds acc tb = .ok acc tb
  | [], acc, _, _ => by unfold mLcGo; rw [if_pos hk]
  | d :: ds, acc, h, hl => by
    simp only [List.length_cons] at hl
    obtain ⟨e, h1, h2⟩ := h d List.mem_cons_self
    unfold mLcGo
    rw [if_pos ⟨hk, by omega⟩, h1]
    simp only [h2, Bool.false_eq_true, if_false]
    exact lcGo_filter hk ds acc (fun x hx => h x (List.mem_cons_of_mem _ hx)) (by omega)
theorem lcN_seq {t : Bool} {i : Nat} {g : MG} {tt : MT} {te : ME} {vs : List Nat} {env : Env} {tb : Tb} {d : D} {it : IT} (h : env[i]? = some (some d)) (hs : seqIt d tb = some it) :
    mLcN t i g tt te vs env tb = (mLcGo it g tt te vs env it.ds [] tb).bind fun ds tb => newL t ds tb := by simp [mLcN, h, hs]
theorem gc_same {n : Nat} {r : List D} {tb : Tb} (h : tb.length ≤ n) : gcTb n r tb = tb := by unfold gcTb; rw [if_pos h]
theorem gcN_le (n : Nat) (d : D) : n ≤ gcN n d := by unfold gcN; split <;> first | exact Nat.le_max_left _ _ | exact Nat.le_refl _
theorem gc_self {d : D} {r : List D} {tb : Tb} : gcTb (gcN tb.length d) r tb = tb := gc_same (gcN_le _ _)
theorem gc_self0 {r : List D} {tb : Tb} : gcTb tb.length r tb = tb := gc_same (Nat.le_refl _)
/-- a def that changes nothing and tells a value -/
theorem mDef_rt {k : Nat} {mb : MS} {ds : List D} {tb : Tb} {d : D} (h : mb (ds.map some ++ List.replicate k none) tb = .rt d tb) : mDef k mb ds tb = .ok d tb := by unfold mDef; rw [h]; simp only [gc_self]
/-- a loop by a word of the turn's number -/
theorem loop_go {it : IT} {g : MG} {mb : MS} (I : Nat → Env → Tb → Prop) (step : ∀ (i : Nat) (d : D) (e : Env) (tb : Tb), it.ds[i]? = some d → I i e tb → it.Kept tb ∧ ∃ e1 t1 e2 t2, g d e tb = some (e1, t1) ∧ (mb e1 t1 = .nx e2 t2 ∨ mb e1 t1 = .ct e2 t2) ∧ I (i + 1) e2 t2)
    (last : ∀ (e : Env) (tb : Tb), I it.ds.length e tb → it.Kept tb) : ∀ (k i : Nat) (e : Env) (tb : Tb), i + k = it.ds.length → I i e tb → ∃ e' tb', I it.ds.length e' tb' ∧ mLoop it g mb mSkip (it.ds.drop i) e tb = .nx e' tb'
  | 0, i, e, tb, hk, h => by
    have hi : i = it.ds.length := by omega
    subst hi
    rw [List.drop_length]
    refine ⟨e, tb, h, ?_⟩
    unfold mLoop
    rw [if_pos (last e tb h)]; rfl
  | k + 1, i, e, tb, hk, h => by
    have hi : i < it.ds.length := by omega
    obtain ⟨hkp, e1, t1, e2, t2, h1, h2, h3⟩ := step i it.ds[i] e tb (List.getElem?_eq_getElem hi) h
    obtain ⟨e', tb', h4, h5⟩ := loop_go I step last k (i + 1) e2 t2 (by omega) h3
    refine ⟨e', tb', h4, ?_⟩
    rw [List.drop_eq_getElem_cons hi]
    unfold mLoop
    rw [if_pos hkp, h1]
    rcases h2 with h2 | h2 <;> (simp only [h2]; exact h5)
theorem loop_inv {it : IT} {g : MG} {mb : MS} (I : Nat → Env → Tb → Prop) {e : Env} {tb : Tb} (h0 : I 0 e tb) (step : ∀ (i : Nat) (d : D) (e : Env) (tb : Tb), it.ds[i]? = some d → I i e tb → it.Kept tb ∧ ∃ e1 t1 e2 t2, g d e tb = some (e1, t1) ∧ (mb e1 t1 = .nx e2 t2 ∨ mb e1 t1 = .ct e2 t2) ∧ I (i + 1) e2 t2)
    (last : ∀ (e : Env) (tb : Tb), I it.ds.length e tb → it.Kept tb) : ∃ e' tb', I it.ds.length e' tb' ∧ mLoop it g mb mSkip it.ds e tb = .nx e' tb' := by
  have h := loop_go I step last it.ds.length 0 e tb (by omega) h0
  rwa [List.drop_zero] at h
/-! ### tables that may be cut -/
mutual
theorem below_le {n m : Nat} (h : n ≤ m) : ∀ d : D, below n d = true → below m d = true
  | .non, _ => rfl
  | .bl _, _ => rfl
  | .int _, _ => rfl
  | .str _, _ => rfl
  | .scr _, _ => rfl
  | .lst xs, q => belows_le h xs q
  | .tup xs, q => belows_le h xs q
  | .dic _ kvs, q => belowk_le h kvs q
  | .ref k, q => by simp [below] at *; omega
theorem belows_le {n m : Nat} (h : n ≤ m) : ∀ d : List D, belows n d = true → belows m d = true
  | [], _ => rfl
  | x :: xs, q => by
    simp only [belows, Bool.and_eq_true] at *
    exact ⟨below_le h x q.1, belows_le h xs q.2⟩
theorem belowk_le {n m : Nat} (h : n ≤ m) : ∀ d : List (DK × D), belowk n d = true → belowk m d = true
  | [], _ => rfl
  | (k, x) :: xs, q => by
    simp only [belowk, Bool.and_eq_true] at *
    exact ⟨below_le h x q.1, belowk_le h xs q.2⟩
end
theorem obelow_le {n m : Nat} (h : n ≤ m) {o : Ob} (q : o.below n = true) : o.below m = true := by
  cases o with
  | lst xs => exact belows_le h _ q
  | dic t kvs => exact belowk_le h _ q
  | ins c fs => exact belows_le h _ q
  | exc c fs => exact belows_le h _ q
  | dead => rfl
  | lck t kvs => exact belowk_le h _ q
structure Wf (tb : Tb) : Prop where
  bl : ∀ o ∈ tb, o.below tb.length = true
  ne : ∀ o ∈ tb, o.notExc = true
theorem gc_cut {tb more : Tb} {r : List D} (w : Wf tb) (hr : belows tb.length r = true) : gcTb tb.length r (tb ++ more) = tb := by
  unfold gcTb
  split
  · rename_i h
    have : more = [] := by
      cases more with
      | nil => rfl
      | cons x xs => simp at h; omega
    simp [this]
  · have e : (tb ++ more).take tb.length = tb := by simp
    rw [e, if_pos]
    simp only [Bool.and_eq_true, List.all_eq_true]
    exact ⟨hr, w.bl⟩
theorem gc_cut' {tb tb' more : Tb} {r : List D} {n : Nat} (hn : n = tb'.length) (w : Wf tb') (hr : belows n r = true) : gcTb n r (tb' ++ more) = tb' := by
  subst hn; exact gc_cut w hr
theorem Wf.nil : Wf [] := ⟨(fun _ h => by cases h), (fun _ h => by cases h)⟩
theorem Wf.push {tb : Tb} (w : Wf tb) {o : Ob} (h : o.below (tb.length + 1) = true) (h2 : o.notExc = true) : Wf (tb ++ [o]) := by
  refine ⟨fun x hx => ?_, fun x hx => ?_⟩
  · rw [List.length_append]
    rcases List.mem_append.mp hx with q | q
    · exact obelow_le (by simp) (w.bl x q)
    · simp at q; subst q; exact h
  · rcases List.mem_append.mp hx with q | q
    · exact w.ne x q
    · simp at q; subst q; exact h2
theorem Wf.set {tb : Tb} (w : Wf tb) {n : Nat} {o : Ob} (h : o.below tb.length = true) (h2 : o.notExc = true) : Wf (tb.set n o) := by
  refine ⟨fun x hx => ?_, fun x hx => ?_⟩
  · rw [List.length_set]
    rcases List.mem_or_eq_of_mem_set hx with q | q
    · exact w.bl x q
    · subst q; exact h
  · rcases List.mem_or_eq_of_mem_set hx with q | q
    · exact w.ne x q
    · subst q; exact h2
theorem mDef_rt' {k : Nat} {mb : MS} {ds : List D} {env : Env} {tb t' tb' : Tb} {d : D} (he : ds.map some ++ List.replicate k none = env) (h : mb env tb = .rt d t') (g : gcTb (gcN tb.length d) [d] t' = tb') : mDef k mb ds tb = .ok d tb' := by
  subst he
  unfold mDef
  rw [h]
  simp only [g]
end L2.G
set_option maxHeartbeats 1000000
/-! F15: what mirrors tell, by what is wanted of it. -/
namespace L2.G
open PySem PySem.Spec PyProof.Rows
abbrev XP : Type := Nat → List (List Nat × D) → Tb → Prop
/-- (Dum: so that simp leaves Q as it is) -/
structure Dum {α : Type} (Q : α → Tb → Prop) (X : XP) : Type
structure DumS (Q : RS → Prop) : Type
structure DumL (N : Env → Tb → Prop) (Q : RS → Prop) : Type
structure DumN (N : Env → Tb → Prop) : Type
def WpF {α : Type} (r : Rs α) (Q : α → Tb → Prop) (X : XP) : Prop := match r with
  | .ok a tb => Q a tb
  | .ex c fs tb => X c fs tb
  | .fail => False
def WsF (r : RS) (Q : RS → Prop) : Prop := match r with
  | .fail => False
  | r => Q r
/-- (a structure: so that nothing unfolds it) -/
structure Wp {α : Type} (r : Rs α) (Q : α → Tb → Prop) (X : XP) (u : Dum Q X := ⟨⟩) : Prop where
  v : WpF r Q X
structure Ws (r : RS) (Q : RS → Prop) (u : DumS Q := ⟨⟩) : Prop where
  v : WsF r Q
theorem wp_eq {α : Type} {r : Rs α} {Q : α → Tb → Prop} {X : XP} {u : Dum Q X} : Wp r Q X u = WpF r Q X := propext ⟨fun h => h.v, fun h => ⟨h⟩⟩
theorem ws_eq {r : RS} {Q : RS → Prop} {u : DumS Q} : Ws r Q u = WsF r Q := propext ⟨fun h => h.v, fun h => ⟨h⟩⟩
def noX : XP := fun _ _ _ => False
def seqK (b : MS) (Q : RS → Prop) (_ : DumS Q := ⟨⟩) : RS → Prop
  | .nx e t => Ws (b e t) Q
  | r => Q r
def loopK (N : Env → Tb → Prop) (Q : RS → Prop) (_ : DumL N Q := ⟨⟩) : RS → Prop
  | .nx e t => N e t
  | .ct e t => N e t
  | .bk e t => Q (.nx e t)
  | r => Q r
def defK (n : Nat) (Q : D → Tb → Prop) (X : XP) (_ : Dum Q X := ⟨⟩) : RS → Prop
  | .nx _ t => Q .non (gcTb n [] t)
  | .rt d t => Q d (gcTb (gcN n d) [d] t)
  | .ex k fs _ t => X k fs (gcTb n (fs.map (·.2)) t)
  | _ => False
def tryK (hs : List Cl) (Q : RS → Prop) (_ : DumS Q := ⟨⟩) : RS → Prop
  | .ex k fs e t => Ws (runCl k fs e t hs) Q
  | r => Q r
theorem Wp.mono {α : Type} {r : Rs α} {Q Q' : α → Tb → Prop} {X X' : XP} (h : Wp r Q X) (k : ∀ a tb, Q a tb → Q' a tb) (kx : ∀ c fs tb, X c fs tb → X' c fs tb) : Wp r Q' X' := by
  cases r with
  | ok a tb => exact ⟨k _ _ h.v⟩
  | ex c fs tb => exact ⟨kx _ _ _ h.v⟩
  | fail => exact h.v.elim
/-- .. of what raises nothing -/
theorem Wp.use {α : Type} {r : Rs α} {Q Q' : α → Tb → Prop} {X' : XP} (h : Wp r Q noX) (k : ∀ a tb, Q a tb → Q' a tb) : Wp r Q' X' := h.mono k fun _ _ _ z => z.elim
theorem Ws.mono {r : RS} {Q Q' : RS → Prop} (h : Ws r Q) (k : ∀ r, Q r → Q' r) : Ws r Q' := by
  cases r with
  | fail => exact h.v.elim
  | _ => exact ⟨k _ h.v⟩
theorem wp_fun {α : Type} {r : Rs α} {Q Q' : α → Tb → Prop} {X : XP} (h : ∀ a tb, Q a tb = Q' a tb) : Wp r Q X = Wp r Q' X := by
  obtain rfl : Q = Q' := funext fun a => funext fun tb => h a tb
  rfl
theorem wp_is {α : Type} {r : Rs α} {Q : α → Tb → Prop} (h : Wp r Q noX) : ∃ a tb, r = .ok a tb ∧ Q a tb := by
  cases r with
  | ok a tb => exact ⟨a, tb, rfl, h.v⟩
  | ex c fs tb => exact h.v.elim
  | fail => exact h.v.elim
theorem wp_of {α : Type} {r : Rs α} {a : α} {tb : Tb} {Q : α → Tb → Prop} {X : XP} (h : r = .ok a tb) (q : Q a tb) : Wp r Q X := by subst h; exact ⟨q⟩
section
variable {α β : Type} {Q : α → Tb → Prop} {Q' : β → Tb → Prop} {QD : D → Tb → Prop} {QB : Bool → Tb → Prop} {QL : List D → Tb → Prop} {QI : IT → Tb → Prop} {X : XP} {S : RS → Prop} (e : Env) (tb : Tb)
@[simp] theorem wp_ok {a : α} : Wp (.ok a tb) Q X = Q a tb := wp_eq.trans rfl
@[simp] theorem wp_ex {c : Nat} {fs : List (List Nat × D)} : Wp (.ex c fs tb) Q X = X c fs tb := wp_eq.trans rfl
@[simp] theorem wp_fail : Wp (.fail) Q X = False := wp_eq.trans rfl
@[simp ↓] theorem wp_bind {r : Rs α} {f : α → Tb → Rs β} : Wp (r.bind f) Q' X = Wp r (fun a tb => Wp (f a tb) Q' X) X := by cases r <;> simp
@[simp] theorem ws_nx : Ws (.nx e tb) S = S (.nx e tb) := ws_eq.trans rfl
@[simp] theorem ws_rt {d : D} : Ws (.rt d tb) S = S (.rt d tb) := ws_eq.trans rfl
@[simp] theorem ws_bk : Ws (.bk e tb) S = S (.bk e tb) := ws_eq.trans rfl
@[simp] theorem ws_ct : Ws (.ct e tb) S = S (.ct e tb) := ws_eq.trans rfl
@[simp] theorem ws_ex {k : Nat} {fs : List (List Nat × D)} : Ws (.ex k fs e tb) S = S (.ex k fs e tb) := ws_eq.trans rfl
@[simp] theorem ws_fail : Ws .fail S = False := ws_eq.trans rfl
@[simp ↓] theorem ws_st {r : Rs α} {f : α → Tb → RS} : Ws (r.st e f) S = Wp r (fun a tb => Ws (f a tb) S) (fun k fs tb => S (.ex k fs e tb)) := by cases r <;> simp
@[simp] theorem seqK_nx {b : MS} : seqK b S ⟨⟩ (.nx e tb) = Ws (b e tb) S := Eq.trans rfl rfl
@[simp] theorem seqK_rt {b : MS} {d : D} : seqK b S ⟨⟩ (.rt d tb) = S (.rt d tb) := Eq.trans rfl rfl
@[simp] theorem seqK_bk {b : MS} : seqK b S ⟨⟩ (.bk e tb) = S (.bk e tb) := Eq.trans rfl rfl
@[simp] theorem seqK_ct {b : MS} : seqK b S ⟨⟩ (.ct e tb) = S (.ct e tb) := Eq.trans rfl rfl
@[simp] theorem seqK_ex {b : MS} {k : Nat} {fs : List (List Nat × D)} : seqK b S ⟨⟩ (.ex k fs e tb) = S (.ex k fs e tb) := Eq.trans rfl rfl
@[simp] theorem loopK_nx {N : Env → Tb → Prop} : loopK N S ⟨⟩ (.nx e tb) = N e tb := Eq.trans rfl rfl
@[simp] theorem loopK_ct {N : Env → Tb → Prop} : loopK N S ⟨⟩ (.ct e tb) = N e tb := Eq.trans rfl rfl
@[simp] theorem loopK_bk {N : Env → Tb → Prop} : loopK N S ⟨⟩ (.bk e tb) = S (.nx e tb) := Eq.trans rfl rfl
@[simp] theorem loopK_rt {N : Env → Tb → Prop} {d : D} : loopK N S ⟨⟩ (.rt d tb) = S (.rt d tb) := Eq.trans rfl rfl
@[simp] theorem loopK_ex {N : Env → Tb → Prop} {k : Nat} {fs : List (List Nat × D)} : loopK N S ⟨⟩ (.ex k fs e tb) = S (.ex k fs e tb) := Eq.trans rfl rfl
@[simp] theorem tryK_nx {hs : List Cl} : tryK hs S ⟨⟩ (.nx e tb) = S (.nx e tb) := Eq.trans rfl rfl
@[simp] theorem tryK_rt {hs : List Cl} {d : D} : tryK hs S ⟨⟩ (.rt d tb) = S (.rt d tb) := Eq.trans rfl rfl
@[simp] theorem tryK_bk {hs : List Cl} : tryK hs S ⟨⟩ (.bk e tb) = S (.bk e tb) := Eq.trans rfl rfl
@[simp] theorem tryK_ct {hs : List Cl} : tryK hs S ⟨⟩ (.ct e tb) = S (.ct e tb) := Eq.trans rfl rfl
@[simp] theorem tryK_ex {hs : List Cl} {k : Nat} {fs : List (List Nat × D)} : tryK hs S ⟨⟩ (.ex k fs e tb) = Ws (runCl k fs e tb hs) S := Eq.trans rfl rfl
@[simp] theorem defK_nx {n : Nat} : defK n QD X ⟨⟩ (.nx e tb) = QD .non (gcTb n [] tb) := Eq.trans rfl rfl
@[simp] theorem defK_rt {n : Nat} {d : D} : defK n QD X ⟨⟩ (.rt d tb) = QD d (gcTb (gcN n d) [d] tb) := Eq.trans rfl rfl
@[simp] theorem defK_ex {n k : Nat} {fs : List (List Nat × D)} : defK n QD X ⟨⟩ (.ex k fs e tb) = X k fs (gcTb n (fs.map (·.2)) tb) := Eq.trans rfl rfl
@[simp] theorem defK_bk {n : Nat} : defK n QD X ⟨⟩ (.bk e tb) = False := Eq.trans rfl rfl
@[simp] theorem defK_ct {n : Nat} : defK n QD X ⟨⟩ (.ct e tb) = False := Eq.trans rfl rfl
@[simp ↓] theorem wp_ite {c : Prop} [Decidable c] {a b : Rs α} : Wp (if c then a else b) Q X = if c then Wp a Q X else Wp b Q X := by split <;> rfl
@[simp ↓] theorem ws_ite {c : Prop} [Decidable c] {a b : RS} : Ws (if c then a else b) S = if c then Ws a S else Ws b S := by split <;> rfl
/-! statements -/
@[simp ↓] theorem ws_seq {a b : MS} : Ws (mSeq a b e tb) S = Ws (a e tb) (seqK b S) := by
  show Ws (match a e tb with | .nx e t => b e t | r => r) S = _
  cases a e tb <;> simp
@[simp ↓] theorem ws_if {t : MT} {a b : MS} : Ws (mIf t a b e tb) S = Wp (t e tb) (fun k tb => Ws (if k = true then a e tb else b e tb) S) (fun k fs tb => S (.ex k fs e tb)) := (ws_st e).trans rfl
@[simp ↓] theorem ws_set {i : Nat} {a : ME} : Ws (mSet i a e tb) S = Wp (a e tb) (fun d tb => S (.nx (e.set i (some d)) tb)) (fun k fs tb => S (.ex k fs e tb)) := (ws_st e).trans (wp_fun fun _ _ => by simp)
@[simp ↓] theorem ws_ret {a : ME} : Ws (mRet a e tb) S = Wp (a e tb) (fun d tb => S (.rt d tb)) (fun k fs tb => S (.ex k fs e tb)) := (ws_st e).trans (wp_fun fun _ _ => by simp)
@[simp ↓] theorem ws_expr {a : ME} : Ws (mExpr a e tb) S = Wp (a e tb) (fun _ tb => S (.nx e tb)) (fun k fs tb => S (.ex k fs e tb)) := (ws_st e).trans (wp_fun fun _ _ => by simp)
@[simp ↓] theorem ws_asg {a : ME} {g : MG} : Ws (mAsg a g e tb) S = Wp (a e tb) (fun d tb => Ws (match g d e tb with | some (e, t) => .nx e t | none => .fail) S) (fun k fs tb => S (.ex k fs e tb)) := (ws_st e).trans rfl
@[simp ↓] theorem ws_par {i j : Nat} {a : MA} : Ws (mPar i j a e tb) S = Wp (a e tb) (fun ds tb => Ws (match ds with | [x, y] => .nx ((e.set i (some x)).set j (some y)) tb | _ => .fail) S) (fun k fs tb => S (.ex k fs e tb)) := (ws_st e).trans rfl
@[simp ↓] theorem ws_sub {v o i : ME} : Ws (mSub v o i e tb) S = Wp (v e tb) (fun v tb => Wp (o e tb) (fun o tb => Wp (i e tb) (fun i tb => Ws (match setD o i v tb with | some tb => .nx e tb | none => .fail) S) (fun k fs tb => S (.ex k fs e tb))) (fun k fs tb => S (.ex k fs e tb))) (fun k fs tb => S (.ex k fs e tb)) := by
  show Ws ((v e tb).st e _) S = _
  rw [ws_st]
  refine wp_fun fun v tb => ?_
  rw [ws_st]
  refine wp_fun fun o tb => ?_
  rw [ws_st]; try rfl
@[simp ↓] theorem ws_raise {k : Nat} {f : List Nat} {a : MA} : Ws (mRaise k f a e tb) S = Wp (a e tb) (fun ds tb => Ws (match ds with | [d] => .ex k [(f, d)] e tb | _ => .fail) S) (fun k fs tb => S (.ex k fs e tb)) := (ws_st e).trans rfl
@[simp ↓] theorem ws_try {b : MS} {hs : List Cl} : Ws (mTry b hs e tb) S = Ws (b e tb) (tryK hs S) := by
  show Ws (match b e tb with | .ex k fs e t => runCl k fs e t hs | r => r) S = _
  cases b e tb <;> simp
@[simp ↓] theorem ws_for {mi : Env → Tb → Rs IT} {g : MG} {mb mo : MS} : Ws (mFor mi g mb mo e tb) S = Wp (mi e tb) (fun it tb => Ws (mLoop it g mb mo it.ds e tb) S) (fun k fs tb => S (.ex k fs e tb)) := (ws_st e).trans rfl
theorem loop_nil {it : IT} {g : MG} {mb mo : MS} : Ws (mLoop it g mb mo [] e tb) S = Ws (if it.Kept tb then mo e tb else .fail) S := by rw [mLoop]
theorem loop_cons {it : IT} {g : MG} {mb mo : MS} {d : D} {ds : List D} : Ws (mLoop it g mb mo (d :: ds) e tb) S = (it.Kept tb ∧ ∃ e1 t1, g d e tb = some (e1, t1) ∧ Ws (mb e1 t1) (loopK (fun e t => Ws (mLoop it g mb mo ds e t) S) S)) := by
  rw [mLoop]
  by_cases hk : it.Kept tb
  · rw [if_pos hk]
    cases hg : g d e tb with
    | none => simp
    | some p =>
      obtain ⟨e1, t1⟩ := p
      simp only [hk, true_and, Option.some.injEq, Prod.mk.injEq]
      apply propext
      constructor
      · intro h
        refine ⟨e1, t1, ⟨rfl, rfl⟩, ?_⟩
        cases hm : mb e1 t1 <;> rw [hm] at h <;> simpa using h
      · rintro ⟨_, _, ⟨rfl, rfl⟩, h⟩
        cases hm : mb e1 t1 <;> rw [hm] at h <;> simpa using h
  · rw [if_neg hk]; simp [hk]
/-- a loop, by a word of the turn's number -/
theorem ws_loop {it : IT} {g : MG} {mb : MS} (I : Nat → Env → Tb → Prop) {e : Env} {tb : Tb} (h0 : I 0 e tb)
    (step : ∀ (i : Nat) (d : D) (e : Env) (tb : Tb), it.ds[i]? = some d → I i e tb → it.Kept tb ∧ ∃ e1 t1, g d e tb = some (e1, t1) ∧ Ws (mb e1 t1) (loopK (I (i + 1)) S))
    (last : ∀ (e : Env) (tb : Tb), I it.ds.length e tb → it.Kept tb ∧ S (.nx e tb)) : Ws (mLoop it g mb mSkip it.ds e tb) S := by
  have go : ∀ (k i : Nat) (e : Env) (tb : Tb), i + k = it.ds.length → I i e tb → Ws (mLoop it g mb mSkip (it.ds.drop i) e tb) S := by
    intro k
    induction k with
    | zero =>
      intro i e tb hk h
      have hi : i = it.ds.length := by omega
      subst hi
      rw [List.drop_length, loop_nil, if_pos (last e tb h).1]
      exact ⟨(last e tb h).2⟩
    | succ k ih =>
      intro i e tb hk h
      have hi : i < it.ds.length := by omega
      rw [List.drop_eq_getElem_cons hi, loop_cons]
      obtain ⟨h1, e1, t1, h2, h3⟩ := step i it.ds[i] e tb (List.getElem?_eq_getElem hi) h
      refine ⟨h1, e1, t1, h2, h3.mono fun r => ?_⟩
      cases r with
      | nx e t => exact fun h => ih (i + 1) e t (by omega) h
      | ct e t => exact fun h => ih (i + 1) e t (by omega) h
      | _ => exact id
  have := go it.ds.length 0 e tb (by omega) h0
  rwa [List.drop_zero] at this
theorem wp_def {k : Nat} {mb : MS} {ds : List D} : Wp (mDef k mb ds tb) QD X = Ws (mb (ds.map some ++ List.replicate k none) tb) (defK tb.length QD X) := by
  unfold mDef
  cases mb (ds.map some ++ List.replicate k none) tb <;> simp
/-! expressions -/
@[simp ↓] theorem wp_op {f : D → D → Tb → Rs D} {a b : ME} : Wp (mOp f a b e tb) QD X = Wp (a e tb) (fun x tb => Wp (b e tb) (fun y tb => Wp (f x y tb) QD X) X) X := by
  show Wp ((a e tb).bind _) QD X = _
  rw [wp_bind]
  refine wp_fun fun x tb => ?_
  rw [wp_bind]
@[simp ↓] theorem wp_un {f : D → Tb → Rs D} {a : ME} : Wp (mUn f a e tb) QD X = Wp (a e tb) (fun x tb => Wp (f x tb) QD X) X := wp_bind
@[simp ↓] theorem wp_nil : Wp (mNil e tb) QL X = QL [] tb := wp_eq.trans rfl
@[simp ↓] theorem wp_c {d : D} : Wp (mC d e tb) QD X = QD d tb := wp_eq.trans rfl
@[simp ↓] theorem wp_cons {a : ME} {r : MA} : Wp (mCons a r e tb) QL X = Wp (a e tb) (fun x tb => Wp (r e tb) (fun xs tb => QL (x :: xs) tb) X) X := by
  show Wp ((a e tb).bind _) QL X = _
  rw [wp_bind]
  refine wp_fun fun x tb => ?_
  rw [wp_bind]; exact wp_fun fun _ _ => wp_ok _
@[simp ↓] theorem wp_fn {f : List D → Tb → Rs D} {a : MA} : Wp (mFn f a e tb) QD X = Wp (a e tb) (fun xs tb => Wp (f xs tb) QD X) X := wp_bind
@[simp ↓] theorem wp_mB {a : ME} : Wp (mB a e tb) QB X = Wp (a e tb) (fun d tb => Wp (asB d tb) QB X) X := wp_bind
@[simp ↓] theorem wp_bl {a : MT} : Wp (mBl a e tb) QD X = Wp (a e tb) (fun b tb => QD (.bl b) tb) X := wp_bind.trans (wp_fun fun _ _ => wp_ok _)
@[simp ↓] theorem wp_and {a b : MT} : Wp (mAnd a b e tb) QB X = Wp (a e tb) (fun x tb => Wp (if x = true then b e tb else .ok false tb) QB X) X := wp_bind
@[simp ↓] theorem wp_or {a b : MT} : Wp (mOr a b e tb) QB X = Wp (a e tb) (fun x tb => Wp (if x = true then .ok true tb else b e tb) QB X) X := wp_bind
@[simp ↓] theorem wp_not {a : MT} : Wp (mNot a e tb) QB X = Wp (a e tb) (fun x tb => QB (!x) tb) X := wp_bind.trans (wp_fun fun _ _ => wp_ok _)
@[simp ↓] theorem wp_andV {a b : ME} : Wp (mAndV a b e tb) QD X = Wp (mB a e tb) (fun x tb => Wp (if x = true then b e tb else .ok (.bl false) tb) QD X) X := wp_bind
@[simp ↓] theorem wp_orV {a b : ME} : Wp (mOrV a b e tb) QD X = Wp (mB a e tb) (fun x tb => Wp (if x = true then .ok (.bl true) tb else b e tb) QD X) X := wp_bind
@[simp ↓] theorem wp_notV {a : ME} : Wp (mNotV a e tb) QD X = Wp (mB a e tb) (fun x tb => QD (.bl (!x)) tb) X := wp_bind.trans (wp_fun fun _ _ => wp_ok _)
@[simp ↓] theorem wp_ifE {t : MT} {a b : ME} : Wp (mIfE t a b e tb) QD X = Wp (t e tb) (fun x tb => Wp (if x = true then a e tb else b e tb) QD X) X := wp_bind
@[simp ↓] theorem wp_tup {a : MA} : Wp (mTup a e tb) QD X = Wp (a e tb) (fun xs tb => Wp (if xs.length ≤ LIM then .ok (.tup xs) tb else .fail) QD X) X := wp_bind
@[simp ↓] theorem wp_lst {t : Bool} {a : MA} : Wp (mLst t a e tb) QD X = Wp (a e tb) (fun xs tb => Wp (if xs.length ≤ LIM then newL t xs tb else .fail) QD X) X := wp_bind
@[simp ↓] theorem wp_itV {a : ME} : Wp (mItV a e tb) QI X = Wp (a e tb) (fun d tb => Wp (match seqIt d tb with | some it => .ok it tb | none => .fail) QI X) X := wp_bind
@[simp ↓] theorem wp_fz {a : ME} : Wp (mFz a e tb) QD X = Wp (a e tb) (fun d tb => QD (fzD d tb).1 (fzD d tb).2) X := wp_bind.trans (wp_fun fun _ _ => wp_ok _)
@[simp ↓] theorem wp_mt {sel : D → Tb → Bool} {f : D → List D → Tb → Rs D} {a : ME} {m : MA} : Wp (mMt sel f a m e tb) QD X = Wp (a e tb) (fun x tb => Wp (if sel x tb = true then (m e tb).bind fun xs tb => f x xs tb else .fail) QD X) X := wp_bind
@[simp ↓] theorem wp_chain {f g : D → D → Tb → Rs D} {a b d : ME} : Wp (mChain f g a b d e tb) QD X = Wp (a e tb) (fun x tb => Wp (b e tb) (fun y tb => Wp (f x y tb) (fun z tb => Wp (asB z tb) (fun k tb => Wp (if k = true then (d e tb).bind fun u tb => g y u tb else .ok (.bl false) tb) QD X) X) X) X) X := by
  show Wp ((a e tb).bind _) QD X = _
  rw [wp_bind]
  refine wp_fun fun x tb => ?_
  rw [wp_bind]
  refine wp_fun fun y tb => ?_
  rw [wp_bind]
  refine wp_fun fun z tb => ?_
  rw [wp_bind]
@[simp ↓] theorem wp_rng1 {a : MA} : Wp (mRng1 a e tb) QI X = Wp (a e tb) (fun ds tb => Wp (match ds with | [.int j] => if -(2 ^ 62) ≤ j ∧ j < 2 ^ 62 then .ok (rngIt 0 j.toNat) tb else .fail | _ => .fail) QI X) X := wp_bind
@[simp ↓] theorem wp_sl {t : Bool} {a : ME} {lo hi : Option ME} : Wp (mSl t a lo hi e tb) QD X = Wp (a e tb) (fun x tb => Wp (mPart lo e tb) (fun l tb => Wp (mPart hi e tb) (fun u tb => Wp (slD t x l u tb) QD X) X) X) X := by
  show Wp ((a e tb).bind _) QD X = _
  rw [wp_bind]
  refine wp_fun fun x tb => ?_
  rw [wp_bind]
  refine wp_fun fun y tb => ?_
  rw [wp_bind]
@[simp ↓] theorem wp_lc {t : Bool} {mi : Env → Tb → Rs IT} {g : MG} {tt : MT} {te : ME} {vs : List Nat} : Wp (mLc t mi g tt te vs e tb) QD X = Wp (mi e tb) (fun it tb => Wp (mLcGo it g tt te vs e it.ds [] tb) (fun ds tb => Wp (newL t ds tb) QD X) X) X := by
  show Wp ((mi e tb).bind _) QD X = _
  rw [wp_bind]
  refine wp_fun fun x tb => ?_
  rw [wp_bind]
@[simp] theorem part_none : mPart none e tb = .ok none tb := Eq.trans rfl rfl
@[simp ↓] theorem wp_part {m : ME} {QO : Option Int → Tb → Prop} : Wp (mPart (some m) e tb) QO X = Wp (m e tb) (fun x tb => Wp (match x with | .int i => .ok (some i) tb | _ => .fail) QO X) X := wp_bind
/-- a statement's end, named -/
def nxK (P : Env → Tb → Prop) (_ : DumN P := ⟨⟩) : RS → Prop
  | .nx e t => P e t
  | _ => False
@[simp] theorem nxK_nx {P : Env → Tb → Prop} : nxK P ⟨⟩ (.nx e tb) = P e tb := Eq.trans rfl rfl
theorem wp_mid {r : Rs α} {f : α → Tb → RS} {b : MS} {X : XP} (P : Env → Tb → Prop) (h1 : Wp r (fun k tb => Ws (f k tb) (nxK P)) noX) (h2 : ∀ e t, P e t → Ws (b e t) S) : Wp r (fun k tb => Ws (f k tb) (seqK b S)) X :=
  h1.use fun a tb h => h.mono fun r q => by
    cases r with
    | nx e t => exact h2 e t q
    | _ => exact q.elim
theorem ws_mid {r : RS} {b : MS} (P : Env → Tb → Prop) (h1 : Ws r (nxK P)) (h2 : ∀ e t, P e t → Ws (b e t) S) : Ws r (seqK b S) := h1.mono fun r q => by
    cases r with
    | nx e t => exact h2 e t q
    | _ => exact q.elim
/-- a comprehension, by a word of the turn's number -/
theorem wp_lcGo {it : IT} {g : MG} {tt : MT} {te : ME} {vs : List Nat} (I : Nat → List D → Tb → Prop) {e : Env} {tb : Tb} (h0 : I 0 [] tb)
    (step : ∀ (i : Nat) (d : D) (acc : List D) (tb : Tb), it.ds[i]? = some d → I i acc tb → it.Kept tb ∧ acc.length < LIM ∧ ∃ e1 t1, g d (wipeE e vs) tb = some (e1, t1) ∧
      Wp (tt e1 t1) (fun b t => if b = true then Wp (te e1 t) (fun y t => I (i + 1) (acc ++ [y]) t) noX else I (i + 1) acc t) noX)
    (last : ∀ (acc : List D) (tb : Tb), I it.ds.length acc tb → it.Kept tb ∧ QL acc tb) : Wp (mLcGo it g tt te vs e it.ds [] tb) QL X := by
  have go : ∀ (k i : Nat) (acc : List D) (tb : Tb), i + k = it.ds.length → I i acc tb → Wp (mLcGo it g tt te vs e (it.ds.drop i) acc tb) QL X := by
    intro k
    induction k with
    | zero =>
      intro i acc tb hk h
      have hi : i = it.ds.length := by omega
      subst hi
      rw [List.drop_length, mLcGo, if_pos (last acc tb h).1]
      exact ⟨(last acc tb h).2⟩
    | succ k ih =>
      intro i acc tb hk h
      have hi : i < it.ds.length := by omega
      obtain ⟨h1, h2, e1, t1, h3, h4⟩ := step i it.ds[i] acc tb (List.getElem?_eq_getElem hi) h
      rw [List.drop_eq_getElem_cons hi, mLcGo, if_pos ⟨h1, h2⟩, h3]
      obtain ⟨b, t2, e2, h5⟩ := wp_is h4
      simp only [e2]
      cases b with
      | true =>
        rw [if_pos rfl] at h5 ⊢
        obtain ⟨y, t3, e3, h6⟩ := wp_is h5
        simp only [e3]
        exact ih (i + 1) _ _ (by omega) h6
      | false =>
        rw [if_neg Bool.false_ne_true] at h5 ⊢
        exact ih (i + 1) _ _ (by omega) h5
  have := go it.ds.length 0 [] tb (by omega) h0
  rwa [List.drop_zero] at this
end
end L2.G
set_option maxHeartbeats 1000000
/-! F17: dicts displayed, d.get, a dict held against {}, split, index, int of a text, keyword-only parameters with defaults. -/
namespace L2.G
open PySem PySem.Spec PyProof.Rows
/-! ### a written dict -/
def DK.v : DK → V
  | .i n => .int n
  | .s cs => .str (tx cs)
  | .t _ => .non
def DK.flat : DK → Bool
  | .t _ => false
  | _ => true
def DK.key : DK → Key
  | .i n => .inl n
  | .s cs => .inr (tx cs)
  | .t _ => .inl 0
theorem DK.key_v {k : DK} (h : k.flat = true) : kV k.key = k.v := by cases k <;> first | rfl | cases h
def mDisp (t : Bool) (ks : List DK) (a : MA) : ME := fun env tb => match a env tb with
  | .ok ds tb => if ds.length = ks.length ∧ ks.length ≤ 15 ∧ ks.all DK.flat = true then newD t false (dmerge [] (ks.zip ds)) tb else .fail
  | _ => .fail
/-- the written pairs -/
structure DPs (X : Cx) (c : Cc) (pos : Pos) (keys : List (Option Expr)) (vals : List Expr) (ks : List DK) (ma : MA) : Prop where
  ex : ∃ trs, PPs X pos keys vals trs ∧ ∀ σ H (Q : List (V × V) → Hp → Prop), tA X.K c WF ma σ H (fun vs H' => Q ((ks.map DK.v).zip vs) H') → tPairs trs σ H Q
section
variable {X : Cx} {c : Cc} {W : WX} {pos : Pos} {keys : List (Option Expr)} {vals : List Expr} {ks : List DK} {ma : MA}
theorem dp_nil : DPs X c pos [] [] [] mNil := ⟨[], pps_nil, fun σ H Q ⟨w, env, tb, s, hc, e, p⟩ => p.now s .nil⟩
theorem dp_cons {k : DK} {ke ve : Expr} {mv : ME} (hk : PE X ke (tC k.v)) (hv : DE X c WF ve mv) (h : DPs X c pos keys vals ks ma) : DPs X c pos (some ke :: keys) (ve :: vals) (k :: ks) (mCons mv ma) := by
  obtain ⟨trs, h1, h2⟩ := h.ex
  refine ⟨_, pps_cons hk hv h1, fun σ H Q ⟨w, env, tb, s, hc, e, p⟩ => ?_⟩
  refine ⟨w, env, tb, s, hc, e, p.seq fun x tb1 w1 H1 xv l1 s1 r1 p1 => ?_⟩
  refine h2 σ H1 _ ⟨w1, env, tb1, s1, l1.cur.trans hc, e.up l1, p1.seq fun xs tb2 w2 H2 vs l2 s2 r2 p2 => ?_⟩
  exact p2.now s2 (.cons (r1.up l2) r2)
theorem dp_str {cs : List Nat} {x : Str} {j : Nat} {kp : Pos} {ve : Expr} {mv : ME} (hx : x = tx cs) (hv : DE X c WF ve mv) (h : DPs X c pos keys vals ks ma) : DPs X c pos (some (.Constant (.str x) j kp) :: keys) (ve :: vals) (.s cs :: ks) (mCons mv ma) := by
  subst hx
  exact dp_cons pe_str hv h
theorem dp_int {i : Int} {j : Nat} {kp : Pos} {ve : Expr} {mv : ME} (hv : DE X c WF ve mv) (h : DPs X c pos keys vals ks ma) : DPs X c pos (some (.Constant (.int i) j kp) :: keys) (ve :: vals) (.i i :: ks) (mCons mv ma) := dp_cons pe_int hv h
theorem relKs_zip {K : PySem.W.Frag} {w : Wd} : ∀ {ks : List DK} {ds : List D} {vs : List V}, ks.all DK.flat = true → RelDs K w ds vs → ds.length = ks.length → RelKs K w (ks.zip ds) ((ks.map DK.key).zip vs)
  | [], _, _, _, _, _ => by simp; exact .nil
  | k :: ks, [], _, _, _, h => by simp at h
  | k :: ks, d :: ds, _, hf, r, h => by
    cases r with
    | cons a r =>
      simp only [List.all_cons, Bool.and_eq_true] at hf
      have ih := relKs_zip hf.2 r (by simpa using h)
      cases k with
      | i n => exact .int a ih
      | s cs => exact .str a ih
      | t _ => cases hf.1
theorem zip_keys {ks : List DK} {vs : List V} (h : ks.all DK.flat = true) : (ks.map DK.v).zip vs = ((ks.map DK.key).zip vs).map fun kv => (kV kv.1, kv.2) := by
  induction ks generalizing vs with
  | nil => rfl
  | cons k ks ih =>
    simp only [List.all_cons, Bool.and_eq_true] at h
    cases vs with
    | nil => rfl
    | cons v vs =>
      simp only [List.map_cons, List.zip_cons_cons, ih h.2, DK.key_v h.1]
theorem d_disp (t : Bool) (h : DPs X c pos keys vals ks ma) (hall : keys.all (·.isSome) = true := by rfl) (hl : keys.length = vals.length := by rfl) (h0 : keys ≠ [] := by exact fun z => nomatch z) (h15 : keys.length ≤ 15 := by decide) : DE X c W (.Dict keys vals pos) (mDisp t ks ma) := by
  obtain ⟨trs, h1, h2⟩ := h.ex
  refine PE.imp (pe_disp h1 hall hl h0 h15) fun σ H Q ⟨w, env, tb, s, hc, e, p⟩ => fun A hA => ?_
  have h0A : w.hid A = none := by
    cases q : w.hid A with
    | none => rfl
    | some o => have z := (s.hid A o q).1; rw [hA] at z; cases z
  have lh : w.LeR (w.hide A (.dK [])) := ⟨Same.refl _, fun _ _ h => h⟩
  refine h2 σ _ _ ⟨w.hide A (.dK []), env, tb, s.hideO rfl hA, hc, e.upR lh, ?_⟩
  have p : Post X.K c W σ w (RelD X.K) Q (match ma env tb with | .ok ds tb => if ds.length = ks.length ∧ ks.length ≤ 15 ∧ ks.all DK.flat = true then newD t false (dmerge [] (ks.zip ds)) tb else .fail | _ => .fail) := p
  cases q : ma env tb with
  | ex k fs tb2 => rw [q] at p; exact p.elim
  | fail => rw [q] at p; exact p.elim
  | ok ds tb2 =>
    rw [q] at p
    intro w' H' vs l s2 r
    by_cases hc2 : ds.length = ks.length ∧ ks.length ≤ 15 ∧ ks.all DK.flat = true
    · have p : Post X.K c W σ w (RelD X.K) Q (if ds.length = ks.length ∧ ks.length ≤ 15 ∧ ks.all DK.flat = true then newD t false (dmerge [] (ks.zip ds)) tb2 else .fail) := p
      rw [if_pos hc2] at p
      obtain ⟨e1, e2, e3⟩ := hc2
      have hidA : w'.hid A = some (.dK []) := by rw [l.hid]; exact upd_same
      have rk := relKs_zip e3 r e1
      have rm := relKs_merge (kvs := []) (vs := []) rk .nil
      have hh : w'.hid = upd w.hid A (.dK []) := l.hid
      refine ⟨(s2.hid A _ hidA).1, (ks.map DK.key).zip vs, zip_keys e3, by rw [List.length_zip, List.length_map]; omega, ?_⟩
      -- the merged dict in the hidden place
      have s3 := s2.rehideO (o' := .dK (mergeK [] ((ks.map DK.key).zip vs))) rfl hidA (fun _ _ z => nomatch z)
      have hh3 : (w'.hide A (.dK (mergeK [] ((ks.map DK.key).zip vs)))).hid = upd w.hid A (.dK (mergeK [] ((ks.map DK.key).zip vs))) := by
        show upd w'.hid A _ = _
        rw [hh]
        funext b
        by_cases hb : b = A
        · subst hb; rw [upd_same, upd_same]
        · rw [upd_ne hb, upd_ne hb, upd_ne hb]
      have lR : w.LeR (w'.hide A (.dK (mergeK [] ((ks.map DK.key).zip vs)))) := lh.trans (l.r.trans ⟨Same.refl _, fun _ _ h => h⟩)
      unfold newD at p
      cases t with
      | true =>
        rw [if_pos rfl] at p
        have lp : w'.LeR (((w'.hide A (.dK (mergeK [] ((ks.map DK.key).zip vs)))).withHid w.hid).push A) := ((⟨Same.refl _, fun _ _ h => h⟩ : w'.LeR (w'.hide A (.dK (mergeK [] ((ks.map DK.key).zip vs))))).trans (Wd.leR_hid (h := w.hid))).trans (Wd.le_push _ A).r
        obtain ⟨l6, s6⟩ := s3.forthT (ob := .dic false (dmerge [] (ks.zip ds))) hh3 h0A (fun _ _ z => nomatch z) ⟨_, upd_same, RelKs.mono lp _ _ rm⟩
        refine p _ _ _ ⟨lR.trans l6, l.cur, rfl⟩ s6 (.ref ?_)
        rw [← s3.len]
        exact push_at
      | false =>
        rw [if_neg Bool.false_ne_true] at p
        obtain ⟨l6, s6⟩ := s3.forthF hh3 h0A (fun _ _ z => nomatch z)
        exact p _ _ _ ⟨lR.trans l6, l.cur, rfl⟩ s6 (.dic (.inl upd_same) (RelKs.mono (Wd.LeR.trans (⟨Same.refl _, fun _ _ h => h⟩ : w'.LeR (w'.hide A (.dK (mergeK [] ((ks.map DK.key).zip vs))))) l6) _ _ rm))
    · have p : Post X.K c W σ w (RelD X.K) Q (if ds.length = ks.length ∧ ks.length ≤ 15 ∧ ks.all DK.flat = true then newD t false (dmerge [] (ks.zip ds)) tb2 else .fail) := p
      rw [if_neg hc2] at p; exact p.elim
end
/-! ### a dict held against {} -/
def rEqE (neg : Bool) : R2 := fun x y H Q => ∃ a b kvs, x = .ref a ∧ y = .ref b ∧ Rd H a (.dK kvs) ∧ Rd H b (.dK []) ∧ Q (.bl (neg' neg kvs.isEmpty)) H
section
variable {X : Cx}
theorem op_eqE (hu : X.A.units + 64 < cLine) : OpR X (compareOp .Eq) (rEqE false) := by
  intro pins s σ H x y v u Q I rx ry h
  obtain ⟨a, b, ks, rfl, rfl, ea, eb, q⟩ := h
  obtain rfl : v = Value.ref a := rx
  obtain rfl : u = Value.ref b := ry
  obtain ⟨_, ya, va, ra, da⟩ := dk_rd I.hok ea
  obtain ⟨_, yb, vb, rb, db⟩ := dk_rd I.hok eb
  have lb : vb = [] := by
    have := rb.length
    cases vb with
    | nil => rfl
    | cons _ _ => simp at this
  subst lb
  have la := ra.length
  refine PySem.W.keq_eq (knd := mixKind X.prog X.w) (r := true) ya yb da db (by omega) (fun hl => ?_) ⟨.bl ks.isEmpty, H, I, ?_, q⟩
  · have : va = [] := by
      cases va with
      | nil => rfl
      | cons _ _ => simp at hl
    subst this
    exact .nil
  · show Value.bool _ = Value.bool _
    cases ks with
    | nil => cases va with
      | nil => rfl
      | cons _ _ => simp at la
    | cons _ _ => cases va with
      | nil => simp at la
      | cons _ _ => rfl
theorem op_neE (hu : X.A.units + 64 < cLine) : OpR X (compareOp .NotEq) (rEqE true) := by
  intro pins s σ H x y v u Q I rx ry h
  obtain ⟨a, b, ks, rfl, rfl, ea, eb, q⟩ := h
  obtain rfl : v = Value.ref a := rx
  obtain rfl : u = Value.ref b := ry
  obtain ⟨_, ya, va, ra, da⟩ := dk_rd I.hok ea
  obtain ⟨_, yb, vb, rb, db⟩ := dk_rd I.hok eb
  have lb : vb = [] := by
    have := rb.length
    cases vb with
    | nil => rfl
    | cons _ _ => simp at this
  subst lb
  have la := ra.length
  refine PySem.W.keq_ne (knd := mixKind X.prog X.w) (r := true) ya yb da db (by omega) (fun hl => ?_) ⟨.bl (!ks.isEmpty), H, I, ?_, q⟩
  · have : va = [] := by
      cases va with
      | nil => rfl
      | cons _ _ => simp at hl
    subst this
    exact .nil
  · show Value.bool _ = Value.bool _
    cases ks with
    | nil => cases va with
      | nil => rfl
      | cons _ _ => simp at la
    | cons _ _ => cases va with
      | nil => simp at la
      | cons _ _ => rfl
end
def eqE (neg : Bool) (x y : D) (tb : Tb) : Rs D := match dic? x tb, dic? y tb with
  | some (false, kvs), some (false, []) => .ok (.bl (neg' neg kvs.isEmpty)) tb
  | _, _ => .fail
section
variable {X : Cx} {c : Cc} {W : WX} {a b : Expr} {ma mb : ME} {pos : Pos}
theorem ok_eqE {K : PySem.W.Frag} {neg : Bool} : OpOk K c (eqE neg) (rEqE neg) := by
  intro W σ w tb H x y xv yv Q s rx ry p
  unfold eqE at p
  split at p
  · rename_i kvs e1 e2
    obtain ⟨a, rfl, vs, h1, r1⟩ := s.dicAt rx e1
    obtain ⟨b, rfl, us, h2, r2⟩ := s.dicAt ry e2
    cases r2
    refine ⟨a, b, vs, rfl, rfl, h1, h2, p.now s ?_⟩
    have : vs.isEmpty = kvs.isEmpty := by cases r1 <;> rfl
    rw [this]
    exact .bl _
  · exact p.elim
theorem d_eqE (hu : X.A.units + 64 < cLine) (ha : DE X c W a ma) (hb : DE X c W b mb) (hm : behindInMarks .Eq b = false := by rfl) : DE X c W (.Compare a [.Eq] [b] pos) (mOp (eqE false) ma mb) := d_cmp (op_eqE hu) ok_eqE ha hb hm
theorem t_eqE (hu : X.A.units + 64 < cLine) (ha : DE X c W a ma) (hb : DE X c W b mb) (hm : behindInMarks .Eq b = false := by rfl) : DT X c W (.Compare a [.Eq] [b] pos) (mB (mOp (eqE false) ma mb)) := t_cmp (op_eqE hu) ok_eqE ha hb hm
theorem d_neE (hu : X.A.units + 64 < cLine) (ha : DE X c W a ma) (hb : DE X c W b mb) (hm : behindInMarks .NotEq b = false := by rfl) : DE X c W (.Compare a [.NotEq] [b] pos) (mOp (eqE true) ma mb) := d_cmp (op_neE hu) ok_eqE ha hb hm
theorem t_neE (hu : X.A.units + 64 < cLine) (ha : DE X c W a ma) (hb : DE X c W b mb) (hm : behindInMarks .NotEq b = false := by rfl) : DT X c W (.Compare a [.NotEq] [b] pos) (mB (mOp (eqE true) ma mb)) := t_cmp (op_neE hu) ok_eqE ha hb hm
end
/-! ### d.get -/
def getM (x y z : D) (tb : Tb) : Rs D := match dic? x tb, dkOf y with
  | some (t, kvs), some k => if k.fits t = true then .ok ((dget kvs k).getD z) tb else .fail
  | _, _ => .fail
def mGet1 (o k : ME) : ME := fun env tb => (o env tb).bind fun x tb => if isDc x tb = true then (k env tb).bind fun y tb => getM x y .non tb else .fail
def mGet2 (o k z : ME) : ME := fun env tb => (o env tb).bind fun x tb => if isDc x tb = true then (k env tb).bind fun y tb => (z env tb).bind fun z tb => getM x y z tb else .fail
section
variable {X : Cx} {c : Cc} {W : WX} {o e f : Expr} {mo me mf : ME} {apos cpos : Pos}
theorem isD_of {K : PySem.W.Frag} {cA : Nat → Addr} {w : Wd} {tb : Tb} {H : Hp} {x : D} {v : V} (s : Sim K cA w tb H) (r : RelD K w x v) (h : isDc x tb = true) : ∃ a, v = .ref a ∧ IsD H a := by
  have h : (dic? x tb).isSome = true := h
  cases q : dic? x tb with
  | none => rw [q] at h; cases h
  | some p =>
    obtain ⟨t, kvs⟩ := p
    obtain ⟨a, rfl, d⟩ := s.dicAt r q
    refine ⟨a, rfl, ?_⟩
    cases t with
    | false => obtain ⟨vs, h1, _⟩ := d; exact .inl ⟨vs, h1⟩
    | true => obtain ⟨vs, h1, _⟩ := d; exact .inr ⟨vs, h1⟩
theorem getM_ok {K : PySem.W.Frag} {σ : L2.St} {w : Wd} {tb : Tb} {H : Hp} {x y z : D} {a : Addr} {yv zv : V} {Q : VK} (s : Sim K c.cA w tb H) (rx : RelD K w x (.ref a)) (ry : RelD K w y yv) (rz : RelD K w z zv) (p : Post K c W σ w (RelD K) Q (getM x y z tb)) : ∃ o, DGet H a yv o ∧ Q (o.getD zv) H := by
  unfold getM at p
  split at p
  · rename_i t kvs k e1 e2
    by_cases hf : k.fits t = true
    · rw [if_pos hf] at p
      obtain ⟨a', ea, d⟩ := s.dicAt rx e1
      cases ea
      rcases d.get s ry e2 hf with ⟨u, v, h1, h2, h3⟩ | ⟨h1, h2⟩
      · rw [h1] at p
        exact ⟨_, h2, p.nowD s h3⟩
      · rw [h1] at p
        exact ⟨_, h2, p.nowD s rz⟩
    · rw [if_neg hf] at p; exact p.elim
  · exact p.elim
theorem d_get1 (hu : X.A.units + 1 < cLine) (ho : DE X c W o mo) (he : DE X c W e me) (m : M1 X o "get" apos e cpos := by exact ⟨rfl, rfl, rfl, rfl⟩) : DE X c W (.Call (.Attribute o "get" apos) [e] [] cpos) (mGet1 mo me) :=
  PE.imp (pe_dget1 hu ho he m) fun σ H Q ⟨w, env, tb, s, hc, re, p⟩ => ⟨w, env, tb, s, hc, re, p.seq fun x tb1 w1 H1 xv l1 s1 r1 p1 => by
    by_cases h : isDc x tb1 = true
    · rw [if_pos h] at p1
      obtain ⟨a, rfl, hd⟩ := isD_of s1 r1 h
      exact ⟨a, rfl, hd, w1, env, tb1, s1, l1.cur.trans hc, re.up l1, p1.seq fun y tb2 w2 H2 yv l2 s2 r2 p2 => getM_ok s2 (r1.up l2) r2 .non p2⟩
    · rw [if_neg h] at p1; exact p1.elim⟩
theorem d_get2 (hu : X.A.units + 1 < cLine) (ho : DE X c W o mo) (he : DE X c W e me) (hf : DE X c W f mf) (m : M2 X o "get" apos e f cpos := by exact ⟨rfl, rfl, rfl, rfl⟩) : DE X c W (.Call (.Attribute o "get" apos) [e, f] [] cpos) (mGet2 mo me mf) :=
  PE.imp (pe_dget2 hu ho he hf m) fun σ H Q ⟨w, env, tb, s, hc, re, p⟩ => ⟨w, env, tb, s, hc, re, p.seq fun x tb1 w1 H1 xv l1 s1 r1 p1 => by
    by_cases h : isDc x tb1 = true
    · rw [if_pos h] at p1
      obtain ⟨a, rfl, hd⟩ := isD_of s1 r1 h
      exact ⟨a, rfl, hd, w1, env, tb1, s1, l1.cur.trans hc, re.up l1, p1.seq fun y tb2 w2 H2 yv l2 s2 r2 p2 => ⟨w2, env, tb2, s2, (l1.trans l2).cur.trans hc, re.up (l1.trans l2), p2.seq fun z tb3 w3 H3 zv l3 s3 r3 p3 => getM_ok s3 (r1.up (l2.trans l3)) (r2.up l3) r3 p3⟩⟩
    · rw [if_neg h] at p1; exact p1.elim⟩
end
/-! ### split, index, int of a text -/
def codesOf (x : Str) : List Nat := x.cps.toList
def splitC (a b : List Nat) : List (List Nat) := (Txt.split (tx a) (tx b)).map codesOf
def splitD (t : Bool) (x : D) (ys : List D) (tb : Tb) : Rs D := match x, ys with
  | .str a, [.str b] => if b ≠ [] ∧ a.length + 2 ≤ LIM then newL t ((splitC a b).map .str) tb else .fail
  | _, _ => .fail
theorem rel_strs {K : PySem.W.Frag} {w : Wd} : ∀ ys : List Str, RelDs K w ((ys.map codesOf).map .str) (ys.map V.str)
  | [] => .nil
  | y :: ys => by
    refine .cons ?_ (rel_strs ys)
    have e : y = tx (codesOf y) := tx_of y
    conv => rhs; rw [e]
    exact .str _
section
variable {X : Cx} {c : Cc} {K : PySem.W.Frag}
theorem ok_split {t : Bool} : MtOk K c (splitD t) (fun x xs H Q => ∃ a b, x = .str a ∧ xs = [.str b] ∧ (b.length == 0) = false ∧ a.length + 2 ≤ sizeLine ∧ rNewStrs (Txt.split a b) H Q) := by
  intro W σ w tb H x xv xs vs Q s rx rs p
  unfold splitD at p
  split at p
  · rename_i a b
    cases rx
    cases rs with
    | cons ry rt =>
      cases rt
      cases ry
      by_cases h : b ≠ [] ∧ a.length + 2 ≤ LIM
      · rw [if_pos h] at p
        refine ⟨tx a, tx b, rfl, rfl, ?_, by rw [tx_len]; exact le_lim h.2, fun q hq => ?_⟩
        · rw [tx_len]
          cases b with
          | nil => exact absurd rfl h.1
          | cons _ _ => rfl
        · exact newL_ok s (rel_strs _) p hq
      · rw [if_neg h] at p; exact p.elim
  · exact p.elim
end
def indexD (x : D) (ys : List D) (tb : Tb) : Rs D := match x, ys with
  | .str a, [.str b] => match Txt.index0 (tx a) (tx b) with
    | some k => .ok (.int (k : Nat)) tb
    | none => .fail
  | _, _ => .fail
def intX (x : D) (tb : Tb) : Rs D := match x with
  | .str cs => match PySem.intText? (tx cs) with
    | some n => if cs.length ≤ 640 then .ok (.int n) tb else .fail
    | none => .fail
  | x => intD x tb
section
variable {X : Cx} {c : Cc} {W : WX} {a b : Expr} {ma mb : ME} {apos p pos : Pos}
theorem takes_WF : Takes X WF := fun _ _ ⟨_, _, _, _, _, _, _, _, _, _, _, _, _, _, _, _, h⟩ => h.elim
theorem d_index (hc : X.calm = true) (ho : DE X c W a ma) (ha : DE X c W b mb) (hbase : attributeBase a "index" X.env (eval a X.env) = eval a X.env := by rfl)
    (hfew : ((backTo pos (starEach [b] X.env)).all (fun x => !x.1) && (backToKw pos (keywordEach [] X.env)).all (fun x => x.1.isSome)
      && decide ([b].length + ([] : List Keyword).length + (if ([] : List Keyword).isEmpty then 0 else 1) < 30)) = true := by rfl)
    (hline : (apos.endLine == pos.line) = true := by rfl) (hs : starEach [b] X.env = (false, eval b X.env) :: starEach [] X.env := by rfl) (hplain : (backTo pos (starEach [] X.env)).any (·.1) = false := by rfl) :
    DE X c W (.Call (.Attribute a "index" apos) [b] [] pos) (mMt isStrT indexD ma (mCons mb mNil)) :=
  PE.imp (pe_bmS PySem.F.plainAttrs_str PySem.F.slot_str_index PySem.F.type_str_index (mt_indexX hc takes_WF) ho (a_cons ha a_nil hs) hbase hfew hline hs hplain) fun σ H Q ⟨w, env, tb, s, hc, e, q⟩ =>
    ⟨w, env, tb, s, hc, e, q.seq fun x tb1 w1 H1 xv l1 s1 r1 p1 => by
      by_cases h : isStrT x tb1 = true
      · rw [if_pos h] at p1
        refine ⟨sel_str w1 tb1 H1 x xv s1 r1 h, w1, env, tb1, s1, l1.cur.trans hc, e.up l1, p1.seq fun xs tb2 w2 H2 vs l2 s2 r2 p2 => ?_⟩
        unfold indexD at p2
        split at p2
        · rename_i u v
          cases r1
          cases r2 with
          | cons ry rt =>
            cases rt
            cases ry
            split at p2
            · rename_i k hk
              refine ⟨_, _, rfl, rfl, fun j hj => ?_, fun hn => ?_⟩
              · rw [hk] at hj
                cases hj
                exact p2.nowD s2 (.int _)
              · rw [hk] at hn; cases hn
            · exact p2.elim
        · exact p2.elim
      · rw [if_neg h] at p1; exact p1.elim⟩
theorem ok_intX {K : PySem.W.Frag} : FnOkD K c (on1 intX) (fun xs H Q => ((∃ i, xs = [V.int i] ∧ Q (.int i) H) ∨ ∃ k, xs = [V.bl k] ∧ Q (.int (if k then 1 else 0)) H) ∨ ∃ a n, xs = [V.str a] ∧ PySem.intText? a = some n ∧ a.length ≤ 640 ∧ Q (.int n) H) := ok_on1 fun W σ w tb H x v Q s r q => by
  unfold intX at q
  split at q
  · rename_i cs
    split at q
    · rename_i n hn
      by_cases h : cs.length ≤ 640
      · rw [if_pos h] at q
        cases r
        exact .inr ⟨_, n, rfl, hn, by rw [tx_len]; exact h, q.nowD s (.int _)⟩
      · rw [if_neg h] at q; exact q.elim
    · exact q.elim
  · unfold intD at q
    split at q
    · cases r; exact .inl (.inl ⟨_, rfl, q.nowD s (.int _)⟩)
    · cases r; exact .inl (.inr ⟨_, rfl, q.nowD s (.int _)⟩)
    · exact q.elim
end
section
variable {X : Cx} {c : Cc} {W : WX} {a : Expr} {ma : ME} {p pos : Pos}
theorem d_int1X (hc : X.calm = true) (hg : Gl X "int") (hm : X.mg "int" = none) (ha : DE X c W a ma) (he : starEach [a] X.env = (false, eval a X.env) :: starEach [] X.env := by rfl) (hpl : (backTo pos (starEach [] X.env)).any (·.1) = false := by rfl) :
    DE X c W (.Call (.Name "int" p) [a] [] pos) (mFn (on1 intX) (mCons ma mNil)) := d_callTy (call_int1.or call_int_str) ok_intX hg hm PyProof.Rows.boot_int (a_cons ha a_nil he) (by decide) (by decide) he hpl
@[simp] theorem u_intX {i : Int} {tb : Tb} : intX (.int i) tb = .ok (.int i) tb := Eq.trans rfl rfl
@[simp] theorem u_intXb {k : Bool} {tb : Tb} : intX (.bl k) tb = .ok (.int (if k then 1 else 0)) tb := Eq.trans rfl rfl
end
/-! ### keyword-only parameters with defaults -/
def cV : D → V
  | .int i => .int i
  | .bl b => .bl b
  | .str cs => .str (tx cs)
  | _ => .non
def isC : D → Bool
  | .int _ => true
  | .bl _ => true
  | .str _ => true
  | .non => true
  | _ => false
theorem rel_c {K : PySem.W.Frag} {w : Wd} : ∀ {ds : List D}, ds.all isC = true → RelDs K w ds (ds.map cV)
  | [], _ => .nil
  | d :: ds, h => by
    simp only [List.all_cons, Bool.and_eq_true] at h
    refine .cons ?_ (rel_c h.2)
    cases d with
    | int i => exact .int i
    | bl b => exact .bl b
    | str cs => exact .str cs
    | non => exact .non
    | _ => cases h.1
structure StdK (K : PySem.W.Frag) (mg : Str → Option Value) (x : Str) (st : Stmt) (kw : List (Str × D)) : Prop where
  ex : ∃ f fd, mg x = some (.ref f) ∧ FunD K x x (defArgs st) (defBody st) (defScope st) [] (kw.map fun q => (q.1, cV q.2)) f fd
structure CalK (P : Program) (w : World) (K : PySem.W.Frag) (mg : Str → Option Value) (base : Heap) (cA : Nat → Addr) (k : Nat) (x : Str) (st : Stmt) (ps : List Str) (kw : List (Str × D)) (m : List D → Tb → Rs D) : Prop where
  ex : ∃ f fd, FnOk P w K mg base (L2.CX P w) k f fd ps (spD K cA ps.length m) ∧ mg x = some (.ref f) ∧ FunD K x x (defArgs st) (defBody st) (defScope st) [] (kw.map fun q => (q.1, cV q.2)) f fd
/-- the binding: n by place, keywords ks, ms lack; is: where the values by place, of the lacking ones and by keyword go -/
def KBK (x : Str) (st : Stmt) (ps : List Str) (n : Nat) (ks ms : List Str) (is : List Nat) : Prop := ∀ (D : Addr) (doc pm : Value) (an : Option Addr) (cdv ct : Value) (us mv ws : List Value), us.length = n → mv.length = ms.length → ws.length = ks.length →
  KwChain D (ms.zip mv) (bindArgs (PySem.W.fnOf x x (defArgs st) (defBody st) (defScope st) .none (.ref D) doc pm an cdv ct) ⟨us, ks.zip ws⟩) (ps.zip (permL is (us ++ mv ++ ws)))
section
variable {P : Program} {w : World} {K : PySem.W.Frag} {mg : Str → Option Value} {base : Heap} {cA : Nat → Addr} {x : Str} {st : Stmt} {N ps : List Str} {kw : List (Str × D)}
theorem calk_none {k : Nat} (T : StdK K mg x st kw) : CalK P w K mg base cA k x st ps kw (fun _ _ => .fail) := by
  obtain ⟨f, fd, h1, F⟩ := T.ex
  exact ⟨f, fd, fn_none rfl, h1, F⟩
theorem calk_mirror {k : Nat} {mb : MS} (T : StdK K mg x st kw) (S : FnScope N ps (defScope st))
    (hbody : ∀ (f : Addr) (cdv : Value) (A : Around) (outer : List PySem.Env) (s : Shared) (H : Hp) (E : XK), Room k (A.deeper (envOfC x (defScope st) s.heap.objs.size f cdv)) →
      DSs (bX P w K mg base N x (defScope st) f cdv A outer s H E) ⟨cA, none⟩ (WEx E) (defBody st) mb) : CalK P w K mg base cA (k + 1) x st ps kw (mDef (N.length - ps.length) mb) := by
  obtain ⟨f, fd, h1, F⟩ := T.ex
  refine ⟨f, fd, ?_, h1, F⟩
  refine F.ok S spD_len fun cdv A outer s H vs Q E hr ⟨wd, tb, ds, hs, hc, r, hl, p⟩ => ⟨_, hbody f cdv A outer s H E hr, wd, ds.map some ++ List.replicate (N.length - ps.length) none, tb, hs, hc, hl ▸ start_rel N r, ?_⟩
  exact mDef_ok hs p
theorem kbn_k {f : Addr} {fd : FuncData} {n : Nat} {ks ms : List Str} {is : List Nat} {dfl : List D} (F : FunD K x x (defArgs st) (defBody st) (defScope st) [] (kw.map fun q => (q.1, cV q.2)) f fd) (h : KBK x st ps n ks ms is) (hk : kw ≠ []) (hms : ∀ q ∈ ms.zip dfl, q ∈ kw) (hl : ms.length = dfl.length) :
    ∃ mv : List Value, KBn K fd ps n ks (fun us ws => permL is (us ++ mv ++ ws)) (fun us ws => permL is (us ++ dfl.map cV ++ ws)) := by
  have e1 : ((ms.zip dfl).map fun q => (q.1, cV q.2)).map (·.1) = ms := by
    rw [List.map_map]
    show (ms.zip dfl).map Prod.fst = ms
    rw [List.map_fst_zip (by omega)]
  have e2 : ((ms.zip dfl).map fun q => (q.1, cV q.2)).map (·.2) = dfl.map cV := by
    rw [List.map_map]
    show (ms.zip dfl).map (cV ∘ Prod.snd) = _
    rw [← List.map_map, List.map_snd_zip (by omega)]
  obtain ⟨mv, q⟩ := F.kbinds0 n ks ((ms.zip dfl).map fun q => (q.1, cV q.2)) (fun us mv ws => permL is (us ++ mv ++ ws)) (by
    intro z
    rw [List.map_eq_nil_iff] at z
    exact hk z) (fun q hq => by
      obtain ⟨p, hp, rfl⟩ := List.mem_map.mp hq
      exact List.mem_map.mpr ⟨p, hms p hp, rfl⟩) (fun r1 r2 r3 => permL_vals ((r1.append r2).append r3) is) (fun D doc pm an cdv ct us mv ws l1 l2 l3 => by
      rw [e1]
      exact h D doc pm an cdv ct us mv ws l1 (by rw [l2, List.length_map, List.length_zip]; omega) l3)
  rw [e2] at q
  exact ⟨mv, q⟩
end
def mKwD (n nk : Nat) (is : List Nat) (dfl : List D) (np : Nat) (m : List D → Tb → Rs D) (a b : MA) : ME := fun env tb => (a env tb).bind fun xs tb => (b env tb).bind fun ys tb => if xs.length = n ∧ ys.length = nk then mCall np m (permL is (xs ++ dfl ++ ys)) tb else .fail
section
variable {X : Cx} {c : Cc} {W : WX} {k : Nat} {x : Str} {st : Stmt} {ps : List Str} {m : List D → Tb → Rs D} {p pos : Pos} {e : Expr} {es : List Expr} {ma : MA} {kw : List (Str × D)}
theorem d_callGD {kws : List Keyword} {ks ms : List Str} {mk : MA} {is : List Nat} {n : Nat} {dfl : List D} (C : CalK X.prog X.w X.K X.mg X.base c.cA k x st ps kw m) (hb : KBK x st ps n ks ms is) (hw : kw ≠ []) (hms : ∀ q ∈ ms.zip dfl, q ∈ kw) (hl : ms.length = dfl.length) (hd : dfl.all isC = true) (hcur : c.cur = none) (tk : Takes X W) (hr : Room k X.A) (hg : Gl X x) (ha : DA X c W (e :: es) ma) (hkw : DK' X c W kws mk) {np nk : Nat} (hnp : ps.length = np := by rfl) (hnk : ks.length = nk := by rfl)
    (hall : (backToKw pos (keywordEach kws X.env)).all (·.1.isSome) = true := by rfl) (hks : (backToKw pos (keywordEach kws X.env)).filterMap (·.1) = ks := by rfl)
    (hdb : (x == ("__debug__" : Str)) = false := by decide) (he : starEach (e :: es) X.env = (false, eval e X.env) :: starEach es X.env := by rfl)
    (hpl : ((backTo pos (starEach (e :: es) X.env)).any (·.1) || (backToKw pos (keywordEach kws X.env)).any (·.1.isNone)) = false := by rfl) :
    DE X c W (.Call (.Name x p) (e :: es) kws pos) (mKwD n nk is dfl np m ma mk) := by
  subst hnp; subst hnk
  obtain ⟨f, fd, F, hm, FD⟩ := C.ex
  obtain ⟨mv, B⟩ := kbn_k (dfl := dfl) FD hb hw hms hl
  refine PE.imp (pe_callKS F hr hg hm FD.kp B (passAt tk) ha hkw hall hks hdb he hpl) fun σ H Q ⟨w, env, tb, s, hc, re, q⟩ =>
    ⟨w, env, tb, s, hc, re, q.seq fun xs tb1 w1 H1 vs l1 s1 r1 p1 => ⟨w1, env, tb1, s1, l1.cur.trans hc, re.up l1, p1.seq fun ys tb2 w2 H2 zs l2 s2 r2 p2 => by
      by_cases h : xs.length = n ∧ ys.length = ks.length
      · rw [if_pos h] at p2
        exact ⟨r1.length.symm.trans h.1, r2.length.symm.trans h.2, sp_at hcur s2 ((l1.trans l2).cur.trans hc) (permL_rel (((r1.up l2).append (rel_c hd)).append r2) is) p2⟩
      · rw [if_neg h] at p2; exact p2.elim⟩⟩
theorem d_callGD0 {kws : List Keyword} {ks ms : List Str} {mk : MA} {is : List Nat} {dfl : List D} (C : CalK X.prog X.w X.K X.mg X.base c.cA k x st ps kw m) (hb : KBK x st ps 0 ks ms is) (hw : kw ≠ []) (hms : ∀ q ∈ ms.zip dfl, q ∈ kw) (hl : ms.length = dfl.length) (hd : dfl.all isC = true) (hcur : c.cur = none) (tk : Takes X W) (hr : Room k X.A) (hg : Gl X x) (hkw : DK' X c W kws mk) {np nk : Nat} (hnp : ps.length = np := by rfl) (hnk : ks.length = nk := by rfl)
    (hall : (backToKw pos (keywordEach kws X.env)).all (·.1.isSome) = true := by rfl) (hks : (backToKw pos (keywordEach kws X.env)).filterMap (·.1) = ks := by rfl)
    (hdb : (x == ("__debug__" : Str)) = false := by decide)
    (hpl : ((backTo pos (starEach [] X.env)).any (·.1) || (backToKw pos (keywordEach kws X.env)).any (·.1.isNone)) = false := by rfl) :
    DE X c W (.Call (.Name x p) [] kws pos) (mKwD 0 nk is dfl np m mNil mk) := by
  subst hnp; subst hnk
  obtain ⟨f, fd, F, hm, FD⟩ := C.ex
  obtain ⟨mv, B⟩ := kbn_k (dfl := dfl) FD hb hw hms hl
  refine PE.imp (pe_callKS0 F hr hg hm FD.kp B (passAt tk) hkw hall hks hdb hpl) fun σ H Q ⟨w, env, tb, s, hc, re, q⟩ =>
    ⟨w, env, tb, s, hc, re, Post.seq (rel2 := RelD X.K) (Q := Q) (f := fun ys tb => if ([] : List D).length = 0 ∧ ys.length = ks.length then mCall ps.length m (permL is (([] : List D) ++ dfl ++ ys)) tb else .fail) q fun ys tb1 w1 H1 vs l1 s1 r1 p1 => by
      by_cases h : ([] : List D).length = 0 ∧ ys.length = ks.length
      · rw [if_pos h] at p1
        exact ⟨rfl, r1.length.symm.trans h.2, sp_at hcur s1 (l1.cur.trans hc) (permL_rel ((RelDs.nil.append (rel_c hd)).append r1) is) p1⟩
      · rw [if_neg h] at p1; exact p1.elim⟩
end
section
variable {X : Cx} {c : Cc} {W : WX} {pos : Pos}
theorem s_par3 {i j l : Nat} {x y z : Str} {a b d : Expr} {ma : MA} {px py pz pt : Pos} {kt k2 pt2} (hc : X.calm = true) (hN : X.N.Nodup) (hi : X.N[i]? = some x) (hj : X.N[j]? = some y) (hl : X.N[l]? = some z) (hij : i ≠ j) (hil : i ≠ l) (hjl : j ≠ l)
    (hx : X.env.scope.names.lookup x = some .local) (hy : X.env.scope.names.lookup y = some .local) (hz : X.env.scope.names.lookup z = some .local) (ha : DA X c W [a, b, d] ma)
    (hw : swappedStores [.Tuple [.Name x px, .Name y py, .Name z pz] kt pt] (.Tuple [a, b, d] k2 pt2) X.env = pure (some [x, y, z]))
    (hs : swapsWithSole [.Tuple [.Name x px, .Name y py, .Name z pz] kt pt] (.Tuple [a, b, d] k2 pt2) pos.line X.env = pure false := by rfl) :
    DS X c W (.Assign [.Tuple [.Name x px, .Name y py, .Name z pz] kt pt] (.Tuple [a, b, d] k2 pt2) pos) (mPar3 i j l ma) := PS.imp (ps_par3 hc hN hi hj hl hij hil hjl hx hy hz ha hw hs) fun E σ H ⟨w, env, tb, s, hcu, e, p⟩ =>
  ⟨w, env, tb, s, hcu, e, Post.stS e p fun ds tb1 w1 H1 vs l1 s1 r1 p1 => by
    match ds, r1, p1 with
    | [x, y, z], .cons rx (.cons ry (.cons rz .nil)), p1 => exact ⟨_, _, _, rfl, p1.nxt s1 ((((e.up l1).set rx).set ry).set rz)⟩
    | [], _, p1 => exact p1.elim
    | [_], _, p1 => exact p1.elim
    | [_, _], _, p1 => exact p1.elim
    | _ :: _ :: _ :: _ :: _, _, p1 => exact p1.elim⟩
end
end L2.G
set_option maxHeartbeats 1000000
/-! F16: the head's facts. -/
namespace L2.G
open PySem PySem.Spec PyProof.Rows
def oexB (K : PySem.W.Frag) (C : Addr) : Bool := (match K.lookup C with
  | some ⟨.type "type", _, .cls cd, sl⟩ => (match cd.mro, sl.toList with
    | .ref C' :: bm, [_, _, _, _, some (.builtin n), _] => C' == C && n == "ValueError.__new__" && !cd.hasDel && cd.hasDict && PySem.HandSPX.refsVE bm
    | _, _ => false)
  | _ => false)
theorem oexB_ok {K : PySem.W.Frag} {C : Addr} (q : oexB K C = true) : ∃ nm q N bs bm sn sub ab col dd k0 k1 k2 k3 k5, K.lookup C = some (excClassObj nm q C N bs bm true sn sub ab col dd k0 k1 k2 k3 k5 "ValueError.__new__") ∧ PySem.HandSPX.refsVE bm = true := by
  unfold oexB at q
  split at q
  · rename_i dd cd sl ho
    split at q
    · rename_i C' bm k0 k1 k2 k3 n k5 hm hs
      simp only [Bool.and_eq_true, beq_iff_eq, Bool.not_eq_true'] at q
      obtain ⟨⟨⟨⟨rfl, rfl⟩, hdel⟩, hdct⟩, ht⟩ := q
      obtain ⟨nm, bs, mro, ns, qn, hd, sn, sub, ab, col, del⟩ := cd
      dsimp only at hm hdel hdct
      subst hm hdel hdct
      have hsl : sl = #[k0, k1, k2, k3, some (.builtin "ValueError.__new__"), k5] := by
        obtain ⟨l⟩ := sl
        simp only at hs
        rw [hs]
      subst hsl
      exact ⟨nm, qn, ns, bs, bm, sn, sub, ab, col, dd, k0, k1, k2, k3, k5, ho, ht⟩
    · cases q
  · cases q
/-- an own exception class C over b -/
def excB (K : PySem.W.Frag) (x b f : Str) : Bool :=
  let C := He.ga K x
  let B := He.ga K b
  PySem.W.readsIn K B (.type "type") && (He.eqO (PySem.W.specialIn K (.ref B) "__getattribute__") (some (some (.builtin "type.__getattribute__"))) && ((match PySem.W.findCls K (.ref B) (.type "type") "__init__" with
    | some (.val (.builtin n)) => decide (n = "ValueError.__init__")
    | _ => false) && (oexB K C && (He.eqO (PySem.W.findIn K (.ref C) "__setattr__") (some (some (.builtin "object.__setattr__"))) && (decide (PySem.W.subIn K (.ref C) (.type "BaseException") = some true) && (decide (PySem.W.typeIn K (.ref C) = some (.type "type")) &&
    (PySem.W.keepIn K (.ref C) && (L2.xfB K C && (He.eqO (PySem.W.findIn K (.ref C) f) (some none) && (He.eqO (PySem.W.findIn K (.ref C) "__init__") (some (some (.ref (He.ma K C "__init__")))) && decide (PySem.W.typeIn K (.ref (He.ma K C "__init__")) = some (.type "function"))))))))))))
theorem excS_of {K : PySem.W.Frag} {h : Heap} {mg : Str → Option Value} {fa : List He.Fa} {fn : List He.DefD} {x b qual f : Str} {st : Stmt} (X : K.In h) (G : h.Ns mainGlobals mg) (hb : (He.Fa.glo b).ok K = true) (q : excB K x b f = true)
    (hd : ∃ fd, FunD K "__init__" qual (defArgs st) (defBody st) (defScope st) [] [] (He.ma K (He.ga K x) "__init__") fd) : ExcS K mg (He.ga K x) b qual f st := by
  obtain ⟨c1, q⟩ := He.ba q
  obtain ⟨c2, q⟩ := He.ba q
  obtain ⟨c3, q⟩ := He.ba q
  obtain ⟨c4, q⟩ := He.ba q
  obtain ⟨c5, q⟩ := He.ba q
  obtain ⟨c6, q⟩ := He.ba q
  obtain ⟨c7, q⟩ := He.ba q
  obtain ⟨c8, q⟩ := He.ba q
  obtain ⟨c9, q⟩ := He.ba q
  obtain ⟨c10, q⟩ := He.ba q
  obtain ⟨c11, c12⟩ := He.ba q
  obtain ⟨fd, F⟩ := hd
  refine ⟨⟨_, He.glo_ok X G hb, c1, He.eqO_ok c2, ?_⟩, ⟨oexB_ok c4, He.eqO_ok c5, of_decide_eq_true c6, of_decide_eq_true c7, c8⟩, L2.xfB_ok c9, He.eqO_ok c10, _, fd, F, He.eqO_ok c11, of_decide_eq_true c12⟩
  split at c3
  · rename_i n e
    rw [e, of_decide_eq_true c3]
  · cases c3
/-! ### the Hook: what is looked at: the module's names, what they reach, the statics -/
def asY (g : Addr → Option Obj) (n : Nat) : List Addr := cStatics :: He.asD g n
abbrev AlY : Type := He.AlD × Bool
def obsY (n : Nat) (fa : List He.Fa) (fn : List He.DefD) (ex : PySem.W.Frag → Bool) (g : Addr → Option Obj) : AlY := (He.obsD fa fn (He.frT g (asY g n)), ex (He.frT g (asY g n)))
structure SaysY (fa : List He.Fa) (fn : List He.DefD) (ex : PySem.W.Frag → Bool) (K : PySem.W.Frag) : Prop where
  d : He.SaysD fa fn K
  more : ex K = true
def hookY (n : Nat) (fa : List He.Fa) (fn : List He.DefD) (ex : PySem.W.Frag → Bool) : PySem.W.Hook where
  α := AlY
  obs s := obsY n fa fn ex s.heap.get?
  val _ := (He.valD fn, true)
  says _ h := ∃ K : PySem.W.Frag, K.In h ∧ SaysY fa fn ex K
  of _ _ e := ⟨_, He.frT_in, ⟨congrArg (fun z : AlY => z.1) e, congrArg (fun z : AlY => z.2) e⟩⟩
  keeps _ _ _ := fun ⟨K, q, c⟩ k => ⟨K, PySem.W.Frag.In.keeps q k, c⟩
theorem obsY_eq {n : Nat} {fa : List He.Fa} {fn : List He.DefD} {ex : PySem.W.Frag → Bool} {g : Addr → Option Obj} {s : Shared} (h : ∀ a, g a = s.heap.get? a) : obsY n fa fn ex g = (hookY n fa fn ex).obs s := by
  obtain rfl : g = s.heap.get? := funext h
  rfl
theorem std_of {K : PySem.W.Frag} {h : Heap} {mg : Str → Option Value} {x : Str} {st : Stmt} (X : K.In h) (G : h.Ns mainGlobals mg) (hf : (He.Fa.glo x).ok K = true)
    (hd : ∃ fd, FunD K x x (defArgs st) (defBody st) (defScope st) [] [] (He.ga K x) fd) : StdG K mg x st := by
  obtain ⟨fd, F⟩ := hd
  exact ⟨_, fd, He.glo_ok X G hf, F⟩
theorem stdk_of {K : PySem.W.Frag} {h : Heap} {mg : Str → Option Value} {x : Str} {st : Stmt} {kw : List (Str × D)} (X : K.In h) (G : h.Ns mainGlobals mg) (hf : (He.Fa.glo x).ok K = true)
    (hd : ∃ fd, FunD K x x (defArgs st) (defBody st) (defScope st) [] (kw.map fun q => (q.1, cV q.2)) (He.ga K x) fd) : StdK K mg x st kw := by
  obtain ⟨fd, F⟩ := hd
  exact ⟨_, fd, He.glo_ok X G hf, F⟩
/-- the end over a head by facts, where what raises is said by the world -/
theorem walk_ofW {lw : PySem.W.OpenLaw} {most lev : Nat} {vw : Program} {nms : List Str} {XQ : (Str → Option Value) → Heap → Prop} {YQ : World → Heap → Prop} {dr : DefRec} {CW : World → CXT} {par : Str}
    (h1 : lw.most = some most) (h2 : most ≤ sizeLine) (h3 : dr.params.defaults = []) (h4 : Room lev callerA)
    (go : ∀ (wd : World) (m : Str → Option Value) (f : Addr) (hp : Heap), YQ wd hp → hp.Ns mainGlobals m → m dr.name = some (.ref f) → ∃ (K : PySem.W.Frag) (fd : FuncData) (sp : Sp), K.In hp ∧
      (∀ (st : Shared) (v : Value), BindsTo st fd ⟨[v], []⟩ [(par, v)]) ∧ (∀ (H : Hp) (a : Addr) (ns : List Int), ns.length ≤ most → L2.Only H → SqL K H a (ns.map V.int) → sp [.ref a] H (fun v _ => v = .bl true) fun _ _ _ => False) ∧
        ∀ bs : Heap, K.In bs → bs.Ns mainGlobals m → FnOk lw.prog wd K m bs (CW wd) lev f fd [par] sp)
    (h5 : ∀ (wd : World) (H : Hp) (st : Shared) (v : Value) (st' : Shared), CW wd [] H st (fun _ _ _ => False) v st' → False) :
    PySem.W.WalkO vw nms XQ YQ lw.row.toRowW dr [] (fun f vs => PySem.call f vs) := by
  refine Att.attach_call h1 h3 fun wd sA sB m mb f o pm cd doc a vs ns G Y ho hd hcd hm hobj hints hlen hg => ?_
  obtain ⟨K, fd, sp, kIn, bnd, prm, fok⟩ := go wd m f _ Y G.T.g hm
  exact L2.law_call kIn G.T.g G.T.b G.T.builtins G.T.nolimit hg hobj hints (Nat.le_trans hlen h2) h4 fok bnd (fun H q1 q2 => prm H a ns hlen q1 q2) fun H v st' => h5 wd H sB v st'
/-- what a law's def promises -/
theorem law_sp {K : PySem.W.Frag} {cA : Nat → Addr} {m : List D → Tb → Rs D} {H : Hp} {a : Addr} {ns : List Int} (hO : L2.Only H) (hS : SqL K H a (ns.map V.int)) (h : Wp (m [.scr ns] []) (fun d _ => d = .bl true) noX) :
    spD K cA 1 m [.ref a] H (fun v _ => v = .bl true) fun _ _ _ => False := by
  obtain ⟨d, tb, e, rfl⟩ := wp_is h
  refine ⟨⟨H, [], none, fun _ => none⟩, [], [.scr ns], ?_, rfl, .cons (.scr hS) .nil, rfl, ?_⟩
  · refine ⟨fun x o q => .inl q, rfl, ?_, ?_, ?_, ?_, ?_⟩
    · intro n x o q
      cases q
    · intro n x o q
      cases q
    · intro n k x o o' _ q
      cases q
    · intro x o q
      cases q
    · intro n x o q
      cases q
  rw [e]
  intro w' H' b _ _ r
  cases r
  rfl
theorem fun_uniq {K : PySem.W.Frag} {n q : Str} {ps : Arguments} {b : List Stmt} {sc : Scope} {f : Addr} {fd fd' : FuncData} (F : FunD K n q ps b sc [] [] f fd) (F' : FunD K n q ps b sc [] [] f fd') : fd = fd' := by
  obtain ⟨oc, od, dV, kV, doc, pm, an, cdv, ct, osl, rfl, lk, _⟩ := F.ex
  obtain ⟨oc', od', dV', kV', doc', pm', an', cdv', ct', osl', rfl, lk', _⟩ := F'.ex
  rw [lk] at lk'
  injection lk' with e1
  injection e1 with e2 e3 e4 e5
  injection e4
theorem law_end {lw : PySem.W.OpenLaw} {K : PySem.W.Frag} {hp : Heap} {m : Str → Option Value} {f : Addr} {x par : Str} {st : Stmt} {wd : World} {cA : Nat → Addr} {mir : List D → Tb → Rs D} {lev most : Nat} (kIn : K.In hp) (hm : m x = some (.ref f))
    (T : StdG K m x st) (bt : BindT x st [par]) (A : ∀ bs : Heap, CalG lw.prog wd K m bs cA lev x st [par] mir) (hw : ∀ ns, Wp (mir [.scr ns] []) (fun d _ => d = .bl true) noX) :
    ∃ (K : PySem.W.Frag) (fd : FuncData) (sp : Sp), K.In hp ∧
      (∀ (s2 : Shared) (v : Value), BindsTo s2 fd ⟨[v], []⟩ [(par, v)]) ∧ (∀ (H : Hp) (a : Addr) (ns : List Int), ns.length ≤ most → L2.Only H → SqL K H a (ns.map V.int) → sp [.ref a] H (fun v _ => v = .bl true) fun _ _ _ => False) ∧
        ∀ bs : Heap, K.In bs → bs.Ns mainGlobals m → FnOk lw.prog wd K m bs (L2.CX lw.prog wd) lev f fd [par] sp := by
  obtain ⟨f0, fd, hm0, F⟩ := T.ex
  have e0 := hm.symm.trans hm0
  cases e0
  refine ⟨K, fd, spD K cA 1 mir, kIn, ?_, fun H a ns _ hO hS => law_sp hO hS (hw ns), fun bs _ _ => ?_⟩
  · have b := FunD.bindsA (ps := [par]) F bt
    exact fun s2 v => b s2 [v] rfl
  · obtain ⟨f1, fd1, k1, k2, k3, _⟩ := (A bs).ex
    have e1 := hm.symm.trans k2
    cases e1
    obtain rfl := fun_uniq F k3
    exact k1
end L2.G
set_option maxHeartbeats 4000000
/-! the text of the defs, what they do -/
namespace L2.G.La
open PySem PySem.Spec PyProof.Rows
def clsB : Stmt → List Stmt
  | .ClassDef (body := b) .. => b
  | _ => []
def top (i : Nat) : Stmt := PySem.Challenge.pw_streamrepair_k01_counts_lines_and_words.main.body.getD i (.Pass ⟨0, 0, 0, 0⟩)
abbrev s_is_integer : Stmt := top 9
abbrev s_is_text : Stmt := top 10
abbrev s_is_letter : Stmt := top 11
abbrev s_is_name : Stmt := top 12
abbrev s_check_limit : Stmt := top 13
abbrev s_digits_of : Stmt := top 14
abbrev s_parse_count : Stmt := top 15
abbrev s_split_words : Stmt := top 16
abbrev s_law_cell : Stmt := top 18
abbrev s_law_box : Stmt := top 19
abbrev s_law_take : Stmt := top 20
abbrev s_law_pick : Stmt := top 21
abbrev s_law_mixed : Stmt := top 22
abbrev s_law_same : Stmt := top 23
abbrev s_law_copy : Stmt := top 24
abbrev s_law_very : Stmt := top 25
abbrev s_law_letters : Stmt := top 26
abbrev s_law_kinds : Stmt := top 27
abbrev s_law_any : Stmt := top 28
abbrev s_law_number : Stmt := top 29
abbrev s_law_drawn : Stmt := top 30
abbrev s_law_count : Stmt := top 31
abbrev s_law_counts_right : Stmt := top 32
abbrev s_law_words : Stmt := top 33
abbrev s_law_line : Stmt := top 34
abbrev s_law_split : Stmt := top 35
abbrev s_law_lines_right : Stmt := top 36
abbrev s_law : Stmt := top 37
abbrev si_InvalidInteger : Stmt := (clsB (top 2)).getD 0 (.Pass ⟨0, 0, 0, 0⟩)
abbrev si_InvalidLine : Stmt := (clsB (top 3)).getD 0 (.Pass ⟨0, 0, 0, 0⟩)
structure Fns where
  is_integer : List D → Tb → Rs D
  is_text : List D → Tb → Rs D
  is_letter : List D → Tb → Rs D
  is_name : List D → Tb → Rs D
  check_limit : List D → Tb → Rs D
  digits_of : List D → Tb → Rs D
  parse_count : List D → Tb → Rs D
  split_words : List D → Tb → Rs D
  law_cell : List D → Tb → Rs D
  law_box : List D → Tb → Rs D
  law_take : List D → Tb → Rs D
  law_pick : List D → Tb → Rs D
  law_mixed : List D → Tb → Rs D
  law_same : List D → Tb → Rs D
  law_copy : List D → Tb → Rs D
  law_very : List D → Tb → Rs D
  law_letters : List D → Tb → Rs D
  law_kinds : List D → Tb → Rs D
  law_any : List D → Tb → Rs D
  law_number : List D → Tb → Rs D
  law_drawn : List D → Tb → Rs D
  law_count : List D → Tb → Rs D
  law_counts_right : List D → Tb → Rs D
  law_words : List D → Tb → Rs D
  law_line : List D → Tb → Rs D
  law_split : List D → Tb → Rs D
  law_lines_right : List D → Tb → Rs D
  law : List D → Tb → Rs D
def cat_0 : Nat → Option Bool := fun k => if k < 2 then some (decide (k = 0)) else none
theorem cat_0_is {k : Nat} (h : cat_0 k = some true) : k = 0 := by unfold cat_0 at h; split at h <;> simp_all
def cat_1 : Nat → Option Bool := fun k => if k < 2 then some (decide (k = 1)) else none
theorem cat_1_is {k : Nat} (h : cat_1 k = some true) : k = 1 := by unfold cat_1 at h; split at h <;> simp_all
def b_is_integer (F : Fns) : MS :=
  mRet (mAndV (mUn (isiD [.int]) (mVar 0)) (mNotV (mUn (isiD [.bool]) (mVar 0))))
def b_is_text (F : Fns) : MS :=
  mRet (mAndV (mUn (isiD [.str]) (mVar 0)) (mFn (on1 allD) (mCons (mLcN false 0 (gN 1) (mYes) (mOp (inD false) (mVar 1) (mC (.str [97, 98, 99, 100, 101, 102, 103, 104, 105, 106, 107, 108, 109, 110, 111, 112, 113, 114, 115, 116, 117, 118, 119, 120, 121, 122]))) [1]) mNil)))
def b_is_letter (F : Fns) : MS :=
  mRet (mAndV (mFn (mCall 1 F.is_text) (mCons (mVar 0) (mNil))) (mOp (eqP false) (mFn (on1 lenM) (mCons (mVar 0) mNil)) (mC (.int 1))))
def b_is_name (F : Fns) : MS :=
  mRet (mAndV (mFn (mCall 1 F.is_text) (mCons (mVar 0) (mNil))) (mChain leD leD (mC (.int 1)) (mFn (on1 lenM) (mCons (mVar 0) mNil)) (mC (.int 8))))
def b_check_limit (F : Fns) : MS :=
  mIf (mAnd (mB (mOp (isD true) (mVar 0) (mC .non))) (mNot (mB (mFn (mCall 1 F.is_integer) (mCons (mVar 0) (mNil)))))) (mRaise 0 [118, 97, 108, 117, 101] (mCons (mVar 0) (mNil))) (mSkip)
def b_digits_of (F : Fns) : MS :=
  mSeq (mSet 1 (mIfE (mB (mOp (eqP false) (mSl false (mVar 0) none (some (mC (.int 1)))) (mC (.str [45])))) (mSl false (mVar 0) (some (mC (.int 1))) none) (mVar 0))) (mSeq (mIf (mOr (mNot (mB (mChain leD leD (mC (.int 1)) (mFn (on1 lenM) (mCons (mVar 1) mNil)) (mC (.int 30))))) (mNot (mB (mFn (on1 allD) (mCons (mLcN false 1 (gN 2) (mYes) (mOp (inD false) (mVar 2) (mC (.str [48, 49, 50, 51, 52, 53, 54, 55, 56, 57]))) [2]) mNil))))) (mRet (mC .non)) (mSkip)) (mSeq (mIf (mAnd (mB (mOp (eqP false) (mOp ixD (mVar 1) (mC (.int 0))) (mC (.str [48])))) (mB (mOp (eqP true) (mVar 0) (mC (.str [48]))))) (mRet (mC .non)) (mSkip)) (mRet (mVar 1))))
def b_parse_count (F : Fns) : MS :=
  mSeq (mExpr (mFn (mCall 1 F.check_limit) (mCons (mVar 1) (mNil)))) (mSeq (mExpr (mFn (mCall 1 F.check_limit) (mCons (mVar 2) (mNil)))) (mSeq (mIf (mOr (mNot (mB (mUn (isiD [.str]) (mVar 0)))) (mB (mOp (isD false) (mFn (mCall 1 F.digits_of) (mCons (mVar 0) (mNil))) (mC .non)))) (mRet (mC .non)) (mSkip)) (mSeq (mSet 3 (mFn (on1 intX) (mCons (mVar 0) mNil))) (mSeq (mIf (mOr (mAnd (mB (mOp (isD true) (mVar 1) (mC .non))) (mB (mOp (ltD) (mVar 3) (mVar 1)))) (mAnd (mB (mOp (isD true) (mVar 2) (mC .non))) (mB (mOp (gtD) (mVar 3) (mVar 2))))) (mRet (mC .non)) (mSkip)) (mRet (mVar 3))))))
def b_split_words (F : Fns) : MS :=
  mSeq (mIf (mOr (mNot (mB (mUn (isiD [.str]) (mVar 0)))) (mB (mOp (inD false) (mC (.str [10])) (mVar 0)))) (mRaise 1 [118, 97, 108, 117, 101] (mCons (mVar 0) (mNil))) (mSkip)) (mSeq (mSet 1 (mIfE (mB (mOp (eqP true) (mVar 0) (mC (.str [])))) (mMt isStrT (splitD true) (mVar 0) (mCons (mC (.str [32])) (mNil))) (mLst true (mNil)))) (mSeq (mIf (mB (mOp (inD false) (mC (.str [])) (mVar 1))) (mRaise 1 [118, 97, 108, 117, 101] (mCons (mVar 0) (mNil))) (mSkip)) (mRet (mVar 1))))
def b_law_cell (F : Fns) : MS :=
  mRet (mIfE (mB (mOp (ltD) (mVar 1) (mFn (on1 lenM) (mCons (mVar 0) mNil)))) (mOp ixD (mVar 0) (mVar 1)) (mOp (addD false) (mOp (mulD false) (mC (.int 6010)) (mVar 1)) (mOp (modD) (mFn (on1 intX) (mCons (mFn (on1 sumD) (mCons (mSl false (mVar 0) none (some (mC (.int 1)))) mNil)) mNil)) (mC (.int 1000033)))))
def b_law_box (F : Fns) : MS :=
  mRet (mLst true (mCons (mOp (modD) (mFn (on1 intX) (mCons (mFn (on1 absD) (mCons (mFn (on1 intX) (mCons (mVar 0) mNil)) mNil)) mNil)) (mOp (powD) (mC (.int 10)) (mC (.int 30)))) (mCons (mOp (geD) (mFn (on1 absD) (mCons (mFn (on1 intX) (mCons (mVar 0) mNil)) mNil)) (mOp (powD) (mC (.int 10)) (mC (.int 18)))) (mCons (mOp (modD) (mFn (on1 intX) (mCons (mFn (on1 absD) (mCons (mFn (on1 intX) (mCons (mVar 0) mNil)) mNil)) mNil)) (mC (.int 2147483629))) (mCons (mC (.int 0)) (mNil))))))
def b_law_take (F : Fns) : MS :=
  mSeq (mIf (mAnd (mB (mOp ixD (mVar 0) (mC (.int 1)))) (mB (mOp (gtD) (mOp ixD (mVar 0) (mC (.int 0))) (mC (.int 0))))) (mSeq (mSet 2 (mOp (modD) (mFn (on1 intX) (mCons (mOp ixD (mVar 0) (mC (.int 0))) mNil)) (mVar 1))) (mSeq (mSub (mOp (fdivD) (mFn (on1 intX) (mCons (mOp ixD (mVar 0) (mC (.int 0))) mNil)) (mVar 1)) (mVar 0) (mC (.int 0))) (mRet (mVar 2)))) (mSkip)) (mSeq (mSub (mOp (addD false) (mOp ixD (mVar 0) (mC (.int 3))) (mC (.int 1))) (mVar 0) (mC (.int 3))) (mSeq (mSet 3 (mOp (modD) (mFn (on1 intX) (mCons (mOp (powD) (mOp (addD false) (mOp (addD false) (mOp ixD (mVar 0) (mC (.int 2))) (mOp (mulD false) (mC (.int 15485866)) (mOp ixD (mVar 0) (mC (.int 3))))) (mC (.int 179424676))) (mC (.int 5))) mNil)) (mC (.int 2147483647)))) (mRet (mOp (modD) (mOp (fdivD) (mFn (on1 intX) (mCons (mOp (modD) (mFn (on1 intX) (mCons (mOp (powD) (mOp (addD false) (mOp (mulD false) (mVar 3) (mC (.int 48271))) (mOp (mulD false) (mC (.int 104732)) (mOp ixD (mVar 0) (mC (.int 3))))) (mC (.int 3))) mNil)) (mC (.int 2147483587))) mNil)) (mC (.int 64))) (mVar 1)))))
def b_law_pick (F : Fns) : MS :=
  mRet (mOp ixD (mVar 1) (mFn (mCall 2 F.law_take) (mCons (mVar 0) (mCons (mFn (on1 lenM) (mCons (mVar 1) mNil)) (mNil)))))
def b_law_mixed (F : Fns) : MS :=
  mSeq (mPar 2 3 (mCons (mFn (on1 (listD true)) (mCons (mVar 1) mNil)) (mCons (mLst true (mNil)) mNil))) (mSeq (mFor (mRng1 (mCons (mFn (on1 lenM) (mCons (mVar 1) mNil)) (mNil))) (gN 4) (mExpr (mMt isLstT appendD (mVar 3) (mCons (mMt isLstT popAtD (mVar 2) (mCons (mFn (mCall 2 F.law_take) (mCons (mVar 0) (mCons (mFn (on1 lenM) (mCons (mVar 2) mNil)) (mNil)))) (mNil))) (mNil)))) (mSkip)) (mRet (mFz (mVar 3))))
def b_law_same (F : Fns) : MS :=
  mSeq (mIf (mOr (mB (mOp (isD false) (mVar 1) (mC .non))) (mB (mUn (isiD [.bool]) (mVar 1)))) (mRet (mIfE (mB (mOp (isD false) (mVar 1) (mC .non))) (mOp (isD false) (mVar 0) (mC .non)) (mAndV (mUn (isiD [.bool]) (mVar 0)) (mOp (eqP false) (mOp (isD false) (mVar 0) (mC (.bl true))) (mOp (isD false) (mVar 1) (mC (.bl true))))))) (mSkip)) (mSeq (mIf (mB (mUn (isiD [.int]) (mVar 1))) (mRet (mAndV (mUn (isiD [.int]) (mVar 0)) (mAndV (mNotV (mUn (isiD [.bool]) (mVar 0))) (mOp (eqP false) (mOp (subD) (mFn (on1 intX) (mCons (mVar 0) mNil)) (mVar 1)) (mC (.int 0)))))) (mSkip)) (mSeq (mIf (mB (mUn (isiD [.str]) (mVar 1))) (mRet (mAndV (mUn (isiD [.str]) (mVar 0)) (mAndV (mOp (eqP false) (mFn (on1 lenM) (mCons (mVar 0) mNil)) (mFn (on1 lenM) (mCons (mVar 1) mNil))) (mOp (eqP false) (mLc false (mRng1 (mCons (mFn (on1 lenM) (mCons (mVar 1) mNil)) (mNil))) (gN 2) (mB (mOp (eqP true) (mSl false (mVar 0) (some (mVar 2)) (some (mOp (addD false) (mVar 2) (mC (.int 1))))) (mOp ixD (mVar 1) (mVar 2)))) (mVar 2) [2]) (mLst false (mNil)))))) (mSkip)) (mSeq (mIf (mB (mUn (isiD [.dict]) (mVar 1))) (mSeq (mIf (mOr (mNot (mB (mUn (isiD [.dict]) (mVar 0)))) (mB (mOp (eqP true) (mFn (on1 lenM) (mCons (mVar 0) mNil)) (mFn (on1 lenM) (mCons (mVar 1) mNil))))) (mRet (mC (.bl false))) (mSkip)) (mRet (mOp (eqP false) (mLcN false 1 (gN 3) (mOr (mB (mOp (inD true) (mVar 3) (mVar 0))) (mNot (mB (mFn (mCall 2 F.law_same) (mCons (mOp ixD (mVar 0) (mVar 3)) (mCons (mOp ixD (mVar 1) (mVar 3)) (mNil))))))) (mVar 3) [3]) (mLst false (mNil))))) (mSkip)) (mSeq (mIf (mOr (mNot (mB (mUn (isiD [.list, .tuple]) (mVar 1)))) (mOr (mNot (mB (mUn (isiD [.list, .tuple]) (mVar 0)))) (mB (mOp (eqP true) (mUn (isiD [.list]) (mVar 0)) (mUn (isiD [.list]) (mVar 1)))))) (mRet (mC (.bl false))) (mSkip)) (mRet (mAndV (mOp (eqP false) (mFn (on1 lenM) (mCons (mVar 0) mNil)) (mFn (on1 lenM) (mCons (mVar 1) mNil))) (mOp (eqP false) (mLc false (mRng1 (mCons (mFn (on1 lenM) (mCons (mVar 1) mNil)) (mNil))) (gN 2) (mNot (mB (mFn (mCall 2 F.law_same) (mCons (mOp ixD (mVar 0) (mVar 2)) (mCons (mOp ixD (mVar 1) (mVar 2)) (mNil)))))) (mVar 2) [2]) (mLst false (mNil)))))))))
def b_law_copy (F : Fns) : MS :=
  mSeq (mIf (mB (mUn (isiD [.list]) (mVar 0))) (mRet (mLcN true 0 (gN 1) (mYes) (mFn (mCall 1 F.law_copy) (mCons (mVar 1) (mNil))) [1])) (mSkip)) (mSeq (mIf (mB (mUn (isiD [.tuple]) (mVar 0))) (mRet (mFn (on1 tupleD) (mCons (mLcN false 0 (gN 1) (mYes) (mFn (mCall 1 F.law_copy) (mCons (mVar 1) (mNil))) [1]) mNil))) (mSkip)) (mRet (mIfE (mB (mUn (isiD [.dict]) (mVar 0))) (mFn (on1 (dictD true)) (mCons (mLcN false 0 (gN 2) (mYes) (mTup (mCons (mVar 2) (mCons (mFn (mCall 1 F.law_copy) (mCons (mOp ixD (mVar 0) (mVar 2)) (mNil))) (mNil)))) [2]) mNil)) (mVar 0))))
def b_law_very (F : Fns) : MS :=
  mSeq (mIf (mNot (mB (mFn (mCall 2 F.law_same) (mCons (mVar 0) (mCons (mVar 1) (mNil)))))) (mRet (mC (.bl false))) (mSkip)) (mSeq (mIf (mB (mUn (isiD [.list]) (mVar 1))) (mExpr (mMt isLstT appendD (mVar 1) (mCons (mC (.str [109, 111, 114, 101])) (mNil)))) (mSkip)) (mSeq (mIf (mB (mUn (isiD [.dict]) (mVar 1))) (mSub (mC (.int 1)) (mVar 1) (mC (.str [109, 111, 114, 101]))) (mSkip)) (mRet (mFn (mCall 2 F.law_same) (mCons (mVar 0) (mCons (mVar 1) (mNil)))))))
def b_law_letters (F : Fns) : MS :=
  mRet (mC (.str [97, 98, 99, 100, 101, 102, 103, 104, 105, 106, 107, 108, 109, 110, 111, 112, 113, 114, 115, 116, 117, 118, 119, 120, 121, 122]))
def b_law_kinds (F : Fns) : MS :=
  mSeq (mSet 1 (mAndV (mUn (isiD [.str]) (mVar 0)) (mOp (eqP false) (mLcN false 0 (gN 2) (mB (mOp (inD true) (mVar 2) (mKw 0 0 [] 0 F.law_letters mNil (mNil)))) (mVar 2) [2]) (mLst false (mNil))))) (mRet (mLst false (mCons (mAndV (mUn (isiD [.int]) (mVar 0)) (mNotV (mUn (isiD [.bool]) (mVar 0)))) (mCons (mAndV (mVar 1) (mOp (eqP false) (mFn (on1 lenM) (mCons (mVar 0) mNil)) (mC (.int 1)))) (mCons (mVar 1) (mCons (mAndV (mVar 1) (mChain ltD ltD (mC (.int 0)) (mFn (on1 lenM) (mCons (mVar 0) mNil)) (mC (.int 9)))) (mNil)))))))
def b_law_any (F : Fns) : MS :=
  mSeq (mSet 1 (mMt isStrT joinD (mC (.str [])) (mCons (mLc false (mRng1 (mCons (mFn (mCall 2 F.law_pick) (mCons (mVar 0) (mCons (mLst false (mCons (mC (.int 0)) (mCons (mC (.int 1)) (mCons (mC (.int 2)) (mCons (mC (.int 7)) (mCons (mC (.int 8)) (mCons (mC (.int 9)) (mCons (mC (.int 10)) (mCons (mC (.int 40)) (mNil)))))))))) (mNil)))) (mNil))) (gN 5) (mYes) (mFn (mCall 2 F.law_pick) (mCons (mVar 0) (mCons (mC (.str [97, 98, 121, 122])) (mNil)))) [5]) (mNil)))) (mSeq (mSet 2 (mFn (mCall 2 F.law_pick) (mCons (mVar 0) (mCons (mLst false (mCons (mC (.str [65])) (mCons (mC (.str [48])) (mCons (mC (.str [32])) (mCons (mC (.str [95])) (mCons (mC (.str [45])) (mCons (mC (.str [10])) (mCons (mC (.str [96])) (mCons (mC (.str [123])) (mCons (mC (.str [126])) (mCons (mC (.str [90])) (mCons (mC (.str [46])) (mNil))))))))))))) (mNil))))) (mSeq (mSet 3 (mFn (mCall 2 F.law_take) (mCons (mVar 0) (mCons (mOp (addD false) (mFn (on1 lenM) (mCons (mVar 1) mNil)) (mC (.int 1))) (mNil))))) (mSeq (mSet 4 (mLst false (mCons (mVar 1) (mCons (mVar 1) (mCons (mOp (addD false) (mOp (addD false) (mSl false (mVar 1) none (some (mVar 3))) (mVar 2)) (mSl false (mVar 1) (some (mVar 3)) none)) (mCons (mVar 2) (mCons (mC .non) (mCons (mC (.bl true)) (mCons (mC (.bl false)) (mCons (mC (.int 0)) (mCons (mUn negD (mC (.int 7))) (mCons (mOp (subD) (mOp (powD) (mC (.int 10)) (mC (.int 30))) (mC (.int 1))) (mCons (mOp (subD) (mC (.int 1)) (mOp (powD) (mC (.int 10)) (mC (.int 30)))) (mCons (mLst false (mNil)) (mCons (mLst false (mCons (mC (.str [97])) (mNil))) (mCons (mTup (mCons (mC (.str [97])) (mNil))) (mCons (mDic0 false false) (mCons (mDisp false [.s [97]] (mCons (mC (.str [98])) (mNil))) (mCons (mLst false (mCons (mVar 1) (mNil))) (mNil)))))))))))))))))))) (mRet (mFn (mCall 2 F.law_pick) (mCons (mVar 0) (mCons (mVar 4) (mNil))))))))
def b_law_number (F : Fns) : MS :=
  mSeq (mSet 1 (mAndV (mUn (isiD [.str]) (mVar 0)) (mOp (eqP false) (mSl false (mVar 0) none (some (mC (.int 1)))) (mC (.str [45]))))) (mSeq (mSet 2 (mIfE (mB (mUn (isiD [.str]) (mVar 0))) (mSl false (mVar 0) (some (mFn (on1 intX) (mCons (mVar 1) mNil))) none) (mC (.str [])))) (mSeq (mIf (mOr (mB (mOp (eqP false) (mVar 2) (mC (.str [])))) (mOr (mB (mOp (gtD) (mFn (on1 lenM) (mCons (mVar 2) mNil)) (mC (.int 30)))) (mB (mOp (eqP true) (mLcN false 2 (gN 4) (mB (mOp (inD true) (mVar 4) (mC (.str [48, 49, 50, 51, 52, 53, 54, 55, 56, 57])))) (mVar 4) [4]) (mLst false (mNil)))))) (mRet (mC .non)) (mSkip)) (mSeq (mIf (mAnd (mB (mOp (eqP false) (mOp ixD (mVar 2) (mC (.int 0))) (mC (.str [48])))) (mOr (mB (mOp (gtD) (mFn (on1 lenM) (mCons (mVar 2) mNil)) (mC (.int 1)))) (mB (mVar 1)))) (mRet (mC .non)) (mSkip)) (mSeq (mSet 3 (mC (.int 0))) (mSeq (mFor (mItV (mVar 2)) (gN 4) (mSet 3 (mOp (addD false) (mOp (mulD false) (mC (.int 10)) (mVar 3)) (mMt isStrT indexD (mC (.str [48, 49, 50, 51, 52, 53, 54, 55, 56, 57])) (mCons (mVar 4) mNil)))) (mSkip)) (mRet (mIfE (mB (mVar 1)) (mOp (subD) (mC (.int 0)) (mVar 3)) (mVar 3))))))))
def b_law_drawn (F : Fns) : MS :=
  mSeq (mSet 1 (mFn (mCall 2 F.law_pick) (mCons (mVar 0) (mCons (mLst false (mCons (mC (.int 1)) (mCons (mC (.int 1)) (mCons (mC (.int 2)) (mCons (mC (.int 3)) (mCons (mC (.int 29)) (mCons (mC (.int 30)) (mCons (mC (.int 31)) (mNil))))))))) (mNil))))) (mSeq (mSet 2 (mMt isStrT joinD (mC (.str [])) (mCons (mLc false (mRng1 (mCons (mVar 1) (mNil))) (gN 6) (mYes) (mFn (mCall 2 F.law_pick) (mCons (mVar 0) (mCons (mC (.str [48, 49, 50, 51, 52, 53, 54, 55, 56, 57])) (mNil)))) [6]) (mNil)))) (mSeq (mSet 2 (mIfE (mB (mOp (gtD) (mFn (mCall 2 F.law_take) (mCons (mVar 0) (mCons (mC (.int 3)) (mNil)))) (mC (.int 0)))) (mVar 2) (mOp (addD false) (mFn (mCall 2 F.law_pick) (mCons (mVar 0) (mCons (mC (.str [49, 50, 51, 52, 53, 54, 55, 56, 57])) (mNil)))) (mSl false (mVar 2) (some (mC (.int 1))) none)))) (mSeq (mSet 3 (mFn (mCall 2 F.law_take) (mCons (mVar 0) (mCons (mC (.int 12)) (mNil))))) (mSeq (mSet 4 (mIfE (mB (mOp (ltD) (mVar 3) (mC (.int 10)))) (mOp ixD (mLst false (mCons (mC (.str [])) (mCons (mC (.str [])) (mCons (mC (.str [])) (mCons (mC (.str [45])) (mCons (mC (.str [45])) (mCons (mC (.str [43])) (mCons (mC (.str [45, 45])) (mCons (mC (.str [32])) (mCons (mC (.str [48])) (mCons (mC (.str [45, 48])) (mNil)))))))))))) (mVar 3)) (mC (.str [])))) (mSeq (mSet 5 (mOp (addD false) (mVar 4) (mVar 2))) (mSeq (mIf (mB (mOp (eqP false) (mVar 3) (mC (.int 10)))) (mRet (mFn (mCall 2 F.law_pick) (mCons (mVar 0) (mCons (mLst false (mCons (mC (.str [])) (mCons (mC (.str [45])) (mCons (mC (.str [48])) (mCons (mC (.str [45, 48])) (mCons (mC (.str [45, 48])) (mCons (mC (.str [45, 48])) (mCons (mC (.str [48, 48])) (mCons (mC (.str [49, 32])) (mCons (mC (.str [49, 10])) (mCons (mC (.str [49, 95, 48])) (mCons (mC (.str [49, 46, 48])) (mCons (mC (.str [48, 120, 49])) (mCons (mC (.str [49, 101, 51])) (mCons (mOp (mulD false) (mC (.str [57])) (mC (.int 30))) (mCons (mOp (mulD false) (mC (.str [57])) (mC (.int 31))) (mCons (mOp (addD false) (mC (.str [45])) (mOp (mulD false) (mC (.str [57])) (mC (.int 30)))) (mCons (mOp (addD false) (mC (.str [45])) (mOp (mulD false) (mC (.str [57])) (mC (.int 31)))) (mCons (mOp (addD false) (mC (.str [49])) (mOp (mulD false) (mC (.str [48])) (mC (.int 29)))) (mCons (mOp (addD false) (mC (.str [49])) (mOp (mulD false) (mC (.str [48])) (mC (.int 30)))) (mNil))))))))))))))))))))) (mNil))))) (mSkip)) (mRet (mIfE (mB (mOp (eqP false) (mVar 3) (mC (.int 11)))) (mFn (mCall 2 F.law_pick) (mCons (mVar 0) (mCons (mLst false (mCons (mC .non) (mCons (mC (.int 7)) (mCons (mC (.bl true)) (mCons (mLst false (mCons (mC (.str [49])) (mNil))) (mCons (mTup (mCons (mC (.str [49])) (mNil))) (mCons (mDic0 false false) (mCons (mOp (addD false) (mVar 2) (mC (.str [97]))) (mCons (mOp (addD false) (mVar 2) (mC (.str [32]))) (mNil)))))))))) (mNil)))) (mVar 5)))))))))
def b_law_count (F : Fns) : MS :=
  mTry (mSeq (mIf (mB (mOp (eqE false) (mVar 1) (mDic0 false false))) (mRet (mLst false (mCons (mC (.str [116, 111, 108, 100])) (mCons (mIfE (mB (mVar 2)) (mKwD 0 1 [2, 0, 1] [.int 0, .non] 3 F.parse_count mNil (mCons (mVar 0) (mNil))) (mKwD 1 0 [0, 1, 2] [.int 0, .non] 3 F.parse_count (mCons (mVar 0) (mNil)) (mNil))) (mNil))))) (mSkip)) (mSeq (mIf (mB (mOp (inD true) (mC (.str [109, 97, 120, 105, 109, 117, 109])) (mVar 1))) (mRet (mLst false (mCons (mC (.str [116, 111, 108, 100])) (mCons (mIfE (mB (mVar 2)) (mKwD 0 2 [1, 2, 0] [.non] 3 F.parse_count mNil (mCons (mVar 0) (mCons (mOp ixD (mVar 1) (mC (.str [109, 105, 110, 105, 109, 117, 109]))) (mNil)))) (mKwD 1 1 [0, 2, 1] [.non] 3 F.parse_count (mCons (mVar 0) (mNil)) (mCons (mOp ixD (mVar 1) (mC (.str [109, 105, 110, 105, 109, 117, 109]))) (mNil)))) (mNil))))) (mSkip)) (mSeq (mIf (mB (mOp (inD true) (mC (.str [109, 105, 110, 105, 109, 117, 109])) (mVar 1))) (mRet (mLst false (mCons (mC (.str [116, 111, 108, 100])) (mCons (mIfE (mB (mVar 2)) (mKwD 0 2 [1, 0, 2] [.int 0] 3 F.parse_count mNil (mCons (mVar 0) (mCons (mOp ixD (mVar 1) (mC (.str [109, 97, 120, 105, 109, 117, 109]))) (mNil)))) (mKwD 1 1 [0, 1, 2] [.int 0] 3 F.parse_count (mCons (mVar 0) (mNil)) (mCons (mOp ixD (mVar 1) (mC (.str [109, 97, 120, 105, 109, 117, 109]))) (mNil)))) (mNil))))) (mSkip)) (mRet (mLst false (mCons (mC (.str [116, 111, 108, 100])) (mCons (mIfE (mB (mVar 2)) (mKwD 0 3 [2, 1, 0] [] 3 F.parse_count mNil (mCons (mOp ixD (mVar 1) (mC (.str [109, 97, 120, 105, 109, 117, 109]))) (mCons (mOp ixD (mVar 1) (mC (.str [109, 105, 110, 105, 109, 117, 109]))) (mCons (mVar 0) (mNil))))) (mKwD 1 2 [0, 1, 2] [] 3 F.parse_count (mCons (mVar 0) (mNil)) (mCons (mOp ixD (mVar 1) (mC (.str [109, 105, 110, 105, 109, 117, 109]))) (mCons (mOp ixD (mVar 1) (mC (.str [109, 97, 120, 105, 109, 117, 109]))) (mNil))))) (mNil)))))))) [⟨cat_0, 3, fun _ => mRet (mLst false (mCons (mC (.str [105, 110, 116, 101, 103, 101, 114])) (mCons (mXf 0 [118, 97, 108, 117, 101] (mVar 3)) (mNil))))⟩]
def b_law_counts_right (F : Fns) : MS :=
  mSeq (mSet 2 (mFn (mCall 1 F.law_drawn) (mCons (mVar 0) (mNil)))) (mSeq (mSet 3 (mFn (mCall 1 F.law_number) (mCons (mVar 2) (mNil)))) (mSeq (mSet 4 (mIfE (mB (mOp (isD true) (mVar 3) (mC .non))) (mLc false (mItV (mTup (mCons (mUn negD (mC (.int 1))) (mCons (mC (.int 0)) (mCons (mC (.int 0)) (mCons (mC (.int 1)) (mNil))))))) (gN 15) (mB (mOp (ltD) (mFn (on1 absD) (mCons (mOp (addD false) (mVar 3) (mVar 15)) mNil)) (mOp (powD) (mC (.int 10)) (mC (.int 30))))) (mOp (addD false) (mVar 3) (mVar 15)) [15]) (mLst false (mCons (mC (.int 0)) (mNil))))) (mSeq (mSet 5 (mOp (addD false) (mVar 4) (mLst false (mCons (mC .non) (mCons (mC (.int 0)) (mCons (mC (.int 1)) (mCons (mUn negD (mC (.int 1))) (mCons (mOp (subD) (mOp (powD) (mC (.int 10)) (mC (.int 30))) (mC (.int 1))) (mCons (mOp (subD) (mC (.int 1)) (mOp (powD) (mC (.int 10)) (mC (.int 30)))) (mNil)))))))))) (mSeq (mSet 6 (mDic0 true false)) (mSeq (mIf (mB (mOp (gtD) (mFn (mCall 2 F.law_take) (mCons (mVar 0) (mCons (mC (.int 3)) (mNil)))) (mC (.int 0)))) (mSub (mFn (mCall 2 F.law_pick) (mCons (mVar 0) (mCons (mVar 5) (mNil)))) (mVar 6) (mC (.str [109, 105, 110, 105, 109, 117, 109]))) (mSkip)) (mSeq (mIf (mB (mOp (gtD) (mFn (mCall 2 F.law_take) (mCons (mVar 0) (mCons (mC (.int 3)) (mNil)))) (mC (.int 0)))) (mSub (mFn (mCall 2 F.law_pick) (mCons (mVar 0) (mCons (mVar 5) (mNil)))) (mVar 6) (mC (.str [109, 97, 120, 105, 109, 117, 109]))) (mSkip)) (mSeq (mPar 7 8 (mCons (mGet2 (mVar 6) (mC (.str [109, 105, 110, 105, 109, 117, 109])) (mC (.int 0))) (mCons (mGet1 (mVar 6) (mC (.str [109, 97, 120, 105, 109, 117, 109]))) mNil))) (mSeq (mSet 9 (mIfE (mOr (mB (mOp (isD false) (mVar 3) (mC .non))) (mOr (mAnd (mB (mOp (isD true) (mVar 7) (mC .non))) (mB (mOp (ltD) (mVar 3) (mVar 7)))) (mAnd (mB (mOp (isD true) (mVar 8) (mC .non))) (mB (mOp (gtD) (mVar 3) (mVar 8)))))) (mC .non) (mVar 3))) (mSeq (mIf (mNot (mB (mFn (mCall 2 F.law_same) (mCons (mLst false (mCons (mFn (mCall 3 F.law_count) (mCons (mVar 2) (mCons (mVar 6) (mCons (mVar 1) (mNil))))) (mCons (mFn (mCall 3 F.law_count) (mCons (mVar 2) (mCons (mVar 6) (mCons (mNotV (mVar 1)) (mNil))))) (mNil)))) (mCons (mOp (mulD false) (mLst false (mCons (mLst false (mCons (mC (.str [116, 111, 108, 100])) (mCons (mVar 9) (mNil)))) (mNil))) (mC (.int 2))) (mNil)))))) (mRet (mC (.bl false))) (mSkip)) (mSeq (mSet 10 (mFn (mCall 1 F.law_copy) (mCons (mFn (mCall 2 F.law_pick) (mCons (mVar 0) (mCons (mLst false (mCons (mC (.bl true)) (mCons (mC (.str [48])) (mCons (mLst false (mNil)) (mCons (mLst false (mCons (mC (.int 1)) (mNil))) (mCons (mDic0 false false) (mCons (mTup (mCons (mC (.int 1)) (mNil))) (mCons (mC (.bl false)) (mCons (mC (.str [120])) (mNil)))))))))) (mNil)))) (mNil)))) (mSeq (mSet 11 (mFn (mCall 1 F.law_copy) (mCons (mFn (mCall 2 F.law_pick) (mCons (mVar 0) (mCons (mLst false (mCons (mC (.str [49])) (mCons (mLst false (mCons (mC (.int 2)) (mNil))) (mCons (mDisp false [.s [97]] (mCons (mC (.int 1)) (mNil))) (mCons (mC (.bl true)) (mCons (mTup (mCons (mC (.int 2)) (mCons (mLst false (mCons (mC (.int 3)) (mNil))) (mNil)))) (mNil))))))) (mNil)))) (mNil)))) (mSeq (mFor (mItV (mLst false (mCons (mTup (mCons (mDisp false [.s [109, 105, 110, 105, 109, 117, 109], .s [109, 97, 120, 105, 109, 117, 109]] (mCons (mVar 10) (mCons (mVar 11) (mNil)))) (mCons (mVar 10) (mNil)))) (mCons (mTup (mCons (mDisp false [.s [109, 105, 110, 105, 109, 117, 109]] (mCons (mVar 10) (mNil))) (mCons (mVar 10) (mNil)))) (mCons (mTup (mCons (mDisp false [.s [109, 105, 110, 105, 109, 117, 109], .s [109, 97, 120, 105, 109, 117, 109]] (mCons (mFn (mCall 2 F.law_pick) (mCons (mVar 0) (mCons (mLst false (mCons (mC .non) (mCons (mC (.int 5)) (mNil)))) (mNil)))) (mCons (mVar 11) (mNil)))) (mCons (mVar 11) (mNil)))) (mCons (mTup (mCons (mDisp false [.s [109, 97, 120, 105, 109, 117, 109]] (mCons (mVar 11) (mNil))) (mCons (mVar 11) (mNil)))) (mNil))))))) (gT 2 (gC (gN 12) (gC (gN 13) (gZ)))) (mSeq (mSet 14 (mFn (mCall 3 F.law_count) (mCons (mVar 2) (mCons (mVar 12) (mCons (mVar 1) (mNil)))))) (mSeq (mIf (mOr (mB (mOp (eqP true) (mOp ixD (mVar 14) (mC (.int 0))) (mC (.str [105, 110, 116, 101, 103, 101, 114])))) (mNot (mB (mFn (mCall 2 F.law_very) (mCons (mOp ixD (mVar 14) (mC (.int 1))) (mCons (mVar 13) (mNil))))))) (mRet (mC (.bl false))) (mSkip)) (mSet 1 (mNotV (mVar 1))))) (mSkip)) (mRet (mC (.bl true)))))))))))))))
def b_law_words (F : Fns) : MS :=
  mSeq (mIf (mNot (mB (mUn (isiD [.str]) (mVar 0)))) (mRet (mC .non)) (mSkip)) (mSeq (mPar3 1 2 3 (mCons (mLst true (mNil)) (mCons (mC (.str [])) (mCons (mC (.bl true)) mNil)))) (mSeq (mFor (mItV (mVar 0)) (gN 4) (mSeq (mIf (mOr (mB (mOp (eqP false) (mVar 4) (mC (.str [10])))) (mAnd (mB (mOp (eqP false) (mVar 4) (mC (.str [32])))) (mB (mVar 3)))) (mRet (mC .non)) (mSkip)) (mSeq (mIf (mB (mOp (eqP false) (mVar 4) (mC (.str [32])))) (mExpr (mMt isLstT appendD (mVar 1) (mCons (mVar 2) (mNil)))) (mSkip)) (mPar 2 3 (mCons (mIfE (mB (mOp (eqP false) (mVar 4) (mC (.str [32])))) (mC (.str [])) (mOp (addD false) (mVar 2) (mVar 4))) (mCons (mOp (eqP false) (mVar 4) (mC (.str [32]))) mNil))))) (mSkip)) (mSeq (mIf (mB (mOp (eqP false) (mVar 0) (mC (.str [])))) (mRet (mLst false (mNil))) (mSkip)) (mRet (mIfE (mB (mVar 3)) (mC .non) (mOp (addD false) (mVar 1) (mLst false (mCons (mVar 2) (mNil)))))))))
def b_law_line (F : Fns) : MS :=
  mSeq (mSet 1 (mLc false (mRng1 (mCons (mFn (mCall 2 F.law_take) (mCons (mVar 0) (mCons (mC (.int 5)) (mNil)))) (mNil))) (gN 5) (mYes) (mMt isStrT joinD (mC (.str [])) (mCons (mLc false (mRng1 (mCons (mOp (addD false) (mC (.int 1)) (mFn (mCall 2 F.law_take) (mCons (mVar 0) (mCons (mC (.int 4)) (mNil))))) (mNil))) (gN 6) (mYes) (mFn (mCall 2 F.law_pick) (mCons (mVar 0) (mCons (mC (.str [97, 98, 40, 124, 42, 41, 60, 62, 63, 48, 90, 126, 45])) (mNil)))) [6]) (mNil))) [5])) (mSeq (mSet 2 (mMt isStrT joinD (mC (.str [32])) (mCons (mVar 1) (mNil)))) (mSeq (mPar 3 4 (mCons (mFn (mCall 2 F.law_take) (mCons (mVar 0) (mCons (mC (.int 8)) (mNil)))) (mCons (mFn (mCall 2 F.law_take) (mCons (mVar 0) (mCons (mOp (addD false) (mFn (on1 lenM) (mCons (mVar 2) mNil)) (mC (.int 1))) (mNil)))) mNil))) (mSeq (mIf (mB (mOp (eqP false) (mVar 3) (mC (.int 0)))) (mRet (mOp (addD false) (mOp (addD false) (mSl false (mVar 2) none (some (mVar 4))) (mC (.str [32]))) (mSl false (mVar 2) (some (mVar 4)) none))) (mSkip)) (mSeq (mIf (mB (mOp (eqP false) (mVar 3) (mC (.int 1)))) (mRet (mOp (addD false) (mOp (addD false) (mSl false (mVar 2) none (some (mVar 4))) (mC (.str [10]))) (mSl false (mVar 2) (some (mVar 4)) none))) (mSkip)) (mSeq (mIf (mB (mOp (eqP false) (mVar 3) (mC (.int 2)))) (mRet (mFn (mCall 2 F.law_pick) (mCons (mVar 0) (mCons (mLst false (mCons (mOp (addD false) (mC (.str [32])) (mVar 2)) (mCons (mOp (addD false) (mVar 2) (mC (.str [32]))) (mCons (mC (.str [32, 32])) (mCons (mC (.str [32])) (mCons (mC (.str [10])) (mCons (mOp (addD false) (mVar 2) (mC (.str [10]))) (mNil)))))))) (mNil))))) (mSkip)) (mRet (mIfE (mB (mOp (eqP false) (mVar 3) (mC (.int 3)))) (mFn (mCall 1 F.law_copy) (mCons (mFn (mCall 2 F.law_pick) (mCons (mVar 0) (mCons (mLst false (mCons (mC .non) (mCons (mC (.int 7)) (mCons (mC (.bl true)) (mCons (mLst false (mCons (mC (.str [97, 32, 98])) (mNil))) (mCons (mTup (mCons (mC (.str [97])) (mNil))) (mCons (mDic0 false false) (mCons (mLst false (mNil)) (mCons (mOp (powD) (mC (.int 10)) (mC (.int 29))) (mNil)))))))))) (mNil)))) (mNil))) (mVar 2))))))))
def b_law_split (F : Fns) : MS :=
  mTry (mRet (mLst false (mCons (mC (.str [116, 111, 108, 100])) (mCons (mIfE (mB (mVar 1)) (mKw 0 1 [0] 1 F.split_words mNil (mCons (mVar 0) (mNil))) (mFn (mCall 1 F.split_words) (mCons (mVar 0) (mNil)))) (mNil))))) [⟨cat_1, 2, fun _ => mRet (mLst false (mCons (mC (.str [108, 105, 110, 101])) (mCons (mXf 1 [118, 97, 108, 117, 101] (mVar 2)) (mNil))))⟩]
def b_law_lines_right (F : Fns) : MS :=
  mSeq (mSet 2 (mFn (mCall 1 F.law_line) (mCons (mVar 0) (mNil)))) (mSeq (mSet 3 (mFn (mCall 1 F.law_words) (mCons (mVar 2) (mNil)))) (mSeq (mSet 4 (mFn (mCall 2 F.law_split) (mCons (mVar 2) (mCons (mVar 1) (mNil))))) (mSeq (mIf (mB (mOp (isD false) (mVar 3) (mC .non))) (mRet (mAndV (mOp (eqP false) (mOp ixD (mVar 4) (mC (.int 0))) (mC (.str [108, 105, 110, 101]))) (mFn (mCall 2 F.law_very) (mCons (mOp ixD (mVar 4) (mC (.int 1))) (mCons (mVar 2) (mNil)))))) (mSkip)) (mSeq (mIf (mOr (mNot (mB (mFn (mCall 2 F.law_same) (mCons (mVar 4) (mCons (mLst false (mCons (mC (.str [116, 111, 108, 100])) (mCons (mVar 3) (mNil)))) (mNil)))))) (mB (mOp (eqP true) (mMt isStrT joinD (mC (.str [32])) (mCons (mOp ixD (mVar 4) (mC (.int 1))) (mNil))) (mVar 2)))) (mRet (mC (.bl false))) (mSkip)) (mSeq (mExpr (mMt isLstT appendD (mOp ixD (mVar 4) (mC (.int 1))) (mCons (mC (.str [109, 111, 114, 101])) (mNil)))) (mRet (mFn (mCall 2 F.law_same) (mCons (mFn (mCall 2 F.law_split) (mCons (mVar 2) (mCons (mNotV (mVar 1)) (mNil)))) (mCons (mLst false (mCons (mC (.str [116, 111, 108, 100])) (mCons (mVar 3) (mNil)))) (mNil))))))))))
def b_law (F : Fns) : MS :=
  mSeq (mFor (mRng1 (mCons (mFn (on2 max2) (mCons (mC (.int 2)) (mCons (mFn (on2 min2) (mCons (mC (.int 4)) (mCons (mFn (on1 lenM) (mCons (mVar 0) mNil)) mNil))) mNil))) (mNil))) (gN 1) (mSeq (mSet 2 (mFn (mCall 1 F.law_box) (mCons (mFn (mCall 2 F.law_cell) (mCons (mVar 0) (mCons (mVar 1) (mNil)))) (mNil)))) (mSeq (mSet 3 (mOp (eqP false) (mFn (mCall 2 F.law_take) (mCons (mVar 2) (mCons (mC (.int 2)) (mNil)))) (mC (.int 0)))) (mFor (mRng1 (mCons (mC (.int 6)) (mNil))) (gN 4) (mSeq (mSet 5 (mFn (mCall 1 F.law_any) (mCons (mVar 2) (mNil)))) (mSeq (mSet 6 (mLst false (mCons (mFn (mCall 1 F.is_integer) (mCons (mVar 5) (mNil))) (mCons (mKw 0 1 [0] 1 F.is_letter mNil (mCons (mVar 5) (mNil))) (mCons (mFn (mCall 1 F.is_text) (mCons (mVar 5) (mNil))) (mCons (mKw 0 1 [0] 1 F.is_name mNil (mCons (mVar 5) (mNil))) (mNil))))))) (mSeq (mIf (mB (mVar 3)) (mSet 6 (mLst false (mCons (mKw 0 1 [0] 1 F.is_integer mNil (mCons (mVar 5) (mNil))) (mCons (mFn (mCall 1 F.is_letter) (mCons (mVar 5) (mNil))) (mCons (mKw 0 1 [0] 1 F.is_text mNil (mCons (mVar 5) (mNil))) (mCons (mFn (mCall 1 F.is_name) (mCons (mVar 5) (mNil))) (mNil))))))) (mSkip)) (mSeq (mIf (mOr (mNot (mB (mFn (mCall 2 F.law_same) (mCons (mVar 6) (mCons (mFn (mCall 1 F.law_kinds) (mCons (mVar 5) (mNil))) (mNil)))))) (mOr (mNot (mB (mFn (mCall 2 F.law_counts_right) (mCons (mVar 2) (mCons (mVar 3) (mNil)))))) (mNot (mB (mFn (mCall 2 F.law_lines_right) (mCons (mVar 2) (mCons (mNotV (mVar 3)) (mNil)))))))) (mRet (mC (.bl false))) (mSkip)) (mSet 3 (mNotV (mVar 3))))))) (mSkip)))) (mSkip)) (mRet (mC (.bl true)))
def stepF (F : Fns) : Fns where
  is_integer := mDef 0 (b_is_integer F)
  is_text := mDef 1 (b_is_text F)
  is_letter := mDef 0 (b_is_letter F)
  is_name := mDef 0 (b_is_name F)
  check_limit := mDef 0 (b_check_limit F)
  digits_of := mDef 2 (b_digits_of F)
  parse_count := mDef 1 (b_parse_count F)
  split_words := mDef 1 (b_split_words F)
  law_cell := mDef 0 (b_law_cell F)
  law_box := mDef 0 (b_law_box F)
  law_take := mDef 2 (b_law_take F)
  law_pick := mDef 0 (b_law_pick F)
  law_mixed := mDef 3 (b_law_mixed F)
  law_same := mDef 2 (b_law_same F)
  law_copy := mDef 2 (b_law_copy F)
  law_very := mDef 0 (b_law_very F)
  law_letters := mDef 0 (b_law_letters F)
  law_kinds := mDef 2 (b_law_kinds F)
  law_any := mDef 5 (b_law_any F)
  law_number := mDef 4 (b_law_number F)
  law_drawn := mDef 6 (b_law_drawn F)
  law_count := mDef 1 (b_law_count F)
  law_counts_right := mDef 14 (b_law_counts_right F)
  law_words := mDef 4 (b_law_words F)
  law_line := mDef 6 (b_law_line F)
  law_split := mDef 1 (b_law_split F)
  law_lines_right := mDef 3 (b_law_lines_right F)
  law := mDef 6 (b_law F)
def Fs : Nat → Fns
  | 0 => ⟨fun _ _ => .fail, fun _ _ => .fail, fun _ _ => .fail, fun _ _ => .fail, fun _ _ => .fail, fun _ _ => .fail, fun _ _ => .fail, fun _ _ => .fail, fun _ _ => .fail, fun _ _ => .fail, fun _ _ => .fail, fun _ _ => .fail, fun _ _ => .fail, fun _ _ => .fail, fun _ _ => .fail, fun _ _ => .fail, fun _ _ => .fail, fun _ _ => .fail, fun _ _ => .fail, fun _ _ => .fail, fun _ _ => .fail, fun _ _ => .fail, fun _ _ => .fail, fun _ _ => .fail, fun _ _ => .fail, fun _ _ => .fail, fun _ _ => .fail, fun _ _ => .fail⟩
  | k + 1 => stepF (Fs k)
theorem F_is_integer (k : Nat) : (Fs (k + 1)).is_integer = mDef 0 (b_is_integer (Fs k)) := rfl
theorem F_is_text (k : Nat) : (Fs (k + 1)).is_text = mDef 1 (b_is_text (Fs k)) := rfl
theorem F_is_letter (k : Nat) : (Fs (k + 1)).is_letter = mDef 0 (b_is_letter (Fs k)) := rfl
theorem F_is_name (k : Nat) : (Fs (k + 1)).is_name = mDef 0 (b_is_name (Fs k)) := rfl
theorem F_check_limit (k : Nat) : (Fs (k + 1)).check_limit = mDef 0 (b_check_limit (Fs k)) := rfl
theorem F_digits_of (k : Nat) : (Fs (k + 1)).digits_of = mDef 2 (b_digits_of (Fs k)) := rfl
theorem F_parse_count (k : Nat) : (Fs (k + 1)).parse_count = mDef 1 (b_parse_count (Fs k)) := rfl
theorem F_split_words (k : Nat) : (Fs (k + 1)).split_words = mDef 1 (b_split_words (Fs k)) := rfl
theorem F_law_cell (k : Nat) : (Fs (k + 1)).law_cell = mDef 0 (b_law_cell (Fs k)) := rfl
theorem F_law_box (k : Nat) : (Fs (k + 1)).law_box = mDef 0 (b_law_box (Fs k)) := rfl
theorem F_law_take (k : Nat) : (Fs (k + 1)).law_take = mDef 2 (b_law_take (Fs k)) := rfl
theorem F_law_pick (k : Nat) : (Fs (k + 1)).law_pick = mDef 0 (b_law_pick (Fs k)) := rfl
theorem F_law_mixed (k : Nat) : (Fs (k + 1)).law_mixed = mDef 3 (b_law_mixed (Fs k)) := rfl
theorem F_law_same (k : Nat) : (Fs (k + 1)).law_same = mDef 2 (b_law_same (Fs k)) := rfl
theorem F_law_copy (k : Nat) : (Fs (k + 1)).law_copy = mDef 2 (b_law_copy (Fs k)) := rfl
theorem F_law_very (k : Nat) : (Fs (k + 1)).law_very = mDef 0 (b_law_very (Fs k)) := rfl
theorem F_law_letters (k : Nat) : (Fs (k + 1)).law_letters = mDef 0 (b_law_letters (Fs k)) := rfl
theorem F_law_kinds (k : Nat) : (Fs (k + 1)).law_kinds = mDef 2 (b_law_kinds (Fs k)) := rfl
theorem F_law_any (k : Nat) : (Fs (k + 1)).law_any = mDef 5 (b_law_any (Fs k)) := rfl
theorem F_law_number (k : Nat) : (Fs (k + 1)).law_number = mDef 4 (b_law_number (Fs k)) := rfl
theorem F_law_drawn (k : Nat) : (Fs (k + 1)).law_drawn = mDef 6 (b_law_drawn (Fs k)) := rfl
theorem F_law_count (k : Nat) : (Fs (k + 1)).law_count = mDef 1 (b_law_count (Fs k)) := rfl
theorem F_law_counts_right (k : Nat) : (Fs (k + 1)).law_counts_right = mDef 14 (b_law_counts_right (Fs k)) := rfl
theorem F_law_words (k : Nat) : (Fs (k + 1)).law_words = mDef 4 (b_law_words (Fs k)) := rfl
theorem F_law_line (k : Nat) : (Fs (k + 1)).law_line = mDef 6 (b_law_line (Fs k)) := rfl
theorem F_law_split (k : Nat) : (Fs (k + 1)).law_split = mDef 1 (b_law_split (Fs k)) := rfl
theorem F_law_lines_right (k : Nat) : (Fs (k + 1)).law_lines_right = mDef 3 (b_law_lines_right (Fs k)) := rfl
theorem F_law (k : Nat) : (Fs (k + 1)).law = mDef 6 (b_law (Fs k)) := rfl
end L2.G.La
set_option maxHeartbeats 1000000
namespace L2.G.La
open PySem PySem.Spec PyProof.Rows
/-- the box at b -/
def bxL (x : Int) (f : Bool) (y z : Int) : List D := [.int x, .bl f, .int y, .int z]
structure BxOk (x y z : Int) (m : Int) : Prop where
  x0 : 0 ≤ x
  y0 : 0 ≤ y
  y1 : y < 2147483629
  z0 : 0 ≤ z
  z1 : z ≤ m
theorem take_spec {F : Fns} {tb : Tb} {b : Nat} {x y z m many : Int} {f : Bool} (hb : tb[b]? = some (.lst (bxL x f y z))) (ok : BxOk x y z m) (m1 : m < 1000000000) (h0 : 0 < many) (h1 : many < 1073741824) :
    ∃ r x' z', 0 ≤ r ∧ r < many ∧ BxOk x' y z' (m + 1) ∧ mDef 2 (b_law_take F) [.ref b, .int many] tb = .ok (.int r) (tb.set b (.lst (bxL x' f y z'))) := by
  have hn : b < tb.length := (List.getElem?_eq_some_iff.mp hb).1
  obtain ⟨x0, y0, y1, z0, z1⟩ := ok
  have l0 : lst? (.ref b) tb = some (bxL x f y z) := by simp [lst?, hb]
  have i0 : ixD (.ref b) (.int 0) tb = .ok (.int x) tb := ix_lst (n := 0) l0 rfl
  have i1 : ixD (.ref b) (.int 1) tb = .ok (.bl f) tb := ix_lst (n := 1) l0 rfl
  have i2 : ixD (.ref b) (.int 2) tb = .ok (.int y) tb := ix_lst (n := 2) l0 rfl
  have i3 : ixD (.ref b) (.int 3) tb = .ok (.int z) tb := ix_lst (n := 3) l0 rfl
  have s0 : ∀ v, setD (.ref b) (.int 0) v tb = some (tb.set b (.lst [v, .bl f, .int y, .int z])) := fun v => set_ref (m := 0) hb (by simp [bxL])
  have s3 : ∀ v, setD (.ref b) (.int 3) v tb = some (tb.set b (.lst [.int x, .bl f, .int y, v])) := fun v => set_ref (m := 3) hb (by simp [bxL])
  have hb2 : (tb.set b (.lst (bxL x f y (z + 1))))[b]? = some (.lst (bxL x f y (z + 1))) := by rw [List.getElem?_set_self hn]
  have l2 : lst? (.ref b) (tb.set b (.lst (bxL x f y (z + 1)))) = some (bxL x f y (z + 1)) := by simp [lst?, hn]
  have j2 : ixD (.ref b) (.int 2) (tb.set b (.lst (bxL x f y (z + 1)))) = .ok (.int y) _ := ix_lst (n := 2) l2 rfl
  have j3 : ixD (.ref b) (.int 3) (tb.set b (.lst (bxL x f y (z + 1)))) = .ok (.int (z + 1)) _ := ix_lst (n := 3) l2 rfl
  by_cases hc : f = true ∧ 0 < x
  · obtain ⟨rfl, hx⟩ := hc
    refine ⟨x % many, x / many, z, Int.emod_nonneg _ (by omega), Int.emod_lt_of_pos _ h0, ⟨Int.ediv_nonneg x0 (by omega), y0, y1, z0, by omega⟩, ?_⟩
    simp only [mDef, b_law_take, mSeq, mIf, mAnd, mB, mOp, mVar, mC, mSet, mFn, mCons, mNil, mSub, mRet, on1, u_intX, List.map, List.replicate, List.cons_append, List.nil_append, List.getElem?_cons_zero, List.getElem?_cons_succ, Rs.bind_ok, Rs.st_ok, i0, i1, asB, gt_ii, hx, decide_true, if_true, mod_ii h0, fdiv_ii (And.intro h0 h1), s0, List.set_cons_zero, List.set_cons_succ]
    rw [gc_same (by simp [gcN])]; rfl
  · have hcond : (mAnd (mB (mOp ixD (mVar 0) (mC (.int 1)))) (mB (mOp (gtD) (mOp ixD (mVar 0) (mC (.int 0))) (mC (.int 0)))) [some (.ref b), some (.int many), none, none] tb) = .ok false tb := by
      simp only [mAnd, mB, mOp, mVar, mC, List.getElem?_cons_zero, Rs.bind_ok, i0, i1, asB, gt_ii]
      cases f with
      | false => simp
      | true =>
        have : ¬ 0 < x := fun h => hc ⟨rfl, h⟩
        simp [this]
    generalize hM : (y + 15485866 * (z + 1) + 179424676) ^ 5 % 2147483647 = M
    have hM0 : 0 ≤ M := by rw [← hM]; exact Int.emod_nonneg _ (by decide)
    have hM1 : M < 2147483647 := by rw [← hM]; exact Int.emod_lt_of_pos _ (by decide)
    generalize hR : (M * 48271 + 104732 * (z + 1)) ^ 3 % 2147483587 / 64 = R
    have p5 : powD (.int (y + 15485866 * (z + 1) + 179424676)) (.int 5) (tb.set b (.lst (bxL x f y (z + 1)))) = .ok (.int ((y + 15485866 * (z + 1) + 179424676) ^ 5)) _ := pow_ii (n := 5) (by decide) ⟨by omega, by omega⟩
    have p3 : powD (.int (M * 48271 + 104732 * (z + 1))) (.int 3) (tb.set b (.lst (bxL x f y (z + 1)))) = .ok (.int ((M * 48271 + 104732 * (z + 1)) ^ 3)) _ := pow_ii (n := 3) (by decide) ⟨by omega, by omega⟩
    refine ⟨R % many, x, z + 1, Int.emod_nonneg _ (by omega), Int.emod_lt_of_pos _ h0, ⟨x0, y0, y1, by omega, by omega⟩, ?_⟩
    have q1 : ∀ (j : Int) (tb : Tb), mulD false (.int 15485866) (.int j) tb = .ok (.int (15485866 * j)) tb := fun j tb => mul_ii (.inl (by decide))
    have q2 : ∀ (j : Int) (tb : Tb), mulD false (.int j) (.int 48271) tb = .ok (.int (j * 48271)) tb := fun j tb => mul_ii (.inr (by decide))
    have q3 : ∀ (j : Int) (tb : Tb), mulD false (.int 104732) (.int j) tb = .ok (.int (104732 * j)) tb := fun j tb => mul_ii (.inl (by decide))
    have q4 : ∀ (i : Int) (tb : Tb), modD (.int i) (.int 2147483647) tb = .ok (.int (i % 2147483647)) tb := fun i tb => mod_ii (by decide)
    have q5 : ∀ (i : Int) (tb : Tb), modD (.int i) (.int 2147483587) tb = .ok (.int (i % 2147483587)) tb := fun i tb => mod_ii (by decide)
    have q6 : ∀ (i : Int) (tb : Tb), fdivD (.int i) (.int 64) tb = .ok (.int (i / 64)) tb := fun i tb => fdiv_ii (by decide)
    simp only [bxL] at j2 j3 p5 p3
    unfold mDef b_law_take
    rw [show ([D.ref b, D.int many].map some ++ List.replicate 2 none) = [some (.ref b), some (.int many), none, none] from rfl]
    simp only [mSeq, mIf, hcond, mSkip, Rs.st_ok, Bool.false_eq_true, if_false, mOp, mVar, mC, mSet, mFn, mCons, mNil, mSub, mRet, on1, u_intX, List.getElem?_cons_zero, List.getElem?_cons_succ, Rs.bind_ok, i3, add_ii, s3, List.set_cons_zero, List.set_cons_succ, j2, j3, q1, q2, q3, q4, q5, q6, p5, p3, hM, hR, mod_ii h0]
    rw [gc_same (by simp [gcN])]; rfl
/-- the table while the box at b has been drawn from at most m times -/
structure St (b : Nat) (m : Int) (tb : Tb) : Prop where
  box : ∃ x f y z, tb[b]? = some (.lst (bxL x f y z)) ∧ BxOk x y z m
  wf : Wf tb
/-- only the box has changed -/
structure Upd (b : Nat) (tb tb' : Tb) : Prop where
  len : tb'.length = tb.length
  eq : ∀ j, j ≠ b → tb'[j]? = tb[j]?
theorem Upd.refl (b : Nat) (tb : Tb) : Upd b tb tb := ⟨rfl, fun _ _ => rfl⟩
theorem Upd.trans {b : Nat} {t1 t2 t3 : Tb} (h : Upd b t1 t2) (h' : Upd b t2 t3) : Upd b t1 t3 := ⟨h'.len.trans h.len, fun j hj => (h'.eq j hj).trans (h.eq j hj)⟩
theorem BxOk.mono {x y z m m' : Int} (h : BxOk x y z m) (hm : m ≤ m') : BxOk x y z m' := ⟨h.x0, h.y0, h.y1, h.z0, by have := h.z1; omega⟩
theorem St.mono {b : Nat} {m m' : Int} {tb : Tb} (h : St b m tb) (hm : m ≤ m') : St b m' tb := by
  obtain ⟨⟨x, f, y, z, h1, h2⟩, w⟩ := h
  exact ⟨⟨x, f, y, z, h1, h2.mono hm⟩, w⟩
theorem St.lt {b : Nat} {m : Int} {tb : Tb} (h : St b m tb) : b < tb.length := by
  obtain ⟨⟨x, f, y, z, h1, h2⟩, w⟩ := h
  exact (List.getElem?_eq_some_iff.mp h1).1
theorem take_st {k b : Nat} {m many : Int} {tb : Tb} (s : St b m tb) (hm : m < 1000000000) (h0 : 0 < many) (h1 : many < 1073741824) :
    ∃ r tb', 0 ≤ r ∧ r < many ∧ St b (m + 1) tb' ∧ Upd b tb tb' ∧ (Fs (k + 1)).law_take [.ref b, .int many] tb = .ok (.int r) tb' := by
  obtain ⟨⟨x, f, y, z, hb, ok⟩, w⟩ := s
  obtain ⟨r, x', z', r0, r1, ok', e⟩ := take_spec (F := Fs k) hb ok hm h0 h1
  have hn : b < tb.length := (List.getElem?_eq_some_iff.mp hb).1
  refine ⟨r, _, r0, r1, ⟨⟨x', f, y, z', by rw [List.getElem?_set_self hn], ok'⟩, w.set (by simp [Ob.below, bxL, belows, below]) rfl⟩, ⟨by simp, fun j hj => by rw [List.getElem?_set_ne (Ne.symm hj)]⟩, ?_⟩
  rw [F_law_take]; exact e
theorem pick_lst {k b : Nat} {m : Int} {tb : Tb} {xs : List D} (s : St b m tb) (hm : m < 1000000000) (hne : xs ≠ []) (hl : xs.length ≤ 5000) :
    ∃ d tb', d ∈ xs ∧ St b (m + 1) tb' ∧ Upd b tb tb' ∧ (Fs (k + 2)).law_pick [.ref b, .lst xs] tb = .ok d tb' := by
  have h0 : (0 : Int) < (xs.length : Int) := by
    cases xs with
    | nil => exact absurd rfl hne
    | cons _ _ => simp
  obtain ⟨r, tb', r0, r1, s', u, e⟩ := take_st (k := k) s hm h0 (by omega)
  obtain ⟨j, rfl⟩ : ∃ j : Nat, r = (j : Int) := ⟨r.toNat, by omega⟩
  have hj : j < xs.length := by omega
  refine ⟨xs[j], tb', List.getElem_mem hj, s', u, ?_⟩
  have i1 : ixD (.lst xs) (.int (j : Int)) tb' = .ok xs[j] tb' := ix_lst rfl (List.getElem?_eq_getElem hj)
  have l1 : lenM (.lst xs) tb = .ok (.int (xs.length : Int)) tb := len_lst rfl
  rw [F_law_pick]
  have hb : b_law_pick (Fs (k + 1)) [some (.ref b), some (.lst xs)] tb = .rt xs[j] tb' := by
    simp [b_law_pick, l1, e, i1]
  unfold mDef
  rw [show ([D.ref b, D.lst xs].map some ++ List.replicate 0 none) = [some (.ref b), some (.lst xs)] from rfl, hb]
  simp only
  rw [gc_same (by rw [u.len]; exact gcN_le _ _)]
theorem pick_str {k b : Nat} {m : Int} {tb : Tb} {cs : List Nat} (s : St b m tb) (hm : m < 1000000000) (hne : cs ≠ []) (hl : cs.length ≤ 5000) :
    ∃ c tb', c ∈ cs ∧ St b (m + 1) tb' ∧ Upd b tb tb' ∧ (Fs (k + 2)).law_pick [.ref b, .str cs] tb = .ok (.str [c]) tb' := by
  have h0 : (0 : Int) < (cs.length : Int) := by
    cases cs with
    | nil => exact absurd rfl hne
    | cons _ _ => simp
  obtain ⟨r, tb', r0, r1, s', u, e⟩ := take_st (k := k) s hm h0 (by omega)
  obtain ⟨j, rfl⟩ : ∃ j : Nat, r = (j : Int) := ⟨r.toNat, by omega⟩
  have hj : j < cs.length := by omega
  refine ⟨cs[j], tb', List.getElem_mem hj, s', u, ?_⟩
  have i1 : ixD (.str cs) (.int (j : Int)) tb' = .ok (.str [cs[j]]) tb' := ix_str (by simp only [LIM]; omega) (List.getElem?_eq_getElem hj)
  have l1 : lenM (.str cs) tb = .ok (.int (cs.length : Int)) tb := len_str (by simp only [LIM]; omega)
  rw [F_law_pick]
  have hb : b_law_pick (Fs (k + 1)) [some (.ref b), some (.str cs)] tb = .rt (.str [cs[j]]) tb' := by
    simp [b_law_pick, l1, e, i1]
  unfold mDef
  rw [show ([D.ref b, D.str cs].map some ++ List.replicate 0 none) = [some (.ref b), some (.str cs)] from rfl, hb]
  simp only
  rw [gc_same (by rw [u.len]; exact gcN_le _ _)]
/-- a bigger table of which only the box has changed among the first ones -/
structure Up (b L : Nat) (tb t : Tb) : Prop where
  le : L ≤ t.length
  eq : ∀ j, j < L → j ≠ b → t[j]? = tb[j]?
theorem Up.upd {b L : Nat} {tb t t' : Tb} (h : Up b L tb t) (u : Upd b t t') : Up b L tb t' := ⟨by rw [u.len]; exact h.le, fun j hj hb => (u.eq j hb).trans (h.eq j hj hb)⟩
theorem Up.set {b L n : Nat} {tb t : Tb} {o : Ob} (h : Up b L tb t) (hn : L ≤ n) : Up b L tb (t.set n o) := ⟨by simpa using h.le, fun j hj hb => by
  rw [List.getElem?_set_ne (by omega)]; exact h.eq j hj hb⟩
theorem Up.push {b L : Nat} {tb t : Tb} {o : Ob} (h : Up b L tb t) : Up b L tb (t ++ [o]) := ⟨by have := h.le; simp; omega, fun j hj hb => by
  rw [List.getElem?_append_left (by have := h.le; omega)]; exact h.eq j hj hb⟩
theorem Up.refl {b : Nat} {tb : Tb} : Up b tb.length tb tb := ⟨Nat.le_refl _, fun _ _ _ => rfl⟩
/-- what a def leaves behind is cut -/
theorem Up.cut {b : Nat} {m : Int} {tb t : Tb} (h : Up b tb.length tb t) (w : Wf tb) (hb : b < tb.length) (s : ∃ x f y z, t[b]? = some (.lst (bxL x f y z)) ∧ BxOk x y z m) :
    St b m (t.take tb.length) ∧ Upd b tb (t.take tb.length) ∧ ∀ (n : Nat) (r : List D), n = tb.length → belows tb.length r = true → gcTb n r t = t.take tb.length := by
  have hl : (t.take tb.length).length = tb.length := by rw [List.length_take]; have := h.le; omega
  have tk : ∀ j, j < tb.length → (t.take tb.length)[j]? = t[j]? := fun j hj => by rw [List.getElem?_take, if_pos hj]
  obtain ⟨x, f, y, z, h1, h2⟩ := s
  have obs : ∀ o ∈ t.take tb.length, (o ∈ tb) ∨ o = .lst (bxL x f y z) := fun o ho => by
    obtain ⟨j, hj, e⟩ := List.mem_iff_getElem.mp ho
    have hj' : j < tb.length := by rw [hl] at hj; exact hj
    have e2 : (t.take tb.length)[j]? = some o := by rw [List.getElem?_eq_getElem hj, e]
    rw [tk j hj'] at e2
    by_cases hjb : j = b
    · subst hjb; rw [h1] at e2; exact .inr (Option.some.inj e2).symm
    · rw [h.eq j hj' hjb] at e2; exact .inl (List.mem_of_getElem? e2)
  have wf : Wf (t.take tb.length) := ⟨fun o ho => by
      rw [hl]
      rcases obs o ho with q | q
      · exact w.bl o q
      · subst q; simp [Ob.below, bxL, belows, below], fun o ho => by
      rcases obs o ho with q | q
      · exact w.ne o q
      · subst q; rfl⟩
  refine ⟨⟨⟨x, f, y, z, by rw [tk b hb]; exact h1, h2⟩, wf⟩, ⟨hl, fun j hj => ?_⟩, fun n r hn hr => ?_⟩
  · by_cases q : j < tb.length
    · rw [tk j q]; exact h.eq j q hj
    · rw [List.getElem?_eq_none (by omega), List.getElem?_eq_none (by omega)]
  · subst hn
    have q := gc_cut' (tb := tb) (more := t.drop tb.length) hl.symm wf hr
    rwa [List.take_append_drop] at q
end L2.G.La
set_option maxHeartbeats 1000000
namespace L2.G.La
open PySem PySem.Spec PyProof.Rows
theorem belows_mem {n : Nat} : ∀ {xs : List D}, belows n xs = true ↔ ∀ x ∈ xs, below n x = true
  | [] => by simp [belows]
  | x :: xs => by simp [belows, belows_mem (xs := xs)]
theorem onRef_at {n : Nat} {xs : List D} {tb : Tb} {f : Nat → List D → Rs D} (h : tb[n]? = some (.lst xs)) : onRef (.ref n) tb f = f n xs := by simp [onRef, h]
theorem append_at {n : Nat} {xs : List D} {y : D} {tb : Tb} (h : tb[n]? = some (.lst xs)) (hl : xs.length < LIM) : appendD (.ref n) [y] tb = .ok .non (tb.set n (.lst (xs ++ [y]))) := by
  simp only [appendD, onRef_at h, if_pos hl]
theorem lev {k n : Nat} (h : n ≤ k) : ∃ j, k = j + n := ⟨k - n, by omega⟩
theorem wp_take {k b : Nat} {m many : Int} {tb : Tb} (hk : 1 ≤ k) (s : St b m tb) (hm : m < 1000000000) (h0 : 0 < many) (h1 : many < 1073741824) :
    Wp ((Fs k).law_take [.ref b, .int many] tb) (fun d t => ∃ r : Nat, d = .int (r : Int) ∧ (r : Int) < many ∧ St b (m + 1) t ∧ Upd b tb t) noX := by
  obtain ⟨j, rfl⟩ := lev hk
  obtain ⟨r, t, r0, r1, st, u, e⟩ := take_st (k := j) s hm h0 h1
  obtain ⟨i, rfl⟩ : ∃ i : Nat, r = (i : Int) := ⟨r.toNat, by omega⟩
  exact wp_of e ⟨i, rfl, r1, st, u⟩
theorem wp_pickL {k b : Nat} {m : Int} {tb : Tb} {xs : List D} (hk : 2 ≤ k) (s : St b m tb) (hm : m < 1000000000) (hne : xs ≠ []) (hl : xs.length ≤ 5000) :
    Wp ((Fs k).law_pick [.ref b, .lst xs] tb) (fun d t => d ∈ xs ∧ St b (m + 1) t ∧ Upd b tb t) noX := by
  obtain ⟨j, rfl⟩ := lev hk
  obtain ⟨d, t, hd, st, u, e⟩ := pick_lst (k := j) s hm hne hl
  exact wp_of e ⟨hd, st, u⟩
theorem wp_pickS {k b : Nat} {m : Int} {tb : Tb} {cs : List Nat} (hk : 2 ≤ k) (s : St b m tb) (hm : m < 1000000000) (hne : cs ≠ []) (hl : cs.length ≤ 5000) :
    Wp ((Fs k).law_pick [.ref b, .str cs] tb) (fun d t => ∃ c, c ∈ cs ∧ d = .str [c] ∧ St b (m + 1) t ∧ Upd b tb t) noX := by
  obtain ⟨j, rfl⟩ := lev hk
  obtain ⟨d, t, hd, st, u, e⟩ := pick_str (k := j) s hm hne hl
  exact wp_of e ⟨d, hd, rfl, st, u⟩
/-- a def that leaves the box alone changed -/
theorem defK_st {b : Nat} {m : Int} {tb t : Tb} {d : D} {Q : D → Tb → Prop} (s : St b m t) (u : Upd b tb t) (h : Q d t) : Q d (gcTb (gcN tb.length d) [d] t) := by
  rw [gc_same (by rw [u.len]; exact gcN_le _ _)]; exact h
theorem draws_wp {b i n : Nat} {m c : Int} {env : Env} {t : Tb} {te : ME} {P : D → Prop} {X : XP} (s : St b m t) (hn : n ≤ 1000000) (hc : 0 ≤ c)
    (h : ∀ (x : D) (t' : Tb) (m' : Int), St b m' t' → m ≤ m' → m' + c ≤ m + (n : Int) * c → Wp (te ((wipeE env [i]).set i (some x)) t') (fun y t2 => P y ∧ St b (m' + c) t2 ∧ Upd b t' t2) noX) :
    Wp (mLcGo (rngIt 0 n) (gN i) mYes te [i] env (rngIt 0 n).ds [] t) (fun ds t' => ds.length = n ∧ (∀ y ∈ ds, P y) ∧ St b (m + (n : Int) * c) t' ∧ Upd b t t') X := by
  have hlen : (rngIt 0 n).ds.length = n := by simp [rngIt]
  refine wp_lcGo (fun k acc t' => acc.length = k ∧ (∀ y ∈ acc, P y) ∧ St b (m + (k : Int) * c) t' ∧ Upd b t t') ⟨rfl, by simp, by simpa using s, Upd.refl b t⟩ ?_ ?_
  · rintro k d acc t' hk ⟨h1, h2, h3, h4⟩
    have hkn : k < n := by have := (List.getElem?_eq_some_iff.mp hk).1; rwa [hlen] at this
    refine ⟨IT.kept0, by simp only [LIM]; omega, _, _, rfl, ?_⟩
    simp
    have e1 : ((k + 1 : Nat) : Int) * c = (k : Int) * c + c := by push_cast; rw [Int.add_mul]; simp
    have e2 : ((k + 1 : Nat) : Int) * c ≤ (n : Int) * c := Int.mul_le_mul_of_nonneg_right (by omega) hc
    have e3 : 0 ≤ (k : Int) * c := Int.mul_nonneg (by omega) hc
    refine (h d t' _ h3 (by omega) (by omega)).use ?_
    rintro y t2 ⟨q1, q2, q3⟩
    refine ⟨by simp [h1], fun z hz => ?_, ?_, h4.trans q3⟩
    · rcases List.mem_append.mp hz with q | q
      · exact h2 z q
      · simp at q; subst q; exact q1
    · have e1' : ((k : Int) + 1) * c = (k : Int) * c + c := by rw [Int.add_mul]; simp
      rw [e1', ← Int.add_assoc]; exact q2
  · rintro acc t' ⟨h1, h2, h3, h4⟩
    rw [hlen] at h1 h3
    exact ⟨IT.kept0, h1, h2, h3, h4⟩
theorem cut_to {α : Type} {xs : List α} {n : Nat} : cutL xs none (some (n : Int)) = xs.take n := by
  unfold cutL
  rw [HT.sIx_nat]
  show List.take (min n xs.length - 0) (List.drop 0 xs) = _
  simp
theorem cut_from {α : Type} {xs : List α} {n : Nat} : cutL xs (some (n : Int)) none = xs.drop n := by
  unfold cutL
  rw [HT.sIx_nat]
  show List.take (xs.length - min n xs.length) (List.drop (min n xs.length) xs) = _
  by_cases h : n ≤ xs.length
  · rw [Nat.min_eq_left h, List.take_of_length_le (by simp)]
  · rw [Nat.min_eq_right (by omega), List.drop_eq_nil_of_le (by omega : xs.length ≤ n)]
    simp
theorem sl_to {xs : List D} {n : Nat} {tb : Tb} : slD false (.lst xs) none (some (n : Int)) tb = .ok (.lst (xs.take n)) tb := by
  simp only [slD, lst?, cut_to]; rfl
theorem sl_from {xs : List D} {n : Nat} {tb : Tb} : slD false (.lst xs) (some (n : Int)) none tb = .ok (.lst (xs.drop n)) tb := by
  simp only [slD, lst?, cut_from]; rfl
theorem list_lst {xs : List D} {tb : Tb} : listD false (.lst xs) tb = .ok (.lst xs) tb := by unfold listD; rfl
end L2.G.La
set_option maxHeartbeats 1000000
namespace L2.G.La
open PySem PySem.Spec PyProof.Rows
def seqT (d : D) (tb : Tb) : Option (Bool × List D) := match d with
  | .lst xs => some (true, xs)
  | .tup xs => some (false, xs)
  | .ref m => match tb[m]? with
    | some (.lst xs) => some (true, xs)
    | _ => none
  | _ => none
structure SeqF (d : D) (tb : Tb) (b : Bool) (xs : List D) : Prop where
  n : isN d = false
  bo : isiD [.bool] d tb = .ok (.bl false) tb
  it : isiD [.int] d tb = .ok (.bl false) tb
  st : isiD [.str] d tb = .ok (.bl false) tb
  dc : isiD [.dict] d tb = .ok (.bl false) tb
  lt : isiD [.list, .tuple] d tb = .ok (.bl true) tb
  l : isiD [.list] d tb = .ok (.bl b) tb
  len : lenM d tb = .ok (.int (xs.length : Int)) tb
  ix : ∀ (k : Nat) (x : D), xs[k]? = some x → ixD d (.int (k : Int)) tb = .ok x tb
theorem seqT_f {d : D} {tb : Tb} {b : Bool} {xs : List D} (h : seqT d tb = some (b, xs)) : SeqF d tb b xs := by
  cases d with
  | lst ys =>
    simp only [seqT, Option.some.injEq, Prod.mk.injEq] at h
    obtain ⟨rfl, rfl⟩ := h
    exact ⟨rfl, by simp [isiD, tyD, Ty.has], by simp [isiD, tyD, Ty.has], by simp [isiD, tyD, Ty.has], by simp [isiD, tyD, Ty.has], by simp [isiD, tyD, Ty.has], by simp [isiD, tyD, Ty.has], len_lst rfl, fun k x e => ix_lst rfl e⟩
  | tup ys =>
    simp only [seqT, Option.some.injEq, Prod.mk.injEq] at h
    obtain ⟨rfl, rfl⟩ := h
    exact ⟨rfl, by simp [isiD, tyD, Ty.has], by simp [isiD, tyD, Ty.has], by simp [isiD, tyD, Ty.has], by simp [isiD, tyD, Ty.has], by simp [isiD, tyD, Ty.has], by simp [isiD, tyD, Ty.has], len_tup, fun k x e => ix_tup e⟩
  | ref m =>
    simp only [seqT] at h
    split at h
    · rename_i ys g
      simp only [Option.some.injEq, Prod.mk.injEq] at h
      obtain ⟨rfl, rfl⟩ := h
      have l : lst? (.ref m) tb = some ys := by simp [lst?, g]
      exact ⟨rfl, by simp [isiD, tyD, Ty.has, g], by simp [isiD, tyD, Ty.has, g], by simp [isiD, tyD, Ty.has, g], by simp [isiD, tyD, Ty.has, g], by simp [isiD, tyD, Ty.has, g], by simp [isiD, tyD, Ty.has, g], len_lst l, fun k x e => ix_lst l e⟩
    · cases h
  | _ => cases h
theorem rng_ok {a : MA} {env : Env} {tb : Tb} {n : Nat} (h : a env tb = .ok [.int (n : Int)] tb) (hn : n ≤ 1000000) : mRng1 a env tb = .ok (rngIt 0 n) tb := by
  have c : -(2 ^ 62) ≤ (n : Int) ∧ (n : Int) < 2 ^ 62 := ⟨by omega, by omega⟩
  simp only [mRng1, h, Rs.bind_ok]
  rw [if_pos c]
  simp
/-- over range(n), nothing is kept -/
theorem lcR_none {a : MA} {i : Nat} {tt : MT} {te : ME} {env : Env} {tb : Tb} {n : Nat} (h : a env tb = .ok [.int (n : Int)] tb) (hn : n ≤ 1000000)
    (ht : ∀ k : Nat, k < n → tt ((wipeE env [i]).set i (some (.int (k : Int)))) tb = .ok false tb) : mLc false (mRng1 a) (gN i) tt te [i] env tb = .ok (.lst []) tb := by
  unfold mLc
  rw [rng_ok h hn]
  simp only [Rs.bind_ok]
  rw [lcGo_filter (it := rngIt 0 n) IT.kept0]
  · rfl
  · intro d hd
    simp only [rngIt, List.mem_map, List.mem_range] at hd
    obtain ⟨k, hk, rfl⟩ := hd
    refine ⟨_, rfl, ?_⟩
    have := ht k hk
    simpa using this
  · simp [rngIt, LIM]; omega
theorem eq_nil {tb : Tb} : eqP false (.lst []) (.lst []) tb = .ok (.bl true) tb := by
  simp [eqP, toP, toP1, toP0, toP0s, SeqAt.shaped, PyData.canLay0, PyData.canLayAll0, PyData.depth, PyData.depthAll, PyData.eqv, PyData.eqvAll]
theorem same_seq {d e : D} {tb : Tb} {b : Bool} {xs ys : List D} {K : Nat} (h : seqT d tb = some (b, xs)) (h2 : seqT e tb = some (b, ys)) (he : xs.length = ys.length) (hl : xs.length ≤ 5000) (hi : ∀ (k : Nat) (x y : D), xs[k]? = some x → ys[k]? = some y → (Fs K).law_same [x, y] tb = .ok (.bl true) tb) : (Fs (K + 1)).law_same [d, e] tb = .ok (.bl true) tb := by
  have f := seqT_f h
  have f2 := seqT_f h2
  have fl2 := f2.len
  rw [← he] at fl2
  rw [F_law_same]
  refine mDef_rt ?_
  have hc : mLc false (mRng1 (mCons (mFn (on1 lenM) (mCons (mVar 1) mNil)) (mNil))) (gN 2) (mNot (mB (mFn (mCall 2 (Fs K).law_same) (mCons (mOp ixD (mVar 0) (mVar 2)) (mCons (mOp ixD (mVar 1) (mVar 2)) (mNil)))))) (mVar 2) [2] [some d, some e, none, none] tb = .ok (.lst []) tb := by
    refine lcR_none (n := xs.length) (by simp [fl2]) (by omega) fun k hk => ?_
    have g1 := List.getElem?_eq_getElem hk
    have g2 := List.getElem?_eq_getElem (l := ys) (i := k) (by omega)
    have i1 := f.ix k xs[k] g1
    have i2 := f2.ix k ys[k] g2
    simp [wipeE, i1, i2, hi k _ _ g1 g2]
  simp only [b_law_same, List.map_cons, List.map_nil, List.replicate, List.cons_append, List.nil_append]
  simp [f.n, f.bo, f.it, f.st, f.dc, f.lt, f.l, f.len, f2.n, f2.bo, f2.it, f2.st, f2.dc, f2.lt, f2.l, fl2, hc, eq_nil, eq_bb, LIM]
theorem same_int {i : Int} {tb : Tb} {K : Nat} : (Fs (K + 1)).law_same [.int i, .int i] tb = .ok (.bl true) tb := by
  rw [F_law_same]
  refine mDef_rt ?_
  simp only [b_law_same, List.map_cons, List.map_nil, List.replicate, List.cons_append, List.nil_append]
  simp [isiD, tyD, Ty.has, isN]
theorem cut_one {cs : List Nat} {k c : Nat} (h : cs[k]? = some c) : cutL cs (some (k : Int)) (some ((k : Int) + 1)) = [c] := by
  have hk : k < cs.length := (List.getElem?_eq_some_iff.mp h).1
  have e : ((k : Int) + 1) = ((k + 1 : Nat) : Int) := by omega
  unfold cutL
  rw [e, HT.sIx_nat, HT.sIx_nat, Nat.min_eq_left (by omega), Nat.min_eq_left (by omega)]
  rw [show k + 1 - k = 1 by omega, List.drop_eq_getElem_cons hk]
  have : cs[k] = c := by rw [List.getElem?_eq_getElem hk] at h; exact Option.some.inj h
  simp [this]
theorem same_str {cs : List Nat} {tb : Tb} {K : Nat} (hl : cs.length ≤ 5000) (hc : cs.all (fun c => decide (c < 1114112)) = true) : (Fs (K + 1)).law_same [.str cs, .str cs] tb = .ok (.bl true) tb := by
  rw [F_law_same]
  refine mDef_rt ?_
  have l : lenM (.str cs) tb = .ok (.int (cs.length : Int)) tb := len_str (by simp only [LIM]; omega)
  have hcc : mLc false (mRng1 (mCons (mFn (on1 lenM) (mCons (mVar 1) mNil)) (mNil))) (gN 2) (mB (mOp (eqP true) (mSl false (mVar 0) (some (mVar 2)) (some (mOp (addD false) (mVar 2) (mC (.int 1))))) (mOp ixD (mVar 1) (mVar 2)))) (mVar 2) [2] [some (.str cs), some (.str cs), none, none] tb = .ok (.lst []) tb := by
    refine lcR_none (n := cs.length) (by simp [l]) (by omega) fun k hk => ?_
    have g := List.getElem?_eq_getElem hk
    have i1 : ixD (.str cs) (.int (k : Int)) tb = .ok (.str [cs[k]]) tb := ix_str (by simp only [LIM]; omega) g
    have s1 : slD false (.str cs) (some (k : Int)) (some ((k : Int) + 1)) tb = .ok (.str [cs[k]]) tb := by
      simp only [slD, lst?]
      rw [if_pos (by simp only [LIM]; omega), cut_one g]
    have hk1 : [cs[k]].all (fun c => decide (c < 1114112)) = true := by
      rw [List.all_eq_true] at hc
      simpa using hc _ (List.getElem_mem hk)
    have q : eqP true (.str [cs[k]]) (.str [cs[k]]) tb = .ok (.bl false) tb := by rw [eq_ss hk1 hk1]; simp
    simp [wipeE, mSl, mPart, i1, s1, q]
  simp only [b_law_same, List.map_cons, List.map_nil, List.replicate, List.cons_append, List.nil_append]
  simp [isiD, tyD, Ty.has, isN, l, hcc, eq_nil, LIM]
abbrev MORE : List Nat := [109, 111, 114, 101]
theorem same_non {tb : Tb} {K : Nat} : (Fs (K + 1)).law_same [.non, .non] tb = .ok (.bl true) tb := by
  rw [F_law_same]
  refine mDef_rt ?_
  simp only [b_law_same, List.map_cons, List.map_nil, List.replicate, List.cons_append, List.nil_append]
  simp [isN]
theorem same_bl {x : Bool} {tb : Tb} {K : Nat} : (Fs (K + 1)).law_same [.bl x, .bl x] tb = .ok (.bl true) tb := by
  rw [F_law_same]
  refine mDef_rt ?_
  simp only [b_law_same, List.map_cons, List.map_nil, List.replicate, List.cons_append, List.nil_append]
  simp [isN, isiD, tyD, Ty.has, isD, eq_bb]
/-- data that are the same -/
inductive Sme (t : Tb) : Nat → D → D → Prop
  | non {n} : Sme t n .non .non
  | bl {n x} : Sme t n (.bl x) (.bl x)
  | int {n i} : Sme t n (.int i) (.int i)
  | str {n cs} : cs.length ≤ 5000 → cs.all (fun c => decide (c < 1114112)) = true → Sme t n (.str cs) (.str cs)
  | seq {n d e b xs ys} : seqT d t = some (b, xs) → seqT e t = some (b, ys) → xs.length = ys.length → xs.length ≤ 5000 → (∀ (k : Nat) (x y : D), xs[k]? = some x → ys[k]? = some y → Sme t n x y) → Sme t (n + 1) d e
theorem Sme.ok {t : Tb} {n : Nat} {d e : D} (h : Sme t n d e) : ∀ k, n < k → (Fs k).law_same [d, e] t = .ok (.bl true) t := by
  induction h with
  | non => intro k hk; obtain ⟨j, rfl⟩ := lev (n := 1) (k := k) (by omega); exact same_non
  | bl => intro k hk; obtain ⟨j, rfl⟩ := lev (n := 1) (k := k) (by omega); exact same_bl
  | int => intro k hk; obtain ⟨j, rfl⟩ := lev (n := 1) (k := k) (by omega); exact same_int
  | str h1 h2 => intro k hk; obtain ⟨j, rfl⟩ := lev (n := 1) (k := k) (by omega); exact same_str h1 h2
  | seq h1 h2 h3 h4 h5 ih =>
    intro k hk
    obtain ⟨j, rfl⟩ := lev (n := 1) (k := k) (by omega)
    exact same_seq h1 h2 h3 h4 fun i x y hx hy => ih i x y hx hy j (by omega)
/-- .. the very same -/
theorem Sme.self {t : Tb} {n : Nat} {d : D} {b : Bool} {xs : List D} (h : seqT d t = some (b, xs)) (hl : xs.length ≤ 5000) (hx : ∀ x ∈ xs, Sme t n x x) : Sme t (n + 1) d d :=
  .seq h h rfl hl fun k x y e1 e2 => by
    rw [e1] at e2; cases e2
    exact hx x (List.mem_of_getElem? e1)
theorem F_gc_def {k : Nat} {mb : MS} {ds : List D} {tb : Tb} {d : D} {t : Tb} (h : mb (ds.map some ++ List.replicate k none) tb = .rt d t) (hl : t.length ≤ tb.length) : mDef k mb ds tb = .ok d t := by
  unfold mDef
  rw [h]
  simp only
  rw [gc_same (Nat.le_trans hl (gcN_le _ _))]
/-- what is no list, no dict: the very value -/
theorem very_no {k n : Nat} {v : D} {t : Tb} (h : Sme t n v v) (hk : n + 2 ≤ k) (h1 : isiD [.list] v t = .ok (.bl false) t) (h2 : isiD [.dict] v t = .ok (.bl false) t) : (Fs k).law_very [v, v] t = .ok (.bl true) t := by
  obtain ⟨j, rfl⟩ := lev (n := 1) (k := k) (by omega)
  rw [F_law_very]
  refine F_gc_def ?_ (Nat.le_refl _)
  have e := h.ok j (by omega)
  simp only [b_law_very, List.map_cons, List.map_nil, List.replicate, List.cons_append, List.nil_append]
  simp [e, h1, h2]
theorem very_lst {k n m : Nat} {xs : List D} {t : Tb} (ht : t[n]? = some (.lst xs)) (h : Sme t m (.ref n) (.ref n)) (hk : m + 2 ≤ k) (hl : xs.length ≤ 4999) (h2 : Sme (t.set n (.lst (xs ++ [.str MORE]))) m (.ref n) (.ref n)) :
    (Fs k).law_very [.ref n, .ref n] t = .ok (.bl true) (t.set n (.lst (xs ++ [.str MORE]))) := by
  obtain ⟨j, rfl⟩ := lev (n := 1) (k := k) (by omega)
  have hn : n < t.length := (List.getElem?_eq_some_iff.mp ht).1
  rw [F_law_very]
  refine F_gc_def ?_ (by simp)
  have e := h.ok j (by omega)
  have e2 := h2.ok j (by omega)
  have i1 : isiD [.list] (.ref n) t = .ok (.bl true) t := by simp [isiD, tyD, Ty.has, ht]
  have i2 : isiD [.dict] (.ref n) (t.set n (.lst (xs ++ [.str MORE]))) = .ok (.bl false) (t.set n (.lst (xs ++ [.str MORE]))) := by simp [isiD, tyD, Ty.has, hn]
  have i3 : isLstT (.ref n) t = true := by simp [isLstT, lst?, ht]
  have i4 : appendD (.ref n) [.str MORE] t = .ok .non (t.set n (.lst (xs ++ [.str MORE]))) := append_at ht (by simp only [LIM]; omega)
  simp only [b_law_very, List.map_cons, List.map_nil, List.replicate, List.cons_append, List.nil_append]
  simp [e, i1, i3, i4, i2, e2]
theorem set_self {t : Tb} {n : Nat} {o : Ob} (h : t[n]? = some o) : t.set n o = t := by
  apply List.ext_getElem?
  intro i
  by_cases hi : n = i
  · subst hi
    rw [List.getElem?_set_self (List.getElem?_eq_some_iff.mp h).1, h]
  · rw [List.getElem?_set_ne hi]
/-- the dicts of this law -/
def KVS : List (List (DK × D)) := [[], [(.s MORE, .int 1)], [(.s [97], .int 1)], [(.s [97], .int 1), (.s MORE, .int 1)]]
theorem kv_ok {kvs : List (DK × D)} (h : kvs ∈ KVS) : kvs.length ≤ 2 ∧ (∀ kv ∈ kvs, ∃ cs, kv.1 = .s cs ∧ dget kvs (.s cs) = some (.int 1)) ∧ dput kvs (.s MORE) (.int 1) ∈ KVS := by
  simp only [KVS, List.mem_cons, List.not_mem_nil, or_false] at h
  rcases h with rfl | rfl | rfl | rfl <;> simp [dget, dput, KVS]
theorem same_dic {t : Tb} {n K : Nat} {kvs : List (DK × D)} (h : t[n]? = some (.dic false kvs)) (hk : kvs ∈ KVS) : (Fs (K + 2)).law_same [.ref n, .ref n] t = .ok (.bl true) t := by
  have hn : n < t.length := (List.getElem?_eq_some_iff.mp h).1
  obtain ⟨hl, hk, _⟩ := kv_ok hk
  rw [F_law_same]
  refine mDef_rt ?_
  have i1 : isiD [.bool] (.ref n) t = .ok (.bl false) t := by simp [isiD, tyD, Ty.has, h]
  have i2 : isiD [.int] (.ref n) t = .ok (.bl false) t := by simp [isiD, tyD, Ty.has, h]
  have i3 : isiD [.str] (.ref n) t = .ok (.bl false) t := by simp [isiD, tyD, Ty.has, h]
  have i4 : isiD [.dict] (.ref n) t = .ok (.bl true) t := by simp [isiD, tyD, Ty.has, h]
  have l1 : lenM (.ref n) t = .ok (.int (kvs.length : Int)) t := by simp [lenM, lst?, dic?, h]
  have hl : mLcN false 1 (gN 3) (mOr (mB (mOp (inD true) (mVar 3) (mVar 0))) (mNot (mB (mFn (mCall 2 (Fs (K + 1)).law_same) (mCons (mOp ixD (mVar 0) (mVar 3)) (mCons (mOp ixD (mVar 1) (mVar 3)) (mNil))))))) (mVar 3) [3] [some (.ref n), some (.ref n), none, none] t = .ok (.lst []) t := by
    have g : (t.set n (Ob.lck false kvs))[n]? = some (.lck false kvs) := by rw [List.getElem?_set_self hn]
    have go : mLcGo ⟨kvs.map fun p => dkD p.1, []⟩ (gN 3) (mOr (mB (mOp (inD true) (mVar 3) (mVar 0))) (mNot (mB (mFn (mCall 2 (Fs (K + 1)).law_same) (mCons (mOp ixD (mVar 0) (mVar 3)) (mCons (mOp ixD (mVar 1) (mVar 3)) (mNil))))))) (mVar 3) [3] [some (.ref n), some (.ref n), none, none] (kvs.map fun p => dkD p.1) [] (t.set n (Ob.lck false kvs)) = .ok [] (t.set n (Ob.lck false kvs)) :=
      lcGo_filter (it := ⟨kvs.map fun p => dkD p.1, []⟩) IT.kept0 _ [] (fun d hd => ⟨_, rfl, by
        obtain ⟨kv, hkv, rfl⟩ := List.mem_map.mp hd
        obtain ⟨cs, e0, e1⟩ := hk kv hkv
        have e2 : inD true (.str cs) (.ref n) (t.set n (Ob.lck false kvs)) = .ok (.bl false) (t.set n (Ob.lck false kvs)) := by
          simp [inD, isStrD, isDc, dic?, inM, g, dkOf, DK.fits, e1, neg']
        have e3 : ixD (.ref n) (.str cs) (t.set n (Ob.lck false kvs)) = .ok (.int 1) (t.set n (Ob.lck false kvs)) := by
          simp [ixD, isDc, dic?, ixM, g, dkOf, DK.fits, e1, optD]
        have e4 : (Fs (K + 1)).law_same [.int 1, .int 1] (t.set n (Ob.lck false kvs)) = .ok (.bl true) (t.set n (Ob.lck false kvs)) := same_int
        rw [e0]
        simp [wipeE, dkD, e2, e3, e4]⟩) (by simp [LIM]; omega)
    unfold mLcN
    simp only [List.getElem?_cons_succ, List.getElem?_cons_zero, seqIt, dKeys, h, Lk.set, go]
    simp [relock, Lk.back, hn, set_self h]
  simp only [b_law_same, List.map_cons, List.map_nil, List.replicate, List.cons_append, List.nil_append]
  simp [isN, i1, i2, i3, i4, l1, hl, eq_nil, LIM]
theorem very_dic {k n : Nat} {t : Tb} {kvs : List (DK × D)} (ht : t[n]? = some (.dic false kvs)) (hkv : kvs ∈ KVS) (hk : 3 ≤ k) :
    (Fs k).law_very [.ref n, .ref n] t = .ok (.bl true) (t.set n (.dic false (dput kvs (.s MORE) (.int 1)))) := by
  obtain ⟨j, rfl⟩ := lev (n := 3) (k := k) (by omega)
  have hn : n < t.length := (List.getElem?_eq_some_iff.mp ht).1
  obtain ⟨hl, _, hkv2⟩ := kv_ok hkv
  rw [F_law_very]
  refine F_gc_def ?_ (by simp)
  have e := same_dic (K := j) ht hkv
  have e2 := same_dic (K := j) (t := t.set n (.dic false (dput kvs (.s MORE) (.int 1)))) (n := n) (by rw [List.getElem?_set_self hn]) hkv2
  have i1 : isiD [.list] (.ref n) t = .ok (.bl false) t := by simp [isiD, tyD, Ty.has, ht]
  have i2 : isiD [.dict] (.ref n) t = .ok (.bl true) t := by simp [isiD, tyD, Ty.has, ht]
  have i4 : setD (.ref n) (.str MORE) (.int 1) t = some (t.set n (.dic false (dput kvs (.s MORE) (.int 1)))) := by
    simp [setD, ht, dkOf, DK.fits, LIM]; omega
  simp only [b_law_very, List.map_cons, List.map_nil, List.replicate, List.cons_append, List.nil_append]
  simp [e, i1, i2, i4, e2]
/-- the table behind draws and copies -/
structure Lp (b : Nat) (m : Int) (tb t : Tb) : Prop where
  up : Up b tb.length tb t
  hb : b < tb.length
  st : St b m t
theorem Lp.upd {b : Nat} {m m' : Int} {tb t t' : Tb} (h : Lp b m tb t) (u : Upd b t t') (s : St b m' t') : Lp b m' tb t' := ⟨h.up.upd u, h.hb, s⟩
theorem Lp.push {b : Nat} {m : Int} {tb t : Tb} {o : Ob} (h : Lp b m tb t) (ho : o.below (t.length + 1) = true) (hx : o.notExc = true) : Lp b m tb (t ++ [o]) := by
  obtain ⟨⟨x1, f, y1, z, h1, h2⟩, w⟩ := h.st
  have := h.up.le
  have := h.hb
  exact ⟨h.up.push, h.hb, ⟨⟨x1, f, y1, z, by rw [List.getElem?_append_left (by omega)]; exact h1, h2⟩, w.push ho hx⟩⟩
theorem Lp.set {b n : Nat} {m : Int} {tb t : Tb} {o : Ob} (h : Lp b m tb t) (hn : tb.length ≤ n) (ho : o.below t.length = true) (hx : o.notExc = true) : Lp b m tb (t.set n o) := by
  obtain ⟨⟨x1, f, y1, z, h1, h2⟩, w⟩ := h.st
  have := h.hb
  exact ⟨h.up.set hn, h.hb, ⟨⟨x1, f, y1, z, by rw [List.getElem?_set_ne (by omega)]; exact h1, h2⟩, w.set ho hx⟩⟩
def CopyAll (k : Nat) : List D → List D → Tb → Tb → Prop
  | [], [], t, t' => t' = t
  | x :: xs, y :: ys, t, t' => ∃ t1, (Fs k).law_copy [x] t = .ok y t1 ∧ CopyAll k xs ys t1 t'
  | _, _, _, _ => False
theorem copy_go {k : Nat} {v : D} : ∀ (xs ys acc : List D) (zs : List D) (t t' : Tb), CopyAll k xs ys t t' → acc.length + xs.length ≤ 5000 →
    mLcGo ⟨zs, []⟩ (gN 1) mYes (mFn (mCall 1 (Fs k).law_copy) (mCons (mVar 1) mNil)) [1] [some v, none, none] xs acc t = .ok (acc ++ ys) t'
  | [], [], acc, zs, t, t', h, _ => by
    have hk : IT.Kept ⟨zs, []⟩ t := IT.kept0
    cases h
    unfold mLcGo; rw [if_pos hk]; simp
  | x :: xs, y :: ys, acc, zs, t, t', ⟨t1, h1, h2⟩, hl => by
    have hk : IT.Kept ⟨zs, []⟩ t := IT.kept0
    simp only [List.length_cons] at hl
    have ih := copy_go (v := v) xs ys (acc ++ [y]) zs t1 t' h2 (by simp; omega)
    unfold mLcGo
    rw [if_pos ⟨hk, by simp only [LIM]; omega⟩]
    simp [wipeE, h1, ih]
theorem copy_lst {k : Nat} {xs ys : List D} {t t' : Tb} (h : CopyAll k xs ys t t') (hl : xs.length ≤ 5000) : (Fs (k + 1)).law_copy [.lst xs] t = .ok (.ref t'.length) (t' ++ [.lst ys]) := by
  rw [F_law_copy]
  have e : mLcN true 0 (gN 1) mYes (mFn (mCall 1 (Fs k).law_copy) (mCons (mVar 1) mNil)) [1] [some (.lst xs), none, none] t = .ok (.ref t'.length) (t' ++ [.lst ys]) := by
    rw [lcN_seq (d := .lst xs) rfl rfl]
    simp only
    rw [copy_go xs ys [] xs t t' h (by simpa using hl)]
    rfl
  have i1 : isiD [.list] (.lst xs) t = .ok (.bl true) t := by simp [isiD, tyD, Ty.has]
  have hb : b_law_copy (Fs k) [some (.lst xs), none, none] t = .rt (.ref t'.length) (t' ++ [.lst ys]) := by
    unfold b_law_copy
    simp [i1, e]
  refine mDef_rt' rfl hb ?_
  refine gc_same ?_
  simp only [gcN, List.length_append, List.length_cons, List.length_nil]
  exact Nat.le_max_right _ _
theorem copy_tup {k : Nat} {xs ys : List D} {t t' : Tb} (h : CopyAll k xs ys t t') (hl : xs.length ≤ 5000) (hg : gcTb t.length [.tup ys] t' = t') : (Fs (k + 1)).law_copy [.tup xs] t = .ok (.tup ys) t' := by
  rw [F_law_copy]
  have e : mLcN false 0 (gN 1) mYes (mFn (mCall 1 (Fs k).law_copy) (mCons (mVar 1) mNil)) [1] [some (.tup xs), none, none] t = .ok (.lst ys) t' := by
    rw [lcN_seq (d := .tup xs) rfl rfl]
    simp only
    rw [copy_go xs ys [] xs t t' h (by simpa using hl)]
    rfl
  have i1 : isiD [.list] (.tup xs) t = .ok (.bl false) t := by simp [isiD, tyD, Ty.has]
  have i2 : isiD [.tuple] (.tup xs) t = .ok (.bl true) t := by simp [isiD, tyD, Ty.has]
  have hb : b_law_copy (Fs k) [some (.tup xs), none, none] t = .rt (.tup ys) t' := by
    unfold b_law_copy
    simp [i1, i2, e, tupleD, lst?]
  exact mDef_rt' rfl hb hg
theorem copy_dic {k : Nat} {t : Tb} : (Fs (k + 1)).law_copy [.dic false []] t = .ok (.ref t.length) (t ++ [.dic false []]) := by
  rw [F_law_copy]
  have e : ∀ te, mLcN false 0 (gN 2) mYes te [2] [some (.dic false []), none, none] t = .ok (.lst []) t := fun te => by
    have go : mLcGo ⟨[], []⟩ (gN 2) mYes te [2] [some (.dic false []), none, none] [] [] t = .ok [] t :=
      lcGo_filter (it := ⟨[], []⟩) IT.kept0 [] [] (fun d hd => by cases hd) (by simp [LIM])
    unfold mLcN
    simp only [List.getElem?_cons_zero, seqIt, dKeys, Lk.set, List.map_nil, go]
    simp [relock, Lk.back]
  have i1 : isiD [.list] (.dic false []) t = .ok (.bl false) t := by simp [isiD, tyD, Ty.has]
  have i2 : isiD [.tuple] (.dic false []) t = .ok (.bl false) t := by simp [isiD, tyD, Ty.has]
  have i3 : isiD [.dict] (.dic false []) t = .ok (.bl true) t := by simp [isiD, tyD, Ty.has]
  have hb : b_law_copy (Fs k) [some (.dic false []), none, none] t = .rt (.ref t.length) (t ++ [.dic false []]) := by
    unfold b_law_copy
    simp [i1, i2, i3, e, dictD, lst?, newD, dmerge]
  refine mDef_rt' rfl hb ?_
  refine gc_same ?_
  simp only [gcN, List.length_append, List.length_cons, List.length_nil]
  exact Nat.le_max_right _ _
theorem copy_atom {k : Nat} {v : D} {t : Tb} (h1 : isiD [.list] v t = .ok (.bl false) t) (h2 : isiD [.tuple] v t = .ok (.bl false) t) (h3 : isiD [.dict] v t = .ok (.bl false) t) : (Fs (k + 1)).law_copy [v] t = .ok v t := by
  rw [F_law_copy]
  refine mDef_rt ?_
  simp only [b_law_copy, List.map_cons, List.map_nil, List.replicate, List.cons_append, List.nil_append]
  simp [h1, h2, h3]
theorem copy_str {k : Nat} {cs : List Nat} {t : Tb} : (Fs (k + 1)).law_copy [.str cs] t = .ok (.str cs) t := copy_atom (by simp [isiD, tyD, Ty.has]) (by simp [isiD, tyD, Ty.has]) (by simp [isiD, tyD, Ty.has])
theorem copy_int {k : Nat} {i : Int} {t : Tb} : (Fs (k + 1)).law_copy [.int i] t = .ok (.int i) t := copy_atom (by simp [isiD, tyD, Ty.has]) (by simp [isiD, tyD, Ty.has]) (by simp [isiD, tyD, Ty.has])
theorem copy_bl {k : Nat} {i : Bool} {t : Tb} : (Fs (k + 1)).law_copy [.bl i] t = .ok (.bl i) t := copy_atom (by simp [isiD, tyD, Ty.has]) (by simp [isiD, tyD, Ty.has]) (by simp [isiD, tyD, Ty.has])
theorem copy_non {k : Nat} {t : Tb} : (Fs (k + 1)).law_copy [.non] t = .ok .non t := copy_atom (by simp [isiD, tyD, Ty.has]) (by simp [isiD, tyD, Ty.has]) (by simp [isiD, tyD, Ty.has])
end L2.G.La
set_option maxHeartbeats 1000000
namespace L2.G.La
open PySem PySem.Spec PyProof.Rows
theorem mapM_ints (xs : List Int) : (xs.map fun x => D.int x).mapM int? = some xs := by
  induction xs with
  | nil => rfl
  | cons x xs ih => simp only [List.map_cons, List.mapM_cons, int?, ih]; rfl
theorem cell_ok {ns : List Int} {k i : Nat} {tb : Tb} (hk : 1 ≤ k) (hi : i ≤ 1000) : ∃ c, (Fs k).law_cell [.scr ns, .int (i : Int)] tb = .ok (.int c) tb := by
  obtain ⟨j, rfl⟩ := lev hk
  by_cases h : i < ns.length
  · refine ⟨ns[i], ?_⟩
    rw [F_law_cell]
    refine mDef_rt ?_
    have i1 : ixD (.scr ns) (.int (i : Int)) tb = .ok (.int ns[i]) tb := ix_scr (List.getElem?_eq_getElem h)
    have h' : (i : Int) < (ns.length : Int) := by omega
    simp only [b_law_cell, List.map_cons, List.map_nil, List.replicate, List.cons_append, List.nil_append]
    simp [len_scr, h', i1]
  · refine ⟨6010 * (i : Int) + (ns.take 1).sum % 1000033, ?_⟩
    rw [F_law_cell]
    refine mDef_rt ?_
    have h' : ¬ (i : Int) < (ns.length : Int) := by omega
    have s1 : slD false (.scr ns) none (some 1) tb = .ok (.lst ((ns.take 1).map D.int)) tb := by
      simp only [slD, lst?]
      rw [show (1 : Int) = ((1 : Nat) : Int) from rfl, cut_to]; rfl
    have s2 : sumD (.lst ((ns.take 1).map D.int)) tb = .ok (.int (ns.take 1).sum) tb := by
      simp only [sumD, ints?, lst?, Option.bind_some]
      rw [show (List.map D.int (List.take 1 ns)) = ((ns.take 1).map fun x => D.int x) from rfl, mapM_ints]; rfl
    have m1 : mulD false (.int 6010) (.int (i : Int)) tb = .ok (.int (6010 * (i : Int))) tb := mul_ii (.inl (by decide))
    have m2 : ∀ z, modD (.int z) (.int 1000033) tb = .ok (.int (z % 1000033)) tb := fun z => mod_ii (by decide)
    generalize List.take 1 ns = n1 at *
    simp only [b_law_cell, List.map_cons, List.map_nil, List.replicate, List.cons_append, List.nil_append]
    simp [len_scr, h', mSl, mPart, s1, s2, m1, m2]
theorem box_ok {k : Nat} {c : Int} {tb : Tb} (hk : 1 ≤ k) (w : Wf tb) : ∃ t, (Fs k).law_box [.int c] tb = .ok (.ref tb.length) t ∧ St tb.length 0 t := by
  obtain ⟨j, rfl⟩ := lev hk
  have ha : 0 ≤ (if c < 0 then -c else c) := by split <;> omega
  have a1 : absD (.int c) tb = .ok (.int (if c < 0 then -c else c)) tb := rfl
  generalize (if c < 0 then -c else c) = a at *
  have p30 : powD (.int 10) (.int 30) tb = .ok (.int (10 ^ 30)) tb := pow_ii (n := 30) (by decide) ⟨by omega, by omega⟩
  have p18 : powD (.int 10) (.int 18) tb = .ok (.int (10 ^ 18)) tb := pow_ii (n := 18) (by decide) ⟨by omega, by omega⟩
  have m1 : modD (.int a) (.int (10 ^ 30)) tb = .ok (.int (a % 10 ^ 30)) tb := mod_ii (by decide)
  have m2 : modD (.int a) (.int 2147483629) tb = .ok (.int (a % 2147483629)) tb := mod_ii (by decide)
  have hx : 0 ≤ a % 10 ^ 30 := Int.emod_nonneg _ (by decide)
  generalize hP : (10 : Int) ^ 30 = P at *
  refine ⟨tb ++ [.lst (bxL (a % P) (decide ((10 : Int) ^ 18 ≤ a)) (a % 2147483629) 0)], ?_, ⟨⟨a % P, decide ((10 : Int) ^ 18 ≤ a), a % 2147483629, 0, by simp, ⟨hx, by omega, by omega, by omega, by omega⟩⟩, w.push (by simp [Ob.below, bxL, belows, below]) rfl⟩⟩
  rw [F_law_box]
  have hb : b_law_box (Fs j) [some (.int c)] tb = .rt (.ref tb.length) (tb ++ [.lst (bxL (a % P) (decide ((10 : Int) ^ 18 ≤ a)) (a % 2147483629) 0)]) := by
    unfold b_law_box
    simp [LIM, bxL, a1, p30, p18, m1, m2]
  refine mDef_rt' rfl hb ?_
  refine gc_same ?_
  simp only [gcN, List.length_append, List.length_cons, List.length_nil]
  exact Nat.le_max_right _ _
end L2.G.La
set_option maxHeartbeats 1000000
namespace L2.G.La
open PySem PySem.Spec PyProof.Rows
/-- atoms -/
def Atm : D → Bool
  | .non => true
  | .bl _ => true
  | .int _ => true
  | .str cs => decide (cs.length ≤ 5000) && cs.all (fun c => decide (c < 1114112))
  | _ => false
theorem Atm.sme {t : Tb} {n : Nat} {d : D} (h : Atm d = true) : Sme t n d d := by
  cases d with
  | non => exact .non
  | bl _ => exact .bl
  | int _ => exact .int
  | str cs => simp only [Atm, Bool.and_eq_true, decide_eq_true_eq] at h; exact .str h.1 h.2
  | _ => cases h
theorem Atm.bel {n : Nat} {d : D} (h : Atm d = true) : below n d = true := by
  cases d <;> first | rfl | cases h
theorem Atm.bels {n : Nat} {xs : List D} (h : xs.all Atm = true) : belows n xs = true := belows_mem.mpr fun x hx => (List.all_eq_true.mp h x hx : Atm x = true) |> Atm.bel
theorem Atm.copy {k : Nat} {d : D} {t : Tb} (h : Atm d = true) : (Fs (k + 1)).law_copy [d] t = .ok d t := by
  cases d with
  | non => exact copy_non
  | bl _ => exact copy_bl
  | int _ => exact copy_int
  | str cs => exact copy_str
  | _ => cases h
theorem Atm.copyAll {k : Nat} {t : Tb} : ∀ {xs : List D}, xs.all Atm = true → CopyAll (k + 1) xs xs t t
  | [], _ => rfl
  | x :: xs, h => by
    simp only [List.all_cons, Bool.and_eq_true] at h
    exact ⟨t, Atm.copy h.1, Atm.copyAll h.2⟩
/-- values that the law copies: in a table, tracked from L on, not longer than N -/
inductive CV (L N : Nat) (t : Tb) : D → Prop
  | atom {v} : Atm v = true → CV L N t v
  | tup {xs} : xs.all Atm = true → xs.length ≤ 5000 → CV L N t (.tup xs)
  | tupl {x n ys} : Atm x = true → L ≤ n → t[n]? = some (.lst ys) → ys.all Atm = true → ys.length ≤ 5000 → CV L N t (.tup [x, .ref n])
  | lst {n xs} : L ≤ n → t[n]? = some (.lst xs) → xs.all Atm = true → xs.length ≤ N → CV L N t (.ref n)
  | dic {n kvs} : L ≤ n → t[n]? = some (.dic false kvs) → kvs ∈ KVS → CV L N t (.ref n)
theorem CV.keep {L N : Nat} {t t' : Tb} {v : D} (h : CV L N t v) (k : ∀ j, L ≤ j → below j v = false → t'[j]? = t[j]?) : CV L N t' v := by
  cases h with
  | atom h => exact .atom h
  | tup h1 h2 => exact .tup h1 h2
  | tupl h1 h2 h3 h4 h5 => exact .tupl h1 h2 (by rw [k _ h2 (by simp [below, belows])]; exact h3) h4 h5
  | lst h1 h2 h3 h4 => exact .lst h1 (by rw [k _ h1 (by simp [below])]; exact h2) h3 h4
  | dic h1 h2 h3 => exact .dic h1 (by rw [k _ h1 (by simp [below])]; exact h2) h3
theorem CV.mono {L L' N N' : Nat} {t : Tb} {v : D} (h : CV L N t v) (hL : L' ≤ L) (hN : N ≤ N') : CV L' N' t v := by
  cases h with
  | atom h => exact .atom h
  | tup h1 h2 => exact .tup h1 h2
  | tupl h1 h2 h3 h4 h5 => exact .tupl h1 (by omega) h3 h4 h5
  | lst h1 h2 h3 h4 => exact .lst (by omega) h2 h3 (by omega)
  | dic h1 h2 h3 => exact .dic (by omega) h2 h3
theorem CV.bel {L N : Nat} {t : Tb} {v : D} (h : CV L N t v) : below t.length v = true := by
  have g : ∀ {n : Nat} {x : Ob}, t[n]? = some x → n < t.length := fun {n x} e => (List.getElem?_eq_some_iff.mp e).1
  cases h with
  | atom h => exact Atm.bel h
  | tup h1 h2 => exact Atm.bels h1
  | tupl h1 h2 h3 h4 h5 => simp [below, belows, Atm.bel h1, g h3]
  | lst h1 h2 h3 h4 => simpa [below] using g h2
  | dic h1 h2 h3 => simpa [below] using g h2
theorem CV.upd {b L N : Nat} {t t' : Tb} {v : D} (h : CV L N t v) (u : Upd b t t') (hb : b < L) : CV L N t' v := h.keep fun j hj _ => u.eq _ (by omega)
/-- an error keeps the very value: whatever is told of it, it grows -/
theorem CV.very {b k L N : Nat} {m : Int} {tb t : Tb} {v : D} (h : CV L N t v) (l : Lp b m tb t) (hL : tb.length ≤ L) (hN : N ≤ 4000) (hk : 5 ≤ k) :
    ∃ t', (Fs k).law_very [v, v] t = .ok (.bl true) t' ∧ Lp b m tb t' ∧ CV L (N + 1) t' v ∧ t'.length = t.length ∧ (∀ j, v ≠ .ref j → t'[j]? = t[j]?) := by
  cases h with
  | atom h => exact ⟨_, very_no (n := 0) (Atm.sme h) (by omega) (by cases v <;> first | rfl | cases h) (by cases v <;> first | rfl | cases h), l, .atom h, rfl, fun _ _ => rfl⟩
  | tup h1 h2 => exact ⟨_, very_no (n := 1) (.self (b := false) rfl h2 fun x hx => Atm.sme (List.all_eq_true.mp h1 x hx)) (by omega) (by simp [isiD, tyD, Ty.has]) (by simp [isiD, tyD, Ty.has]), l, .tup h1 h2, rfl, fun _ _ => rfl⟩
  | @tupl x n ys h1 h2 h3 h4 h5 =>
    refine ⟨_, very_no (n := 2) (.self (b := false) rfl (by simp) fun y hy => ?_) (by omega) (by simp [isiD, tyD, Ty.has]) (by simp [isiD, tyD, Ty.has]), l, .tupl h1 h2 h3 h4 h5, rfl, fun _ _ => rfl⟩
    simp at hy
    rcases hy with rfl | rfl
    · exact Atm.sme h1
    · exact .self (b := true) (by simp [seqT, h3]) h5 fun x hx => Atm.sme (List.all_eq_true.mp h4 x hx)
  | @lst n xs h1 h2 h3 h4 =>
    have hlt : n < t.length := (List.getElem?_eq_some_iff.mp h2).1
    have a2 : (xs ++ [D.str MORE]).all Atm = true := by rw [List.all_append, h3]; decide
    have g2 : (t.set n (.lst (xs ++ [.str MORE])))[n]? = some (.lst (xs ++ [.str MORE])) := by rw [List.getElem?_set_self hlt]
    refine ⟨_, very_lst (m := 1) h2 (.self (b := true) (by simp [seqT, h2]) (by omega) fun x hx => Atm.sme (List.all_eq_true.mp h3 x hx)) (by omega) (by omega) (.self (b := true) (xs := xs ++ [.str MORE]) (by simp [seqT, g2]) (by simp; omega) fun x hx => Atm.sme (List.all_eq_true.mp a2 x hx)), l.set (by omega) (Atm.bels a2) rfl, .lst h1 g2 a2 (by simp; omega), by simp, fun j hj => by rw [List.getElem?_set_ne (fun e => hj (by rw [e]))]⟩
  | @dic n kvs h1 h2 h3 =>
    have hlt : n < t.length := (List.getElem?_eq_some_iff.mp h2).1
    have hk2 := (kv_ok h3).2.2
    refine ⟨_, very_dic h2 h3 (by omega), l.set (by omega) ?_ rfl, .dic h1 (by rw [List.getElem?_set_self hlt]) hk2, by simp, fun j hj => by rw [List.getElem?_set_ne (fun e => hj (by rw [e]))]⟩
    generalize dput kvs (.s MORE) (.int 1) = q at hk2
    simp only [KVS, List.mem_cons, List.not_mem_nil, or_false] at hk2
    rcases hk2 with rfl | rfl | rfl | rfl <;> simp [Ob.below, belowk, below]
theorem copy_dic1 {k : Nat} {t : Tb} : (Fs (k + 2)).law_copy [.dic false [(.s [97], .int 1)]] t = .ok (.ref t.length) (t ++ [.dic false [(.s [97], .int 1)]]) := by
  rw [F_law_copy]
  have e : mLcN false 0 (gN 2) mYes (mTup (mCons (mVar 2) (mCons (mFn (mCall 1 (Fs (k + 1)).law_copy) (mCons (mOp ixD (mVar 0) (mVar 2)) mNil)) mNil))) [2] [some (.dic false [(.s [97], .int 1)]), none, none] t = .ok (.lst [.tup [.str [97], .int 1]]) t := by
    have e3 : ixD (.dic false [(.s [97], .int 1)]) (.str [97]) t = .ok (.int 1) t := by
      simp [ixD, isDc, dic?, ixM, dkOf, DK.fits, dget, optD]
    have e4 : (Fs (k + 1)).law_copy [.int 1] t = .ok (.int 1) t := copy_int
    have go : mLcGo ⟨[.str [97]], []⟩ (gN 2) mYes (mTup (mCons (mVar 2) (mCons (mFn (mCall 1 (Fs (k + 1)).law_copy) (mCons (mOp ixD (mVar 0) (mVar 2)) mNil)) mNil))) [2] [some (.dic false [(.s [97], .int 1)]), none, none] [.str [97]] [] t = .ok [.tup [.str [97], .int 1]] t := by
      rw [lcGo_pure IT.kept0 (fun _ => .tup [.str [97], .int 1])]
      · rfl
      · intro d hd
        simp only [List.mem_singleton] at hd
        subst hd
        refine ⟨_, rfl, rfl, ?_⟩
        simp [wipeE, e3, e4, LIM]
      · simp [LIM]
    unfold mLcN
    simp only [List.getElem?_cons_zero, seqIt, dKeys, Lk.set, List.map_cons, List.map_nil, dkD, go]
    simp [relock, Lk.back]
  have i1 : isiD [.list] (.dic false [(.s [97], .int 1)]) t = .ok (.bl false) t := by simp [isiD, tyD, Ty.has]
  have i2 : isiD [.tuple] (.dic false [(.s [97], .int 1)]) t = .ok (.bl false) t := by simp [isiD, tyD, Ty.has]
  have i3 : isiD [.dict] (.dic false [(.s [97], .int 1)]) t = .ok (.bl true) t := by simp [isiD, tyD, Ty.has]
  have hb : b_law_copy (Fs (k + 1)) [some (.dic false [(.s [97], .int 1)]), none, none] t = .rt (.ref t.length) (t ++ [.dic false [(.s [97], .int 1)]]) := by
    unfold b_law_copy
    simp [i1, i2, i3, e, dictD, lst?, newD, dmerge, pair?, dkOf, dput]
  refine mDef_rt' rfl hb ?_
  refine gc_same ?_
  simp only [gcN, List.length_append, List.length_cons, List.length_nil]
  exact Nat.le_max_right _ _
/-- what the law copies -/
inductive CC : D → Prop
  | atom {v} : Atm v = true → CC v
  | tup {xs} : xs.all Atm = true → xs.length ≤ 5000 → CC (.tup xs)
  | tupl {x ys} : Atm x = true → ys.all Atm = true → ys.length ≤ 5000 → CC (.tup [x, .lst ys])
  | lst {xs} : xs.all Atm = true → xs.length ≤ 3000 → CC (.lst xs)
  | dic0 : CC (.dic false [])
  | dic1 : CC (.dic false [(.s [97], .int 1)])
theorem CC.copy {k b : Nat} {m : Int} {tb t : Tb} {c : D} (h : CC c) (hk : 6 ≤ k) (l : Lp b m tb t) :
    ∃ v t', (Fs k).law_copy [c] t = .ok v t' ∧ CV t.length 3000 t' v ∧ Lp b m tb t' ∧ (∀ j, j < t.length → t'[j]? = t[j]?) ∧ tyD v t' = tyD c t' ∧ gcTb (gcN t.length v) [v] t' = t' := by
  obtain ⟨j, rfl⟩ := lev hk
  have ext : ∀ o, ∀ j, j < t.length → (t ++ [o])[j]? = t[j]? := fun o j hj => List.getElem?_append_left hj
  have gr : ∀ o, gcTb (gcN t.length (.ref t.length)) [.ref t.length] (t ++ [o]) = t ++ [o] := fun o => gc_same (by simp only [gcN, List.length_append, List.length_cons, List.length_nil]; exact Nat.le_max_right _ _)
  cases h with
  | atom h => exact ⟨_, _, Atm.copy h, .atom h, l, fun _ _ => rfl, rfl, gc_self⟩
  | tup h1 h2 => exact ⟨_, _, copy_tup (Atm.copyAll h1) h2 (gc_same (Nat.le_refl _)), .tup h1 h2, l, fun _ _ => rfl, rfl, gc_self⟩
  | @tupl x ys h1 h2 h3 =>
    have g1 : ∀ t' : Tb, gcTb t.length [.tup [x, .ref t.length]] t' = t' := fun t' => by
      unfold gcTb
      split
      · rfl
      · rw [if_neg]; simp [belows, below]
    have c1 : (Fs (j + 5)).law_copy [.lst ys] t = .ok (.ref t.length) (t ++ [.lst ys]) := copy_lst (Atm.copyAll h2) h3
    have ca : CopyAll (j + 5) [x, .lst ys] [x, .ref t.length] t (t ++ [.lst ys]) := ⟨t, Atm.copy h1, _, c1, rfl⟩
    refine ⟨_, t ++ [.lst ys], copy_tup (k := j + 5) (xs := [x, .lst ys]) (ys := [x, .ref t.length]) (t' := t ++ [.lst ys]) ca (by simp) (g1 _), .tupl h1 (Nat.le_refl _) (by simp) h2 h3, l.push (o := .lst ys) (Atm.bels h2) rfl, ext _, rfl, g1 _⟩
  | lst h1 h2 => exact ⟨_, _, copy_lst (Atm.copyAll h1) (by omega), .lst (Nat.le_refl _) (by simp) h1 h2, l.push (Atm.bels h1) rfl, ext _, by simp [tyD], gr _⟩
  | dic0 => exact ⟨_, _, copy_dic, .dic (kvs := []) (Nat.le_refl _) (by simp) (by simp [KVS]), l.push rfl rfl, ext _, by simp [tyD], gr _⟩
  | dic1 => exact ⟨_, _, copy_dic1, .dic (kvs := [(.s [97], .int 1)]) (Nat.le_refl _) (by simp) (by simp [KVS]), l.push rfl rfl, ext _, by simp [tyD], gr _⟩
end L2.G.La
set_option maxHeartbeats 1000000
namespace L2.G.La
open PySem PySem.Spec PyProof.Rows
/-- a pure comprehension with a test -/
theorem lcGo_filt {it : IT} {g : MG} {tt : MT} {te : ME} {vs : List Nat} {env : Env} {tb : Tb} (hk : it.Kept tb) (p : D → Bool) (f : D → D) : ∀ (ds acc : List D),
    (∀ d ∈ ds, ∃ e, g d (wipeE env vs) tb = some (e, tb) ∧ tt e tb = .ok (p d) tb ∧ (p d = true → te e tb = .ok (f d) tb)) → acc.length + ds.length ≤ LIM → mLcGo it g tt te vs env ds acc tb = .ok (acc ++ (ds.filter p).map f) tb
  | [], acc, _, _ => by rw [mLcGo, if_pos hk]; simp
  | d :: ds, acc, h, hl => by
    obtain ⟨e, h1, h2, h3⟩ := h d List.mem_cons_self
    simp only [List.length_cons] at hl
    rw [mLcGo, if_pos ⟨hk, by omega⟩, h1]
    simp only [h2]
    cases hp : p d with
    | true =>
      simp only [h3 hp, if_true]
      rw [lcGo_filt hk p f ds _ (fun x hx => h x (List.mem_cons_of_mem _ hx)) (by simp; omega)]
      simp [hp]
    | false =>
      simp only [Bool.false_eq_true, if_false]
      rw [lcGo_filt hk p f ds _ (fun x hx => h x (List.mem_cons_of_mem _ hx)) (by omega)]
      simp [hp]
abbrev LETS : List Nat := [97, 98, 99, 100, 101, 102, 103, 104, 105, 106, 107, 108, 109, 110, 111, 112, 113, 114, 115, 116, 117, 118, 119, 120, 121, 122]
abbrev DIGS : List Nat := [48, 49, 50, 51, 52, 53, 54, 55, 56, 57]
theorem in_str {n : Bool} {c : Nat} {cs : List Nat} {tb : Tb} : inD n (.str [c]) (.str cs) tb = .ok (.bl (neg' n (decide (c ∈ cs)))) tb := by simp [inD, isStrD, inS]
/-- [c in L for c in text] -/
theorem lc_map {i j : Nat} {cs L : List Nat} {env : Env} {tb : Tb} (h : env[i]? = some (some (.str cs))) (hj : j < env.length) (hl : cs.length ≤ 5000) :
    mLcN false i (gN j) mYes (mOp (inD false) (mVar j) (mC (.str L))) [j] env tb = .ok (.lst (cs.map fun c => .bl (decide (c ∈ L)))) tb := by
  rw [lcN_seq (d := .str cs) h rfl, lcGo_pure IT.kept0 (fun x => match x with | .str [c] => .bl (decide (c ∈ L)) | x => x)]
  · simp [Function.comp_def]
  · intro d hd
    obtain ⟨c, hc, rfl⟩ := List.mem_map.mp hd
    refine ⟨_, rfl, rfl, ?_⟩
    simp [wipeE, hj, in_str, neg']
  · simp [LIM]; omega
theorem mapM_bl (f : Nat → Bool) (xs : List Nat) : (xs.map fun x => D.bl (f x)).mapM bl? = some (xs.map f) := by
  induction xs with
  | nil => rfl
  | cons x xs ih => simp only [List.map_cons, List.mapM_cons, bl?, ih]; rfl
theorem all_map {cs L : List Nat} {tb : Tb} : allD (.lst (cs.map fun c => .bl (decide (c ∈ L)))) tb = .ok (.bl (cs.all fun c => decide (c ∈ L))) tb := by
  have := mapM_bl (fun c => decide (c ∈ L)) cs
  simp [allD, lst?, this, optD, List.all_map, Function.comp_def]
theorem toP0s_str (cs : List Nat) : toP0s (cs.map fun c => D.str [c]) = some (cs.map fun c => PyData.str (tx [c])) := by
  induction cs with
  | nil => rfl
  | cons c cs ih => simp [toP0s, toP0, ih]
theorem eq_strs {cs : List Nat} {tb : Tb} {n : Bool} (h : cs.all (fun c => decide (c < 1114112)) = true) : eqP n (.lst (cs.map fun c => .str [c])) (.lst []) tb = .ok (.bl (if n = true then !cs.isEmpty else cs.isEmpty)) tb := by
  have e1 : toP (.lst (cs.map fun c => .str [c])) tb = some (.list (cs.map fun c => PyData.str (tx [c]))) := by simp [toP, toP1, toP0, toP0s_str]
  have e2 : toP (.lst []) tb = some (.list []) := by simp [toP, toP1, toP0, toP0s]
  have s1 : SeqAt.shaped (.list (cs.map fun c => PyData.str (tx [c]))) = true := by
    have key : ∀ cs : List Nat, cs.all (fun c => decide (c < 1114112)) = true → PyData.canLayAll0 (cs.map fun c => PyData.str (tx [c])) = true ∧ PyData.depthAll (cs.map fun c => PyData.str (tx [c])) ≤ 1 := by
      intro cs
      induction cs with
      | nil => simp [PyData.canLayAll0, PyData.depthAll]
      | cons c cs ih =>
        intro h
        simp only [List.all_cons, Bool.and_eq_true] at h
        have := ih h.2
        have q := shaped_str (cs := [c]) (by simpa using h.1)
        simp [SeqAt.shaped] at q
        simp [PyData.canLayAll0, PyData.depthAll, this.1, q.1]
        have : PyData.depth (.str (tx [c])) ≤ 1 := by simp [PyData.depth]
        omega
    have := key cs h
    simp [SeqAt.shaped, PyData.canLay0, PyData.depth, this.1]
    omega
  have s2 : SeqAt.shaped (.list []) = true := by simp [SeqAt.shaped, PyData.canLay0, PyData.canLayAll0, PyData.depth, PyData.depthAll]
  unfold eqP
  rw [e1, e2]
  simp only
  rw [if_pos ⟨s1, s2⟩]
  cases cs <;> simp [PyData.eqv, PyData.eqvAll]
/-- [c for c in text if c not in L] == [] -/
theorem lc_not {i j : Nat} {cs L : List Nat} {env : Env} {tb : Tb} {me : ME} (h : env[i]? = some (some (.str cs))) (hj : j < env.length) (hl : cs.length ≤ 5000) (hm : ∀ e, me e tb = .ok (.str L) tb) :
    mLcN false i (gN j) (mB (mOp (inD true) (mVar j) me)) (mVar j) [j] env tb = .ok (.lst ((cs.filter fun c => !decide (c ∈ L)).map fun c => .str [c])) tb := by
  rw [lcN_seq (d := .str cs) h rfl, lcGo_filt IT.kept0 (fun x => match x with | .str [c] => !decide (c ∈ L) | _ => false) (fun x => x)]
  · simp [List.filter_map, Function.comp_def]
  · intro d hd
    obtain ⟨c, hc, rfl⟩ := List.mem_map.mp hd
    refine ⟨_, rfl, ?_, fun _ => ?_⟩
    · simp [wipeE, hj, in_str, neg', hm]
    · simp [wipeE, hj]
  · simp [LIM]; omega
theorem filt_all {cs L : List Nat} : (cs.filter fun c => !decide (c ∈ L)).isEmpty = cs.all fun c => decide (c ∈ L) := by
  induction cs with
  | nil => rfl
  | cons c cs ih => 
    by_cases h : c ∈ L
    · simpa [h] using ih
    · simp [h]
theorem eq_not {cs L : List Nat} {tb : Tb} {n : Bool} (h : cs.all (fun c => decide (c < 1114112)) = true) : eqP n (.lst ((cs.filter fun c => !decide (c ∈ L)).map fun c => .str [c])) (.lst []) tb = .ok (.bl (if n = true then !(cs.all fun c => decide (c ∈ L)) else cs.all fun c => decide (c ∈ L))) tb := by
  rw [eq_strs (by rw [List.all_eq_true] at h ⊢; intro c hc; exact h c (List.mem_filter.mp hc).1), filt_all]
def allIn (L cs : List Nat) : Bool := cs.all fun c => decide (c ∈ L)
theorem lc_all {i j : Nat} {cs L : List Nat} {env : Env} {tb : Tb} (h : env[i]? = some (some (.str cs))) (hj : j < env.length) (hl : cs.length ≤ 5000) :
    mFn (on1 allD) (mCons (mLcN false i (gN j) mYes (mOp (inD false) (mVar j) (mC (.str L))) [j]) mNil) env tb = .ok (.bl (allIn L cs)) tb := by
  rw [u_fn, u_cons, lc_map h hj hl]
  simp only [Rs.bind_ok, u_nil, u_on1]
  exact all_map
theorem lc_none {i j : Nat} {cs L : List Nat} {env : Env} {tb : Tb} {me : ME} {n : Bool} (h : env[i]? = some (some (.str cs))) (hj : j < env.length) (hl : cs.length ≤ 5000) (hc : cs.all (fun c => decide (c < 1114112)) = true) (hm : ∀ e, me e tb = .ok (.str L) tb) :
    mOp (eqP n) (mLcN false i (gN j) (mB (mOp (inD true) (mVar j) me)) (mVar j) [j]) (mLst false mNil) env tb = .ok (.bl (if n = true then !allIn L cs else allIn L cs)) tb := by
  rw [u_op, lc_not h hj hl hm]
  simp only [Rs.bind_ok, u_lst, u_nil, List.length_nil, Nat.zero_le, if_true, u_newF]
  exact eq_not hc
end L2.G.La
set_option maxHeartbeats 1000000
namespace L2.G.La
open PySem PySem.Spec PyProof.Rows
def okS (cs : List Nat) : Bool := decide (cs.length ≤ 5000) && cs.all (fun c => decide (c < 1114112))
abbrev allL (cs : List Nat) : Bool := allIn LETS cs
theorem integer_ok {v : D} {tb : Tb} {o : Option Ty} {k : Nat} (h : tyD v tb = some o) (hk : 1 ≤ k) : (Fs k).is_integer [v] tb = .ok (.bl (decide (o = some .int))) tb := by
  obtain ⟨j, rfl⟩ := lev hk
  rw [F_is_integer]
  refine mDef_rt ?_
  simp only [b_is_integer, List.map_cons, List.map_nil, List.replicate, List.cons_append, List.nil_append]
  cases o with
  | none => simp [isiD, h, Ty.has]
  | some s => cases s <;> simp [isiD, h, Ty.has]
theorem text_str {cs : List Nat} {tb : Tb} {k : Nat} (h : okS cs = true) (hk : 1 ≤ k) : (Fs k).is_text [.str cs] tb = .ok (.bl (allL cs)) tb := by
  obtain ⟨j, rfl⟩ := lev hk
  simp only [okS, Bool.and_eq_true, decide_eq_true_eq] at h
  rw [F_is_text]
  refine mDef_rt ?_
  have e := fun tb => lc_all (i := 0) (j := 1) (cs := cs) (L := LETS) (env := [some (.str cs), none]) (tb := tb) rfl (by simp) h.1
  simp only [b_is_text, List.map_cons, List.map_nil, List.replicate, List.cons_append, List.nil_append]
  simp [isiD, tyD, Ty.has, ↓e]
theorem text_no {v : D} {tb : Tb} {o : Option Ty} {k : Nat} (h : tyD v tb = some o) (ho : o ≠ some .str) (hk : 1 ≤ k) : (Fs k).is_text [v] tb = .ok (.bl false) tb := by
  obtain ⟨j, rfl⟩ := lev hk
  rw [F_is_text]
  refine mDef_rt ?_
  simp only [b_is_text, List.map_cons, List.map_nil, List.replicate, List.cons_append, List.nil_append]
  cases o with
  | none => simp [isiD, h, Ty.has]
  | some s => cases s <;> first | exact absurd rfl ho | simp [isiD, h, Ty.has]
theorem letter_str {cs : List Nat} {tb : Tb} {k : Nat} (h : okS cs = true) (hk : 2 ≤ k) : (Fs k).is_letter [.str cs] tb = .ok (.bl (allL cs && decide (cs.length = 1))) tb := by
  obtain ⟨j, rfl⟩ := lev hk
  have e := text_str (tb := tb) (k := j + 1) h (by omega)
  simp only [okS, Bool.and_eq_true, decide_eq_true_eq] at h
  have l : lenM (.str cs) tb = .ok (.int (cs.length : Int)) tb := len_str (by simp only [LIM]; omega)
  rw [F_is_letter]
  refine mDef_rt ?_
  simp only [b_is_letter, List.map_cons, List.map_nil, List.replicate, List.cons_append, List.nil_append]
  cases hA : allL cs
  · simp [e, hA]
  · simp [e, hA, l]
    rw [Bool.eq_iff_iff]; simp; omega
theorem letter_no {v : D} {tb : Tb} {o : Option Ty} {k : Nat} (h : tyD v tb = some o) (ho : o ≠ some .str) (hk : 2 ≤ k) : (Fs k).is_letter [v] tb = .ok (.bl false) tb := by
  obtain ⟨j, rfl⟩ := lev hk
  have e := text_no (k := j + 1) h ho (by omega)
  rw [F_is_letter]
  refine mDef_rt ?_
  simp only [b_is_letter, List.map_cons, List.map_nil, List.replicate, List.cons_append, List.nil_append]
  simp [e]
theorem name_str {cs : List Nat} {tb : Tb} {k : Nat} (h : okS cs = true) (hk : 2 ≤ k) : (Fs k).is_name [.str cs] tb = .ok (.bl (allL cs && decide (0 < cs.length ∧ cs.length < 9))) tb := by
  obtain ⟨j, rfl⟩ := lev hk
  have e := text_str (tb := tb) (k := j + 1) h (by omega)
  simp only [okS, Bool.and_eq_true, decide_eq_true_eq] at h
  have l : lenM (.str cs) tb = .ok (.int (cs.length : Int)) tb := len_str (by simp only [LIM]; omega)
  rw [F_is_name]
  refine mDef_rt ?_
  simp only [b_is_name, List.map_cons, List.map_nil, List.replicate, List.cons_append, List.nil_append]
  cases hA : allL cs
  · simp [e, hA]
  · by_cases h1 : (1 : Int) ≤ (cs.length : Int)
    · simp [e, hA, l, h1]
      rw [Bool.eq_iff_iff]; simp; omega
    · simp [e, hA, l, h1]; omega
theorem name_no {v : D} {tb : Tb} {o : Option Ty} {k : Nat} (h : tyD v tb = some o) (ho : o ≠ some .str) (hk : 2 ≤ k) : (Fs k).is_name [v] tb = .ok (.bl false) tb := by
  obtain ⟨j, rfl⟩ := lev hk
  have e := text_no (k := j + 1) h ho (by omega)
  rw [F_is_name]
  refine mDef_rt ?_
  simp only [b_is_name, List.map_cons, List.map_nil, List.replicate, List.cons_append, List.nil_append]
  simp [e]
theorem kinds_str {cs : List Nat} {tb : Tb} {k : Nat} (h : okS cs = true) (hk : 2 ≤ k) : (Fs k).law_kinds [.str cs] tb = .ok (.lst [.bl false, .bl (allL cs && decide (cs.length = 1)), .bl (allL cs), .bl (allL cs && decide (0 < cs.length ∧ cs.length < 9))]) tb := by
  obtain ⟨j, rfl⟩ := lev hk
  simp only [okS, Bool.and_eq_true, decide_eq_true_eq] at h
  have l : lenM (.str cs) tb = .ok (.int (cs.length : Int)) tb := len_str (by simp only [LIM]; omega)
  have e0 : ∀ tb, (Fs (j + 1)).law_letters [] tb = .ok (.str LETS) tb := fun tb => by
    rw [F_law_letters]
    exact mDef_rt (by simp [b_law_letters])
  have e := fun tb => lc_none (n := false) (i := 0) (j := 2) (cs := cs) (L := LETS) (env := [some (.str cs), none, none]) (tb := tb) (me := mKw 0 0 [] 0 (Fs (j + 1)).law_letters mNil mNil) rfl (by simp) h.1 h.2 (fun _ => by simp [mKw, permL, e0 tb])
  rw [F_law_kinds]
  refine mDef_rt ?_
  simp only [b_law_kinds, List.map_cons, List.map_nil, List.replicate, List.cons_append, List.nil_append]
  cases hA : allL cs
  · simp [isiD, tyD, Ty.has, ↓e, hA, LIM]
  · have q1 : ((cs.length : Int) == 1) = decide (cs.length = 1) := by rw [Bool.eq_iff_iff]; simp; omega
    by_cases h1 : 0 < cs.length
    · simp [isiD, tyD, Ty.has, ↓e, hA, LIM, l, h1, q1]
      omega
    · simp [isiD, tyD, Ty.has, ↓e, hA, LIM, l, h1, q1]
theorem kinds_no {v : D} {tb : Tb} {o : Option Ty} {k : Nat} (h : tyD v tb = some o) (ho : o ≠ some .str) (hk : 2 ≤ k) : (Fs k).law_kinds [v] tb = .ok (.lst [.bl (decide (o = some .int)), .bl false, .bl false, .bl false]) tb := by
  obtain ⟨j, rfl⟩ := lev hk
  rw [F_law_kinds]
  refine mDef_rt ?_
  simp only [b_law_kinds, List.map_cons, List.map_nil, List.replicate, List.cons_append, List.nil_append]
  cases o with
  | none => simp [isiD, h, Ty.has, LIM]
  | some s => cases s <;> first | exact absurd rfl ho | simp [isiD, h, Ty.has, LIM]
end L2.G.La
set_option maxHeartbeats 1000000
namespace L2.G.La
open PySem PySem.Spec PyProof.Rows
def isM (cs : List Nat) : Bool := decide (cs.take 1 = [45])
def dgs (cs : List Nat) : List Nat := if isM cs = true then cs.drop 1 else cs
def goodN (cs : List Nat) : Bool := decide (1 ≤ (dgs cs).length ∧ (dgs cs).length ≤ 30) && allIn DIGS (dgs cs) && !(decide ((dgs cs).head? = some 48) && decide (cs ≠ [48]))
def valN (cs : List Nat) : Int := if isM cs = true then -((NumText.digitsVal (dgs cs) : Nat) : Int) else ((NumText.digitsVal (dgs cs) : Nat) : Int)
theorem okS_sub {cs ds : List Nat} (h : okS cs = true) (hl : ds.length ≤ cs.length) (hs : ∀ c ∈ ds, c ∈ cs) : okS ds = true := by
  simp only [okS, Bool.and_eq_true, decide_eq_true_eq, List.all_eq_true] at h ⊢
  exact ⟨by omega, fun c hc => h.2 c (hs c hc)⟩
theorem dgs_len {cs : List Nat} : (dgs cs).length ≤ cs.length := by unfold dgs; split <;> simp
theorem dgs_ok {cs : List Nat} (h : okS cs = true) : okS (dgs cs) = true := okS_sub h dgs_len fun c hc => by
  unfold dgs at hc
  split at hc
  · exact List.mem_of_mem_drop hc
  · exact hc
theorem okS_l {cs : List Nat} (h : okS cs = true) : cs.length ≤ 5000 := by
  simp only [okS, Bool.and_eq_true, decide_eq_true_eq] at h; exact h.1
theorem okS_c {cs : List Nat} (h : okS cs = true) : cs.all (fun c => decide (c < 1114112)) = true := by
  simp only [okS, Bool.and_eq_true, decide_eq_true_eq] at h; exact h.2
theorem sl_strT {cs : List Nat} {tb : Tb} {n : Nat} (h : cs.length ≤ 5000) : slD false (.str cs) none (some (n : Int)) tb = .ok (.str (cs.take n)) tb := by
  simp only [slD, lst?]
  rw [if_pos (by simp only [LIM]; omega), cut_to]
theorem sl_strF {cs : List Nat} {tb : Tb} {n : Nat} (h : cs.length ≤ 5000) : slD false (.str cs) (some (n : Int)) none tb = .ok (.str (cs.drop n)) tb := by
  simp only [slD, lst?]
  rw [if_pos (by simp only [LIM]; omega), cut_from]
theorem eq_take {cs : List Nat} {tb : Tb} (h : okS cs = true) : eqP false (.str (cs.take 1)) (.str [45]) tb = .ok (.bl (isM cs)) tb := by
  rw [eq_ss (okS_c (okS_sub h (by simp; omega) fun c hc => List.mem_of_mem_take hc)) (by decide)]
  simp [isM]
theorem ix0 {cs : List Nat} {c : Nat} {r : List Nat} {tb : Tb} (h : cs = c :: r) (hl : cs.length ≤ 5000) : ixD (.str cs) (.int 0) tb = .ok (.str [c]) tb := by
  have := ix_str (cs := cs) (n := 0) (c := c) (tb := tb) (by simp only [LIM]; omega) (by rw [h]; rfl)
  simpa using this
theorem digits_ok {cs : List Nat} {tb : Tb} {k : Nat} (h : okS cs = true) (hk : 1 ≤ k) : (Fs k).digits_of [.str cs] tb = .ok (if goodN cs = true then .str (dgs cs) else .non) tb := by
  obtain ⟨j, rfl⟩ := lev hk
  have hl := okS_l h
  have t1 : ∀ tb, slD false (.str cs) none (some 1) tb = .ok (.str (cs.take 1)) tb := fun tb => sl_strT (n := 1) hl
  have t2 : ∀ tb, slD false (.str cs) (some 1) none tb = .ok (.str (cs.drop 1)) tb := fun tb => sl_strF (n := 1) hl
  have q1 : ∀ tb, eqP false (.str (cs.take 1)) (.str [45]) tb = .ok (.bl (isM cs)) tb := fun tb => eq_take h
  have hd := dgs_ok h
  have hdl := okS_l hd
  have ld : ∀ tb, lenM (.str (dgs cs)) tb = .ok (.int ((dgs cs).length : Int)) tb := fun tb => len_str (by simp only [LIM]; omega)
  have e := fun tb => lc_all (i := 1) (j := 2) (cs := dgs cs) (L := DIGS) (env := [some (.str cs), some (.str (dgs cs)), none]) (tb := tb) rfl (by simp) hdl
  rw [F_digits_of]
  refine mDef_rt ?_
  have h1 : (mSet 1 (mIfE (mB (mOp (eqP false) (mSl false (mVar 0) none (some (mC (.int 1)))) (mC (.str [45])))) (mSl false (mVar 0) (some (mC (.int 1))) none) (mVar 0))) [some (.str cs), none, none] tb = .nx [some (.str cs), some (.str (dgs cs)), none] tb := by
    cases hm : isM cs
    · simp [mSl, mPart, t1, t2, q1, hm, dgs]
    · simp [mSl, mPart, t1, t2, q1, hm, dgs]
  simp only [b_digits_of, List.map_cons, List.map_nil, List.replicate, List.cons_append, List.nil_append]
  rw [u_seq, h1]
  simp only
  unfold goodN
  generalize hD : dgs cs = D' at *
  by_cases c1 : (1 : Int) ≤ (D'.length : Int)
  · by_cases c2 : (D'.length : Int) ≤ 30
    · cases hA : allIn DIGS D'
      · simp [↓e, ld, c1, c2, hA]
      · cases D' with
        | nil => simp at c1
        | cons c r =>
          have ec : okS [c] = true := okS_sub hd (by simp) fun x hx => by simp at hx; simp [hx]
          have i0 : ∀ tb, ixD (.str (c :: r)) (.int 0) tb = .ok (.str [c]) tb := fun tb => ix0 rfl hdl
          have q2 : ∀ tb, eqP false (.str [c]) (.str [48]) tb = .ok (.bl (decide (c = 48))) tb := fun tb => by rw [eq_ss (okS_c ec) (by decide)]; simp
          have q3 : ∀ tb, eqP true (.str cs) (.str [48]) tb = .ok (.bl (decide (cs ≠ [48]))) tb := fun tb => by rw [eq_ss (okS_c h) (by decide)]; simp
          generalize hN : (c :: r).length = N at *
          have c3 : 1 ≤ N ∧ N ≤ 30 := by omega
          have g : decide ((c :: r).head? = some 48) = decide (c = 48) := by simp
          rw [g]
          generalize decide (c = 48) = b1 at *
          generalize decide (cs ≠ [48]) = b2 at *
          cases b1 <;> cases b2 <;> simp [↓e, ld, c1, c2, hA, i0, q2, q3, c3]
    · have c2' : ¬ D'.length ≤ 30 := by omega
      simp [↓e, ld, c1, c2, c2']
  · have c1' : ¬ 1 ≤ D'.length := by omega
    simp [↓e, ld, c1, c1']
end L2.G.La
set_option maxHeartbeats 1000000
namespace L2.G.La
open PySem PySem.Spec PyProof.Rows
theorem idx_dig {c : Nat} {tb : Tb} (h : c ∈ DIGS) : indexD (.str DIGS) [.str [c]] tb = .ok (.int ((c - 48 : Nat) : Int)) tb := by
  have e : Txt.index0 (tx DIGS) (tx [c]) = some (c - 48) := by
    simp only [DIGS, List.mem_cons, List.not_mem_nil, or_false] at h
    rcases h with rfl | rfl | rfl | rfl | rfl | rfl | rfl | rfl | rfl | rfl <;> decide +kernel
  simp only [indexD, e]
theorem val_snoc {ds : List Nat} {i c : Nat} (h : ds[i]? = some c) : NumText.digitsVal (ds.take (i + 1)) = NumText.digitsVal (ds.take i) * 10 + (c - 48) := by
  rw [List.take_add_one, h]
  simp [NumText.digitsVal, List.foldl_append]
theorem m_head {cs : List Nat} (h : isM cs = true) : cs = 45 :: dgs cs := by
  have h' := h
  unfold dgs
  rw [if_pos h]
  cases cs with
  | nil => simp [isM] at h'
  | cons c r => simp [isM] at h'; simp [h']
theorem good_cond {cs : List Nat} {c : Nat} {r : List Nat} (hD : dgs cs = c :: r) : (decide (c = 48) && (decide (1 < (c :: r).length) || isM cs)) = (decide (c = 48) && decide (cs ≠ [48])) := by
  by_cases hc : c = 48
  · cases hm : isM cs
    · have : cs = c :: r := by unfold dgs at hD; rw [hm] at hD; simpa using hD
      subst hc
      rw [this]
      cases r <;> simp
    · have := m_head hm
      have : cs ≠ [48] := by rw [this]; simp
      simp [this]
  · simp [hc]
theorem number_wp {cs : List Nat} {tb : Tb} {k : Nat} (h : okS cs = true) (hk : 1 ≤ k) : Wp ((Fs k).law_number [.str cs] tb) (fun d t => d = (if goodN cs = true then .int (valN cs) else .non) ∧ t = tb) noX := by
  obtain ⟨j, rfl⟩ := lev hk
  have hl := okS_l h
  have t1 : ∀ tb, slD false (.str cs) none (some 1) tb = .ok (.str (cs.take 1)) tb := fun tb => sl_strT (n := 1) hl
  have t2 : ∀ tb, slD false (.str cs) (some 1) none tb = .ok (.str (cs.drop 1)) tb := fun tb => sl_strF (n := 1) hl
  have t3 : ∀ tb, slD false (.str cs) (some 0) none tb = .ok (.str cs) tb := fun tb => by have := sl_strF (n := 0) (tb := tb) hl; simpa using this
  have q1 : ∀ tb, eqP false (.str (cs.take 1)) (.str [45]) tb = .ok (.bl (isM cs)) tb := fun tb => eq_take h
  have hd := dgs_ok h
  have hdl := okS_l hd
  have ld : ∀ tb, lenM (.str (dgs cs)) tb = .ok (.int ((dgs cs).length : Int)) tb := fun tb => len_str (by simp only [LIM]; omega)
  have e := fun tb => lc_none (n := true) (i := 2) (j := 4) (cs := dgs cs) (L := DIGS) (env := [some (.str cs), some (.bl (isM cs)), some (.str (dgs cs)), none, none]) (tb := tb) (me := mC (.str DIGS)) rfl (by simp) hdl (okS_c hd) (fun _ => rfl)
  rw [F_law_number, wp_def]
  have h1 : (mSet 1 (mAndV (mUn (isiD [.str]) (mVar 0)) (mOp (eqP false) (mSl false (mVar 0) none (some (mC (.int 1)))) (mC (.str [45]))))) [some (.str cs), none, none, none, none] tb = .nx [some (.str cs), some (.bl (isM cs)), none, none, none] tb := by
    simp [mSl, mPart, t1, q1, isiD, tyD, Ty.has]
  have h2 : (mSet 2 (mIfE (mB (mUn (isiD [.str]) (mVar 0))) (mSl false (mVar 0) (some (mFn (on1 intX) (mCons (mVar 1) mNil))) none) (mC (.str [])))) [some (.str cs), some (.bl (isM cs)), none, none, none] tb = .nx [some (.str cs), some (.bl (isM cs)), some (.str (dgs cs)), none, none] tb := by
    cases hm : isM cs <;> simp [mSl, mPart, t2, t3, isiD, tyD, Ty.has, dgs, hm]
  simp only [b_law_number, List.map_cons, List.map_nil, List.replicate, List.cons_append, List.nil_append]
  rw [ws_seq, h1]
  simp only [ws_nx, seqK_nx]
  rw [ws_seq, h2]
  simp only [ws_nx, seqK_nx]
  have q0 : ∀ tb, eqP false (.str (dgs cs)) (.str []) tb = .ok (.bl (decide (dgs cs = []))) tb := fun tb => by rw [eq_ss (okS_c hd) rfl]; simp
  have gN1 : goodN cs = (decide (1 ≤ (dgs cs).length ∧ (dgs cs).length ≤ 30) && allIn DIGS (dgs cs) && !(decide ((dgs cs).head? = some 48) && decide (cs ≠ [48]))) := rfl
  have vN : valN cs = if isM cs = true then -((NumText.digitsVal (dgs cs) : Nat) : Int) else ((NumText.digitsVal (dgs cs) : Nat) : Int) := rfl
  have e' : ∀ (tb : Tb) (Q : D → Tb → Prop) (X : XP), Wp (mOp (eqP true) (mLcN false 2 (gN 4) (mB (mOp (inD true) (mVar 4) (mC (.str DIGS)))) (mVar 4) [4]) (mLst false mNil) [some (.str cs), some (.bl (isM cs)), some (.str (dgs cs)), none, none] tb) Q X = Q (.bl (!allIn DIGS (dgs cs))) tb := fun tb Q X => by rw [e tb]; simp
  have gc := fun c r => good_cond (cs := cs) (c := c) (r := r)
  rw [gN1, vN]
  generalize hD : dgs cs = D' at *
  clear h1 h2 t1 t2 t3 q1 gN1 vN
  cases hne : decide (D' = [])
  · by_cases c2 : (30 : Int) < (D'.length : Int)
    · have c2' : ¬ D'.length ≤ 30 := by omega
      simp [↓e', gc_self, ld, q0, hne, c2, c2', isN]
    · cases hA : allIn DIGS D'
      · simp [↓e', gc_self, ld, q0, hne, c2, hA]
      · cases D' with
        | nil => simp at hne
        | cons c r =>
          have ec : okS [c] = true := okS_sub hd (by simp) fun x hx => by simp at hx; simp [hx]
          have i0 : ∀ tb, ixD (.str (c :: r)) (.int 0) tb = .ok (.str [c]) tb := fun tb => ix0 rfl hdl
          have q2 : ∀ tb, eqP false (.str [c]) (.str [48]) tb = .ok (.bl (decide (c = 48))) tb := fun tb => by rw [eq_ss (okS_c ec) (by decide)]; simp
          have g := gc c r rfl
          have hN0 : 1 ≤ (c :: r).length := by simp
          generalize hN : (c :: r).length = N at *
          have c3 : 1 ≤ N ∧ N ≤ 30 := by omega
          have c4 : decide (1 < N) = decide ((1 : Int) < (N : Int)) := by rw [Bool.eq_iff_iff]; simp; omega
          rw [c4] at g
          have gg : decide ((c :: r).head? = some 48) = decide (c = 48) := by simp
          rw [gg]
          generalize decide (c = 48) = b1 at *
          generalize decide (cs ≠ [48]) = b2 at *
          have lp : Ws (mSeq (mSet 3 (mC (.int 0))) (mSeq (mFor (mItV (mVar 2)) (gN 4) (mSet 3 (mOp (addD false) (mOp (mulD false) (mC (.int 10)) (mVar 3)) (mMt isStrT indexD (mC (.str DIGS)) (mCons (mVar 4) mNil)))) (mSkip)) (mRet (mIfE (mB (mVar 1)) (mOp (subD) (mC (.int 0)) (mVar 3)) (mVar 3)))) [some (.str cs), some (.bl (isM cs)), some (.str (c :: r)), none, none] tb) (defK tb.length (fun d t => d = (.int (if isM cs = true then -((NumText.digitsVal (c :: r) : Nat) : Int) else ((NumText.digitsVal (c :: r) : Nat) : Int))) ∧ t = tb) noX) := by
            clear e e' ld q0 i0 q2 g gc gg
            generalize c :: r = L at *
            simp [seqIt]
            refine ws_loop (it := ⟨_, []⟩) (fun i e t => ∃ y, e = [some (.str cs), some (.bl (isM cs)), some (.str L), some (.int ((NumText.digitsVal (L.take i) : Nat) : Int)), y] ∧ t = tb) ?_ ?_ ?_
            · exact ⟨_, rfl, rfl⟩
            · rintro i d e t hi ⟨y, rfl, rfl⟩
              obtain ⟨x, hx, rfl⟩ : ∃ x, L[i]? = some x ∧ d = .str [x] := by
                have : (L.map fun c => D.str [c])[i]? = some d := hi
                rw [List.getElem?_map, Option.map_eq_some_iff] at this
                obtain ⟨x, h1, h2⟩ := this
                exact ⟨x, h1, h2.symm⟩
              have hxm : x ∈ DIGS := by
                have := List.all_eq_true.mp hA x (List.mem_of_getElem? hx)
                simpa using this
              have m10 : ∀ (z : Int) tb, mulD false (.int 10) (.int z) tb = .ok (.int (10 * z)) tb := fun z tb => mul_ii (.inl (by decide))
              refine ⟨IT.kept0, _, _, rfl, ?_⟩
              have ei := fun tb => idx_dig (tb := tb) hxm
              simp [m10, ei, isStrT]
              rw [val_snoc hx]
              push_cast
              omega
            · rintro e t ⟨y, rfl, rfl⟩
              refine ⟨IT.kept0, ?_⟩
              have hlen : (L.map fun c => D.str [c]).length = L.length := by simp
              simp only [hlen, List.take_length]
              cases hm : isM cs <;> simp [gc_self]
          cases hb : (b1 && (decide ((1 : Int) < (N : Int)) || isM cs))
          · have hb2 : (b1 && b2) = false := by rw [← g]; exact hb
            have hg : (decide (1 ≤ N ∧ N ≤ 30) && true && !(b1 && b2)) = true := by rw [hb2]; simp [c3]
            rw [hg, if_pos rfl]
            rw [hA] at e'
            rw [ws_seq]
            refine ws_mid (fun e t => e = [some (.str cs), some (.bl (isM cs)), some (.str (c :: r)), none, none] ∧ t = tb) ?_ ?_
            · simp [↓e', ld, q0, hne, c2]
            intro e2 t2 h2
            rw [h2.1, h2.2]
            rw [ws_seq]
            refine ws_mid (fun e t => e = [some (.str cs), some (.bl (isM cs)), some (.str (c :: r)), none, none] ∧ t = tb) ?_ ?_
            · cases b1
              · simp [i0, q2]
              · by_cases c5 : (1 : Int) < (N : Int)
                · simp [c5] at hb
                · cases hm : isM cs
                  · simp [i0, q2, ld, c5]
                  · simp [hm] at hb
            intro e2 t2 h2
            rw [h2.1, h2.2]
            exact lp
          · have hb2 : (b1 && b2) = true := by rw [← g]; exact hb
            have hg : (decide (1 ≤ N ∧ N ≤ 30) && true && !(b1 && b2)) = false := by rw [hb2]; simp
            rw [hg]
            rw [hA] at e'
            have hb1 : b1 = true := by cases b1 <;> simp at hb ⊢
            subst hb1
            by_cases c5 : (1 : Int) < (N : Int)
            · simp [↓e', ld, q0, hne, c2, i0, q2, c5, gc_self]
            · have hm : isM cs = true := by simpa [c5] using hb
              rw [hm] at e' ⊢
              simp [↓e', ld, q0, hne, c2, i0, q2, c5, gc_self]
  · have : D' = [] := by simpa using hne
    subst this
    simp [q0, gc_self]
end L2.G.La
set_option maxHeartbeats 1000000
namespace L2.G.La
open PySem PySem.Spec PyProof.Rows
abbrev VAL : List Nat := [118, 97, 108, 117, 101]
abbrev TOLD : List Nat := [116, 111, 108, 100]
abbrev INTE : List Nat := [105, 110, 116, 101, 103, 101, 114]
abbrev LINE : List Nat := [108, 105, 110, 101]
abbrev MINI : List Nat := [109, 105, 110, 105, 109, 117, 109]
abbrev MAXI : List Nat := [109, 97, 120, 105, 109, 117, 109]
def lD : Option Int → D
  | none => .non
  | some i => .int i
/-- the number of a value -/
def numV : D → Option Int
  | .str cs => if goodN cs = true then some (valN cs) else none
  | _ => none
def inR (n : Int) (lo hi : Option Int) : Bool := (match lo with | some l => !decide (n < l) | none => true) && (match hi with | some h => !decide (h < n) | none => true)
def dueN (v : Option Int) (lo hi : Option Int) : Option Int := match v with
  | some n => if inR n lo hi = true then some n else none
  | none => none
theorem lD_ty {o : Option Int} {tb : Tb} : tyD (lD o) tb = some (match o with | some _ => some .int | none => none) := by cases o <;> rfl
theorem ln : lD none = .non := rfl
theorem limit_ok {o : Option Int} {tb : Tb} {k : Nat} (hk : 2 ≤ k) : (Fs k).check_limit [lD o] tb = .ok .non tb := by
  obtain ⟨j, rfl⟩ := lev hk
  rw [F_check_limit]
  have hb : b_check_limit (Fs (j + 1)) ([lD o].map some ++ List.replicate 0 none) tb = .nx [some (lD o)] tb := by
    have e := integer_ok (v := lD o) (tb := tb) (k := j + 1) lD_ty (by omega)
    simp only [b_check_limit, List.map_cons, List.map_nil, List.replicate, List.cons_append, List.nil_append]
    cases o with
    | none => simp [lD, isN]
    | some i => simp [lD] at e; simp [lD, isN, e]
  unfold mDef
  rw [hb]
  simp only [gc_self0]
theorem limit_ex {v : D} {tb : Tb} {o : Option Ty} {k : Nat} (hk : 2 ≤ k) (h : tyD v tb = some o) (h1 : isN v = false) (h2 : o ≠ some .int) : (Fs k).check_limit [v] tb = .ex 0 [(VAL, v)] tb := by
  obtain ⟨j, rfl⟩ := lev hk
  rw [F_check_limit]
  have hb : b_check_limit (Fs (j + 1)) ([v].map some ++ List.replicate 0 none) tb = .ex 0 [(VAL, v)] [some v] tb := by
    have e := integer_ok (k := j + 1) h (by omega)
    simp only [h2, decide_false] at e
    simp only [b_check_limit, List.map_cons, List.map_nil, List.replicate, List.cons_append, List.nil_append]
    simp [h1, e]
  unfold mDef
  rw [hb]
  simp only [gc_self0]
/-- what may be asked of a text -/
inductive TextV (tb : Tb) : D → Prop
  | str {cs} : okS cs = true → TextV tb (.str cs)
  | no {v o} : tyD v tb = some o → o ≠ some .str → TextV tb v
theorem numV_no {v : D} {tb : Tb} {o : Option Ty} (h : tyD v tb = some o) (ho : o ≠ some .str) : numV v = none := by
  cases v <;> first | rfl | (simp [tyD] at h; subst h; exact absurd rfl ho)
theorem mem_digs {c : Nat} (h : c ∈ DIGS) : 48 ≤ c ∧ c ≤ 57 := by
  simp only [DIGS, List.mem_cons, List.not_mem_nil, or_false] at h; omega
theorem int_good {cs : List Nat} (h : goodN cs = true) (hl : cs.length ≤ 5000) : PySem.intText? (tx cs) = some (valN cs) ∧ cs.length ≤ 640 := by
  unfold goodN at h
  simp only [Bool.and_eq_true, decide_eq_true_eq] at h
  obtain ⟨⟨⟨h1, h2⟩, h3⟩, _⟩ := h
  have hd : NumText.AllDigits (dgs cs) := fun c hc => mem_digs (by have := List.all_eq_true.mp h3 c hc; simpa using this)
  have hne : dgs cs ≠ [] := fun e => by rw [e] at h1; simp at h1
  cases hm : isM cs
  · have e : dgs cs = cs := by unfold dgs; rw [hm]; simp
    have hv : valN cs = ((NumText.digitsVal cs : Nat) : Int) := by unfold valN; rw [hm, e]; simp
    rw [e] at hd hne h2
    rw [hv]
    have tl : (tx cs).cps.toList = cs := rfl
    refine ⟨?_, by omega⟩
    have := intText_digits (x := tx cs) (by rw [tl]; exact hd) (by rw [tl]; exact hne) (by rw [tx_len]; omega)
    rw [tl] at this; exact this
  · have e := m_head hm
    have hl2 : cs.length = (dgs cs).length + 1 := by conv => lhs; rw [e]; simp
    have hv : valN cs = -((NumText.digitsVal (dgs cs) : Nat) : Int) := by unfold valN; rw [hm]; simp
    rw [hv]
    exact ⟨intText_neg (x := tx cs) (cs := dgs cs) e hd hne (by rw [tx_len]; omega), by omega⟩
theorem parse_ok {v : D} {tb : Tb} {lo hi : Option Int} {k : Nat} (h : TextV tb v) (hk : 3 ≤ k) : (Fs k).parse_count [v, lD lo, lD hi] tb = .ok (lD (dueN (numV v) lo hi)) tb := by
  obtain ⟨j, rfl⟩ := lev hk
  have c1 : ∀ o tb, (Fs (j + 2)).check_limit [lD o] tb = .ok .non tb := fun o tb => limit_ok (by omega)
  rw [F_parse_count]
  refine mDef_rt ?_
  simp only [b_parse_count, List.map_cons, List.map_nil, List.replicate, List.cons_append, List.nil_append]
  cases h with
  | no h1 h2 =>
    rw [numV_no h1 h2]
    have e : isiD [.str] v tb = .ok (.bl false) tb := by
      rename_i o
      cases o with
      | none => simp [isiD, h1, Ty.has]
      | some s => cases s <;> first | exact absurd rfl h2 | simp [isiD, h1, Ty.has]
    simp [c1, e, dueN, ln]
  | @str cs h =>
    have e := fun tb => digits_ok (tb := tb) (k := j + 2) h (by omega)
    cases hg : goodN cs
    · rw [hg] at e
      simp [c1, e, isiD, tyD, Ty.has, isN, numV, hg, dueN, ln]
    · obtain ⟨i1, i2⟩ := int_good hg (okS_l h)
      rw [hg] at e
      have ie : ∀ tb, intX (.str cs) tb = .ok (.int (valN cs)) tb := fun tb => by simp only [intX, i1]; rw [if_pos i2]
      simp only [numV, hg, if_true]
      generalize valN cs = n at *
      have z0 : isN (lD none) = true := rfl
      have z00 : isN D.non = true := rfl
      have c0 : ∀ tb, (Fs (j + 2)).check_limit [.non] tb = .ok .non tb := fun tb => c1 none tb
      have z1 : ∀ a, isN (lD (some a)) = false := fun _ => rfl
      have z2 : ∀ a tb, ltD (.int n) (lD (some a)) tb = .ok (.bl (decide (n < a))) tb := fun _ _ => rfl
      have z3 : ∀ a tb, gtD (.int n) (lD (some a)) tb = .ok (.bl (decide (a < n))) tb := fun _ _ => rfl
      have z4 : isN (.str (dgs cs)) = false := rfl
      have lsm : lD (some n) = .int n := rfl
      cases lo with
      | none => cases hi with
        | none => simp [c1, e, isiD, tyD, Ty.has, ie, dueN, inR, z0, z4, lsm]
        | some b =>
          by_cases hb : b < n
          · simp [c1, e, isiD, tyD, Ty.has, ie, dueN, inR, z0, z1, z3, z4, lsm, ln, c0, z00, hb]
          · simp [c1, e, isiD, tyD, Ty.has, ie, dueN, inR, z0, z1, z3, z4, lsm, ln, c0, z00, hb]
      | some a =>
        by_cases ha : n < a
        · simp [c1, e, isiD, tyD, Ty.has, ie, dueN, inR, z0, z1, z2, z4, lsm, ln, c0, z00, ha]
        · cases hi with
          | none => simp [c1, e, isiD, tyD, Ty.has, ie, dueN, inR, z0, z1, z2, z4, lsm, ln, c0, z00, ha]
          | some b =>
            by_cases hb : b < n
            · simp [c1, e, isiD, tyD, Ty.has, ie, dueN, inR, z0, z1, z2, z3, z4, lsm, ln, c0, z00, ha, hb]
            · simp [c1, e, isiD, tyD, Ty.has, ie, dueN, inR, z0, z1, z2, z3, z4, lsm, ln, c0, z00, ha, hb]
theorem parse_lo {v b w : D} {tb : Tb} {k : Nat} (hk : 3 ≤ k) (h : (Fs (k - 1)).check_limit [w] tb = .ex 0 [(VAL, w)] tb) : (Fs k).parse_count [v, w, b] tb = .ex 0 [(VAL, w)] tb := by
  obtain ⟨j, rfl⟩ := lev hk
  simp only [Nat.add_sub_cancel, show j + 3 - 1 = j + 2 from rfl] at h
  rw [F_parse_count]
  have hb : b_parse_count (Fs (j + 2)) ([v, w, b].map some ++ List.replicate 1 none) tb = .ex 0 [(VAL, w)] [some v, some w, some b, none] tb := by
    simp only [b_parse_count, List.map_cons, List.map_nil, List.replicate, List.cons_append, List.nil_append]
    simp [h]
  unfold mDef
  rw [hb]
  simp only [gc_self0]
theorem parse_hi {v w : D} {lo : Option Int} {tb : Tb} {k : Nat} (hk : 3 ≤ k) (h : (Fs (k - 1)).check_limit [w] tb = .ex 0 [(VAL, w)] tb) : (Fs k).parse_count [v, lD lo, w] tb = .ex 0 [(VAL, w)] tb := by
  obtain ⟨j, rfl⟩ := lev hk
  simp only [Nat.add_sub_cancel, show j + 3 - 1 = j + 2 from rfl] at h
  have c1 : ∀ o tb, (Fs (j + 2)).check_limit [lD o] tb = .ok .non tb := fun o tb => limit_ok (by omega)
  rw [F_parse_count]
  have hb : b_parse_count (Fs (j + 2)) ([v, lD lo, w].map some ++ List.replicate 1 none) tb = .ex 0 [(VAL, w)] [some v, some (lD lo), some w, none] tb := by
    simp only [b_parse_count, List.map_cons, List.map_nil, List.replicate, List.cons_append, List.nil_append]
    simp [c1, h]
  unfold mDef
  rw [hb]
  simp only [gc_self0]
/-- the limits that a dict tells -/
structure LimS (d : D) (t : Tb) (a b : Option D) : Prop where
  ex : ∃ kvs, dic? d t = some (false, kvs) ∧ dget kvs (.s MINI) = a ∧ dget kvs (.s MAXI) = b ∧ (kvs.isEmpty = true ↔ a = none ∧ b = none)
/-- what is asked of law_count: told, or what was raised -/
theorem count_body {F : Fns} {v d : D} {a b : Option D} {nm : Bool} {t : Tb} (h : LimS d t a b) :
    ∀ r, F.parse_count [v, a.getD (.int 0), b.getD .non] t = r →
    (∀ x, r = .ok x t → b_law_count F [some v, some d, some (.bl nm), none] t = .rt (.lst [.str TOLD, x]) t) ∧
    (∀ w, r = .ex 0 [(VAL, w)] t → ∀ r', (runCl 0 [(VAL, w)] [some v, some d, some (.bl nm), none] t [⟨cat_0, 3, fun _ => mRet (mLst false (mCons (mC (.str INTE)) (mCons (mXf 0 VAL (mVar 3)) mNil)))⟩] = r' → b_law_count F [some v, some d, some (.bl nm), none] t = r')) := by
  obtain ⟨kvs, h1, h2, h3, h4⟩ := h.ex
  have hd0 : dic? (.dic false []) t = some (false, []) := rfl
  have e1 : eqE false d (.dic false []) t = .ok (.bl kvs.isEmpty) t := by simp [eqE, h1, hd0, neg']
  have isStrF : isStrD d = false := by cases d <;> first | rfl | simp [dic?] at h1
  have isDcT : isDc d t = true := by simp [isDc, h1]
  have e2 : inD true (.str MAXI) d t = .ok (.bl (!b.isSome)) t := by simp [inD, isStrF, isDcT, inM, h1, dkOf, DK.fits, h3, neg']
  have e3 : inD true (.str MINI) d t = .ok (.bl (!a.isSome)) t := by simp [inD, isStrF, isDcT, inM, h1, dkOf, DK.fits, h2, neg']
  have e4 : ∀ x, a = some x → ixD d (.str MINI) t = .ok x t := fun x hx => by simp [ixD, isDcT, ixM, h1, dkOf, DK.fits, h2, optD, hx]
  have e5 : ∀ x, b = some x → ixD d (.str MAXI) t = .ok x t := fun x hx => by simp [ixD, isDcT, ixM, h1, dkOf, DK.fits, h3, optD, hx]
  rintro r hr
  constructor
  · rintro x rfl
    cases a with
    | none => cases b with
      | none =>
        have e6 : kvs.isEmpty = true := h4.mpr ⟨rfl, rfl⟩
        simp at hr
        cases nm <;> simp [b_law_count, mDic0, newD, e1, e6, mKwD, permL, hr, LIM]
      | some y =>
        have e6 : kvs.isEmpty = false := by cases q : kvs.isEmpty with
          | false => rfl
          | true => have := (h4.mp q).2; cases this
        have e5' := e5 y rfl
        simp at hr
        cases nm <;> simp [b_law_count, mDic0, newD, e1, e6, e2, e3, e5', mKwD, permL, hr, LIM]
    | some z =>
      have e6 : kvs.isEmpty = false := by cases q : kvs.isEmpty with
        | false => rfl
        | true => have := (h4.mp q).1; cases this
      have e4' := e4 z rfl
      cases b with
      | none =>
        simp at hr
        cases nm <;> simp [b_law_count, mDic0, newD, e1, e6, e2, e3, e4', mKwD, permL, hr, LIM]
      | some y =>
        have e5' := e5 y rfl
        simp at hr
        cases nm <;> simp [b_law_count, mDic0, newD, e1, e6, e2, e3, e4', e5', mKwD, permL, hr, LIM]
  · rintro w rfl r' hr'
    cases a with
    | none => cases b with
      | none =>
        have e6 : kvs.isEmpty = true := h4.mpr ⟨rfl, rfl⟩
        simp at hr
        cases nm <;> simp [b_law_count, mDic0, newD, e1, e6, mKwD, permL, hr, hr', LIM]
      | some y =>
        have e6 : kvs.isEmpty = false := by cases q : kvs.isEmpty with
          | false => rfl
          | true => have := (h4.mp q).2; cases this
        have e5' := e5 y rfl
        simp at hr
        cases nm <;> simp [b_law_count, mDic0, newD, e1, e6, e2, e3, e5', mKwD, permL, hr, hr', LIM]
    | some z =>
      have e6 : kvs.isEmpty = false := by cases q : kvs.isEmpty with
        | false => rfl
        | true => have := (h4.mp q).1; cases this
      have e4' := e4 z rfl
      cases b with
      | none =>
        simp at hr
        cases nm <;> simp [b_law_count, mDic0, newD, e1, e6, e2, e3, e4', mKwD, permL, hr, hr', LIM]
      | some y =>
        have e5' := e5 y rfl
        simp at hr
        cases nm <;> simp [b_law_count, mDic0, newD, e1, e6, e2, e3, e4', e5', mKwD, permL, hr, hr', LIM]
end L2.G.La
set_option maxHeartbeats 1000000
namespace L2.G.La
open PySem PySem.Spec PyProof.Rows PySem.Builtin.Str
theorem out_at {tb : Tb} (w : Wf tb) {o : Ob} : outTb tb.length (tb ++ [o]) = some (tb ++ [.dead]) := by
  have e : (tb ++ [o]).set tb.length .dead = tb ++ [.dead] := by simp
  unfold outTb
  rw [e, if_pos]
  rw [List.all_eq_true]
  intro x hx
  rcases List.mem_append.mp hx with q | q
  · exact w.ne x q
  · simp at q; subst q; rfl
theorem xf3 {k : Nat} {f : List Nat} {v : D} {tb : Tb} {a b c : Option D} : mXf k f (mVar 3) [a, b, c, some (.ref tb.length)] (tb ++ [.exc k [(f, v)]]) = .ok v (tb ++ [.exc k [(f, v)]]) := by
  simp [mXf]
theorem xf2 {k : Nat} {f : List Nat} {v : D} {tb : Tb} {a b : Option D} : mXf k f (mVar 2) [a, b, some (.ref tb.length)] (tb ++ [.exc k [(f, v)]]) = .ok v (tb ++ [.exc k [(f, v)]]) := by
  simp [mXf]
theorem catch3 {tb : Tb} (w : Wf tb) {a b c x : Option D} {v : D} : runCl 0 [(VAL, v)] [a, b, c, x] tb [⟨cat_0, 3, fun _ => mRet (mLst false (mCons (mC (.str INTE)) (mCons (mXf 0 VAL (mVar 3)) mNil)))⟩] = .rt (.lst [.str INTE, v]) (tb ++ [.dead]) := by
  simp only [runCl, cat_0]
  simp [endCl, xf3, out_at w, LIM]
theorem catch2 {tb : Tb} (w : Wf tb) {a b x : Option D} {v : D} : runCl 1 [(VAL, v)] [a, b, x] tb [⟨cat_1, 2, fun _ => mRet (mLst false (mCons (mC (.str LINE)) (mCons (mXf 1 VAL (mVar 2)) mNil)))⟩] = .rt (.lst [.str LINE, v]) (tb ++ [.dead]) := by
  simp only [runCl, cat_1]
  simp [endCl, xf2, out_at w, LIM]
theorem told_cut {tb : Tb} (w : Wf tb) {v : D} {tg : List Nat} {o : Ob} (hv : below tb.length v = true) : gcTb (gcN tb.length (.lst [.str tg, v])) [.lst [.str tg, v]] (tb ++ [o]) = tb := by
  simp only [gcN]
  exact gc_cut w (by simp [belows, below, hv])
theorem count_ok {k : Nat} {v d x : D} {a b : Option D} {nm : Bool} {t : Tb} (hk : 1 ≤ k) (h : LimS d t a b) (hp : (Fs (k - 1)).parse_count [v, a.getD (.int 0), b.getD .non] t = .ok x t) : (Fs k).law_count [v, d, .bl nm] t = .ok (.lst [.str TOLD, x]) t := by
  obtain ⟨j, rfl⟩ := lev hk
  rw [F_law_count]
  exact mDef_rt ((count_body (nm := nm) h _ hp).1 x rfl)
theorem count_ex {k : Nat} {v d w : D} {a b : Option D} {nm : Bool} {t : Tb} (hk : 1 ≤ k) (wf : Wf t) (hw : below t.length w = true) (h : LimS d t a b) (hp : (Fs (k - 1)).parse_count [v, a.getD (.int 0), b.getD .non] t = .ex 0 [(VAL, w)] t) : (Fs k).law_count [v, d, .bl nm] t = .ok (.lst [.str INTE, w]) t := by
  obtain ⟨j, rfl⟩ := lev hk
  rw [F_law_count]
  exact mDef_rt' rfl ((count_body (nm := nm) h _ hp).2 w rfl _ (catch3 wf)) (told_cut wf hw)
/-! words -/
def splitL : List Nat → List Nat → List (List Nat)
  | w, [] => [w]
  | w, c :: r => if c = 32 then w :: splitL [] r else splitL (w ++ [c]) r
theorem splitL_app : ∀ (w u r : List Nat), 32 ∉ u → splitL w (u ++ r) = splitL (w ++ u) r
  | w, [], r, _ => by simp
  | w, c :: u, r, h => by
    have hc : c ≠ 32 := fun e => h (by rw [e]; exact List.mem_cons_self)
    rw [List.cons_append, splitL, if_neg hc, splitL_app _ u r (fun e => h (List.mem_cons_of_mem _ e))]
    simp
theorem splitL_join : ∀ (P : List (List Nat)), P ≠ [] → (∀ p ∈ P, 32 ∉ p) → splitL [] (joinL [32] P) = P
  | [], h, _ => absurd rfl h
  | [p], _, h => by
    have := splitL_app [] p [] (h p (by simp))
    simp only [List.append_nil, List.nil_append] at this
    simp [joinL, this, splitL]
  | p :: q :: P, _, h => by
    have ih := splitL_join (q :: P) (by simp) (fun x hx => h x (List.mem_cons_of_mem _ hx))
    have := splitL_app [] p (32 :: joinL [32] (q :: P)) (h p (by simp))
    simp only [List.nil_append] at this
    simp only [joinL, List.append_assoc, List.cons_append, List.nil_append]
    rw [this, splitL, if_pos rfl, ih]
theorem splitL_no : ∀ (r w : List Nat), 32 ∉ w → ∀ p ∈ splitL w r, 32 ∉ p
  | [], w, h, p, hp => by simp [splitL] at hp; subst hp; exact h
  | c :: r, w, h, p, hp => by
    rw [splitL] at hp
    by_cases hc : c = 32
    · rw [if_pos hc] at hp
      rcases List.mem_cons.mp hp with e | e
      · subst e; exact h
      · exact splitL_no r [] (by simp) p e
    · rw [if_neg hc] at hp
      exact splitL_no r _ (by simp; exact ⟨h, fun e => hc e.symm⟩) p hp
theorem splitL_ne (r w : List Nat) : splitL w r ≠ [] := by
  induction r generalizing w with
  | nil => simp [splitL]
  | cons c r ih =>
    rw [splitL]
    split
    · simp
    · exact ih _
theorem join_splitL : ∀ (r w : List Nat), joinL [32] (splitL w r) = w ++ r
  | [], w => by simp [splitL, joinL]
  | c :: r, w => by
    rw [splitL]
    by_cases hc : c = 32
    · rw [if_pos hc]
      have ih := join_splitL r []
      cases hs : splitL [] r with
      | nil => exact absurd hs (splitL_ne _ _)
      | cons q P => rw [hs] at ih; simp [joinL, ih, hc]
    · rw [if_neg hc, join_splitL r]; simp
theorem splitC_is (a : List Nat) : splitC a [32] = splitL [] a := by
  have hne : splitC a [32] ≠ [] := by
    have := split_pos (tx a) (tx [32])
    intro e
    have h2 := congrArg List.length e
    simp only [splitC, List.length_map, List.length_nil] at h2
    omega
  have hno : ∀ p ∈ splitC a [32], 32 ∉ p := by
    intro p hp
    obtain ⟨y, hy, rfl⟩ := List.mem_map.mp hp
    exact StrLaws.split_free (tx a) 32 y hy
  have hj : joinL [32] (splitC a [32]) = a := by
    have e1 := join_tx [32] (splitC a [32])
    have e2 : (splitC a [32]).map tx = Txt.split (tx a) (tx [32]) := by
      unfold splitC
      rw [List.map_map]
      conv => rhs; rw [← List.map_id (Txt.split (tx a) (tx [32]))]
      exact List.map_congr_left fun y _ => (tx_of y).symm
    rw [e2] at e1
    have e3 : Txt.join (tx [32]) (Txt.split (tx a) (tx [32])) = tx a := by
      show glued (tx [32]) _ = _
      rw [StrLaws.glued_eq_join, StrLaws.join_split]
    rw [e3] at e1
    have := congrArg (fun s : Str => s.cps.toList) e1
    exact this.symm
  have := splitL_join _ hne hno
  rw [hj] at this
  exact this.symm
/-- the law's own walk -/
def walkL : List Nat → List (List Nat) → List Nat → Option (List (List Nat))
  | [], f, w => if w = [] then none else some (f ++ [w])
  | c :: r, f, w => if c = 10 ∨ (c = 32 ∧ w = []) then none else if c = 32 then walkL r (f ++ [w]) [] else walkL r f (w ++ [c])
theorem walk_is : ∀ (r : List Nat) (f : List (List Nat)) (w : List Nat), walkL r f w = if 10 ∈ r ∨ [] ∈ splitL w r then none else some (f ++ splitL w r)
  | [], f, w => by
    simp only [walkL, splitL, List.mem_singleton, List.not_mem_nil, false_or]
    by_cases h : w = []
    · simp [h]
    · rw [if_neg h, if_neg (fun e => h e.symm)]
  | c :: r, f, w => by
    rw [walkL]
    by_cases h10 : c = 10
    · simp [h10]
    · by_cases h32 : c = 32
      · subst h32
        by_cases hw : w = []
        · simp [hw, splitL]
        · have hw' : ¬ [] = w := fun e => hw e.symm
          rw [if_neg (by simp [hw]), if_pos rfl, walk_is r]
          simp [splitL, hw']
      · rw [if_neg (by simp [h10, h32]), if_neg h32, walk_is r]
        have h10' : ¬ 10 = c := fun e => h10 e.symm
        simp [splitL, h32, h10']
/-- the words of a line -/
def wordsV (cs : List Nat) : Option (List (List Nat)) := if cs = [] then some [] else if 10 ∈ cs ∨ [] ∈ splitL [] cs then none else some (splitL [] cs)
end L2.G.La
set_option maxHeartbeats 1000000
namespace L2.G.La
open PySem PySem.Spec PyProof.Rows
theorem ws_par3 {i j l : Nat} {a : MA} {e : Env} {tb : Tb} {S : RS → Prop} : Ws (mPar3 i j l a e tb) S = Wp (a e tb) (fun ds tb => Ws (match ds with | [x, y, z] => .nx (((e.set i (some x)).set j (some y)).set l (some z)) tb | _ => .fail) S) (fun k fs tb => S (.ex k fs e tb)) := (ws_st e).trans rfl
def wordsD : Option (List (List Nat)) → D
  | none => .non
  | some ws => .lst (ws.map .str)
theorem bels_strs {n : Nat} (ws : List (List Nat)) : belows n (ws.map D.str) = true := belows_mem.mpr fun x hx => by
  obtain ⟨w, _, rfl⟩ := List.mem_map.mp hx; rfl
theorem okS_app {a b : List Nat} (ha : a.all (fun c => decide (c < 1114112)) = true) (hb : b.all (fun c => decide (c < 1114112)) = true) : (a ++ b).all (fun c => decide (c < 1114112)) = true := by
  rw [List.all_append, ha, hb]; rfl
theorem words_wp {cs : List Nat} {tb : Tb} {k : Nat} (h : okS cs = true) (w : Wf tb) (hk : 1 ≤ k) : Wp ((Fs k).law_words [.str cs] tb) (fun d t => d = wordsD (wordsV cs) ∧ t = tb) noX := by
  obtain ⟨j, rfl⟩ := lev hk
  have hl := okS_l h
  have hc := okS_c h
  have cut0 : ∀ (f : List (List Nat)) (r : List D), belows tb.length r = true → gcTb tb.length r (tb ++ [.lst (f.map .str)]) = tb := fun f r hr => gc_cut w hr
  have qe : ∀ tb, eqP false (.str cs) (.str []) tb = .ok (.bl (decide (cs = []))) tb := fun tb => by rw [eq_ss hc rfl]; simp
  rw [F_law_words, wp_def]
  simp only [b_law_words, List.map_cons, List.map_nil, List.replicate, List.cons_append, List.nil_append]
  simp [ws_par3, isiD, tyD, Ty.has, LIM, seqIt]
  refine ws_loop (it := ⟨_, []⟩) (fun i e t => ∃ (f : List (List Nat)) (u : List Nat) (y : Option D), e = [some (.str cs), some (.ref tb.length), some (.str u), some (.bl (decide (u = []))), y] ∧ t = tb ++ [.lst (f.map .str)] ∧ walkL cs [] [] = walkL (cs.drop i) f u ∧ f.length ≤ i ∧ u.length ≤ i ∧ u.all (fun c => decide (c < 1114112)) = true) ?_ ?_ ?_
  · exact ⟨[], [], none, by simp, by simp, by simp, by simp, by simp, rfl⟩
  · rintro i d e t hi ⟨f, u, y, rfl, rfl, hw, hf, hu, huc⟩
    obtain ⟨c, hx, rfl⟩ : ∃ x, cs[i]? = some x ∧ d = .str [x] := by
      have : (cs.map fun c => D.str [c])[i]? = some d := hi
      rw [List.getElem?_map, Option.map_eq_some_iff] at this
      obtain ⟨x, h1, h2⟩ := this
      exact ⟨x, h1, h2.symm⟩
    have hil : i < cs.length := (List.getElem?_eq_some_iff.mp hx).1
    have hd : cs.drop i = c :: cs.drop (i + 1) := by
      rw [List.drop_eq_getElem_cons hil]
      have : cs[i] = c := by rw [List.getElem?_eq_getElem hil] at hx; exact Option.some.inj hx
      rw [this]
    have hcne : cs ≠ [] := fun e => by rw [e] at hil; simp at hil
    have wv : wordsV cs = walkL cs [] [] := by
      rw [walk_is, wordsV, if_neg hcne]; simp
    rw [hd] at hw
    have ec : okS [c] = true := okS_sub h (by simp; omega) fun x hx' => by simp at hx'; subst hx'; exact List.mem_of_getElem? hx
    have q10 : ∀ tb, eqP false (.str [c]) (.str [10]) tb = .ok (.bl (decide (c = 10))) tb := fun tb => by rw [eq_ss (okS_c ec) (by decide)]; simp
    have q32 : ∀ tb, eqP false (.str [c]) (.str [32]) tb = .ok (.bl (decide (c = 32))) tb := fun tb => by rw [eq_ss (okS_c ec) (by decide)]; simp
    have ad : ∀ tb, addD false (.str u) (.str [c]) tb = .ok (.str (u ++ [c])) tb := fun tb => add_ss (by simp [LIM]; omega)
    have hat : (tb ++ [Ob.lst (f.map .str)])[tb.length]? = some (.lst (f.map .str)) := by simp
    have ha : appendD (.ref tb.length) [.str u] (tb ++ [.lst (f.map .str)]) = .ok .non (tb ++ [.lst ((f ++ [u]).map .str)]) := by
      rw [append_at hat (by simp [LIM]; omega)]
      simp
    have hs : isLstT (.ref tb.length) (tb ++ [.lst (f.map .str)]) = true := by simp [isLstT, lst?]
    refine ⟨IT.kept0, _, _, rfl, ?_⟩
    have n10 : gcN tb.length D.non = tb.length := rfl
    rw [walkL] at hw
    by_cases h10 : c = 10
    · have : wordsV cs = none := by rw [wv, hw]; simp [h10]
      rw [this]
      subst h10
      simp [q10, wordsD, n10, cut0 f [.non] rfl]
    · by_cases h32 : c = 32
      · by_cases hu0 : u = []
        · have : wordsV cs = none := by rw [wv, hw]; simp [h32, hu0]
          rw [this]
          subst h32
          subst hu0
          simp [q10, q32, wordsD, n10, cut0 f [.non] rfl]
        · rw [if_neg (by simp [h10, hu0]), if_pos h32] at hw
          subst h32
          simp [q10, q32, hu0, hs, ha]
          exact ⟨f ++ [u], by simp, hw, by simp; omega⟩
      · rw [if_neg (by simp [h10, h32]), if_neg h32] at hw
        simp [q10, q32, h10, h32, ad]
        exact ⟨f, u ++ [c], ⟨rfl, by simp⟩, rfl, hw, by omega, by simp; omega, by have := okS_app huc (okS_c ec); rw [List.all_eq_true] at this; intro x hx; simpa using this x (by simpa using hx)⟩
  · rintro e t ⟨f, u, y, rfl, rfl, hw, hf, hu, huc⟩
    refine ⟨IT.kept0, ?_⟩
    have hlen : (cs.map fun c => D.str [c]).length = cs.length := by simp
    simp only [hlen, List.drop_length] at hw hf hu
    rw [walkL] at hw
    have n10 : gcN tb.length D.non = tb.length := rfl
    by_cases hcne : cs = []
    · have : wordsV cs = some [] := by simp [wordsV, hcne]
      rw [this]
      subst hcne
      simp [qe, LIM, wordsD]
      exact cut0 f [.lst []] rfl
    · have wv : wordsV cs = walkL cs [] [] := by
        rw [walk_is, wordsV, if_neg hcne]; simp
      rw [wv, hw]
      have n11 : ∀ xs, gcN tb.length (D.lst xs) = tb.length := fun _ => rfl
      by_cases hu0 : u = []
      · subst hu0
        simp [qe, hcne, wordsD, n10, cut0 f [.non] rfl]
      · have ad : addD false (.ref tb.length) (.lst [.str u]) (tb ++ [.lst (f.map .str)]) = .ok (.lst ((f ++ [u]).map .str)) (tb ++ [.lst (f.map .str)]) := by
          rw [add_ll (xs := f.map .str) (ys := [.str u]) (by simp [lst?]) rfl (by simp [LIM]; omega)]
          simp
        simp [qe, hcne, hu0, wordsD, LIM, ad, n11]
        have := cut0 f [.lst ((f ++ [u]).map .str)] (by simp only [belows, below, Bool.and_true]; exact bels_strs _)
        simpa using this
end L2.G.La
set_option maxHeartbeats 1000000
namespace L2.G.La
open PySem PySem.Spec PyProof.Rows
theorem str_no {v : D} {tb : Tb} {o : Option Ty} (h : tyD v tb = some o) (ho : o ≠ some .str) : isiD [.str] v tb = .ok (.bl false) tb := by
  cases o with
  | none => simp [isiD, h, Ty.has]
  | some s => cases s <;> first | exact absurd rfl ho | simp [isiD, h, Ty.has]
theorem words_no {v : D} {tb : Tb} {o : Option Ty} {k : Nat} (hk : 1 ≤ k) (h : tyD v tb = some o) (ho : o ≠ some .str) : (Fs k).law_words [v] tb = .ok .non tb := by
  obtain ⟨j, rfl⟩ := lev hk
  rw [F_law_words]
  refine mDef_rt ?_
  have e := str_no h ho
  simp only [b_law_words, List.map_cons, List.map_nil, List.replicate, List.cons_append, List.nil_append]
  simp [e]
theorem toP0s_strs (ws : List (List Nat)) : toP0s (ws.map D.str) = some (ws.map fun w => PyData.str (tx w)) := by
  induction ws with
  | nil => rfl
  | cons c cs ih => simp [toP0s, toP0, ih]
theorem in_words {ws : List (List Nat)} {n : Nat} {t : Tb} (h : t[n]? = some (.lst (ws.map .str))) (hc : ∀ w ∈ ws, w.all (fun c => decide (c < 1114112)) = true) : inD false (.str []) (.ref n) t = .ok (.bl (decide ([] ∈ ws))) t := by
  have e1 : toP (.ref n) t = some (.list (ws.map fun w => PyData.str (tx w))) := by simp [toP, toP1, h, toP0s_strs]
  have e2 : toP (.str []) t = some (.str (tx [])) := by simp [toP, toP1, toP0]
  have s1 : SeqAt.shaped (.list (ws.map fun w => PyData.str (tx w))) = true := by
    have key : ∀ ws : List (List Nat), (∀ w ∈ ws, w.all (fun c => decide (c < 1114112)) = true) → PyData.canLayAll0 (ws.map fun w => PyData.str (tx w)) = true ∧ PyData.depthAll (ws.map fun w => PyData.str (tx w)) ≤ 1 := by
      intro ws
      induction ws with
      | nil => simp [PyData.canLayAll0, PyData.depthAll]
      | cons c cs ih =>
        intro h
        have := ih fun w hw => h w (List.mem_cons_of_mem _ hw)
        have q := shaped_str (cs := c) (h c (by simp))
        simp [SeqAt.shaped] at q
        simp [PyData.canLayAll0, PyData.depthAll, this.1, q.1]
        have : PyData.depth (.str (tx c)) ≤ 1 := by simp [PyData.depth]
        omega
    have := key ws hc
    simp [SeqAt.shaped, PyData.canLay0, PyData.depth, this.1]
    omega
  have s2 : SeqAt.shaped (.str (tx [])) = true := shaped_str rfl
  have i1 : isStrD (.ref n) = false := rfl
  have i2 : isDc (.ref n) t = false := by simp [isDc, dic?, h]
  have i3 : ((ws.map fun w => PyData.str (tx w)).any fun z => PyData.eqv z (.str (tx []))) = decide ([] ∈ ws) := by
    clear h e1 s1 i2 hc
    induction ws with
    | nil => rfl
    | cons c cs ih =>
      have : PyData.eqv (.str (tx c)) (.str (tx [])) = decide (c = []) := by simp [PyData.eqv, tx_beq]
      simp only [List.map_cons, List.any_cons, ih, this]
      by_cases hcn : c = []
      · simp [hcn]
      · have : ¬ [] = c := fun e => hcn e.symm
        simp [hcn, this]
  unfold inD inP
  rw [i1, i2, e1, e2]
  simp only [Bool.false_eq_true, if_false]
  rw [if_pos ⟨s2, s1⟩, i3]
  rfl
theorem splitL_chars {P : Nat → Prop} : ∀ (r w : List Nat), (∀ c ∈ w, P c) → (∀ c ∈ r, P c) → ∀ p ∈ splitL w r, ∀ c ∈ p, P c
  | [], w, h, _, p, hp => by simp [splitL] at hp; subst hp; exact h
  | c :: r, w, h, h2, p, hp => by
    rw [splitL] at hp
    by_cases hc : c = 32
    · rw [if_pos hc] at hp
      rcases List.mem_cons.mp hp with e | e
      · subst e; exact h
      · exact splitL_chars r [] (by simp) (fun x hx => h2 x (List.mem_cons_of_mem _ hx)) p e
    · rw [if_neg hc] at hp
      exact splitL_chars r _ (fun x hx => by
        rcases List.mem_append.mp hx with q | q
        · exact h x q
        · simp at q; subst q; exact h2 _ (by simp)) (fun x hx => h2 x (List.mem_cons_of_mem _ hx)) p hp
theorem splitL_cnt : ∀ (r w : List Nat), (splitL w r).length ≤ r.length + 1
  | [], w => by simp [splitL]
  | c :: r, w => by
    rw [splitL]
    have h1 := splitL_cnt r []
    have h2 := splitL_cnt r (w ++ [c])
    split <;> simp <;> omega
theorem splitL_len : ∀ (r w : List Nat), ∀ p ∈ splitL w r, p.length ≤ w.length + r.length
  | [], w, p, hp => by simp [splitL] at hp; subst hp; simp
  | c :: r, w, p, hp => by
    rw [splitL] at hp
    by_cases hc : c = 32
    · rw [if_pos hc] at hp
      rcases List.mem_cons.mp hp with e | e
      · subst e; simp
      · have := splitL_len r [] p e; simp at this ⊢; omega
    · rw [if_neg hc] at hp
      have := splitL_len r _ p hp; simp at this ⊢; omega
theorem wordsV_ok {cs : List Nat} {ws : List (List Nat)} (h : okS cs = true) (hw : wordsV cs = some ws) : ws.length ≤ 5001 ∧ (∀ w ∈ ws, okS w = true) ∧ joinL [32] ws = cs := by
  unfold wordsV at hw
  by_cases hc : cs = []
  · rw [if_pos hc] at hw
    cases hw
    exact ⟨by simp, by simp, by simp [joinL, hc]⟩
  · rw [if_neg hc] at hw
    split at hw
    · cases hw
    · cases hw
      have hl := okS_l h
      have hcc := okS_c h
      refine ⟨by have := splitL_cnt cs []; omega, fun w hw => ?_, by have := join_splitL cs []; simpa using this⟩
      simp only [okS, Bool.and_eq_true, decide_eq_true_eq, List.all_eq_true]
      have h1 := splitL_len cs [] w hw
      have h2 := splitL_chars (P := fun c => c < 1114112) cs [] (by simp) (fun c hc => by have := List.all_eq_true.mp hcc c hc; simpa using this) w hw
      simp at h1
      exact ⟨by omega, h2⟩
theorem split_ok {cs : List Nat} {ws : List (List Nat)} {tb : Tb} {k : Nat} (hk : 1 ≤ k) (h : okS cs = true) (hw : wordsV cs = some ws) : (Fs k).split_words [.str cs] tb = .ok (.ref tb.length) (tb ++ [.lst (ws.map .str)]) := by
  obtain ⟨j, rfl⟩ := lev hk
  have hl := okS_l h
  have hin := in_words (ws := ws) (n := tb.length) (t := tb ++ [.lst (ws.map .str)]) (by simp) fun w hw' => okS_c ((wordsV_ok h hw).2.1 w hw')
  have qe : eqP true (.str cs) (.str []) tb = .ok (.bl (!decide (cs = []))) tb := by rw [eq_ss (okS_c h) rfl]; simp
  have hb : b_split_words (Fs j) ([D.str cs].map some ++ List.replicate 1 none) tb = .rt (.ref tb.length) (tb ++ [.lst (ws.map .str)]) := by
    simp only [b_split_words, List.map_cons, List.map_nil, List.replicate, List.cons_append, List.nil_append]
    unfold wordsV at hw
    by_cases hc : cs = []
    · rw [if_pos hc] at hw
      cases hw
      subst hc
      simp at hin
      simp [isiD, tyD, Ty.has, in_str, neg', qe, hin, LIM]
    · rw [if_neg hc] at hw
      split at hw
      · cases hw
      · rename_i hn
        cases hw
        have h10 : ¬ 10 ∈ cs := fun e => hn (.inl e)
        have hne : ¬ [] ∈ splitL [] cs := fun e => hn (.inr e)
        have sp : splitD true (.str cs) [.str [32]] tb = .ok (.ref tb.length) (tb ++ [.lst ((splitL [] cs).map .str)]) := by
          simp only [splitD]
          rw [if_pos ⟨by simp, by simp only [LIM]; omega⟩, splitC_is]; rfl
        simp [isiD, tyD, Ty.has, in_str, neg', qe, h10, hc, isStrT, sp, hin, hne]
  rw [F_split_words]
  refine mDef_rt' rfl hb (gc_same ?_)
  simp only [gcN, List.length_append, List.length_cons, List.length_nil]
  exact Nat.le_max_right _ _
theorem split_ex {cs : List Nat} {tb : Tb} {k : Nat} (hk : 1 ≤ k) (w : Wf tb) (h : okS cs = true) (hw : wordsV cs = none) : (Fs k).split_words [.str cs] tb = .ex 1 [(VAL, .str cs)] tb := by
  obtain ⟨j, rfl⟩ := lev hk
  have hl := okS_l h
  have qe : eqP true (.str cs) (.str []) tb = .ok (.bl (!decide (cs = []))) tb := by rw [eq_ss (okS_c h) rfl]; simp
  unfold wordsV at hw
  by_cases hc : cs = []
  · rw [if_pos hc] at hw; cases hw
  · rw [if_neg hc] at hw
    rw [F_split_words]
    by_cases h10 : 10 ∈ cs
    · have hb : b_split_words (Fs j) ([D.str cs].map some ++ List.replicate 1 none) tb = .ex 1 [(VAL, .str cs)] [some (.str cs), none] tb := by
        simp only [b_split_words, List.map_cons, List.map_nil, List.replicate, List.cons_append, List.nil_append]
        simp [isiD, tyD, Ty.has, in_str, neg', h10]
      unfold mDef
      rw [hb]
      simp only [gc_self0]
    · have hne : [] ∈ splitL [] cs := by
        split at hw
        · rename_i hn; exact hn.resolve_left h10
        · cases hw
      have hin := in_words (ws := splitL [] cs) (n := tb.length) (t := tb ++ [.lst ((splitL [] cs).map .str)]) (by simp) fun w hw' => by
        have h2 := splitL_chars (P := fun c => c < 1114112) cs [] (by simp) (fun c hc => by have := List.all_eq_true.mp (okS_c h) c hc; simpa using this) w hw'
        rw [List.all_eq_true]; intro c hc; simpa using h2 c hc
      have sp : splitD true (.str cs) [.str [32]] tb = .ok (.ref tb.length) (tb ++ [.lst ((splitL [] cs).map .str)]) := by
        simp only [splitD]
        rw [if_pos ⟨by simp, by simp only [LIM]; omega⟩, splitC_is]; rfl
      have hb : b_split_words (Fs j) ([D.str cs].map some ++ List.replicate 1 none) tb = .ex 1 [(VAL, .str cs)] [some (.str cs), some (.ref tb.length)] (tb ++ [.lst ((splitL [] cs).map .str)]) := by
        simp only [b_split_words, List.map_cons, List.map_nil, List.replicate, List.cons_append, List.nil_append]
        simp [isiD, tyD, Ty.has, in_str, neg', qe, h10, hc, isStrT, sp, hin, hne]
      unfold mDef
      rw [hb]
      simp only
      rw [gc_cut w rfl]
theorem split_no {v : D} {tb : Tb} {o : Option Ty} {k : Nat} (hk : 1 ≤ k) (h : tyD v tb = some o) (ho : o ≠ some .str) : (Fs k).split_words [v] tb = .ex 1 [(VAL, v)] tb := by
  obtain ⟨j, rfl⟩ := lev hk
  have e := str_no h ho
  rw [F_split_words]
  have hb : b_split_words (Fs j) ([v].map some ++ List.replicate 1 none) tb = .ex 1 [(VAL, v)] [some v, none] tb := by
    simp only [b_split_words, List.map_cons, List.map_nil, List.replicate, List.cons_append, List.nil_append]
    simp [e]
  unfold mDef
  rw [hb]
  simp only [gc_self0]
theorem lsplit_ok {cs : List Nat} {ws : List (List Nat)} {tb : Tb} {k : Nat} {nm : Bool} (hk : 2 ≤ k) (h : okS cs = true) (hw : wordsV cs = some ws) : (Fs k).law_split [.str cs, .bl nm] tb = .ok (.lst [.str TOLD, .ref tb.length]) (tb ++ [.lst (ws.map .str)]) := by
  obtain ⟨j, rfl⟩ := lev hk
  have e := split_ok (tb := tb) (k := j + 1) (by omega) h hw
  rw [F_law_split]
  have hb : b_law_split (Fs (j + 1)) ([D.str cs, D.bl nm].map some ++ List.replicate 1 none) tb = .rt (.lst [.str TOLD, .ref tb.length]) (tb ++ [.lst (ws.map .str)]) := by
    simp only [b_law_split, List.map_cons, List.map_nil, List.replicate, List.cons_append, List.nil_append]
    cases nm <;> simp [e, mKw, permL, LIM]
  refine mDef_rt' rfl hb ?_
  show gcTb tb.length _ _ = _
  unfold gcTb
  rw [if_neg (by simp), if_neg]
  simp [belows, below]
theorem lsplit_ex {v : D} {tb : Tb} {k : Nat} {nm : Bool} (hk : 2 ≤ k) (w : Wf tb) (hv : below tb.length v = true) (h : (Fs (k - 1)).split_words [v] tb = .ex 1 [(VAL, v)] tb) : (Fs k).law_split [v, .bl nm] tb = .ok (.lst [.str LINE, v]) tb := by
  obtain ⟨j, rfl⟩ := lev hk
  rw [show j + 2 - 1 = j + 1 from rfl] at h
  rw [F_law_split]
  have c := catch2 (a := some v) (b := some (.bl nm)) (x := none) w (v := v)
  have hb : b_law_split (Fs (j + 1)) ([v, D.bl nm].map some ++ List.replicate 1 none) tb = .rt (.lst [.str LINE, v]) (tb ++ [.dead]) := by
    simp only [b_law_split, List.map_cons, List.map_nil, List.replicate, List.cons_append, List.nil_append]
    cases nm <;> simp [h, mKw, permL, c]
  exact mDef_rt' rfl hb (told_cut w hv)
end L2.G.La
set_option maxHeartbeats 1000000
namespace L2.G.La
open PySem PySem.Spec PyProof.Rows
/-- a value of any kind, frozen -/
def AnyV (d : D) : Prop := (∃ cs, d = .str cs ∧ okS cs = true) ∨ (∀ t, ∃ o, tyD d t = some o ∧ o ≠ some .str)
def IsC (y : D) : Prop := ∃ c, y = .str [c] ∧ c < 1114112
theorem chars_of : ∀ {ds : List D}, (∀ y ∈ ds, IsC y) → ∃ cs : List Nat, ds = cs.map (fun c => D.str [c]) ∧ cs.length = ds.length ∧ cs.all (fun c => decide (c < 1114112)) = true
  | [], _ => ⟨[], rfl, rfl, rfl⟩
  | d :: ds, h => by
    obtain ⟨c, rfl, hc⟩ := h d (by simp)
    obtain ⟨cs, rfl, h2, h3⟩ := chars_of fun y hy => h y (List.mem_cons_of_mem _ hy)
    exact ⟨c :: cs, rfl, by simp, by simp [hc]; simpa using h3⟩
theorem mapM_strs (ws : List (List Nat)) : (ws.map D.str).mapM str? = some ws := by
  induction ws with
  | nil => rfl
  | cons w ws ih => simp only [List.map_cons, List.mapM_cons, str?, ih]; rfl
theorem join_ok {ws : List (List Nat)} {sep : List Nat} {tb : Tb} {x : D} (hx : seq? x tb = some (ws.map D.str)) (h : (ws.map (·.length)).sum + ws.length * sep.length ≤ LIM) : joinD (.str sep) [x] tb = .ok (.str (joinL sep ws)) tb := by
  simp only [joinD, hx, Option.bind_some, mapM_strs]
  rw [if_pos h]
theorem joinL_nil : ∀ cs : List Nat, joinL [] (cs.map fun c => [c]) = cs
  | [] => rfl
  | [c] => rfl
  | c :: d :: cs => by
    have := joinL_nil (d :: cs)
    simp only [List.map_cons] at this ⊢
    simp [joinL, this]
theorem sum_ones (cs : List Nat) : ((cs.map fun c => [c]).map (·.length)).sum = cs.length := by
  induction cs with
  | nil => rfl
  | cons c cs ih => simp only [List.map_cons, List.sum_cons, ih, List.length_cons, List.length_nil]; omega
theorem join_chars {cs : List Nat} {tb : Tb} (h : cs.length ≤ 5000) : joinD (.str []) [.lst (cs.map fun c => D.str [c])] tb = .ok (.str cs) tb := by
  have e : (cs.map fun c => D.str [c]) = (cs.map fun c => [c]).map D.str := by simp
  rw [join_ok (ws := cs.map fun c => [c]) (by rw [e]; rfl) (by rw [sum_ones]; simp [LIM]; omega), joinL_nil]
theorem rows_any {w : List Nat} {u : List Nat} {o : List Nat} {d : D} (hw : okS w = true) (hu : okS u = true) (ho : okS o = true)
    (hd : d ∈ [D.str w, .str w, .str u, .str o, .non, .bl true, .bl false, .int 0, .int (-7), .int (10 ^ 30 - 1), .int (1 - 10 ^ 30), .lst [], .lst [.str [97]], .tup [.str [97]], .dic false [], .dic false [(.s [97], .str [98])], .lst [.str w]]) : AnyV d := by
  simp only [List.mem_cons, List.not_mem_nil, or_false] at hd
  rcases hd with rfl | rfl | rfl | rfl | rfl | rfl | rfl | rfl | rfl | rfl | rfl | rfl | rfl | rfl | rfl | rfl | rfl <;>
    first | exact .inl ⟨_, rfl, ‹_›⟩ | exact .inr fun t => ⟨_, rfl, by simp⟩
theorem any_wp {k b : Nat} {m : Int} {tb : Tb} (hk : 4 ≤ k) (s : St b m tb) (hm : m < 900000000) : Wp ((Fs k).law_any [.ref b] tb) (fun d t => AnyV d ∧ St b (m + 50) t ∧ Upd b tb t) noX := by
  obtain ⟨j, rfl⟩ := lev hk
  have dd : ∀ e tb, mDisp false [.s [97]] (mCons (mC (.str [98])) mNil) e tb = .ok (.dic false [(.s [97], .str [98])]) tb := fun e tb => by simp [mDisp, newD, dmerge, dput, DK.flat]
  have d0 : ∀ e tb, mDic0 false false e tb = .ok (.dic false []) tb := fun e tb => rfl
  have p30 : ∀ tb, powD (.int 10) (.int 30) tb = .ok (.int (10 ^ 30)) tb := fun tb => pow_ii (n := 30) (by decide) ⟨by omega, by omega⟩
  rw [show j + 4 = (j + 3) + 1 from rfl, F_law_any, wp_def]
  simp only [b_law_any, List.map_cons, List.map_nil, List.replicate, List.cons_append, List.nil_append]
  simp [LIM, isStrT]
  refine (wp_pickL (by omega) s (by omega) (by simp) (by simp)).use ?_
  rintro d t1 ⟨hd, s1, u1⟩
  obtain ⟨n, rfl, hn⟩ : ∃ n : Nat, d = .int (n : Int) ∧ n ≤ 40 := by
    simp at hd
    rcases hd with rfl | rfl | rfl | rfl | rfl | rfl | rfl | rfl
    · exact ⟨0, rfl, by omega⟩
    · exact ⟨1, rfl, by omega⟩
    · exact ⟨2, rfl, by omega⟩
    · exact ⟨7, rfl, by omega⟩
    · exact ⟨8, rfl, by omega⟩
    · exact ⟨9, rfl, by omega⟩
    · exact ⟨10, rfl, by omega⟩
    · exact ⟨40, rfl, by omega⟩
  clear hd
  simp
  refine ⟨by omega, ?_⟩
  refine (draws_wp (c := 1) (P := IsC) s1 (by omega) (by omega) fun x t' m' st h1 h2 => ?_).mono ?_ (fun _ _ _ z => z)
  · simp [wipeE]
    refine (wp_pickS (by omega) st (by omega) (by simp) (by simp)).use ?_
    rintro d t6 ⟨c, hc, rfl, s6, u6⟩
    exact ⟨⟨c, rfl, by simp at hc; omega⟩, s6, u6⟩
  rintro ls t2 ⟨hll, hli, s2, u2⟩
  obtain ⟨w, rfl, hw1, hw2⟩ := chars_of hli
  have hwl : w.length = n := by rw [hw1, hll]
  have okw : okS w = true := by simp only [okS, Bool.and_eq_true, decide_eq_true_eq]; exact ⟨by omega, hw2⟩
  have jn : ∀ tb, joinD (.str []) [.lst (w.map fun c => D.str [c])] tb = .ok (.str w) tb := fun tb => join_chars (by omega)
  have lw : ∀ tb, lenM (.str w) tb = .ok (.int (w.length : Int)) tb := fun tb => len_str (by simp only [LIM]; omega)
  simp [jn, LIM]
  refine (wp_pickL (by omega) s2 (by omega) (by simp) (by simp)).use ?_
  rintro d t3 ⟨hd, s3, u3⟩
  obtain ⟨o, rfl, ho1, ho2⟩ : ∃ o, d = .str o ∧ o.length = 1 ∧ okS o = true := by
    simp at hd
    rcases hd with rfl | rfl | rfl | rfl | rfl | rfl | rfl | rfl | rfl | rfl | rfl <;> exact ⟨_, rfl, rfl, by decide⟩
  clear hd
  simp [lw]
  refine (wp_take (by omega) s3 (by omega) (by omega) (by omega)).use ?_
  rintro d t4 ⟨r, rfl, hr, s4, u4⟩
  have a1 : ∀ tb, addD false (.str (w.take r)) (.str o) tb = .ok (.str (w.take r ++ o)) tb := fun tb => add_ss (by simp [LIM]; omega)
  have a2 : ∀ tb, addD false (.str (w.take r ++ o)) (.str (w.drop r)) tb = .ok (.str (w.take r ++ o ++ w.drop r)) tb := fun tb => add_ss (by simp [LIM]; omega)
  have sl1 : ∀ tb, slD false (.str w) none (some (r : Int)) tb = .ok (.str (w.take r)) tb := fun tb => sl_strT (by omega)
  have sl2 : ∀ tb, slD false (.str w) (some (r : Int)) none tb = .ok (.str (w.drop r)) tb := fun tb => sl_strF (by omega)
  have oku : okS (w.take r ++ o ++ w.drop r) = true := by
    simp only [okS, Bool.and_eq_true, decide_eq_true_eq]
    refine ⟨by simp; omega, okS_app (okS_app ?_ (okS_c ho2)) ?_⟩
    · rw [List.all_eq_true] at hw2 ⊢; exact fun x hx => hw2 x (List.mem_of_mem_take hx)
    · rw [List.all_eq_true] at hw2 ⊢; exact fun x hx => hw2 x (List.mem_of_mem_drop hx)
  generalize hU : w.take r ++ o ++ w.drop r = U at *
  simp [sl1, sl2, a1, a2, ↓dd, ↓d0, p30, LIM]
  refine (wp_pickL (by omega) s4 (by omega) (by simp) (by simp)).use ?_
  rintro d t5 ⟨hd, s5, u5⟩
  have u := (((u1.trans u2).trans u3).trans u4).trans u5
  rw [defK_rt, gc_same (by rw [u.len]; exact gcN_le _ _)]
  exact ⟨rows_any okw oku ho2 (by simpa using hd), s5.mono (by omega), u⟩
end L2.G.La
set_option maxHeartbeats 1000000
namespace L2.G.La
open PySem PySem.Spec PyProof.Rows
def CASES : List D := [D.str [], .str [45], .str [48], .str [45, 48], .str [45, 48], .str [45, 48], .str [48, 48], .str [49, 32], .str [49, 10], .str [49, 95, 48], .str [49, 46, 48], .str [48, 120, 49], .str [49, 101, 51], .str (repS [57] 30), .str (repS [57] 31), .str ([45] ++ repS [57] 30), .str ([45] ++ repS [57] 31), .str ([49] ++ repS [48] 29), .str ([49] ++ repS [48] 30)]
theorem cases_any {d : D} (h : d ∈ CASES) : AnyV d := by
  simp only [CASES, List.mem_cons, List.not_mem_nil, or_false] at h
  rcases h with rfl | rfl | rfl | rfl | rfl | rfl | rfl | rfl | rfl | rfl | rfl | rfl | rfl | rfl | rfl | rfl | rfl | rfl | rfl <;> exact .inl ⟨_, rfl, by decide +kernel⟩
theorem others_any {d : D} {w : List Nat} (hw : okS w = true) (hl : w.length ≤ 100)
    (hd : d ∈ [D.non, .int 7, .bl true, .lst [.str [49]], .tup [.str [49]], .dic false [], .str (w ++ [97]), .str (w ++ [32])]) : AnyV d := by
  have k : ∀ c, c < 1114112 → okS (w ++ [c]) = true := fun c hc => by
    simp only [okS, Bool.and_eq_true, decide_eq_true_eq]
    exact ⟨by simp; omega, okS_app (okS_c hw) (by simpa using hc)⟩
  simp only [List.mem_cons, List.not_mem_nil, or_false] at hd
  rcases hd with rfl | rfl | rfl | rfl | rfl | rfl | rfl | rfl <;>
    first | exact .inl ⟨_, rfl, k _ (by omega)⟩ | exact .inr fun t => ⟨_, rfl, by simp⟩
theorem drawn_wp {k b : Nat} {m : Int} {tb : Tb} (hk : 4 ≤ k) (s : St b m tb) (hm : m < 900000000) : Wp ((Fs k).law_drawn [.ref b] tb) (fun d t => AnyV d ∧ St b (m + 50) t ∧ Upd b tb t) noX := by
  obtain ⟨j, rfl⟩ := lev hk
  have d0 : ∀ e tb, mDic0 false false e tb = .ok (.dic false []) tb := fun e tb => rfl
  have r1 : ∀ tb, mulD false (.str [57]) (.int 30) tb = .ok (.str (repS [57] 30)) tb := fun tb => mul_si (n := 30) (by omega) (by simp [LIM])
  have r2 : ∀ tb, mulD false (.str [57]) (.int 31) tb = .ok (.str (repS [57] 31)) tb := fun tb => mul_si (n := 31) (by omega) (by simp [LIM])
  have r3 : ∀ tb, mulD false (.str [48]) (.int 29) tb = .ok (.str (repS [48] 29)) tb := fun tb => mul_si (n := 29) (by omega) (by simp [LIM])
  have r4 : ∀ tb, mulD false (.str [48]) (.int 30) tb = .ok (.str (repS [48] 30)) tb := fun tb => mul_si (n := 30) (by omega) (by simp [LIM])
  have x1 : ∀ tb, addD false (.str [45]) (.str (repS [57] 30)) tb = .ok (.str ([45] ++ repS [57] 30)) tb := fun tb => add_ss (by decide +kernel)
  have x2 : ∀ tb, addD false (.str [45]) (.str (repS [57] 31)) tb = .ok (.str ([45] ++ repS [57] 31)) tb := fun tb => add_ss (by decide +kernel)
  have x3 : ∀ tb, addD false (.str [49]) (.str (repS [48] 29)) tb = .ok (.str ([49] ++ repS [48] 29)) tb := fun tb => add_ss (by decide +kernel)
  have x4 : ∀ tb, addD false (.str [49]) (.str (repS [48] 30)) tb = .ok (.str ([49] ++ repS [48] 30)) tb := fun tb => add_ss (by decide +kernel)
  rw [show j + 4 = (j + 3) + 1 from rfl, F_law_drawn, wp_def]
  simp only [b_law_drawn, List.map_cons, List.map_nil, List.replicate, List.cons_append, List.nil_append]
  rw [ws_seq]
  refine ws_mid (fun e t => ∃ n : Nat, n ≤ 31 ∧ e = [some (.ref b), some (.int (n : Int)), none, none, none, none, none] ∧ St b (m + 1) t ∧ Upd b tb t) ?_ ?_
  · simp [LIM]
    refine (wp_pickL (by omega) s (by omega) (by simp) (by simp)).use ?_
    rintro d t1 ⟨hd, s1, u1⟩
    obtain ⟨n, rfl, hn⟩ : ∃ n : Nat, d = .int (n : Int) ∧ n ≤ 31 := by
      simp at hd
      rcases hd with rfl | rfl | rfl | rfl | rfl | rfl
      · exact ⟨1, rfl, by omega⟩
      · exact ⟨2, rfl, by omega⟩
      · exact ⟨3, rfl, by omega⟩
      · exact ⟨29, rfl, by omega⟩
      · exact ⟨30, rfl, by omega⟩
      · exact ⟨31, rfl, by omega⟩
    exact ⟨n, hn, rfl, s1, u1⟩
  rintro e t1 ⟨n, hn, rfl, s1, u1⟩
  rw [ws_seq]
  refine ws_mid (fun e t => ∃ w : List Nat, w.length ≤ 31 ∧ okS w = true ∧ e = [some (.ref b), some (.int (n : Int)), some (.str w), none, none, none, none] ∧ St b (m + 1 + n) t ∧ Upd b tb t) ?_ ?_
  · simp [isStrT]
    refine ⟨by omega, ?_⟩
    refine (draws_wp (c := 1) (P := IsC) s1 (by omega) (by omega) fun x t' m' st h1 h2 => ?_).mono ?_ (fun _ _ _ z => z)
    · simp [wipeE]
      refine (wp_pickS (by omega) st (by omega) (by simp) (by simp)).use ?_
      rintro d t6 ⟨c, hc, rfl, s6, u6⟩
      exact ⟨⟨c, rfl, by simp at hc; omega⟩, s6, u6⟩
    rintro ls t2 ⟨hll, hli, s2, u2⟩
    obtain ⟨w, rfl, hw1, hw2⟩ := chars_of hli
    have hwl : w.length = n := by rw [hw1, hll]
    have jn : ∀ tb, joinD (.str []) [.lst (w.map fun c => D.str [c])] tb = .ok (.str w) tb := fun tb => join_chars (by omega)
    simp [jn]
    exact ⟨w, by omega, by simp only [okS, Bool.and_eq_true, decide_eq_true_eq]; exact ⟨by omega, hw2⟩, rfl, by simpa using s2, u1.trans u2⟩
  rintro e t2 ⟨w, hwl, okw, rfl, s2, u2⟩
  rw [ws_seq]
  refine ws_mid (fun e t => ∃ w : List Nat, w.length ≤ 32 ∧ okS w = true ∧ e = [some (.ref b), some (.int (n : Int)), some (.str w), none, none, none, none] ∧ St b (m + 3 + n) t ∧ Upd b tb t) ?_ ?_
  · simp
    refine (wp_take (by omega) s2 (by omega) (by decide) (by decide)).use ?_
    rintro d t3 ⟨r, rfl, hr, s3, u3⟩
    simp
    by_cases hr0 : (0 : Int) < (r : Int)
    · have hr0' : 0 < r := by omega
      simp [hr0']
      exact ⟨w, by omega, okw, rfl, s3.mono (by omega), u2.trans u3⟩
    · have hr0' : ¬ 0 < r := by omega
      simp [hr0']
      refine (wp_pickS (by omega) s3 (by omega) (by simp) (by simp)).use ?_
      rintro d t6 ⟨c, hc, rfl, s6, u6⟩
      have hc2 : c < 1114112 := by simp at hc; omega
      have s1' : ∀ tb, slD false (.str w) (some 1) none tb = .ok (.str (w.drop 1)) tb := fun tb => sl_strF (n := 1) (by omega)
      obtain ⟨v, hv⟩ : ∃ v, v = w.drop 1 := ⟨_, rfl⟩
      rw [← hv] at s1'
      have hvl : v.length ≤ 31 := by rw [hv]; simp; omega
      have a1 : ∀ tb, addD false (.str [c]) (.str v) tb = .ok (.str (c :: v)) tb := fun tb => add_ss (by simp [LIM]; omega)
      have ok2 : okS (c :: v) = true := by
        have okv : v.all (fun c => decide (c < 1114112)) = true := by
          have := okS_c okw
          rw [List.all_eq_true] at this ⊢; exact fun x hx => this x (by rw [hv] at hx; exact List.mem_of_mem_drop hx)
        simp only [okS, Bool.and_eq_true, decide_eq_true_eq]
        refine ⟨by simp; omega, ?_⟩
        simp only [List.all_cons, okv, Bool.and_true, decide_eq_true_eq]; exact hc2
      have ll2 : (c :: v).length ≤ 32 := by simp; omega
      simp [s1', a1]
      exact ⟨c :: v, ll2, ok2, rfl, s6.mono (by omega), (u2.trans u3).trans u6⟩
  clear okw hwl s2 u2
  rintro e t2 ⟨w, hwl, okw, rfl, s2, u2⟩
  rw [ws_seq]
  refine ws_mid (fun e t => ∃ r : Nat, r < 12 ∧ e = [some (.ref b), some (.int (n : Int)), some (.str w), some (.int (r : Int)), none, none, none] ∧ St b (m + 4 + n) t ∧ Upd b tb t) ?_ ?_
  · simp
    refine (wp_take (by omega) s2 (by omega) (by decide) (by decide)).use ?_
    rintro d t3 ⟨r, rfl, hr, s3, u3⟩
    exact ⟨r, by omega, rfl, s3.mono (by omega), u2.trans u3⟩
  clear s2 u2
  rintro e t2 ⟨r, hr, rfl, s2, u2⟩
  rw [ws_seq]
  refine ws_mid (fun e t => ∃ z : List Nat, z.length ≤ 2 ∧ okS z = true ∧ e = [some (.ref b), some (.int (n : Int)), some (.str w), some (.int (r : Int)), some (.str z), none, none] ∧ t = t2) ?_ ?_
  · by_cases h10 : r < 10
    · have hi : ∃ z : List Nat, z.length ≤ 2 ∧ okS z = true ∧ ([D.str [], .str [], .str [], .str [45], .str [45], .str [43], .str [45, 45], .str [32], .str [48], .str [45, 48]] : List D)[r]? = some (.str z) := by
        rcases (by omega : r = 0 ∨ r = 1 ∨ r = 2 ∨ r = 3 ∨ r = 4 ∨ r = 5 ∨ r = 6 ∨ r = 7 ∨ r = 8 ∨ r = 9) with rfl | rfl | rfl | rfl | rfl | rfl | rfl | rfl | rfl | rfl <;> exact ⟨_, by decide, by decide, rfl⟩
      obtain ⟨z, z1, z2, z3⟩ := hi
      have i1 : ∀ tb, ixD (.lst [D.str [], .str [], .str [], .str [45], .str [45], .str [43], .str [45, 45], .str [32], .str [48], .str [45, 48]]) (.int (r : Int)) tb = .ok (.str z) tb := fun tb => ix_lst rfl z3
      have h10' : (r : Int) < 10 := by omega
      simp [h10', i1, LIM]
      exact ⟨z1, z2⟩
    · have h10' : ¬ (r : Int) < 10 := by omega
      simp [h10']
      decide
  rintro e t ⟨z, z1, z2, rfl, rfl⟩
  have a1 : ∀ tb, addD false (.str z) (.str w) tb = .ok (.str (z ++ w)) tb := fun tb => add_ss (by simp [LIM]; omega)
  have okt : okS (z ++ w) = true := by
    simp only [okS, Bool.and_eq_true, decide_eq_true_eq]
    exact ⟨by simp; omega, okS_app (okS_c z2) (okS_c okw)⟩
  generalize z ++ w = tx' at *
  by_cases h10 : r = 10
  · subst h10
    simp [a1, r1, r2, r3, r4, x1, x2, x3, x4, LIM]
    have := wp_pickL (k := j + 3) (xs := CASES) (by omega) s2 (by omega) (by simp [CASES]) (by simp [CASES])
    refine this.use ?_
    rintro d t5 ⟨hd, s5, u5⟩
    rw [seqK_rt, defK_rt, gc_same (by rw [(u2.trans u5).len]; exact gcN_le _ _)]
    exact ⟨cases_any hd, s5.mono (by omega), u2.trans u5⟩
  · by_cases h11 : r = 11
    · subst h11
      have a2 : ∀ tb, addD false (.str w) (.str [97]) tb = .ok (.str (w ++ [97])) tb := fun tb => add_ss (by simp [LIM]; omega)
      have a3 : ∀ tb, addD false (.str w) (.str [32]) tb = .ok (.str (w ++ [32])) tb := fun tb => add_ss (by simp [LIM]; omega)
      simp [a1, a2, a3, ↓d0, LIM]
      refine (wp_pickL (by omega) s2 (by omega) (by simp) (by simp)).use ?_
      rintro d t5 ⟨hd, s5, u5⟩
      rw [defK_rt, gc_same (by rw [(u2.trans u5).len]; exact gcN_le _ _)]
      exact ⟨others_any okw (by omega) hd, s5.mono (by omega), u2.trans u5⟩
    · have h10' : ¬ ((r : Int) = 10) := by omega
      have h11' : ¬ ((r : Int) = 11) := by omega
      simp [a1, h10', h11']
      rw [gc_same (by rw [u2.len]; exact gcN_le _ _)]
      exact ⟨.inl ⟨_, rfl, okt⟩, s2.mono (by omega), u2⟩
end L2.G.La
set_option maxHeartbeats 1000000
namespace L2.G.La
open PySem PySem.Spec PyProof.Rows
/-- a line, or what is none -/
def LineV (L : Nat) (d : D) (t : Tb) : Prop := (∃ cs, d = .str cs ∧ okS cs = true) ∨ (∃ o, CV L 3000 t d ∧ tyD d t = some o ∧ o ≠ some .str)
def IsW (y : D) : Prop := ∃ cs, y = .str cs ∧ cs.length ≤ 4 ∧ cs.all (fun c => decide (c < 1114112)) = true
theorem words_of : ∀ {ds : List D}, (∀ y ∈ ds, IsW y) → ∃ ws : List (List Nat), ds = ws.map D.str ∧ ws.length = ds.length ∧ ∀ w ∈ ws, w.length ≤ 4 ∧ w.all (fun c => decide (c < 1114112)) = true
  | [], _ => ⟨[], rfl, rfl, by simp⟩
  | d :: ds, h => by
    obtain ⟨c, rfl, hc⟩ := h d (by simp)
    obtain ⟨cs, rfl, h2, h3⟩ := words_of fun y hy => h y (List.mem_cons_of_mem _ hy)
    refine ⟨c :: cs, rfl, by simp, fun w hw => ?_⟩
    rcases List.mem_cons.mp hw with e | e
    · subst e; exact hc
    · exact h3 w e
theorem joinL_ok : ∀ (ws : List (List Nat)), (∀ w ∈ ws, w.length ≤ 4 ∧ w.all (fun c => decide (c < 1114112)) = true) → (joinL [32] ws).length ≤ 5 * ws.length ∧ (joinL [32] ws).all (fun c => decide (c < 1114112)) = true ∧ (ws.map (·.length)).sum ≤ 4 * ws.length
  | [], _ => by simp [joinL]
  | [w], h => by
    have := h w (by simp)
    simp only [joinL, List.length_cons, List.length_nil, List.map_cons, List.map_nil, List.sum_cons, List.sum_nil]
    exact ⟨by omega, this.2, by omega⟩
  | w :: v :: ws, h => by
    have ih := joinL_ok (v :: ws) fun x hx => h x (List.mem_cons_of_mem _ hx)
    have := h w (by simp)
    simp only [joinL]
    refine ⟨?_, okS_app (okS_app this.2 (by decide)) ih.2.1, ?_⟩
    · have h1 := ih.1; simp only [List.length_append, List.length_cons, List.length_nil] at h1 ⊢; omega
    · have h1 := ih.2.2; simp only [List.map_cons, List.sum_cons, List.length_cons] at h1 ⊢; omega
theorem line_cases {d : D} (h : d ∈ [D.non, .int 7, .bl true, .lst [.str [97, 32, 98]], .tup [.str [97]], .dic false [], .lst [], .int (10 ^ 29)]) : CC d ∧ ∀ t, ∃ o, tyD d t = some o ∧ o ≠ some .str := by
  simp only [List.mem_cons, List.not_mem_nil, or_false] at h
  rcases h with rfl | rfl | rfl | rfl | rfl | rfl | rfl | rfl
  · exact ⟨.atom rfl, fun t => ⟨_, rfl, by simp⟩⟩
  · exact ⟨.atom rfl, fun t => ⟨_, rfl, by simp⟩⟩
  · exact ⟨.atom rfl, fun t => ⟨_, rfl, by simp⟩⟩
  · exact ⟨.lst (by decide) (by simp), fun t => ⟨_, rfl, by simp⟩⟩
  · exact ⟨.tup (by decide) (by simp), fun t => ⟨_, rfl, by simp⟩⟩
  · exact ⟨.dic0, fun t => ⟨_, rfl, by simp⟩⟩
  · exact ⟨.lst (by decide) (by simp), fun t => ⟨_, rfl, by simp⟩⟩
  · exact ⟨.atom rfl, fun t => ⟨_, rfl, by simp⟩⟩
theorem line_wp {k b : Nat} {m : Int} {tb : Tb} (hk : 10 ≤ k) (s : St b m tb) (hm : m < 900000000) : Wp ((Fs k).law_line [.ref b] tb) (fun d t => LineV tb.length d t ∧ Lp b (m + 60) tb t) noX := by
  obtain ⟨j, rfl⟩ := lev hk
  have hb := s.lt
  have d0 : ∀ e tb, mDic0 false false e tb = .ok (.dic false []) tb := fun e tb => rfl
  have p29 : ∀ tb, powD (.int 10) (.int 29) tb = .ok (.int (10 ^ 29)) tb := fun tb => pow_ii (n := 29) (by decide) ⟨by omega, by omega⟩
  rw [show j + 10 = (j + 9) + 1 from rfl, F_law_line, wp_def]
  simp only [b_law_line, List.map_cons, List.map_nil, List.replicate, List.cons_append, List.nil_append]
  rw [ws_seq]
  refine ws_mid (fun e t => ∃ ws : List (List Nat), ws.length ≤ 4 ∧ (∀ w ∈ ws, w.length ≤ 4 ∧ w.all (fun c => decide (c < 1114112)) = true) ∧ e = [some (.ref b), some (.lst (ws.map .str)), none, none, none, none, none] ∧ St b (m + 40) t ∧ Upd b tb t) ?_ ?_
  · simp
    refine (wp_take (by omega) s (by omega) (by decide) (by decide)).use ?_
    rintro d t1 ⟨n, rfl, hn, s1, u1⟩
    simp
    refine ⟨by omega, ?_⟩
    refine (draws_wp (c := 6) (P := IsW) s1 (by omega) (by omega) fun x t' m' st h1 h2 => ?_).mono ?_ (fun _ _ _ z => z)
    · simp [wipeE, isStrT]
      refine (wp_take (by omega) st (by omega) (by decide) (by decide)).use ?_
      rintro d t2 ⟨q, rfl, hq, s2, u2⟩
      have hq1 : (1 : Int) + (q : Int) = ((1 + q : Nat) : Int) := by omega
      simp only [wp_ok, u_add, hq1]
      simp
      refine ⟨by omega, ?_⟩
      refine (draws_wp (n := 1 + q) (c := 1) (P := IsC) s2 (by omega) (by omega) fun x t' m' st h1 h2 => ?_).mono ?_ (fun _ _ _ z => z)
      · simp [wipeE]
        refine (wp_pickS (by omega) st (by omega) (by simp) (by simp)).use ?_
        rintro d t6 ⟨c, hc, rfl, s6, u6⟩
        exact ⟨⟨c, rfl, by simp at hc; omega⟩, s6, u6⟩
      rintro ls t3 ⟨hll, hli, s3, u3⟩
      obtain ⟨w, rfl, hw1, hw2⟩ := chars_of hli
      have jn : ∀ tb, joinD (.str []) [.lst (w.map fun c => D.str [c])] tb = .ok (.str w) tb := fun tb => join_chars (by omega)
      simp [jn]
      exact ⟨⟨w, rfl, by omega, hw2⟩, s3.mono (by omega), u2.trans u3⟩
    rintro ls t2 ⟨hll, hli, s2, u2⟩
    obtain ⟨ws, rfl, hw1, hw2⟩ := words_of hli
    simp
    exact ⟨ws, by omega, by simpa using hw2, rfl, s2.mono (by omega), u1.trans u2⟩
  rintro e t1 ⟨ws, hwl, hws, rfl, s1, u1⟩
  obtain ⟨j1, j2, j3⟩ := joinL_ok ws hws
  have jn : ∀ tb, joinD (.str [32]) [.lst (ws.map D.str)] tb = .ok (.str (joinL [32] ws)) tb := fun tb => join_ok rfl (by simp [LIM]; omega)
  have okl : okS (joinL [32] ws) = true := by simp only [okS, Bool.and_eq_true, decide_eq_true_eq]; exact ⟨by omega, j2⟩
  have jl : (joinL [32] ws).length ≤ 20 := by omega
  generalize joinL [32] ws = l at *
  clear j1 j2 j3 hws
  have ll : ∀ tb, lenM (.str l) tb = .ok (.int (l.length : Int)) tb := fun tb => len_str (by simp only [LIM]; omega)
  rw [ws_seq]
  refine ws_mid (fun e t => e = [some (.ref b), some (.lst (ws.map .str)), some (.str l), none, none, none, none] ∧ t = t1) ?_ ?_
  · simp [isStrT, jn]
  rintro e t ⟨rfl, rfl⟩
  rw [ws_seq]
  refine ws_mid (fun e t => ∃ r a : Nat, r < 8 ∧ e = [some (.ref b), some (.lst (ws.map .str)), some (.str l), some (.int (r : Int)), some (.int (a : Int)), none, none] ∧ St b (m + 42) t ∧ Upd b tb t) ?_ ?_
  · simp [ll]
    refine (wp_take (by omega) s1 (by omega) (by decide) (by decide)).use ?_
    rintro d t2 ⟨r, rfl, hr, s2, u2⟩
    simp [ll]
    refine (wp_take (by omega) s2 (by omega) (by omega) (by omega)).use ?_
    rintro d t3 ⟨a, rfl, ha, s3, u3⟩
    simp
    exact ⟨r, by omega, ⟨rfl, a, rfl⟩, s3.mono (by omega), (u1.trans u2).trans u3⟩
  rintro e t2 ⟨r, a, hr, rfl, s2, u2⟩
  have fin : ∀ (d : D) (t : Tb) (m' : Int), LineV tb.length d t → St b m' t → Upd b tb t → m' ≤ m + 60 → LineV tb.length d (gcTb (gcN tb.length d) [d] t) ∧ Lp b (m + 60) tb (gcTb (gcN tb.length d) [d] t) := fun d t m' h1 h2 h3 h4 => by
    rw [gc_same (by rw [h3.len]; exact gcN_le _ _)]
    exact ⟨h1, Up.refl.upd h3, hb, h2.mono h4⟩
  have t1' : ∀ tb, slD false (.str l) none (some (a : Int)) tb = .ok (.str (l.take a)) tb := fun tb => sl_strT (by omega)
  have t2' : ∀ tb, slD false (.str l) (some (a : Int)) none tb = .ok (.str (l.drop a)) tb := fun tb => sl_strF (by omega)
  have okP : ∀ (x y z : List Nat), okS x = true → okS y = true → x.length + y.length ≤ 100 → okS (x ++ y) = true := fun x y _ h1 h2 h3 => by
    simp only [okS, Bool.and_eq_true, decide_eq_true_eq]; exact ⟨by simp; omega, okS_app (okS_c h1) (okS_c h2)⟩
  have okt : okS (l.take a) = true := okS_sub okl (by simp; omega) fun c hc => List.mem_of_mem_take hc
  have okd : okS (l.drop a) = true := okS_sub okl (by simp) fun c hc => List.mem_of_mem_drop hc
  have lt1 : (l.take a).length ≤ 20 := by simp; omega
  have lt2 : (l.drop a).length ≤ 20 := by simp; omega
  generalize l.take a = la at *
  generalize l.drop a = lb at *
  have a1 : ∀ c tb, addD false (.str la) (.str [c]) tb = .ok (.str (la ++ [c])) tb := fun c tb => add_ss (by simp [LIM]; omega)
  have a2 : ∀ c tb, addD false (.str (la ++ [c])) (.str lb) tb = .ok (.str (la ++ [c] ++ lb)) tb := fun c tb => add_ss (by simp [LIM]; omega)
  have okab : ∀ c, c < 100 → okS (la ++ [c] ++ lb) = true := fun c hc => okP _ _ [] (okP _ _ [] okt (by simp [okS]; omega) (by simp; omega)) okd (by simp; omega)
  by_cases r0 : r = 0
  · subst r0
    have ok32 := okab 32 (by omega)
    generalize hW : la ++ [32] ++ lb = W at *
    simp [t1', t2', a1, a2, hW]
    exact fin _ _ _ (.inl ⟨_, rfl, ok32⟩) s2 u2 (by omega)
  · by_cases r1 : r = 1
    · subst r1
      have ok32 := okab 10 (by omega)
      generalize hW : la ++ [10] ++ lb = W at *
      simp [t1', t2', a1, a2, hW]
      exact fin _ _ _ (.inl ⟨_, rfl, ok32⟩) s2 u2 (by omega)
    · by_cases r2 : r = 2
      · subst r2
        have b1 : ∀ tb, addD false (.str [32]) (.str l) tb = .ok (.str ([32] ++ l)) tb := fun tb => add_ss (by simp [LIM]; omega)
        have b2 : ∀ c tb, addD false (.str l) (.str [c]) tb = .ok (.str (l ++ [c])) tb := fun c tb => add_ss (by simp [LIM]; omega)
        have k1 : okS ([32] ++ l) = true := okP _ _ [] (by decide) okl (by simp; omega)
        have k2 : ∀ c, c < 100 → okS (l ++ [c]) = true := fun c hc => okP _ _ [] okl (by simp [okS]; omega) (by simp; omega)
        have k3 := k2 32 (by omega)
        have k4 := k2 10 (by omega)
        simp [b1, b2, LIM]
        refine (wp_pickL (by omega) s2 (by omega) (by simp) (by simp)).use ?_
        rintro d t5 ⟨hd, s5, u5⟩
        rw [seqK_rt, defK_rt]
        refine fin _ _ _ (.inl ?_) s5 (u2.trans u5) (by omega)
        simp only [List.mem_cons, List.not_mem_nil, or_false] at hd
        rcases hd with rfl | rfl | rfl | rfl | rfl | rfl
        · exact ⟨_, rfl, k1⟩
        · exact ⟨_, rfl, k3⟩
        · exact ⟨_, rfl, by decide⟩
        · exact ⟨_, rfl, by decide⟩
        · exact ⟨_, rfl, by decide⟩
        · exact ⟨_, rfl, k4⟩
      · have r0' : ¬ ((r : Int) = 0) := by omega
        have r1' : ¬ ((r : Int) = 1) := by omega
        have r2' : ¬ ((r : Int) = 2) := by omega
        by_cases r3 : r = 3
        · subst r3
          simp [p29, ↓d0, LIM]
          refine (wp_pickL (by omega) s2 (by omega) (by simp) (by simp)).use ?_
          rintro d t5 ⟨hd, s5, u5⟩
          obtain ⟨cc, ty⟩ := line_cases (by simpa using hd)
          have hl5 : t5.length = tb.length := (u2.trans u5).len
          have l5 : Lp b (m + 43) tb t5 := ⟨Up.refl.upd (u2.trans u5), hb, s5.mono (by omega)⟩
          obtain ⟨v, t6, e6, cv, l6, ke, ty6, gg⟩ := cc.copy (k := j + 9) (by omega) l5
          simp [e6]
          rw [hl5] at gg cv
          rw [gg]
          obtain ⟨o, ho, hno⟩ := ty t6
          exact ⟨.inr ⟨o, cv, by rw [ty6]; exact ho, hno⟩, l6.up, hb, l6.st.mono (by omega)⟩
        · have r3' : ¬ ((r : Int) = 3) := by omega
          simp [r0', r1', r2', r3', r0, r1, r2, r3]
          exact fin _ _ _ (.inl ⟨_, rfl, okl⟩) s2 u2 (by omega)
end L2.G.La
set_option maxHeartbeats 1000000
namespace L2.G.La
open PySem PySem.Spec PyProof.Rows
theorem sme_strs {t : Tb} {n : Nat} {d e : D} {b : Bool} {ws : List (List Nat)} (h1 : seqT d t = some (b, ws.map .str)) (h2 : seqT e t = some (b, ws.map .str)) (hl : ws.length ≤ 5000) (hw : ∀ w ∈ ws, okS w = true) : Sme t (n + 1) d e :=
  .seq h1 h2 rfl (by simpa using hl) fun k x y e1 e2 => by
    rw [e1] at e2
    cases e2
    obtain ⟨w, hw', rfl⟩ := List.mem_map.mp (List.mem_of_getElem? e1)
    exact .str (okS_l (hw w hw')) (okS_c (hw w hw'))
theorem sme_two {t : Tb} {n : Nat} {a b c d : D} (h1 : Sme t n a c) (h2 : Sme t n b d) : Sme t (n + 1) (.lst [a, b]) (.lst [c, d]) :=
  .seq (b := true) rfl rfl rfl (by simp) fun k x y e1 e2 => by
    match k with
    | 0 => simp at e1 e2; subst e1; subst e2; exact h1
    | 1 => simp at e1 e2; subst e1; subst e2; exact h2
    | k + 2 => simp at e1
theorem ix_two0 {a b : D} {t : Tb} : ixD (.lst [a, b]) (.int 0) t = .ok a t := ix_lst (n := 0) rfl rfl
theorem ix_two1 {a b : D} {t : Tb} : ixD (.lst [a, b]) (.int 1) t = .ok b t := ix_lst (n := 1) rfl rfl
theorem sum_le : ∀ (ws : List (List Nat)), (ws.map (·.length)).sum + ws.length ≤ (joinL [32] ws).length + 1
  | [] => by simp [joinL]
  | [w] => by simp [joinL]
  | w :: v :: ws => by
    have ih := sum_le (v :: ws)
    simp only [joinL, List.map_cons, List.sum_cons, List.length_cons, List.length_append, List.length_nil] at ih ⊢
    omega
theorem sum_ge : ∀ {ws : List (List Nat)}, (∀ w ∈ ws, w ≠ []) → ws.length ≤ (ws.map (·.length)).sum
  | [], _ => by simp
  | w :: ws, h => by
    have ih := sum_ge fun x hx => h x (List.mem_cons_of_mem _ hx)
    have := List.length_pos_iff.mpr (h w (by simp))
    simp only [List.map_cons, List.sum_cons, List.length_cons]
    omega
theorem lines_wp {k b : Nat} {m : Int} {tb : Tb} {nm : Bool} (hk : 12 ≤ k) (s : St b m tb) (hm : m < 800000000) : Wp ((Fs k).law_lines_right [.ref b, .bl nm] tb) (fun d t => d = .bl true ∧ St b (m + 60) t ∧ Upd b tb t) noX := by
  obtain ⟨j, rfl⟩ := lev hk
  have hb := s.lt
  have fin : ∀ (t : Tb), Lp b (m + 60) tb t → D.bl true = .bl true ∧ St b (m + 60) (gcTb (gcN tb.length (.bl true)) [.bl true] t) ∧ Upd b tb (gcTb (gcN tb.length (.bl true)) [.bl true] t) := fun t l => by
    obtain ⟨st, u, g⟩ := l.up.cut s.wf hb l.st.box
    rw [show gcN tb.length (D.bl true) = tb.length from rfl, g tb.length [.bl true] rfl rfl]
    exact ⟨rfl, st, u⟩
  have fin' : ∀ (t : Tb), Lp b (m + 60) tb t → St b (m + 60) (gcTb (gcN tb.length (.bl true)) [.bl true] t) ∧ Upd b tb (gcTb (gcN tb.length (.bl true)) [.bl true] t) := fun t l => (fin t l).2
  rw [show j + 12 = (j + 11) + 1 from rfl, F_law_lines_right, wp_def]
  simp only [b_law_lines_right, List.map_cons, List.map_nil, List.replicate, List.cons_append, List.nil_append]
  rw [ws_seq]
  refine ws_mid (fun e t => ∃ d, LineV tb.length d t ∧ Lp b (m + 60) tb t ∧ e = [some (.ref b), some (.bl nm), some d, none, none]) ?_ ?_
  · simp
    refine (line_wp (by omega) s (by omega)).use ?_
    rintro d t1 ⟨hd, l1⟩
    exact ⟨d, hd, l1, rfl⟩
  rintro e t1 ⟨d, hd, l1, rfl⟩
  have qL : ∀ t, eqP false (.str LINE) (.str LINE) t = .ok (.bl true) t := fun t => by rw [eq_ss (by decide) (by decide)]; simp
  rcases hd with ⟨cs, rfl, okc⟩ | ⟨o, cv, ty, hno⟩
  · rw [ws_seq]
    refine ws_mid (fun e t => e = [some (.ref b), some (.bl nm), some (.str cs), some (wordsD (wordsV cs)), none] ∧ t = t1) ?_ ?_
    · simp
      refine (words_wp okc l1.st.wf (by omega)).use ?_
      rintro d t ⟨rfl, rfl⟩
      exact ⟨rfl, rfl⟩
    rintro e t ⟨rfl, rfl⟩
    cases hv : wordsV cs with
    | none =>
      have e1 := lsplit_ex (nm := nm) (k := j + 11) (by omega) l1.st.wf (by rfl) (split_ex (k := j + 10) (by omega) l1.st.wf okc hv)
      have e2 : (Fs (j + 11)).law_very [.str cs, .str cs] t = .ok (.bl true) t := very_no (n := 0) (.str (okS_l okc) (okS_c okc)) (by omega) (by simp [isiD, tyD, Ty.has]) (by simp [isiD, tyD, Ty.has])
      simp [wordsD, e1, isN, ix_two0, ix_two1, qL, e2]
      exact fin' t l1
    | some ws =>
      obtain ⟨w1, w2, w3⟩ := wordsV_ok okc hv
      have wl : ws.length ≤ 5000 := by
        have := sum_le ws
        rw [w3] at this
        have := okS_l okc
        have hne : ∀ w ∈ ws, w ≠ [] := fun w hw e => by
          subst e
          unfold wordsV at hv
          split at hv
          · cases hv; simp at hw
          · split at hv
            · cases hv
            · rename_i h; cases hv; exact h (.inr hw)
        have := sum_ge hne
        omega
      have e1 := fun t nm => lsplit_ok (nm := nm) (tb := t) (k := j + 11) (by omega) okc hv
      have l2 := l1.push (o := .lst (ws.map .str)) (bels_strs _) rfl
      have sm : ∀ (t : Tb), (Fs (j + 11)).law_same [.lst [.str TOLD, .ref t.length], .lst [.str TOLD, .lst (ws.map .str)]] (t ++ [.lst (ws.map .str)]) = .ok (.bl true) (t ++ [.lst (ws.map .str)]) := fun t =>
        (sme_two (n := 1) (.str (by simp) (by decide)) (sme_strs (b := true) (ws := ws) (by simp [seqT]) rfl wl w2)).ok _ (by omega)
      have jn : joinD (.str [32]) [.ref t.length] (t ++ [.lst (ws.map .str)]) = .ok (.str cs) (t ++ [.lst (ws.map .str)]) := by
        have hs := sum_le ws
        rw [w3] at hs
        have := okS_l okc
        rw [join_ok (ws := ws) (by simp [seq?, lst?]) (by simp [LIM]; omega), w3]
      have q1 : ∀ t, eqP true (.str cs) (.str cs) t = .ok (.bl false) t := fun t => by rw [eq_ss (okS_c okc) (okS_c okc)]; simp
      have hat : (t ++ [Ob.lst (ws.map .str)])[t.length]? = some (.lst (ws.map .str)) := by simp
      have ap : appendD (.ref t.length) [.str MORE] (t ++ [Ob.lst (ws.map D.str)]) = .ok .non ((t ++ [Ob.lst (ws.map D.str)]).set t.length (Ob.lst (ws.map D.str ++ [D.str MORE]))) := append_at hat (by simp [LIM]; omega)
      have hs : isLstT (.ref t.length) (t ++ [.lst (ws.map .str)]) = true := by simp [isLstT, lst?]
      have l3 : Lp b (m + 60) tb ((t ++ [Ob.lst (ws.map D.str)]).set t.length (Ob.lst (ws.map D.str ++ [D.str MORE]))) := l2.set l1.up.le (by
        show belows _ _ = true
        exact belows_mem.mpr fun x hx => by
          rcases List.mem_append.mp hx with q | q
          · exact belows_mem.mp (bels_strs ws) x q
          · simp at q; subst q; rfl) rfl
      generalize hT : (t ++ [Ob.lst (ws.map D.str)]).set t.length (Ob.lst (ws.map D.str ++ [D.str MORE])) = T at *
      have l4 := l3.push (o := .lst (ws.map .str)) (bels_strs _) rfl
      simp [wordsD, e1, isN, ix_two0, ix_two1, sm, LIM, isStrT, jn, q1, hs, ap]
      exact fin' _ l4
  · rw [ws_seq]
    refine ws_mid (fun e t => e = [some (.ref b), some (.bl nm), some d, some .non, none] ∧ t = t1) ?_ ?_
    · have e0 := words_no (k := j + 11) (by omega) ty hno
      simp [e0]
    rintro e t ⟨rfl, rfl⟩
    have e1 := lsplit_ex (nm := nm) (k := j + 11) (by omega) l1.st.wf cv.bel (split_no (k := j + 10) (by omega) ty hno)
    obtain ⟨t2, e2, l2, _⟩ := cv.very (k := j + 11) l1 (Nat.le_refl _) (by omega) (by omega)
    simp [e1, isN, ix_two0, ix_two1, qL, e2]
    exact fin' _ l2
end L2.G.La
set_option maxHeartbeats 1000000
namespace L2.G.La
open PySem PySem.Spec PyProof.Rows
theorem AnyV.text {d : D} (h : AnyV d) (t : Tb) : TextV t d := by
  rcases h with ⟨cs, rfl, h⟩ | h
  · exact .str h
  · obtain ⟨o, h1, h2⟩ := h t; exact .no h1 h2
theorem number_no {v : D} {tb : Tb} {o : Option Ty} {k : Nat} (hk : 1 ≤ k) (h : tyD v tb = some o) (ho : o ≠ some .str) : (Fs k).law_number [v] tb = .ok .non tb := by
  obtain ⟨j, rfl⟩ := lev hk
  rw [F_law_number]
  refine mDef_rt ?_
  have e := str_no h ho
  have q : eqP false (.str []) (.str []) tb = .ok (.bl true) tb := by rw [eq_ss rfl rfl]; simp
  simp only [b_law_number, List.map_cons, List.map_nil, List.replicate, List.cons_append, List.nil_append]
  simp [e, q]
theorem number_any {d : D} {tb : Tb} {k : Nat} (hk : 1 ≤ k) (h : AnyV d) : Wp ((Fs k).law_number [d] tb) (fun x t => x = lD (numV d) ∧ t = tb) noX := by
  rcases h with ⟨cs, rfl, h⟩ | h
  · refine (number_wp h hk).use ?_
    rintro x t ⟨rfl, rfl⟩
    refine ⟨?_, rfl⟩
    simp only [numV]
    split <;> rfl
  · obtain ⟨o, h1, h2⟩ := h tb
    exact wp_of (number_no hk h1 h2) ⟨by rw [numV_no h1 h2]; rfl, rfl⟩
/-- neither an integer nor None -/
def NotL : D → Bool
  | .non => false
  | .int _ => false
  | _ => true
theorem CV.notL {L N : Nat} {t : Tb} {v : D} (h : CV L N t v) (hn : NotL v = true) : ∃ T, tyD v t = some (some T) ∧ T ≠ .int := by
  cases h with
  | atom h => cases v with
    | non => cases hn
    | int _ => cases hn
    | bl _ => exact ⟨.bool, rfl, by simp⟩
    | str _ => exact ⟨.str, rfl, by simp⟩
    | _ => cases h
  | tup h1 h2 => exact ⟨_, rfl, by simp⟩
  | tupl h1 h2 h3 h4 h5 => exact ⟨_, rfl, by simp⟩
  | lst h1 h2 h3 h4 => exact ⟨.list, by simp [tyD, h2], by simp⟩
  | dic h1 h2 h3 => exact ⟨.dict, by simp [tyD, h2], by simp⟩
theorem notL_of {v : D} {t : Tb} {T : Ty} (h : tyD v t = some (some T)) (h2 : T ≠ .int) : NotL v = true := by
  cases v <;> first | rfl | (simp [tyD] at h; try exact absurd h.symm h2)
theorem CV.lim {L N k : Nat} {t : Tb} {v : D} (h : CV L N t v) (hn : NotL v = true) (hk : 2 ≤ k) : (Fs k).check_limit [v] t = .ex 0 [(VAL, v)] t := by
  obtain ⟨T, h1, h2⟩ := h.notL hn
  exact limit_ex hk h1 (by cases v <;> first | rfl | cases hn) (by simpa using h2)
/-- limits that are none, and what is told of them -/
inductive Wrong (odd more : D) : D → D → Prop
  | both : Wrong odd more (.dic false [(.s MINI, odd), (.s MAXI, more)]) odd
  | lo : Wrong odd more (.dic false [(.s MINI, odd)]) odd
  | hi {o} : Wrong odd more (.dic false [(.s MINI, lD o), (.s MAXI, more)]) more
  | hi0 : Wrong odd more (.dic false [(.s MAXI, more)]) more
theorem Wrong.count {odd more d w v : D} {L1 L2 N k : Nat} {t : Tb} {nm : Bool} (h : Wrong odd more d w) (c1 : CV L1 N t odd) (c2 : CV L2 N t more) (n1 : NotL odd = true) (n2 : NotL more = true) (wf : Wf t) (hk : 6 ≤ k) : (Fs k).law_count [v, d, .bl nm] t = .ok (.lst [.str INTE, w]) t := by
  obtain ⟨j, rfl⟩ := lev hk
  have k1 := c1.lim (k := j + 4) n1 (by omega)
  have k2 := c2.lim (k := j + 4) n2 (by omega)
  cases h with
  | both => exact count_ex (a := some odd) (b := some more) (by omega) wf c1.bel ⟨_, rfl, by simp [dget], by simp [dget], by simp⟩ (parse_lo (k := j + 5) (by omega) k1)
  | lo => exact count_ex (a := some odd) (b := none) (by omega) wf c1.bel ⟨_, rfl, by simp [dget], by simp [dget], by simp⟩ (parse_lo (k := j + 5) (by omega) k1)
  | @hi o => exact count_ex (a := some (lD o)) (b := some more) (by omega) wf c2.bel ⟨_, rfl, by simp [dget], by simp [dget], by simp⟩ (parse_hi (k := j + 5) (by omega) k2)
  | hi0 => exact count_ex (a := none) (b := some more) (by omega) wf c2.bel ⟨_, rfl, by simp [dget], by simp [dget], by simp⟩ (parse_hi (k := j + 5) (lo := some 0) (by omega) k2)
theorem CV.ge {L N n : Nat} {t : Tb} (h : CV L N t (.ref n)) : L ≤ n := by
  cases h with
  | atom h => cases h
  | lst h1 _ _ _ => exact h1
  | dic h1 _ _ => exact h1
/-- the error keeps the very limit -/
theorem Wrong.very {odd more d w : D} {b L1 L2 N k : Nat} {m : Int} {tb t : Tb} (h : Wrong odd more d w) (l : Lp b m tb t) (c1 : CV L1 N t odd) (c2 : CV L2 N t more) (h1 : tb.length ≤ L1) (h12 : L1 ≤ L2) (hb : below L2 odd = true) (hN : N ≤ 4000) (hk : 5 ≤ k) :
    ∃ t', (Fs k).law_very [w, w] t = .ok (.bl true) t' ∧ Lp b m tb t' ∧ CV L1 (N + 1) t' odd ∧ CV L2 (N + 1) t' more := by
  have A : ∃ t', (Fs k).law_very [odd, odd] t = .ok (.bl true) t' ∧ Lp b m tb t' ∧ CV L1 (N + 1) t' odd ∧ CV L2 (N + 1) t' more := by
    obtain ⟨t', e, l', cv, hl, ke⟩ := c1.very l h1 hN hk
    refine ⟨t', e, l', cv, (c2.keep fun q hq hq2 => ke q fun e => ?_).mono (Nat.le_refl _) (by omega)⟩
    subst e
    simp [below] at hb; omega
  have B : ∃ t', (Fs k).law_very [more, more] t = .ok (.bl true) t' ∧ Lp b m tb t' ∧ CV L1 (N + 1) t' odd ∧ CV L2 (N + 1) t' more := by
    obtain ⟨t', e, l', cv, hl, ke⟩ := c2.very l (by omega) hN hk
    refine ⟨t', e, l', (c1.keep fun q hq hq2 => ke q fun e => ?_).mono (Nat.le_refl _) (by omega), cv⟩
    subst e
    have := c2.ge
    rw [below_le this _ hb] at hq2; cases hq2
  cases h with
  | both => exact A
  | lo => exact A
  | hi => exact B
  | hi0 => exact B
def ODDS : List D := [.bl true, .str [48], .lst [], .lst [.int 1], .dic false [], .tup [.int 1], .bl false, .str [120]]
def MORES : List D := [.str [49], .lst [.int 2], .dic false [(.s [97], .int 1)], .bl true, .tup [.int 2, .lst [.int 3]]]
theorem odd_ok {d : D} (h : d ∈ ODDS) : CC d ∧ ∀ t, ∃ T, tyD d t = some (some T) ∧ T ≠ .int := by
  simp only [ODDS, List.mem_cons, List.not_mem_nil, or_false] at h
  rcases h with rfl | rfl | rfl | rfl | rfl | rfl | rfl | rfl
  · exact ⟨.atom rfl, fun t => ⟨_, rfl, by simp⟩⟩
  · exact ⟨.atom (by decide), fun t => ⟨_, rfl, by simp⟩⟩
  · exact ⟨.lst (by decide) (by simp), fun t => ⟨_, rfl, by simp⟩⟩
  · exact ⟨.lst (by decide) (by simp), fun t => ⟨_, rfl, by simp⟩⟩
  · exact ⟨.dic0, fun t => ⟨_, rfl, by simp⟩⟩
  · exact ⟨.tup (by decide) (by simp), fun t => ⟨_, rfl, by simp⟩⟩
  · exact ⟨.atom rfl, fun t => ⟨_, rfl, by simp⟩⟩
  · exact ⟨.atom (by decide), fun t => ⟨_, rfl, by simp⟩⟩
theorem more_ok {d : D} (h : d ∈ MORES) : CC d ∧ ∀ t, ∃ T, tyD d t = some (some T) ∧ T ≠ .int := by
  simp only [MORES, List.mem_cons, List.not_mem_nil, or_false] at h
  rcases h with rfl | rfl | rfl | rfl | rfl
  · exact ⟨.atom (by decide), fun t => ⟨_, rfl, by simp⟩⟩
  · exact ⟨.lst (by decide) (by simp), fun t => ⟨_, rfl, by simp⟩⟩
  · exact ⟨.dic1, fun t => ⟨_, rfl, by simp⟩⟩
  · exact ⟨.atom rfl, fun t => ⟨_, rfl, by simp⟩⟩
  · exact ⟨.tupl rfl (by decide) (by simp), fun t => ⟨_, rfl, by simp⟩⟩
/-- the limits near a number -/
theorem near_wp {number : Option Int} {env : Env} {t : Tb} (h3 : env[3]? = some (some (lD number))) (hl : 15 < env.length) :
    Wp (mIfE (mB (mOp (isD true) (mVar 3) (mC .non))) (mLc false (mItV (mTup (mCons (mUn negD (mC (.int 1))) (mCons (mC (.int 0)) (mCons (mC (.int 0)) (mCons (mC (.int 1)) (mNil))))))) (gN 15) (mB (mOp (ltD) (mFn (on1 absD) (mCons (mOp (addD false) (mVar 3) (mVar 15)) mNil)) (mOp (powD) (mC (.int 10)) (mC (.int 30))))) (mOp (addD false) (mVar 3) (mVar 15)) [15]) (mLst false (mCons (mC (.int 0)) (mNil))) env t)
      (fun d t' => ∃ zs : List Int, d = .lst (zs.map D.int) ∧ zs.length ≤ 4 ∧ t' = t) noX := by
  have p30 : ∀ tb, powD (.int 10) (.int 30) tb = .ok (.int (10 ^ 30)) tb := fun tb => pow_ii (n := 30) (by decide) ⟨by omega, by omega⟩
  cases number with
  | none =>
    have z : isN (lD none) = true := rfl
    have v3 : ∀ tb, mVar 3 env tb = .ok (lD none) tb := fun tb => by simp [mVar, h3]
    simp [v3, z, LIM]
    exact ⟨[0], by simp⟩
  | some n =>
    have z : isN (lD (some n)) = false := rfl
    have v3 : ∀ tb, mVar 3 env tb = .ok (lD (some n)) tb := fun tb => by simp [mVar, h3]
    simp [v3, z, LIM, seqIt]
    refine wp_lcGo (it := ⟨[.int (-1), .int 0, .int 0, .int 1], []⟩) (fun i acc t' => ∃ zs : List Int, acc = zs.map D.int ∧ zs.length ≤ i ∧ t' = t) ⟨[], rfl, by simp, rfl⟩ ?_ ?_
    · rintro i d acc tb hi ⟨zs, rfl, hz, rfl⟩
      have hi4 : i < 4 := (List.getElem?_eq_some_iff.mp hi).1
      obtain ⟨k, rfl⟩ : ∃ k : Int, d = .int k := by
        have := List.mem_of_getElem? hi
        simp at this
        rcases this with rfl | rfl | rfl <;> exact ⟨_, rfl⟩
      have ab : ∀ (i : Int) tb, absD (.int i) tb = .ok (.int (if i < 0 then -i else i)) tb := fun i tb => rfl
      refine ⟨IT.kept0, by simp [LIM]; omega, _, _, rfl, ?_⟩
      have v3 : ∀ tb, mVar 3 ((wipeE env [15]).set 15 (some (.int k))) tb = .ok (.int n) tb := fun tb => by simp [mVar, wipeE, h3]; rfl
      have v15 : ∀ tb, mVar 15 ((wipeE env [15]).set 15 (some (.int k))) tb = .ok (.int k) tb := fun tb => by simp [mVar, wipeE, hl]
      simp [↓v3, ↓v15, ab, p30]
      have A : ∃ z1 : List Int, zs.map D.int ++ [D.int (n + k)] = z1.map D.int ∧ z1.length ≤ i + 1 := ⟨zs ++ [n + k], by simp, by simp; omega⟩
      have B : ∃ z1 : List Int, zs.map D.int = z1.map D.int ∧ z1.length ≤ i + 1 := ⟨zs, rfl, by omega⟩
      split <;> split <;> first | exact A | exact B
    · rintro acc tb ⟨zs, rfl, hz, rfl⟩
      exact ⟨IT.kept0, zs, rfl, by simpa using hz, rfl⟩
end L2.G.La
set_option maxHeartbeats 1000000
namespace L2.G.La
open PySem PySem.Spec PyProof.Rows
theorem lD_bel {n : Nat} {o : Option Int} : below n (lD o) = true := by cases o <;> rfl
def kvA (a : Option (Option Int)) : List (DK × D) := match a with
  | none => []
  | some o => [(.s MINI, lD o)]
def kvB (a : Option (Option Int)) : List (DK × D) := match a with
  | none => []
  | some o => [(.s MAXI, lD o)]
theorem kv_bel {n : Nat} {a c : Option (Option Int)} : belowk n (kvA a ++ kvB c) = true := by
  cases a <;> cases c <;> simp [kvA, kvB, belowk, lD_bel]
theorem lims {L : Nat} {t : Tb} {a c : Option (Option Int)} (h : t[L]? = some (.dic false (kvA a ++ kvB c))) : LimS (.ref L) t (a.map lD) (c.map lD) :=
  ⟨kvA a ++ kvB c, by simp [dic?, h], by cases a <;> cases c <;> simp [kvA, kvB, dget], by cases a <;> cases c <;> simp [kvA, kvB, dget], by cases a <;> cases c <;> simp [kvA, kvB]⟩
theorem getA {a : Option (Option Int)} : (a.map lD).getD (.int 0) = lD (a.getD (some 0)) := by cases a <;> rfl
theorem getB {a : Option (Option Int)} : (a.map lD).getD .non = lD (a.getD none) := by cases a <;> rfl
theorem put_wp {k b L : Nat} {m : Int} {tb t : Tb} {e : Env} {os : List (Option Int)} {kvs : List (DK × D)} {key : List Nat} (hk : 4 ≤ k) (h0 : e[0]? = some (some (.ref b))) (h5 : e[5]? = some (some (.lst (os.map lD)))) (h6 : e[6]? = some (some (.ref L)))
    (l : Lp b m tb t) (hL : tb.length ≤ L) (ht : t[L]? = some (.dic false kvs)) (hkv : kvs.length ≤ 5) (hbk : ∀ o, belowk t.length (dput kvs (.s key) (lD o)) = true) (hos : os ≠ []) (hol : os.length ≤ 100) (hm : m < 900000000) :
    Ws (mIf (mB (mOp (gtD) (mFn (mCall 2 (Fs k).law_take) (mCons (mVar 0) (mCons (mC (.int 3)) (mNil)))) (mC (.int 0)))) (mSub (mFn (mCall 2 (Fs k).law_pick) (mCons (mVar 0) (mCons (mVar 5) (mNil)))) (mVar 6) (mC (.str key))) (mSkip) e t)
      (nxK fun e' t' => e' = e ∧ Lp b (m + 2) tb t' ∧ t'.length = t.length ∧ (t'[L]? = some (.dic false kvs) ∨ ∃ o, t'[L]? = some (.dic false (dput kvs (.s key) (lD o))))) := by
  have v0 : ∀ tb, mVar 0 e tb = .ok (.ref b) tb := fun tb => by simp [mVar, h0]
  have v5 : ∀ tb, mVar 5 e tb = .ok (.lst (os.map lD)) tb := fun tb => by simp [mVar, h5]
  have v6 : ∀ tb, mVar 6 e tb = .ok (.ref L) tb := fun tb => by simp [mVar, h6]
  have hb := l.hb
  simp [v0, v5, v6]
  refine (wp_take (by omega) l.st (by omega) (by decide) (by decide)).use ?_
  rintro d t1 ⟨r, rfl, hr, s1, u1⟩
  have l1 := l.upd u1 s1
  have ht1 : t1[L]? = some (.dic false kvs) := by rw [u1.eq _ (by omega)]; exact ht
  simp
  by_cases hr0 : 0 < r
  · simp [hr0, v0, v5, v6]
    refine (wp_pickL (k := k) (xs := os.map lD) (by omega) s1 (by omega) (by simpa using hos) (by simp; omega)).use ?_
    rintro d t2 ⟨hd, s2, u2⟩
    obtain ⟨o, _, rfl⟩ := List.mem_map.mp hd
    have l2 := l1.upd u2 s2
    have ht2 : t2[L]? = some (.dic false kvs) := by rw [u2.eq _ (by omega)]; exact ht1
    have hlt : L < t2.length := (List.getElem?_eq_some_iff.mp ht2).1
    have sd : setD (.ref L) (.str key) (lD o) t2 = some (t2.set L (.dic false (dput kvs (.s key) (lD o)))) := by
      simp only [setD, ht2, dkOf, DK.fits]
      rw [if_pos ⟨by trivial, by simp only [LIM]; omega⟩]
    simp [v6, sd]
    have hl2 : t2.length = t.length := u2.len.trans u1.len
    have l3 : Lp b (m + 1 + 1) tb (t2.set L (.dic false (dput kvs (.s key) (lD o)))) := l2.set hL (by show belowk _ _ = true; rw [hl2]; exact hbk o) rfl
    rw [Int.add_assoc] at l3
    exact ⟨l3, hl2, .inr ⟨o, by simp [hlt]⟩⟩
  · simp [hr0]
    exact ⟨⟨l1.up, l1.hb, l1.st.mono (by omega)⟩, u1.len, .inl ht1⟩
theorem due_ok {n lo hi : Option Int} {e : Env} {t : Tb} (h3 : e[3]? = some (some (lD n))) (h7 : e[7]? = some (some (lD lo))) (h8 : e[8]? = some (some (lD hi))) :
    mIfE (mOr (mB (mOp (isD false) (mVar 3) (mC .non))) (mOr (mAnd (mB (mOp (isD true) (mVar 7) (mC .non))) (mB (mOp (ltD) (mVar 3) (mVar 7)))) (mAnd (mB (mOp (isD true) (mVar 8) (mC .non))) (mB (mOp (gtD) (mVar 3) (mVar 8)))))) (mC .non) (mVar 3) e t = .ok (lD (dueN n lo hi)) t := by
  have v3 : ∀ tb, mVar 3 e tb = .ok (lD n) tb := fun tb => by simp [mVar, h3]
  have v7 : ∀ tb, mVar 7 e tb = .ok (lD lo) tb := fun tb => by simp [mVar, h7]
  have v8 : ∀ tb, mVar 8 e tb = .ok (lD hi) tb := fun tb => by simp [mVar, h8]
  have z0 : isN (lD none) = true := rfl
  have z1 : ∀ a, isN (lD (some a)) = false := fun _ => rfl
  cases n with
  | none =>
    have z00 : isN D.non = true := rfl
    simp [v3, z0, z00, dueN, ln]
  | some n =>
    have z2 : ∀ a tb, ltD (lD (some n)) (lD (some a)) tb = .ok (.bl (decide (n < a))) tb := fun _ _ => rfl
    have z3 : ∀ a tb, gtD (lD (some n)) (lD (some a)) tb = .ok (.bl (decide (a < n))) tb := fun _ _ => rfl
    cases lo with
    | none => cases hi with
      | none => simp [v3, v7, v8, z0, z1, dueN, inR]
      | some h =>
        by_cases hb : h < n
        · simp [v3, v7, v8, z0, z1, z3, dueN, inR, hb]; rfl
        · simp [v3, v7, v8, z0, z1, z3, dueN, inR, hb]
    | some l =>
      by_cases ha : n < l
      · simp [v3, v7, v8, z0, z1, z2, dueN, inR, ha]; rfl
      · cases hi with
        | none => simp [v3, v7, v8, z0, z1, z2, dueN, inR, ha]
        | some h =>
          by_cases hb : h < n
          · simp [v3, v7, v8, z0, z1, z2, z3, dueN, inR, ha, hb]; rfl
          · simp [v3, v7, v8, z0, z1, z2, z3, dueN, inR, ha, hb]
end L2.G.La
set_option maxHeartbeats 1000000
namespace L2.G.La
open PySem PySem.Spec PyProof.Rows
theorem wp_get1 {o k : ME} {e : Env} {tb : Tb} {Q : D → Tb → Prop} {X : XP} : Wp (mGet1 o k e tb) Q X = Wp (o e tb) (fun x tb => Wp (if isDc x tb = true then (k e tb).bind fun y tb => getM x y .non tb else .fail) Q X) X := wp_bind
theorem wp_get2 {o k z : ME} {e : Env} {tb : Tb} {Q : D → Tb → Prop} {X : XP} : Wp (mGet2 o k z e tb) Q X = Wp (o e tb) (fun x tb => Wp (if isDc x tb = true then (k e tb).bind fun y tb => (z e tb).bind fun z tb => getM x y z tb else .fail) Q X) X := wp_bind
theorem sme_lD {t : Tb} {n : Nat} {o : Option Int} : Sme t n (lD o) (lD o) := by cases o <;> first | exact .non | exact .int
theorem disp2 {x y : List Nat} {a c : D} {ma mc : ME} {e : Env} {t : Tb} (ha : ma e t = .ok a t) (hc : mc e t = .ok c t) (hxy : x ≠ y) : mDisp false [.s x, .s y] (mCons ma (mCons mc mNil)) e t = .ok (.dic false [(.s x, a), (.s y, c)]) t := by
  simp [mDisp, ha, hc, newD, dmerge, dput, DK.flat, hxy]
theorem disp1 {x : List Nat} {a : D} {ma : ME} {e : Env} {t : Tb} (ha : ma e t = .ok a t) : mDisp false [.s x] (mCons ma mNil) e t = .ok (.dic false [(.s x, a)]) t := by
  simp [mDisp, ha, newD, dmerge, dput, DK.flat]
theorem CV.keepB {L N B : Nat} {t t' : Tb} {v : D} (h : CV L N t v) (hb : below B v = true) (k : ∀ j, j < B → t'[j]? = t[j]?) : CV L N t' v := by
  cases h with
  | atom h => exact .atom h
  | tup h1 h2 => exact .tup h1 h2
  | tupl h1 h2 h3 h4 h5 => exact .tupl h1 h2 (by rw [k _ (by simp [below, belows] at hb; exact hb.2)]; exact h3) h4 h5
  | lst h1 h2 h3 h4 => exact .lst h1 (by rw [k _ (by simpa [below] using hb)]; exact h2) h3 h4
  | dic h1 h2 h3 => exact .dic h1 (by rw [k _ (by simpa [below] using hb)]; exact h2) h3
theorem wp_disp {t : Bool} {ks : List DK} {a : MA} {e : Env} {tb : Tb} {Q : D → Tb → Prop} {X : XP} (h : Wp (a e tb) (fun ds tb => Wp (if ds.length = ks.length ∧ ks.length ≤ 15 ∧ ks.all DK.flat = true then newD t false (dmerge [] (ks.zip ds)) tb else .fail) Q X) noX) : Wp (mDisp t ks a e tb) Q X := by
  obtain ⟨ds, t2, e1, h2⟩ := wp_is h
  unfold mDisp
  rw [e1]
  exact h2
theorem wp_disp' {t : Bool} {ks : List DK} {a : MA} {e : Env} {tb : Tb} {Q : D → Tb → Prop} : Wp (mDisp t ks a e tb) Q noX = Wp (a e tb) (fun ds tb => Wp (if ds.length = ks.length ∧ ks.length ≤ 15 ∧ ks.all DK.flat = true then newD t false (dmerge [] (ks.zip ds)) tb else .fail) Q noX) noX := by
  unfold mDisp
  cases a e tb <;> simp [noX]
def WrongIt (odd more : D) (it : IT) : Prop := ∃ xs, it = ⟨xs, []⟩ ∧ xs.length ≤ 4 ∧ (∀ x ∈ xs, ∃ W w, x = .tup [W, w] ∧ Wrong odd more W w)
theorem wrongIt4 {odd more : D} {o : Option Int} : WrongIt odd more ⟨[.tup [.dic false [(.s MINI, odd), (.s MAXI, more)], odd], .tup [.dic false [(.s MINI, odd)], odd], .tup [.dic false [(.s MINI, lD o), (.s MAXI, more)], more], .tup [.dic false [(.s MAXI, more)], more]], []⟩ :=
  ⟨_, rfl, by simp, fun x hx => by
    simp only [List.mem_cons, List.not_mem_nil, or_false] at hx
    rcases hx with rfl | rfl | rfl | rfl
    · exact ⟨_, _, rfl, .both⟩
    · exact ⟨_, _, rfl, .lo⟩
    · exact ⟨_, _, rfl, .hi⟩
    · exact ⟨_, _, rfl, .hi0⟩⟩
theorem counts_wp {k b : Nat} {m : Int} {tb : Tb} {nm : Bool} (hk : 15 ≤ k) (s : St b m tb) (hm : m < 800000000) : Wp ((Fs k).law_counts_right [.ref b, .bl nm] tb) (fun d t => d = .bl true ∧ St b (m + 70) t ∧ Upd b tb t) noX := by
  obtain ⟨j, rfl⟩ := lev hk
  have hb := s.lt
  have d0 : ∀ e tb, mDic0 false false e tb = .ok (.dic false []) tb := fun e tb => rfl
  have dT : ∀ e tb, mDic0 true false e tb = .ok (.ref tb.length) (tb ++ [.dic false []]) := fun e tb => rfl
  have p30 : ∀ tb, powD (.int 10) (.int 30) tb = .ok (.int (10 ^ 30)) tb := fun tb => pow_ii (n := 30) (by decide) ⟨by omega, by omega⟩
  have fin' : ∀ (t : Tb), Lp b (m + 70) tb t → St b (m + 70) (gcTb (gcN tb.length (.bl true)) [.bl true] t) ∧ Upd b tb (gcTb (gcN tb.length (.bl true)) [.bl true] t) := fun t l => by
    obtain ⟨st, u, g⟩ := l.up.cut s.wf hb l.st.box
    rw [show gcN tb.length (D.bl true) = tb.length from rfl, g tb.length [.bl true] rfl rfl]
    exact ⟨st, u⟩
  rw [show j + 15 = (j + 14) + 1 from rfl, F_law_counts_right, wp_def]
  simp only [b_law_counts_right, List.map_cons, List.map_nil, List.replicate, List.cons_append, List.nil_append]
  rw [ws_seq]
  refine ws_mid (fun e t => ∃ d, AnyV d ∧ e = [some (.ref b), some (.bl nm), some d, none, none, none, none, none, none, none, none, none, none, none, none, none] ∧ St b (m + 50) t ∧ Upd b tb t) ?_ ?_
  · simp
    refine (drawn_wp (by omega) s (by omega)).use ?_
    rintro d t1 ⟨hd, s1, u1⟩
    exact ⟨d, hd, rfl, s1, u1⟩
  rintro e t1 ⟨d, hd, rfl, s1, u1⟩
  rw [ws_seq]
  refine ws_mid (fun e t => e = [some (.ref b), some (.bl nm), some d, some (lD (numV d)), none, none, none, none, none, none, none, none, none, none, none, none] ∧ t = t1) ?_ ?_
  · simp
    refine (number_any (by omega) hd).use ?_
    rintro x t ⟨rfl, rfl⟩
    exact ⟨rfl, rfl⟩
  rintro e t ⟨rfl, rfl⟩
  have hpa : ∀ lo hi t k, 3 ≤ k → (Fs k).parse_count [d, lD lo, lD hi] t = .ok (lD (dueN (numV d) lo hi)) t := fun lo hi t k hk => parse_ok (hd.text t) hk
  generalize numV d = num at *
  rw [ws_seq]
  refine ws_mid (fun e t' => ∃ zs : List Int, zs.length ≤ 4 ∧ e = [some (.ref b), some (.bl nm), some d, some (lD num), some (.lst (zs.map D.int)), none, none, none, none, none, none, none, none, none, none, none] ∧ t' = t) ?_ ?_
  · rw [ws_set]
    refine (near_wp (number := num) rfl (by simp)).mono ?_ (fun _ _ _ z => z.elim)
    rintro x t' ⟨zs, rfl, hz, rfl⟩
    exact ⟨zs, hz, rfl, rfl⟩
  rintro e t' ⟨zs, hz, rfl, rfl⟩
  rw [ws_seq]
  refine ws_mid (fun e t2 => ∃ os : List (Option Int), os ≠ [] ∧ os.length ≤ 100 ∧ e = [some (.ref b), some (.bl nm), some d, some (lD num), some (.lst (zs.map D.int)), some (.lst (os.map lD)), none, none, none, none, none, none, none, none, none, none] ∧ t2 = t') ?_ ?_
  · have ad : ∀ t, addD false (.lst (zs.map D.int)) (.lst [.non, .int 0, .int 1, .int (-1), .int (10 ^ 30 - 1), .int (1 - 10 ^ 30)]) t = .ok (.lst ((zs.map some ++ [none, some 0, some 1, some (-1), some (10 ^ 30 - 1), some (1 - 10 ^ 30)]).map lD)) t := fun t => by
      rw [add_ll rfl rfl (by simp [LIM]; omega)]
      simp [lD, Function.comp_def]
    have hne : zs.map some ++ [none, some 0, some 1, some (-1), some (10 ^ 30 - 1), some (1 - 10 ^ 30)] ≠ [] := by simp
    have hle : (zs.map some ++ [none, some 0, some 1, some (-1), some (10 ^ 30 - 1), some (1 - 10 ^ 30)]).length ≤ 100 := by simp; omega
    generalize zs.map some ++ [none, some 0, some 1, some (-1), some (10 ^ 30 - 1), some (1 - 10 ^ 30)] = os at *
    generalize hP : (10 : Int) ^ 30 = P at *
    simp [p30, LIM, ad]
    exact ⟨os, hne, hle, rfl⟩
  rintro e t2 ⟨os, ho1, ho2, rfl, rfl⟩
  have l0 : Lp b (m + 50) tb t2 := ⟨Up.refl.upd u1, hb, s1⟩
  have hl2 : t2.length = tb.length := u1.len
  rw [ws_seq]
  refine ws_mid (fun e t => e = [some (.ref b), some (.bl nm), some d, some (lD num), some (.lst (zs.map D.int)), some (.lst (os.map lD)), some (.ref tb.length), none, none, none, none, none, none, none, none, none] ∧ Lp b (m + 50) tb t ∧ t.length = tb.length + 1 ∧ t[tb.length]? = some (.dic false (kvA none ++ kvB none))) ?_ ?_
  · simp [↓dT]
    exact ⟨hl2, l0.push rfl rfl, hl2, by rw [← hl2]; simp [kvA, kvB]⟩
  rintro e t3 ⟨rfl, l3, hl3, ht3⟩
  rw [ws_seq]
  refine ws_mid (fun e t => ∃ a, e = [some (.ref b), some (.bl nm), some d, some (lD num), some (.lst (zs.map D.int)), some (.lst (os.map lD)), some (.ref tb.length), none, none, none, none, none, none, none, none, none] ∧ Lp b (m + 52) tb t ∧ t.length = tb.length + 1 ∧ t[tb.length]? = some (.dic false (kvA a ++ kvB none))) ?_ ?_
  · refine (put_wp (key := MINI) (k := j + 14) (by omega) rfl rfl rfl l3 (Nat.le_refl _) ht3 (by simp [kvA, kvB]) (fun o => by simp [kvA, kvB, dput, belowk, lD_bel]) ho1 ho2 (by omega)).mono ?_
    intro r hr
    cases r with
    | nx e t =>
      obtain ⟨rfl, q1, q2, q3⟩ := hr
      refine (?_ : ∃ a, _)
      rcases q3 with q3 | ⟨o, q3⟩
      · exact ⟨none, rfl, by rw [show m + 50 + 2 = m + 52 by omega] at q1; exact q1, by omega, q3⟩
      · exact ⟨some o, rfl, by rw [show m + 50 + 2 = m + 52 by omega] at q1; exact q1, by omega, by simpa [kvA, kvB, dput] using q3⟩
    | _ => exact hr.elim
  rintro e t4 ⟨a, rfl, l4, hl4, ht4⟩
  rw [ws_seq]
  refine ws_mid (fun e t => ∃ c, e = [some (.ref b), some (.bl nm), some d, some (lD num), some (.lst (zs.map D.int)), some (.lst (os.map lD)), some (.ref tb.length), none, none, none, none, none, none, none, none, none] ∧ Lp b (m + 54) tb t ∧ t.length = tb.length + 1 ∧ t[tb.length]? = some (.dic false (kvA a ++ kvB c))) ?_ ?_
  · refine (put_wp (key := MAXI) (k := j + 14) (by omega) rfl rfl rfl l4 (Nat.le_refl _) ht4 (by cases a <;> simp [kvA, kvB]) (fun o => by cases a <;> simp [kvA, kvB, dput, belowk, lD_bel]) ho1 ho2 (by omega)).mono ?_
    intro r hr
    cases r with
    | nx e t =>
      obtain ⟨rfl, q1, q2, q3⟩ := hr
      refine (?_ : ∃ a, _)
      rcases q3 with q3 | ⟨o, q3⟩
      · exact ⟨none, rfl, by rw [show m + 52 + 2 = m + 54 by omega] at q1; exact q1, by omega, q3⟩
      · exact ⟨some o, rfl, by rw [show m + 52 + 2 = m + 54 by omega] at q1; exact q1, by omega, by cases a <;> simpa [kvA, kvB, dput] using q3⟩
    | _ => exact hr.elim
  rintro e t5 ⟨c, rfl, l5, hl5, ht5⟩
  have li := lims ht5
  have isd : isDc (.ref tb.length) t5 = true := by simp [isDc, dic?, ht5]
  have g1 : getM (.ref tb.length) (.str MINI) (.int 0) t5 = .ok (lD (a.getD (some 0))) t5 := by
    rw [← getA]
    cases a <;> cases c <;> simp [getM, dic?, ht5, dkOf, DK.fits, kvA, kvB, dget]
  have g2 : getM (.ref tb.length) (.str MAXI) .non t5 = .ok (lD (c.getD none)) t5 := by
    rw [← getB]
    cases a <;> cases c <;> simp [getM, dic?, ht5, dkOf, DK.fits, kvA, kvB, dget]
  have cnt : ∀ nm, (Fs (j + 14)).law_count [d, .ref tb.length, .bl nm] t5 = .ok (.lst [.str TOLD, lD (dueN num (a.getD (some 0)) (c.getD none))]) t5 := fun nm =>
    count_ok (by omega) li (by rw [getA, getB]; exact hpa _ _ _ _ (by omega))
  generalize a.getD (some 0) = lo at *
  generalize c.getD none = hi at *
  rw [ws_seq]
  refine ws_mid (fun e t => e = [some (.ref b), some (.bl nm), some d, some (lD num), some (.lst (zs.map D.int)), some (.lst (os.map lD)), some (.ref tb.length), some (lD lo), some (lD hi), none, none, none, none, none, none, none] ∧ t = t5) ?_ ?_
  · simp [wp_get1, wp_get2, isd, g1, g2]
  rintro e t ⟨rfl, rfl⟩
  rw [ws_seq]
  refine ws_mid (fun e t' => e = [some (.ref b), some (.bl nm), some d, some (lD num), some (.lst (zs.map D.int)), some (.lst (os.map lD)), some (.ref tb.length), some (lD lo), some (lD hi), some (lD (dueN num lo hi)), none, none, none, none, none, none] ∧ t' = t) ?_ ?_
  · rw [ws_set]
    exact wp_of (due_ok (n := num) (lo := lo) (hi := hi) rfl rfl rfl) ⟨rfl, rfl⟩
  rintro e t' ⟨rfl, rfl⟩
  generalize dueN num lo hi = due at *
  rw [ws_seq]
  refine ws_mid (fun e t => e = [some (.ref b), some (.bl nm), some d, some (lD num), some (.lst (zs.map D.int)), some (.lst (os.map lD)), some (.ref tb.length), some (lD lo), some (lD hi), some (lD due), none, none, none, none, none, none] ∧ t = t') ?_ ?_
  · have sm : (Fs (j + 14)).law_same [.lst [.lst [.str TOLD, lD due], .lst [.str TOLD, lD due]], .lst [.lst [.str TOLD, lD due], .lst [.str TOLD, lD due]]] t' = .ok (.bl true) t' := by
      have q : Sme t' 1 (.lst [.str TOLD, lD due]) (.lst [.str TOLD, lD due]) := sme_two (.str (by simp) (by decide)) sme_lD
      exact (sme_two q q).ok _ (by omega)
    have mu : mulD false (.lst [.lst [.str TOLD, lD due]]) (.int 2) t' = .ok (.lst [.lst [.str TOLD, lD due], .lst [.str TOLD, lD due]]) t' := by
      rw [show (2 : Int) = ((2 : Nat) : Int) from rfl, mul_li rfl (by omega) (by simp [LIM])]; rfl
    simp [cnt, LIM, mu, sm]
  rintro e t ⟨rfl, rfl⟩
  rw [ws_seq]
  refine ws_mid (fun e t1 => ∃ odd, e = [some (.ref b), some (.bl nm), some d, some (lD num), some (.lst (zs.map D.int)), some (.lst (os.map lD)), some (.ref tb.length), some (lD lo), some (lD hi), some (lD due), some odd, none, none, none, none, none] ∧ Lp b (m + 55) tb t1 ∧ CV tb.length 3000 t1 odd ∧ NotL odd = true) ?_ ?_
  · simp [↓d0, LIM]
    refine (wp_pickL (k := j + 14) (xs := ODDS) (by omega) l5.st (by omega) (by simp [ODDS]) (by simp [ODDS])).use ?_
    rintro x t1 ⟨hx, s6, u6⟩
    obtain ⟨cc, ty⟩ := odd_ok hx
    have l6 := l5.upd u6 s6
    obtain ⟨v, t7, e7, cv, l7, ke, ty7, gg⟩ := cc.copy (k := j + 14) (by omega) l6
    simp [e7]
    obtain ⟨T, hT1, hT2⟩ := ty t7
    exact ⟨⟨l7.up, l7.hb, l7.st.mono (by omega)⟩, cv.mono l6.up.le (Nat.le_refl _), notL_of (by rw [ty7]; exact hT1) hT2⟩
  rintro e t6 ⟨odd, rfl, l6, cv6, nl⟩
  rw [ws_seq]
  refine ws_mid (fun e t1 => ∃ more, e = [some (.ref b), some (.bl nm), some d, some (lD num), some (.lst (zs.map D.int)), some (.lst (os.map lD)), some (.ref tb.length), some (lD lo), some (lD hi), some (lD due), some odd, some more, none, none, none, none] ∧ Lp b (m + 56) tb t1 ∧ CV tb.length 3000 t1 odd ∧ CV t6.length 3000 t1 more ∧ NotL more = true) ?_ ?_
  · have dd : ∀ e tb, mDisp false [.s [97]] (mCons (mC (.int 1)) mNil) e tb = .ok (.dic false [(.s [97], .int 1)]) tb := fun e tb => disp1 rfl
    simp [↓dd, LIM]
    refine (wp_pickL (k := j + 14) (xs := MORES) (by omega) l6.st (by omega) (by simp [MORES]) (by simp [MORES])).use ?_
    rintro x t1 ⟨hx, s7, u7⟩
    obtain ⟨cc, ty⟩ := more_ok hx
    have l7 := l6.upd u7 s7
    obtain ⟨v, t8, e8, cv8, l8, ke, ty8, gg⟩ := cc.copy (k := j + 14) (by omega) l7
    simp [e8]
    obtain ⟨T, hT1, hT2⟩ := ty t8
    have cvo : CV tb.length 3000 t8 odd := (cv6.upd u7 hb).keepB (B := t1.length) (by rw [u7.len]; exact cv6.bel) ke
    rw [u7.len] at cv8
    exact ⟨⟨l8.up, l8.hb, l8.st.mono (by omega)⟩, cvo, cv8, notL_of (by rw [ty8]; exact hT1) hT2⟩
  rintro e t7 ⟨more, rfl, l7, cv7, cw7, nm7⟩
  have hbo : below t6.length odd = true := cv6.bel
  have hL6 : tb.length ≤ t6.length := l6.up.le
  have qI : ∀ t, eqP true (.str INTE) (.str INTE) t = .ok (.bl false) t := fun t => by rw [eq_ss (by decide) (by decide)]; simp
  rw [ws_seq]
  refine ws_mid (fun e t => Lp b (m + 60) tb t) ?_ ?_
  · rw [ws_for]
    have hI : Wp (mItV (mLst false (mCons (mTup (mCons (mDisp false [.s MINI, .s MAXI] (mCons (mVar 10) (mCons (mVar 11) (mNil)))) (mCons (mVar 10) (mNil)))) (mCons (mTup (mCons (mDisp false [.s MINI] (mCons (mVar 10) (mNil))) (mCons (mVar 10) (mNil)))) (mCons (mTup (mCons (mDisp false [.s MINI, .s MAXI] (mCons (mFn (mCall 2 (Fs (j + 14)).law_pick) (mCons (mVar 0) (mCons (mLst false (mCons (mC .non) (mCons (mC (.int 5)) (mNil)))) (mNil)))) (mCons (mVar 11) (mNil)))) (mCons (mVar 11) (mNil)))) (mCons (mTup (mCons (mDisp false [.s MAXI] (mCons (mVar 11) (mNil))) (mCons (mVar 11) (mNil)))) (mNil))))))
        [some (.ref b), some (.bl nm), some d, some (lD num), some (.lst (zs.map D.int)), some (.lst (os.map lD)), some (.ref tb.length), some (lD lo), some (lD hi), some (lD due), some odd, some more, none, none, none, none] t7)
        (fun it t => WrongIt odd more it ∧ St b (m + 57) t ∧ Upd b t7 t) noX := by
      simp [wp_disp', newD, dmerge, dput, DK.flat, LIM]
      refine (wp_pickL (k := j + 14) (by omega) l7.st (by omega) (by simp) (by simp)).use ?_
      rintro x t8 ⟨hx, s8, u8⟩
      obtain ⟨o, rfl⟩ : ∃ o, x = lD o := by
        simp at hx
        rcases hx with rfl | rfl
        · exact ⟨none, rfl⟩
        · exact ⟨some 5, rfl⟩
      simp [wp_disp', newD, dmerge, dput, DK.flat, LIM, seqIt]
      exact ⟨wrongIt4, s8.mono (by omega), u8⟩
    refine hI.mono ?_ (fun _ _ _ z => z.elim)
    rintro it t8 ⟨⟨xs, rfl, hxl, hxs⟩, s8, u8⟩
    have l8 := l7.upd u8 s8
    have cv8 := cv7.upd u8 hb
    have cw8 := cw7.upd u8 (by omega)
    refine ws_loop (it := ⟨xs, []⟩) (fun i e t => ∃ (nm : Bool) (y12 y13 y14 : Option D), e = [some (.ref b), some (.bl nm), some d, some (lD num), some (.lst (zs.map D.int)), some (.lst (os.map lD)), some (.ref tb.length), some (lD lo), some (lD hi), some (lD due), some odd, some more, y12, y13, y14, none] ∧ Lp b (m + 57) tb t ∧ CV tb.length (3000 + i) t odd ∧ CV t6.length (3000 + i) t more) ?_ ?_ ?_
    · exact ⟨_, _, _, _, rfl, l8, cv8, cw8⟩
    · rintro i x e t hi ⟨nm, y12, y13, y14, rfl, l, cv, cw⟩
      have hi4 : i < 4 := by have := (List.getElem?_eq_some_iff.mp hi).1; simp at this; omega
      obtain ⟨W, w, rfl, hW⟩ := hxs x (List.mem_of_getElem? hi)
      refine ⟨IT.kept0, _, _, rfl, ?_⟩
      have ec := hW.count (v := d) (nm := nm) (k := j + 14) cv cw nl nm7 l.st.wf (by omega)
      obtain ⟨t9, e9, l9, cv9, cw9⟩ := hW.very (k := j + 14) l cv cw (Nat.le_refl _) hL6 hbo (by omega) (by omega)
      simp [ec, ix_two0, ix_two1, qI, e9]
      exact ⟨l9, cv9, cw9⟩
    · rintro e t ⟨nm, y12, y13, y14, rfl, l, cv, cw⟩
      exact ⟨IT.kept0, ⟨l.up, l.hb, l.st.mono (by omega)⟩⟩
  intro e t l
  simp
  exact fin' t ⟨l.up, l.hb, l.st.mono (by omega)⟩
end L2.G.La
set_option maxHeartbeats 1000000
namespace L2.G.La
open PySem PySem.Spec PyProof.Rows
theorem kinds_any {d : D} (h : AnyV d) (k : Nat) (hk : 2 ≤ k) (t : Tb) : ∃ b1 b2 b3 b4 : Bool, (Fs k).is_integer [d] t = .ok (.bl b1) t ∧ (Fs k).is_letter [d] t = .ok (.bl b2) t ∧ (Fs k).is_text [d] t = .ok (.bl b3) t ∧ (Fs k).is_name [d] t = .ok (.bl b4) t ∧ (Fs k).law_kinds [d] t = .ok (.lst [.bl b1, .bl b2, .bl b3, .bl b4]) t := by
  rcases h with ⟨cs, rfl, h⟩ | h
  · exact ⟨false, _, _, _, integer_ok (o := some .str) rfl (by omega), letter_str h hk, text_str h (by omega), name_str h hk, kinds_str h hk⟩
  · obtain ⟨o, h1, h2⟩ := h t
    exact ⟨_, _, _, _, integer_ok h1 (by omega), letter_no h1 h2 hk, text_no h1 h2 (by omega), name_no h1 h2 hk, kinds_no h1 h2 hk⟩
theorem law_wp {ns : List Int} {k : Nat} (hk : 30 ≤ k) : Wp ((Fs k).law [.scr ns] []) (fun d _ => d = .bl true) noX := by
  obtain ⟨j, rfl⟩ := lev hk
  rw [show j + 30 = (j + 29) + 1 from rfl, F_law, wp_def]
  have mm : ∃ n : Nat, n ≤ 4 ∧ ∀ t, on2 max2 [.int 2, .int (if (ns.length : Int) < 4 then (ns.length : Int) else 4)] t = .ok (.int (n : Int)) t := by
    refine ⟨max 2 (min 4 ns.length), by omega, fun t => ?_⟩
    simp only [on2, max2]
    congr 2
    split <;> split <;> omega
  obtain ⟨n, hn, mm⟩ := mm
  have mn : ∀ t, on2 min2 [.int 4, .int (ns.length : Int)] t = .ok (.int (if (ns.length : Int) < 4 then (ns.length : Int) else 4)) t := fun t => rfl
  simp only [b_law, List.map_cons, List.map_nil, List.replicate, List.cons_append, List.nil_append]
  simp [len_scr, mn, mm]
  refine ⟨by omega, ?_⟩
  refine ws_loop (fun i e t => ∃ (y1 y2 y3 y4 y5 y6 : Option D), e = [some (.scr ns), y1, y2, y3, y4, y5, y6] ∧ Wf t) ?_ ?_ ?_
  · exact ⟨_, _, _, _, _, _, rfl, Wf.nil⟩
  · rintro i d e t hi ⟨y1, y2, y3, y4, y5, y6, rfl, w⟩
    have hin : i < n := by have := (List.getElem?_eq_some_iff.mp hi).1; simpa [rngIt] using this
    have hd2 : d = .int (i : Int) := by simp [rngIt] at hi; obtain ⟨q, h1, h2⟩ := hi; have h3 := (List.getElem?_eq_some_iff.mp h1).2; simp at h3; subst h3; exact h2.symm
    subst hd2
    refine ⟨IT.kept0, _, _, rfl, ?_⟩
    obtain ⟨c, ec⟩ := cell_ok (ns := ns) (k := j + 29) (i := i) (tb := t) (by omega) (by omega)
    obtain ⟨t0, e0, s0⟩ := box_ok (k := j + 29) (c := c) (by omega) w
    generalize t.length = b at *
    simp [ec, e0]
    refine (wp_take (by omega) s0 (by omega) (by decide) (by decide)).use ?_
    rintro d t1 ⟨r, rfl, hr, s1, u1⟩
    generalize hnm : ((r : Int) == 0) = nm
    simp [hnm]
    refine ws_loop (fun i2 e t => ∃ (nm : Bool) (y4 y5 y6 : Option D), e = [some (.scr ns), some (.int (i : Int)), some (.ref b), some (.bl nm), y4, y5, y6] ∧ St b (1 + i2 * 180) t) ?_ ?_ ?_
    · exact ⟨_, _, _, _, rfl, s1.mono (by omega)⟩
    · rintro i2 d2 e t hi2 ⟨nm, y4, y5, y6, rfl, st⟩
      have hi6 : i2 < 6 := by have := (List.getElem?_eq_some_iff.mp hi2).1; simpa [rngIt] using this
      refine ⟨IT.kept0, _, _, rfl, ?_⟩
      simp
      refine (any_wp (by omega) st (by omega)).use ?_
      rintro d t2 ⟨hd, s2, u2⟩
      obtain ⟨b1, b2, b3, b4, k1, k2, k3, k4, k5⟩ := kinds_any hd (j + 29) (by omega) t2
      have sm : (Fs (j + 29)).law_same [.lst [.bl b1, .bl b2, .bl b3, .bl b4], .lst [.bl b1, .bl b2, .bl b3, .bl b4]] t2 = .ok (.bl true) t2 :=
        (Sme.self (n := 1) (b := true) rfl (by simp) (fun x hx => by
          simp at hx
          rcases hx with rfl | rfl | rfl | rfl <;> exact .bl)).ok _ (by omega)
      have tail : ∀ (S : RS → Prop), (∀ t3, St b (1 + ((i2 + 1 : Nat) : Int) * 180) t3 → S (.nx [some (.scr ns), some (.int (i : Int)), some (.ref b), some (.bl (!nm)), some d2, some d, some (.lst [.bl b1, .bl b2, .bl b3, .bl b4])] t3)) →
          Ws (mSeq (mIf (mOr (mNot (mB (mFn (mCall 2 (Fs (j + 29)).law_same) (mCons (mVar 6) (mCons (mFn (mCall 1 (Fs (j + 29)).law_kinds) (mCons (mVar 5) (mNil))) (mNil)))))) (mOr (mNot (mB (mFn (mCall 2 (Fs (j + 29)).law_counts_right) (mCons (mVar 2) (mCons (mVar 3) (mNil)))))) (mNot (mB (mFn (mCall 2 (Fs (j + 29)).law_lines_right) (mCons (mVar 2) (mCons (mNotV (mVar 3)) (mNil)))))))) (mRet (mC (.bl false))) (mSkip)) (mSet 3 (mNotV (mVar 3)))
            [some (.scr ns), some (.int (i : Int)), some (.ref b), some (.bl nm), some d2, some d, some (.lst [.bl b1, .bl b2, .bl b3, .bl b4])] t2) S := by
        intro S hS
        simp [k5, sm]
        refine (counts_wp (by omega) s2 (by omega)).use ?_
        rintro x t3 ⟨rfl, s3, u3⟩
        simp
        refine (lines_wp (by omega) s3 (by omega)).use ?_
        rintro x t4 ⟨rfl, s4, u4⟩
        simp
        exact hS t4 (s4.mono (by push_cast; omega))
      have fin : ∀ t3, St b (1 + ((i2 + 1 : Nat) : Int) * 180) t3 → loopK (fun e t => ∃ (nm : Bool) (y4 y5 y6 : Option D), e = [some (.scr ns), some (.int (i : Int)), some (.ref b), some (.bl nm), y4, y5, y6] ∧ St b (1 + ((i2 + 1 : Nat) : Int) * 180) t) (fun _ => True) ⟨⟩ (.nx [some (.scr ns), some (.int (i : Int)), some (.ref b), some (.bl (!nm)), some d2, some d, some (.lst [.bl b1, .bl b2, .bl b3, .bl b4])] t3) := fun t3 h => by
        rw [loopK_nx]; exact ⟨_, _, _, _, rfl, h⟩
      rw [seqK_nx]
      rw [ws_seq]
      refine ws_mid (fun e t => e = [some (.scr ns), some (.int (i : Int)), some (.ref b), some (.bl nm), some d2, some d, some (.lst [.bl b1, .bl b2, .bl b3, .bl b4])] ∧ t = t2) ?_ ?_
      · simp [k1, k2, k3, k4, mKw, permL, LIM]
      rintro e t ⟨rfl, rfl⟩
      rw [ws_seq]
      refine ws_mid (fun e t' => e = [some (.scr ns), some (.int (i : Int)), some (.ref b), some (.bl nm), some d2, some d, some (.lst [.bl b1, .bl b2, .bl b3, .bl b4])] ∧ t' = t) ?_ ?_
      · cases nm <;> simp [k1, k2, k3, k4, mKw, permL, LIM]
      rintro e t' ⟨rfl, rfl⟩
      refine tail _ fun t3 h => ?_
      rw [loopK_nx]
      exact ⟨_, _, _, _, rfl, h⟩
    · rintro e t2 ⟨nm, y4, y5, y6, rfl, st⟩
      refine ⟨IT.kept0, ?_⟩
      rw [loopK_nx]
      exact ⟨_, _, _, _, _, _, rfl, st.wf⟩
  · rintro e t ⟨y1, y2, y3, y4, y5, y6, rfl, w⟩
    refine ⟨IT.kept0, ?_⟩
    simp
end L2.G.La
set_option maxHeartbeats 4000000
/-! the defs do what is said: derivations -/
namespace L2.G.La
open PySem PySem.Spec PyProof.Rows
theorem sc_is_integer : FnScope ["value"] ["value"] (defScope s_is_integer) := ⟨rfl, rfl, rfl, by decide +kernel, rfl, by decide +kernel, by decide +kernel⟩
theorem bt_is_integer : BindT "is_integer" s_is_integer ["value"] := fun _ _ _ _ _ _ us hl => match us, hl with | [_], _ => rfl
theorem sc_is_text : FnScope ["value", "letter"] ["value"] (defScope s_is_text) := ⟨rfl, rfl, rfl, by decide +kernel, rfl, by decide +kernel, by decide +kernel⟩
theorem bt_is_text : BindT "is_text" s_is_text ["value"] := fun _ _ _ _ _ _ us hl => match us, hl with | [_], _ => rfl
theorem sc_is_letter : FnScope ["value"] ["value"] (defScope s_is_letter) := ⟨rfl, rfl, rfl, by decide +kernel, rfl, by decide +kernel, by decide +kernel⟩
theorem bt_is_letter : BindT "is_letter" s_is_letter ["value"] := fun _ _ _ _ _ _ us hl => match us, hl with | [_], _ => rfl
theorem sc_is_name : FnScope ["value"] ["value"] (defScope s_is_name) := ⟨rfl, rfl, rfl, by decide +kernel, rfl, by decide +kernel, by decide +kernel⟩
theorem bt_is_name : BindT "is_name" s_is_name ["value"] := fun _ _ _ _ _ _ us hl => match us, hl with | [_], _ => rfl
theorem sc_check_limit : FnScope ["limit"] ["limit"] (defScope s_check_limit) := ⟨rfl, rfl, rfl, by decide +kernel, rfl, by decide +kernel, by decide +kernel⟩
theorem bt_check_limit : BindT "check_limit" s_check_limit ["limit"] := fun _ _ _ _ _ _ us hl => match us, hl with | [_], _ => rfl
theorem sc_digits_of : FnScope ["text", "digits", "digit"] ["text"] (defScope s_digits_of) := ⟨rfl, rfl, rfl, by decide +kernel, rfl, by decide +kernel, by decide +kernel⟩
theorem bt_digits_of : BindT "digits_of" s_digits_of ["text"] := fun _ _ _ _ _ _ us hl => match us, hl with | [_], _ => rfl
theorem sc_parse_count : FnScope ["text", "minimum", "maximum", "number"] ["text", "minimum", "maximum"] (defScope s_parse_count) := ⟨rfl, rfl, rfl, by decide +kernel, rfl, by decide +kernel, by decide +kernel⟩
def kw_parse_count : List (Str × D) := [("minimum", .int 0), ("maximum", .non)]
theorem sc_split_words : FnScope ["line", "words"] ["line"] (defScope s_split_words) := ⟨rfl, rfl, rfl, by decide +kernel, rfl, by decide +kernel, by decide +kernel⟩
theorem bt_split_words : BindT "split_words" s_split_words ["line"] := fun _ _ _ _ _ _ us hl => match us, hl with | [_], _ => rfl
theorem sc_law_cell : FnScope ["script", "k"] ["script", "k"] (defScope s_law_cell) := ⟨rfl, rfl, rfl, by decide +kernel, rfl, by decide +kernel, by decide +kernel⟩
theorem bt_law_cell : BindT "_law_cell" s_law_cell ["script", "k"] := fun _ _ _ _ _ _ us hl => match us, hl with | [_, _], _ => rfl
theorem sc_law_box : FnScope ["great"] ["great"] (defScope s_law_box) := ⟨rfl, rfl, rfl, by decide +kernel, rfl, by decide +kernel, by decide +kernel⟩
theorem bt_law_box : BindT "_law_box" s_law_box ["great"] := fun _ _ _ _ _ _ us hl => match us, hl with | [_], _ => rfl
theorem sc_law_take : FnScope ["box", "many", "digit", "mixed"] ["box", "many"] (defScope s_law_take) := ⟨rfl, rfl, rfl, by decide +kernel, rfl, by decide +kernel, by decide +kernel⟩
theorem bt_law_take : BindT "_law_take" s_law_take ["box", "many"] := fun _ _ _ _ _ _ us hl => match us, hl with | [_, _], _ => rfl
theorem sc_law_pick : FnScope ["box", "items"] ["box", "items"] (defScope s_law_pick) := ⟨rfl, rfl, rfl, by decide +kernel, rfl, by decide +kernel, by decide +kernel⟩
theorem bt_law_pick : BindT "_law_pick" s_law_pick ["box", "items"] := fun _ _ _ _ _ _ us hl => match us, hl with | [_, _], _ => rfl
theorem sc_law_mixed : FnScope ["box", "items", "left", "found", "turn"] ["box", "items"] (defScope s_law_mixed) := ⟨rfl, rfl, rfl, by decide +kernel, rfl, by decide +kernel, by decide +kernel⟩
theorem bt_law_mixed : BindT "_law_mixed" s_law_mixed ["box", "items"] := fun _ _ _ _ _ _ us hl => match us, hl with | [_, _], _ => rfl
theorem sc_law_same : FnScope ["told", "due", "k", "key"] ["told", "due"] (defScope s_law_same) := ⟨rfl, rfl, rfl, by decide +kernel, rfl, by decide +kernel, by decide +kernel⟩
theorem bt_law_same : BindT "_law_same" s_law_same ["told", "due"] := fun _ _ _ _ _ _ us hl => match us, hl with | [_, _], _ => rfl
theorem sc_law_copy : FnScope ["value", "item", "key"] ["value"] (defScope s_law_copy) := ⟨rfl, rfl, rfl, by decide +kernel, rfl, by decide +kernel, by decide +kernel⟩
theorem bt_law_copy : BindT "_law_copy" s_law_copy ["value"] := fun _ _ _ _ _ _ us hl => match us, hl with | [_], _ => rfl
theorem sc_law_very : FnScope ["given", "value"] ["given", "value"] (defScope s_law_very) := ⟨rfl, rfl, rfl, by decide +kernel, rfl, by decide +kernel, by decide +kernel⟩
theorem bt_law_very : BindT "_law_very" s_law_very ["given", "value"] := fun _ _ _ _ _ _ us hl => match us, hl with | [_, _], _ => rfl
theorem sc_law_letters : FnScope [] [] (defScope s_law_letters) := ⟨rfl, rfl, rfl, by decide +kernel, rfl, by decide +kernel, by decide +kernel⟩
theorem bt_law_letters : BindT "_law_letters" s_law_letters [] := fun _ _ _ _ _ _ us hl => match us, hl with | [], _ => rfl
theorem sc_law_kinds : FnScope ["value", "text", "sign"] ["value"] (defScope s_law_kinds) := ⟨rfl, rfl, rfl, by decide +kernel, rfl, by decide +kernel, by decide +kernel⟩
theorem bt_law_kinds : BindT "_law_kinds" s_law_kinds ["value"] := fun _ _ _ _ _ _ us hl => match us, hl with | [_], _ => rfl
theorem sc_law_any : FnScope ["box", "word", "odd", "at", "rows", "turn"] ["box"] (defScope s_law_any) := ⟨rfl, rfl, rfl, by decide +kernel, rfl, by decide +kernel, by decide +kernel⟩
theorem bt_law_any : BindT "_law_any" s_law_any ["box"] := fun _ _ _ _ _ _ us hl => match us, hl with | [_], _ => rfl
theorem sc_law_number : FnScope ["text", "less", "digits", "found", "sign"] ["text"] (defScope s_law_number) := ⟨rfl, rfl, rfl, by decide +kernel, rfl, by decide +kernel, by decide +kernel⟩
theorem bt_law_number : BindT "_law_number" s_law_number ["text"] := fun _ _ _ _ _ _ us hl => match us, hl with | [_], _ => rfl
theorem sc_law_drawn : FnScope ["box", "size", "digits", "way", "signs", "text", "turn"] ["box"] (defScope s_law_drawn) := ⟨rfl, rfl, rfl, by decide +kernel, rfl, by decide +kernel, by decide +kernel⟩
theorem bt_law_drawn : BindT "_law_drawn" s_law_drawn ["box"] := fun _ _ _ _ _ _ us hl => match us, hl with | [_], _ => rfl
theorem sc_law_count : FnScope ["text", "limits", "named", "e"] ["text", "limits", "named"] (defScope s_law_count) := ⟨rfl, rfl, rfl, by decide +kernel, rfl, by decide +kernel, by decide +kernel⟩
theorem bt_law_count : BindT "_law_count" s_law_count ["text", "limits", "named"] := fun _ _ _ _ _ _ us hl => match us, hl with | [_, _, _], _ => rfl
theorem sc_law_counts_right : FnScope ["box", "named", "text", "number", "near", "some", "limits", "least", "most", "due", "odd", "more", "wrong", "kept", "met", "k"] ["box", "named"] (defScope s_law_counts_right) := ⟨rfl, rfl, rfl, by decide +kernel, rfl, by decide +kernel, by decide +kernel⟩
theorem bt_law_counts_right : BindT "_law_counts_right" s_law_counts_right ["box", "named"] := fun _ _ _ _ _ _ us hl => match us, hl with | [_, _], _ => rfl
theorem sc_law_words : FnScope ["line", "found", "word", "blank", "sign"] ["line"] (defScope s_law_words) := ⟨rfl, rfl, rfl, by decide +kernel, rfl, by decide +kernel, by decide +kernel⟩
theorem bt_law_words : BindT "_law_words" s_law_words ["line"] := fun _ _ _ _ _ _ us hl => match us, hl with | [_], _ => rfl
theorem sc_law_line : FnScope ["box", "words", "line", "way", "at", "again", "turn"] ["box"] (defScope s_law_line) := ⟨rfl, rfl, rfl, by decide +kernel, rfl, by decide +kernel, by decide +kernel⟩
theorem bt_law_line : BindT "_law_line" s_law_line ["box"] := fun _ _ _ _ _ _ us hl => match us, hl with | [_], _ => rfl
theorem sc_law_split : FnScope ["line", "named", "e"] ["line", "named"] (defScope s_law_split) := ⟨rfl, rfl, rfl, by decide +kernel, rfl, by decide +kernel, by decide +kernel⟩
theorem bt_law_split : BindT "_law_split" s_law_split ["line", "named"] := fun _ _ _ _ _ _ us hl => match us, hl with | [_, _], _ => rfl
theorem sc_law_lines_right : FnScope ["box", "named", "line", "due", "met"] ["box", "named"] (defScope s_law_lines_right) := ⟨rfl, rfl, rfl, by decide +kernel, rfl, by decide +kernel, by decide +kernel⟩
theorem bt_law_lines_right : BindT "_law_lines_right" s_law_lines_right ["box", "named"] := fun _ _ _ _ _ _ us hl => match us, hl with | [_, _], _ => rfl
theorem sc_law : FnScope ["script", "k", "box", "named", "turn", "value", "told"] ["script"] (defScope s_law) := ⟨rfl, rfl, rfl, by decide +kernel, rfl, by decide +kernel, by decide +kernel⟩
theorem bt_law : BindT "law" s_law ["script"] := fun _ _ _ _ _ _ us hl => match us, hl with | [_], _ => rfl
theorem kb_law_letters_0_ : KBT "_law_letters" s_law_letters [] 0 [] [] := fun _ _ _ _ _ _ us ws h1 h2 => match us, ws, h1, h2 with | [], [], _, _ => rfl
theorem kb_split_words_0_line : KBT "split_words" s_split_words ["line"] 0 ["line"] [0] := fun _ _ _ _ _ _ us ws h1 h2 => match us, ws, h1, h2 with | [], [_], _, _ => rfl
theorem kb_is_letter_0_value : KBT "is_letter" s_is_letter ["value"] 0 ["value"] [0] := fun _ _ _ _ _ _ us ws h1 h2 => match us, ws, h1, h2 with | [], [_], _, _ => rfl
theorem kb_is_name_0_value : KBT "is_name" s_is_name ["value"] 0 ["value"] [0] := fun _ _ _ _ _ _ us ws h1 h2 => match us, ws, h1, h2 with | [], [_], _, _ => rfl
theorem kb_is_integer_0_value : KBT "is_integer" s_is_integer ["value"] 0 ["value"] [0] := fun _ _ _ _ _ _ us ws h1 h2 => match us, ws, h1, h2 with | [], [_], _, _ => rfl
theorem kb_is_text_0_value : KBT "is_text" s_is_text ["value"] 0 ["value"] [0] := fun _ _ _ _ _ _ us ws h1 h2 => match us, ws, h1, h2 with | [], [_], _, _ => rfl
theorem kbk_parse_count_0_text : KBK "parse_count" s_parse_count ["text", "minimum", "maximum"] 0 ["text"] ["minimum", "maximum"] [2, 0, 1] := fun _ _ _ _ _ _ us mv ws h1 h2 h3 => match us, mv, ws, h1, h2, h3 with | [], [_, _], [_], _, _, _ => ⟨_, _, _, _, _, _, rfl, rfl, _, _, _, _, _, _, rfl, rfl, rfl⟩
theorem kbk_parse_count_1_ : KBK "parse_count" s_parse_count ["text", "minimum", "maximum"] 1 [] ["minimum", "maximum"] [0, 1, 2] := fun _ _ _ _ _ _ us mv ws h1 h2 h3 => match us, mv, ws, h1, h2, h3 with | [_], [_, _], [], _, _, _ => ⟨_, _, _, _, _, _, rfl, rfl, _, _, _, _, _, _, rfl, rfl, rfl⟩
theorem kbk_parse_count_0_text_minimum : KBK "parse_count" s_parse_count ["text", "minimum", "maximum"] 0 ["text", "minimum"] ["maximum"] [1, 2, 0] := fun _ _ _ _ _ _ us mv ws h1 h2 h3 => match us, mv, ws, h1, h2, h3 with | [], [_], [_, _], _, _, _ => ⟨_, _, _, _, _, _, rfl, rfl, rfl⟩
theorem kbk_parse_count_1_minimum : KBK "parse_count" s_parse_count ["text", "minimum", "maximum"] 1 ["minimum"] ["maximum"] [0, 2, 1] := fun _ _ _ _ _ _ us mv ws h1 h2 h3 => match us, mv, ws, h1, h2, h3 with | [_], [_], [_], _, _, _ => ⟨_, _, _, _, _, _, rfl, rfl, rfl⟩
theorem kbk_parse_count_0_text_maximum : KBK "parse_count" s_parse_count ["text", "minimum", "maximum"] 0 ["text", "maximum"] ["minimum"] [1, 0, 2] := fun _ _ _ _ _ _ us mv ws h1 h2 h3 => match us, mv, ws, h1, h2, h3 with | [], [_], [_, _], _, _, _ => ⟨_, _, _, _, _, _, rfl, rfl, rfl⟩
theorem kbk_parse_count_1_maximum : KBK "parse_count" s_parse_count ["text", "minimum", "maximum"] 1 ["maximum"] ["minimum"] [0, 1, 2] := fun _ _ _ _ _ _ us mv ws h1 h2 h3 => match us, mv, ws, h1, h2, h3 with | [_], [_], [_], _, _, _ => ⟨_, _, _, _, _, _, rfl, rfl, rfl⟩
theorem kbk_parse_count_0_maximum_minimum_text : KBK "parse_count" s_parse_count ["text", "minimum", "maximum"] 0 ["maximum", "minimum", "text"] [] [2, 1, 0] := fun _ _ _ _ _ _ us mv ws h1 h2 h3 => match us, mv, ws, h1, h2, h3 with | [], [], [_, _, _], _, _, _ => rfl
theorem kbk_parse_count_1_minimum_maximum : KBK "parse_count" s_parse_count ["text", "minimum", "maximum"] 1 ["minimum", "maximum"] [] [0, 1, 2] := fun _ _ _ _ _ _ us mv ws h1 h2 h3 => match us, mv, ws, h1, h2, h3 with | [_], [], [_, _], _, _, _ => rfl
/-- what the written part says -/
structure Txt (K : PySem.W.Frag) (mg : Str → Option Value) (cA : Nat → Addr) : Prop where
  d_is_integer : StdG K mg "is_integer" s_is_integer
  d_is_text : StdG K mg "is_text" s_is_text
  d_is_letter : StdG K mg "is_letter" s_is_letter
  d_is_name : StdG K mg "is_name" s_is_name
  d_check_limit : StdG K mg "check_limit" s_check_limit
  d_digits_of : StdG K mg "digits_of" s_digits_of
  d_parse_count : StdK K mg "parse_count" s_parse_count kw_parse_count
  d_split_words : StdG K mg "split_words" s_split_words
  d_law_cell : StdG K mg "_law_cell" s_law_cell
  d_law_box : StdG K mg "_law_box" s_law_box
  d_law_take : StdG K mg "_law_take" s_law_take
  d_law_pick : StdG K mg "_law_pick" s_law_pick
  d_law_mixed : StdG K mg "_law_mixed" s_law_mixed
  d_law_same : StdG K mg "_law_same" s_law_same
  d_law_copy : StdG K mg "_law_copy" s_law_copy
  d_law_very : StdG K mg "_law_very" s_law_very
  d_law_letters : StdG K mg "_law_letters" s_law_letters
  d_law_kinds : StdG K mg "_law_kinds" s_law_kinds
  d_law_any : StdG K mg "_law_any" s_law_any
  d_law_number : StdG K mg "_law_number" s_law_number
  d_law_drawn : StdG K mg "_law_drawn" s_law_drawn
  d_law_count : StdG K mg "_law_count" s_law_count
  d_law_counts_right : StdG K mg "_law_counts_right" s_law_counts_right
  d_law_words : StdG K mg "_law_words" s_law_words
  d_law_line : StdG K mg "_law_line" s_law_line
  d_law_split : StdG K mg "_law_split" s_law_split
  d_law_lines_right : StdG K mg "_law_lines_right" s_law_lines_right
  d_law : StdG K mg "law" s_law
  n_abs : mg "abs" = none
  n_all : mg "all" = none
  n_bool : mg "bool" = none
  n_dict : mg "dict" = none
  n_int : mg "int" = none
  n_isinstance : mg "isinstance" = none
  n_len : mg "len" = none
  n_list : mg "list" = none
  n_max : mg "max" = none
  n_min : mg "min" = none
  n_range : mg "range" = none
  n_str : mg "str" = none
  n_sum : mg "sum" = none
  n_tuple : mg "tuple" = none
  g_LETTERS : ∃ t, mg "LETTERS" = some (.str (tx [97, 98, 99, 100, 101, 102, 103, 104, 105, 106, 107, 108, 109, 110, 111, 112, 113, 114, 115, 116, 117, 118, 119, 120, 121, 122]) t)
  g_DIGITS : ∃ t, mg "DIGITS" = some (.str (tx [48, 49, 50, 51, 52, 53, 54, 55, 56, 57]) t)
  g_MAX_DIGITS : ∃ t, mg "MAX_DIGITS" = some (.int 30 t)
  g_MAX_NAME : ∃ t, mg "MAX_NAME" = some (.int 8 t)
  g_InvalidInteger : mg "InvalidInteger" = some (.ref (cA 0))
  x_InvalidInteger : ExcS K mg (cA 0) "FormatError" "InvalidInteger.__init__" (tx [118, 97, 108, 117, 101]) si_InvalidInteger
  g_InvalidLine : mg "InvalidLine" = some (.ref (cA 1))
  x_InvalidLine : ExcS K mg (cA 1) "FormatError" "InvalidLine.__init__" (tx [118, 97, 108, 117, 101]) si_InvalidLine
  m_0 : ∀ j, j < 2 → PySem.W.exmOne K (.ref (cA j)) (.ref (cA 0)) = some (decide (j = 0))
  m_1 : ∀ j, j < 2 → PySem.W.exmOne K (.ref (cA j)) (.ref (cA 1)) = some (decide (j = 1))
section
variable {P : Program} {w : World} {K : PySem.W.Frag} {mg : Str → Option Value} {base : Heap} {cA : Nat → Addr}
theorem cat_0_ok (T : Txt K mg cA) : ∀ j b, cat_0 j = some b → PySem.W.exmOne K (.ref (cA j)) (.ref (cA 0)) = some b := fun j b h => by
  unfold cat_0 at h
  split at h
  · cases h; exact T.m_0 j (by assumption)
  · cases h
theorem cat_1_ok (T : Txt K mg cA) : ∀ j b, cat_1 j = some b → PySem.W.exmOne K (.ref (cA j)) (.ref (cA 1)) = some b := fun j b h => by
  unfold cat_1 at h
  split at h
  · cases h; exact T.m_1 j (by assumption)
  · cases h
theorem sci_InvalidInteger : FnScope ["self", "value"] ["self", "value"] (defScope si_InvalidInteger) := ⟨rfl, rfl, rfl, by decide +kernel, rfl, by decide +kernel, by decide +kernel⟩
theorem exc_InvalidInteger (T : Txt K mg cA) : ExcG P w K mg base cA 0 "InvalidInteger" [118, 97, 108, 117, 101] :=
  excG_of (N := ["self", "value"]) (msg := "not an integer in the required range") T.g_InvalidInteger T.x_InvalidInteger sci_InvalidInteger rfl (fun B hm rd ga hv fI cdv A outer s H E => pss_cons (ps_expr (pe_voinit (by rfl) hm rd ga hv (pa_cons (pe_var (i := 0) rfl (.inl rfl)) (pa_cons pe_str pa_nil)))) (pss_one (ps_ost (pe_var (i := 0) rfl (.inl rfl)) (pe_var (i := 1) rfl (.inl rfl)))))
    (fun _ _ _ _ _ _ us hl => match us, hl with | [_, _], _ => rfl)
theorem sci_InvalidLine : FnScope ["self", "value"] ["self", "value"] (defScope si_InvalidLine) := ⟨rfl, rfl, rfl, by decide +kernel, rfl, by decide +kernel, by decide +kernel⟩
theorem exc_InvalidLine (T : Txt K mg cA) : ExcG P w K mg base cA 1 "InvalidLine" [118, 97, 108, 117, 101] :=
  excG_of (N := ["self", "value"]) (msg := "not a line of words with single spaces between them") T.g_InvalidLine T.x_InvalidLine sci_InvalidLine rfl (fun B hm rd ga hv fI cdv A outer s H E => pss_cons (ps_expr (pe_voinit (by rfl) hm rd ga hv (pa_cons (pe_var (i := 0) rfl (.inl rfl)) (pa_cons pe_str pa_nil)))) (pss_one (ps_ost (pe_var (i := 0) rfl (.inl rfl)) (pe_var (i := 1) rfl (.inl rfl)))))
    (fun _ _ _ _ _ _ us hl => match us, hl with | [_, _], _ => rfl)
structure AllOk (P : Program) (w : World) (K : PySem.W.Frag) (mg : Str → Option Value) (base : Heap) (cA : Nat → Addr) (k : Nat) : Prop where
  c_is_integer : CalG P w K mg base cA (k + 2) "is_integer" s_is_integer ["value"] (Fs k).is_integer
  c_is_text : CalG P w K mg base cA (k + 2) "is_text" s_is_text ["value"] (Fs k).is_text
  c_is_letter : CalG P w K mg base cA (k + 2) "is_letter" s_is_letter ["value"] (Fs k).is_letter
  c_is_name : CalG P w K mg base cA (k + 2) "is_name" s_is_name ["value"] (Fs k).is_name
  c_check_limit : CalG P w K mg base cA (k + 2) "check_limit" s_check_limit ["limit"] (Fs k).check_limit
  c_digits_of : CalG P w K mg base cA (k + 2) "digits_of" s_digits_of ["text"] (Fs k).digits_of
  c_parse_count : CalK P w K mg base cA (k + 2) "parse_count" s_parse_count ["text", "minimum", "maximum"] kw_parse_count (Fs k).parse_count
  c_split_words : CalG P w K mg base cA (k + 2) "split_words" s_split_words ["line"] (Fs k).split_words
  c_law_cell : CalG P w K mg base cA (k + 2) "_law_cell" s_law_cell ["script", "k"] (Fs k).law_cell
  c_law_box : CalG P w K mg base cA (k + 2) "_law_box" s_law_box ["great"] (Fs k).law_box
  c_law_take : CalG P w K mg base cA (k + 2) "_law_take" s_law_take ["box", "many"] (Fs k).law_take
  c_law_pick : CalG P w K mg base cA (k + 2) "_law_pick" s_law_pick ["box", "items"] (Fs k).law_pick
  c_law_mixed : CalG P w K mg base cA (k + 2) "_law_mixed" s_law_mixed ["box", "items"] (Fs k).law_mixed
  c_law_same : CalG P w K mg base cA (k + 2) "_law_same" s_law_same ["told", "due"] (Fs k).law_same
  c_law_copy : CalG P w K mg base cA (k + 2) "_law_copy" s_law_copy ["value"] (Fs k).law_copy
  c_law_very : CalG P w K mg base cA (k + 2) "_law_very" s_law_very ["given", "value"] (Fs k).law_very
  c_law_letters : CalG P w K mg base cA (k + 2) "_law_letters" s_law_letters [] (Fs k).law_letters
  c_law_kinds : CalG P w K mg base cA (k + 2) "_law_kinds" s_law_kinds ["value"] (Fs k).law_kinds
  c_law_any : CalG P w K mg base cA (k + 2) "_law_any" s_law_any ["box"] (Fs k).law_any
  c_law_number : CalG P w K mg base cA (k + 2) "_law_number" s_law_number ["text"] (Fs k).law_number
  c_law_drawn : CalG P w K mg base cA (k + 2) "_law_drawn" s_law_drawn ["box"] (Fs k).law_drawn
  c_law_count : CalG P w K mg base cA (k + 2) "_law_count" s_law_count ["text", "limits", "named"] (Fs k).law_count
  c_law_counts_right : CalG P w K mg base cA (k + 2) "_law_counts_right" s_law_counts_right ["box", "named"] (Fs k).law_counts_right
  c_law_words : CalG P w K mg base cA (k + 2) "_law_words" s_law_words ["line"] (Fs k).law_words
  c_law_line : CalG P w K mg base cA (k + 2) "_law_line" s_law_line ["box"] (Fs k).law_line
  c_law_split : CalG P w K mg base cA (k + 2) "_law_split" s_law_split ["line", "named"] (Fs k).law_split
  c_law_lines_right : CalG P w K mg base cA (k + 2) "_law_lines_right" s_law_lines_right ["box", "named"] (Fs k).law_lines_right
  c_law : CalG P w K mg base cA (k + 2) "law" s_law ["script"] (Fs k).law
theorem ok_is_integer {k : Nat} (T : Txt K mg cA) (A : AllOk P w K mg base cA k) : CalG P w K mg base cA (k + 1 + 2) "is_integer" s_is_integer ["value"] (mDef 0 (b_is_integer (Fs k))) :=
  cal_mirror (N := ["value"]) T.d_is_integer bt_is_integer sc_is_integer fun f cdv A' outer s H E hr =>
      s_one (s_ret (d_and (d_isi1 (T := .int) (by rfl) T.n_isinstance (by rfl) T.n_int PyProof.Rows.boot_int (d_var 0)) (d_one (d_not (d_isi1 (T := .bool) (by rfl) T.n_isinstance (by rfl) T.n_bool PyProof.Rows.boot_bool (d_var 0))))))
theorem ok_is_text {k : Nat} (T : Txt K mg cA) (A : AllOk P w K mg base cA k) : CalG P w K mg base cA (k + 1 + 2) "is_text" s_is_text ["value"] (mDef 1 (b_is_text (Fs k))) :=
  cal_mirror (N := ["value", "letter"]) T.d_is_text bt_is_text sc_is_text fun f cdv A' outer s H E hr =>
      s_one (s_ret (d_and (d_isi1 (T := .str) (by rfl) T.n_isinstance (by rfl) T.n_str PyProof.Rows.boot_str (d_var 0)) (d_one (d_all1 rfl (by rfl) T.n_all (d_lcN (own := [("letter", 1)]) (i := 0) false (by rfl) rfl sc_is_text.nd (blkOk_by (by kernel_rfl)) (fun _ _ _ _ _ => g_name sc_is_text.nd (by rfl) (by first | exact .inl rfl | exact .inr (.inl rfl) | exact .inr rfl)) (fun _ _ _ _ _ => ts_nil) (fun _ _ _ _ _ => d_in1 (Room.u65 hr) (d_var 1) (d_globS (cs := [97, 98, 99, 100, 101, 102, 103, 104, 105, 106, 107, 108, 109, 110, 111, 112, 113, 114, 115, 116, 117, 118, 119, 120, 121, 122]) T.g_LETTERS (by rfl))))))))
theorem ok_is_letter {k : Nat} (T : Txt K mg cA) (A : AllOk P w K mg base cA k) : CalG P w K mg base cA (k + 1 + 2) "is_letter" s_is_letter ["value"] (mDef 0 (b_is_letter (Fs k))) :=
  cal_mirror (N := ["value"]) T.d_is_letter bt_is_letter sc_is_letter fun f cdv A' outer s H E hr =>
      s_one (s_ret (d_and (d_callG A.c_is_text rfl takes_b hr (by rfl) (a_cons (d_var 0) (a_nil))) (d_one (d_eq hr.units (d_len1 (by rfl) T.n_len (d_var 0)) (d_int)))))
theorem ok_is_name {k : Nat} (T : Txt K mg cA) (A : AllOk P w K mg base cA k) : CalG P w K mg base cA (k + 1 + 2) "is_name" s_is_name ["value"] (mDef 0 (b_is_name (Fs k))) :=
  cal_mirror (N := ["value"]) T.d_is_name bt_is_name sc_is_name fun f cdv A' outer s H E hr =>
      s_one (s_ret (d_and (d_callG A.c_is_text rfl takes_b hr (by rfl) (a_cons (d_var 0) (a_nil))) (d_one (d_chain op_le opB_ok op_le opB_ok (d_int) (d_len1 (by rfl) T.n_len (d_var 0)) (d_globI T.g_MAX_NAME (by rfl))))))
theorem ok_check_limit {k : Nat} (T : Txt K mg cA) (A : AllOk P w K mg base cA k) : CalG P w K mg base cA (k + 1 + 2) "check_limit" s_check_limit ["limit"] (mDef 0 (b_check_limit (Fs k))) :=
  cal_mirror (N := ["limit"]) T.d_check_limit bt_check_limit sc_check_limit fun f cdv A' outer s H E hr =>
      s_one (s_if (t_w (w_and (t_isnot (d_var 0) (d_non)) (w_and1 (t_not (t_val (d_callG A.c_is_integer rfl takes_b hr (by rfl) (a_cons (d_var 0) (a_nil))))))))
      (s_one (s_raiseG (exc_InvalidInteger T (P := P) (w := w) (base := base)) rfl takes_b (hr.mono (by omega)) (by rfl) (a_cons (d_var 0) (a_nil))))
      (s_nil))
theorem ok_digits_of {k : Nat} (T : Txt K mg cA) (A : AllOk P w K mg base cA k) : CalG P w K mg base cA (k + 1 + 2) "digits_of" s_digits_of ["text"] (mDef 2 (b_digits_of (Fs k))) :=
  cal_mirror (N := ["text", "digits", "digit"]) T.d_digits_of bt_digits_of sc_digits_of fun f cdv A' outer s H E hr =>
      s_cons (s_set sc_digits_of.nd (by rfl) (by first | exact .inl rfl | exact .inr (.inl rfl) | exact .inr rfl) (d_ifE (t_eq hr.units (d_sl false (d_var 0) o_none (o_some (d_int))) (d_str (cs := [45]) (by rfl))) (d_sl false (d_var 0) (o_some (d_int)) o_none) (d_var 0)))
      (s_cons (s_if (t_w (w_or (t_not (t_chain op_le opB_ok op_le opB_ok (d_int) (d_len1 (by rfl) T.n_len (d_var 1)) (d_globI T.g_MAX_DIGITS (by rfl)))) (w_or1 (t_not (t_val (d_all1 rfl (by rfl) T.n_all (d_lcN (own := [("digit", 2)]) (i := 1) false (by rfl) rfl sc_digits_of.nd (blkOk_by (by kernel_rfl)) (fun _ _ _ _ _ => g_name sc_digits_of.nd (by rfl) (by first | exact .inl rfl | exact .inr (.inl rfl) | exact .inr rfl)) (fun _ _ _ _ _ => ts_nil) (fun _ _ _ _ _ => d_in1 (Room.u65 hr) (d_var 2) (d_globS (cs := [48, 49, 50, 51, 52, 53, 54, 55, 56, 57]) T.g_DIGITS (by rfl))))))))))
      (s_one (s_ret (d_non)))
      (s_nil))
      (s_cons (s_if (t_w (w_and (t_eq hr.units (d_ix (Room.u1 hr) (d_var 1) (d_int) (by intro _ _; rfl)) (d_str (cs := [48]) (by rfl))) (w_and1 (t_ne hr.units (d_var 0) (d_str (cs := [48]) (by rfl))))))
      (s_one (s_ret (d_non)))
      (s_nil))
      (s_one (s_ret (d_var 1)))))
theorem ok_parse_count {k : Nat} (T : Txt K mg cA) (A : AllOk P w K mg base cA k) : CalK P w K mg base cA (k + 1 + 2) "parse_count" s_parse_count ["text", "minimum", "maximum"] kw_parse_count (mDef 1 (b_parse_count (Fs k))) :=
  calk_mirror (N := ["text", "minimum", "maximum", "number"]) T.d_parse_count sc_parse_count fun f cdv A' outer s H E hr =>
      s_cons (s_expr (d_callG A.c_check_limit rfl takes_b hr (by rfl) (a_cons (d_var 1) (a_nil))))
      (s_cons (s_expr (d_callG A.c_check_limit rfl takes_b hr (by rfl) (a_cons (d_var 2) (a_nil))))
      (s_cons (s_if (t_w (w_or (t_not (t_val (d_isi1 (T := .str) (by rfl) T.n_isinstance (by rfl) T.n_str PyProof.Rows.boot_str (d_var 0)))) (w_or1 (t_is (d_callG A.c_digits_of rfl takes_b hr (by rfl) (a_cons (d_var 0) (a_nil))) (d_non)))))
      (s_one (s_ret (d_non)))
      (s_nil))
      (s_cons (s_set sc_parse_count.nd (by rfl) (by first | exact .inl rfl | exact .inr (.inl rfl) | exact .inr rfl) (d_int1X rfl (by rfl) T.n_int (d_var 0)))
      (s_cons (s_if (t_w (w_or (t_w (w_and (t_isnot (d_var 1) (d_non)) (w_and1 (t_lt (d_var 3) (d_var 1))))) (w_or1 (t_w (w_and (t_isnot (d_var 2) (d_non)) (w_and1 (t_gt (d_var 3) (d_var 2))))))))
      (s_one (s_ret (d_non)))
      (s_nil))
      (s_one (s_ret (d_var 3)))))))
theorem ok_split_words {k : Nat} (T : Txt K mg cA) (A : AllOk P w K mg base cA k) : CalG P w K mg base cA (k + 1 + 2) "split_words" s_split_words ["line"] (mDef 1 (b_split_words (Fs k))) :=
  cal_mirror (N := ["line", "words"]) T.d_split_words bt_split_words sc_split_words fun f cdv A' outer s H E hr =>
      s_cons (s_if (t_w (w_or (t_not (t_val (d_isi1 (T := .str) (by rfl) T.n_isinstance (by rfl) T.n_str PyProof.Rows.boot_str (d_var 0)))) (w_or1 (t_in (Room.u65 hr) (d_str (cs := [10]) (by rfl)) (d_var 0)))))
      (s_one (s_raiseG (exc_InvalidLine T (P := P) (w := w) (base := base)) rfl takes_b (hr.mono (by omega)) (by rfl) (a_cons (d_var 0) (a_nil))))
      (s_nil))
      (s_cons (s_set sc_split_words.nd (by rfl) (by first | exact .inl rfl | exact .inr (.inl rfl) | exact .inr rfl) (d_ifE (t_ne hr.units (d_var 0) (d_str (cs := []) (by rfl))) (d_mt PySem.F.plainAttrs_str PySem.F.slot_str_split PySem.F.type_str_split mt_split ok_split sel_str (d_var 0) (a_cons (d_str (cs := [32]) (by rfl)) (a_nil))) (d_lst true (a_nil))))
      (s_cons (s_if (t_in (Room.u65 hr) (d_str (cs := []) (by rfl)) (d_var 1))
      (s_one (s_raiseG (exc_InvalidLine T (P := P) (w := w) (base := base)) rfl takes_b (hr.mono (by omega)) (by rfl) (a_cons (d_var 0) (a_nil))))
      (s_nil))
      (s_one (s_ret (d_var 1)))))
theorem ok_law_cell {k : Nat} (T : Txt K mg cA) (A : AllOk P w K mg base cA k) : CalG P w K mg base cA (k + 1 + 2) "_law_cell" s_law_cell ["script", "k"] (mDef 0 (b_law_cell (Fs k))) :=
  cal_mirror (N := ["script", "k"]) T.d_law_cell bt_law_cell sc_law_cell fun f cdv A' outer s H E hr =>
      s_one (s_ret (d_ifE (t_lt (d_var 1) (d_len1 (by rfl) T.n_len (d_var 0))) (d_ix (Room.u1 hr) (d_var 0) (d_var 1) (by intro _ _; rfl)) (d_add false (d_mul false (d_int) (d_var 1)) (d_mod (d_int1X rfl (by rfl) T.n_int (d_sum1 rfl (by rfl) T.n_sum (d_sl false (d_var 0) o_none (o_some (d_int))))) (d_int)))))
theorem ok_law_box {k : Nat} (T : Txt K mg cA) (A : AllOk P w K mg base cA k) : CalG P w K mg base cA (k + 1 + 2) "_law_box" s_law_box ["great"] (mDef 0 (b_law_box (Fs k))) :=
  cal_mirror (N := ["great"]) T.d_law_box bt_law_box sc_law_box fun f cdv A' outer s H E hr =>
      s_one (s_ret (d_lst true (a_cons (d_mod (d_int1X rfl (by rfl) T.n_int (d_abs1 rfl (by rfl) T.n_abs (d_int1X rfl (by rfl) T.n_int (d_var 0)))) (d_pow (d_int) (d_int))) (a_cons (d_ge (d_abs1 rfl (by rfl) T.n_abs (d_int1X rfl (by rfl) T.n_int (d_var 0))) (d_pow (d_int) (d_int))) (a_cons (d_mod (d_int1X rfl (by rfl) T.n_int (d_abs1 rfl (by rfl) T.n_abs (d_int1X rfl (by rfl) T.n_int (d_var 0)))) (d_int)) (a_cons (d_int) (a_nil)))))))
theorem ok_law_take {k : Nat} (T : Txt K mg cA) (A : AllOk P w K mg base cA k) : CalG P w K mg base cA (k + 1 + 2) "_law_take" s_law_take ["box", "many"] (mDef 2 (b_law_take (Fs k))) :=
  cal_mirror (N := ["box", "many", "digit", "mixed"]) T.d_law_take bt_law_take sc_law_take fun f cdv A' outer s H E hr =>
      s_cons (s_if (t_w (w_and (t_val (d_ix (Room.u1 hr) (d_var 0) (d_int) (by intro _ _; rfl))) (w_and1 (t_gt (d_ix (Room.u1 hr) (d_var 0) (d_int) (by intro _ _; rfl)) (d_int)))))
      (s_cons (s_set sc_law_take.nd (by rfl) (by first | exact .inl rfl | exact .inr (.inl rfl) | exact .inr rfl) (d_mod (d_int1X rfl (by rfl) T.n_int (d_ix (Room.u1 hr) (d_var 0) (d_int) (by intro _ _; rfl))) (d_var 1)))
      (s_cons (s_sub (Room.u1 hr) (d_var 0) (d_int) (d_fdiv (d_int1X rfl (by rfl) T.n_int (d_ix (Room.u1 hr) (d_var 0) (d_int) (by intro _ _; rfl))) (d_var 1)) (by intro _; rfl))
      (s_one (s_ret (d_var 2)))))
      (s_nil))
      (s_cons (s_sub (Room.u1 hr) (d_var 0) (d_int) (d_add false (d_ix (Room.u1 hr) (d_var 0) (d_int) (by intro _ _; rfl)) (d_int)) (by intro _; rfl))
      (s_cons (s_set sc_law_take.nd (by rfl) (by first | exact .inl rfl | exact .inr (.inl rfl) | exact .inr rfl) (d_mod (d_int1X rfl (by rfl) T.n_int (d_pow (d_add false (d_add false (d_ix (Room.u1 hr) (d_var 0) (d_int) (by intro _ _; rfl)) (d_mul false (d_int) (d_ix (Room.u1 hr) (d_var 0) (d_int) (by intro _ _; rfl)))) (d_int)) (d_int))) (d_int)))
      (s_one (s_ret (d_mod (d_fdiv (d_int1X rfl (by rfl) T.n_int (d_mod (d_int1X rfl (by rfl) T.n_int (d_pow (d_add false (d_mul false (d_var 3) (d_int)) (d_mul false (d_int) (d_ix (Room.u1 hr) (d_var 0) (d_int) (by intro _ _; rfl)))) (d_int))) (d_int))) (d_int)) (d_var 1))))))
theorem ok_law_pick {k : Nat} (T : Txt K mg cA) (A : AllOk P w K mg base cA k) : CalG P w K mg base cA (k + 1 + 2) "_law_pick" s_law_pick ["box", "items"] (mDef 0 (b_law_pick (Fs k))) :=
  cal_mirror (N := ["box", "items"]) T.d_law_pick bt_law_pick sc_law_pick fun f cdv A' outer s H E hr =>
      s_one (s_ret (d_ix (Room.u1 hr) (d_var 1) (d_callG A.c_law_take rfl takes_b hr (by rfl) (a_cons (d_var 0) (a_cons (d_len1 (by rfl) T.n_len (d_var 1)) (a_nil)))) (by intro _ _; rfl)))
theorem ok_law_mixed {k : Nat} (T : Txt K mg cA) (A : AllOk P w K mg base cA k) : CalG P w K mg base cA (k + 1 + 2) "_law_mixed" s_law_mixed ["box", "items"] (mDef 3 (b_law_mixed (Fs k))) :=
  cal_mirror (N := ["box", "items", "left", "found", "turn"]) T.d_law_mixed bt_law_mixed sc_law_mixed fun f cdv A' outer s H E hr =>
      s_cons (s_par (i := 2) (j := 3) rfl sc_law_mixed.nd (by rfl) (by rfl) (by decide) (by rfl) (by rfl) (a_cons (d_list1 true rfl (by rfl) T.n_list (d_var 1)) (a_cons (d_lst true (a_nil)) a_nil)) (by rfl))
      (s_cons (s_for owns_b rfl (di_range1 (by rfl) T.n_range (a_cons (d_len1 (by rfl) T.n_len (d_var 1)) (a_nil))) (g_name sc_law_mixed.nd (by rfl) (by first | exact .inl rfl | exact .inr (.inl rfl) | exact .inr rfl))
      (s_one (s_expr (d_mt PySem.F.plainAttrs_list PySem.F.slot_list_append PySem.F.type_list_append mt_append ok_append sel_lst (d_var 3) (a_cons (d_mt PySem.F.plainAttrs_list PySem.F.slot_list_pop PySem.F.type_list_pop mt_popAt ok_popAt sel_lst (d_var 2) (a_cons (d_callG A.c_law_take rfl takes_b hr (by rfl) (a_cons (d_var 0) (a_cons (d_len1 (by rfl) T.n_len (d_var 2)) (a_nil)))) (a_nil))) (a_nil)))))
      (s_nil))
      (s_one (s_ret (d_fz (d_var 3)))))
theorem ok_law_same {k : Nat} (T : Txt K mg cA) (A : AllOk P w K mg base cA k) : CalG P w K mg base cA (k + 1 + 2) "_law_same" s_law_same ["told", "due"] (mDef 2 (b_law_same (Fs k))) :=
  cal_mirror (N := ["told", "due", "k", "key"]) T.d_law_same bt_law_same sc_law_same fun f cdv A' outer s H E hr =>
      s_cons (s_if (t_w (w_or (t_is (d_var 1) (d_non)) (w_or1 (t_val (d_isi1 (T := .bool) (by rfl) T.n_isinstance (by rfl) T.n_bool PyProof.Rows.boot_bool (d_var 1))))))
      (s_one (s_ret (d_ifE (t_is (d_var 1) (d_non)) (d_is (d_var 0) (d_non)) (d_and (d_isi1 (T := .bool) (by rfl) T.n_isinstance (by rfl) T.n_bool PyProof.Rows.boot_bool (d_var 0)) (d_one (d_eq hr.units (d_is (d_var 0) (d_bl)) (d_is (d_var 1) (d_bl))))))))
      (s_nil))
      (s_cons (s_if (t_val (d_isi1 (T := .int) (by rfl) T.n_isinstance (by rfl) T.n_int PyProof.Rows.boot_int (d_var 1)))
      (s_one (s_ret (d_and (d_isi1 (T := .int) (by rfl) T.n_isinstance (by rfl) T.n_int PyProof.Rows.boot_int (d_var 0)) (d_and (d_not (d_isi1 (T := .bool) (by rfl) T.n_isinstance (by rfl) T.n_bool PyProof.Rows.boot_bool (d_var 0))) (d_one (d_eq hr.units (d_sub (d_int1X rfl (by rfl) T.n_int (d_var 0)) (d_var 1)) (d_int)))))))
      (s_nil))
      (s_cons (s_if (t_val (d_isi1 (T := .str) (by rfl) T.n_isinstance (by rfl) T.n_str PyProof.Rows.boot_str (d_var 1)))
      (s_one (s_ret (d_and (d_isi1 (T := .str) (by rfl) T.n_isinstance (by rfl) T.n_str PyProof.Rows.boot_str (d_var 0)) (d_and (d_eq hr.units (d_len1 (by rfl) T.n_len (d_var 0)) (d_len1 (by rfl) T.n_len (d_var 1))) (d_one (d_eq hr.units (d_lc (own := [("k", 2)]) false rfl sc_law_same.nd (di_range1 (by rfl) T.n_range (a_cons (d_len1 (by rfl) T.n_len (d_var 1)) (a_nil))) (blkOk_by (by kernel_rfl)) (fun _ _ _ _ _ => g_name sc_law_same.nd (by rfl) (by first | exact .inl rfl | exact .inr (.inl rfl) | exact .inr rfl)) (fun _ _ _ _ _ => ts_one (t_ne hr.units (d_sl false (d_var 0) (o_some (d_var 2)) (o_some (d_add false (d_var 2) (d_int)))) (d_ix (Room.u1 hr) (d_var 1) (d_var 2) (by intro _ _; rfl)))) (fun _ _ _ _ _ => d_var 2)) (d_lst false (a_nil))))))))
      (s_nil))
      (s_cons (s_if (t_val (d_isi1 (T := .dict) (by rfl) T.n_isinstance (by rfl) T.n_dict PyProof.Rows.boot_dict (d_var 1)))
      (s_cons (s_if (t_w (w_or (t_not (t_val (d_isi1 (T := .dict) (by rfl) T.n_isinstance (by rfl) T.n_dict PyProof.Rows.boot_dict (d_var 0)))) (w_or1 (t_ne hr.units (d_len1 (by rfl) T.n_len (d_var 0)) (d_len1 (by rfl) T.n_len (d_var 1))))))
      (s_one (s_ret (d_bl)))
      (s_nil))
      (s_one (s_ret (d_eq hr.units (d_lcN (own := [("key", 3)]) (i := 1) false (by rfl) rfl sc_law_same.nd (blkOk_by (by kernel_rfl)) (fun _ _ _ _ _ => g_name sc_law_same.nd (by rfl) (by first | exact .inl rfl | exact .inr (.inl rfl) | exact .inr rfl)) (fun _ _ _ _ _ => ts_one (t_w (w_or (t_nin (Room.u65 hr) (d_var 3) (d_var 0)) (w_or1 (t_not (t_val (d_callG A.c_law_same rfl takes_none5 hr (by rfl) (a_cons (d_ix (Room.u1 hr) (d_var 0) (d_var 3) (by intro _ _; rfl)) (a_cons (d_ix (Room.u1 hr) (d_var 1) (d_var 3) (by intro _ _; rfl)) (a_nil)))))))))) (fun _ _ _ _ _ => d_var 3)) (d_lst false (a_nil))))))
      (s_nil))
      (s_cons (s_if (t_w (w_or (t_not (t_val (d_isi2 (T := .list) (U := .tuple) (by rfl) T.n_isinstance (by rfl) T.n_list PyProof.Rows.boot_list (by rfl) T.n_tuple PyProof.Rows.boot_tuple (d_var 1)))) (w_or (t_not (t_val (d_isi2 (T := .list) (U := .tuple) (by rfl) T.n_isinstance (by rfl) T.n_list PyProof.Rows.boot_list (by rfl) T.n_tuple PyProof.Rows.boot_tuple (d_var 0)))) (w_or1 (t_ne hr.units (d_isi1 (T := .list) (by rfl) T.n_isinstance (by rfl) T.n_list PyProof.Rows.boot_list (d_var 0)) (d_isi1 (T := .list) (by rfl) T.n_isinstance (by rfl) T.n_list PyProof.Rows.boot_list (d_var 1)))))))
      (s_one (s_ret (d_bl)))
      (s_nil))
      (s_one (s_ret (d_and (d_eq hr.units (d_len1 (by rfl) T.n_len (d_var 0)) (d_len1 (by rfl) T.n_len (d_var 1))) (d_one (d_eq hr.units (d_lc (own := [("k", 2)]) false rfl sc_law_same.nd (di_range1 (by rfl) T.n_range (a_cons (d_len1 (by rfl) T.n_len (d_var 1)) (a_nil))) (blkOk_by (by kernel_rfl)) (fun _ _ _ _ _ => g_name sc_law_same.nd (by rfl) (by first | exact .inl rfl | exact .inr (.inl rfl) | exact .inr rfl)) (fun _ _ _ _ _ => ts_one (t_not (t_val (d_callG A.c_law_same rfl takes_none5 hr (by rfl) (a_cons (d_ix (Room.u1 hr) (d_var 0) (d_var 2) (by intro _ _; rfl)) (a_cons (d_ix (Room.u1 hr) (d_var 1) (d_var 2) (by intro _ _; rfl)) (a_nil))))))) (fun _ _ _ _ _ => d_var 2)) (d_lst false (a_nil)))))))))))
theorem ok_law_copy {k : Nat} (T : Txt K mg cA) (A : AllOk P w K mg base cA k) : CalG P w K mg base cA (k + 1 + 2) "_law_copy" s_law_copy ["value"] (mDef 2 (b_law_copy (Fs k))) :=
  cal_mirror (N := ["value", "item", "key"]) T.d_law_copy bt_law_copy sc_law_copy fun f cdv A' outer s H E hr =>
      s_cons (s_if (t_val (d_isi1 (T := .list) (by rfl) T.n_isinstance (by rfl) T.n_list PyProof.Rows.boot_list (d_var 0)))
      (s_one (s_ret (d_lcN (own := [("item", 1)]) (i := 0) true (by rfl) rfl sc_law_copy.nd (blkOk_by (by kernel_rfl)) (fun _ _ _ _ _ => g_name sc_law_copy.nd (by rfl) (by first | exact .inl rfl | exact .inr (.inl rfl) | exact .inr rfl)) (fun _ _ _ _ _ => ts_nil) (fun _ _ _ _ _ => d_callG A.c_law_copy rfl takes_none5 hr (by rfl) (a_cons (d_var 1) (a_nil))))))
      (s_nil))
      (s_cons (s_if (t_val (d_isi1 (T := .tuple) (by rfl) T.n_isinstance (by rfl) T.n_tuple PyProof.Rows.boot_tuple (d_var 0)))
      (s_one (s_ret (d_tuple1 rfl (by rfl) T.n_tuple (d_lcN (own := [("item", 1)]) (i := 0) false (by rfl) rfl sc_law_copy.nd (blkOk_by (by kernel_rfl)) (fun _ _ _ _ _ => g_name sc_law_copy.nd (by rfl) (by first | exact .inl rfl | exact .inr (.inl rfl) | exact .inr rfl)) (fun _ _ _ _ _ => ts_nil) (fun _ _ _ _ _ => d_callG A.c_law_copy rfl takes_none5 hr (by rfl) (a_cons (d_var 1) (a_nil)))))))
      (s_nil))
      (s_one (s_ret (d_ifE (t_val (d_isi1 (T := .dict) (by rfl) T.n_isinstance (by rfl) T.n_dict PyProof.Rows.boot_dict (d_var 0))) (d_dict1 true rfl (by rfl) T.n_dict (d_lcN (own := [("key", 2)]) (i := 0) false (by rfl) rfl sc_law_copy.nd (blkOk_by (by kernel_rfl)) (fun _ _ _ _ _ => g_name sc_law_copy.nd (by rfl) (by first | exact .inl rfl | exact .inr (.inl rfl) | exact .inr rfl)) (fun _ _ _ _ _ => ts_nil) (fun _ _ _ _ _ => d_tup (a_cons (d_var 2) (a_cons (d_callG A.c_law_copy rfl takes_none5 hr (by rfl) (a_cons (d_ix (Room.u1 hr) (d_var 0) (d_var 2) (by intro _ _; rfl)) (a_nil))) (a_nil)))))) (d_var 0)))))
theorem ok_law_very {k : Nat} (T : Txt K mg cA) (A : AllOk P w K mg base cA k) : CalG P w K mg base cA (k + 1 + 2) "_law_very" s_law_very ["given", "value"] (mDef 0 (b_law_very (Fs k))) :=
  cal_mirror (N := ["given", "value"]) T.d_law_very bt_law_very sc_law_very fun f cdv A' outer s H E hr =>
      s_cons (s_if (t_not (t_val (d_callG A.c_law_same rfl takes_b hr (by rfl) (a_cons (d_var 0) (a_cons (d_var 1) (a_nil))))))
      (s_one (s_ret (d_bl)))
      (s_nil))
      (s_cons (s_if (t_val (d_isi1 (T := .list) (by rfl) T.n_isinstance (by rfl) T.n_list PyProof.Rows.boot_list (d_var 1)))
      (s_one (s_expr (d_mt PySem.F.plainAttrs_list PySem.F.slot_list_append PySem.F.type_list_append mt_append ok_append sel_lst (d_var 1) (a_cons (d_str (cs := [109, 111, 114, 101]) (by rfl)) (a_nil)))))
      (s_nil))
      (s_cons (s_if (t_val (d_isi1 (T := .dict) (by rfl) T.n_isinstance (by rfl) T.n_dict PyProof.Rows.boot_dict (d_var 1)))
      (s_one (s_sub (Room.u1 hr) (d_var 1) (d_str (cs := [109, 111, 114, 101]) (by rfl)) (d_int) (by intro _; rfl)))
      (s_nil))
      (s_one (s_ret (d_callG A.c_law_same rfl takes_b hr (by rfl) (a_cons (d_var 0) (a_cons (d_var 1) (a_nil))))))))
theorem ok_law_letters {k : Nat} (T : Txt K mg cA) (A : AllOk P w K mg base cA k) : CalG P w K mg base cA (k + 1 + 2) "_law_letters" s_law_letters [] (mDef 0 (b_law_letters (Fs k))) :=
  cal_mirror (N := []) T.d_law_letters bt_law_letters sc_law_letters fun f cdv A' outer s H E hr =>
      s_one (s_ret (d_str (cs := [97, 98, 99, 100, 101, 102, 103, 104, 105, 106, 107, 108, 109, 110, 111, 112, 113, 114, 115, 116, 117, 118, 119, 120, 121, 122]) (by rfl)))
theorem ok_law_kinds {k : Nat} (T : Txt K mg cA) (A : AllOk P w K mg base cA k) : CalG P w K mg base cA (k + 1 + 2) "_law_kinds" s_law_kinds ["value"] (mDef 2 (b_law_kinds (Fs k))) :=
  cal_mirror (N := ["value", "text", "sign"]) T.d_law_kinds bt_law_kinds sc_law_kinds fun f cdv A' outer s H E hr =>
      s_cons (s_set sc_law_kinds.nd (by rfl) (by first | exact .inl rfl | exact .inr (.inl rfl) | exact .inr rfl) (d_and (d_isi1 (T := .str) (by rfl) T.n_isinstance (by rfl) T.n_str PyProof.Rows.boot_str (d_var 0)) (d_one (d_eq hr.units (d_lcN (own := [("sign", 2)]) (i := 0) false (by rfl) rfl sc_law_kinds.nd (blkOk_by (by kernel_rfl)) (fun _ _ _ _ _ => g_name sc_law_kinds.nd (by rfl) (by first | exact .inl rfl | exact .inr (.inl rfl) | exact .inr rfl)) (fun _ _ _ _ _ => ts_one (t_nin (Room.u65 hr) (d_var 2) (d_callGK0 A.c_law_letters kb_law_letters_0_ rfl takes_none5 hr (by rfl) (k_nil)))) (fun _ _ _ _ _ => d_var 2)) (d_lst false (a_nil))))))
      (s_one (s_ret (d_lst false (a_cons (d_and (d_isi1 (T := .int) (by rfl) T.n_isinstance (by rfl) T.n_int PyProof.Rows.boot_int (d_var 0)) (d_one (d_not (d_isi1 (T := .bool) (by rfl) T.n_isinstance (by rfl) T.n_bool PyProof.Rows.boot_bool (d_var 0))))) (a_cons (d_and (d_var 1) (d_one (d_eq hr.units (d_len1 (by rfl) T.n_len (d_var 0)) (d_int)))) (a_cons (d_var 1) (a_cons (d_and (d_var 1) (d_one (d_chain op_lt opB_ok op_lt opB_ok (d_int) (d_len1 (by rfl) T.n_len (d_var 0)) (d_int)))) (a_nil))))))))
theorem ok_law_any {k : Nat} (T : Txt K mg cA) (A : AllOk P w K mg base cA k) : CalG P w K mg base cA (k + 1 + 2) "_law_any" s_law_any ["box"] (mDef 5 (b_law_any (Fs k))) :=
  cal_mirror (N := ["box", "word", "odd", "at", "rows", "turn"]) T.d_law_any bt_law_any sc_law_any fun f cdv A' outer s H E hr =>
      s_cons (s_set sc_law_any.nd (by rfl) (by first | exact .inl rfl | exact .inr (.inl rfl) | exact .inr rfl) (d_mt PySem.F.plainAttrs_str PySem.F.slot_str_join PySem.F.type_str_join mt_join ok_join sel_str (d_str (cs := []) (by rfl)) (a_cons (d_lc (own := [("turn", 5)]) false rfl sc_law_any.nd (di_range1 (by rfl) T.n_range (a_cons (d_callG A.c_law_pick rfl takes_b hr (by rfl) (a_cons (d_var 0) (a_cons (d_lst false (a_cons (d_int) (a_cons (d_int) (a_cons (d_int) (a_cons (d_int) (a_cons (d_int) (a_cons (d_int) (a_cons (d_int) (a_cons (d_int) (a_nil)))))))))) (a_nil)))) (a_nil))) (blkOk_by (by kernel_rfl)) (fun _ _ _ _ _ => g_name sc_law_any.nd (by rfl) (by first | exact .inl rfl | exact .inr (.inl rfl) | exact .inr rfl)) (fun _ _ _ _ _ => ts_nil) (fun _ _ _ _ _ => d_callG A.c_law_pick rfl takes_none5 hr (by rfl) (a_cons (d_var 0) (a_cons (d_str (cs := [97, 98, 121, 122]) (by rfl)) (a_nil))))) (a_nil))))
      (s_cons (s_set sc_law_any.nd (by rfl) (by first | exact .inl rfl | exact .inr (.inl rfl) | exact .inr rfl) (d_callG A.c_law_pick rfl takes_b hr (by rfl) (a_cons (d_var 0) (a_cons (d_lst false (a_cons (d_str (cs := [65]) (by rfl)) (a_cons (d_str (cs := [48]) (by rfl)) (a_cons (d_str (cs := [32]) (by rfl)) (a_cons (d_str (cs := [95]) (by rfl)) (a_cons (d_str (cs := [45]) (by rfl)) (a_cons (d_str (cs := [10]) (by rfl)) (a_cons (d_str (cs := [96]) (by rfl)) (a_cons (d_str (cs := [123]) (by rfl)) (a_cons (d_str (cs := [126]) (by rfl)) (a_cons (d_str (cs := [90]) (by rfl)) (a_cons (d_str (cs := [46]) (by rfl)) (a_nil))))))))))))) (a_nil)))))
      (s_cons (s_set sc_law_any.nd (by rfl) (by first | exact .inl rfl | exact .inr (.inl rfl) | exact .inr rfl) (d_callG A.c_law_take rfl takes_b hr (by rfl) (a_cons (d_var 0) (a_cons (d_add false (d_len1 (by rfl) T.n_len (d_var 1)) (d_int)) (a_nil)))))
      (s_cons (s_set sc_law_any.nd (by rfl) (by first | exact .inl rfl | exact .inr (.inl rfl) | exact .inr rfl) (d_lst false (a_cons (d_var 1) (a_cons (d_var 1) (a_cons (d_add false (d_add false (d_sl false (d_var 1) o_none (o_some (d_var 3))) (d_var 2)) (d_sl false (d_var 1) (o_some (d_var 3)) o_none)) (a_cons (d_var 2) (a_cons (d_non) (a_cons (d_bl) (a_cons (d_bl) (a_cons (d_int) (a_cons (d_neg (d_int)) (a_cons (d_sub (d_pow (d_int) (d_int)) (d_int)) (a_cons (d_sub (d_int) (d_pow (d_int) (d_int))) (a_cons (d_lst false (a_nil)) (a_cons (d_lst false (a_cons (d_str (cs := [97]) (by rfl)) (a_nil))) (a_cons (d_tup (a_cons (d_str (cs := [97]) (by rfl)) (a_nil))) (a_cons (d_dic0K false) (a_cons (d_disp false (dp_str (cs := [97]) (by rfl) (d_str (cs := [98]) (by rfl)) (dp_nil))) (a_cons (d_lst false (a_cons (d_var 1) (a_nil))) (a_nil))))))))))))))))))))
      (s_one (s_ret (d_callG A.c_law_pick rfl takes_b hr (by rfl) (a_cons (d_var 0) (a_cons (d_var 4) (a_nil)))))))))
theorem ok_law_number {k : Nat} (T : Txt K mg cA) (A : AllOk P w K mg base cA k) : CalG P w K mg base cA (k + 1 + 2) "_law_number" s_law_number ["text"] (mDef 4 (b_law_number (Fs k))) :=
  cal_mirror (N := ["text", "less", "digits", "found", "sign"]) T.d_law_number bt_law_number sc_law_number fun f cdv A' outer s H E hr =>
      s_cons (s_set sc_law_number.nd (by rfl) (by first | exact .inl rfl | exact .inr (.inl rfl) | exact .inr rfl) (d_and (d_isi1 (T := .str) (by rfl) T.n_isinstance (by rfl) T.n_str PyProof.Rows.boot_str (d_var 0)) (d_one (d_eq hr.units (d_sl false (d_var 0) o_none (o_some (d_int))) (d_str (cs := [45]) (by rfl))))))
      (s_cons (s_set sc_law_number.nd (by rfl) (by first | exact .inl rfl | exact .inr (.inl rfl) | exact .inr rfl) (d_ifE (t_val (d_isi1 (T := .str) (by rfl) T.n_isinstance (by rfl) T.n_str PyProof.Rows.boot_str (d_var 0))) (d_sl false (d_var 0) (o_some (d_int1X rfl (by rfl) T.n_int (d_var 1))) o_none) (d_str (cs := []) (by rfl))))
      (s_cons (s_if (t_w (w_or (t_eq hr.units (d_var 2) (d_str (cs := []) (by rfl))) (w_or (t_gt (d_len1 (by rfl) T.n_len (d_var 2)) (d_int)) (w_or1 (t_ne hr.units (d_lcN (own := [("sign", 4)]) (i := 2) false (by rfl) rfl sc_law_number.nd (blkOk_by (by kernel_rfl)) (fun _ _ _ _ _ => g_name sc_law_number.nd (by rfl) (by first | exact .inl rfl | exact .inr (.inl rfl) | exact .inr rfl)) (fun _ _ _ _ _ => ts_one (t_nin (Room.u65 hr) (d_var 4) (d_str (cs := [48, 49, 50, 51, 52, 53, 54, 55, 56, 57]) (by rfl)))) (fun _ _ _ _ _ => d_var 4)) (d_lst false (a_nil)))))))
      (s_one (s_ret (d_non)))
      (s_nil))
      (s_cons (s_if (t_w (w_and (t_eq hr.units (d_ix (Room.u1 hr) (d_var 2) (d_int) (by intro _ _; rfl)) (d_str (cs := [48]) (by rfl))) (w_and1 (t_w (w_or (t_gt (d_len1 (by rfl) T.n_len (d_var 2)) (d_int)) (w_or1 (t_val (d_var 1))))))))
      (s_one (s_ret (d_non)))
      (s_nil))
      (s_cons (s_set sc_law_number.nd (by rfl) (by first | exact .inl rfl | exact .inr (.inl rfl) | exact .inr rfl) (d_int))
      (s_cons (s_for owns_b rfl (di_seq (d_var 2)) (g_name sc_law_number.nd (by rfl) (by first | exact .inl rfl | exact .inr (.inl rfl) | exact .inr rfl))
      (s_one (s_set sc_law_number.nd (by rfl) (by first | exact .inl rfl | exact .inr (.inl rfl) | exact .inr rfl) (d_add false (d_mul false (d_int) (d_var 3)) (d_index rfl (d_str (cs := [48, 49, 50, 51, 52, 53, 54, 55, 56, 57]) (by rfl)) (d_var 4)))))
      (s_nil))
      (s_one (s_ret (d_ifE (t_val (d_var 1)) (d_sub (d_int) (d_var 3)) (d_var 3)))))))))
theorem ok_law_drawn {k : Nat} (T : Txt K mg cA) (A : AllOk P w K mg base cA k) : CalG P w K mg base cA (k + 1 + 2) "_law_drawn" s_law_drawn ["box"] (mDef 6 (b_law_drawn (Fs k))) :=
  cal_mirror (N := ["box", "size", "digits", "way", "signs", "text", "turn"]) T.d_law_drawn bt_law_drawn sc_law_drawn fun f cdv A' outer s H E hr =>
      s_cons (s_set sc_law_drawn.nd (by rfl) (by first | exact .inl rfl | exact .inr (.inl rfl) | exact .inr rfl) (d_callG A.c_law_pick rfl takes_b hr (by rfl) (a_cons (d_var 0) (a_cons (d_lst false (a_cons (d_int) (a_cons (d_int) (a_cons (d_int) (a_cons (d_int) (a_cons (d_int) (a_cons (d_int) (a_cons (d_int) (a_nil))))))))) (a_nil)))))
      (s_cons (s_set sc_law_drawn.nd (by rfl) (by first | exact .inl rfl | exact .inr (.inl rfl) | exact .inr rfl) (d_mt PySem.F.plainAttrs_str PySem.F.slot_str_join PySem.F.type_str_join mt_join ok_join sel_str (d_str (cs := []) (by rfl)) (a_cons (d_lc (own := [("turn", 6)]) false rfl sc_law_drawn.nd (di_range1 (by rfl) T.n_range (a_cons (d_var 1) (a_nil))) (blkOk_by (by kernel_rfl)) (fun _ _ _ _ _ => g_name sc_law_drawn.nd (by rfl) (by first | exact .inl rfl | exact .inr (.inl rfl) | exact .inr rfl)) (fun _ _ _ _ _ => ts_nil) (fun _ _ _ _ _ => d_callG A.c_law_pick rfl takes_none5 hr (by rfl) (a_cons (d_var 0) (a_cons (d_str (cs := [48, 49, 50, 51, 52, 53, 54, 55, 56, 57]) (by rfl)) (a_nil))))) (a_nil))))
      (s_cons (s_set sc_law_drawn.nd (by rfl) (by first | exact .inl rfl | exact .inr (.inl rfl) | exact .inr rfl) (d_ifE (t_gt (d_callG A.c_law_take rfl takes_b hr (by rfl) (a_cons (d_var 0) (a_cons (d_int) (a_nil)))) (d_int)) (d_var 2) (d_add false (d_callG A.c_law_pick rfl takes_b hr (by rfl) (a_cons (d_var 0) (a_cons (d_str (cs := [49, 50, 51, 52, 53, 54, 55, 56, 57]) (by rfl)) (a_nil)))) (d_sl false (d_var 2) (o_some (d_int)) o_none))))
      (s_cons (s_set sc_law_drawn.nd (by rfl) (by first | exact .inl rfl | exact .inr (.inl rfl) | exact .inr rfl) (d_callG A.c_law_take rfl takes_b hr (by rfl) (a_cons (d_var 0) (a_cons (d_int) (a_nil)))))
      (s_cons (s_set sc_law_drawn.nd (by rfl) (by first | exact .inl rfl | exact .inr (.inl rfl) | exact .inr rfl) (d_ifE (t_lt (d_var 3) (d_int)) (d_ix (Room.u1 hr) (d_lst false (a_cons (d_str (cs := []) (by rfl)) (a_cons (d_str (cs := []) (by rfl)) (a_cons (d_str (cs := []) (by rfl)) (a_cons (d_str (cs := [45]) (by rfl)) (a_cons (d_str (cs := [45]) (by rfl)) (a_cons (d_str (cs := [43]) (by rfl)) (a_cons (d_str (cs := [45, 45]) (by rfl)) (a_cons (d_str (cs := [32]) (by rfl)) (a_cons (d_str (cs := [48]) (by rfl)) (a_cons (d_str (cs := [45, 48]) (by rfl)) (a_nil)))))))))))) (d_var 3) (by intro _ _; rfl)) (d_str (cs := []) (by rfl))))
      (s_cons (s_set sc_law_drawn.nd (by rfl) (by first | exact .inl rfl | exact .inr (.inl rfl) | exact .inr rfl) (d_add false (d_var 4) (d_var 2)))
      (s_cons (s_if (t_eq hr.units (d_var 3) (d_int))
      (s_one (s_ret (d_callG A.c_law_pick rfl takes_b hr (by rfl) (a_cons (d_var 0) (a_cons (d_lst false (a_cons (d_str (cs := []) (by rfl)) (a_cons (d_str (cs := [45]) (by rfl)) (a_cons (d_str (cs := [48]) (by rfl)) (a_cons (d_str (cs := [45, 48]) (by rfl)) (a_cons (d_str (cs := [45, 48]) (by rfl)) (a_cons (d_str (cs := [45, 48]) (by rfl)) (a_cons (d_str (cs := [48, 48]) (by rfl)) (a_cons (d_str (cs := [49, 32]) (by rfl)) (a_cons (d_str (cs := [49, 10]) (by rfl)) (a_cons (d_str (cs := [49, 95, 48]) (by rfl)) (a_cons (d_str (cs := [49, 46, 48]) (by rfl)) (a_cons (d_str (cs := [48, 120, 49]) (by rfl)) (a_cons (d_str (cs := [49, 101, 51]) (by rfl)) (a_cons (d_mul false (d_str (cs := [57]) (by rfl)) (d_int)) (a_cons (d_mul false (d_str (cs := [57]) (by rfl)) (d_int)) (a_cons (d_add false (d_str (cs := [45]) (by rfl)) (d_mul false (d_str (cs := [57]) (by rfl)) (d_int))) (a_cons (d_add false (d_str (cs := [45]) (by rfl)) (d_mul false (d_str (cs := [57]) (by rfl)) (d_int))) (a_cons (d_add false (d_str (cs := [49]) (by rfl)) (d_mul false (d_str (cs := [48]) (by rfl)) (d_int))) (a_cons (d_add false (d_str (cs := [49]) (by rfl)) (d_mul false (d_str (cs := [48]) (by rfl)) (d_int))) (a_nil))))))))))))))))))))) (a_nil))))))
      (s_nil))
      (s_one (s_ret (d_ifE (t_eq hr.units (d_var 3) (d_int)) (d_callG A.c_law_pick rfl takes_b hr (by rfl) (a_cons (d_var 0) (a_cons (d_lst false (a_cons (d_non) (a_cons (d_int) (a_cons (d_bl) (a_cons (d_lst false (a_cons (d_str (cs := [49]) (by rfl)) (a_nil))) (a_cons (d_tup (a_cons (d_str (cs := [49]) (by rfl)) (a_nil))) (a_cons (d_dic0K false) (a_cons (d_add false (d_var 2) (d_str (cs := [97]) (by rfl))) (a_cons (d_add false (d_var 2) (d_str (cs := [32]) (by rfl))) (a_nil)))))))))) (a_nil)))) (d_var 5))))))))))
theorem ok_law_count {k : Nat} (T : Txt K mg cA) (A : AllOk P w K mg base cA k) : CalG P w K mg base cA (k + 1 + 2) "_law_count" s_law_count ["text", "limits", "named"] (mDef 1 (b_law_count (Fs k))) :=
  cal_mirror (N := ["text", "limits", "named", "e"]) T.d_law_count bt_law_count sc_law_count fun f cdv A' outer s H E hr =>
      s_one (s_try rfl rfl sc_law_count.nd rfl takes_b (fun W pn xe tk po => s_cons (s_if (t_eqE hr.units (d_var 1) (d_dic0K false))
      (s_one (s_ret (d_lst false (a_cons (d_str (cs := [116, 111, 108, 100]) (by rfl)) (a_cons (d_ifE (t_val (d_var 2)) (d_callGD0 (dfl := [.int 0, .non]) A.c_parse_count kbk_parse_count_0_text (by simp [kw_parse_count]) (by simp [kw_parse_count]) rfl rfl rfl tk hr (by rfl) (k_cons (d_var 0) (k_nil))) (d_callGD (dfl := [.int 0, .non]) A.c_parse_count kbk_parse_count_1_ (by simp [kw_parse_count]) (by simp [kw_parse_count]) rfl rfl rfl tk hr (by rfl) (a_cons (d_var 0) (a_nil)) (k_nil))) (a_nil))))))
      (s_nil))
      (s_cons (s_if (t_nin (Room.u65 hr) (d_str (cs := [109, 97, 120, 105, 109, 117, 109]) (by rfl)) (d_var 1))
      (s_one (s_ret (d_lst false (a_cons (d_str (cs := [116, 111, 108, 100]) (by rfl)) (a_cons (d_ifE (t_val (d_var 2)) (d_callGD0 (dfl := [.non]) A.c_parse_count kbk_parse_count_0_text_minimum (by simp [kw_parse_count]) (by simp [kw_parse_count]) rfl rfl rfl tk hr (by rfl) (k_cons (d_var 0) (k_cons (d_ix (Room.u1 hr) (d_var 1) (d_str (cs := [109, 105, 110, 105, 109, 117, 109]) (by rfl)) (by intro _ _; rfl)) (k_nil)))) (d_callGD (dfl := [.non]) A.c_parse_count kbk_parse_count_1_minimum (by simp [kw_parse_count]) (by simp [kw_parse_count]) rfl rfl rfl tk hr (by rfl) (a_cons (d_var 0) (a_nil)) (k_cons (d_ix (Room.u1 hr) (d_var 1) (d_str (cs := [109, 105, 110, 105, 109, 117, 109]) (by rfl)) (by intro _ _; rfl)) (k_nil)))) (a_nil))))))
      (s_nil))
      (s_cons (s_if (t_nin (Room.u65 hr) (d_str (cs := [109, 105, 110, 105, 109, 117, 109]) (by rfl)) (d_var 1))
      (s_one (s_ret (d_lst false (a_cons (d_str (cs := [116, 111, 108, 100]) (by rfl)) (a_cons (d_ifE (t_val (d_var 2)) (d_callGD0 (dfl := [.int 0]) A.c_parse_count kbk_parse_count_0_text_maximum (by simp [kw_parse_count]) (by simp [kw_parse_count]) rfl rfl rfl tk hr (by rfl) (k_cons (d_var 0) (k_cons (d_ix (Room.u1 hr) (d_var 1) (d_str (cs := [109, 97, 120, 105, 109, 117, 109]) (by rfl)) (by intro _ _; rfl)) (k_nil)))) (d_callGD (dfl := [.int 0]) A.c_parse_count kbk_parse_count_1_maximum (by simp [kw_parse_count]) (by simp [kw_parse_count]) rfl rfl rfl tk hr (by rfl) (a_cons (d_var 0) (a_nil)) (k_cons (d_ix (Room.u1 hr) (d_var 1) (d_str (cs := [109, 97, 120, 105, 109, 117, 109]) (by rfl)) (by intro _ _; rfl)) (k_nil)))) (a_nil))))))
      (s_nil))
      (s_one (s_ret (d_lst false (a_cons (d_str (cs := [116, 111, 108, 100]) (by rfl)) (a_cons (d_ifE (t_val (d_var 2)) (d_callGD0 (dfl := []) A.c_parse_count kbk_parse_count_0_maximum_minimum_text (by simp [kw_parse_count]) (by simp [kw_parse_count]) rfl rfl rfl tk hr (by rfl) (k_cons (d_ix (Room.u1 hr) (d_var 1) (d_str (cs := [109, 97, 120, 105, 109, 117, 109]) (by rfl)) (by intro _ _; rfl)) (k_cons (d_ix (Room.u1 hr) (d_var 1) (d_str (cs := [109, 105, 110, 105, 109, 117, 109]) (by rfl)) (by intro _ _; rfl)) (k_cons (d_var 0) (k_nil))))) (d_callGD (dfl := []) A.c_parse_count kbk_parse_count_1_minimum_maximum (by simp [kw_parse_count]) (by simp [kw_parse_count]) rfl rfl rfl tk hr (by rfl) (a_cons (d_var 0) (a_nil)) (k_cons (d_ix (Room.u1 hr) (d_var 1) (d_str (cs := [109, 105, 110, 105, 109, 117, 109]) (by rfl)) (by intro _ _; rfl)) (k_cons (d_ix (Room.u1 hr) (d_var 1) (d_str (cs := [109, 97, 120, 105, 109, 117, 109]) (by rfl)) (by intro _ _; rfl)) (k_nil))))) (a_nil)))))))))
      (ClsOk.cons (by rfl) (by rfl) ⟨by rfl, by decide, Or.inl T.g_InvalidInteger⟩ (cat_0_ok T) (fun k hk a dx oe pn hz hv => by
        obtain rfl := cat_0_is hk
        exact s_one (s_ret (d_lst false (a_cons (d_str (cs := [105, 110, 116, 101, 103, 101, 114]) (by rfl)) (a_cons (d_xfG (f := [118, 97, 108, 117, 101]) (exc_InvalidInteger T (P := P) (w := w) (base := base)) hz hv (d_var 3)) (a_nil))))))
      (ClsOk.nil)))
theorem ok_law_counts_right {k : Nat} (T : Txt K mg cA) (A : AllOk P w K mg base cA k) : CalG P w K mg base cA (k + 1 + 2) "_law_counts_right" s_law_counts_right ["box", "named"] (mDef 14 (b_law_counts_right (Fs k))) :=
  cal_mirror (N := ["box", "named", "text", "number", "near", "some", "limits", "least", "most", "due", "odd", "more", "wrong", "kept", "met", "k"]) T.d_law_counts_right bt_law_counts_right sc_law_counts_right fun f cdv A' outer s H E hr =>
      s_cons (s_set sc_law_counts_right.nd (by rfl) (by first | exact .inl rfl | exact .inr (.inl rfl) | exact .inr rfl) (d_callG A.c_law_drawn rfl takes_b hr (by rfl) (a_cons (d_var 0) (a_nil))))
      (s_cons (s_set sc_law_counts_right.nd (by rfl) (by first | exact .inl rfl | exact .inr (.inl rfl) | exact .inr rfl) (d_callG A.c_law_number rfl takes_b hr (by rfl) (a_cons (d_var 2) (a_nil))))
      (s_cons (s_set sc_law_counts_right.nd (by rfl) (by first | exact .inl rfl | exact .inr (.inl rfl) | exact .inr rfl) (d_ifE (t_isnot (d_var 3) (d_non)) (d_lc (own := [("k", 15)]) false rfl sc_law_counts_right.nd (di_seq (d_tup (a_cons (d_neg (d_int)) (a_cons (d_int) (a_cons (d_int) (a_cons (d_int) (a_nil))))))) (blkOk_by (by kernel_rfl)) (fun _ _ _ _ _ => g_name sc_law_counts_right.nd (by rfl) (by first | exact .inl rfl | exact .inr (.inl rfl) | exact .inr rfl)) (fun _ _ _ _ _ => ts_one (t_lt (d_abs1 rfl (by rfl) T.n_abs (d_add false (d_var 3) (d_var 15))) (d_pow (d_int) (d_int)))) (fun _ _ _ _ _ => d_add false (d_var 3) (d_var 15))) (d_lst false (a_cons (d_int) (a_nil)))))
      (s_cons (s_set sc_law_counts_right.nd (by rfl) (by first | exact .inl rfl | exact .inr (.inl rfl) | exact .inr rfl) (d_add false (d_var 4) (d_lst false (a_cons (d_non) (a_cons (d_int) (a_cons (d_int) (a_cons (d_neg (d_int)) (a_cons (d_sub (d_pow (d_int) (d_int)) (d_int)) (a_cons (d_sub (d_int) (d_pow (d_int) (d_int))) (a_nil))))))))))
      (s_cons (s_set sc_law_counts_right.nd (by rfl) (by first | exact .inl rfl | exact .inr (.inl rfl) | exact .inr rfl) (d_dic0K true))
      (s_cons (s_if (t_gt (d_callG A.c_law_take rfl takes_b hr (by rfl) (a_cons (d_var 0) (a_cons (d_int) (a_nil)))) (d_int))
      (s_one (s_sub (Room.u1 hr) (d_var 6) (d_str (cs := [109, 105, 110, 105, 109, 117, 109]) (by rfl)) (d_callG A.c_law_pick rfl takes_b hr (by rfl) (a_cons (d_var 0) (a_cons (d_var 5) (a_nil)))) (by intro _; rfl)))
      (s_nil))
      (s_cons (s_if (t_gt (d_callG A.c_law_take rfl takes_b hr (by rfl) (a_cons (d_var 0) (a_cons (d_int) (a_nil)))) (d_int))
      (s_one (s_sub (Room.u1 hr) (d_var 6) (d_str (cs := [109, 97, 120, 105, 109, 117, 109]) (by rfl)) (d_callG A.c_law_pick rfl takes_b hr (by rfl) (a_cons (d_var 0) (a_cons (d_var 5) (a_nil)))) (by intro _; rfl)))
      (s_nil))
      (s_cons (s_par (i := 7) (j := 8) rfl sc_law_counts_right.nd (by rfl) (by rfl) (by decide) (by rfl) (by rfl) (a_cons (d_get2 (Room.u1 hr) (d_var 6) (d_str (cs := [109, 105, 110, 105, 109, 117, 109]) (by rfl)) (d_int)) (a_cons (d_get1 (Room.u1 hr) (d_var 6) (d_str (cs := [109, 97, 120, 105, 109, 117, 109]) (by rfl))) a_nil)) (by rfl))
      (s_cons (s_set sc_law_counts_right.nd (by rfl) (by first | exact .inl rfl | exact .inr (.inl rfl) | exact .inr rfl) (d_ifE (t_w (w_or (t_is (d_var 3) (d_non)) (w_or (t_w (w_and (t_isnot (d_var 7) (d_non)) (w_and1 (t_lt (d_var 3) (d_var 7))))) (w_or1 (t_w (w_and (t_isnot (d_var 8) (d_non)) (w_and1 (t_gt (d_var 3) (d_var 8))))))))) (d_non) (d_var 3)))
      (s_cons (s_if (t_not (t_val (d_callG A.c_law_same rfl takes_b hr (by rfl) (a_cons (d_lst false (a_cons (d_callG A.c_law_count rfl takes_b hr (by rfl) (a_cons (d_var 2) (a_cons (d_var 6) (a_cons (d_var 1) (a_nil))))) (a_cons (d_callG A.c_law_count rfl takes_b hr (by rfl) (a_cons (d_var 2) (a_cons (d_var 6) (a_cons (d_not (d_var 1)) (a_nil))))) (a_nil)))) (a_cons (d_mul false (d_lst false (a_cons (d_lst false (a_cons (d_str (cs := [116, 111, 108, 100]) (by rfl)) (a_cons (d_var 9) (a_nil)))) (a_nil))) (d_int)) (a_nil))))))
      (s_one (s_ret (d_bl)))
      (s_nil))
      (s_cons (s_set sc_law_counts_right.nd (by rfl) (by first | exact .inl rfl | exact .inr (.inl rfl) | exact .inr rfl) (d_callG A.c_law_copy rfl takes_b hr (by rfl) (a_cons (d_callG A.c_law_pick rfl takes_b hr (by rfl) (a_cons (d_var 0) (a_cons (d_lst false (a_cons (d_bl) (a_cons (d_str (cs := [48]) (by rfl)) (a_cons (d_lst false (a_nil)) (a_cons (d_lst false (a_cons (d_int) (a_nil))) (a_cons (d_dic0K false) (a_cons (d_tup (a_cons (d_int) (a_nil))) (a_cons (d_bl) (a_cons (d_str (cs := [120]) (by rfl)) (a_nil)))))))))) (a_nil)))) (a_nil))))
      (s_cons (s_set sc_law_counts_right.nd (by rfl) (by first | exact .inl rfl | exact .inr (.inl rfl) | exact .inr rfl) (d_callG A.c_law_copy rfl takes_b hr (by rfl) (a_cons (d_callG A.c_law_pick rfl takes_b hr (by rfl) (a_cons (d_var 0) (a_cons (d_lst false (a_cons (d_str (cs := [49]) (by rfl)) (a_cons (d_lst false (a_cons (d_int) (a_nil))) (a_cons (d_disp false (dp_str (cs := [97]) (by rfl) (d_int) (dp_nil))) (a_cons (d_bl) (a_cons (d_tup (a_cons (d_int) (a_cons (d_lst false (a_cons (d_int) (a_nil))) (a_nil)))) (a_nil))))))) (a_nil)))) (a_nil))))
      (s_cons (s_for owns_b rfl (di_seq (d_lst false (a_cons (d_tup (a_cons (d_disp false (dp_str (cs := [109, 105, 110, 105, 109, 117, 109]) (by rfl) (d_var 10) (dp_str (cs := [109, 97, 120, 105, 109, 117, 109]) (by rfl) (d_var 11) (dp_nil)))) (a_cons (d_var 10) (a_nil)))) (a_cons (d_tup (a_cons (d_disp false (dp_str (cs := [109, 105, 110, 105, 109, 117, 109]) (by rfl) (d_var 10) (dp_nil))) (a_cons (d_var 10) (a_nil)))) (a_cons (d_tup (a_cons (d_disp false (dp_str (cs := [109, 105, 110, 105, 109, 117, 109]) (by rfl) (d_callG A.c_law_pick rfl takes_WF hr (by rfl) (a_cons (d_var 0) (a_cons (d_lst false (a_cons (d_non) (a_cons (d_int) (a_nil)))) (a_nil)))) (dp_str (cs := [109, 97, 120, 105, 109, 117, 109]) (by rfl) (d_var 11) (dp_nil)))) (a_cons (d_var 11) (a_nil)))) (a_cons (d_tup (a_cons (d_disp false (dp_str (cs := [109, 97, 120, 105, 109, 117, 109]) (by rfl) (d_var 11) (dp_nil))) (a_cons (d_var 11) (a_nil)))) (a_nil))))))) (g_tup rfl (gs_cons (g_name sc_law_counts_right.nd (by rfl) (by first | exact .inl rfl | exact .inr (.inl rfl) | exact .inr rfl)) (gs_cons (g_name sc_law_counts_right.nd (by rfl) (by first | exact .inl rfl | exact .inr (.inl rfl) | exact .inr rfl)) (gs_nil))))
      (s_cons (s_set sc_law_counts_right.nd (by rfl) (by first | exact .inl rfl | exact .inr (.inl rfl) | exact .inr rfl) (d_callG A.c_law_count rfl takes_b hr (by rfl) (a_cons (d_var 2) (a_cons (d_var 12) (a_cons (d_var 1) (a_nil))))))
      (s_cons (s_if (t_w (w_or (t_ne hr.units (d_ix (Room.u1 hr) (d_var 14) (d_int) (by intro _ _; rfl)) (d_str (cs := [105, 110, 116, 101, 103, 101, 114]) (by rfl))) (w_or1 (t_not (t_val (d_callG A.c_law_very rfl takes_b hr (by rfl) (a_cons (d_ix (Room.u1 hr) (d_var 14) (d_int) (by intro _ _; rfl)) (a_cons (d_var 13) (a_nil)))))))))
      (s_one (s_ret (d_bl)))
      (s_nil))
      (s_one (s_set sc_law_counts_right.nd (by rfl) (by first | exact .inl rfl | exact .inr (.inl rfl) | exact .inr rfl) (d_not (d_var 1))))))
      (s_nil))
      (s_one (s_ret (d_bl)))))))))))))))
theorem ok_law_words {k : Nat} (T : Txt K mg cA) (A : AllOk P w K mg base cA k) : CalG P w K mg base cA (k + 1 + 2) "_law_words" s_law_words ["line"] (mDef 4 (b_law_words (Fs k))) :=
  cal_mirror (N := ["line", "found", "word", "blank", "sign"]) T.d_law_words bt_law_words sc_law_words fun f cdv A' outer s H E hr =>
      s_cons (s_if (t_not (t_val (d_isi1 (T := .str) (by rfl) T.n_isinstance (by rfl) T.n_str PyProof.Rows.boot_str (d_var 0))))
      (s_one (s_ret (d_non)))
      (s_nil))
      (s_cons (s_par3 (i := 1) (j := 2) (l := 3) rfl sc_law_words.nd (by rfl) (by rfl) (by rfl) (by decide) (by decide) (by decide) (by rfl) (by rfl) (by rfl) (a_cons (d_lst true (a_nil)) (a_cons (d_str (cs := []) (by rfl)) (a_cons (d_bl) a_nil))) (by rfl))
      (s_cons (s_for owns_b rfl (di_seq (d_var 0)) (g_name sc_law_words.nd (by rfl) (by first | exact .inl rfl | exact .inr (.inl rfl) | exact .inr rfl))
      (s_cons (s_if (t_w (w_or (t_eq hr.units (d_var 4) (d_str (cs := [10]) (by rfl))) (w_or1 (t_w (w_and (t_eq hr.units (d_var 4) (d_str (cs := [32]) (by rfl))) (w_and1 (t_val (d_var 3))))))))
      (s_one (s_ret (d_non)))
      (s_nil))
      (s_cons (s_if (t_eq hr.units (d_var 4) (d_str (cs := [32]) (by rfl)))
      (s_one (s_expr (d_mt PySem.F.plainAttrs_list PySem.F.slot_list_append PySem.F.type_list_append mt_append ok_append sel_lst (d_var 1) (a_cons (d_var 2) (a_nil)))))
      (s_nil))
      (s_one (s_par (i := 2) (j := 3) rfl sc_law_words.nd (by rfl) (by rfl) (by decide) (by rfl) (by rfl) (a_cons (d_ifE (t_eq hr.units (d_var 4) (d_str (cs := [32]) (by rfl))) (d_str (cs := []) (by rfl)) (d_add false (d_var 2) (d_var 4))) (a_cons (d_eq hr.units (d_var 4) (d_str (cs := [32]) (by rfl))) a_nil)) (by rfl)))))
      (s_nil))
      (s_cons (s_if (t_eq hr.units (d_var 0) (d_str (cs := []) (by rfl)))
      (s_one (s_ret (d_lst false (a_nil))))
      (s_nil))
      (s_one (s_ret (d_ifE (t_val (d_var 3)) (d_non) (d_add false (d_var 1) (d_lst false (a_cons (d_var 2) (a_nil))))))))))
theorem ok_law_line {k : Nat} (T : Txt K mg cA) (A : AllOk P w K mg base cA k) : CalG P w K mg base cA (k + 1 + 2) "_law_line" s_law_line ["box"] (mDef 6 (b_law_line (Fs k))) :=
  cal_mirror (N := ["box", "words", "line", "way", "at", "again", "turn"]) T.d_law_line bt_law_line sc_law_line fun f cdv A' outer s H E hr =>
      s_cons (s_setLc (i := 1) (own := [("again", 5)]) false rfl sc_law_line.nd (by rfl) (by rfl) (sw_true rfl (by rfl) (by rfl) (by rfl)) (di_range1 (by rfl) T.n_range (a_cons (d_callG A.c_law_take rfl takes_b hr (by rfl) (a_cons (d_var 0) (a_cons (d_int) (a_nil)))) (a_nil))) (blkOk_by (by kernel_rfl)) (fun _ _ _ _ _ => g_name sc_law_line.nd (by rfl) (by first | exact .inl rfl | exact .inr (.inl rfl) | exact .inr rfl)) (fun _ _ _ _ _ => ts_nil) (fun _ _ _ _ _ => d_mt PySem.F.plainAttrs_str PySem.F.slot_str_join PySem.F.type_str_join mt_join ok_join sel_str (d_str (cs := []) (by rfl)) (a_cons (d_lc (own := [("turn", 6)]) false rfl sc_law_line.nd (di_range1 (by rfl) T.n_range (a_cons (d_add false (d_int) (d_callG A.c_law_take rfl takes_none5 hr (by rfl) (a_cons (d_var 0) (a_cons (d_int) (a_nil))))) (a_nil))) (blkOk_by (by kernel_rfl)) (fun _ _ _ _ _ => g_name sc_law_line.nd (by rfl) (by first | exact .inl rfl | exact .inr (.inl rfl) | exact .inr rfl)) (fun _ _ _ _ _ => ts_nil) (fun _ _ _ _ _ => d_callG A.c_law_pick rfl takes_none5 hr (by rfl) (a_cons (d_var 0) (a_cons (d_str (cs := [97, 98, 40, 124, 42, 41, 60, 62, 63, 48, 90, 126, 45]) (by rfl)) (a_nil))))) (a_nil))))
      (s_cons (s_set sc_law_line.nd (by rfl) (by first | exact .inl rfl | exact .inr (.inl rfl) | exact .inr rfl) (d_mt PySem.F.plainAttrs_str PySem.F.slot_str_join PySem.F.type_str_join mt_join ok_join sel_str (d_str (cs := [32]) (by rfl)) (a_cons (d_var 1) (a_nil))))
      (s_cons (s_par (i := 3) (j := 4) rfl sc_law_line.nd (by rfl) (by rfl) (by decide) (by rfl) (by rfl) (a_cons (d_callG A.c_law_take rfl takes_b hr (by rfl) (a_cons (d_var 0) (a_cons (d_int) (a_nil)))) (a_cons (d_callG A.c_law_take rfl takes_b hr (by rfl) (a_cons (d_var 0) (a_cons (d_add false (d_len1 (by rfl) T.n_len (d_var 2)) (d_int)) (a_nil)))) a_nil)) (by rfl))
      (s_cons (s_if (t_eq hr.units (d_var 3) (d_int))
      (s_one (s_ret (d_add false (d_add false (d_sl false (d_var 2) o_none (o_some (d_var 4))) (d_str (cs := [32]) (by rfl))) (d_sl false (d_var 2) (o_some (d_var 4)) o_none))))
      (s_nil))
      (s_cons (s_if (t_eq hr.units (d_var 3) (d_int))
      (s_one (s_ret (d_add false (d_add false (d_sl false (d_var 2) o_none (o_some (d_var 4))) (d_str (cs := [10]) (by rfl))) (d_sl false (d_var 2) (o_some (d_var 4)) o_none))))
      (s_nil))
      (s_cons (s_if (t_eq hr.units (d_var 3) (d_int))
      (s_one (s_ret (d_callG A.c_law_pick rfl takes_b hr (by rfl) (a_cons (d_var 0) (a_cons (d_lst false (a_cons (d_add false (d_str (cs := [32]) (by rfl)) (d_var 2)) (a_cons (d_add false (d_var 2) (d_str (cs := [32]) (by rfl))) (a_cons (d_str (cs := [32, 32]) (by rfl)) (a_cons (d_str (cs := [32]) (by rfl)) (a_cons (d_str (cs := [10]) (by rfl)) (a_cons (d_add false (d_var 2) (d_str (cs := [10]) (by rfl))) (a_nil)))))))) (a_nil))))))
      (s_nil))
      (s_one (s_ret (d_ifE (t_eq hr.units (d_var 3) (d_int)) (d_callG A.c_law_copy rfl takes_b hr (by rfl) (a_cons (d_callG A.c_law_pick rfl takes_b hr (by rfl) (a_cons (d_var 0) (a_cons (d_lst false (a_cons (d_non) (a_cons (d_int) (a_cons (d_bl) (a_cons (d_lst false (a_cons (d_str (cs := [97, 32, 98]) (by rfl)) (a_nil))) (a_cons (d_tup (a_cons (d_str (cs := [97]) (by rfl)) (a_nil))) (a_cons (d_dic0K false) (a_cons (d_lst false (a_nil)) (a_cons (d_pow (d_int) (d_int)) (a_nil)))))))))) (a_nil)))) (a_nil))) (d_var 2)))))))))
theorem ok_law_split {k : Nat} (T : Txt K mg cA) (A : AllOk P w K mg base cA k) : CalG P w K mg base cA (k + 1 + 2) "_law_split" s_law_split ["line", "named"] (mDef 1 (b_law_split (Fs k))) :=
  cal_mirror (N := ["line", "named", "e"]) T.d_law_split bt_law_split sc_law_split fun f cdv A' outer s H E hr =>
      s_one (s_try rfl rfl sc_law_split.nd rfl takes_b (fun W pn xe tk po => s_one (s_ret (d_lst false (a_cons (d_str (cs := [116, 111, 108, 100]) (by rfl)) (a_cons (d_ifE (t_val (d_var 1)) (d_callGK0 A.c_split_words kb_split_words_0_line rfl tk hr (by rfl) (k_cons (d_var 0) (k_nil))) (d_callG A.c_split_words rfl tk hr (by rfl) (a_cons (d_var 0) (a_nil)))) (a_nil))))))
      (ClsOk.cons (by rfl) (by rfl) ⟨by rfl, by decide, Or.inl T.g_InvalidLine⟩ (cat_1_ok T) (fun k hk a dx oe pn hz hv => by
        obtain rfl := cat_1_is hk
        exact s_one (s_ret (d_lst false (a_cons (d_str (cs := [108, 105, 110, 101]) (by rfl)) (a_cons (d_xfG (f := [118, 97, 108, 117, 101]) (exc_InvalidLine T (P := P) (w := w) (base := base)) hz hv (d_var 2)) (a_nil))))))
      (ClsOk.nil)))
theorem ok_law_lines_right {k : Nat} (T : Txt K mg cA) (A : AllOk P w K mg base cA k) : CalG P w K mg base cA (k + 1 + 2) "_law_lines_right" s_law_lines_right ["box", "named"] (mDef 3 (b_law_lines_right (Fs k))) :=
  cal_mirror (N := ["box", "named", "line", "due", "met"]) T.d_law_lines_right bt_law_lines_right sc_law_lines_right fun f cdv A' outer s H E hr =>
      s_cons (s_set sc_law_lines_right.nd (by rfl) (by first | exact .inl rfl | exact .inr (.inl rfl) | exact .inr rfl) (d_callG A.c_law_line rfl takes_b hr (by rfl) (a_cons (d_var 0) (a_nil))))
      (s_cons (s_set sc_law_lines_right.nd (by rfl) (by first | exact .inl rfl | exact .inr (.inl rfl) | exact .inr rfl) (d_callG A.c_law_words rfl takes_b hr (by rfl) (a_cons (d_var 2) (a_nil))))
      (s_cons (s_set sc_law_lines_right.nd (by rfl) (by first | exact .inl rfl | exact .inr (.inl rfl) | exact .inr rfl) (d_callG A.c_law_split rfl takes_b hr (by rfl) (a_cons (d_var 2) (a_cons (d_var 1) (a_nil)))))
      (s_cons (s_if (t_is (d_var 3) (d_non))
      (s_one (s_ret (d_and (d_eq hr.units (d_ix (Room.u1 hr) (d_var 4) (d_int) (by intro _ _; rfl)) (d_str (cs := [108, 105, 110, 101]) (by rfl))) (d_one (d_callG A.c_law_very rfl takes_b hr (by rfl) (a_cons (d_ix (Room.u1 hr) (d_var 4) (d_int) (by intro _ _; rfl)) (a_cons (d_var 2) (a_nil))))))))
      (s_nil))
      (s_cons (s_if (t_w (w_or (t_not (t_val (d_callG A.c_law_same rfl takes_b hr (by rfl) (a_cons (d_var 4) (a_cons (d_lst false (a_cons (d_str (cs := [116, 111, 108, 100]) (by rfl)) (a_cons (d_var 3) (a_nil)))) (a_nil)))))) (w_or1 (t_ne hr.units (d_mt PySem.F.plainAttrs_str PySem.F.slot_str_join PySem.F.type_str_join mt_join ok_join sel_str (d_str (cs := [32]) (by rfl)) (a_cons (d_ix (Room.u1 hr) (d_var 4) (d_int) (by intro _ _; rfl)) (a_nil))) (d_var 2)))))
      (s_one (s_ret (d_bl)))
      (s_nil))
      (s_cons (s_expr (d_mt PySem.F.plainAttrs_list PySem.F.slot_list_append PySem.F.type_list_append mt_append ok_append sel_lst (d_ix (Room.u1 hr) (d_var 4) (d_int) (by intro _ _; rfl)) (a_cons (d_str (cs := [109, 111, 114, 101]) (by rfl)) (a_nil))))
      (s_one (s_ret (d_callG A.c_law_same rfl takes_b hr (by rfl) (a_cons (d_callG A.c_law_split rfl takes_b hr (by rfl) (a_cons (d_var 2) (a_cons (d_not (d_var 1)) (a_nil)))) (a_cons (d_lst false (a_cons (d_str (cs := [116, 111, 108, 100]) (by rfl)) (a_cons (d_var 3) (a_nil)))) (a_nil)))))))))))
theorem ok_law {k : Nat} (T : Txt K mg cA) (A : AllOk P w K mg base cA k) : CalG P w K mg base cA (k + 1 + 2) "law" s_law ["script"] (mDef 6 (b_law (Fs k))) :=
  cal_mirror (N := ["script", "k", "box", "named", "turn", "value", "told"]) T.d_law bt_law sc_law fun f cdv A' outer s H E hr =>
      s_cons (s_for owns_b rfl (di_range1 (by rfl) T.n_range (a_cons (d_max2 rfl (by rfl) T.n_max (d_int) (d_min2 rfl (by rfl) T.n_min (d_int) (d_len1 (by rfl) T.n_len (d_var 0)))) (a_nil))) (g_name sc_law.nd (by rfl) (by first | exact .inl rfl | exact .inr (.inl rfl) | exact .inr rfl))
      (s_cons (s_set sc_law.nd (by rfl) (by first | exact .inl rfl | exact .inr (.inl rfl) | exact .inr rfl) (d_callG A.c_law_box rfl takes_b hr (by rfl) (a_cons (d_callG A.c_law_cell rfl takes_b hr (by rfl) (a_cons (d_var 0) (a_cons (d_var 1) (a_nil)))) (a_nil))))
      (s_cons (s_set sc_law.nd (by rfl) (by first | exact .inl rfl | exact .inr (.inl rfl) | exact .inr rfl) (d_eq hr.units (d_callG A.c_law_take rfl takes_b hr (by rfl) (a_cons (d_var 2) (a_cons (d_int) (a_nil)))) (d_int)))
      (s_one (s_for owns_b rfl (di_range1 (by rfl) T.n_range (a_cons (d_int) (a_nil))) (g_name sc_law.nd (by rfl) (by first | exact .inl rfl | exact .inr (.inl rfl) | exact .inr rfl))
      (s_cons (s_set sc_law.nd (by rfl) (by first | exact .inl rfl | exact .inr (.inl rfl) | exact .inr rfl) (d_callG A.c_law_any rfl takes_b hr (by rfl) (a_cons (d_var 2) (a_nil))))
      (s_cons (s_set sc_law.nd (by rfl) (by first | exact .inl rfl | exact .inr (.inl rfl) | exact .inr rfl) (d_lst false (a_cons (d_callG A.c_is_integer rfl takes_b hr (by rfl) (a_cons (d_var 5) (a_nil))) (a_cons (d_callGK0 A.c_is_letter kb_is_letter_0_value rfl takes_b hr (by rfl) (k_cons (d_var 5) (k_nil))) (a_cons (d_callG A.c_is_text rfl takes_b hr (by rfl) (a_cons (d_var 5) (a_nil))) (a_cons (d_callGK0 A.c_is_name kb_is_name_0_value rfl takes_b hr (by rfl) (k_cons (d_var 5) (k_nil))) (a_nil)))))))
      (s_cons (s_if (t_val (d_var 3))
      (s_one (s_set sc_law.nd (by rfl) (by first | exact .inl rfl | exact .inr (.inl rfl) | exact .inr rfl) (d_lst false (a_cons (d_callGK0 A.c_is_integer kb_is_integer_0_value rfl takes_b hr (by rfl) (k_cons (d_var 5) (k_nil))) (a_cons (d_callG A.c_is_letter rfl takes_b hr (by rfl) (a_cons (d_var 5) (a_nil))) (a_cons (d_callGK0 A.c_is_text kb_is_text_0_value rfl takes_b hr (by rfl) (k_cons (d_var 5) (k_nil))) (a_cons (d_callG A.c_is_name rfl takes_b hr (by rfl) (a_cons (d_var 5) (a_nil))) (a_nil))))))))
      (s_nil))
      (s_cons (s_if (t_w (w_or (t_not (t_val (d_callG A.c_law_same rfl takes_b hr (by rfl) (a_cons (d_var 6) (a_cons (d_callG A.c_law_kinds rfl takes_b hr (by rfl) (a_cons (d_var 5) (a_nil))) (a_nil)))))) (w_or (t_not (t_val (d_callG A.c_law_counts_right rfl takes_b hr (by rfl) (a_cons (d_var 2) (a_cons (d_var 3) (a_nil)))))) (w_or1 (t_not (t_val (d_callG A.c_law_lines_right rfl takes_b hr (by rfl) (a_cons (d_var 2) (a_cons (d_not (d_var 3)) (a_nil))))))))))
      (s_one (s_ret (d_bl)))
      (s_nil))
      (s_one (s_set sc_law.nd (by rfl) (by first | exact .inl rfl | exact .inr (.inl rfl) | exact .inr rfl) (d_not (d_var 3))))))))
      (s_nil)))))
      (s_nil))
      (s_one (s_ret (d_bl)))
theorem fs_zero : Fs 0 = ⟨fun _ _ => .fail, fun _ _ => .fail, fun _ _ => .fail, fun _ _ => .fail, fun _ _ => .fail, fun _ _ => .fail, fun _ _ => .fail, fun _ _ => .fail, fun _ _ => .fail, fun _ _ => .fail, fun _ _ => .fail, fun _ _ => .fail, fun _ _ => .fail, fun _ _ => .fail, fun _ _ => .fail, fun _ _ => .fail, fun _ _ => .fail, fun _ _ => .fail, fun _ _ => .fail, fun _ _ => .fail, fun _ _ => .fail, fun _ _ => .fail, fun _ _ => .fail, fun _ _ => .fail, fun _ _ => .fail, fun _ _ => .fail, fun _ _ => .fail, fun _ _ => .fail⟩ := rfl
theorem fs_succ (k : Nat) : Fs (k + 1) = stepF (Fs k) := rfl
theorem all_ok (T : Txt K mg cA) (k : Nat) : AllOk P w K mg base cA k := by
  induction k with
  | zero => exact ⟨cal_none T.d_is_integer bt_is_integer, cal_none T.d_is_text bt_is_text, cal_none T.d_is_letter bt_is_letter, cal_none T.d_is_name bt_is_name, cal_none T.d_check_limit bt_check_limit, cal_none T.d_digits_of bt_digits_of, calk_none T.d_parse_count, cal_none T.d_split_words bt_split_words, cal_none T.d_law_cell bt_law_cell, cal_none T.d_law_box bt_law_box, cal_none T.d_law_take bt_law_take, cal_none T.d_law_pick bt_law_pick, cal_none T.d_law_mixed bt_law_mixed, cal_none T.d_law_same bt_law_same, cal_none T.d_law_copy bt_law_copy, cal_none T.d_law_very bt_law_very, cal_none T.d_law_letters bt_law_letters, cal_none T.d_law_kinds bt_law_kinds, cal_none T.d_law_any bt_law_any, cal_none T.d_law_number bt_law_number, cal_none T.d_law_drawn bt_law_drawn, cal_none T.d_law_count bt_law_count, cal_none T.d_law_counts_right bt_law_counts_right, cal_none T.d_law_words bt_law_words, cal_none T.d_law_line bt_law_line, cal_none T.d_law_split bt_law_split, cal_none T.d_law_lines_right bt_law_lines_right, cal_none T.d_law bt_law⟩
  | succ k ih => exact ⟨ok_is_integer T ih, ok_is_text T ih, ok_is_letter T ih, ok_is_name T ih, ok_check_limit T ih, ok_digits_of T ih, ok_parse_count T ih, ok_split_words T ih, ok_law_cell T ih, ok_law_box T ih, ok_law_take T ih, ok_law_pick T ih, ok_law_mixed T ih, ok_law_same T ih, ok_law_copy T ih, ok_law_very T ih, ok_law_letters T ih, ok_law_kinds T ih, ok_law_any T ih, ok_law_number T ih, ok_law_drawn T ih, ok_law_count T ih, ok_law_counts_right T ih, ok_law_words T ih, ok_law_line T ih, ok_law_split T ih, ok_law_lines_right T ih, ok_law T ih⟩
end
end L2.G.La
set_option maxHeartbeats 0
/-! the head, the end -/
namespace L2.G.La
open PySem PySem.Spec PyProof.Rows L2
def dd_is_integer : He.DefD := ⟨("is_integer", none), "is_integer", "is_integer", defArgs s_is_integer, defBody s_is_integer, defScope s_is_integer, [], []⟩
def dd_is_text : He.DefD := ⟨("is_text", none), "is_text", "is_text", defArgs s_is_text, defBody s_is_text, defScope s_is_text, [], []⟩
def dd_is_letter : He.DefD := ⟨("is_letter", none), "is_letter", "is_letter", defArgs s_is_letter, defBody s_is_letter, defScope s_is_letter, [], []⟩
def dd_is_name : He.DefD := ⟨("is_name", none), "is_name", "is_name", defArgs s_is_name, defBody s_is_name, defScope s_is_name, [], []⟩
def dd_check_limit : He.DefD := ⟨("check_limit", none), "check_limit", "check_limit", defArgs s_check_limit, defBody s_check_limit, defScope s_check_limit, [], []⟩
def dd_digits_of : He.DefD := ⟨("digits_of", none), "digits_of", "digits_of", defArgs s_digits_of, defBody s_digits_of, defScope s_digits_of, [], []⟩
def dd_parse_count : He.DefD := ⟨("parse_count", none), "parse_count", "parse_count", defArgs s_parse_count, defBody s_parse_count, defScope s_parse_count, [], [("minimum", .int 0), ("maximum", .non)]⟩
def dd_split_words : He.DefD := ⟨("split_words", none), "split_words", "split_words", defArgs s_split_words, defBody s_split_words, defScope s_split_words, [], []⟩
def dd_law_cell : He.DefD := ⟨("_law_cell", none), "_law_cell", "_law_cell", defArgs s_law_cell, defBody s_law_cell, defScope s_law_cell, [], []⟩
def dd_law_box : He.DefD := ⟨("_law_box", none), "_law_box", "_law_box", defArgs s_law_box, defBody s_law_box, defScope s_law_box, [], []⟩
def dd_law_take : He.DefD := ⟨("_law_take", none), "_law_take", "_law_take", defArgs s_law_take, defBody s_law_take, defScope s_law_take, [], []⟩
def dd_law_pick : He.DefD := ⟨("_law_pick", none), "_law_pick", "_law_pick", defArgs s_law_pick, defBody s_law_pick, defScope s_law_pick, [], []⟩
def dd_law_mixed : He.DefD := ⟨("_law_mixed", none), "_law_mixed", "_law_mixed", defArgs s_law_mixed, defBody s_law_mixed, defScope s_law_mixed, [], []⟩
def dd_law_same : He.DefD := ⟨("_law_same", none), "_law_same", "_law_same", defArgs s_law_same, defBody s_law_same, defScope s_law_same, [], []⟩
def dd_law_copy : He.DefD := ⟨("_law_copy", none), "_law_copy", "_law_copy", defArgs s_law_copy, defBody s_law_copy, defScope s_law_copy, [], []⟩
def dd_law_very : He.DefD := ⟨("_law_very", none), "_law_very", "_law_very", defArgs s_law_very, defBody s_law_very, defScope s_law_very, [], []⟩
def dd_law_letters : He.DefD := ⟨("_law_letters", none), "_law_letters", "_law_letters", defArgs s_law_letters, defBody s_law_letters, defScope s_law_letters, [], []⟩
def dd_law_kinds : He.DefD := ⟨("_law_kinds", none), "_law_kinds", "_law_kinds", defArgs s_law_kinds, defBody s_law_kinds, defScope s_law_kinds, [], []⟩
def dd_law_any : He.DefD := ⟨("_law_any", none), "_law_any", "_law_any", defArgs s_law_any, defBody s_law_any, defScope s_law_any, [], []⟩
def dd_law_number : He.DefD := ⟨("_law_number", none), "_law_number", "_law_number", defArgs s_law_number, defBody s_law_number, defScope s_law_number, [], []⟩
def dd_law_drawn : He.DefD := ⟨("_law_drawn", none), "_law_drawn", "_law_drawn", defArgs s_law_drawn, defBody s_law_drawn, defScope s_law_drawn, [], []⟩
def dd_law_count : He.DefD := ⟨("_law_count", none), "_law_count", "_law_count", defArgs s_law_count, defBody s_law_count, defScope s_law_count, [], []⟩
def dd_law_counts_right : He.DefD := ⟨("_law_counts_right", none), "_law_counts_right", "_law_counts_right", defArgs s_law_counts_right, defBody s_law_counts_right, defScope s_law_counts_right, [], []⟩
def dd_law_words : He.DefD := ⟨("_law_words", none), "_law_words", "_law_words", defArgs s_law_words, defBody s_law_words, defScope s_law_words, [], []⟩
def dd_law_line : He.DefD := ⟨("_law_line", none), "_law_line", "_law_line", defArgs s_law_line, defBody s_law_line, defScope s_law_line, [], []⟩
def dd_law_split : He.DefD := ⟨("_law_split", none), "_law_split", "_law_split", defArgs s_law_split, defBody s_law_split, defScope s_law_split, [], []⟩
def dd_law_lines_right : He.DefD := ⟨("_law_lines_right", none), "_law_lines_right", "_law_lines_right", defArgs s_law_lines_right, defBody s_law_lines_right, defScope s_law_lines_right, [], []⟩
def dd_law : He.DefD := ⟨("law", none), "law", "law", defArgs s_law, defBody s_law, defScope s_law, [], []⟩
def di_InvalidInteger : He.DefD := ⟨("InvalidInteger", some "__init__"), "__init__", "InvalidInteger.__init__", defArgs si_InvalidInteger, defBody si_InvalidInteger, defScope si_InvalidInteger, [], []⟩
def di_InvalidLine : He.DefD := ⟨("InvalidLine", some "__init__"), "__init__", "InvalidLine.__init__", defArgs si_InvalidLine, defBody si_InvalidLine, defScope si_InvalidLine, [], []⟩
def fn : List He.DefD := [dd_is_integer, dd_is_text, dd_is_letter, dd_is_name, dd_check_limit, dd_digits_of, dd_parse_count, dd_split_words, dd_law_cell, dd_law_box, dd_law_take, dd_law_pick, dd_law_mixed, dd_law_same, dd_law_copy, dd_law_very, dd_law_letters, dd_law_kinds, dd_law_any, dd_law_number, dd_law_drawn, dd_law_count, dd_law_counts_right, dd_law_words, dd_law_line, dd_law_split, dd_law_lines_right, dd_law, di_InvalidInteger, di_InvalidLine]
def fa : List He.Fa := [.glo "is_integer", .glo "is_text", .glo "is_letter", .glo "is_name", .glo "check_limit", .glo "digits_of", .glo "parse_count", .glo "split_words", .glo "_law_cell", .glo "_law_box", .glo "_law_take", .glo "_law_pick", .glo "_law_mixed", .glo "_law_same", .glo "_law_copy", .glo "_law_very", .glo "_law_letters", .glo "_law_kinds", .glo "_law_any", .glo "_law_number", .glo "_law_drawn", .glo "_law_count", .glo "_law_counts_right", .glo "_law_words", .glo "_law_line", .glo "_law_split", .glo "_law_lines_right", .glo "law", .glo "InvalidInteger", .glo "InvalidLine", .glo "FormatError", .free "abs", .free "all", .free "bool", .free "dict", .free "int", .free "isinstance", .free "len", .free "list", .free "max", .free "min", .free "range", .free "str", .free "sum", .free "tuple", .str "LETTERS" (tx [97, 98, 99, 100, 101, 102, 103, 104, 105, 106, 107, 108, 109, 110, 111, 112, 113, 114, 115, 116, 117, 118, 119, 120, 121, 122]), .str "DIGITS" (tx [48, 49, 50, 51, 52, 53, 54, 55, 56, 57]), .int "MAX_DIGITS" 30, .int "MAX_NAME" 8, .exm "InvalidInteger" "InvalidInteger" true, .exm "InvalidLine" "InvalidInteger" false, .exm "InvalidInteger" "InvalidLine" false, .exm "InvalidLine" "InvalidLine" true]
def ex (K : PySem.W.Frag) : Bool := excB K "InvalidInteger" "FormatError" (tx [118, 97, 108, 117, 101]) && (excB K "InvalidLine" "FormatError" (tx [118, 97, 108, 117, 101]) && (true))
def cA_ (K : PySem.W.Frag) : Nat → Addr
  | 0 => He.ga K "InvalidInteger"
  | 1 => He.ga K "InvalidLine"
  | _ => 0
abbrev R : PySem.W.OpenRow := PySem.W.OpenLaw.row PySem.Challenge.rw_streamrepair_k01_counts_lines_and_words
abbrev hk : PySem.W.Hook := hookY 5 fa fn ex
def ob (s : PySem.W.SharedT) : AlY := obsY 5 fa fn ex (HandSHeadRun.getT s)
theorem ob_eq (s : PySem.W.SharedT) : ob s = hk.obs s.abs := obsY_eq (HandSHeadRun.getT_eq s)
def nm0 : List PySem.Str := ["FormatError", "InvalidInteger", "InvalidLine", "is_integer", "is_text", "is_letter", "is_name", "check_limit", "digits_of", "parse_count", "split_words", "_law_cell"]
def nm1 : List PySem.Str := ["_law_box", "_law_take", "_law_pick", "_law_mixed", "_law_same", "_law_copy", "_law_very", "_law_letters", "_law_kinds", "_law_any", "_law_number", "_law_drawn"]
def nm2 : List PySem.Str := ["_law_count", "_law_counts_right", "_law_words", "_law_line", "_law_split", "_law_lines_right", "DIGITS", "LETTERS", "MAX_DIGITS", "MAX_NAME"]
def nms : List PySem.Str := nm0 ++ nm1 ++ nm2
theorem run (w : World) : HandSHeadRun.RunEq R (PySem.W.view R.prog [37]) hk ob 20000 nms w := by
  intro os
  kernel_rfl
theorem txt_of {K : PySem.W.Frag} {h : Heap} {mg : Str → Option Value} (X : K.In h) (G : h.Ns mainGlobals mg) (s : SaysY fa fn ex K) : Txt K mg (cA_ K) := by
  have c := s.d
  have e := s.more
  obtain ⟨e0, e⟩ := He.ba e
  obtain ⟨e1, e⟩ := He.ba e
  exact ⟨std_of X G (c.fact 0 (f := .glo "is_integer") rfl) (c.def_ 0 (d := dd_is_integer) rfl),
    std_of X G (c.fact 1 (f := .glo "is_text") rfl) (c.def_ 1 (d := dd_is_text) rfl),
    std_of X G (c.fact 2 (f := .glo "is_letter") rfl) (c.def_ 2 (d := dd_is_letter) rfl),
    std_of X G (c.fact 3 (f := .glo "is_name") rfl) (c.def_ 3 (d := dd_is_name) rfl),
    std_of X G (c.fact 4 (f := .glo "check_limit") rfl) (c.def_ 4 (d := dd_check_limit) rfl),
    std_of X G (c.fact 5 (f := .glo "digits_of") rfl) (c.def_ 5 (d := dd_digits_of) rfl),
    stdk_of X G (c.fact 6 (f := .glo "parse_count") rfl) (c.def_ 6 (d := dd_parse_count) rfl),
    std_of X G (c.fact 7 (f := .glo "split_words") rfl) (c.def_ 7 (d := dd_split_words) rfl),
    std_of X G (c.fact 8 (f := .glo "_law_cell") rfl) (c.def_ 8 (d := dd_law_cell) rfl),
    std_of X G (c.fact 9 (f := .glo "_law_box") rfl) (c.def_ 9 (d := dd_law_box) rfl),
    std_of X G (c.fact 10 (f := .glo "_law_take") rfl) (c.def_ 10 (d := dd_law_take) rfl),
    std_of X G (c.fact 11 (f := .glo "_law_pick") rfl) (c.def_ 11 (d := dd_law_pick) rfl),
    std_of X G (c.fact 12 (f := .glo "_law_mixed") rfl) (c.def_ 12 (d := dd_law_mixed) rfl),
    std_of X G (c.fact 13 (f := .glo "_law_same") rfl) (c.def_ 13 (d := dd_law_same) rfl),
    std_of X G (c.fact 14 (f := .glo "_law_copy") rfl) (c.def_ 14 (d := dd_law_copy) rfl),
    std_of X G (c.fact 15 (f := .glo "_law_very") rfl) (c.def_ 15 (d := dd_law_very) rfl),
    std_of X G (c.fact 16 (f := .glo "_law_letters") rfl) (c.def_ 16 (d := dd_law_letters) rfl),
    std_of X G (c.fact 17 (f := .glo "_law_kinds") rfl) (c.def_ 17 (d := dd_law_kinds) rfl),
    std_of X G (c.fact 18 (f := .glo "_law_any") rfl) (c.def_ 18 (d := dd_law_any) rfl),
    std_of X G (c.fact 19 (f := .glo "_law_number") rfl) (c.def_ 19 (d := dd_law_number) rfl),
    std_of X G (c.fact 20 (f := .glo "_law_drawn") rfl) (c.def_ 20 (d := dd_law_drawn) rfl),
    std_of X G (c.fact 21 (f := .glo "_law_count") rfl) (c.def_ 21 (d := dd_law_count) rfl),
    std_of X G (c.fact 22 (f := .glo "_law_counts_right") rfl) (c.def_ 22 (d := dd_law_counts_right) rfl),
    std_of X G (c.fact 23 (f := .glo "_law_words") rfl) (c.def_ 23 (d := dd_law_words) rfl),
    std_of X G (c.fact 24 (f := .glo "_law_line") rfl) (c.def_ 24 (d := dd_law_line) rfl),
    std_of X G (c.fact 25 (f := .glo "_law_split") rfl) (c.def_ 25 (d := dd_law_split) rfl),
    std_of X G (c.fact 26 (f := .glo "_law_lines_right") rfl) (c.def_ 26 (d := dd_law_lines_right) rfl),
    std_of X G (c.fact 27 (f := .glo "law") rfl) (c.def_ 27 (d := dd_law) rfl),
    He.free_ok X G (c.fact 31 (f := .free "abs") rfl),
    He.free_ok X G (c.fact 32 (f := .free "all") rfl),
    He.free_ok X G (c.fact 33 (f := .free "bool") rfl),
    He.free_ok X G (c.fact 34 (f := .free "dict") rfl),
    He.free_ok X G (c.fact 35 (f := .free "int") rfl),
    He.free_ok X G (c.fact 36 (f := .free "isinstance") rfl),
    He.free_ok X G (c.fact 37 (f := .free "len") rfl),
    He.free_ok X G (c.fact 38 (f := .free "list") rfl),
    He.free_ok X G (c.fact 39 (f := .free "max") rfl),
    He.free_ok X G (c.fact 40 (f := .free "min") rfl),
    He.free_ok X G (c.fact 41 (f := .free "range") rfl),
    He.free_ok X G (c.fact 42 (f := .free "str") rfl),
    He.free_ok X G (c.fact 43 (f := .free "sum") rfl),
    He.free_ok X G (c.fact 44 (f := .free "tuple") rfl),
    He.str_ok X G (c.fact 45 (f := .str "LETTERS" (tx [97, 98, 99, 100, 101, 102, 103, 104, 105, 106, 107, 108, 109, 110, 111, 112, 113, 114, 115, 116, 117, 118, 119, 120, 121, 122])) rfl),
    He.str_ok X G (c.fact 46 (f := .str "DIGITS" (tx [48, 49, 50, 51, 52, 53, 54, 55, 56, 57])) rfl),
    He.int_ok X G (c.fact 47 (f := .int "MAX_DIGITS" 30) rfl),
    He.int_ok X G (c.fact 48 (f := .int "MAX_NAME" 8) rfl),
    He.glo_ok X G (c.fact 28 (f := .glo "InvalidInteger") rfl),
    excS_of (fa := fa) (fn := fn) X G (c.fact 30 (f := .glo "FormatError") rfl) e0 (c.def_ 28 (d := di_InvalidInteger) rfl),
    He.glo_ok X G (c.fact 29 (f := .glo "InvalidLine") rfl),
    excS_of (fa := fa) (fn := fn) X G (c.fact 30 (f := .glo "FormatError") rfl) e1 (c.def_ 29 (d := di_InvalidLine) rfl),
    fun j hj => match j, hj with | 0, _ => He.exm_ok (c.fact 49 (f := .exm "InvalidInteger" "InvalidInteger" true) rfl) | 1, _ => He.exm_ok (c.fact 50 (f := .exm "InvalidLine" "InvalidInteger" false) rfl),
    fun j hj => match j, hj with | 0, _ => He.exm_ok (c.fact 51 (f := .exm "InvalidInteger" "InvalidLine" false) rfl) | 1, _ => He.exm_ok (c.fact 52 (f := .exm "InvalidLine" "InvalidLine" true) rfl)⟩
end L2.G.La
open PySem PySem.W PySem.Calls PyProof.Rows
set_option maxRecDepth 100000 in
set_option maxHeartbeats 0 in
theorem PySem.Challenge.cw_streamrepair_k01_counts_lines_and_words_holds : PySem.Challenge.rw_streamrepair_k01_counts_lines_and_words.Holds := by
  w_on; o_law
  refine HandSHeadRun.head_any (r := OpenLaw.row PySem.Challenge.rw_streamrepair_k01_counts_lines_and_words) (q := view (OpenLaw.row PySem.Challenge.rw_streamrepair_k01_counts_lines_and_words).prog [37]) (H := L2.G.La.hk) (ob := L2.G.La.ob) (M := 20000) (loose := L2.G.La.nms) (d := HandSHeadRun.topDef (OpenLaw.row PySem.Challenge.rw_streamrepair_k01_counts_lines_and_words).prog 37) (kwd := []) L2.G.La.ob_eq
    (by kernel_rfl) (fun s => by kernel_rfl) L2.G.La.run (by kernel_rfl) (by kernel_rfl) (by kernel_rfl) (by rfl) (by first | assumption | decide +kernel) (by decide +kernel) ⟨rfl, rfl, rfl, rfl, rfl, by decide +kernel⟩ ?hw ?hc
  case hw => w_witness2
  case hc =>
    refine L2.G.walk_ofW (lw := PySem.Challenge.rw_streamrepair_k01_counts_lines_and_words) (most := 63) (lev := 100 + 2) (par := "script") (CW := fun wd => L2.CX (PySem.Challenge.rw_streamrepair_k01_counts_lines_and_words).prog wd) rfl (by decide) (by kernel_rfl) ⟨rfl, by decide, by decide⟩ ?F ?X
    case X => exact fun wd H st v st' ⟨a, B, H', cls, d, _, _, _, _, _, _, _, e⟩ => e
    case F =>
      intro wd m f hp Y G hm0
      obtain ⟨K, kIn, c⟩ := Y
      have hm : m ("law" : PySem.Str) = some (.ref f) := by
        have e : (HandSHeadRun.topDef (OpenLaw.row PySem.Challenge.rw_streamrepair_k01_counts_lines_and_words).prog 37).name = ("law" : PySem.Str) := by kernel_rfl
        rw [← e]
        exact hm0
      have T := L2.G.La.txt_of kIn G c
      exact L2.G.law_end kIn hm T.d_law L2.G.La.bt_law (fun bs => (L2.G.La.all_ok (P := (PySem.Challenge.rw_streamrepair_k01_counts_lines_and_words).prog) (w := wd) (base := bs) T 100).c_law) fun ns => L2.G.La.law_wp (by omega)
