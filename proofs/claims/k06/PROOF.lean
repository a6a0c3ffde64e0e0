import PyProof.Rows.All
import HandS.HotCalls
import HandS.Iter
import Wide.All
import OpenK.AllK
import Wide.FinOn
import HandS.ForMost
import HandS.ForExc
import HandS.Defaults
import KE.DataEq
import KE.SortData
import HandS.Evl
import HandS.TupAny
import HandS.IsInst
import HandS.StrMore
import HandS.Strs
import HandS.Zip
import HandS.Rev
import HandS.Conv
import HandS.Flt
import HandS.More
import KE.KDictKeyed
import KE.KDictCopyH
import KE.DataCmp
import HandS.Codes
import HandS.ReplaceList
import HandS.ReplaceLit
import HandS.RaiseMore
import PyProof.ReprRoads
import PyProof.StrLawsRepr
import KE.DataFind
import HandS.Text
import HandS.TupSets
import HandS.Style
import HandS.RevRange
import KE.GoesComp
import KE.GoesRaise
import KE.KAsSuite
import HandS.Comp
import HandS.Exc
import HandS.ExcOwn
import HandS.SuiteRaise
import HandS.ExcIs
import HandS.TryMany
import HandS.TryOnly
import KE.KStateDown
import HandS.Words
import HandS.WordsExc
import HandS.Head0
import HandS.Head1
import HandS.Head2
import HandS.HeadEnd
import HandS.HeadHook1
import HandS.HeadHook2
import KE.KNest
import PySem.Challenge.RW_boxproof_k06_what_is_read
set_option Elab.async false
set_option linter.all false
set_option maxRecDepth 100000
set_option maxHeartbeats 4000000
/-! A text walked by a for where an exception is handled. -/
namespace EvHt
open PySem PySem.Spec PyProof.Rows L2 HotX L2H
section
variable {prog : Program} {w : World} {A : Around} {E : Value → Shared → Prop} {s : Shared}
theorem pyNext_ascii_end_hot {it x1 : Addr} {x : Str} {t : Tok} {i : Nat} {Q : Option Value → Shared → Prop} (hot : HotAt A x1 s.heap) (hne : x1 ≠ it) (hit : s.heap.IsStrIter it "str_ascii_iterator" x t i) (hx : x.cps[i]? = none)
    (hQ : ∀ h', Heap.ExtBut it s.heap h' → Q none { s with heap := h' }) : wpAny (model prog w) A (pyNext (.ref it)) Q E s := by
  obtain ⟨o, ho, hc, hd⟩ := id hit
  obtain ⟨hh, o1, vs1, h1, d1, c1⟩ := hot
  unfold pyNext
  refine wpAny_bind (wpAny_attempt (wpAny_callSpecial?_slot (name := Str.ofString "__next__") hit.typeIs F.slot_str_ascii_iterator_next
    (wpAny_call_entry F.slot_str_ascii_iterator_next hit.typeIs F.entry_str_ascii_iterator_next ?_ (F.args_str_ascii_iterator_next_1 _))))
  show wpAny _ _ (field (.ref it) 0 >>= _) _ _ s
  refine wpAny_bind (wpAny_field ho hd (x := .str x t) rfl ?_)
  show wpAny _ _ (field (.ref it) 1 >>= _) _ _ s
  refine wpAny_bind (wpAny_field ho hd (x := .int i 0) rfl ?_)
  simp only [Int.toNat_natCast, hx]
  refine wpAny_bind (wpAny_rule (wpAny_bind (wpAny_setField ho hd (by simp) (wpAny_bind (wpAny_letGo ?_)))))
  show wpAny _ _ (newExc (.type "StopIteration") [] >>= _) _ _ _
  refine wpAny_bind ?_
  simp only [newExc, newTuple]
  refine wpAny_bind (wpAny_newObj_type ?_ (by size_fits))
  refine wpAny_bind (m := firstArgMember _ _) (wpAny_of_eq (a := Value.none) (by first | rfl | (simp only [firstArgMember]; rfl)) ?_)
  refine wpAny_newObj_type ?_ (by size_fits)
  have h1' := (Heap.SameBut.update s.heap it (Obj.mapFields (·.setIfInBounds 0 .none))).2 x1 hne
  refine raiseNew_hot ⟨hh, o1, vs1, Heap.get?_push_of_some _ (Heap.get?_push_of_some _ (h1'.trans h1)), d1, c1⟩ (Nat.ne_of_lt (Heap.lt_size (Heap.get?_push_of_some _ (h1'.trans h1)))) (Heap.get?_push_size _ rfl) rfl (by first | (simp; done) | (simp; omega) | (simp only [Array.size_append]; simp; omega)) ?_
  refine wpAny_bind (wpAny_isInstance (T := "StopIteration") (b := true) ⟨_, Heap.get?_update_self _ (Heap.get?_push_size _ rfl) rfl, rfl⟩ isSubtype_stop ?_)
  refine wpAny_pure (hQ _ fun b o2 hb e => ?_)
  have e2 := ((Heap.SameBut.update s.heap it (Obj.mapFields (·.setIfInBounds 0 .none))).2 b hb).trans e
  rw [Heap.get?_update_other _ _ (Nat.ne_of_gt (Heap.lt_size (Heap.get?_push_of_some _ e2)))]
  exact Heap.get?_push_of_some _ (Heap.get?_push_of_some _ e2)
theorem pyNext_wide_end_hot {it x1 : Addr} {x : Str} {t : Tok} {i : Nat} {Q : Option Value → Shared → Prop} (hot : HotAt A x1 s.heap) (hne : x1 ≠ it) (hit : s.heap.IsStrIter it "str_iterator" x t i) (hx : x.cps[i]? = none)
    (hQ : ∀ h', Heap.ExtBut it s.heap h' → Q none { s with heap := h' }) : wpAny (model prog w) A (pyNext (.ref it)) Q E s := by
  obtain ⟨o, ho, hc, hd⟩ := id hit
  obtain ⟨hh, o1, vs1, h1, d1, c1⟩ := hot
  unfold pyNext
  refine wpAny_bind (wpAny_attempt (wpAny_callSpecial?_slot (name := Str.ofString "__next__") hit.typeIs F.slot_str_iterator_next
    (wpAny_call_entry F.slot_str_iterator_next hit.typeIs F.entry_str_iterator_next ?_ (F.args_str_iterator_next_1 _))))
  show wpAny _ _ (field (.ref it) 0 >>= _) _ _ s
  refine wpAny_bind (wpAny_field ho hd (x := .str x t) rfl ?_)
  show wpAny _ _ (field (.ref it) 1 >>= _) _ _ s
  refine wpAny_bind (wpAny_field ho hd (x := .int i 0) rfl ?_)
  simp only [Int.toNat_natCast, hx]
  refine wpAny_bind (wpAny_rule (wpAny_bind (wpAny_setField ho hd (by simp) (wpAny_bind (wpAny_letGo ?_)))))
  show wpAny _ _ (newExc (.type "StopIteration") [] >>= _) _ _ _
  refine wpAny_bind ?_
  simp only [newExc, newTuple]
  refine wpAny_bind (wpAny_newObj_type ?_ (by size_fits))
  refine wpAny_bind (m := firstArgMember _ _) (wpAny_of_eq (a := Value.none) (by first | rfl | (simp only [firstArgMember]; rfl)) ?_)
  refine wpAny_newObj_type ?_ (by size_fits)
  have h1' := (Heap.SameBut.update s.heap it (Obj.mapFields (·.setIfInBounds 0 .none))).2 x1 hne
  refine raiseNew_hot ⟨hh, o1, vs1, Heap.get?_push_of_some _ (Heap.get?_push_of_some _ (h1'.trans h1)), d1, c1⟩ (Nat.ne_of_lt (Heap.lt_size (Heap.get?_push_of_some _ (h1'.trans h1)))) (Heap.get?_push_size _ rfl) rfl (by first | (simp; done) | (simp; omega) | (simp only [Array.size_append]; simp; omega)) ?_
  refine wpAny_bind (wpAny_isInstance (T := "StopIteration") (b := true) ⟨_, Heap.get?_update_self _ (Heap.get?_push_size _ rfl) rfl, rfl⟩ isSubtype_stop ?_)
  refine wpAny_pure (hQ _ fun b o2 hb e => ?_)
  have e2 := ((Heap.SameBut.update s.heap it (Obj.mapFields (·.setIfInBounds 0 .none))).2 b hb).trans e
  rw [Heap.get?_update_other _ _ (Nat.ne_of_gt (Heap.lt_size (Heap.get?_push_of_some _ e2)))]
  exact Heap.get?_push_of_some _ (Heap.get?_push_of_some _ e2)
end
theorem next_item {prog : Program} {w : World} {A : Around} {it : Addr} {ty : String} (hty : ty = "str_ascii_iterator" ∨ ty = "str_iterator") {x : Str} {t : Tok} {i c : Nat} {Q : Option Value → Shared → Prop} {E : Value → Shared → Prop} {s : Shared} (hit : s.heap.IsStrIter it ty x t i) (hx : x.cps[i]? = some c)
    (hQ : ∀ h', h'.IsStrIter it ty x t (i + 1) → Heap.SameBut it s.heap h' → Q (some (.str ⟨#[c]⟩ s.toks)) { s with heap := h', toks := s.toks + 1 }) : wpAny (model prog w) A (pyNext (.ref it)) Q E s := by
  rcases hty with rfl | rfl
  · exact wpAny_pyNext_ascii_item hit hx hQ
  · exact wpAny_pyNext_wide_item hit hx hQ
theorem turn_strH {P : Program} {w : World} {K : PySem.W.Frag} {tg : Expr} (it : Addr) (x : Str) (t : Tok) (ty : String) (hty : ty = "str_ascii_iterator" ∨ ty = "str_iterator") :
    TurnH P w K tg (Its x) [it] it (fun i h => h.IsStrIter it ty x t i) where
  mem := by simp
  obj := fun i h st b hb => by
    have e : b = it := by simpa using hb
    subst e
    obtain ⟨o, e, c, d⟩ := st
    exact ⟨o, e, fun v z => by rw [d] at z; cases z⟩
  keep := fun i h h' st k => let ⟨o, ho, r⟩ := st; ⟨o, k it (by simp) o ho, r⟩
  item := by
    intro X hP hw hK hc i pins s σ H E I hf st hg
    subst hP hw hK
    obtain ⟨f0, f1, f2, f3, f4, f5⟩ := hf it (by simp)
    have hno : ["enumerate", "zip", "dict_itemiterator", "dict_reverseitemiterator", "odict_iterator", "itertools.zip_longest", "itertools.pairwise"].contains ty = false := by
      rcases hty with e | e
      · rw [e]; decide
      · rw [e]; decide
    have hlt : i < x.cps.size := hg
    have hcx : x.cps[i]? = some x.cps[i] := by simp [hlt]
    refine next_item hty st hcx fun h' st' sb => ?_
    have I1 : Inv X pins σ H { s with heap := h', toks := s.toks + 1 } := I.turned (fun b o hb e => (sb.2 b hb).trans e) f0 f1 f3 f4 f5
    obtain ⟨oi, e, cc, dd⟩ := id st'
    exact ⟨_, rfl, go_of (s := { s with heap := h', toks := s.toks + 1 }) e cc dd hno ⟨.str ⟨#[x.cps[i]]⟩, H, I1, ⟨_, rfl⟩, ⟨rfl, _, hcx, rfl⟩, st', fun b hb => (hf b hb).1⟩⟩
  done := by
    intro X hP hw hK hc i pins s σ H E I hf st hg
    subst hP hw hK
    obtain ⟨f0, f1, f2, f3, f4, f5⟩ := hf it (by simp)
    have hx : x.cps[i]? = none := Array.getElem?_eq_none hg
    obtain ⟨p, ⟨hh, v1, e1, c1⟩, hp⟩ := hc
    have P1 := I.pin p (List.mem_append_left _ hp)
    have hot : HotAt X.A p.1 s.heap := ⟨hh, p.2, v1, P1.1, e1, c1⟩
    have hne : p.1 ≠ it := fun z => by
      obtain ⟨o, ho, hcc, hd⟩ := id st
      rw [← z, P1.1] at ho
      cases ho
      exact f5 p (List.mem_append_left _ hp) z
    rcases hty with e | e
    · rw [e] at st
      exact pyNext_ascii_end_hot hot hne st hx fun h' eb => ⟨rfl, I.turned (t' := s.toks) (fun b o hb e => eb b o hb e) f0 f1 f3 f4 f5⟩
    · rw [e] at st
      exact pyNext_wide_end_hot hot hne st hx fun h' eb => ⟨rfl, I.turned (t' := s.toks) (fun b o hb e => eb b o hb e) f0 f1 f3 f4 f5⟩
  self := fun A i s Q E st h => by
    rcases hty with e | e
    · rw [e] at st; exact wpAny_pyIter_striter_ascii st h
    · rw [e] at st; exact wpAny_pyIter_striter_wide st h
theorem pi_oneH {X : Cx} {tg : Expr} {pins : List (Addr × Obj)} {σ : L2.St} {H : Hp} {s : Shared} {R : L2.It → Hp → Prop} {J : L2.It} {tn : Nat → Heap → Prop} {tk : Nat} (I : Inv X pins σ H s) (o : Obj)
    (T : TurnH X.prog X.w X.K tg J [s.heap.objs.size] s.heap.objs.size tn) (st : tn 0 (s.heap.push o)) (q : R J H) : PIEH X pins σ tg R (.ref s.heap.objs.size) { s with heap := s.heap.push o, toks := tk } := by
  refine ⟨s.heap.objs.size, [s.heap.objs.size], tn, J, H, rfl, I.kept fun b ob e => Heap.get?_push_of_some _ e, T, st, fun b hb => ?_, q⟩
  have e : b = s.heap.objs.size := by simpa using hb
  subst e
  exact I.fpOk (Nat.le_refl _) (I.hok.fresh (Nat.le_refl _))
theorem pi_strH {X : Cx} {tg e : Expr} {te : TE} (he : PE X e te) : PIH X tg e (iStr te) := by
  refine ⟨fun pins s σ H R I h => ?_⟩
  refine thn (he.run pins s σ H _ I h) fun v s1 ⟨y, H1, I1, r1, x, ex, q⟩ => ?_
  subst ex
  obtain ⟨t, rfl⟩ := r1
  cases ha : x.cps.all (· < 128)
  · exact wpAny_pyIter_wide ha (pi_oneH (tk := s1.toks) I1 _ (turn_strH _ x t "str_iterator" (.inr rfl)) ⟨_, Heap.get?_push_size _ rfl, rfl, rfl⟩ q)
  · exact wpAny_pyIter_ascii ha (pi_oneH (tk := s1.toks) I1 _ (turn_strH _ x t "str_ascii_iterator" (.inl rfl)) ⟨_, Heap.get?_push_size _ rfl, rfl, rfl⟩ q)
end EvHt

/-! The evaluator over plain data. -/
namespace Ev
open PySem

/-- plain data -/
inductive D where
  | non | bl (b : Bool) | int (i : Int) | str (s : List Nat) | tup (xs : List D) | lst (xs : List D)
deriving Inhabited

mutual
/-- == as Python has it -/
def D.eqv : D → D → Bool
  | .non, .non => true
  | .bl a, .bl b => a == b
  | .bl a, .int j => (if a then 1 else 0) == j
  | .int i, .bl b => i == (if b then 1 else 0)
  | .int i, .int j => i == j
  | .str x, .str y => x == y
  | .lst xs, .lst ys => D.eqvL xs ys
  | .tup xs, .tup ys => D.eqvL xs ys
  | .non, .bl _ | .non, .int _ | .non, .str _ | .non, .lst _ | .non, .tup _ => false
  | .bl _, .non | .bl _, .str _ | .bl _, .lst _ | .bl _, .tup _ => false
  | .int _, .non | .int _, .str _ | .int _, .lst _ | .int _, .tup _ => false
  | .str _, .non | .str _, .bl _ | .str _, .int _ | .str _, .lst _ | .str _, .tup _ => false
  | .lst _, .non | .lst _, .bl _ | .lst _, .int _ | .lst _, .str _ | .lst _, .tup _ => false
  | .tup _, .non | .tup _, .bl _ | .tup _, .int _ | .tup _, .str _ | .tup _, .lst _ => false
def D.eqvL : List D → List D → Bool
  | [], [] => true
  | x :: xs, y :: ys => D.eqv x y && D.eqvL xs ys
  | [], _ :: _ => false
  | _ :: _, [] => false
end
mutual
def D.depth : D → Nat
  | .tup xs => D.depthL xs + 1
  | .lst xs => D.depthL xs + 1
  | _ => 1
def D.depthL : List D → Nat
  | [] => 0
  | x :: xs => max (D.depth x) (D.depthL xs)
end

def T (s : List Nat) : Str := ⟨s.toArray⟩
/-! ### data for == -/
mutual
def D.py : D → PyData
  | .non => .none
  | .bl b => .bool b
  | .int i => .int i
  | .str s => .str (T s)
  | .tup xs => .tuple (D.pyL xs)
  | .lst xs => .list (D.pyL xs)
def D.pyL : List D → List PyData
  | [] => []
  | x :: xs => D.py x :: D.pyL xs
end
def insU (x : List Nat) : List (List Nat) → List (List Nat)
  | [] => [x]
  | y :: r => if x = y then y :: r else if x < y then x :: y :: r else y :: insU x r
/-- each once, rising -/
def sortU (l : List (List Nat)) : List (List Nat) := l.foldr insU []
def isNonD : D → Bool
  | .non => true
  | _ => false
/-- sorted can be asked of these -/
def isTupNE : D → Bool
  | .tup (_ :: _) => true
  | _ => false
def notTN : D → Bool
  | .non => false
  | .tup _ => false
  | _ => true
def sortOk (xs : List D) : Bool := (xs.all fun a => xs.all fun b => PySem.W.alike a.py b.py) && (xs.all isTupNE || xs.all notTN) && xs.all fun a => decide (a.depth ≤ 100)
def leD : D → D → Bool := PySem.W.dataLe false D.py
def isSeqD : D → Bool
  | .lst _ | .tup _ => true
  | _ => false
/-- repr can be asked of these -/
def canRepr (d : D) : Bool := isSeqD d && d.py.showable && decide (d.depth ≤ 150) && decide (d.py.shown.length ≤ 2 ^ 24)
/-- what a piece of text comes to -/
inductive Res (α : Type) where
  | ok (a : α) | exc (c : Nat) | fail
namespace Res
@[inline] def bind {α β : Type} (r : Res α) (f : α → Res β) : Res β := match r with
  | .ok a => f a
  | .exc c => .exc c
  | .fail => .fail
end Res
instance : Monad Res where
  pure := Res.ok
  bind := Res.bind
@[simp] theorem res_bind_ok {α β : Type} (a : α) (f : α → Res β) : (Res.ok a >>= f) = f a := rfl
@[simp] theorem res_bind_exc {α β : Type} (c : Nat) (f : α → Res β) : ((Res.exc c : Res α) >>= f) = .exc c := rfl
@[simp] theorem res_bind_fail {α β : Type} (f : α → Res β) : ((Res.fail : Res α) >>= f) = .fail := rfl
@[simp] theorem res_pure {α : Type} (a : α) : (pure a : Res α) = .ok a := rfl

inductive Bo where | add | sub | mul | fdiv | mod | pow | shl
  deriving DecidableEq
inductive Co where | eq | ne | lt | le | gt | ge | isin | notin
  deriving DecidableEq
inductive Bf where | len | int | str | tuple | list | sum | all | any | max2 | min2 | isInt | isBool | isStr | isTuple | sortedSet | sorted | repr
  deriving DecidableEq
inductive Mt where | join | islower | isupper | isalnum | split | strip | lstrip | rstrip | starts | find | part
  deriving DecidableEq

mutual
inductive E where
  | var (i : Nat) | bor (i : Nat) | lit (d : D) | glob (g : Nat) | tup (es : Es) | lst (es : Es) | bin (o : Bo) (a b : E) | neg (a : E) | not (a : E)
  | and (a b : E) | or (a b : E) | cmp (o : Co) (a b : E) | chain (o p : Co) (a b c : E) | isN (a : E) | notN (a : E) | ife (c a b : E)
  | call (f : Nat) (es : Es) | bf (b : Bf) (es : Es) | mt (m : Mt) (a : E) (es : Es) | ix (a b : E) | sl (a lo hi : E) | comp (x : Nat) (it : It) (cond elt : E) | lrng (a : E) | revs (a : E) | prt (i k : Nat)
  | dget (i : Nat) (k : E) | din (i : Nat) (k : E) | dlen (i : Nat) | dar (i : Nat) | dnil | nks (i : Nat) | nsrt (i : Nat) | lix (a b : E) | isb (k neg : Bool) (a : E) | call0 (f : Nat) | pick (ks : List (List Nat)) (es : Es) (k : E) | repl (a : E) (i : Int) (y z : List Nat)
inductive Es where
  | nil | cons (e : E) (es : Es)
inductive It where
  | seq (e : E) | txt (e : E) | rng1 (a : E) | rng2 (a b : E) | rev (e : E) | revr (a : E) | dks (i : Nat)
end
/-- an except suite -/
inductive Hd where | set (i : Nat) (d : D) | ret (d : D) | pass | one (x : Nat) (v : Option Nat) (f : Nat) (l : List Nat) | raise (c : Nat) | retC (f : Nat) (es : Es)
/-- what becomes of the answer of a call that changes its arguments -/
inductive Km where
  | drop | asg (x : Nat) | asgT (x : Nat) (pre : Es) | ret (l : Option (List Nat)) | retT (l : Option (List Nat)) (pre : Es) | app (i : Nat) | ext (i : Nat)
mutual
inductive S where
  | pass | expr (e : E) | assign (i : Nat) (e : E) | assignF (i : Nat) (e : E) | append (i : Nat) (e : E) | extend (i : Nat) (e : E) | ins (i : Nat) (k e : E) | setIx (i : Nat) (k e : E)
  | ife (c : E) (a b : B) | for_ (x : Nat) (it : It) (b : B) | whil (c : E) (b : B) | ret (e : E) | retF (e : E) | retOwn (i : Nat) | retN | brk | cont
  | raise (c : Nat) | try_ (b : B) (yes no : List Nat) (c : Nat) (h : Hd) | tryM (b : B) (hs : List (Nat × List Nat × List Nat × D)) | unpack (is : List Nat) (e : E) | pop (x i : Nat) | popU (is : List Nat) (i : Nat) | retP (i : Nat) (es : Es)
  | retM (l : List Nat) (e : E) | retMN (l : List Nat) | callM (k : Km) (f : Nat) (es : Es) (ms : List (Option Nat))
  | bad | dlit (i : Nat) (ks : List (List Nat)) (es : Es) | dnew (i : Nat) | dcp (i j : Nat) | dput (i : Nat) (k e : E) | nnew (i : Nat) | nput (i : Nat) (k : E)
inductive B where
  | nil | cons (s : S) (b : B) | freeze (i : Nat) (b : B) | pair (i j f : Nat) (es : Es) (b : B) | frzD (i : Nat) (b : B)
end

def isLitNon : E → Bool
  | .lit .non => true
  | _ => false
inductive Fl where | sh | own | bor | prt | dic | dsh | nky
  deriving DecidableEq
/-- what the slot holds is its own: it may be changed -/
def Fl.isOwn : Fl → Bool
  | .own | .dic | .nky => true
  | _ => false
/-- no dict -/
def Fl.plain : Fl → Bool
  | .dic | .dsh | .nky => false
  | _ => true
abbrev Env := List (Option (Fl × D))
inductive Flow where
  | nx (ρ : Env) | ret (d : D) | brk (ρ : Env) | cont (ρ : Env) | exc (c : Nat) (ρ : Env)

def line : Nat := 2 ^ 24
/-- x in xs -/
def isIn (x : D) (xs : List D) : Bool := xs.any fun y => D.eqv y x
/-- the place of an index -/
abbrev ixN (n : Nat) (i : Int) : Option Nat := L2.ixN n i
def cut {α : Type} (xs : List α) (lo hi : Option Int) : List α := (xs.drop (HT.sIx xs.length 0 lo)).take (HT.sIx xs.length xs.length hi - HT.sIx xs.length 0 lo)

/-- a op b -/
def opB : Bo → D → D → Option D
  | .add, .int i, .int j => some (.int (i + j))
  | .add, .str s, .str t => if s.length + t.length ≤ line then some (.str (s ++ t)) else none
  | .add, .lst s, .lst t => if s.length + t.length ≤ line then some (.lst (s ++ t)) else none
  | .add, .tup s, .tup t => if s.length + t.length ≤ line then some (.tup (s ++ t)) else none
  | .sub, .int i, .int j => some (.int (i - j))
  | .mul, .int i, .int j => if i.natAbs < 2 ^ 64 ∨ j.natAbs < 2 ^ 64 then some (.int (i * j)) else none
  | .mul, .str s, .int i => if -(line : Int) ≤ i ∧ i ≤ line ∧ s.length * i.toNat ≤ line then some (.str (List.replicate i.toNat s).flatten) else none
  | .mul, .lst s, .int i => if -(line : Int) ≤ i ∧ i ≤ line ∧ s.length * i.toNat ≤ line then some (.lst (List.replicate i.toNat s).flatten) else none
  | .fdiv, .int i, .int j => if 0 < j ∧ j < 1073741824 then some (.int (i / j)) else none
  | .mod, .int i, .int j => if 0 < j then some (.int (i % j)) else none
  | .pow, .int i, .int j => if 0 ≤ j ∧ j ≤ 1000 ∧ i.natAbs < 2 ^ 64 then some (.int (i ^ j.toNat)) else none
  | .shl, .int i, .int j => if 0 ≤ j ∧ j ≤ 1000 ∧ i.natAbs < 2 ^ 64 then some (.int (i * 2 ^ j.toNat)) else none
  | _, _, _ => none
/-- so deep at most, where == is asked -/
def eqDeep : Nat := 150
def opEq (a b : D) : Option Bool := if min a.depth b.depth ≤ eqDeep then some (D.eqv a b) else none
def opIn (a : D) : D → Option Bool
  | .lst xs => if a.depth ≤ eqDeep then some (isIn a xs) else none
  | .tup xs => if a.depth ≤ eqDeep then some (isIn a xs) else none
  | .str t => match a with
    | .str [c] => some (t.contains c)
    | _ => none
  | _ => none
/-- < can be asked of these -/
def ltOk (a b : D) : Bool := PySem.W.alike a.py b.py && !isNonD a && decide (min a.depth b.depth ≤ eqDeep)
def ltD (a b : D) : Bool := PySem.W.dataLt a.py b.py
def opC : Co → D → D → Option Bool
  | .eq, a, b => opEq a b
  | .ne, a, b => (opEq a b).map (!·)
  | .lt, .int i, .int j => some (decide (i < j))
  | .le, .int i, .int j => some (decide (i ≤ j))
  | .gt, .int i, .int j => some (decide (j < i))
  | .ge, .int i, .int j => some (decide (j ≤ i))
  | .lt, a, b => if ltOk a b then some (ltD a b) else none
  | .le, a, b => if ltOk a b then some (!ltD b a) else none
  | .gt, a, b => if ltOk a b then some (ltD b a) else none
  | .ge, a, b => if ltOk a b then some (!ltD a b) else none
  | .isin, a, b => opIn a b
  | .notin, a, b => (opIn a b).map (!·)
def opIx : D → D → Option D
  | .lst xs, .int i => (ixN xs.length i).bind fun j => xs[j]?
  | .tup xs, .int i => (ixN xs.length i).bind fun j => xs[j]?
  | .str xs, .int i => ((ixN xs.length i).bind fun j => xs[j]?).map fun c => .str [c]
  | _, _ => none
/-- a bound of a slice: left out, or a number -/
def ixPart (out : Bool) (d : D) : Option (Option Int) := if out then some none else match d with
  | .int i => some (some i)
  | _ => none
def opSl (a : D) (l h : Option Int) : Option D := match a with
  | .lst xs => some (.lst (cut xs l h))
  | .tup xs => some (.tup (cut xs l h))
  | .str xs => some (.str (cut xs l h))
  | _ => none
def dBools : List D → Option (List Bool)
  | [] => some []
  | .bl b :: xs => (dBools xs).map (b :: ·)
  | _ => none
def dInts : List D → Option (List Int)
  | [] => some []
  | .int b :: xs => (dInts xs).map (b :: ·)
  | _ => none
def dTexts : List D → Option (List (List Nat))
  | [] => some []
  | .str b :: xs => (dTexts xs).map (b :: ·)
  | _ => none
def joined (sep : List Nat) : List (List Nat) → List Nat
  | [] => []
  | [p] => p
  | p :: q :: r => p ++ (sep ++ joined sep (q :: r))
def codes (s : String) : List Nat := s.toList.map Char.toNat
/-- for isinstance (no lists) -/
def kindOf : D → Option Nat
  | .non => some 0
  | .bl _ => some 1
  | .int _ => some 2
  | .str _ => some 3
  | .tup _ => some 4
  | .lst _ => none
def maxI : List Int → Option Int
  | [] => none
  | a :: l => some (l.foldl max a)
def opF : Bf → List D → Option D
  | .len, [.lst xs] => some (.int xs.length)
  | .len, [.tup xs] => some (.int xs.length)
  | .len, [.str xs] => some (.int xs.length)
  | .int, [.int i] => some (.int i)
  | .int, [.bl b] => some (.int (if b then 1 else 0))
  | .int, [.str s] => if s.length ≤ 640 then (PySem.intText? (T s)).map .int else none
  | .str, [.int i] => if i.natAbs < 2 ^ 64 ∧ (codes (toString i)).length ≤ line then some (.str (codes (toString i))) else none
  | .str, [.str s] => some (.str s)
  | .tuple, [.lst xs] => some (.tup xs)
  | .tuple, [.tup xs] => some (.tup xs)
  | .list, [.lst xs] => some (.lst xs)
  | .list, [.tup xs] => some (.lst xs)
  | .sum, [.lst xs] => (dInts xs).map fun l => .int l.sum
  | .all, [.lst xs] => (dBools xs).map fun l => .bl (l.all id)
  | .any, [.lst xs] => (dBools xs).map fun l => .bl (l.any id)
  | .max2, [.int i, .int j] => some (.int (if j > i then j else i))
  | .max2, [.lst xs] => (dInts xs).bind fun l => (maxI l).map .int
  | .min2, [.int i, .int j] => some (.int (if j < i then j else i))
  | .min2, [.int i, .int j, .int k] => some (.int (if k < (if j < i then j else i) then k else (if j < i then j else i)))
  | .sortedSet, [.lst xs] => (dTexts xs).bind fun l => if l.length + 1 < scanBound then some (.lst ((sortU l).map .str)) else none
  | .sorted, [.lst xs] => if sortOk xs then some (.lst (xs.mergeSort leD)) else none
  | .isInt, [d] => (kindOf d).map fun k => .bl (k == 1 || k == 2)
  | .repr, [d] => if canRepr d then some (.str d.py.shown.cps.toList) else none
  | .isBool, [d] => (kindOf d).map fun k => .bl (k == 1)
  | .isStr, [d] => (kindOf d).map fun k => .bl (k == 3)
  | .isTuple, [d] => (kindOf d).map fun k => .bl (k == 4)
  | _, _ => none
/-- signs taken off the ends -/
def stripL (goes : Nat → Bool) (l r : Bool) (t : List Nat) : List Nat :=
  let a := if l then t.dropWhile goes else t
  if r then (a.reverse.dropWhile goes).reverse else a
/-- a text with written signs put for written signs -/
def opRepl (y z : List Nat) : D → Option D
  | .str t => if t.length + (t.length + 1) * z.length ≤ line then some (.str (PySem.StrLaws.replL y z t)) else none
  | _ => none
def opM : Mt → D → List D → Option D
  | .split, .str t, [.str b] => if b ≠ [] ∧ (b.all fun c => decide (c < 256)) = true ∧ t.length + 2 ≤ line then some (.lst ((TL.spl b 0 [] t).map .str)) else none
  | .strip, .str t, [.str b] => if t.length ≤ line then some (.str (stripL b.contains true true t)) else none
  | .lstrip, .str t, [.str b] => if t.length ≤ line then some (.str (stripL b.contains true false t)) else none
  | .rstrip, .str t, [.str b] => if t.length ≤ line then some (.str (stripL b.contains false true t)) else none
  | .starts, .str t, [.str (c :: b)] => some (.bl (TL.pre (c :: b) t))
  | .find, .str t, [.str (c :: b)] => some (.int (match TL.par (c :: b) [] t with
    | some (p, _) => (p.length : Int)
    | none => -1))
  | .part, .str t, [.str (c :: b)] => if t.length ≤ line ∧ (c :: b).length ≤ line then some (.tup (match TL.par (c :: b) [] t with
    | some (p, q) => [.str p, .str (c :: b), .str q]
    | none => [.str t, .str [], .str []])) else none
  | .join, .str sep, [.lst xs] => (dTexts xs).bind fun l => if (l.map List.length).sum + l.length * sep.length ≤ line then some (.str (joined sep l)) else none
  | .join, .str sep, [.tup xs] => (dTexts xs).bind fun l => if (l.map List.length).sum + l.length * sep.length ≤ line then some (.str (joined sep l)) else none
  | .islower, .str [c], [] => if c < 128 then some (.bl (Nat.ble 97 c && Nat.ble c 122)) else none
  | .isupper, .str [c], [] => if c < 128 then some (.bl (Nat.ble 65 c && Nat.ble c 90)) else none
  | .isalnum, .str [c], [] => if c < 128 then some (.bl ((Nat.ble 97 c && Nat.ble c 122) || (Nat.ble 65 c && Nat.ble c 90) || (Nat.ble 48 c && Nat.ble c 57))) else none
  | _, _, _ => none

/-- what methods are asked of -/
def recv : D → Option Unit
  | .str _ => some ()
  | _ => none
/-- as a truth -/
def truth : D → Option Bool
  | .bl b => some b
  | _ => none
def ofO {α : Type} : Option α → Res α
  | some a => .ok a
  | none => .fail
@[simp] theorem ofO_some {α : Type} (a : α) : ofO (some a) = .ok a := rfl
@[simp] theorem ofO_none {α : Type} : ofO (none : Option α) = .fail := rfl
/-- a.index(b): the place of the first that is equal -/
def opLix : D → D → Option D
  | .lst xs, d => if d.depth ≤ eqDeep then (xs.findIdx? fun y => D.eqv y d).map fun j => .int (j : Int) else none
  | _, _ => none
/-- a is k, a is not k -/
def opIsb (k neg : Bool) : D → Option Bool
  | .bl b => some (if neg then !decide (b = k) else decide (b = k))
  | _ => none
def listOf : D → Option (List D)
  | .lst xs => some xs
  | _ => none
def opNeg : D → Option D
  | .int i => some (.int (-i))
  | _ => none
def isNon : D → Bool
  | .non => true
  | _ => false
/-- a text's signs -/
def txtOf : D → Option (List D)
  | .str s => some (s.map fun c => .str [c])
  | _ => none
def itemsOf : D → Option (List D)
  | .lst xs => some xs
  | .tup xs => some xs
  | .str xs => some (xs.map fun c => .str [c])
  | _ => none
def setV (ρ : Env) (i : Nat) (d : D) : Env := ρ.set i (some (.sh, d))
def rng (lo : Int) (n : Nat) : List D := (List.range n).map fun (k : Nat) => D.int (lo + (k : Int))
def rng1 : D → Option (List D)
  | .int j => if -(line : Int) ≤ j ∧ j ≤ line then some (rng 0 j.toNat) else none
  | _ => none
def rng2 : D → D → Option (List D)
  | .int i, .int j => if -(line : Int) ≤ i ∧ i ≤ line ∧ -(line : Int) ≤ j ∧ j ≤ line ∧ j - i ≤ line then some (rng i (j - i).toNat) else none
  | _, _ => none
/-- backwards -/
def revOf : D → Option (List D)
  | .lst xs => some xs.reverse
  | .tup xs => some xs.reverse
  | _ => none
/-- x[::-1] -/
def opRev : D → Option D
  | .lst xs => some (.lst xs.reverse)
  | .tup xs => some (.tup xs.reverse)
  | _ => none
/-- for a comprehension -/
def compL (cond elt : D → Res D) : List D → Res (List D)
  | [] => .ok []
  | x :: xs => (cond x) >>= fun c => (ofO (truth c)) >>= fun b => if b then (elt x) >>= fun y => (compL cond elt xs) >>= fun ys => .ok (y :: ys) else compL cond elt xs
/-- a comprehension lets nothing out -/
def noExc {α : Type} : Res α → Res α
  | .exc _ => .fail
  | .ok a => .ok a
  | .fail => .fail
@[simp] theorem noExc_ok {α : Type} (a : α) : noExc (.ok a) = .ok a := rfl
/-- what a slot gives -/
def getSh (ρ : Env) (i : Nat) : Option D := match ρ[i]? with
  | some (some (.sh, d)) => some d
  | _ => none
def getAny (ρ : Env) (i : Nat) : Option D := match ρ[i]? with
  | some (some (.prt, _)) => none
  | some (some (.dic, _)) => none
  | some (some (.dsh, _)) => none
  | some (some (.nky, _)) => none
  | some (some (_, d)) => some d
  | _ => none
/-- a dict as data: a list of pairs -/
def dKey : D → Option (List Nat × D)
  | .tup [.str k, d] => some (k, d)
  | _ => none
def dIs (s : List Nat) (e : D) : Bool := match dKey e with
  | some p => decide (p.1 = s)
  | none => false
def dFind (es : List D) (s : List Nat) : Option D := ((es.find? (dIs s)).bind dKey).map (·.2)
def dPut (es : List D) (s : List Nat) (d : D) : List D := if es.any (dIs s) then es.map fun e => if dIs s e then .tup [.str s, d] else e else es ++ [.tup [.str s, d]]
def dGet (es : List D) : D → Option D
  | .str s => dFind es s
  | _ => none
def dHas (es : List D) : D → Option D
  | .str s => some (.bl (dFind es s).isSome)
  | _ => none
def dSet (es : List D) (k d : D) : Option (List D) := match k with
  | .str s => if es.length < line then some (dPut es s d) else none
  | _ => none
/-- a display -/
def dLit (ks : List (List Nat)) (ds : List D) : List D := (ks.zip ds).foldl (fun acc p => dPut acc p.1 p.2) []
def dKeys (es : List D) : List D := es.map fun e => match dKey e with
  | some p => .str p.1
  | none => .non
def getDsh (ρ : Env) (i : Nat) : Option (List D) := match ρ[i]? with
  | some (some (.dsh, .lst es)) => some es
  | _ => none
def getDic (ρ : Env) (i : Nat) : Option (List D) := match ρ[i]? with
  | some (some (.dic, .lst es)) => some es
  | _ => none
def getDD (ρ : Env) (i : Nat) : Option (List D) := match getDic ρ i with
  | some es => some es
  | none => getDsh ρ i
mutual
/-- a tuple as a key of a dict -/
def nkey : D → Option NestedKey
  | .non => some .none
  | .int i => some (.num i)
  | .str s => some (.text (T s))
  | .tup ds => (nkeys ds).map .tup
  | _ => none
def nkeys : List D → Option (List NestedKey)
  | [] => some []
  | d :: ds => match nkey d, nkeys ds with
    | some k, some ks => some (k :: ks)
    | _, _ => none
end
def tkey : D → Option NestedKey
  | .tup ds => match nkey (.tup ds) with
    | some k => if k.depth ≤ 8 then some k else none
    | none => none
  | _ => none
/-- the keys of a dict, one more -/
def nkAdd (ks : List D) (d : D) : Option (List D) := match tkey d with
  | some k => if ks.length < line then some (if ks.any fun e => decide (tkey e = some k) then ks else ks ++ [d]) else none
  | none => none
def getNk (ρ : Env) (i : Nat) : Option (List D) := match ρ[i]? with
  | some (some (.nky, .lst ks)) => some ks
  | _ => none
def setNk (ρ : Env) (i : Nat) (ks : List D) : Env := ρ.set i (some (.nky, .lst ks))
def setDic (ρ : Env) (i : Nat) (es : List D) : Env := ρ.set i (some (.dic, .lst es))
/-- of a list whose first item is gone: another item -/
def getPrt (ρ : Env) (i k : Nat) : Option D := match ρ[i]? with
  | some (some (.prt, .lst (_ :: ds))) => match k with
    | 0 => none
    | k + 1 => ds[k]?
  | _ => none
def getOwn (ρ : Env) (i : Nat) : Option (List D) := match ρ[i]? with
  | some (some (.own, .lst xs)) => some xs
  | _ => none

section
variable (cf : Nat → List D → Res D) (gl : Nat → Option D)
mutual
def evE : E → Env → Res D
  | .var i, ρ => ofO (getSh ρ i)
  | .bor i, ρ => ofO (getAny ρ i)
  | .lit d, _ => .ok d
  | .glob g, _ => ofO (gl g)
  | .tup es, ρ => (evEs es ρ) >>= fun l => .ok (.tup l)
  | .lst es, ρ => (evEs es ρ) >>= fun l => .ok (.lst l)
  | .bin o a b, ρ => (evE a ρ) >>= fun x => (evE b ρ) >>= fun y => ofO (opB o x y)
  | .neg a, ρ => (evE a ρ) >>= fun x => ofO (opNeg x)
  | .lrng a, ρ => (evE a ρ) >>= fun x => (ofO (rng1 x)) >>= fun l => .ok (.lst l)
  | .revs a, ρ => (evE a ρ) >>= fun x => ofO (opRev x)
  | .prt i k, ρ => ofO (getPrt ρ i k)
  | .dget i k, ρ => (ofO (getDD ρ i)) >>= fun es => (evE k ρ) >>= fun y => ofO (dGet es y)
  | .din i k, ρ => (evE k ρ) >>= fun y => (ofO (getDD ρ i)) >>= fun es => ofO (dHas es y)
  | .dlen i, ρ => (ofO (getDD ρ i)) >>= fun es => .ok (.int es.length)
  | .dar i, ρ => (ofO (getDsh ρ i)) >>= fun es => .ok (.lst es)
  | .dnil, _ => .ok (.lst [])
  | .nks i, ρ => (ofO (getNk ρ i)) >>= fun ks => .ok (.lst ks)
  | .nsrt i, ρ => (ofO (getNk ρ i)) >>= fun ks => ofO (opF .sorted [.lst ks])
  | .lix a b, ρ => (evE a ρ) >>= fun x => (ofO (listOf x)) >>= fun _ => (evE b ρ) >>= fun y => ofO (opLix x y)
  | .call0 f, _ => noExc (cf f [])
  | .pick ks es k, ρ => (evEs es ρ) >>= fun ds => (evE k ρ) >>= fun y => ofO (dGet (dLit ks ds) y)
  | .repl a i y z, ρ => (evE a ρ) >>= fun x => (ofO (opIx x (.int i))) >>= fun t => ofO (opRepl y z t)
  | .isb k n a, ρ => (evE a ρ) >>= fun x => (ofO (opIsb k n x)) >>= fun b => .ok (.bl b)
  | .not a, ρ => (evE a ρ) >>= fun x => (ofO (truth x)) >>= fun k => .ok (.bl (!k))
  | .and a b, ρ => (evE a ρ) >>= fun x => (ofO (truth x)) >>= fun k => if k then (evE b ρ) >>= fun y => (ofO (truth y)) >>= fun k => .ok (.bl k) else .ok (.bl false)
  | .or a b, ρ => (evE a ρ) >>= fun x => (ofO (truth x)) >>= fun k => if k then .ok (.bl true) else (evE b ρ) >>= fun y => (ofO (truth y)) >>= fun k => .ok (.bl k)
  | .cmp o a b, ρ => (evE a ρ) >>= fun x => (evE b ρ) >>= fun y => (ofO (opC o x y)) >>= fun k => .ok (.bl k)
  | .chain o p a b c, ρ => (evE a ρ) >>= fun x => (evE b ρ) >>= fun y => (ofO (opC o x y)) >>= fun k => if k then (evE c ρ) >>= fun z => (ofO (opC p y z)) >>= fun k => .ok (.bl k) else .ok (.bl false)
  | .isN a, ρ => (evE a ρ) >>= fun x => .ok (.bl (isNon x))
  | .notN a, ρ => (evE a ρ) >>= fun x => .ok (.bl (!isNon x))
  | .ife c a b, ρ => (evE c ρ) >>= fun x => (ofO (truth x)) >>= fun k => if k then evE a ρ else evE b ρ
  | .call f es, ρ => (evEs es ρ) >>= fun l => cf f l
  | .bf b es, ρ => (evEs es ρ) >>= fun l => ofO (opF b l)
  | .mt m a es, ρ => (evE a ρ) >>= fun x => (ofO (recv x)) >>= fun _ => (evEs es ρ) >>= fun l => ofO (opM m x l)
  | .ix a b, ρ => (evE a ρ) >>= fun x => (evE b ρ) >>= fun y => ofO (opIx x y)
  | .sl a lo hi, ρ => (evE a ρ) >>= fun x => (evE lo ρ) >>= fun y => (ofO (ixPart (isLitNon lo) y)) >>= fun l => (evE hi ρ) >>= fun z => (ofO (ixPart (isLitNon hi) z)) >>= fun h => ofO (opSl x l h)
  | .comp x it cond elt, ρ => (evIt it ρ) >>= fun l => (compL (fun d => noExc (evE cond (setV ρ x d))) (fun d => evE elt (setV ρ x d)) l) >>= fun r => .ok (.lst r)
def evEs : Es → Env → Res (List D)
  | .nil, _ => .ok []
  | .cons e es, ρ => (evE e ρ) >>= fun x => (evEs es ρ) >>= fun l => .ok (x :: l)
def evIt : It → Env → Res (List D)
  | .seq e, ρ => (evE e ρ) >>= fun x => ofO (itemsOf x)
  | .txt e, ρ => (evE e ρ) >>= fun x => ofO (txtOf x)
  | .rng1 a, ρ => (evE a ρ) >>= fun x => ofO (rng1 x)
  | .rng2 a b, ρ => (evE a ρ) >>= fun x => (evE b ρ) >>= fun y => ofO (rng2 x y)
  | .rev e, ρ => (evE e ρ) >>= fun x => ofO (revOf x)
  | .revr a, ρ => (evE a ρ) >>= fun x => (ofO (rng1 x)) >>= fun l => .ok l.reverse
  | .dks i, ρ => (ofO (getDsh ρ i)) >>= fun es => .ok (dKeys es)
end

/-- a loop over items -/
def forL (x : Nat) (body : Env → Res Flow) : List D → Env → Res Flow
  | [], ρ => .ok (.nx ρ)
  | d :: ds, ρ => (body (setV ρ x d)) >>= fun fl => match fl with
    | .nx ρ' => forL x body ds ρ'
    | .cont ρ' => forL x body ds ρ'
    | .brk ρ' => .ok (.nx ρ')
    | .ret d => .ok (.ret d)
    | .exc c ρ' => .ok (.exc c ρ')
/-- a while, so many turns at most -/
def whileL (test : Env → Res D) (body : Env → Res Flow) : Nat → Env → Res Flow
  | 0, _ => .fail
  | n + 1, ρ => match test ρ with
    | .exc c => .ok (.exc c ρ)
    | .fail => .fail
    | .ok t => (ofO (truth t)) >>= fun k => if k then (body ρ) >>= fun fl => match fl with
      | .nx ρ' => whileL test body n ρ'
      | .cont ρ' => whileL test body n ρ'
      | .brk ρ' => .ok (.nx ρ')
      | .ret d => .ok (.ret d)
      | .exc c ρ' => .ok (.exc c ρ')
    else .ok (.nx ρ)
def turns : Nat := 2 ^ 40
/-- an expression within a statement -/
def withE {α : Type} (r : Res α) (ρ : Env) (f : α → Res Flow) : Res Flow := match r with
  | .ok a => f a
  | .exc c => .ok (.exc c ρ)
  | .fail => .fail
@[simp] theorem withE_ok {α : Type} (a : α) (ρ : Env) (f : α → Res Flow) : withE (.ok a) ρ f = f a := rfl
@[simp] theorem withE_exc {α : Type} (c : Nat) (ρ : Env) (f : α → Res Flow) : withE (.exc c) ρ f = .ok (.exc c ρ) := rfl
@[simp] theorem withE_fail {α : Type} (ρ : Env) (f : α → Res Flow) : withE .fail ρ f = .fail := rfl
def setOwn (ρ : Env) (i : Nat) (xs : List D) : Env := ρ.set i (some (.own, .lst xs))
def seqOf : D → Option (List D)
  | .lst xs => some xs
  | .tup xs => some xs
  | _ => none
def appL (xs : List D) (d : D) : Option (List D) := if xs.length < line then some (xs ++ [d]) else none
def extL (xs ys : List D) : Option (List D) := if xs.length + ys.length ≤ line then some (xs ++ ys) else none
def setL (xs : List D) (k d : D) : Option (List D) := match k with
  | .int j => (ixN xs.length j).map fun n => xs.set n d
  | _ => none
def insL (xs : List D) (k d : D) : Option (List D) := match k with
  | .int j => if xs.length < line ∧ 0 ≤ j ∧ j < 2 ^ 63 then some (xs.take j.toNat ++ [d] ++ xs.drop j.toNat) else none
  | _ => none
def setPrt (ρ : Env) (i : Nat) (ds : List D) : Env := ρ.set i (some (.prt, .lst (.non :: ds)))
def setVs : List Nat → List D → Env → Env
  | i :: is, d :: ds, ρ => setVs is ds (setV ρ i d)
  | _, _, ρ => ρ
def tupN (n : Nat) : D → Option (List D)
  | .tup ds => if ds.length = n then some ds else none
  | _ => none
def popL (xs : List D) : Option (List D × D) := (xs[xs.length - 1]?).map fun d => (xs.dropLast, d)
def pairOf : D → Option (List D × List D)
  | .lst (.lst xs :: ds) => some (xs, ds)
  | _ => none
/-- the lists that a def has changed, as data -/
def collect : List Nat → Env → Option (List D)
  | [], _ => some []
  | i :: l, ρ => (getOwn ρ i).bind fun xs => (collect l ρ).map (.lst xs :: ·)
def handM (l : List Nat) (d : D) (ρ : Env) : Option D := (collect l ρ).map fun fs => .tup (d :: fs)
def handO : Option (List Nat) → D → Env → Option D
  | none, d, _ => some d
  | some l, d, ρ => handM l d ρ
def lists : List D → Option (List (List D))
  | [] => some []
  | .lst xs :: ds => (lists ds).map (xs :: ·)
  | _ => none
/-- an answer, and what has become of the lists -/
def mutRes (n : Nat) : D → Option (D × List (List D))
  | .tup (r :: fs) => if fs.length = n then (lists fs).map fun l => (r, l) else none
  | _ => none
def ownsAt : List (Option Nat) → Env → Option Unit
  | [], _ => some ()
  | some i :: ms, ρ => (getOwn ρ i).bind fun _ => ownsAt ms ρ
  | none :: ms, ρ => ownsAt ms ρ
def setOwns : List (Option Nat) → List (List D) → Env → Env
  | some i :: ms, xs :: ls, ρ => setOwns ms ls (setOwn ρ i xs)
  | none :: ms, _ :: ls, ρ => setOwns ms ls ρ
  | _, _, ρ => ρ
def Km.pre : Km → Es
  | .asgT _ p => p
  | .retT _ p => p
  | _ => .nil
/-- what is to be put into a list of one's own -/
def konP : Km → Env → Option Unit
  | .app i, ρ => (getOwn ρ i).map fun _ => ()
  | .ext i, ρ => (getOwn ρ i).map fun _ => ()
  | _, _ => some ()
/-- what becomes of the answer -/
def konK (k : Km) (ps : List D) (r : D) (ρ : Env) : Res Flow := match k with
  | .drop => .ok (.nx ρ)
  | .asg x => .ok (.nx (setV ρ x r))
  | .asgT x _ => .ok (.nx (setV ρ x (.tup (ps ++ [r]))))
  | .ret l => (ofO (handO l r ρ)) >>= fun d => .ok (.ret d)
  | .retT l _ => (ofO (handO l (.tup (ps ++ [r])) ρ)) >>= fun d => .ok (.ret d)
  | .app i => (ofO (getOwn ρ i)) >>= fun xs => (ofO (appL xs r)) >>= fun ys => .ok (.nx (setOwn ρ i ys))
  | .ext i => (ofO (getOwn ρ i)) >>= fun xs => (ofO (seqOf r)) >>= fun ys => (ofO (extL xs ys)) >>= fun zs => .ok (.nx (setOwn ρ i zs))
/-- an except suite, of an error of class y -/
def evH : Hd → Nat → Env → Res Flow
  | .set i d, _, ρ => .ok (.nx (setV ρ i d))
  | .ret d, _, _ => .ok (.ret d)
  | .pass, _, ρ => .ok (.nx ρ)
  | .raise c, _, ρ => .ok (.exc c ρ)
  | .retC f es, _, ρ => withE (evEs cf gl es ρ >>= fun l => cf f l) ρ fun d => .ok (.ret d)
  | .one _ none _ l, y, _ => if l.contains y then .ok (.ret (.bl true)) else .fail
  | .one _ (some i) _ l, y, ρ => (ofO (getSh ρ i)) >>= fun d => (ofO (truth d)) >>= fun k => if k then (if l.contains y then .ok (.ret (.bl true)) else .fail) else .ok (.ret (.bl false))
/-- some except clauses, each of which hands back a constant -/
def pickH : List (Nat × List Nat × List Nat × D) → Nat → Env → Res Flow
  | [], y, ρ => .ok (.exc y ρ)
  | (_, yes, no, d) :: hs, y, ρ => if yes.contains y then .ok (.ret d) else if no.contains y then pickH hs y ρ else .fail
mutual
def evS : S → Env → Res Flow
  | .pass, ρ => .ok (.nx ρ)
  | .expr e, ρ => withE (evE cf gl e ρ) ρ fun _ => .ok (.nx ρ)
  | .assign i e, ρ => withE (evE cf gl e ρ) ρ fun d => .ok (.nx (setV ρ i d))
  | .assignF i e, ρ => withE (evE cf gl e ρ) ρ fun d => (ofO (listOf d)) >>= fun xs => .ok (.nx (setOwn ρ i xs))
  | .append i e, ρ => (ofO (getOwn ρ i)) >>= fun xs => withE (evE cf gl e ρ) ρ fun d => (ofO (appL xs d)) >>= fun ys => .ok (.nx (setOwn ρ i ys))
  | .extend i e, ρ => (ofO (getOwn ρ i)) >>= fun xs => withE (evE cf gl e ρ) ρ fun d => (ofO (seqOf d)) >>= fun ys => (ofO (extL xs ys)) >>= fun zs => .ok (.nx (setOwn ρ i zs))
  | .ins i k e, ρ => (ofO (getOwn ρ i)) >>= fun xs => withE (evE cf gl k ρ) ρ fun j => withE (evE cf gl e ρ) ρ fun d => (ofO (insL xs j d)) >>= fun ys => .ok (.nx (setOwn ρ i ys))
  | .setIx i k e, ρ => (ofO (getOwn ρ i)) >>= fun xs => withE (evE cf gl e ρ) ρ fun d => withE (evE cf gl k ρ) ρ fun j => (ofO (setL xs j d)) >>= fun ys => .ok (.nx (setOwn ρ i ys))
  | .ife c a b, ρ => withE (evE cf gl c ρ) ρ fun x => (ofO (truth x)) >>= fun k => if k then evB a ρ else evB b ρ
  | .for_ x it b, ρ => withE (evIt cf gl it ρ) ρ fun l => forL x (fun ρ => evB b ρ) l ρ
  | .whil c b, ρ => whileL (fun ρ => evE cf gl c ρ) (fun ρ => evB b ρ) turns ρ
  | .ret e, ρ => withE (evE cf gl e ρ) ρ fun d => .ok (.ret d)
  | .retF e, ρ => withE (evE cf gl e ρ) ρ fun d => .ok (.ret d)
  | .retOwn i, ρ => (ofO (getOwn ρ i)) >>= fun xs => .ok (.ret (.lst xs))
  | .retN, _ => .ok (.ret .non)
  | .brk, ρ => .ok (.brk ρ)
  | .cont, ρ => .ok (.cont ρ)
  | .raise c, ρ => .ok (.exc c ρ)
  | .unpack is e, ρ => withE (evE cf gl e ρ) ρ fun d => (ofO (tupN is.length d)) >>= fun ds => .ok (.nx (setVs is ds ρ))
  | .pop x i, ρ => (ofO (getOwn ρ i)) >>= fun xs => (ofO (popL xs)) >>= fun p => .ok (.nx (setV (setOwn ρ i p.1) x p.2))
  | .popU is i, ρ => (ofO (getOwn ρ i)) >>= fun xs => (ofO (popL xs)) >>= fun p => (ofO (tupN is.length p.2)) >>= fun ds => .ok (.nx (setVs is ds (setOwn ρ i p.1)))
  | .retP i es, ρ => (ofO (getOwn ρ i)) >>= fun xs => withE (evEs cf gl es ρ) ρ fun ds => .ok (.ret (.lst (.lst xs :: ds)))
  | .retM l e, ρ => withE (evE cf gl e ρ) ρ fun d => (ofO (handM l d ρ)) >>= fun r => .ok (.ret r)
  | .retMN l, ρ => (ofO (handM l .non ρ)) >>= fun r => .ok (.ret r)
  | .callM k f es ms, ρ => (ofO (konP k ρ)) >>= fun _ => withE (evEs cf gl k.pre ρ) ρ fun ps => (ofO (ownsAt ms ρ)) >>= fun _ => withE (evEs cf gl es ρ >>= fun l => cf f l) ρ fun d => (ofO (mutRes ms.length d)) >>= fun p => konK k ps p.1 (setOwns ms p.2 ρ)
  | .bad, _ => .fail
  | .dlit i ks es, ρ => withE (evEs cf gl es ρ) ρ fun ds => .ok (.nx (setDic ρ i (dLit ks ds)))
  | .dnew i, ρ => .ok (.nx (setDic ρ i []))
  | .nnew i, ρ => .ok (.nx (setNk ρ i []))
  | .nput i k, ρ => (ofO (getNk ρ i)) >>= fun ks => withE (evE cf gl k ρ) ρ fun y => (ofO (nkAdd ks y)) >>= fun fs => .ok (.nx (setNk ρ i fs))
  | .dcp i j, ρ => (ofO (getDD ρ j)) >>= fun es => .ok (.nx (setDic ρ i es))
  | .dput i k e, ρ => (ofO (getDic ρ i)) >>= fun es => withE (evE cf gl e ρ) ρ fun d => withE (evE cf gl k ρ) ρ fun y => (ofO (dSet es y d)) >>= fun fs => .ok (.nx (setDic ρ i fs))
  | .try_ b yes no _ h, ρ => (evB b ρ) >>= fun fl => match fl with
    | .exc x ρ' => if yes.contains x then evH cf gl h x ρ' else if no.contains x then .ok (.exc x ρ') else .fail
    | f => .ok f
  | .tryM b hs, ρ => (evB b ρ) >>= fun fl => match fl with
    | .exc x ρ' => pickH hs x ρ'
    | f => .ok f
def evB : B → Env → Res Flow
  | .nil, ρ => .ok (.nx ρ)
  | .cons s b, ρ => (evS s ρ) >>= fun fl => match fl with
    | .nx ρ' => evB b ρ'
    | f => .ok f
  | .freeze i b, ρ => (ofO (getOwn ρ i)) >>= fun xs => evB b (setV ρ i (.lst xs))
  | .frzD i b, ρ => (ofO (getDic ρ i)) >>= fun es => evB b (ρ.set i (some (.dsh, .lst es)))
  | .pair i j f es b, ρ => withE (evEs cf gl es ρ >>= fun l => cf f l) ρ fun d => (ofO (if i < ρ.length then pairOf d else none)) >>= fun p => evB b (setPrt (setOwn ρ j p.1) i p.2)
end
end

/-- what a def hands back: anything, always a list of its own, or a list whose first item is such a list -/
inductive Ow where | no | own | prt | chg (l : List Nat)
  deriving DecidableEq
def Ow.mu : Ow → List Nat
  | .chg l => l
  | _ => []
/-- a parameter: a value, only looked at, a dict -/
inductive Pk where | s | b | d
  deriving DecidableEq
def Pk.fl : Pk → Fl
  | .s => .sh
  | .b => .bor
  | .d => .dsh
/-- a def: its parameters, its slots, its body, whether what it hands back is always its own -/
structure FD where
  ps : List Pk
  ns : Nat
  body : B
  own : Ow
def startL (mu : List Nat) : Nat → List Pk → List D → Env
  | i, b :: bs, d :: ds => some (if mu.contains i then Fl.own else b.fl, d) :: startL mu (i + 1) bs ds
  | _, _, _ => []
def FD.start (f : FD) (ds : List D) : Env := startL f.own.mu 0 f.ps ds ++ List.replicate (f.ns - f.ps.length) none
def FD.run (f : FD) (cf : Nat → List D → Res D) (gl : Nat → Option D) (ds : List D) : Res D :=
  if ds.length = f.ps.length then (noExc (evB cf gl f.body (f.start ds))) >>= fun fl => match fl with
    | .ret d => .ok d
    | .nx ρ => (match f.own with
      | .chg l => ofO (handM l .non ρ)
      | _ => .ok .non)
    | .exc c _ => (match f.own with
      | .chg _ => .fail
      | _ => .exc c)
    | _ => .fail
  else .fail
def callF (T : Nat → Option FD) (gl : Nat → Option D) : Nat → Nat → List D → Res D
  | 0, _, _ => .fail
  | n + 1, f, ds => match T f with
    | some fd => fd.run (callF T gl n) gl ds
    | none => .fail
end Ev

/-! What stands for what: values over the abstract heap against plain data. -/
namespace Ev
open PySem PySem.Spec PyProof.Rows L2
open Evl (Ex)

theorem T_len (s : List Nat) : (T s).length = s.length := by simp [T, Str.length]
theorem T_cps (s : List Nat) : (T s).cps.toList = s := by simp [T]
theorem T_inj {s t : List Nat} (h : T s = T t) : s = t := by
  have := congrArg (fun x : Str => x.cps.toList) h
  simpa [T_cps] using this
theorem T_of (x : Str) : T x.cps.toList = x := by simp [T]
theorem T_app (s t : List Nat) : T s ++ T t = T (s ++ t) := by
  show Str.append _ _ = _
  simp [T, Str.append]

mutual
inductive Rep (K : PySem.W.Frag) (H : Hp) : V → D → Prop
  | non : Rep K H .non .non
  | bl (b : Bool) : Rep K H (.bl b) (.bl b)
  | int (i : Int) : Rep K H (.int i) (.int i)
  | str (s : List Nat) : s.length ≤ line → Rep K H (.str (T s)) (.str s)
  | tup {a : Addr} {vs : List V} {ds : List D} : SqT K H a vs → Reps K H vs ds → ds.length ≤ line → Rep K H (.ref a) (.tup ds)
  | lst {a : Addr} {vs : List V} {ds : List D} {o : Obj} : H a = some (.frz o (.lst vs)) → Reps K H vs ds → ds.length ≤ line → Rep K H (.ref a) (.lst ds)
inductive Reps (K : PySem.W.Frag) (H : Hp) : List V → List D → Prop
  | nil : Reps K H [] []
  | cons {v : V} {d : D} {vs : List V} {ds : List D} : Rep K H v d → Reps K H vs ds → Reps K H (v :: vs) (d :: ds)
end

/-- tuples and what is locked stand -/
def Pers (H H' : Hp) : Prop := (∀ a xs, H a = some (.tup xs) → H' a = some (.tup xs)) ∧ ∀ a o u, H a = some (.frz o u) → H' a = some (.frz o u)
theorem Pers.refl (H : Hp) : Pers H H := ⟨fun _ _ h => h, fun _ _ _ h => h⟩
theorem Pers.trans {H H1 H2 : Hp} (a : Pers H H1) (b : Pers H1 H2) : Pers H H2 := ⟨fun x xs h => b.1 x xs (a.1 x xs h), fun x o u h => b.2 x o u (a.2 x o u h)⟩
theorem Pers.of {H H' : Hp} (e : Ex H H') : Pers H H' := ⟨fun a xs h => e a _ h, fun a o u h => e a _ h⟩
theorem Pers.mutD {H H' : Hp} {a : Addr} {kvs : List (L2.Key × V)} {u : HO} (e : Pers H H') (h : H' a = some (.dK kvs)) : Pers H (upd H' a u) := by
  refine ⟨fun b ys hb => ?_, fun b o w hb => ?_⟩
  · have := e.1 b ys hb
    rw [upd_ne (ne_of this h (by intro z; cases z))]; exact this
  · have := e.2 b o w hb
    rw [upd_ne (ne_of this h (by intro z; cases z))]; exact this
theorem Pers.mut {H H' : Hp} {a : Addr} {xs : List V} {u : HO} (e : Pers H H') (h : H' a = some (.lst xs)) : Pers H (upd H' a u) := by
  refine ⟨fun b ys hb => ?_, fun b o w hb => ?_⟩
  · have := e.1 b ys hb
    rw [upd_ne (ne_of this h (by intro z; cases z))]; exact this
  · have := e.2 b o w hb
    rw [upd_ne (ne_of this h (by intro z; cases z))]; exact this
section
variable {K : PySem.W.Frag} {H H' : Hp}
theorem sqt_pers {a : Addr} {xs : List V} (p : Pers H H') (h : SqT K H a xs) : SqT K H' a xs := by
  rcases h with (h | ⟨o, h⟩) | h
  · exact .inl (.inl (p.1 a xs h))
  · exact .inl (.inr ⟨o, p.2 a o _ h⟩)
  · exact .inr h
mutual
theorem Rep.mono (p : Pers H H') : ∀ {v : V} {d : D}, Rep K H v d → Rep K H' v d
  | _, _, .non => .non
  | _, _, .bl b => .bl b
  | _, _, .int i => .int i
  | _, _, .str s h => .str s h
  | _, _, .tup h r z => .tup (sqt_pers p h) (Reps.mono p r) z
  | _, _, .lst h r z => .lst (p.2 _ _ _ h) (Reps.mono p r) z
theorem Reps.mono (p : Pers H H') : ∀ {vs : List V} {ds : List D}, Reps K H vs ds → Reps K H' vs ds
  | _, _, .nil => .nil
  | _, _, .cons h r => .cons (Rep.mono p h) (Reps.mono p r)
end
theorem Reps.length : ∀ {vs : List V} {ds : List D}, Reps K H vs ds → vs.length = ds.length
  | _, _, .nil => rfl
  | _, _, .cons _ r => congrArg Nat.succ (Reps.length r)
theorem Reps.get : ∀ {vs : List V} {ds : List D} {i : Nat} {d : D}, Reps K H vs ds → ds[i]? = some d → ∃ v, vs[i]? = some v ∧ Rep K H v d
  | _, _, _, _, .nil, e => by simp at e
  | _, _, 0, _, .cons h _, e => by simp at e; subst e; exact ⟨_, rfl, h⟩
  | _, _, i + 1, d, .cons _ r, e => by
    obtain ⟨v, h1, h2⟩ := Reps.get (i := i) (d := d) r (by simpa using e)
    exact ⟨v, by simpa using h1, h2⟩
theorem Reps.append : ∀ {vs ws : List V} {ds es : List D}, Reps K H vs ds → Reps K H ws es → Reps K H (vs ++ ws) (ds ++ es)
  | _, _, _, _, .nil, s => s
  | _, _, _, _, .cons h r, s => .cons h (Reps.append r s)
theorem Reps.take : ∀ {vs : List V} {ds : List D} (n : Nat), Reps K H vs ds → Reps K H (vs.take n) (ds.take n)
  | _, _, 0, _ => .nil
  | _, _, _ + 1, .nil => .nil
  | _, _, n + 1, .cons h r => .cons h (Reps.take n r)
theorem Reps.drop : ∀ {vs : List V} {ds : List D} (n : Nat), Reps K H vs ds → Reps K H (vs.drop n) (ds.drop n)
  | _, _, 0, r => r
  | _, _, _ + 1, .nil => .nil
  | _, _, n + 1, .cons _ r => Reps.drop n r
theorem Reps.set {v : V} {d : D} (h : Rep K H v d) : ∀ {vs : List V} {ds : List D} (i : Nat), Reps K H vs ds → Reps K H (vs.set i v) (ds.set i d)
  | _, _, _, .nil => .nil
  | _, _, 0, .cons _ r => .cons h r
  | _, _, i + 1, .cons q r => .cons q (Reps.set h i r)
theorem Reps.one {v : V} {d : D} (h : Rep K H v d) : Reps K H [v] [d] := .cons h .nil
theorem Reps.cut {vs : List V} {ds : List D} (lo hi : Option Int) (r : Reps K H vs ds) : Reps K H (cutV vs lo hi) (cut ds lo hi) := by
  unfold cutV Ev.cut
  rw [r.length]
  exact (r.drop _).take _
theorem Rep.int_inv {v : V} {i : Int} (h : Rep K H v (.int i)) : v = .int i := by cases h; rfl
theorem Rep.bl_inv {v : V} {b : Bool} (h : Rep K H v (.bl b)) : v = .bl b := by cases h; rfl
theorem Rep.non_inv {v : V} (h : Rep K H v .non) : v = .non := by cases h; rfl
theorem Rep.str_inv {v : V} {s : List Nat} (h : Rep K H v (.str s)) : v = .str (T s) ∧ s.length ≤ line := by cases h; exact ⟨rfl, by assumption⟩
end

/-- a list may stand unlocked: it is only looked at -/
def RepB (K : PySem.W.Frag) (H : Hp) (v : V) (d : D) : Prop := Rep K H v d ∨ ∃ a vs ds, v = .ref a ∧ d = .lst ds ∧ H a = some (.lst vs) ∧ Reps K H vs ds ∧ ds.length ≤ line
/-- a list is new (none at Hi), its own -/
def FRep (K : PySem.W.Frag) (Hi H : Hp) (v : V) (d : D) : Prop := match d with
  | .lst ds => ∃ a vs, v = .ref a ∧ Hi a = none ∧ H a = some (.lst vs) ∧ Reps K H vs ds ∧ ds.length ≤ line
  | _ => Rep K H v d
section
variable {K : PySem.W.Frag} {Hi H H' : Hp} {v : V} {d : D}
theorem RepB.mono (e : Ex H H') (h : RepB K H v d) : RepB K H' v d := by
  rcases h with h | ⟨a, vs, ds, rfl, rfl, h, r, z⟩
  · exact .inl (h.mono (.of e))
  · exact .inr ⟨a, vs, ds, rfl, rfl, e _ _ h, r.mono (.of e), z⟩
theorem FRep.b (h : FRep K Hi H v d) : RepB K H v d := by
  unfold FRep at h
  split at h
  · obtain ⟨a, vs, e, _, h, r⟩ := h
    exact .inr ⟨a, vs, _, e, rfl, h, r⟩
  · exact .inl h
theorem FRep.mono (e : Ex H H') (h : FRep K Hi H v d) : FRep K Hi H' v d := by
  unfold FRep at h ⊢
  split at h
  · obtain ⟨a, vs, e1, n, h, r, z⟩ := h
    exact ⟨a, vs, e1, n, e _ _ h, r.mono (.of e), z⟩
  · exact h.mono (.of e)
theorem FRep.back (e : Ex Hi H) (h : FRep K H H' v d) : FRep K Hi H' v d := by
  unfold FRep at h ⊢
  split at h
  · obtain ⟨a, vs, e1, n, h, r⟩ := h
    exact ⟨a, vs, e1, Evl.fresh_back e n, h, r⟩
  · exact h
theorem RepB.lst_inv {ds : List D} (h : RepB K H v (.lst ds)) : ∃ a vs, v = .ref a ∧ Rd H a (.lst vs) ∧ Reps K H vs ds := by
  rcases h with h | ⟨a, vs, ds', e, e2, h, r, _⟩
  · cases h with
    | lst h r => exact ⟨_, _, rfl, .inr ⟨_, h⟩, r⟩
  · cases e2
    exact ⟨a, vs, e, .inl h, r⟩
theorem RepB.len {ds : List D} (h : RepB K H v (.lst ds)) : ds.length ≤ line := by
  rcases h with h | ⟨a, vs, ds', e, e2, h, r, z⟩
  · cases h; assumption
  · cases e2; exact z
theorem RepB.lenT {ds : List D} (h : RepB K H v (.tup ds)) : ds.length ≤ line := by
  rcases h with h | ⟨a, vs, ds', e, e2, h, r, z⟩
  · cases h; assumption
  · cases e2
theorem RepB.tup_inv {ds : List D} (h : RepB K H v (.tup ds)) : ∃ a vs, v = .ref a ∧ SqT K H a vs ∧ Reps K H vs ds := by
  rcases h with h | ⟨a, vs, ds', e, e2, h, r⟩
  · cases h with
    | tup h r => exact ⟨_, _, rfl, h, r⟩
  · cases e2
theorem RepB.int_inv {i : Int} (h : RepB K H v (.int i)) : v = .int i := by
  rcases h with h | ⟨a, vs, ds', e, e2, h, r⟩
  · exact h.int_inv
  · cases e2
theorem RepB.bl_inv {b : Bool} (h : RepB K H v (.bl b)) : v = .bl b := by
  rcases h with h | ⟨a, vs, ds', e, e2, h, r⟩
  · exact h.bl_inv
  · cases e2
theorem RepB.non_inv (h : RepB K H v .non) : v = .non := by
  rcases h with h | ⟨a, vs, ds', e, e2, h, r⟩
  · exact h.non_inv
  · cases e2
theorem RepB.str_inv {s : List Nat} (h : RepB K H v (.str s)) : v = .str (T s) ∧ s.length ≤ line := by
  rcases h with h | ⟨a, vs, ds', e, e2, h, r⟩
  · exact h.str_inv
  · cases e2
end

/-- a dict as a list of pairs -/
inductive DRep (K : PySem.W.Frag) (H : Hp) : List (L2.Key × V) → List D → Prop
  | nil : DRep K H [] []
  | cons {s : List Nat} {v : V} {d : D} {kvs : List (L2.Key × V)} {es : List D} : s.length ≤ line → Rep K H v d → DRep K H kvs es → DRep K H ((.inr (T s), v) :: kvs) (.tup [.str s, d] :: es)
theorem DRep.mono {K : PySem.W.Frag} {H H' : Hp} (p : Pers H H') : ∀ {kvs : List (L2.Key × V)} {es : List D}, DRep K H kvs es → DRep K H' kvs es
  | _, _, .nil => .nil
  | _, _, .cons h r z => .cons h (r.mono p) (DRep.mono p z)
theorem DRep.length {K : PySem.W.Frag} {H : Hp} : ∀ {kvs : List (L2.Key × V)} {es : List D}, DRep K H kvs es → kvs.length = es.length
  | _, _, .nil => rfl
  | _, _, .cons _ _ z => congrArg Nat.succ (DRep.length z)
theorem dIs_at (s k : List Nat) (d : D) : dIs s (.tup [.str k, d]) = decide (k = s) := rfl
theorem key_T (k s : List Nat) : ((.inr (T k) : L2.Key) = .inr (T s)) ↔ k = s := ⟨fun h => T_inj (Sum.inr.inj h), fun h => by rw [h]⟩
theorem DRep.val {K : PySem.W.Frag} {H : Hp} (s : List Nat) : ∀ {kvs : List (L2.Key × V)} {es : List D}, DRep K H kvs es → (dFind es s = none ∧ L2.valV kvs (.inr (T s)) = none) ∨ ∃ d v, dFind es s = some d ∧ L2.valV kvs (.inr (T s)) = some v ∧ Rep K H v d
  | _, _, .nil => .inl ⟨rfl, rfl⟩
  | _, _, .cons (s := k) (v := v) (d := d) (kvs := kvs) (es := es) _ r z => by
    by_cases h : k = s
    · refine .inr ⟨d, v, ?_, L2.valV_pos (by rw [h]), r⟩
      unfold dFind
      rw [List.find?_cons, dIs_at, decide_eq_true h]
      rfl
    · have e1 : dFind (.tup [.str k, d] :: es) s = dFind es s := by
        unfold dFind
        rw [List.find?_cons, dIs_at, decide_eq_false h]
      rw [e1, L2.valV_neg (fun e => h ((key_T k s).mp e))]
      exact DRep.val s z
theorem DRep.any {K : PySem.W.Frag} {H : Hp} (s : List Nat) : ∀ {kvs : List (L2.Key × V)} {es : List D}, DRep K H kvs es → (kvs.any fun kv => decide (kv.1 = .inr (T s))) = es.any (dIs s)
  | _, _, .nil => rfl
  | _, _, .cons (s := k) _ r z => by
    rw [List.any_cons, List.any_cons, DRep.any s z, dIs_at]
    congr 1
    exact decide_eq_decide.mpr (key_T k s)
theorem DRep.snoc {K : PySem.W.Frag} {H : Hp} {s : List Nat} {v : V} {d : D} (h : s.length ≤ line) (hv : Rep K H v d) : ∀ {kvs : List (L2.Key × V)} {es : List D}, DRep K H kvs es → DRep K H (kvs ++ [(.inr (T s), v)]) (es ++ [.tup [.str s, d]])
  | _, _, .nil => .cons h hv .nil
  | _, _, .cons a b z => .cons a b (DRep.snoc h hv z)
theorem DRep.repl {K : PySem.W.Frag} {H : Hp} {s : List Nat} {v : V} {d : D} (h : s.length ≤ line) (hv : Rep K H v d) : ∀ {kvs : List (L2.Key × V)} {es : List D}, DRep K H kvs es → DRep K H (kvs.map fun kv => if kv.1 = .inr (T s) then (kv.1, v) else kv) (es.map fun e => if dIs s e then .tup [.str s, d] else e)
  | _, _, .nil => .nil
  | _, _, .cons (s := k) (v := w) (d := c) a b z => by
    have ih := DRep.repl h hv z
    rw [List.map_cons, List.map_cons, dIs_at]
    by_cases e : k = s
    · subst e
      rw [if_pos rfl, if_pos (decide_eq_true rfl)]
      exact .cons a hv ih
    · rw [if_neg (fun q => e ((key_T k s).mp q)), if_neg (by rw [decide_eq_false e]; decide)]
      exact .cons a b ih
theorem DRep.put {K : PySem.W.Frag} {H : Hp} {s : List Nat} {v : V} {d : D} {kvs : List (L2.Key × V)} {es : List D} (h : s.length ≤ line) (hv : Rep K H v d) (r : DRep K H kvs es) : DRep K H (L2.putK kvs (.inr (T s)) v) (dPut es s d) := by
  unfold L2.putK dPut
  rw [r.any s]
  split
  · exact r.repl h hv
  · exact r.snoc h hv
theorem dPut_len (es : List D) (s : List Nat) (d : D) : (dPut es s d).length ≤ es.length + 1 := by
  unfold dPut
  split
  · rw [List.length_map]; omega
  · simp
theorem DRep.get {K : PySem.W.Frag} {H : Hp} : ∀ {kvs : List (L2.Key × V)} {es : List D} {i : Nat} {d : D}, DRep K H kvs es → (dKeys es)[i]? = some d → ∃ k v, kvs[i]? = some (k, v) ∧ Rep K H (L2.kV k) d
  | _, _, _, _, .nil, e => by simp [dKeys] at e
  | _, _, 0, _, .cons (s := k) h _ _, e => by
    simp [dKeys, dKey] at e
    subst e
    exact ⟨_, _, rfl, .str k h⟩
  | _, _, i + 1, d, .cons _ _ z, e => by
    obtain ⟨k, v, h1, h2⟩ := DRep.get (i := i) (d := d) z (by simpa [dKeys] using e)
    exact ⟨k, v, by simpa using h1, h2⟩
/-! ### data for == -/
mutual
theorem py_plain : ∀ d : D, (D.py d).plain = true
  | .non | .bl _ | .int _ | .str _ => by simp [D.py, PyData.plain]
  | .tup xs | .lst xs => by simp [D.py, PyData.plain, py_plainL xs]
theorem py_plainL : ∀ ds : List D, PyData.plainAll (D.pyL ds) = true
  | [] => rfl
  | x :: xs => by simp [D.pyL, PyData.plainAll, py_plain x, py_plainL xs]
end
mutual
theorem py_depth : ∀ d : D, (D.py d).depth ≤ d.depth
  | .non | .bl _ | .int _ | .str _ => by simp [D.py, PyData.depth]
  | .tup xs | .lst xs => by simp [D.py, PyData.depth, D.depth, py_depthL xs]
theorem py_depthL : ∀ ds : List D, PyData.depthAll (D.pyL ds) ≤ D.depthL ds
  | [] => by simp [D.pyL, PyData.depthAll]
  | x :: xs => by
    show max (PyData.depth (D.py x)) (PyData.depthAll (D.pyL xs)) ≤ max (D.depth x) (D.depthL xs)
    have := py_depth x
    have := py_depthL xs
    omega
end
theorem T_beq (x y : List Nat) : (T x == T y) = (x == y) := by
  by_cases h : x = y
  · subst h; simp
  · have : T x ≠ T y := fun e => h (T_inj e)
    rw [beq_eq_false_iff_ne.mpr this, beq_eq_false_iff_ne.mpr h]
mutual
theorem py_eqv : ∀ d e : D, PyData.eqv (D.py d) (D.py e) = D.eqv d e
  | .non, e => by cases e <;> simp [D.py, PyData.eqv, D.eqv]
  | .bl b, e => by cases e <;> simp [D.py, PyData.eqv, D.eqv]
  | .int b, e => by cases e <;> simp [D.py, PyData.eqv, D.eqv]
  | .str b, e => by cases e <;> simp [D.py, PyData.eqv, D.eqv, T_beq]
  | .tup xs, e => by cases e <;> simp [D.py, PyData.eqv, D.eqv, py_eqvL xs]
  | .lst xs, e => by cases e <;> simp [D.py, PyData.eqv, D.eqv, py_eqvL xs]
theorem py_eqvL : ∀ ds es : List D, PyData.eqvAll (D.pyL ds) (D.pyL es) = D.eqvL ds es
  | [], [] => by simp [D.pyL, PyData.eqvAll, D.eqvL]
  | [], _ :: _ => by simp [D.pyL, PyData.eqvAll, D.eqvL]
  | _ :: _, [] => by simp [D.pyL, PyData.eqvAll, D.eqvL]
  | x :: xs, y :: ys => by simp [D.pyL, PyData.eqvAll, D.eqvL, py_eqv x y, py_eqvL xs ys]
end
mutual
theorem Rep.dp {K : PySem.W.Frag} {H : Hp} : ∀ {v : V} {d : D}, Rep K H v d → Dp K H v d.py
  | _, _, .non => by rw [D.py]; exact .non
  | _, _, .bl b => by rw [D.py]; exact .bl b
  | _, _, .int i => by rw [D.py]; exact .int i
  | _, _, .str s _ => by rw [D.py]; exact .str _
  | _, _, .tup h r _ => by rw [D.py]; exact .tup h (Reps.dp r)
  | _, _, .lst h r _ => by rw [D.py]; exact .lst (.inl (.inr ⟨_, h⟩)) (Reps.dp r)
theorem Reps.dp {K : PySem.W.Frag} {H : Hp} : ∀ {vs : List V} {ds : List D}, Reps K H vs ds → DpAll K H vs (D.pyL ds)
  | _, _, .nil => by rw [D.pyL]; exact .nil
  | _, _, .cons h r => by rw [D.pyL]; exact .cons (Rep.dp h) (Reps.dp r)
end
theorem RepB.dp {K : PySem.W.Frag} {H : Hp} {v : V} {d : D} (h : RepB K H v d) : Dp K H v d.py := by
  rcases h with h | ⟨a, vs, ds, rfl, rfl, h, r, _⟩
  · exact h.dp
  · rw [D.py]
    exact .lst (.inl (.inl h)) r.dp
end Ev

/-! A dict whose keys are tuples: made, filled, its keys told. -/
namespace Ev
open PySem PySem.Spec PyProof.Rows L2
open Evl (Ex)
/-- the world, as all slots know it -/
class Wo where
  w : World
/-- what stands at a dict whose keys are tuples: the keys, where they stand -/
def NkP (w : World) (a : Addr) (xs : List (NestedKey × Addr)) (h : Heap) : Prop :=
  (a == sysModules) = false ∧ xs.length ≤ sizeLine ∧ ∃ (o : Obj) (es : Array DictEntry) (ep : Nat) (ys : List (NestedKey × Addr × Value)), h.get? a = some o ∧ o.ExactDict ∧ o.data = .dict es ep ∧
    es.toList = ys.map (fun y => (⟨y.1.hash w, .ref y.2.1, y.2.2⟩ : DictEntry)) ∧ ys.map (fun y => (y.1, y.2.1)) = xs ∧ (xs.map (·.1)).Nodup
def NkO (w : World) (a : Addr) (xs : List (NestedKey × Addr)) : HO := .ext (NkP w a xs)
theorem NkP.at {w : World} {a : Addr} {xs : List (NestedKey × Addr)} {h1 h2 : Heap} (p : NkP w a xs h1) (k : ∀ o, h1.get? a = some o → h2.get? a = some o) : NkP w a xs h2 := by
  obtain ⟨z1, z2, o, es, ep, ys, e, r⟩ := p
  exact ⟨z1, z2, o, es, ep, ys, k o e, r⟩
theorem nk_ok {P : Program} {w : World} {H : Hp} {h : Heap} {a : Addr} {xs : List (NestedKey × Addr)} (p : NkP w a xs h) : ObjOk P w H h a (NkO w a xs) :=
  ⟨p, by obtain ⟨_, _, o, _, _, _, e, _⟩ := p; exact ⟨o, e⟩, fun _ _ q k => q.at k⟩
def nkIns (xs : List (NestedKey × Addr)) (k : NestedKey) (b : Addr) : List (NestedKey × Addr) := if xs.any (fun x => decide (x.1 = k)) then xs else xs ++ [(k, b)]
section
variable {X : Cx} {pos : Pos} {pins : List (Addr × Obj)} {σ : L2.St} {H : Hp} {s : Shared}
theorem pe_nknew : PE X (.Dict [] [] pos) (fun _ H Q => ∀ p, H p = none → Q (.ref p) (upd H p (NkO X.w p []))) := ⟨fun pins s σ H Q I h =>
  wpAny_Dict_empty ⟨.ref s.heap.objs.size, _, I.laid (a := s.heap.objs.size) (o := NkO X.w s.heap.objs.size []) (t' := s.toks) (fun _ _ q => Heap.get?_push_of_some _ q) (Nat.le_refl _)
    (nk_ok ⟨beq_eq_false_iff_ne.mpr (Ne.symm (Nat.ne_of_lt I.big)), Nat.zero_le _, _, #[], 0, [], Heap.get?_push_size _ rfl, ⟨rfl, rfl, rfl⟩, rfl, rfl, rfl, List.nodup_nil⟩), rfl, h _ (I.hok.fresh (Nat.le_refl _))⟩⟩
mutual
theorem rep_nested (I : Inv X pins σ H s) : ∀ (d : D) (v : V) (u : Value) (k : NestedKey), Rep X.K H v d → RelV v u → nkey d = some k → NestedIs s.heap k u
  | .non, _, _, _, h, r, e => by
    cases h
    cases e
    cases r
    exact .none
  | .bl b, _, _, _, h, r, e => by simp [nkey] at e
  | .int i, _, _, _, h, r, e => by
    cases h
    simp only [nkey, Option.some.injEq] at e
    subst e
    obtain ⟨t, rfl⟩ := r
    exact .int i t
  | .str x, _, _, _, h, r, e => by
    cases h
    simp only [nkey, Option.some.injEq] at e
    subst e
    obtain ⟨t, rfl⟩ := r
    exact .text _ t
  | .lst ds, _, _, _, h, r, e => by simp [nkey] at e
  | .tup ds, _, _, _, h, r, e => by
    cases h with
    | tup hs ha hz =>
      cases r
      obtain ⟨its, rv, ⟨o, ho, hc, n, hd⟩, _⟩ := I.tuple hs
      simp only [nkey, Option.map_eq_some_iff] at e
      obtain ⟨ks, e, rfl⟩ := e
      exact .tup ho hc hd (by simpa using reps_nested I ds _ its ks ha rv e)
theorem reps_nested (I : Inv X pins σ H s) : ∀ (ds : List D) (vs : List V) (us : List Value) (ks : List NestedKey), Reps X.K H vs ds → Vals vs us → nkeys ds = some ks → NestedAll s.heap ks us
  | [], _, _, _, h, r, e => by
    cases h
    cases r
    cases e
    exact .nil
  | d :: ds, _, _, _, h, r, e => by
    cases h with
    | cons h1 h2 =>
      cases r with
      | cons r1 r2 =>
        simp only [nkeys] at e
        split at e
        · rename_i k ks e1 e2
          cases e
          exact .cons (rep_nested I d _ _ k h1 r1 e1) (reps_nested I ds _ _ ks h2 r2 e2)
        · cases e
end
/-- the keys as data -/
inductive KRep (K : PySem.W.Frag) (H : Hp) : List (NestedKey × Addr) → List D → Prop
  | nil : KRep K H [] []
  | cons {k : NestedKey} {b : Addr} {d : D} {xs : List (NestedKey × Addr)} {ds : List D} : tkey d = some k → Rep K H (.ref b) d → KRep K H xs ds → KRep K H ((k, b) :: xs) (d :: ds)
theorem KRep.mono {K : PySem.W.Frag} {H H' : Hp} (p : Pers H H') : ∀ {xs : List (NestedKey × Addr)} {ds : List D}, KRep K H xs ds → KRep K H' xs ds
  | _, _, .nil => .nil
  | _, _, .cons h r z => .cons h (r.mono p) (KRep.mono p z)
theorem KRep.length {K : PySem.W.Frag} {H : Hp} : ∀ {xs : List (NestedKey × Addr)} {ds : List D}, KRep K H xs ds → xs.length = ds.length
  | _, _, .nil => rfl
  | _, _, .cons _ _ z => congrArg Nat.succ (KRep.length z)
theorem KRep.snoc {K : PySem.W.Frag} {H : Hp} {k : NestedKey} {b : Addr} {d : D} (h : tkey d = some k) (r : Rep K H (.ref b) d) : ∀ {xs : List (NestedKey × Addr)} {ds : List D}, KRep K H xs ds → KRep K H (xs ++ [(k, b)]) (ds ++ [d])
  | _, _, .nil => .cons h r .nil
  | _, _, .cons a c z => .cons a c (KRep.snoc h r z)
theorem KRep.any {K : PySem.W.Frag} {H : Hp} (k : NestedKey) : ∀ {xs : List (NestedKey × Addr)} {ds : List D}, KRep K H xs ds → (xs.any fun x => decide (x.1 = k)) = ds.any fun e => decide (tkey e = some k)
  | _, _, .nil => rfl
  | _, _, .cons (k := k') h _ z => by
    rw [List.any_cons, List.any_cons, KRep.any k z, h]
    congr 1
    exact decide_eq_decide.mpr ⟨fun e => by rw [show k' = k from e], fun e => Option.some.inj e⟩
theorem KRep.reps {K : PySem.W.Frag} {H : Hp} : ∀ {xs : List (NestedKey × Addr)} {ds : List D}, KRep K H xs ds → Reps K H (xs.map fun x => .ref x.2) ds
  | _, _, .nil => .nil
  | _, _, .cons _ r z => .cons r (KRep.reps z)
theorem tkey_some {d : D} {k : NestedKey} (h : tkey d = some k) : nkey d = some k ∧ k.depth ≤ 8 ∧ ∃ ds, d = .tup ds := by
  unfold tkey at h
  split at h
  · split at h
    · rename_i q
      split at h <;> cases h
      exact ⟨q, by assumption, _, rfl⟩
    · cases h
  · cases h
theorem KRep.is (I : Inv X pins σ H s) : ∀ {xs : List (NestedKey × Addr)} {ds : List D}, KRep X.K H xs ds → ∀ x ∈ xs, (nestedKind X.prog X.w).is s.heap x.1 x.2
  | _, _, .nil, _, h => by cases h
  | _, _, .cons h r z, x, hx => by
    rcases List.mem_cons.mp hx with rfl | hx
    · obtain ⟨h1, h2, _⟩ := tkey_some h
      exact ⟨rep_nested I _ _ _ _ r rfl h1, h2⟩
    · exact KRep.is I z x hx
/-- its raw entries, its keys in the heap -/
theorem nk_dict {xs : List (NestedKey × Addr)} {a : Addr} (p : NkP X.w a xs s.heap) (hk : ∀ x ∈ xs, (nestedKind X.prog X.w).is s.heap x.1 x.2) : ∃ ys : List (NestedKey × Addr × Value), ys.map (fun y => (y.1, y.2.1)) = xs ∧ s.heap.DictOfH (nestedKind X.prog X.w) a ys := by
  obtain ⟨_, _, o, es, ep, ys, e1, e2, e3, e4, e5, e6⟩ := p
  refine ⟨ys, e5, o, es, ep, e1, e2, e3, e4, fun y hy => hk (y.1, y.2.1) (by rw [← e5]; exact List.mem_map_of_mem (f := fun y : NestedKey × Addr × Value => (y.1, y.2.1)) hy), ?_⟩
  rw [← e5, List.map_map] at e6
  exact e6
theorem stored_keys (ys : List (NestedKey × Addr × Value)) (k : NestedKey) (b : Addr) (v : Value) : (storedH ys k b v).map (fun y => (y.1, y.2.1)) = nkIns (ys.map fun y => (y.1, y.2.1)) k b := by
  have ha : (atKey ys k).isSome = ((ys.map fun y => (y.1, y.2.1)).any fun x => decide (x.1 = k)) := by
    unfold atKey
    rw [Option.isSome_map, List.any_map]
    induction ys with
    | nil => rfl
    | cons y ys ih =>
      rw [List.find?_cons, List.any_cons]
      have e : ((fun x : NestedKey × Addr => decide (x.1 = k)) ∘ fun y : NestedKey × Addr × Value => (y.1, y.2.1)) y = decide (y.1 = k) := rfl
      rw [e]
      split
      · rename_i q
        rw [q]; rfl
      · rename_i q
        rw [q, ih]; rfl
  unfold storedH nkIns
  rw [ha]
  split
  · rw [List.map_map]
    refine List.map_congr_left fun y _ => ?_
    show ((putAt k v y).1, (putAt k v y).2.1) = _
    unfold putAt
    split <;> rfl
  · rw [List.map_append]
    rfl
theorem nk_setItem {A : Around} {E : Value → Shared → Prop} {xs : List (NestedKey × Addr)} {ds : List D} {a b : Addr} {d : D} {k : NestedKey} {r : Value} {Q : Unit → Shared → Prop} (hu : A.units + 16 < cLine) (I : Inv X pins σ H s) (e : H a = some (NkO X.w a xs)) (kr : KRep X.K H xs ds)
    (hd : tkey d = some k) (rd : Rep X.K H (.ref b) d) (hl : xs.length < sizeLine) (h : ∀ s', Inv X pins σ (upd H a (NkO X.w a (nkIns xs k b))) s' → Q () s') : wpAny (model X.prog X.w) A (setItem (.ref a) (.ref b) r) Q E s := by
  have p : NkP X.w a xs s.heap := (show ObjOk X.prog X.w H s.heap a (NkO X.w a xs) from I.hok a _ e).1
  obtain ⟨ys, ey, dd⟩ := nk_dict p (kr.is I)
  have hy : ys.length = xs.length := by rw [← ey, List.length_map]
  obtain ⟨t1, t2, _⟩ := tkey_some hd
  have lo := p.1
  refine wpAny_setItem_heap (hsz := by omega) (show A.in1.units + 8 < cLine by show A.units + 1 + 8 < cLine; omega) (show (nestedKind X.prog X.w).is s.heap k b from ⟨rep_nested I _ _ _ _ rd rfl t1, t2⟩) dd fun h' dd' hs => h _ ?_
  obtain ⟨q, es, ep, hq, h2, h3, h4, _, h5⟩ := dd'
  have ek : (storedH ys k b r).map (fun y => (y.1, y.2.1)) = nkIns xs k b := by rw [stored_keys, ey]
  refine d_write I (by rw [e]; exact True.intro) hs ⟨q, hq⟩ (nk_ok ⟨lo, ?_, q, es, ep, _, hq, h2, h3, h4, ek, ?_⟩)
  · unfold nkIns
    split
    · omega
    · simp; omega
  · rw [← ek, List.map_map]
    exact h5
theorem ps_nput {o i value : Expr} {pos pos' : Pos} {td ty tv : TE} (hu : X.A.units + 60 < cLine) (ho : PE X o td) (hi : PE X i ty) (hv : PE X value tv) (hs : swapsWith value (some (.Subscript o i pos')) pos.line X.env = pure false) :
    PS X (.Assign [.Subscript o i pos'] value pos) (fun D σ H => tv σ H fun _ H1 => td σ H1 fun x H2 => ty σ H2 fun y H3 => ∃ (a b : Addr) (xs : List (NestedKey × Addr)) (ks : List Ev.D) (d : Ev.D) (k : NestedKey), x = .ref a ∧ y = .ref b ∧ H3 a = some (NkO X.w a xs) ∧ KRep X.K H3 xs ks ∧ tkey d = some k ∧ Rep X.K H3 (.ref b) d ∧ xs.length < sizeLine ∧ D.nx σ (upd H3 a (NkO X.w a (nkIns xs k b)))) := by
  refine ⟨fun pins s σ H D I h => ?_⟩
  refine wpAny_Assign_Subscript (thn (hv.run pins s σ H _ I h) fun r s1 ⟨v, H1, I1, rv, q1⟩ => thn (ho.run pins s1 σ H1 _ I1 q1) fun u s2 ⟨x, H2, I2, rx, q2⟩ => thn (hi.run pins s2 σ H2 _ I2 q2) fun iv s3 ⟨y, H3, I3, ry, a, b, xs, ks, d, k, ex, ey, e, kr, ek, rd, hl, q3⟩ => ?_) hs
  subst ex ey
  obtain rfl : u = Value.ref a := rx
  obtain rfl : iv = Value.ref b := ry
  exact nk_setItem (by omega) I3 e kr ek rd hl fun s4 I4 => ⟨σ, _, I4, q3⟩
theorem mutX {H H' : Hp} {a : Addr} {xs ys : List (NestedKey × Addr)} {w : World} (p : Pers H H') (h : H' a = some (NkO w a xs)) : Pers H (upd H' a (NkO w a ys)) := by
  refine ⟨fun b zs q => ?_, fun b o u q => ?_⟩
  · have := p.1 b zs q
    by_cases z : b = a
    · subst z; rw [this] at h; cases h
    · rw [upd_ne z]; exact this
  · have := p.2 b o u q
    by_cases z : b = a
    · subst z; rw [this] at h; cases h
    · rw [upd_ne z]; exact this
theorem KRep.ins {K : PySem.W.Frag} {H : Hp} {k : NestedKey} {b : Addr} {d : D} {xs : List (NestedKey × Addr)} {ds fs : List D} (z : KRep K H xs ds) (h : tkey d = some k) (r : Rep K H (.ref b) d) (e : nkAdd ds d = some fs) : KRep K H (nkIns xs k b) fs ∧ xs.length < sizeLine := by
  unfold nkAdd at e
  rw [h] at e
  simp only at e
  split at e
  · rename_i hl
    cases e
    refine ⟨?_, by rw [z.length]; exact hl⟩
    unfold nkIns
    rw [z.any k]
    split
    · exact z
    · exact z.snoc h r
  · cases e
theorem nkAdd_len {ks fs : List D} {d : D} (h : nkAdd ks d = some fs) : fs.length ≤ line := by
  unfold nkAdd at h
  split at h
  · split at h
    · cases h
      split
      · omega
      · simp; omega
    · cases h
  · cases h
/-- list(d): its keys -/
theorem call_list_nk (hc : X.calm = true) : CallR X (.type "list") (fun vs H Q => ∃ (a : Addr) (xs : List (NestedKey × Addr)), vs = [.ref a] ∧ H a = some (NkO X.w a xs) ∧ ∀ p, H p = none → Q (.ref p) (upd H p (.lst (xs.map fun x => .ref x.2)))) := by
  intro pins s σ H vs us Q I r ⟨a, xs, ex, ha, q⟩
  subst ex
  obtain ⟨u, eu, rx⟩ := vals1 r
  subst eu
  cases rx
  obtain ⟨lo, z, o, es, ep, ys, e1, e2, e3, e4, e5, e6⟩ := (show ObjOk X.prog X.w H s.heap a (NkO X.w a xs) from I.hok a _ ha).1
  have es1 : es.size = xs.length := by
    have := congrArg List.length e4
    rw [List.length_map] at this
    rw [← e5, List.length_map, ← this]
    simp
  refine PySem.W.kdl_call (KdlSrc.rawDict (prog := X.prog) (w := X.w) (es := es) (ep := ep) lo) (I.ok.hd hc) ⟨o, e1, e2, e3⟩ (by omega) fun h' tk acc c' hk hD hacc => ?_
  have hv : Vals (xs.map fun x => V.ref x.2) acc.toList := by
    refine vals_of_at (by rw [List.length_map, Array.length_toList]; exact es1.symm.trans hacc.1.symm) fun j x w h1 h2 => ?_
    obtain ⟨hi, e⟩ := hacc.2 j w (by rw [← Array.getElem?_toList]; exact h2)
    have e7 : es.toList[j]? = some es[j] := by rw [Array.getElem?_toList, Array.getElem?_eq_getElem hi]
    rw [e4, List.getElem?_map] at e7
    obtain ⟨y, hy, e8⟩ := Option.map_eq_some_iff.mp e7
    rw [← e5, List.map_map, List.getElem?_map, hy] at h1
    cases h1
    subst e
    rw [← e8]
    rfl
  refine ⟨.ref s.heap.objs.size, upd H s.heap.objs.size (.lst (xs.map fun x => .ref x.2)), I.laid (t' := tk) hk (Nat.le_refl _)
    (show ObjOk X.prog X.w _ _ _ (.lst (xs.map fun x => .ref x.2)) from ⟨by rw [List.length_map]; exact z, acc.toList, c', hv, by rw [Array.toArray_toList]; exact hD⟩), rfl, q _ (I.hok.fresh (Nat.le_refl _))⟩
end
end Ev

/-! Slots and readings. -/
namespace Ev
open PySem PySem.Spec
open PyProof.Rows hiding St
open L2
open Evl (Ex)
variable [Wo]

/-- what a slot's value is, by its flag -/
def SlotAt (K : PySem.W.Frag) (H0 : Hp) (Wr : List Addr) (H : Hp) (v : V) : Fl → D → Prop
  | .sh, d => Rep K H v d
  | .own, d => ∃ a vs ds, v = .ref a ∧ d = .lst ds ∧ H a = some (.lst vs) ∧ Reps K H vs ds ∧ (H0 a = none ∨ a ∈ Wr) ∧ ds.length ≤ line
  | .bor, d => RepB K H0 v d ∧ ∀ a, v = .ref a → a ∉ Wr
  | .prt, d => ∃ a o x vs ds, v = .ref a ∧ d = .lst (.non :: ds) ∧ H a = some (.frz o (.lst (x :: vs))) ∧ Reps K H vs ds ∧ ds.length < line
  | .dic, d => ∃ a kvs es, v = .ref a ∧ d = .lst es ∧ H a = some (.dK kvs) ∧ DRep K H kvs es ∧ H0 a = none ∧ es.length ≤ line
  | .dsh, d => ∃ a o kvs es, v = .ref a ∧ d = .lst es ∧ H a = some (.frz o (.dK kvs)) ∧ DRep K H kvs es ∧ es.length ≤ line
  | .nky, d => ∃ a xs ks, v = .ref a ∧ d = .lst ks ∧ H a = some (NkO Wo.w a xs) ∧ KRep K H xs ks ∧ H0 a = none ∧ ks.length ≤ line
structure REnv (K : PySem.W.Frag) (H0 : Hp) (Wr : List Addr) (H : Hp) (σ : St) (ρ : Env) : Prop where
  len : σ.length = ρ.length
  at_ : ∀ (i : Nat) (f : Fl) (d : D), ρ[i]? = some (some (f, d)) → ∃ v, σ[i]? = some (some v) ∧ SlotAt K H0 Wr H v f d
  dist : ∀ (i j : Nat) (f g : Fl) (d d' : D), i ≠ j → f.isOwn = true → g.isOwn = true → ρ[i]? = some (some (f, d)) → ρ[j]? = some (some (g, d')) → σ[i]? ≠ σ[j]?
  gr : ∀ a o, H0 a = some o → a ∉ Wr → H a = some o
  wr : ∀ a, a ∈ Wr → ∃ xs, H0 a = some (.lst xs)
  wrH : ∀ a, a ∈ Wr → ∃ u, H a = some u
section
variable {K : PySem.W.Frag} {H0 H H' : Hp} {Wr : List Addr} {σ : St} {ρ : Env} {v : V} {d : D} {i : Nat}
theorem REnv.pers0 (R : REnv K H0 Wr H σ ρ) : Pers H0 H := by
  refine ⟨fun a xs h => R.gr a _ h fun hw => ?_, fun a o u h => R.gr a _ h fun hw => ?_⟩
  · obtain ⟨ys, e⟩ := R.wr a hw
    rw [e] at h; cases h
  · obtain ⟨ys, e⟩ := R.wr a hw
    rw [e] at h; cases h
theorem REnv.ex (R : REnv K H0 Wr H σ ρ) (e : Ex H H') : REnv K H0 Wr H' σ ρ := by
  refine ⟨R.len, fun i f d h => ?_, R.dist, fun a o h hw => e a o (R.gr a o h hw), R.wr, fun a h => ?_⟩
  · obtain ⟨v, hv, s⟩ := R.at_ i f d h
    refine ⟨v, hv, ?_⟩
    cases f with
    | sh => exact Rep.mono (.of e) s
    | own =>
      obtain ⟨a, vs, ds, e1, e2, h, r, w⟩ := s
      exact ⟨a, vs, ds, e1, e2, e a _ h, r.mono (.of e), w⟩
    | bor => exact s
    | prt =>
      obtain ⟨a, o, x, vs, ds, e1, e2, h, r, z⟩ := s
      exact ⟨a, o, x, vs, ds, e1, e2, e a _ h, r.mono (.of e), z⟩
    | dic =>
      obtain ⟨a, kvs, es, e1, e2, h, r, z⟩ := s
      exact ⟨a, kvs, es, e1, e2, e a _ h, r.mono (.of e), z⟩
    | dsh =>
      obtain ⟨a, o, kvs, es, e1, e2, h, r, z⟩ := s
      exact ⟨a, o, kvs, es, e1, e2, e a _ h, r.mono (.of e), z⟩
    | nky =>
      obtain ⟨a, xs, ks, e1, e2, h, r, z⟩ := s
      exact ⟨a, xs, ks, e1, e2, e a _ h, r.mono (.of e), z⟩
  · obtain ⟨u, h⟩ := R.wrH a h
    exact ⟨u, e a u h⟩
theorem REnv.sh (R : REnv K H0 Wr H σ ρ) (h : getSh ρ i = some d) : ∃ v, σ[i]? = some (some v) ∧ Rep K H v d := by
  unfold getSh at h
  split at h
  · rename_i q
    cases h
    exact R.at_ i _ _ q
  · cases h
theorem REnv.any (R : REnv K H0 Wr H σ ρ) (h : getAny ρ i = some d) : ∃ v, σ[i]? = some (some v) ∧ RepB K H v d := by
  unfold getAny at h
  split at h
  · cases h
  · cases h
  · cases h
  · cases h
  · rename_i f d' nf nf2 nf3 nf4 q
    cases h
    obtain ⟨v, hv, s⟩ := R.at_ i _ _ q
    refine ⟨v, hv, ?_⟩
    cases f with
    | prt => exact (nf rfl).elim
    | dic => exact (nf2 rfl).elim
    | dsh => exact (nf3 rfl).elim
    | nky => exact (nf4 rfl).elim
    | sh => exact .inl s
    | own =>
      obtain ⟨a, vs, ds, e1, e2, h, r, w, z⟩ := s
      exact .inr ⟨a, vs, ds, e1, e2, h, r, z⟩
    | bor =>
      obtain ⟨s, nw⟩ := s
      rcases s with s | ⟨a, vs, ds, e1, e2, h, r, z⟩
      · exact .inl (s.mono R.pers0)
      · exact .inr ⟨a, vs, ds, e1, e2, R.gr a _ h (nw a e1), r.mono R.pers0, z⟩
  · cases h
omit [Wo] in
theorem getOwn_some {xs : List D} (h : getOwn ρ i = some xs) : ρ[i]? = some (some (.own, .lst xs)) := by
  unfold getOwn at h
  split at h
  · rename_i q
    cases h
    exact q
  · cases h
theorem REnv.own {xs : List D} (R : REnv K H0 Wr H σ ρ) (h : getOwn ρ i = some xs) : ∃ a vs, σ[i]? = some (some (.ref a)) ∧ H a = some (.lst vs) ∧ Reps K H vs xs ∧ (H0 a = none ∨ a ∈ Wr) ∧ xs.length ≤ line := by
  obtain ⟨v, hv, s⟩ := R.at_ i _ _ (getOwn_some h)
  obtain ⟨a, vs, ds, e1, e2, h, r, w⟩ := s
  cases e2
  subst e1
  exact ⟨a, vs, hv, h, r, w⟩
omit [Wo] in
theorem lt_of_get {α : Type} {l : List (Option α)} {x : α} {i : Nat} (h : l[i]? = some (some x)) : i < l.length := (List.getElem?_eq_some_iff.mp h).1
/-- a slot is stored -/
theorem REnv.setN {fl : Fl} (R : REnv K H0 Wr H σ ρ) (hf : fl.isOwn = false) (h : SlotAt K H0 Wr H v fl d) : REnv K H0 Wr H (σ.set i (some v)) (ρ.set i (some (fl, d))) := by
  refine ⟨by simp [R.len], fun j f d' q => ?_, fun j k f g d1 d2 hjk of og q1 q2 => ?_, R.gr, R.wr, R.wrH⟩
  · by_cases hj : i = j
    · subst hj
      by_cases hi : i < ρ.length
      · rw [List.getElem?_set_self hi] at q
        cases q
        exact ⟨v, by rw [List.getElem?_set_self (by rw [R.len]; exact hi)], h⟩
      · rw [List.getElem?_eq_none (by simpa using hi)] at q; cases q
    · rw [List.getElem?_set_ne hj] at q
      obtain ⟨v', hv, s⟩ := R.at_ j f d' q
      exact ⟨v', by rw [List.getElem?_set_ne hj]; exact hv, s⟩
  · have hj : i ≠ j := fun e => by
      subst e
      by_cases hi : i < ρ.length
      · rw [List.getElem?_set_self hi] at q1; cases q1; rw [of] at hf; cases hf
      · rw [List.getElem?_eq_none (by simpa using hi)] at q1; cases q1
    have hk : i ≠ k := fun e => by
      subst e
      by_cases hi : i < ρ.length
      · rw [List.getElem?_set_self hi] at q2; cases q2; rw [og] at hf; cases hf
      · rw [List.getElem?_eq_none (by simpa using hi)] at q2; cases q2
    rw [List.getElem?_set_ne hj] at q1 ⊢
    rw [List.getElem?_set_ne hk] at q2 ⊢
    exact R.dist j k f g d1 d2 hjk of og q1 q2
theorem REnv.set (R : REnv K H0 Wr H σ ρ) (h : Rep K H v d) : REnv K H0 Wr H (σ.set i (some v)) (setV ρ i d) := R.setN (fl := .sh) rfl h
theorem REnv.setP {a : Addr} {o : Obj} {x : V} {vs : List V} {ds : List D} (R : REnv K H0 Wr H σ ρ) (h : H a = some (.frz o (.lst (x :: vs)))) (r : Reps K H vs ds) (z : ds.length < line) : REnv K H0 Wr H (σ.set i (some (.ref a))) (setPrt ρ i ds) :=
  R.setN (fl := .prt) rfl ⟨a, o, x, vs, ds, rfl, rfl, h, r, z⟩
theorem REnv.prt {k : Nat} (R : REnv K H0 Wr H σ ρ) (h : getPrt ρ i k = some d) : ∃ a o vs v, σ[i]? = some (some (.ref a)) ∧ H a = some (.frz o (.lst vs)) ∧ vs[k]? = some v ∧ vs.length ≤ line ∧ Rep K H v d := by
  unfold getPrt at h
  split at h
  · rename_i d0 ds q
    obtain ⟨v, hv, a, o, x, vs, ds', e1, e2, h1, r, z⟩ := R.at_ i _ _ q
    cases e2
    subst e1
    cases k with
    | zero => cases h
    | succ k =>
      obtain ⟨w, hw, rw'⟩ := r.get (show ds[k]? = some d from h)
      exact ⟨a, o, x :: vs, w, hv, h1, by simpa using hw, by rw [List.length_cons, r.length]; omega, rw'⟩
  · cases h
def setSs : List Nat → List V → L2.St → L2.St
  | i :: is, v :: vs, σ => setSs is vs (σ.set i (some v))
  | _, _, σ => σ
theorem REnv.setVs : ∀ {is : List Nat} {vs : List V} {ds : List D} {σ : St} {ρ : Env}, REnv K H0 Wr H σ ρ → Reps K H vs ds → REnv K H0 Wr H (setSs is vs σ) (Ev.setVs is ds ρ)
  | [], _, _, _, _, R, _ => by unfold setSs Ev.setVs; exact R
  | i :: is, _, _, _, _, R, .nil => R
  | i :: is, _, _, _, _, R, .cons h r => REnv.setVs (is := is) (R.set h) r
/-- what is new is stored as one's own; Hi: the heap ahead -/
theorem REnv.setNew {Hi : Hp} {a : Addr} {fl : Fl} (R : REnv K H0 Wr Hi σ ρ) (e : Ex Hi H) (hn : Hi a = none) (h : H0 a = none → SlotAt K H0 Wr H (.ref a) fl d) : REnv K H0 Wr H (σ.set i (some (.ref a))) (ρ.set i (some (fl, d))) := by
  have R1 := R.ex e
  have nw : a ∉ Wr := fun hw => by
    obtain ⟨u, z⟩ := R.wrH a hw
    rw [hn] at z; cases z
  have n0 : H0 a = none := by
    cases q : H0 a with
    | none => rfl
    | some o =>
      have := R.gr a o q nw
      rw [hn] at this; cases this
  have ne : ∀ (j : Nat) (g : Fl) (d' : D), g.isOwn = true → ρ[j]? = some (some (g, d')) → σ[j]? ≠ some (some (.ref a)) := fun j g d' og q z => by
    obtain ⟨v', hv, s⟩ := R.at_ j _ _ q
    rw [z] at hv
    cases hv
    cases g <;> simp only [Fl.isOwn, Bool.false_eq_true] at og
    · obtain ⟨a', vs', ds', e1, e2, h', _⟩ := s
      cases e1
      rw [hn] at h'; cases h'
    · obtain ⟨a', vs', ds', e1, e2, h', _⟩ := s
      cases e1
      rw [hn] at h'; cases h'
    · obtain ⟨a', vs', ds', e1, e2, h', _⟩ := s
      cases e1
      rw [hn] at h'; cases h'
  refine ⟨by simp [R.len], fun j f d' q => ?_, fun j k f g d1 d2 hjk of og q1 q2 => ?_, R1.gr, R1.wr, R1.wrH⟩
  · by_cases hj : i = j
    · subst hj
      by_cases hi : i < ρ.length
      · rw [List.getElem?_set_self hi] at q
        cases q
        exact ⟨.ref a, by rw [List.getElem?_set_self (by rw [R.len]; exact hi)], h n0⟩
      · rw [List.getElem?_eq_none (by simpa using hi)] at q; cases q
    · rw [List.getElem?_set_ne hj] at q
      obtain ⟨v', hv, s⟩ := R1.at_ j f d' q
      exact ⟨v', by rw [List.getElem?_set_ne hj]; exact hv, s⟩
  · by_cases hj : i = j
    · subst hj
      have hk : i ≠ k := hjk
      rw [List.getElem?_set_ne hk] at q2
      have hi : i < σ.length := by
        rw [R.len]
        have := (List.getElem?_eq_some_iff.mp q1).1
        simpa using this
      rw [List.getElem?_set_self hi, List.getElem?_set_ne hk]
      exact fun z => ne k g d2 og q2 z.symm
    · by_cases hk : i = k
      · subst hk
        rw [List.getElem?_set_ne hj] at q1
        have hi : i < σ.length := by
          rw [R.len]
          have := (List.getElem?_eq_some_iff.mp q2).1
          simpa using this
        rw [List.getElem?_set_self hi, List.getElem?_set_ne hj]
        exact ne j f d1 of q1
      · rw [List.getElem?_set_ne hj] at q1 ⊢
        rw [List.getElem?_set_ne hk] at q2 ⊢
        exact R1.dist j k f g d1 d2 hjk of og q1 q2
/-- a new list of its own is stored; Hi: the heap ahead -/
theorem REnv.setF {Hi : Hp} {xs : List D} (R : REnv K H0 Wr Hi σ ρ) (e : Ex Hi H) (h : FRep K Hi H v (.lst xs)) : REnv K H0 Wr H (σ.set i (some v)) (setOwn ρ i xs) := by
  obtain ⟨a, vs, e1, hn, ha, r, hz⟩ := h
  subst e1
  exact R.setNew e hn fun n0 => ⟨a, vs, xs, rfl, rfl, ha, r, .inl n0, hz⟩
/-- what is one's own is changed in its place -/
theorem REnv.upd1 {a : Addr} {u : HO} {f g : Fl} {d0 d1 : D} (R : REnv K H0 Wr H σ ρ) (q0 : ρ[i]? = some (some (f, d0))) (of : f.isOwn = true) (hs : σ[i]? = some (some (.ref a))) (P : Pers H (upd H a u)) (w : H0 a = none ∨ a ∈ Wr)
    (h : SlotAt K H0 Wr (upd H a u) (.ref a) g d1) : REnv K H0 Wr (upd H a u) σ (ρ.set i (some (g, d1))) := by
  have hi : i < ρ.length := lt_of_get q0
  refine ⟨by simp [R.len], fun j f' d' q => ?_, fun j k f1 f2 d1' d2' hjk o1 o2 q1 q2 => ?_, fun b o hb nb => ?_, R.wr, fun b hb => ?_⟩
  · by_cases hj : i = j
    · subst hj
      rw [List.getElem?_set_self hi] at q
      cases q
      exact ⟨.ref a, hs, h⟩
    · rw [List.getElem?_set_ne hj] at q
      obtain ⟨v', hv, s⟩ := R.at_ j f' d' q
      refine ⟨v', hv, ?_⟩
      cases f' with
      | sh => exact Rep.mono P s
      | own =>
        obtain ⟨b, vs', ds', e1, e2, h', r', w'⟩ := s
        have : b ≠ a := fun z => by
          subst z
          subst e1
          exact R.dist i j _ _ _ _ hj of rfl q0 q (hs.trans hv.symm)
        exact ⟨b, vs', ds', e1, e2, by rw [upd_ne this]; exact h', r'.mono P, w'⟩
      | bor => exact s
      | prt =>
        obtain ⟨b, o, x, vs', ds', e1, e2, h', r', z'⟩ := s
        exact ⟨b, o, x, vs', ds', e1, e2, P.2 _ _ _ h', r'.mono P, z'⟩
      | dic =>
        obtain ⟨b, kvs, es, e1, e2, h', r', w'⟩ := s
        have : b ≠ a := fun z => by
          subst z
          subst e1
          exact R.dist i j _ _ _ _ hj of rfl q0 q (hs.trans hv.symm)
        exact ⟨b, kvs, es, e1, e2, by rw [upd_ne this]; exact h', r'.mono P, w'⟩
      | dsh =>
        obtain ⟨b, o, kvs, es, e1, e2, h', r', z'⟩ := s
        exact ⟨b, o, kvs, es, e1, e2, P.2 _ _ _ h', r'.mono P, z'⟩
      | nky =>
        obtain ⟨b, xs, ks, e1, e2, h', r', w'⟩ := s
        have : b ≠ a := fun z => by
          subst z
          subst e1
          exact R.dist i j _ _ _ _ hj of rfl q0 q (hs.trans hv.symm)
        exact ⟨b, xs, ks, e1, e2, by rw [upd_ne this]; exact h', r'.mono P, w'⟩
  · have own : ∀ (k : Nat) (f' : Fl) (d' : D), f'.isOwn = true → (ρ.set i (some (g, d1)))[k]? = some (some (f', d')) → ∃ f'' d'', f''.isOwn = true ∧ ρ[k]? = some (some (f'', d'')) := fun k f' d' o' q => by
      by_cases hk : i = k
      · subst hk; exact ⟨_, _, of, q0⟩
      · rw [List.getElem?_set_ne hk] at q; exact ⟨_, _, o', q⟩
    obtain ⟨_, _, o1, q1⟩ := own j f1 d1' o1 q1
    obtain ⟨_, _, o2, q2⟩ := own k f2 d2' o2 q2
    exact R.dist j k _ _ _ _ hjk o1 o2 q1 q2
  · have : b ≠ a := fun z => by
      subst z
      rcases w with w | w
      · rw [w] at hb; cases hb
      · exact nb w
    rw [upd_ne this]
    exact R.gr b o hb nb
  · by_cases z : b = a
    · subst z; exact ⟨_, upd_same⟩
    · obtain ⟨u, hu⟩ := R.wrH b hb
      exact ⟨u, by rw [upd_ne z]; exact hu⟩
/-- one's own list is written -/
theorem REnv.write {a : Addr} {vs ws : List V} {xs ys : List D} (R : REnv K H0 Wr H σ ρ) (h : getOwn ρ i = some xs) (hs : σ[i]? = some (some (.ref a))) (ha : H a = some (.lst vs)) (r : Reps K H ws ys) (hz : ys.length ≤ line) :
    REnv K H0 Wr (upd H a (.lst ws)) σ (setOwn ρ i ys) ∧ Pers H (upd H a (.lst ws)) := by
  have P : Pers H (upd H a (.lst ws)) := (Pers.refl H).mut ha
  have w : H0 a = none ∨ a ∈ Wr := by
    obtain ⟨a', vs', hs', _, _, w, _⟩ := R.own h
    rw [hs] at hs'; cases hs'
    exact w
  exact ⟨R.upd1 (getOwn_some h) rfl hs P w ⟨a, ws, ys, rfl, rfl, upd_same, r.mono P, w, hz⟩, P⟩
/-- one's own list is locked from here on -/
theorem REnv.lock {a : Addr} {vs : List V} {xs : List D} {o : Obj} (R : REnv K H0 Wr H σ ρ) (h : getOwn ρ i = some xs) (hs : σ[i]? = some (some (.ref a))) (ha : H a = some (.lst vs)) (r : Reps K H vs xs) :
    REnv K H0 Wr (upd H a (.frz o (.lst vs))) σ (setV ρ i (.lst xs)) ∧ Pers H (upd H a (.frz o (.lst vs))) := by
  have P : Pers H (upd H a (.frz o (.lst vs))) := (Pers.refl H).mut ha
  have w : H0 a = none ∨ a ∈ Wr := by
    obtain ⟨a', vs', hs', _, _, w, _⟩ := R.own h
    rw [hs] at hs'; cases hs'
    exact w
  exact ⟨R.upd1 (getOwn_some h) rfl hs P w (.lst upd_same (r.mono P) (R.own h).choose_spec.choose_spec.2.2.2.2), P⟩
/-! ### dicts -/
omit [Wo] in
theorem getDic_some {es : List D} (h : getDic ρ i = some es) : ρ[i]? = some (some (.dic, .lst es)) := by
  unfold getDic at h
  split at h
  · rename_i q; cases h; exact q
  · cases h
omit [Wo] in
theorem getDsh_some {es : List D} (h : getDsh ρ i = some es) : ρ[i]? = some (some (.dsh, .lst es)) := by
  unfold getDsh at h
  split at h
  · rename_i q; cases h; exact q
  · cases h
theorem REnv.dic {es : List D} (R : REnv K H0 Wr H σ ρ) (h : getDic ρ i = some es) : ∃ a kvs, σ[i]? = some (some (.ref a)) ∧ H a = some (.dK kvs) ∧ DRep K H kvs es ∧ H0 a = none ∧ es.length ≤ line := by
  obtain ⟨v, hv, a, kvs, es', e1, e2, r⟩ := R.at_ i _ _ (getDic_some h)
  cases e2
  subst e1
  exact ⟨a, kvs, hv, r⟩
theorem REnv.dsh {es : List D} (R : REnv K H0 Wr H σ ρ) (h : getDsh ρ i = some es) : ∃ a o kvs, σ[i]? = some (some (.ref a)) ∧ H a = some (.frz o (.dK kvs)) ∧ DRep K H kvs es ∧ es.length ≤ line := by
  obtain ⟨v, hv, a, o, kvs, es', e1, e2, r⟩ := R.at_ i _ _ (getDsh_some h)
  cases e2
  subst e1
  exact ⟨a, o, kvs, hv, r⟩
theorem REnv.dd {es : List D} (R : REnv K H0 Wr H σ ρ) (h : getDD ρ i = some es) : ∃ a kvs, σ[i]? = some (some (.ref a)) ∧ Rd H a (.dK kvs) ∧ DRep K H kvs es ∧ es.length ≤ line := by
  unfold getDD at h
  split at h
  · rename_i q
    cases h
    obtain ⟨a, kvs, h1, h2, h3, _, h4⟩ := R.dic q
    exact ⟨a, kvs, h1, .inl h2, h3, h4⟩
  · obtain ⟨a, o, kvs, h1, h2, h3, h4⟩ := R.dsh h
    exact ⟨a, kvs, h1, .inr ⟨o, h2⟩, h3, h4⟩
/-- a new dict is stored -/
theorem REnv.setD {Hi : Hp} {a : Addr} {kvs : List (L2.Key × V)} {es : List D} (R : REnv K H0 Wr Hi σ ρ) (e : Ex Hi H) (hn : Hi a = none) (h : H a = some (.dK kvs)) (r : DRep K H kvs es) (z : es.length ≤ line) : REnv K H0 Wr H (σ.set i (some (.ref a))) (setDic ρ i es) :=
  R.setNew e hn fun n0 => ⟨a, kvs, es, rfl, rfl, h, r, n0, z⟩
/-- one's own dict is written -/
theorem REnv.writeD {a : Addr} {kvs ls : List (L2.Key × V)} {es fs : List D} (R : REnv K H0 Wr H σ ρ) (h : getDic ρ i = some es) (hs : σ[i]? = some (some (.ref a))) (ha : H a = some (.dK kvs)) (r : DRep K H ls fs) (z : fs.length ≤ line) :
    REnv K H0 Wr (upd H a (.dK ls)) σ (setDic ρ i fs) ∧ Pers H (upd H a (.dK ls)) := by
  have P : Pers H (upd H a (.dK ls)) := (Pers.refl H).mutD ha
  have w : H0 a = none := by
    obtain ⟨a', kvs', hs', _, _, w, _⟩ := R.dic h
    rw [hs] at hs'; cases hs'
    exact w
  exact ⟨R.upd1 (getDic_some h) rfl hs P (.inl w) ⟨a, ls, fs, rfl, rfl, upd_same, r.mono P, w, z⟩, P⟩
/-! ### dicts whose keys are tuples -/
omit [Wo] in
theorem getNk_some {ks : List D} (h : getNk ρ i = some ks) : ρ[i]? = some (some (.nky, .lst ks)) := by
  unfold getNk at h
  split at h
  · rename_i q; cases h; exact q
  · cases h
theorem REnv.nk {ks : List D} (R : REnv K H0 Wr H σ ρ) (h : getNk ρ i = some ks) : ∃ a xs, σ[i]? = some (some (.ref a)) ∧ H a = some (NkO Wo.w a xs) ∧ KRep K H xs ks ∧ H0 a = none ∧ ks.length ≤ line := by
  obtain ⟨v, hv, a, xs, ks', e1, e2, r⟩ := R.at_ i _ _ (getNk_some h)
  cases e2
  subst e1
  exact ⟨a, xs, hv, r⟩
theorem REnv.setX {Hi : Hp} {a : Addr} (R : REnv K H0 Wr Hi σ ρ) (e : Ex Hi H) (hn : Hi a = none) (h : H a = some (NkO Wo.w a [])) : REnv K H0 Wr H (σ.set i (some (.ref a))) (setNk ρ i []) :=
  R.setNew e hn fun n0 => ⟨a, [], [], rfl, rfl, h, .nil, n0, Nat.zero_le _⟩
theorem REnv.writeX {a : Addr} {xs ys : List (NestedKey × Addr)} {ks fs : List D} (R : REnv K H0 Wr H σ ρ) (h : getNk ρ i = some ks) (hs : σ[i]? = some (some (.ref a))) (ha : H a = some (NkO Wo.w a xs)) (r : KRep K H ys fs) (z : fs.length ≤ line) :
    REnv K H0 Wr (upd H a (NkO Wo.w a ys)) σ (setNk ρ i fs) ∧ Pers H (upd H a (NkO Wo.w a ys)) := by
  have P : Pers H (upd H a (NkO Wo.w a ys)) := mutX (Pers.refl H) ha
  have w : H0 a = none := by
    obtain ⟨a', xs', hs', _, _, w, _⟩ := R.nk h
    rw [hs] at hs'; cases hs'
    exact w
  exact ⟨R.upd1 (getNk_some h) rfl hs P (.inl w) ⟨a, ys, fs, rfl, rfl, upd_same, r.mono P, w, z⟩, P⟩
/-- one's own dict is locked -/
theorem REnv.lockD {a : Addr} {kvs : List (L2.Key × V)} {es : List D} {o : Obj} (R : REnv K H0 Wr H σ ρ) (h : getDic ρ i = some es) (hs : σ[i]? = some (some (.ref a))) (ha : H a = some (.dK kvs)) (r : DRep K H kvs es) :
    REnv K H0 Wr (upd H a (.frz o (.dK kvs))) σ (ρ.set i (some (.dsh, .lst es))) ∧ Pers H (upd H a (.frz o (.dK kvs))) := by
  have P : Pers H (upd H a (.frz o (.dK kvs))) := (Pers.refl H).mutD ha
  obtain ⟨a', kvs', hs', _, _, w, z⟩ := R.dic h
  rw [hs] at hs'; cases hs'
  exact ⟨R.upd1 (getDic_some h) rfl hs P (.inl w) ⟨a, o, kvs, es, rfl, rfl, upd_same, r.mono P, z⟩, P⟩
end

/-! ### readings -/
/-- what is wanted of an exception, by its number -/
abbrev WN := Nat → St → Hp → Prop
def Gd {α : Type} (W : WN) (σ : St) (H : Hp) (r : Res α) (P : α → Prop) : Prop := match r with
  | .ok a => P a
  | .exc c => ∀ H', Ex H H' → W c σ H'
  | .fail => False
section
variable {α β : Type} {W : WN} {σ : St} {H H' : Hp} {P P' : α → Prop}
omit [Wo] in
theorem Gd.bind {r : Res α} {f : α → Res β} {P : β → Prop} (h : Gd W σ H (r >>= f) P) : Gd W σ H r fun a => Gd W σ H (f a) P := by
  cases r <;> exact h
omit [Wo] in
theorem Gd.mono {r : Res α} (h : Gd W σ H r P) (m : ∀ a, P a → P' a) : Gd W σ H r P' := by
  cases r with
  | ok a => exact m a h
  | exc c => exact h
  | fail => exact h
omit [Wo] in
theorem Gd.ex {r : Res α} (e : Ex H H') (h : Gd W σ H r P) : Gd W σ H' r P := by
  cases r with
  | ok a => exact h
  | exc c => exact fun H2 e2 => h H2 (e.trans e2)
  | fail => exact h
omit [Wo] in
theorem Gd.o {o : Option α} (h : Gd W σ H (ofO o) P) : ∃ a, o = some a ∧ P a := by
  cases o with
  | none => exact h.elim
  | some a => exact ⟨a, rfl, h⟩
end
inductive Kd where | C | V | B
def RepK (k : Kd) (K : PySem.W.Frag) (Hi H : Hp) (v : V) (d : D) : Prop := match k with
  | .C => FRep K Hi H v d
  | .V => Rep K H v d
  | .B => RepB K H v d
omit [Wo] in
theorem RepK.b {k : Kd} {K : PySem.W.Frag} {Hi H : Hp} {v : V} {d : D} (h : RepK k K Hi H v d) : RepB K H v d := by
  cases k with
  | C => exact FRep.b h
  | V => exact .inl h
  | B => exact h
/-- an expression's reading: Hs the slots stand for ρ, and what ρ gives is what follows wants -/
def rd (k : Kd) (K : PySem.W.Frag) (W : WN) (r : Env → Res D) : TE := fun σ H Q => ∃ H0 Wr ρ, REnv K H0 Wr H σ ρ ∧ Gd W σ H (r ρ) fun d => ∀ v H', Ex H H' → RepK k K H H' v d → Q v H'
def rdA (K : PySem.W.Frag) (W : WN) (r : Env → Res (List D)) (ok : List V → Hp → List D → Prop) : TA := fun σ H Q => ∃ H0 Wr ρ, REnv K H0 Wr H σ ρ ∧ Gd W σ H (r ρ) fun ds => ∀ vs H', Ex H H' → ok vs H' ds → Q vs H'
def rdT (K : PySem.W.Frag) (W : WN) (r : Env → Res Bool) : TT := fun σ H Q => ∃ H0 Wr ρ, REnv K H0 Wr H σ ρ ∧ Gd W σ H (r ρ) fun b => ∀ H', Ex H H' → Q b H'
section
variable {X : Cx} {e : Expr}
omit [Wo] in
theorem pe_imp {t t' : TE} (h : PE X e t) (m : ∀ σ H Q, t' σ H Q → t σ H Q) : PE X e t' := ⟨fun pins s σ H Q I q => h.run pins s σ H Q I (m σ H Q q)⟩
omit [Wo] in
theorem pt_imp {t t' : TT} (h : PT X e t) (m : ∀ σ H Q, t' σ H Q → t σ H Q) : PT X e t' := ⟨fun pins s σ H Q I q => h.run pins s σ H Q I (m σ H Q q)⟩
omit [Wo] in
theorem pw_imp {t t' : TT} (h : PW X e t) (m : ∀ σ H Q, t' σ H Q → t σ H Q) : PW X e t' := ⟨fun wh pins s σ H Q I q => h.run wh pins s σ H Q I (m σ H Q q)⟩
omit [Wo] in
theorem pa_imp {es : List Expr} {t t' : TA} (h : PA X es t) (m : ∀ σ H Q, t' σ H Q → t σ H Q) : PA X es t' := ⟨fun pos pins s σ H Q I q => h.run pos pins s σ H Q I (m σ H Q q)⟩
omit [Wo] in
/-- a list just made may be locked -/
theorem pe_lk {t : TE} (h : PE X e t) : PE X e (fun σ H Q => t σ H fun v H' => (∃ a vs, v = .ref a ∧ H' a = some (.lst vs) ∧ ∀ o, Q v (upd H' a (.frz o (.lst vs)))) ∨ Q v H') := by
  refine ⟨fun pins s σ H Q I hw => thn (h.run pins s σ H _ I hw) fun u s1 ⟨v, H1, I1, r, q⟩ => ?_⟩
  rcases q with ⟨a, vs, rfl, ha, q⟩ | q
  · obtain ⟨od, I2⟩ := I1.lock ha trivial
    exact ⟨_, _, I2, r, q od⟩
  · exact ⟨v, H1, I1, r, q⟩
/-- so what is new is a value -/
theorem pe_val {K : PySem.W.Frag} {W : WN} {r : Env → Res D} (h : PE X e (rd .C K W r)) : PE X e (rd .V K W r) := by
  refine pe_imp (pe_lk h) fun σ H Q ⟨H0, Wr, ρ, R, g⟩ => ⟨H0, Wr, ρ, R, g.mono fun d q v H' ex f => ?_⟩
  cases d with
  | lst ds =>
    obtain ⟨a, vs, rfl, hn, ha, rr, hz⟩ := f
    refine .inl ⟨a, vs, rfl, ha, fun o => q _ _ (fun b u hb => ?_) (.lst upd_same (rr.mono ((Pers.refl _).mut ha)) hz)⟩
    rw [upd_ne (ne_of_none hb hn)]
    exact ex b u hb
  | _ => exact .inr (q v H' ex f)
theorem pe_b {K : PySem.W.Frag} {W : WN} {k : Kd} {r : Env → Res D} (h : PE X e (rd k K W r)) : PE X e (rd .B K W r) :=
  pe_imp h fun σ H Q ⟨H0, Wr, ρ, R, g⟩ => ⟨H0, Wr, ρ, R, g.mono fun d q v H' ex f => q v H' ex f.b⟩
end
end Ev

/-! The operations by values. -/
namespace Ev
open PySem PySem.Spec
open PyProof.Rows hiding St
open L2
open Evl (Ex)
variable [Wo]

omit [Wo] in
theorem pow64 : (2 : Int) ^ 64 = 18446744073709551616 := by decide
def Bo.py : Bo → Operator
  | .add => .Add | .sub => .Sub | .mul => .Mult | .fdiv => .FloorDiv | .mod => .Mod | .pow => .Pow | .shl => .LShift
def Co.py : Co → CmpOp
  | .eq => .Eq | .ne => .NotEq | .lt => .Lt | .le => .LtE | .gt => .Gt | .ge => .GtE | .isin => .In | .notin => .NotIn
section
variable {X : Cx}
omit [Wo] in
theorem rd_lst {pins : List (Addr × Obj)} {σ : St} {H : Hp} {s : Shared} {a : Addr} {xs : List V} (I : Inv X pins σ H s) (h : Rd H a (.lst xs)) :
    xs.length ≤ sizeLine ∧ ∃ (its : List Value) (n : Nat), Vals xs its ∧ xs.length = its.length ∧ s.heap.get? a = some { cls := .type "list", data := .seq its.toArray n } := by
  obtain ⟨z, its, n, r, e⟩ := h.ok I.hok
  exact ⟨z, its, n, r, r.length, e⟩
omit [Wo] in
/-- a + b of lists, locked or not -/
theorem op_catR : OpR X (binaryOp .Add) (fun x y H Q => ∃ l b xs zs, x = .ref l ∧ y = .ref b ∧ Rd H l (.lst xs) ∧ Rd H b (.lst zs) ∧ xs.length + zs.length ≤ sizeLine ∧ ∀ p, H p = none → Q (.ref p) (upd H p (.lst (xs ++ zs)))) := by
  intro pins s σ H x y v u Q I rx ry h
  obtain ⟨l, b, xs, zs, rfl, rfl, hH, hB, hz, q⟩ := h
  cases rx
  cases ry
  obtain ⟨z, its, n, r, hl, e⟩ := rd_lst I hH
  obtain ⟨z2, its2, n2, r2, hl2, e2⟩ := rd_lst I hB
  refine PySem.P.add_list e e2 ?_ (by rw [List.size_toArray, List.size_toArray]; omega)
  have ea : its.toArray ++ its2.toArray = (its ++ its2).toArray := by simp
  rw [ea]
  exact ⟨.ref _, _, I.lnew (t' := s.toks) (r.append r2) (by rw [List.length_append]; omega), rfl, q _ I.fresh⟩
omit [Wo] in
/-- a new object's place -/
theorem frep_lst {K : PySem.W.Frag} {H : Hp} {p : Addr} {vs : List V} {ds : List D} (hp : H p = none) (r : Reps K H vs ds) (z : ds.length ≤ line) : FRep K H (upd H p (.lst vs)) (.ref p) (.lst ds) :=
  ⟨p, vs, rfl, hp, upd_same, r.mono (.of (Ex.new hp)), z⟩
omit [Wo] in
theorem rep_tup {K : PySem.W.Frag} {H : Hp} {p : Addr} {vs : List V} {ds : List D} (hp : H p = none) (r : Reps K H vs ds) (z : ds.length ≤ line) : Rep K (upd H p (.tup vs)) (.ref p) (.tup ds) :=
  .tup (.inl (.inl upd_same)) (r.mono (.of (Ex.new hp))) z
omit [Wo] in
theorem ex_new {H : Hp} {p : Addr} {o : HO} (hp : H p = none) : Ex H (upd H p o) := Ex.new hp

omit [Wo] in
theorem rep_len {α : Type} (s : List α) : ∀ n : Nat, (List.replicate n s).flatten.length = n * s.length
  | 0 => by simp
  | n + 1 => by
    rw [List.replicate_succ, List.flatten_cons, List.length_append, rep_len s n, Nat.add_mul]
    omega
omit [Wo] in
theorem reps_rep {K : PySem.W.Frag} {H : Hp} {vs : List V} {ds : List D} (r : Reps K H vs ds) : ∀ n : Nat, Reps K H (List.replicate n vs).flatten (List.replicate n ds).flatten
  | 0 => .nil
  | n + 1 => by
    rw [List.replicate_succ, List.replicate_succ, List.flatten_cons, List.flatten_cons]
    exact r.append (reps_rep r n)
omit [Wo] in
theorem fold_rep (s : List Nat) : ∀ (n : Nat) (acc : List Nat), (List.replicate n s.toArray).foldl (· ++ ·) acc.toArray = (acc ++ (List.replicate n s).flatten).toArray
  | 0, acc => by simp
  | n + 1, acc => by
    rw [List.replicate_succ, List.foldl_cons, List.append_toArray, fold_rep s n, List.replicate_succ, List.flatten_cons, List.append_assoc]
omit [Wo] in
theorem T_mul (s : List Nat) (i : Int) : PySem.Txt.mul (T s) i = T (List.replicate i.toNat s).flatten := by
  unfold PySem.Txt.mul
  by_cases h1 : i < 1
  · rw [if_pos h1, show i.toNat = 0 by omega]
    rfl
  · rw [if_neg h1]
    by_cases h2 : (i == 1 || (T s).length == 0) = true
    · rw [if_pos h2]
      rw [Bool.or_eq_true, beq_iff_eq, beq_iff_eq, T_len] at h2
      rcases h2 with h2 | h2
      · subst h2
        simp
      · have : s = [] := List.length_eq_zero_iff.mp h2
        subst this
        have : (List.replicate i.toNat ([] : List Nat)).flatten = [] := by
          rw [← List.length_eq_zero_iff, rep_len]
          simp
        rw [this]
    · rw [if_neg h2]
      have := fold_rep s i.toNat []
      rw [List.nil_append] at this
      unfold T
      rw [← this]
omit [Wo] in
theorem mul_okT {s : List Nat} {i : Int} (h1 : -(line : Int) ≤ i) (h2 : i ≤ line) (h3 : s.length * i.toNat ≤ line) : PySem.MulOk (T s) i := by
  have lv : line = 16777216 := by decide
  refine mulOk_of (L := s.length) (N := i.toNat) (by rw [T_len]; exact Nat.le_refl _) (by omega) (by omega) (by omega) (by omega)
omit [Wo] in
/-- a list times a number, locked or not -/
theorem op_repR : OpR X (binaryOp .Mult) (fun x y H Q => ∃ l k xs, x = .ref l ∧ y = .int k ∧ Rd H l (.lst xs) ∧ -(2 ^ 63) ≤ k ∧ k < 2 ^ 63 ∧ xs.length * k.toNat ≤ sizeLine ∧ ∀ p, H p = none → Q (.ref p) (upd H p (.lst (List.replicate k.toNat xs).flatten))) := by
  intro pins s σ H x y v u Q I rx ry h
  obtain ⟨l, k, xs, rfl, rfl, hH, h1, h2, hz, q⟩ := h
  cases rx
  obtain ⟨t, rfl⟩ := ry
  obtain ⟨z, its, n, r, hl, e⟩ := rd_lst I hH
  have hlen : its.toArray.size * k.toNat ≤ sizeLine := by rw [List.size_toArray, ← hl]; exact hz
  have hcap : ¬ its.toArray.size * k.toNat > (2 ^ 63 - 1) / 8 := by
    have : (sizeLine : Nat) ≤ (2 ^ 63 - 1) / 8 := by decide
    omega
  have hfit : ¬ (!Builtin.List.listFitsIndex k) = true := by
    rw [fitsIndex_both h1 h2]
    exact Bool.false_ne_true
  have hlong : ¬ Builtin.List.listTooLong (its.toArray.size * k.toNat) = true := by
    rw [notLongL hlen]
    exact Bool.false_ne_true
  have hnew : List.foldl (fun x1 x2 => x1 ++ x2) #[] (List.replicate (if its.toArray.isEmpty = true then 0 else k.toNat) its.toArray) = (List.replicate k.toNat its).flatten.toArray := by
    have f0 : ∀ m : Nat, List.foldl (fun x1 x2 => x1 ++ x2) #[] (List.replicate m its.toArray) = (List.replicate m its).flatten.toArray := fun m => by
      have := foldl_rep its m []
      rw [List.nil_append] at this
      exact this
    rw [f0]
    cases its with
    | nil => simp
    | cons a r' => rw [if_neg (by simp)]
  refine wpAny_binaryOp_repeat_ref (T := "list") (U := "int") (by decide) ⟨_, e, rfl⟩ (fun s' => typeIs_int s' k t) noFill_list_mul PySem.F.fills_int_mul PySem.F.slot_int_rmul repeat_list PySem.F.slot_int_index.lookup
    (call_meets PySem.F.slot_int_rmul (typeIs_int s k t) PySem.F.entry_int_rmul (PySem.F.args_int_rmul_2 _ _) (int___rmul___int_list k t l its.toArray n)
      ⟨e, rfl, ⟨_, e, rfl⟩, call_meets PySem.F.slot_list_mul ⟨_, e, rfl⟩ PySem.F.entry_list_mul (PySem.F.args_list_mul_2 _ _) (AutoListH.list___mul___list_int_3 l its.toArray n k t hfit hcap hlong) ⟨e, ?_⟩⟩)
  rw [hnew]
  exact ⟨.ref _, _, I.lnew (t' := s.toks) (r.rep k.toNat) (by rw [PyProof.Rows.lm_len_rep_flat, Nat.mul_comm]; exact hz), rfl, q _ I.fresh⟩
def rB (K : PySem.W.Frag) (o : Bo) : R2 := fun x y H Q => ∃ dx dy d, RepB K H x dx ∧ RepB K H y dy ∧ opB o dx dy = some d ∧ ∀ v H', Ex H H' → FRep K H H' v d → Q v H'
omit [Wo] in
theorem op_B (o : Bo) : OpR X (binaryOp o.py) (rB X.K o) := by
  intro pins s σ H x y v u Q I rx ry ⟨dx, dy, d, hx, hy, e, q⟩
  have int2 : ∀ {r : R2} {i j : Int}, OpR X (binaryOp o.py) r → x = .int i → y = .int j → r (.int i) (.int j) H Q → wpAny (model X.prog X.w) X.A (binaryOp o.py v u) (EP X pins σ Q) X.xe s := fun ho e1 e2 h => by
    subst e1; subst e2
    exact ho pins s σ H _ _ v u Q I rx ry h
  cases o with
  | add =>
    cases dx <;> cases dy <;> simp only [opB, reduceCtorEq] at e
    · cases e
      exact int2 op_add hx.int_inv hy.int_inv ⟨_, _, rfl, rfl, q _ _ (Ex.refl H) (.int _)⟩
    · rename_i a b
      split at e <;> cases e
      rename_i hl
      obtain ⟨e1, l1⟩ := hx.str_inv
      obtain ⟨e2, l2⟩ := hy.str_inv
      subst e1; subst e2
      refine op_add_str pins s σ H _ _ v u Q I rx ry ⟨_, _, rfl, rfl, by rw [T_len, T_len]; exact hl, ?_⟩
      rw [T_app]
      exact q _ _ (Ex.refl H) (.str _ (by rw [List.length_append]; exact hl))
    · rename_i a b
      split at e <;> cases e
      rename_i hl
      obtain ⟨p, vs, e1, h1, r1⟩ := hx.tup_inv
      obtain ⟨p2, vs2, e2, h2, r2⟩ := hy.tup_inv
      subst e1; subst e2
      refine op_catA pins s σ H _ _ v u Q I rx ry ⟨_, _, _, _, rfl, rfl, h1, h2, by rw [r1.length, r2.length]; exact hl, fun z => ?_, fun _ z => ?_, fun _ _ p hp => ?_⟩
      · subst z
        have : a = [] := by have := r1.length; simpa using this.symm
        subst this
        exact q _ _ (Ex.refl H) (.tup h2 r2 hy.lenT)
      · subst z
        have : b = [] := by have := r2.length; simpa using this.symm
        subst this
        rw [List.append_nil] at q
        exact q _ _ (Ex.refl H) (.tup h1 r1 hx.lenT)
      · exact q _ _ (Ex.new hp) (rep_tup hp (r1.append r2) (by rw [List.length_append]; exact hl))
    · rename_i a b
      split at e <;> cases e
      rename_i hl
      obtain ⟨p, vs, e1, h1, r1⟩ := hx.lst_inv
      obtain ⟨p2, vs2, e2, h2, r2⟩ := hy.lst_inv
      subst e1; subst e2
      exact op_catR pins s σ H _ _ v u Q I rx ry ⟨_, _, _, _, rfl, rfl, h1, h2, by rw [r1.length, r2.length]; exact hl, fun p hp => q _ _ (Ex.new hp) (frep_lst hp (r1.append r2) (by rw [List.length_append]; exact hl))⟩
  | sub =>
    cases dx <;> cases dy <;> simp only [opB, reduceCtorEq] at e
    cases e
    exact int2 op_sub hx.int_inv hy.int_inv ⟨_, _, rfl, rfl, q _ _ (Ex.refl H) (.int _)⟩
  | mul =>
    cases dx <;> cases dy <;> simp only [opB, reduceCtorEq] at e
    · rename_i i j
      split at e <;> cases e
      rename_i hl
      refine int2 op_mul hx.int_inv hy.int_inv ⟨_, _, rfl, rfl, ?_, q _ _ (Ex.refl H) (.int _)⟩
      rcases hl with hl | hl
      · exact .inl (by rw [pow64]; omega)
      · exact .inr (by rw [pow64]; omega)
    · rename_i a i
      split at e <;> cases e
      rename_i hl
      obtain ⟨e1, l1⟩ := hx.str_inv
      have e2 := hy.int_inv
      subst e1; subst e2
      obtain ⟨t, rfl⟩ := rx
      obtain ⟨t2, rfl⟩ := ry
      refine PySem.SB.mul (mul_okT hl.1 hl.2.1 hl.2.2) fun t' k => ?_
      rw [T_mul]
      exact ⟨.str (T (List.replicate i.toNat a).flatten), H, I.tok k, ⟨t', rfl⟩, q _ _ (Ex.refl H) (.str _ (by rw [rep_len, Nat.mul_comm]; exact hl.2.2))⟩
    · rename_i a i
      split at e <;> cases e
      rename_i hl
      obtain ⟨p, vs, e1, h1, r1⟩ := hx.lst_inv
      have e2 := hy.int_inv
      subst e1; subst e2
      refine op_repR pins s σ H _ _ v u Q I rx ry ⟨_, _, _, rfl, rfl, h1, ?_, ?_, by rw [r1.length]; exact hl.2.2, fun p hp => q _ _ (Ex.new hp) (frep_lst hp (reps_rep r1 _) (by rw [rep_len, Nat.mul_comm]; exact hl.2.2))⟩
      · have := hl.1
        have lv : line = 16777216 := by decide
        omega
      · have := hl.2.1
        have lv : line = 16777216 := by decide
        omega
  | fdiv =>
    cases dx <;> cases dy <;> simp only [opB, reduceCtorEq] at e
    rename_i i j
    split at e <;> cases e
    rename_i hl
    exact int2 op_fdiv hx.int_inv hy.int_inv ⟨_, _, rfl, rfl, hl, q _ _ (Ex.refl H) (.int _)⟩
  | mod =>
    cases dx <;> cases dy <;> simp only [opB, reduceCtorEq] at e
    rename_i i j
    split at e <;> cases e
    rename_i hl
    exact int2 op_mod hx.int_inv hy.int_inv ⟨_, _, rfl, rfl, hl, q _ _ (Ex.refl H) (.int _)⟩
  | pow =>
    cases dx <;> cases dy <;> simp only [opB, reduceCtorEq] at e
    rename_i i j
    split at e <;> cases e
    rename_i hl
    exact int2 op_pow hx.int_inv hy.int_inv ⟨_, _, rfl, rfl, ⟨hl.1, by omega, hl.2.2⟩, q _ _ (Ex.refl H) (.int _)⟩
  | shl =>
    cases dx <;> cases dy <;> simp only [opB, reduceCtorEq] at e
    rename_i i j
    split at e <;> cases e
    rename_i hl
    exact int2 op_shl hx.int_inv hy.int_inv ⟨_, _, rfl, rfl, ⟨hl.1, by omega, hl.2.2⟩, q _ _ (Ex.refl H) (.int _)⟩

/-! ### comparisons -/
omit [Wo] in
theorem room_min {A : Around} (hu : A.units + 160 < cLine) {d e : D} (h : min d.depth e.depth ≤ eqDeep) : A.units + min d.py.depth e.py.depth < cLine := by
  have := py_depth d
  have := py_depth e
  unfold eqDeep at h
  omega
omit [Wo] in
theorem pyL_any (x : D) : ∀ ds : List D, ((D.pyL ds).any fun y => PyData.eqv y x.py) = isIn x ds
  | [] => rfl
  | d :: ds => by
    show (PyData.eqv d.py x.py || (D.pyL ds).any fun y => PyData.eqv y x.py) = (D.eqv d x || isIn x ds)
    rw [py_eqv, pyL_any x ds]
omit [Wo] in
theorem ltOk_of {a b : D} (h : ltOk a b = true) : PySem.W.alike a.py b.py = true ∧ a.py ≠ .none ∧ min a.depth b.depth ≤ eqDeep := by
  unfold ltOk at h
  rw [Bool.and_eq_true, Bool.and_eq_true, decide_eq_true_eq] at h
  refine ⟨h.1.1, ?_, h.2⟩
  intro z
  have h2 := h.1.2
  cases a <;> first | (rw [D.py] at z; cases z; done) | (simp [isNonD] at h2)
def rC (K : PySem.W.Frag) (o : Co) : R2 := fun x y H Q => ∃ dx dy k, RepB K H x dx ∧ RepB K H y dy ∧ opC o dx dy = some k ∧ Q (.bl k) H
omit [Wo] in
theorem op_C (hu : X.A.units + 160 < cLine) (o : Co) : OpR X (compareOp o.py) (rC X.K o) := by
  intro pins s σ H x y v u Q I rx ry ⟨dx, dy, k, hx, hy, e, q⟩
  have int2 : ∀ {r : R2} {i j : Int}, OpR X (compareOp o.py) r → x = .int i → y = .int j → r (.int i) (.int j) H Q → wpAny (model X.prog X.w) X.A (compareOp o.py v u) (EP X pins σ Q) X.xe s := fun ho e1 e2 h => by
    subst e1; subst e2
    exact ho pins s σ H _ _ v u Q I rx ry h
  obtain ⟨as, r1⟩ := Dp.reads I _ x v hx.dp rx
  obtain ⟨bs, r2⟩ := Dp.reads I _ y u hy.dp ry
  cases o with
  | eq =>
    simp only [opC, opEq] at e
    split at e <;> cases e
    rename_i hl
    rw [← py_eqv] at q
    exact SeqAt.eq_plain r1 r2 (py_plain _) (py_plain _) (room_min hu hl) ⟨.bl _, H, I, rfl, q⟩
  | ne =>
    simp only [opC, opEq] at e
    split at e <;> cases e
    rename_i hl
    rw [← py_eqv] at q
    exact SeqAt.ne_plain r1 r2 (py_plain _) (py_plain _) (room_min hu hl) ⟨.bl _, H, I, rfl, q⟩
  | lt =>
    have gen : ∀ k', (if ltOk dx dy then some k' else none) = some k → (k' = k → PySem.W.alike dx.py dy.py = true ∧ dx.py ≠ .none ∧ min dx.depth dy.depth ≤ eqDeep → wpAny (model X.prog X.w) X.A (compareOp .Lt v u) (EP X pins σ Q) X.xe s) → wpAny (model X.prog X.w) X.A (compareOp .Lt v u) (EP X pins σ Q) X.xe s := fun k' e h => by
      split at e
      · rename_i hl
        exact h (Option.some.inj e) (ltOk_of hl)
      · cases e
    have dat : (if ltOk dx dy then some (ltD dx dy) else none) = some k → wpAny (model X.prog X.w) X.A (compareOp .Lt v u) (EP X pins σ Q) X.xe s := fun e => gen _ e fun ek ⟨h1, h2, h3⟩ => by
      subst ek
      exact PySem.W.lt_data r1 r2 h1 h2 (room_min hu h3) ⟨.bl _, H, I, rfl, q⟩
    cases dx with
    | int i =>
      cases dy with
      | int j =>
        cases (show some _ = some k from e)
        exact int2 op_lt hx.int_inv hy.int_inv ⟨_, _, rfl, rfl, q⟩
      | _ => exact dat e
    | _ => exact dat e
  | le =>
    have gen : ∀ k', (if ltOk dx dy then some k' else none) = some k → (k' = k → PySem.W.alike dx.py dy.py = true ∧ dx.py ≠ .none ∧ min dx.depth dy.depth ≤ eqDeep → wpAny (model X.prog X.w) X.A (compareOp .LtE v u) (EP X pins σ Q) X.xe s) → wpAny (model X.prog X.w) X.A (compareOp .LtE v u) (EP X pins σ Q) X.xe s := fun k' e h => by
      split at e
      · rename_i hl
        exact h (Option.some.inj e) (ltOk_of hl)
      · cases e
    have dat : (if ltOk dx dy then some (!ltD dy dx) else none) = some k → wpAny (model X.prog X.w) X.A (compareOp .LtE v u) (EP X pins σ Q) X.xe s := fun e => gen _ e fun ek ⟨h1, h2, h3⟩ => by
      subst ek
      exact PySem.W.le_data r1 r2 h1 h2 (room_min hu h3) ⟨.bl _, H, I, rfl, q⟩
    cases dx with
    | int i =>
      cases dy with
      | int j =>
        cases (show some _ = some k from e)
        exact int2 op_le hx.int_inv hy.int_inv ⟨_, _, rfl, rfl, q⟩
      | _ => exact dat e
    | _ => exact dat e
  | gt =>
    have gen : ∀ k', (if ltOk dx dy then some k' else none) = some k → (k' = k → PySem.W.alike dx.py dy.py = true ∧ dx.py ≠ .none ∧ min dx.depth dy.depth ≤ eqDeep → wpAny (model X.prog X.w) X.A (compareOp .Gt v u) (EP X pins σ Q) X.xe s) → wpAny (model X.prog X.w) X.A (compareOp .Gt v u) (EP X pins σ Q) X.xe s := fun k' e h => by
      split at e
      · rename_i hl
        exact h (Option.some.inj e) (ltOk_of hl)
      · cases e
    have dat : (if ltOk dx dy then some (ltD dy dx) else none) = some k → wpAny (model X.prog X.w) X.A (compareOp .Gt v u) (EP X pins σ Q) X.xe s := fun e => gen _ e fun ek ⟨h1, h2, h3⟩ => by
      subst ek
      exact PySem.W.gt_data r1 r2 h1 h2 (room_min hu h3) ⟨.bl _, H, I, rfl, q⟩
    cases dx with
    | int i =>
      cases dy with
      | int j =>
        cases (show some _ = some k from e)
        exact int2 op_gt hx.int_inv hy.int_inv ⟨_, _, rfl, rfl, q⟩
      | _ => exact dat e
    | _ => exact dat e
  | ge =>
    have gen : ∀ k', (if ltOk dx dy then some k' else none) = some k → (k' = k → PySem.W.alike dx.py dy.py = true ∧ dx.py ≠ .none ∧ min dx.depth dy.depth ≤ eqDeep → wpAny (model X.prog X.w) X.A (compareOp .GtE v u) (EP X pins σ Q) X.xe s) → wpAny (model X.prog X.w) X.A (compareOp .GtE v u) (EP X pins σ Q) X.xe s := fun k' e h => by
      split at e
      · rename_i hl
        exact h (Option.some.inj e) (ltOk_of hl)
      · cases e
    have dat : (if ltOk dx dy then some (!ltD dx dy) else none) = some k → wpAny (model X.prog X.w) X.A (compareOp .GtE v u) (EP X pins σ Q) X.xe s := fun e => gen _ e fun ek ⟨h1, h2, h3⟩ => by
      subst ek
      exact PySem.W.ge_data r1 r2 h1 h2 (room_min hu h3) ⟨.bl _, H, I, rfl, q⟩
    cases dx with
    | int i =>
      cases dy with
      | int j =>
        cases (show some _ = some k from e)
        exact int2 op_ge hx.int_inv hy.int_inv ⟨_, _, rfl, rfl, q⟩
      | _ => exact dat e
    | _ => exact dat e
  | isin =>
    cases dy with
    | lst xs =>
      simp only [opC, opIn] at e
      split at e <;> cases e
      rename_i hl
      rw [D.py] at r2
      rw [← pyL_any] at q
      have := py_depth dx
      unfold eqDeep at hl
      exact SeqAt.in_list_data r2 r1 (py_plainL _) (py_plain _) (by omega) ⟨.bl _, H, I, rfl, q⟩
    | tup xs =>
      simp only [opC, opIn] at e
      split at e <;> cases e
      rename_i hl
      rw [D.py] at r2
      rw [← pyL_any] at q
      have := py_depth dx
      unfold eqDeep at hl
      exact SeqAt.in_tuple_data r2 r1 (py_plainL _) (py_plain _) (by omega) ⟨.bl _, H, I, rfl, q⟩
    | str t =>
      obtain ⟨e2, _⟩ := hy.str_inv
      subst e2
      simp only [opC, opIn] at e
      split at e
      · cases e
        obtain ⟨e1, _⟩ := hx.str_inv
        subst e1
        refine op_in_sign pins s σ H _ _ v u Q I rx ry ⟨_, _, rfl, rfl, ?_⟩
        rw [T_cps, ← List.contains_eq_mem]
        exact q
      · cases e
    | _ => simp [opC, opIn] at e
  | notin =>
    cases dy with
    | lst xs =>
      simp only [opC, opIn] at e
      split at e <;> cases e
      rename_i hl
      rw [D.py] at r2
      rw [← pyL_any] at q
      have := py_depth dx
      unfold eqDeep at hl
      exact SeqAt.notIn_list_data r2 r1 (py_plainL _) (py_plain _) (by omega) ⟨.bl _, H, I, rfl, q⟩
    | tup xs =>
      simp only [opC, opIn] at e
      split at e <;> cases e
      rename_i hl
      rw [D.py] at r2
      rw [← pyL_any] at q
      have := py_depth dx
      unfold eqDeep at hl
      exact SeqAt.notIn_tuple_data r2 r1 (py_plainL _) (py_plain _) (by omega) ⟨.bl _, H, I, rfl, q⟩
    | str t =>
      obtain ⟨e2, _⟩ := hy.str_inv
      subst e2
      simp only [opC, opIn] at e
      split at e
      · cases e
        obtain ⟨e1, _⟩ := hx.str_inv
        subst e1
        refine op_notIn_sign pins s σ H _ _ v u Q I rx ry ⟨_, _, rfl, rfl, ?_⟩
        rw [T_cps, ← List.contains_eq_mem]
        exact q
      · cases e
    | _ => simp [opC, opIn] at e

/-! ### items, slices -/
omit [Wo] in
theorem atI_reps {K : PySem.W.Frag} {H : Hp} {vs : List V} {ds : List D} {i : Int} {d : D} (r : Reps K H vs ds) (e : ((ixN ds.length i).bind fun j => ds[j]?) = some d) : ∃ v, atI vs i = some v ∧ Rep K H v d := by
  unfold atI
  rw [r.length]
  cases q : L2.ixN ds.length i with
  | none => rw [show ixN ds.length i = none from q] at e; cases e
  | some j =>
    rw [show ixN ds.length i = some j from q] at e
    obtain ⟨v, h1, h2⟩ := r.get (show ds[j]? = some d from e)
    exact ⟨v, h1, h2⟩
def rX (K : PySem.W.Frag) : R2 := fun x y H Q => ∃ dx dy d, RepB K H x dx ∧ RepB K H y dy ∧ opIx dx dy = some d ∧ ∀ v, Rep K H v d → Q v H
omit [Wo] in
theorem ix_X : IxR X (rX X.K) := by
  intro vl sl pins s σ H x y v u Q I rx ry ⟨dx, dy, d, hx, hy, e, q⟩ hs
  cases dx <;> cases dy <;> simp only [opIx, reduceCtorEq] at e
  · rename_i xs i
    obtain ⟨e1, l1⟩ := hx.str_inv
    have e2 := hy.int_inv
    subst e1; subst e2
    cases q0 : (ixN xs.length i).bind fun j => xs[j]? with
    | none => rw [q0] at e; cases e
    | some c =>
      rw [q0] at e
      cases e
      refine ix_str vl sl pins s σ H _ _ v u Q I rx ry ⟨_, _, c, rfl, rfl, by rw [T_len]; exact l1, ?_, q _ (.str [c] (by show 1 ≤ line; decide))⟩ hs
      rw [T_cps]
      exact q0
  · rename_i xs i
    obtain ⟨p, vs, e1, h1, r1⟩ := hx.tup_inv
    have e2 := hy.int_inv
    subst e1; subst e2
    obtain ⟨w, h2, h3⟩ := atI_reps r1 e
    exact ix_tup vl sl pins s σ H _ _ v u Q I rx ry ⟨_, _, _, _, rfl, rfl, h1, h2, q _ h3⟩ hs
  · rename_i xs i
    obtain ⟨p, vs, e1, h1, r1⟩ := hx.lst_inv
    have e2 := hy.int_inv
    subst e1; subst e2
    obtain ⟨w, h2, h3⟩ := atI_reps r1 e
    exact ix_list vl sl pins s σ H _ _ v u Q I rx ry ⟨_, _, _, _, rfl, rfl, .inl h1, h2, q _ h3⟩ hs
omit [Wo] in
theorem cut_length {α : Type} (xs : List α) (lo hi : Option Int) : (cut xs lo hi).length ≤ xs.length := by
  unfold cut
  rw [List.length_take, List.length_drop]
  omega
omit [Wo] in
theorem cut_whole {α : Type} {xs : List α} {lo hi : Option Int} (h1 : HT.sIx xs.length 0 lo = 0) (h2 : HT.sIx xs.length xs.length hi = xs.length) : cut xs lo hi = xs := by
  unfold cut
  rw [h1, h2]
  simp
def rS (K : PySem.W.Frag) : V → Option Int → Option Int → Hp → VK → Prop := fun x lo hi H Q => ∃ dx d, RepB K H x dx ∧ opSl dx lo hi = some d ∧ ∀ v H', Ex H H' → FRep K H H' v d → Q v H'
omit [Wo] in
theorem sl_S : SlR X (rS X.K) := by
  intro pins s σ H x v vl vu lo hi sl Q I rx hs pl pu ⟨dx, d, hx, e, q⟩
  cases dx <;> simp only [opSl, reduceCtorEq] at e <;> cases e
  · rename_i xs
    obtain ⟨e1, l1⟩ := hx.str_inv
    subst e1
    refine sl_str pins s σ H _ v vl vu lo hi sl Q I rx hs pl pu ⟨_, rfl, by rw [T_len]; exact l1, ?_⟩
    have : cutS (T xs) lo hi = T (cut xs lo hi) := by
      unfold cutS cut
      rw [T_cps, T_len]
      rfl
    rw [this]
    exact q _ _ (Ex.refl H) (.str _ (Nat.le_trans (cut_length ..) l1))
  · rename_i xs
    obtain ⟨p, vs, e1, h1, r1⟩ := hx.tup_inv
    subst e1
    refine sl_tupA pins s σ H _ v vl vu lo hi sl Q I rx hs pl pu ⟨_, _, rfl, h1, fun ⟨z1, z2⟩ => ?_, fun _ p hp => q _ _ (Ex.new hp) (rep_tup hp (r1.cut lo hi) (Nat.le_trans (cut_length ..) hx.lenT))⟩
    rw [r1.length] at z1 z2
    rw [cut_whole z1 z2] at q
    exact q _ _ (Ex.refl H) (.tup h1 r1 hx.lenT)
  · rename_i xs
    obtain ⟨p, vs, e1, h1, r1⟩ := hx.lst_inv
    subst e1
    exact sl_list pins s σ H _ v vl vu lo hi sl Q I rx hs pl pu ⟨_, _, rfl, .inl h1, fun p hp => q _ _ (Ex.new hp) (frep_lst hp (r1.cut lo hi) (Nat.le_trans (cut_length ..) hx.len))⟩
end
end Ev

/-! Built-ins and methods by values. -/
namespace Ev
open PySem PySem.Spec
open PyProof.Rows hiding St
open L2
open Evl (Ex)
variable [Wo]

inductive RepBs (K : PySem.W.Frag) (H : Hp) : List V → List D → Prop
  | nil : RepBs K H [] []
  | cons {v : V} {d : D} {vs : List V} {ds : List D} : RepB K H v d → RepBs K H vs ds → RepBs K H (v :: vs) (d :: ds)
omit [Wo] in
theorem RepBs.mono {K : PySem.W.Frag} {H H' : Hp} (e : Ex H H') : ∀ {vs : List V} {ds : List D}, RepBs K H vs ds → RepBs K H' vs ds
  | _, _, .nil => .nil
  | _, _, .cons h r => .cons (h.mono e) (RepBs.mono e r)
omit [Wo] in
theorem RepBs.one {K : PySem.W.Frag} {H : Hp} {vs : List V} {d : D} (h : RepBs K H vs [d]) : ∃ v, vs = [v] ∧ RepB K H v d := by
  cases h with
  | cons h r => cases r; exact ⟨_, rfl, h⟩
omit [Wo] in
theorem RepBs.two {K : PySem.W.Frag} {H : Hp} {vs : List V} {d e : D} (h : RepBs K H vs [d, e]) : ∃ v u, vs = [v, u] ∧ RepB K H v d ∧ RepB K H u e := by
  cases h with
  | cons h r =>
    obtain ⟨u, rfl, r2⟩ := r.one
    exact ⟨_, u, rfl, h, r2⟩
omit [Wo] in
theorem RepBs.three {K : PySem.W.Frag} {H : Hp} {vs : List V} {d e f : D} (h : RepBs K H vs [d, e, f]) : ∃ v u w, vs = [v, u, w] ∧ RepB K H v d ∧ RepB K H u e ∧ RepB K H w f := by
  cases h with
  | cons h r =>
    obtain ⟨u, w, rfl, r2, r3⟩ := r.two
    exact ⟨_, u, w, rfl, h, r2, r3⟩

def Bf.py : Bf → Str × Value
  | .len => ("len", .builtin "len") | .int => ("int", .type "int") | .str => ("str", .type "str") | .tuple => ("tuple", .type "tuple") | .list => ("list", .type "list")
  | .sum => ("sum", .builtin "sum") | .all => ("all", .builtin "all") | .any => ("any", .builtin "any") | .max2 => ("max", .builtin "max") | .min2 => ("min", .builtin "min")
  | .isInt => ("int", .type "int") | .isBool => ("bool", .type "bool") | .isStr => ("str", .type "str") | .isTuple => ("tuple", .type "tuple") | .sortedSet => ("set", .type "set") | .sorted => ("sorted", .builtin "sorted") | .repr => ("repr", .builtin "repr")

omit [Wo] in
theorem reps_bools {K : PySem.W.Frag} {H : Hp} : ∀ {vs : List V} {ds : List D} {l : List Bool}, Reps K H vs ds → dBools ds = some l → vs = l.map V.bl
  | _, [], _, .nil, e => by cases e; rfl
  | _, d :: ds, l, .cons h r, e => by
    cases d <;> simp only [dBools, reduceCtorEq] at e
    cases q : dBools ds with
    | none => rw [q] at e; cases e
    | some l' =>
      rw [q] at e
      cases e
      rw [h.bl_inv, reps_bools r q]
      rfl
omit [Wo] in
theorem reps_ints {K : PySem.W.Frag} {H : Hp} : ∀ {vs : List V} {ds : List D} {l : List Int}, Reps K H vs ds → dInts ds = some l → vs = l.map V.int
  | _, [], _, .nil, e => by cases e; rfl
  | _, d :: ds, l, .cons h r, e => by
    cases d <;> simp only [dInts, reduceCtorEq] at e
    cases q : dInts ds with
    | none => rw [q] at e; cases e
    | some l' =>
      rw [q] at e
      cases e
      rw [h.int_inv, reps_ints r q]
      rfl
omit [Wo] in
theorem reps_texts {K : PySem.W.Frag} {H : Hp} : ∀ {vs : List V} {ds : List D} {l : List (List Nat)}, Reps K H vs ds → dTexts ds = some l → vs = (l.map T).map V.str
  | _, [], _, .nil, e => by cases e; rfl
  | _, d :: ds, l, .cons h r, e => by
    cases d <;> simp only [dTexts, reduceCtorEq] at e
    cases q : dTexts ds with
    | none => rw [q] at e; cases e
    | some l' =>
      rw [q] at e
      cases e
      rw [h.str_inv.1, reps_texts r q]
      rfl
omit [Wo] in
theorem T_ofString (s : String) : PySem.Str.ofString s = T (codes s) := PySem.Str.ofString_eq_toList s
omit [Wo] in
theorem log_lt {i : Int} (h : i.natAbs < 2 ^ 64) : i.natAbs.log2 < 1920 := by
  by_cases z : i.natAbs = 0
  · rw [z]; decide
  · have := (Nat.log2_lt z).mpr h
    omega
omit [Wo] in
theorem kinds : ∀ a ∈ ["NoneType", "bool", "int", "str", "tuple"], ∀ b ∈ ["int", "bool", "str", "tuple"], kitB a b = some (a == b || (a == "bool" && b == "int")) := by decide +kernel

def kName : Nat → String
  | 0 => "NoneType" | 1 => "bool" | 2 => "int" | 3 => "str" | _ => "tuple"
omit [Wo] in
theorem ty_of {K : PySem.W.Frag} {H : Hp} {v : V} {d : D} {k : Nat} (h : RepB K H v d) (e : kindOf d = some k) : TyX K H v (.type (kName k)) := by
  cases d <;> simp only [kindOf, reduceCtorEq] at e <;> cases e
  · rw [h.non_inv]; exact .base .non
  · rw [h.bl_inv]; exact .base (.bl _)
  · rw [h.int_inv]; exact .base (.int _)
  · rw [h.str_inv.1]; exact .base (.str _)
  · obtain ⟨a, vs, rfl, h, _⟩ := h.tup_inv
    rcases h with (h | ⟨o, h⟩) | ⟨o, its, n, h, hc, _⟩
    · exact .base (.tup h)
    · exact .fTuple h
    · exact .kTuple h hc
section
variable {X : Cx}
/-- what a built-in gives -/
def rF (K : PySem.W.Frag) (b : Bf) : List V → Hp → VK → Prop := fun vs H Q => ∃ ds d, RepBs K H vs ds ∧ opF b ds = some d ∧ ∀ v H', Ex H H' → FRep K H H' v d → Q v H'
omit [Wo] in
theorem frep_tup {K : PySem.W.Frag} {H : Hp} {p : Addr} {vs : List V} {ds : List D} (hp : H p = none) (r : Reps K H vs ds) (z : ds.length ≤ line) : FRep K H (upd H p (.tup vs)) (.ref p) (.tup ds) := rep_tup hp r z
omit [Wo] in
theorem call_len_ : CallR X (.builtin "len") (rF X.K .len) := by
  intro pins s σ H xs us Q I r ⟨ds, d, h, e, q⟩
  match ds, e with
  | [.lst ys], e =>
    cases e
    obtain ⟨v, rfl, hv⟩ := h.one
    obtain ⟨a, vs, rfl, ha, rr⟩ := hv.lst_inv
    refine call_len_seq pins s σ H _ us Q I r ⟨a, vs, rfl, .inl (.inl ha), ?_⟩
    rw [rr.length]
    exact q _ _ (Ex.refl H) (.int _)
  | [.tup ys], e =>
    cases e
    obtain ⟨v, rfl, hv⟩ := h.one
    obtain ⟨a, vs, rfl, ha, rr⟩ := hv.tup_inv
    refine call_len_seq pins s σ H _ us Q I r ⟨a, vs, rfl, .inr ha, ?_⟩
    rw [rr.length]
    exact q _ _ (Ex.refl H) (.int _)
  | [.str ys], e =>
    cases e
    obtain ⟨v, rfl, hv⟩ := h.one
    obtain ⟨rfl, hl⟩ := hv.str_inv
    refine call_len_str pins s σ H _ us Q I r ⟨_, rfl, by rw [T_len]; exact hl, ?_⟩
    rw [T_len]
    exact q _ _ (Ex.refl H) (.int _)
  | [.non], e | [.bl _], e | [.int _], e => simp [opF] at e
  | [], e => simp [opF] at e
  | _ :: _ :: _, e => simp [opF] at e
omit [Wo] in
theorem call_int_ : CallR X (.type "int") (rF X.K .int) := by
  intro pins s σ H xs us Q I r ⟨ds, d, h, e, q⟩
  match ds, e with
  | [.int i], e =>
    cases e
    obtain ⟨v, rfl, hv⟩ := h.one
    obtain rfl := hv.int_inv
    exact call_int1 pins s σ H _ us Q I r (.inl ⟨_, rfl, q _ _ (Ex.refl H) (.int _)⟩)
  | [.bl b], e =>
    cases e
    obtain ⟨v, rfl, hv⟩ := h.one
    obtain rfl := hv.bl_inv
    exact call_int1 pins s σ H _ us Q I r (.inr ⟨_, rfl, q _ _ (Ex.refl H) (.int _)⟩)
  | [.str t], e =>
    simp only [opF] at e
    split at e
    · rename_i hl
      cases hn : PySem.intText? (T t) with
      | none => rw [hn] at e; cases e
      | some i =>
        rw [hn] at e
        cases e
        obtain ⟨v, rfl, hv⟩ := h.one
        obtain ⟨rfl, _⟩ := hv.str_inv
        exact call_int_str pins s σ H _ us Q I r ⟨_, i, rfl, hn, by rw [T_len]; exact hl, q _ _ (Ex.refl H) (.int _)⟩
    · cases e
  | [.non], e | [.tup _], e | [.lst _], e => simp [opF] at e
  | [], e => simp [opF] at e
  | _ :: _ :: _, e => simp [opF] at e
omit [Wo] in
theorem call_str_ : CallR X (.type "str") (rF X.K .str) := by
  intro pins s σ H xs us Q I r ⟨ds, d, h, e, q⟩
  match ds, e with
  | [.int i], e =>
    simp only [opF] at e
    split at e <;> cases e
    rename_i hl
    obtain ⟨v, rfl, hv⟩ := h.one
    obtain rfl := hv.int_inv
    refine call_str_int pins s σ H _ us Q I r ⟨_, rfl, log_lt hl.1, ?_⟩
    rw [T_ofString]
    exact q _ _ (Ex.refl H) (.str _ hl.2)
  | [.str t], e =>
    simp only [opF, Option.some.injEq] at e
    subst e
    obtain ⟨v, rfl, hv⟩ := h.one
    obtain ⟨rfl, hl⟩ := hv.str_inv
    exact SkE.call_str_str pins s σ H _ us Q I r ⟨_, rfl, q _ _ (Ex.refl H) (.str _ hl)⟩
  | [.non], e | [.bl _], e | [.tup _], e | [.lst _], e => simp [opF] at e
  | [], e => simp [opF] at e
  | _ :: _ :: _, e => simp [opF] at e
omit [Wo] in
theorem call_tuple_ : CallR X (.type "tuple") (rF X.K .tuple) := by
  intro pins s σ H xs us Q I r ⟨ds, d, h, e, q⟩
  match ds, e with
  | [.lst ys], e =>
    cases e
    obtain ⟨v, rfl, hv⟩ := h.one
    obtain ⟨a, vs, rfl, ha, rr⟩ := hv.lst_inv
    exact call_tuple_of pins s σ H _ us Q I r ⟨a, vs, rfl, .inl ⟨.inl ha, fun l hl => q _ _ (Ex.new hl) (frep_tup hl rr hv.len)⟩⟩
  | [.tup ys], e =>
    cases e
    obtain ⟨v, rfl, hv⟩ := h.one
    obtain ⟨a, vs, rfl, ha, rr⟩ := hv.tup_inv
    exact call_tuple_of pins s σ H _ us Q I r ⟨a, vs, rfl, .inr ⟨ha, q _ _ (Ex.refl H) (.tup ha rr hv.lenT)⟩⟩
  | [.non], e | [.bl _], e | [.int _], e | [.str _], e => simp [opF] at e
  | [], e => simp [opF] at e
  | _ :: _ :: _, e => simp [opF] at e
omit [Wo] in
theorem call_list_ : CallR X (.type "list") (rF X.K .list) := by
  intro pins s σ H xs us Q I r ⟨ds, d, h, e, q⟩
  match ds, e with
  | [.lst ys], e =>
    cases e
    obtain ⟨v, rfl, hv⟩ := h.one
    obtain ⟨a, vs, rfl, ha, rr⟩ := hv.lst_inv
    exact call_list_of pins s σ H _ us Q I r ⟨a, vs, rfl, .inl (.inl ha), fun l hl => q _ _ (Ex.new hl) (frep_lst hl rr hv.len)⟩
  | [.tup ys], e =>
    cases e
    obtain ⟨v, rfl, hv⟩ := h.one
    obtain ⟨a, vs, rfl, ha, rr⟩ := hv.tup_inv
    exact call_list_of pins s σ H _ us Q I r ⟨a, vs, rfl, .inr ha, fun l hl => q _ _ (Ex.new hl) (frep_lst hl rr hv.lenT)⟩
  | [.non], e | [.bl _], e | [.int _], e | [.str _], e => simp [opF] at e
  | [], e => simp [opF] at e
  | _ :: _ :: _, e => simp [opF] at e
omit [Wo] in
theorem call_sum_ (hc : X.calm = true) : CallR X (.builtin "sum") (rF X.K .sum) := by
  intro pins s σ H xs us Q I r ⟨ds, d, h, e, q⟩
  match ds, e with
  | [.lst ys], e =>
    simp only [opF] at e
    cases q0 : dInts ys with
    | none => rw [q0] at e; cases e
    | some l =>
      rw [q0] at e; cases e
      obtain ⟨v, rfl, hv⟩ := h.one
      obtain ⟨a, vs, rfl, ha, rr⟩ := hv.lst_inv
      rw [reps_ints rr q0] at ha
      exact cr_sum hc pins s σ H _ us Q I r ⟨a, l, rfl, .inl ha, q _ _ (Ex.refl H) (.int _)⟩
  | [.non], e | [.bl _], e | [.int _], e | [.str _], e | [.tup _], e => simp [opF] at e
  | [], e => simp [opF] at e
  | _ :: _ :: _, e => simp [opF] at e
omit [Wo] in
theorem call_all_ (hc : X.calm = true) : CallR X (.builtin "all") (rF X.K .all) := by
  intro pins s σ H xs us Q I r ⟨ds, d, h, e, q⟩
  match ds, e with
  | [.lst ys], e =>
    simp only [opF] at e
    cases q0 : dBools ys with
    | none => rw [q0] at e; cases e
    | some l =>
      rw [q0] at e; cases e
      obtain ⟨v, rfl, hv⟩ := h.one
      obtain ⟨a, vs, rfl, ha, rr⟩ := hv.lst_inv
      rw [reps_bools rr q0] at ha
      exact cr_all hc pins s σ H _ us Q I r ⟨a, l, rfl, .inl ha, q _ _ (Ex.refl H) (.bl _)⟩
  | [.non], e | [.bl _], e | [.int _], e | [.str _], e | [.tup _], e => simp [opF] at e
  | [], e => simp [opF] at e
  | _ :: _ :: _, e => simp [opF] at e
omit [Wo] in
theorem call_any_ (hc : X.calm = true) : CallR X (.builtin "any") (rF X.K .any) := by
  intro pins s σ H xs us Q I r ⟨ds, d, h, e, q⟩
  match ds, e with
  | [.lst ys], e =>
    simp only [opF] at e
    cases q0 : dBools ys with
    | none => rw [q0] at e; cases e
    | some l =>
      rw [q0] at e; cases e
      obtain ⟨v, rfl, hv⟩ := h.one
      obtain ⟨a, vs, rfl, ha, rr⟩ := hv.lst_inv
      rw [reps_bools rr q0] at ha
      exact cr_any hc pins s σ H _ us Q I r ⟨a, l, rfl, .inl ha, q _ _ (Ex.refl H) (.bl _)⟩
  | [.non], e | [.bl _], e | [.int _], e | [.str _], e | [.tup _], e => simp [opF] at e
  | [], e => simp [opF] at e
  | _ :: _ :: _, e => simp [opF] at e
omit [Wo] in
theorem maxI_is {l : List Int} {m : Int} (h : maxI l = some m) : 0 < l.length ∧ m ∈ l ∧ ∀ y ∈ l, y ≤ m := by
  cases l with
  | nil => cases h
  | cons a l =>
    cases h
    refine ⟨by simp, ?_, ?_⟩
    · have : ∀ (l : List Int) (a : Int), l.foldl max a = a ∨ l.foldl max a ∈ l := fun l => by
        induction l with
        | nil => intro a; exact .inl rfl
        | cons b l ih =>
          intro a
          rw [List.foldl_cons]
          rcases ih (max a b) with h | h
          · rw [h]
            rcases Int.le_total a b with q | q
            · rw [Int.max_eq_right q]; exact .inr (List.mem_cons_self ..)
            · rw [Int.max_eq_left q]; exact .inl rfl
          · exact .inr (List.mem_cons_of_mem _ h)
      rcases this l a with h | h
      · rw [h]; exact List.mem_cons_self ..
      · exact List.mem_cons_of_mem _ h
    · have : ∀ (l : List Int) (a : Int), a ≤ l.foldl max a ∧ ∀ y ∈ l, y ≤ l.foldl max a := fun l => by
        induction l with
        | nil => intro a; exact ⟨Int.le_refl _, fun _ h => nomatch h⟩
        | cons b l ih =>
          intro a
          rw [List.foldl_cons]
          obtain ⟨h1, h2⟩ := ih (max a b)
          refine ⟨Int.le_trans (Int.le_max_left a b) h1, fun y hy => ?_⟩
          rcases List.mem_cons.mp hy with rfl | hy
          · exact Int.le_trans (Int.le_max_right a y) h1
          · exact h2 y hy
      intro y hy
      rcases List.mem_cons.mp hy with rfl | hy
      · exact (this l y).1
      · exact (this l a).2 y hy
omit [Wo] in
theorem call_max_ (hc : X.calm = true) : CallR X (.builtin "max") (rF X.K .max2) := by
  intro pins s σ H xs us Q I r ⟨ds, d, h, e, q⟩
  match ds, e with
  | [.int i, .int j], e =>
    cases e
    obtain ⟨v, u, rfl, h1, h2⟩ := h.two
    obtain rfl := h1.int_inv
    obtain rfl := h2.int_inv
    exact call_max2 hc pins s σ H _ us Q I r ⟨_, _, rfl, q _ _ (Ex.refl H) (.int _)⟩
  | [.lst ys], e =>
    simp only [opF] at e
    cases q0 : dInts ys with
    | none => rw [q0] at e; cases e
    | some l =>
      rw [q0] at e
      obtain ⟨m, hm, rfl⟩ := Option.map_eq_some_iff.mp (show (maxI l).map D.int = some d from e)
      obtain ⟨v, rfl, hv⟩ := h.one
      obtain ⟨a, vs, rfl, ha, rr⟩ := hv.lst_inv
      rw [reps_ints rr q0] at ha
      obtain ⟨m1, m2, m3⟩ := maxI_is hm
      refine cr_max hc pins s σ H _ us Q I r ⟨a, l, rfl, .inl ha, m1, fun k k1 k2 => ?_⟩
      rw [show k = m from Int.le_antisymm (m3 k k1) (k2 m m2)]
      exact q _ _ (Ex.refl H) (.int _)
  | [], e => simp [opF] at e
  | [.non], e | [.bl _], e | [.int _], e | [.str _], e | [.tup _], e => simp [opF] at e
  | _ :: _ :: _ :: _, e => simp [opF] at e
  | [.non, _], e | [.bl _, _], e | [.str _, _], e | [.tup _, _], e | [.lst _, _], e => simp [opF] at e
  | [.int _, .non], e | [.int _, .bl _], e | [.int _, .str _], e | [.int _, .tup _], e | [.int _, .lst _], e => simp [opF] at e
omit [Wo] in
theorem nuMin2_int (i j : Int) : nuMin2 (.int i) (.int j) = some (.int (if j < i then j else i)) := by
  show some (if decide (j < i) = true then V.int j else V.int i) = _
  by_cases h : j < i
  · rw [if_pos h, if_pos (by simpa using h)]
  · rw [if_neg h, if_neg (by simpa using h)]
omit [Wo] in
theorem nuMin3_int (i j k : Int) : nuMin3 (.int i) (.int j) (.int k) = some (.int (if k < (if j < i then j else i) then k else (if j < i then j else i))) := by
  show (nuMin2 (.int i) (.int j)).bind (fun m => nuMin2 m (.int k)) = _
  rw [nuMin2_int]
  exact nuMin2_int _ k
omit [Wo] in
theorem call_min_ (hc : X.calm = true) : CallR X (.builtin "min") (rF X.K .min2) := by
  intro pins s σ H xs us Q I r ⟨ds, d, h, e, q⟩
  match ds, e with
  | [.int i, .int j], e =>
    cases e
    obtain ⟨v, u, rfl, h1, h2⟩ := h.two
    obtain rfl := h1.int_inv
    obtain rfl := h2.int_inv
    exact call_min2 hc pins s σ H _ us Q I r ⟨_, _, rfl, q _ _ (Ex.refl H) (.int _)⟩
  | [.int i, .int j, .int k], e =>
    cases e
    obtain ⟨u1, u2, u3, rfl, h1, h2, h3⟩ := h.three
    obtain rfl := h1.int_inv
    obtain rfl := h2.int_inv
    obtain rfl := h3.int_inv
    refine call_min3Nu hc pins s σ H _ us Q I r ⟨_, _, _, _, rfl, nuMin3_int i j k, q _ _ (Ex.refl H) (.int _)⟩
  | [], e => simp [opF] at e
  | [_], e => simp [opF] at e
  | _ :: _ :: _ :: _ :: _, e => simp [opF] at e
  | [.non, _, _], e | [.bl _, _, _], e | [.str _, _, _], e | [.tup _, _, _], e | [.lst _, _, _], e => simp [opF] at e
  | [.int _, .non, _], e | [.int _, .bl _, _], e | [.int _, .str _, _], e | [.int _, .tup _, _], e | [.int _, .lst _, _], e => simp [opF] at e
  | [.int _, .int _, .non], e | [.int _, .int _, .bl _], e | [.int _, .int _, .str _], e | [.int _, .int _, .tup _], e | [.int _, .int _, .lst _], e => simp [opF] at e
  | [.non, _], e | [.bl _, _], e | [.str _, _], e | [.tup _, _], e | [.lst _, _], e => simp [opF] at e
  | [.int _, .non], e | [.int _, .bl _], e | [.int _, .str _], e | [.int _, .tup _], e | [.int _, .lst _], e => simp [opF] at e
omit [Wo] in
mutual
theorem py_nodict : ∀ d : D, (D.py d).hasDict = false
  | .non | .bl _ | .int _ | .str _ => by simp [D.py, PyData.hasDict]
  | .tup xs | .lst xs => by simp [D.py, PyData.hasDict, py_nodictL xs]
theorem py_nodictL : ∀ ds : List D, PyData.hasDictAll (D.pyL ds) = false
  | [] => by simp [D.pyL, PyData.hasDictAll]
  | x :: xs => by simp [D.pyL, PyData.hasDictAll, py_nodict x, py_nodictL xs]
end
omit [Wo] in
theorem call_repr_ (hg : X.A.guards = some []) (hu : X.A.units + 160 < cLine) : CallR X (.builtin "repr") (rF X.K .repr) := by
  intro pins s σ H xs us Q I r ⟨ds, d, h, e, q⟩
  match ds, e with
  | [x], e =>
    simp only [opF] at e
    split at e <;> cases e
    rename_i hok
    simp only [canRepr, Bool.and_eq_true, decide_eq_true_eq] at hok
    obtain ⟨⟨⟨o1, o2⟩, o3⟩, o4⟩ := hok
    obtain ⟨v, rfl, hv⟩ := h.one
    obtain ⟨u, eu, rx⟩ := vals1 r
    subst eu
    obtain ⟨as, hr⟩ := Dp.reads I _ v u hv.dp rx
    have hu2 : X.A.units + (x.py.depth + 1) < cLine := by have := py_depth x; omega
    obtain ⟨a, rfl⟩ : ∃ a, u = .ref a := by
      cases x <;> simp only [isSeqD, Bool.false_eq_true] at o1
      · obtain ⟨a, _, rfl, _⟩ := hv.tup_inv
        cases rx
        exact ⟨_, rfl⟩
      · obtain ⟨a, _, rfl, _⟩ := hv.lst_inv
        cases rx
        exact ⟨_, rfl⟩
    refine repr_of_reads' (h₀ := s.heap) hr o2 (PyData.noDict_hsm (py_nodict x)) hg hu2 (fun _ _ e => e) (fun h' u tk hk => ?_) (Nat.le_trans o4 (by decide))
    have e4 : x.py.shown.cps.toList.length ≤ line := by
      have := T_len x.py.shown.cps.toList
      rw [T_of] at this
      rw [← this]
      exact o4
    have q2 := q _ _ (Ex.refl H) (.str x.py.shown.cps.toList e4)
    rw [T_of] at q2
    exact ⟨.str x.py.shown, H, I.kept hk, ⟨_, rfl⟩, q2⟩
  | [], e => simp [opF] at e
  | _ :: _ :: _, e => simp [opF] at e
/-- isinstance(x, T) -/
def rIs (K : PySem.W.Frag) (b : Bf) (n : String) : List V → Hp → VK → Prop := fun vs H Q => ∃ x d k, vs = [x, .ty n] ∧ RepB K H x d ∧ opF b [d] = some (.bl k) ∧ Q (.bl k) H
omit [Wo] in
theorem call_is {b : Bf} {n : String} (hb : (b = .isInt ∧ n = "int") ∨ (b = .isBool ∧ n = "bool") ∨ (b = .isStr ∧ n = "str") ∨ (b = .isTuple ∧ n = "tuple")) : CallR X (.builtin "isinstance") (rIs X.K b n) := by
  intro pins s σ H xs us Q I r ⟨x, d, k, e, h, eo, q⟩
  subst e
  cases q0 : kindOf d with
  | none => rcases hb with ⟨rfl, _⟩ | ⟨rfl, _⟩ | ⟨rfl, _⟩ | ⟨rfl, _⟩ <;> simp [opF, q0] at eo
  | some m =>
    have ty := ty_of h q0
    refine call_isi pins s σ H _ us Q I r ⟨x, _, _, _, k, rfl, .ty n, ty, kit_ty ?_, q⟩
    have hm : m ≤ 4 := by cases d <;> simp only [kindOf, reduceCtorEq] at q0 <;> cases q0 <;> decide
    have hk : kName m ∈ ["NoneType", "bool", "int", "str", "tuple"] := by
      match m, hm with
      | 0, _ | 1, _ | 2, _ | 3, _ | 4, _ => decide
    have hn : n ∈ ["int", "bool", "str", "tuple"] := by rcases hb with ⟨_, rfl⟩ | ⟨_, rfl⟩ | ⟨_, rfl⟩ | ⟨_, rfl⟩ <;> decide
    rw [kinds _ hk _ hn]
    match m, hm with
    | 0, _ | 1, _ | 2, _ | 3, _ | 4, _ =>
      rcases hb with ⟨rfl, rfl⟩ | ⟨rfl, rfl⟩ | ⟨rfl, rfl⟩ | ⟨rfl, rfl⟩ <;> simp only [opF, q0, Option.map_some] at eo <;> cases eo <;> decide

/-! ### methods -/
omit [Wo] in
theorem joinT0 (sep : List Nat) : ∀ l : List (List Nat), Str.join (T sep) (l.map T) = T (joined sep l)
  | [] => rfl
  | [p] => rfl
  | p :: q :: r => by
    have ih := joinT0 sep (q :: r)
    have e : Str.join (T sep) ((p :: q :: r).map T) = T p ++ T sep ++ Str.join (T sep) ((q :: r).map T) := rfl
    rw [e, ih, T_app, T_app, List.append_assoc]
    rfl
omit [Wo] in
theorem joinT (sep : List Nat) (l : List (List Nat)) : Txt.join (T sep) (l.map T) = T (joined sep l) := by
  rw [TL.join_eq]
  exact joinT0 sep l
omit [Wo] in
theorem joined_len (sep : List Nat) : ∀ l : List (List Nat), (joined sep l).length ≤ (l.map List.length).sum + l.length * sep.length
  | [] => by simp [joined]
  | [p] => by simp [joined]
  | p :: q :: r => by
    have ih := joined_len sep (q :: r)
    simp only [joined, List.length_append, List.map_cons, List.sum_cons, List.length_cons] at ih ⊢
    have : (r.length + 1 + 1) * sep.length = (r.length + 1) * sep.length + sep.length := by rw [Nat.succ_mul]
    omega
def rM (K : PySem.W.Frag) (m : Mt) : V → List V → Hp → VK → Prop := fun x vs H Q => ∃ dx ds d, RepB K H x dx ∧ RepBs K H vs ds ∧ opM m dx ds = some d ∧ ∀ v H', Ex H H' → FRep K H H' v d → Q v H'
omit [Wo] in
theorem mt_join_ : MtR X "str.join" (rM X.K .join) := by
  intro pins s σ H x xs v us Q I rx rs ⟨dx, ds, d, hx, hs, e, q⟩
  match dx, ds, e with
  | .str sep, [.lst ys], e =>
    simp only [opM] at e
    cases q0 : dTexts ys with
    | none => rw [q0] at e; cases e
    | some l =>
      rw [q0] at e
      simp only [Option.bind_some] at e
      split at e <;> cases e
      rename_i hl
      obtain ⟨rfl, _⟩ := hx.str_inv
      obtain ⟨w, rfl, hw⟩ := hs.one
      obtain ⟨a, vs, rfl, ha, rr⟩ := hw.lst_inv
      rw [reps_texts rr q0] at ha
      refine mt_join pins s σ H _ _ v us Q I rx rs ⟨_, a, l.map T, rfl, rfl, .inl (.inl ha), ?_, ?_⟩
      · have e1 : (l.map T).map (fun y : Str => y.length) = l.map List.length := by
          rw [List.map_map]
          exact List.map_congr_left fun p _ => T_len p
        rw [e1, List.length_map, T_len]
        exact hl
      · rw [joinT]
        exact q _ _ (Ex.refl H) (.str _ (Nat.le_trans (joined_len ..) hl))
  | .str sep, [.tup ys], e =>
    simp only [opM] at e
    cases q0 : dTexts ys with
    | none => rw [q0] at e; cases e
    | some l =>
      rw [q0] at e
      simp only [Option.bind_some] at e
      split at e <;> cases e
      rename_i hl
      obtain ⟨rfl, _⟩ := hx.str_inv
      obtain ⟨w, rfl, hw⟩ := hs.one
      obtain ⟨a, vs, rfl, ha, rr⟩ := hw.tup_inv
      rw [reps_texts rr q0] at ha
      refine mt_join pins s σ H _ _ v us Q I rx rs ⟨_, a, l.map T, rfl, rfl, .inr ha, ?_, ?_⟩
      · have e1 : (l.map T).map (fun y : Str => y.length) = l.map List.length := by
          rw [List.map_map]
          exact List.map_congr_left fun p _ => T_len p
        rw [e1, List.length_map, T_len]
        exact hl
      · rw [joinT]
        exact q _ _ (Ex.refl H) (.str _ (Nat.le_trans (joined_len ..) hl))
  | .str _, [], e => simp [opM] at e
  | .str _, [.non], e | .str _, [.bl _], e | .str _, [.int _], e | .str _, [.str _], e => simp [opM] at e
  | .str _, _ :: _ :: _, e => simp [opM] at e
  | .non, _, e | .bl _, _, e | .int _, _, e | .tup _, _, e | .lst _, _, e => simp [opM] at e
omit [Wo] in
theorem low_eq : ∀ c < 128, Txt.islower (T [c]) = (Nat.ble 97 c && Nat.ble c 122) := by decide +kernel
omit [Wo] in
theorem upp_eq : ∀ c < 128, Txt.isupper (T [c]) = (Nat.ble 65 c && Nat.ble c 90) := by decide +kernel
omit [Wo] in
theorem aln_eq : ∀ c < 128, Txt.isalnum (T [c]) = ((Nat.ble 97 c && Nat.ble c 122) || (Nat.ble 65 c && Nat.ble c 90) || (Nat.ble 48 c && Nat.ble c 57)) := by decide +kernel
omit [Wo] in
theorem RepBs.nil_inv {K : PySem.W.Frag} {H : Hp} {vs : List V} (h : RepBs K H vs []) : vs = [] := by cases h; rfl
omit [Wo] in
theorem opM0_inv {m : Mt} (hm : m = .islower ∨ m = .isupper ∨ m = .isalnum) {x : D} {ds : List D} {d : D} (e : opM m x ds = some d) : ∃ c, x = .str [c] ∧ ds = [] ∧ c < 128 := by
  match x, ds with
  | .str [c], [] =>
    refine ⟨c, rfl, rfl, ?_⟩
    by_cases h : c < 128
    · exact h
    · rcases hm with rfl | rfl | rfl
      · rw [show opM .islower (.str [c]) [] = none from if_neg h] at e; cases e
      · rw [show opM .isupper (.str [c]) [] = none from if_neg h] at e; cases e
      · rw [show opM .isalnum (.str [c]) [] = none from if_neg h] at e; cases e
  | .str [], _ => rcases hm with rfl | rfl | rfl <;> simp [opM] at e
  | .str (_ :: _ :: _), _ => rcases hm with rfl | rfl | rfl <;> simp [opM] at e
  | .str [_], _ :: _ => rcases hm with rfl | rfl | rfl <;> simp [opM] at e
  | .non, _ => rcases hm with rfl | rfl | rfl <;> simp [opM] at e
  | .bl _, _ => rcases hm with rfl | rfl | rfl <;> simp [opM] at e
  | .int _, _ => rcases hm with rfl | rfl | rfl <;> simp [opM] at e
  | .tup _, _ => rcases hm with rfl | rfl | rfl <;> simp [opM] at e
  | .lst _, _ => rcases hm with rfl | rfl | rfl <;> simp [opM] at e
omit [Wo] in
theorem mt_low_ : MtR X "str.islower" (rM X.K .islower) := by
  intro pins s σ H x xs v us Q I rx rs ⟨dx, ds, d, hx, hs, e, q⟩
  obtain ⟨c, rfl, rfl, hc⟩ := opM0_inv (.inl rfl) e
  obtain ⟨rfl, _⟩ := hx.str_inv
  obtain rfl := hs.nil_inv
  rw [show opM .islower (.str [c]) [] = some (.bl (Nat.ble 97 c && Nat.ble c 122)) from if_pos hc] at e
  cases e
  refine mt_islower pins s σ H _ _ v us Q I rx rs ⟨_, rfl, rfl, trivial, ?_⟩
  rw [low_eq c hc]
  exact q _ _ (Ex.refl H) (.bl _)
omit [Wo] in
theorem mt_upp_ : MtR X "str.isupper" (rM X.K .isupper) := by
  intro pins s σ H x xs v us Q I rx rs ⟨dx, ds, d, hx, hs, e, q⟩
  obtain ⟨c, rfl, rfl, hc⟩ := opM0_inv (.inr (.inl rfl)) e
  obtain ⟨rfl, _⟩ := hx.str_inv
  obtain rfl := hs.nil_inv
  rw [show opM .isupper (.str [c]) [] = some (.bl (Nat.ble 65 c && Nat.ble c 90)) from if_pos hc] at e
  cases e
  refine mt_isupper pins s σ H _ _ v us Q I rx rs ⟨_, rfl, rfl, trivial, ?_⟩
  rw [upp_eq c hc]
  exact q _ _ (Ex.refl H) (.bl _)
omit [Wo] in
theorem mt_aln_ : MtR X "str.isalnum" (rM X.K .isalnum) := by
  intro pins s σ H x xs v us Q I rx rs ⟨dx, ds, d, hx, hs, e, q⟩
  obtain ⟨c, rfl, rfl, hc⟩ := opM0_inv (.inr (.inr rfl)) e
  obtain ⟨rfl, _⟩ := hx.str_inv
  obtain rfl := hs.nil_inv
  rw [show opM .isalnum (.str [c]) [] = some (.bl ((Nat.ble 97 c && Nat.ble c 122) || (Nat.ble 65 c && Nat.ble c 90) || (Nat.ble 48 c && Nat.ble c 57))) from if_pos hc] at e
  cases e
  refine mt_isalnum pins s σ H _ _ v us Q I rx rs ⟨_, rfl, rfl, trivial, ?_⟩
  rw [aln_eq c hc]
  exact q _ _ (Ex.refl H) (.bl _)
def rLix (K : PySem.W.Frag) : V → List V → Hp → VK → Prop := fun x vs H Q => ∃ dx dy d v, RepB K H x dx ∧ vs = [v] ∧ RepB K H v dy ∧ opLix dx dy = some d ∧ ∀ v H', Ex H H' → Rep K H' v d → Q v H'
omit [Wo] in
theorem pyL_place (y : D) : ∀ ds : List D, PySem.SeqAt.dataPlace (D.pyL ds) y.py = ds.findIdx? fun d => D.eqv d y
  | [] => rfl
  | d :: ds => by
    have ih := pyL_place y ds
    unfold PySem.SeqAt.dataPlace at ih ⊢
    show (d.py :: D.pyL ds).findIdx? _ = _
    rw [List.findIdx?_cons, List.findIdx?_cons, py_eqv, ih]
omit [Wo] in
theorem mt_lix_ (hu : X.A.units + 160 < cLine) : MtR X "list.index" (rLix X.K) := by
  intro pins s σ H x xs v us Q I rx rs ⟨dx, dy, d, w, hx, ew, hy, e, q⟩
  subst ew
  cases dx <;> simp only [opLix, reduceCtorEq] at e
  rename_i ds
  split at e
  · rename_i hd
    cases z : ds.findIdx? (fun y => D.eqv y dy) with
    | none => rw [z] at e; cases e
    | some j =>
      rw [z] at e
      cases e
      obtain ⟨a, vs, rfl, hR, rr⟩ := hx.lst_inv
      cases rx
      obtain ⟨u, rfl, ru⟩ := rs.one
      obtain ⟨zz, its, n, r, hl, eo⟩ := rd_lst I hR
      obtain ⟨as, r1⟩ := Dp.readsAll I (D.pyL ds) vs its (Reps.dp rr) r
      obtain ⟨bs, r2⟩ := Dp.reads I dy.py w u (RepB.dp hy) ru
      have hp := py_depth dy
      unfold eqDeep at hd
      have hz : ds.length ≤ sizeLine := by rw [← rr.length]; exact zz
      have hzl : its.toArray.size ≤ sizeLine := by rw [List.size_toArray]; omega
      obtain ⟨hj, hit, hno⟩ := PySem.SeqAt.hit_at (vs := its.toArray) (d := dy.py) r1 (py_plainL _) (by rw [pyL_place]; exact z)
      have hj63 : (j : Int) < 2 ^ 63 - 1 := by
        have e24 : sizeLine = 16777216 := by decide
        have e63 : (2 : Int) ^ 63 = 9223372036854775808 := by decide
        omega
      exact call_meets PySem.F.slot_list_index ⟨_, eo, rfl⟩ PySem.F.entry_list_index (PySem.F.args_list_index_2 _ _) (PySem.SeqAt.list_indexAt a its.toArray n none #[] u _ j hj hj63 hit hno) ⟨eo, PySem.SeqAt.items_plain (vs := its.toArray) r1 r2 (py_plainL _) (py_plain _) (by omega), .int _, H, I.tok _, ⟨_, rfl⟩, q _ _ (Ex.refl H) (.int _)⟩
  · cases e
end
end Ev

/-! Texts: split, strip, startswith, find, partition. -/
namespace Ev
open PySem PySem.Spec PySem.Builtin PySem.Builtin.Str PySem.StrLaws
open PyProof.Rows hiding St
open L2
open Evl (Ex)
theorem tlT (t : List Nat) : TL.tl (T t) = t := rfl
theorem T_tl (x : Str) : T (TL.tl x) = x := TL.mk_tl x
theorem drop_tw (p : Nat → Bool) : ∀ l : List Nat, l.drop (l.takeWhile p).length = l.dropWhile p
  | [] => rfl
  | c :: l => by
    rw [List.takeWhile_cons, List.dropWhile_cons]
    cases p c with
    | true => simp only [if_true, List.length_cons, List.drop_succ_cons]; exact drop_tw p l
    | false => rfl
theorem tw_len (p : Nat → Bool) : ∀ l : List Nat, (l.takeWhile p).length ≤ l.length
  | [] => Nat.le_refl _
  | c :: l => by
    rw [List.takeWhile_cons]
    have := tw_len p l
    split <;> simp <;> omega
theorem take_rev (a : List Nat) (k : Nat) (h : k ≤ a.length) : a.take (a.length - k) = (a.reverse.drop k).reverse := by
  rw [List.drop_reverse, List.reverse_reverse]
theorem strip_len (goes : Nat → Bool) (l r : Bool) (t : List Nat) : (stripL goes l r t).length ≤ t.length := by
  have h1 : (if l then t.dropWhile goes else t).length ≤ t.length := by
    split
    · rw [← drop_tw, List.length_drop]; omega
    · exact Nat.le_refl _
  unfold stripL
  simp only
  generalize (if l then t.dropWhile goes else t) = a at h1
  split
  · rw [List.length_reverse, ← drop_tw, List.length_drop, List.length_reverse]
    omega
  · exact h1
theorem stripBy_T (goes : Nat → Bool) (l r : Bool) (t : List Nat) : Txt.stripBy goes l r (T t) = T (stripL goes l r t) := by
  have ec : (T t).cps.toList = t := rfl
  have key : TL.tl (stripped goes l r (T t)) = stripL goes l r t := by
    unfold stripped
    rw [TL.tl_strSub, tlT]
    have hlo : t.drop (stripLo goes l (T t)) = (if l then t.dropWhile goes else t) ∧ stripLo goes l (T t) ≤ t.length := by
      unfold stripLo
      cases l with
      | true =>
        rw [if_pos rfl, if_pos rfl, ec]
        exact ⟨drop_tw goes t, tw_len goes t⟩
      | false => exact ⟨rfl, Nat.zero_le _⟩
    unfold stripHi stripL
    rw [ec, T_len]
    have hal : (t.drop (stripLo goes l (T t))).length = t.length - stripLo goes l (T t) := List.length_drop
    rw [hlo.1] at hal ⊢
    have h2 := hlo.2
    simp only
    generalize (if l then t.dropWhile goes else t) = a at hal
    generalize stripLo goes l (T t) = lo at hal h2
    cases r with
    | true =>
      rw [if_pos rfl, if_pos rfl]
      have hk := tw_len goes a.reverse
      rw [List.length_reverse] at hk
      rw [show t.length - (a.reverse.takeWhile goes).length - lo = a.length - (a.reverse.takeWhile goes).length by omega, take_rev a _ hk, drop_tw]
    | false =>
      rw [if_neg Bool.false_ne_true, if_neg Bool.false_ne_true, ← hal]
      exact List.take_length
  unfold Txt.stripBy
  by_cases h : stripSame goes l r (T t) = true
  · rw [if_pos h]
    unfold stripSame at h
    rw [Bool.and_eq_true, beq_iff_eq, beq_iff_eq] at h
    have e : stripped goes l r (T t) = T t := by
      unfold stripped
      rw [h.2, h.1]
      refine TL.ext_tl ?_
      rw [TL.tl_strSub, List.drop_zero, Nat.sub_zero, TL.len_tl]
      exact List.take_length
    rw [e, tlT] at key
    rw [← key]
  · rw [if_neg h, ← key, T_tl]
theorem contains_T (b : List Nat) : (T b).cps.contains = b.contains := by
  funext c
  rw [← List.contains_toArray]
  rfl
theorem spl_len (S : List Nat) : ∀ (l acc : List Nat) (k : Nat), (TL.spl S k acc l).length ≤ l.length + 1 ∧ ∀ p ∈ TL.spl S k acc l, p.length ≤ acc.length + l.length
  | [], acc, k => by
    rw [TL.spl_nil]
    exact ⟨Nat.le_refl _, fun p hp => by rw [List.mem_singleton.mp hp]; simp⟩
  | c :: l, acc, 0 => by
    by_cases h : TL.pre S (c :: l) = true
    · rw [TL.spl_hit h]
      obtain ⟨h1, h2⟩ := spl_len S l [] (S.length - 1)
      refine ⟨by simp only [List.length_cons]; omega, fun p hp => ?_⟩
      rcases List.mem_cons.mp hp with rfl | hp
      · omega
      · have := h2 p hp
        simp only [List.length_nil, List.length_cons] at this ⊢
        omega
    · have h : TL.pre S (c :: l) = false := by simpa using h
      rw [TL.spl_miss h]
      obtain ⟨h1, h2⟩ := spl_len S l (acc ++ [c]) 0
      refine ⟨by simp only [List.length_cons]; omega, fun p hp => ?_⟩
      have := h2 p hp
      simp at this ⊢
      omega
  | c :: l, acc, k + 1 => by
    show (TL.spl S k acc l).length ≤ _ ∧ ∀ p ∈ TL.spl S k acc l, _
    obtain ⟨h1, h2⟩ := spl_len S l acc k
    refine ⟨by simp only [List.length_cons]; omega, fun p hp => ?_⟩
    have := h2 p hp
    simp only [List.length_cons]
    omega
theorem par_len (S : List Nat) : ∀ (l acc : List Nat) {p q : List Nat}, TL.par S acc l = some (p, q) → p.length ≤ acc.length + l.length ∧ q.length ≤ l.length
  | [], acc, p, q, h => by cases h
  | c :: l, acc, p, q, h => by
    by_cases g : TL.pre S (c :: l) = true
    · rw [TL.par_hit g] at h
      cases h
      exact ⟨by omega, by rw [List.length_drop]; omega⟩
    · have g : TL.pre S (c :: l) = false := by simpa using g
      rw [TL.par_miss g] at h
      obtain ⟨h1, h2⟩ := par_len S l _ h
      simp at h1 ⊢
      exact ⟨by omega, by omega⟩
theorem reps_strs {K : PySem.W.Frag} {H : Hp} : ∀ l : List (List Nat), (∀ s ∈ l, s.length ≤ line) → Reps K H ((l.map T).map V.str) (l.map .str)
  | [], _ => .nil
  | s :: l, h => .cons (.str s (h s (List.mem_cons_self ..))) (reps_strs l fun x hx => h x (List.mem_cons_of_mem _ hx))
theorem starts_T (t : List Nat) (c : Nat) (b : List Nat) : Txt.startswith (T t) (T (c :: b)) = TL.pre (c :: b) t := by
  have hy : TL.tl (T (c :: b)) ≠ [] := by rw [tlT]; exact List.cons_ne_nil _ _
  have h := TL.at_iff (x := T t) hy 0
  rw [tlT, tlT, List.drop_zero] at h
  unfold Txt.startswith
  cases q : TL.pre (c :: b) t with
  | true =>
    obtain ⟨h1, h2⟩ := h.mpr q
    rw [h2, Bool.and_true]
    exact decide_eq_true h1
  | false =>
    cases q2 : (decide (0 + (T (c :: b)).length ≤ (T t).length) && subAt (T t) (T (c :: b)) 0) with
    | false => rfl
    | true =>
      rw [Bool.and_eq_true, decide_eq_true_eq] at q2
      have := h.mp ⟨q2.1, q2.2⟩
      rw [q] at this
      cases this
theorem find_T (t : List Nat) (c : Nat) (b : List Nat) : Txt.find (T t) (T (c :: b)) = match TL.par (c :: b) [] t with
    | some (p, _) => (p.length : Int)
    | none => -1 := by
  have hy : TL.tl (T (c :: b)) ≠ [] := by rw [tlT]; exact List.cons_ne_nil _ _
  unfold Txt.find
  rcases occ_head (T t) (T (c :: b)) 1 (Nat.le_refl _) with ⟨e, hn⟩ | ⟨i, r, e, hi, hn⟩
  · have run := TL.par_run (c :: b) t t.length 0 [] (by omega) (fun k _ _ => TL.no_at hy (hn k))
    rw [List.drop_zero, Nat.zero_add, List.drop_length] at run
    rw [e, run]
    rfl
  · have hb : i + (T (c :: b)).length ≤ (T t).length := hi.1
    rw [T_len, T_len] at hb
    have run := TL.par_run (c :: b) t i 0 [] (by omega) (fun k _ k2 => TL.no_at hy (hn k (by omega)))
    have hp := (TL.at_iff hy i).mp hi
    rw [tlT, tlT] at hp
    rw [List.drop_zero, Nat.zero_add, List.nil_append, TL.par_at (List.cons_ne_nil _ _) hp] at run
    rw [e, run]
    show (i : Int) = ((t.take i).length : Int)
    rw [List.length_take]
    omega
section
variable {X : Cx}
theorem mt_split_ : MtR X "str.split" (rM X.K .split) := by
  intro pins s σ H x xs v us Q I rx rs ⟨dx, ds, d, hx, hs, e, q⟩
  match dx, ds, e with
  | .str t, [.str b], e =>
    simp only [opM] at e
    split at e
    · rename_i h
      cases e
      obtain ⟨rfl, _⟩ := hx.str_inv
      obtain ⟨w, rfl, hw⟩ := hs.one
      obtain ⟨rfl, _⟩ := hw.str_inv
      obtain ⟨h1, h2, h3⟩ := h
      refine mt_split pins s σ H _ _ v us Q I rx rs ⟨_, _, rfl, rfl, ?_, by rw [T_len]; exact h3, fun p hp => ?_⟩
      · rw [T_len]
        cases b with
        | nil => exact absurd rfl h1
        | cons _ _ => rfl
      · rw [show Txt.split (T t) (T b) = (TL.spl b 0 [] t).map T from SX.split_S h1 h2]
        obtain ⟨g1, g2⟩ := spl_len b t [] 0
        exact q _ _ (Ex.new hp) (frep_lst hp (reps_strs _ fun s hs => by have := g2 s hs; simp only [List.length_nil] at this; omega) (by rw [List.length_map]; omega))
    · cases e
  | .str _, [], e => simp [opM] at e
  | .str _, [.non], e | .str _, [.bl _], e | .str _, [.int _], e | .str _, [.tup _], e | .str _, [.lst _], e => simp [opM] at e
  | .str _, _ :: _ :: _, e => simp [opM] at e
  | .non, _, e | .bl _, _, e | .int _, _, e | .tup _, _, e | .lst _, _, e => simp [opM] at e
theorem mt_strip3 {m : Mt} {id : String} (l r : Bool) (hm : ∀ t b, opM m (.str t) [.str b] = if t.length ≤ line then some (.str (stripL b.contains l r t)) else none) (h0 : ∀ x ds d, opM m x ds = some d → ∃ t b, x = .str t ∧ ds = [.str b])
    (rule : MtR X id (fun x xs H Q => ∃ a b, x = .str a ∧ xs = [.str b] ∧ a.length ≤ sizeLine ∧ Q (.str (Txt.stripBy b.cps.contains l r a)) H)) : MtR X id (rM X.K m) := by
  intro pins s σ H x xs v us Q I rx rs ⟨dx, ds, d, hx, hs, e, q⟩
  obtain ⟨t, b, rfl, rfl⟩ := h0 _ _ _ e
  rw [hm] at e
  split at e
  · rename_i h
    cases e
    obtain ⟨rfl, _⟩ := hx.str_inv
    obtain ⟨w, rfl, hw⟩ := hs.one
    obtain ⟨rfl, _⟩ := hw.str_inv
    refine rule pins s σ H _ _ v us Q I rx rs ⟨_, _, rfl, rfl, by rw [T_len]; exact h, ?_⟩
    rw [contains_T, stripBy_T]
    exact q _ _ (Ex.refl H) (.str _ (Nat.le_trans (strip_len ..) h))
  · cases e
theorem opM_two {m : Mt} (hm : m = .strip ∨ m = .lstrip ∨ m = .rstrip ∨ m = .starts ∨ m = .find ∨ m = .part) {x : D} {ds : List D} {d : D} (e : opM m x ds = some d) : ∃ t b, x = .str t ∧ ds = [.str b] := by
  match x, ds, e with
  | .str t, [.str b], _ => exact ⟨t, b, rfl, rfl⟩
  | .str _, [], e => rcases hm with rfl | rfl | rfl | rfl | rfl | rfl <;> simp [opM] at e
  | .str _, [.non], e | .str _, [.bl _], e | .str _, [.int _], e | .str _, [.tup _], e | .str _, [.lst _], e => rcases hm with rfl | rfl | rfl | rfl | rfl | rfl <;> simp [opM] at e
  | .str _, _ :: _ :: _, e => rcases hm with rfl | rfl | rfl | rfl | rfl | rfl <;> simp [opM] at e
  | .non, _, e | .bl _, _, e | .int _, _, e | .tup _, _, e | .lst _, _, e => rcases hm with rfl | rfl | rfl | rfl | rfl | rfl <;> simp [opM] at e
theorem mt_strip_ : MtR X "str.strip" (rM X.K .strip) := mt_strip3 true true (fun _ _ => rfl) (fun _ _ _ e => opM_two (.inl rfl) e) mt_stripChars
theorem mt_lstrip_ : MtR X "str.lstrip" (rM X.K .lstrip) := mt_strip3 true false (fun _ _ => rfl) (fun _ _ _ e => opM_two (.inr (.inl rfl)) e) mt_lstripChars
theorem mt_rstrip_ : MtR X "str.rstrip" (rM X.K .rstrip) := mt_strip3 false true (fun _ _ => rfl) (fun _ _ _ e => opM_two (.inr (.inr (.inl rfl))) e) mt_rstripChars
theorem mt_starts_ : MtR X "str.startswith" (rM X.K .starts) := by
  intro pins s σ H x xs v us Q I rx rs ⟨dx, ds, d, hx, hs, e, q⟩
  obtain ⟨t, b, rfl, rfl⟩ := opM_two (.inr (.inr (.inr (.inl rfl)))) e
  cases b with
  | nil => simp [opM] at e
  | cons c b =>
    cases e
    obtain ⟨rfl, _⟩ := hx.str_inv
    obtain ⟨w, rfl, hw⟩ := hs.one
    obtain ⟨rfl, _⟩ := hw.str_inv
    refine mt_startswith pins s σ H _ _ v us Q I rx rs ⟨_, _, rfl, rfl, ?_⟩
    rw [starts_T]
    exact q _ _ (Ex.refl H) (.bl _)
theorem mt_find_ : MtR X "str.find" (rM X.K .find) := by
  intro pins s σ H x xs v us Q I rx rs ⟨dx, ds, d, hx, hs, e, q⟩
  obtain ⟨t, b, rfl, rfl⟩ := opM_two (.inr (.inr (.inr (.inr (.inl rfl))))) e
  cases b with
  | nil => simp [opM] at e
  | cons c b =>
    cases e
    obtain ⟨rfl, _⟩ := hx.str_inv
    obtain ⟨w, rfl, hw⟩ := hs.one
    obtain ⟨rfl, _⟩ := hw.str_inv
    refine mt_find pins s σ H _ _ v us Q I rx rs ⟨_, _, rfl, rfl, ?_⟩
    rw [find_T]
    exact q _ _ (Ex.refl H) (.int _)
theorem mt_part_ : MtR X "str.partition" (rM X.K .part) := by
  intro pins s σ H x xs v us Q I rx rs ⟨dx, ds, d, hx, hs, e, q⟩
  obtain ⟨t, b, rfl, rfl⟩ := opM_two (.inr (.inr (.inr (.inr (.inr rfl))))) e
  cases b with
  | nil => simp [opM] at e
  | cons c b =>
    simp only [opM] at e
    split at e
    · rename_i h
      cases e
      obtain ⟨h1, h2⟩ := h
      obtain ⟨rfl, _⟩ := hx.str_inv
      obtain ⟨w, rfl, hw⟩ := hs.one
      obtain ⟨rfl, _⟩ := hw.str_inv
      have l3 : 3 ≤ line := by decide
      refine mt_partition pins s σ H _ _ v us Q I rx rs ⟨_, _, rfl, rfl, by rw [T_len]; rfl, by rw [T_len]; exact h1, fun p hp => ?_⟩
      have hpp := TL.partition_par (T t) (T (c :: b)) (by rw [tlT]; exact List.cons_ne_nil _ _)
      rw [tlT, tlT] at hpp
      rw [hpp]
      cases z : TL.par (c :: b) [] t with
      | none =>
        rw [z] at q
        exact q _ _ (Ex.new hp) (rep_tup hp (.cons (.str t h1) (.cons (.str [] (Nat.zero_le _)) (.cons (.str [] (Nat.zero_le _)) .nil))) l3)
      | some pq =>
        obtain ⟨a, r⟩ := pq
        rw [z] at q
        obtain ⟨g1, g2⟩ := par_len _ _ _ z
        simp only [List.length_nil] at g1
        exact q _ _ (Ex.new hp) (rep_tup hp (.cons (.str a (by omega)) (.cons (.str (c :: b) h2) (.cons (.str r (by omega)) .nil))) l3)
    · cases e
end
end Ev

/-! Sets of texts: made of a list, sorted. -/
namespace Ev
open PySem PySem.Spec
open PyProof.Rows hiding St
open L2
open Evl (Ex)
variable [Wo]

def GoodS (w : World) (e : Int × Value) : Prop := ∃ x tk, e.2 = Value.str x tk ∧ e.1 = hashStr w x
def keyS (e : Int × Value) : Str := match e.2 with | .str x _ => x | _ => Str.empty
/-- the set of texts at a: l its members, each once, in some order -/
def TSet (w : World) (h : Heap) (a : Addr) (l : List Str) : Prop :=
  ∃ o es ep t, h.get? a = some o ∧ o.ExactSet ∧ o.data = .set es ep t ∧ (∀ e ∈ es.toList, GoodS w e) ∧ (es.toList.map keyS).Perm l ∧ l.Nodup ∧
    l.length < scanBound ∧ t.fits es.size = true ∧ Ris t.place.toList ∧ (w.params.followText "set-order" = true ∨ t.led = true)

section
variable {P : Program} {w : World} {h h' : Heap} {a : Addr} {l : List Str}
omit [Wo] in
theorem TSet.at (R : TSet w h a l) (k : ∀ o, h.get? a = some o → h'.get? a = some o) : TSet w h' a l := by
  obtain ⟨o, es, ep, t, ho, r⟩ := R
  exact ⟨o, es, ep, t, k o ho, r⟩
omit [Wo] in
theorem isS (k : Str) (u : Tok) : (PySem.strKind P w).is k (.str k u) = true := by
  show Value.isStrOf k (.str k u) = true
  simp [Value.isStrOf]
omit [Wo] in
theorem goodS_elems {es : List (Int × Value)} (g : ∀ e ∈ es, GoodS w e) : ElemsOf (PySem.strKind P w) es := fun e he => by
  obtain ⟨k, tk, h1, h2⟩ := g e he
  exact ⟨⟨k, by rw [h1]; exact isS k tk, h2⟩, by rw [h1] <;> rfl⟩
omit [Wo] in
theorem goodS_is {e : Int × Value} (g : GoodS w e) (k : Str) : (PySem.strKind P w).is k e.2 = true ↔ keyS e = k := by
  obtain ⟨k0, tk, h1, _⟩ := g
  unfold keyS
  rw [h1]
  constructor
  · intro q
    exact (PySem.strKind P w).inj (.str k0 tk) k0 k (isS k0 tk) q
  · rintro rfl
    exact isS _ tk
omit [Wo] in
theorem goodS_mem {es : List (Int × Value)} (g : ∀ e ∈ es, GoodS w e) (k : Str) : k ∈ es.map keyS ↔ ∃ e ∈ es, (PySem.strKind P w).is k e.2 = true := by
  rw [List.mem_map]
  constructor
  · rintro ⟨e, he, q⟩
    exact ⟨e, he, (goodS_is (g e he) k).2 q⟩
  · rintro ⟨e, he, q⟩
    exact ⟨e, he, (goodS_is (g e he) k).1 q⟩
end
section
variable {P : Program} {w : World} {A : Around} {E : Value → Shared → Prop} {s : Shared} {a : Addr} {l : List Str}

omit [Wo] in
theorem tset_tail {g : Bool → Sem Unit} (hg : ∀ (b : Bool) (s₁ : Shared) (Q' : Unit → Shared → Prop), Q' () s₁ → wpAny (model P w) A (g b) Q' E s₁)
    {o : Obj} {es : Array (Int × Value)} {ep : Nat} {t : SetTable} (ho : s.heap.get? a = some o) (hex : o.ExactSet) (hd : o.data = .set es ep t)
    {es1 : Array (Int × Value)} {t2 : SetTable} (g1 : ∀ e ∈ es1.toList, GoodS w e) (pm1 : (es1.toList.map keyS).Perm l) (nd : l.Nodup)
    (hb1 : l.length < scanBound) (hf2 : t2.fits es1.size = true) (hr : Ris t2.place.toList) (hl : w.params.followText "set-order" = true ∨ t2.led = true) {wasDummy : Bool} {R : Option Bool → Shared → Prop}
    (hR : ∀ h', Heap.SameBut a s.heap h' → TSet w h' a l → R (some true) { s with heap := h' }) :
    wpAny (model P w) A (do
        storeSet a es1 t2
        if (!wasDummy && t2.tooFull) = true then do
            g (relayAll t2 es1 (SetTable.grown es1.size)).2.2
            storeSet a (relayAll t2 es1 (SetTable.grown es1.size)).1 (relayAll t2 es1 (SetTable.grown es1.size)).2.1
            pure (some true)
          else pure (some true)) R E s := by
  have hsz : es1.size = l.length := by
    have q := pm1.length_eq
    rw [List.length_map, Array.length_toList] at q
    exact q
  have hbz : es1.size < scanBound := by rw [hsz]; exact hb1
  refine wpAny_bind (wpAny_storeSet_of ho hd ?_ (fits_of_scanBound hbz))
  have ho1 := store_at (es' := es1) (t' := t2) ho hd
  have sb1 := Heap.SameBut.update s.heap a (Obj.putSet es1 t2)
  split
  · have pm := relayAll_perm t2 es1 (SetTable.grown es1.size)
    have hf3 := relayAll_fits t2 es1 (SetTable.grown es1.size)
    have hr3 := relayAll_ris t2 es1 (SetTable.grown es1.size)
    have hl3 := relayAll_led t2 es1 (SetTable.grown es1.size)
    generalize relayAll t2 es1 (SetTable.grown es1.size) = Z at pm hf3 hr3 hl3 ⊢
    obtain ⟨es2, t3, gave⟩ := Z
    dsimp only at pm hf3 hr3 hl3 ⊢
    have hb2 : es2.size < scanBound := by
      have e : es2.size = es1.size := by rw [← Array.length_toList, pm.length_eq, Array.length_toList]
      rw [e]
      exact hbz
    refine wpAny_bind (hg _ _ _ ?_)
    refine wpAny_bind (wpAny_storeSet_of ho1 rfl ?_ (fits_of_scanBound hb2))
    have ho2 := store_at (es' := es2) (t' := t3) ho1 rfl
    refine wpAny_pure (hR _ (sb1.trans (Heap.SameBut.update _ a _)) ?_)
    exact ⟨_, es2, _, t3, ho2, hex, rfl, fun e he => g1 e (pm.mem_iff.mp he), (pm.map keyS).trans pm1, nd, hb1, hf3, hr3, hl.imp id fun z => by rw [hl3]; exact z⟩
  · exact wpAny_pure (hR _ sb1 ⟨_, es1, _, t2, ho1, hex, rfl, g1, pm1, nd, hb1, hf2, hr, hl⟩)

def addS (l : List Str) (k : Str) : List Str := if k ∈ l then l else k :: l
omit [Wo] in
theorem tset_add {k : Str} {tk : Tok} {Q : Bool → Shared → Prop} (R : TSet w s.heap a l) (room : l.length + 1 < scanBound)
    (hQ : ∀ b h', Heap.SameBut a s.heap h' → TSet w h' a (addS l k) → Q b { s with heap := h' }) :
    wpAny (model P w) A (setAddHashed a (.str k tk) ((PySem.strKind P w).hash k)) Q E s := by
  obtain ⟨o, es, ep, t, ho, hex, hd, g, pm0, nd, hb, hf, hr, hl⟩ := R
  have hkey : (PySem.strKind P w).is k (.str k tk) = true := isS k tk
  have hsc : (Value.str k tk).scannable = true := rfl
  have hel : ElemsOf (PySem.strKind P w) es.toList := goodS_elems g
  have hsz : es.size = l.length := by
    have q := pm0.length_eq
    rw [List.length_map, Array.length_toList] at q
    exact q
  have hbz : es.size < scanBound := by rw [hsz]; exact hb
  unfold setAddHashed setAddHashedIn
  refine wpAny_holding (wpAny_bind (wpAny_setState_of ho hd hf ?_))
  dsimp only
  rw [byScan_of hsc hbz hel]
  simp only [↓reduceIte]
  unfold setAddByScan
  refine wpAny_bind ?_
  refine wpAny_bind (wpAny_rule ?_)
  refine wpAny_bind (wpAny_setScan_of hkey ho hd hf hel ?_)
  cases hfi : List.findIdx? (fun e => (PySem.strKind P w).is k e.2) es.toList with
  | some j =>
    dsimp only
    obtain ⟨hj, pj, _⟩ := List.findIdx?_eq_some_iff_getElem.mp hfi
    have hk : k ∈ l := pm0.mem_iff.mp ((goodS_mem (P := P) (w := w) g k).2 ⟨es.toList[j], List.getElem_mem hj, pj⟩)
    refine wpAny_pure (wpAny_pure ?_)
    have e : addS l k = l := if_pos hk
    refine hQ _ s.heap (Heap.SameBut.refl a s.heap) ?_
    rw [e]
    exact ⟨o, es, ep, t, ho, hex, hd, g, pm0, nd, hb, hf, hr, hl⟩
  | none =>
    dsimp only
    have hnk : k ∉ l := fun z => by
      obtain ⟨e, he, q⟩ := (goodS_mem (P := P) (w := w) g k).1 (pm0.mem_iff.mpr z)
      have c := List.findIdx?_eq_none_iff.mp hfi e he
      rw [q] at c
      cases c
    have hgw : ∀ (b : Bool) {s₁ : Shared} {Q' : Unit → Shared → Prop}, Q' () s₁ → wpAny (model P w) A (match b with | true => rule "set.scan.the-table-gave-way" | false => pure ()) Q' E s₁ :=
      fun b s₁ Q' q => by cases b <;> first | exact wpAny_pure q | exact wpAny_rule q
    have pm := layNew_perm t es ((PySem.strKind P w).hash k) (.str k tk)
    have hf1 := layNew_fits t es ((PySem.strKind P w).hash k) (.str k tk)
    have hr1 := layNew_ris t es ((PySem.strKind P w).hash k) (.str k tk) hr
    have hl1 := layNew_led t es ((PySem.strKind P w).hash k) (.str k tk)
    generalize layNew t es ((PySem.strKind P w).hash k) (.str k tk) = Z at pm hf1 hr1 hl1 ⊢
    obtain ⟨es1, t1, wasDummy, gave⟩ := Z
    dsimp only at pm hf1 hr1 hl1 ⊢
    rw [Array.toList_push] at pm
    have pc : es1.toList.Perm (((PySem.strKind P w).hash k, Value.str k tk) :: es.toList) := pm.trans (List.perm_append_singleton _ _)
    have pk : (es1.toList.map keyS).Perm (k :: l) := (pc.map keyS).trans (List.Perm.cons k pm0)
    have g1 : ∀ e ∈ es1.toList, GoodS w e := fun e he => by
      rcases List.mem_cons.mp (pc.mem_iff.mp he) with z | z
      · rw [z]; exact ⟨k, tk, rfl, rfl⟩
      · exact g e z
    have nd1 : (k :: l).Nodup := List.nodup_cons.mpr ⟨hnk, nd⟩
    have hled : w.params.followText "set-order" = true ∨ t1.led = true := hl.imp id fun z => by rw [hl1]; exact z
    have e : addS l k = k :: l := if_neg hnk
    have fin : ∀ h', Heap.SameBut a s.heap h' → TSet w h' a (k :: l) → Q true { s with heap := h' } := fun h' sb r => hQ true h' sb (by rw [e]; exact r)
    refine wpAny_bind (hgw _ ?_)
    split
    · refine wpAny_bind ?_
      rw [hashByValue_scannable 8 hsc]
      refine wpAny_pure ?_
      refine tset_tail ?_ ho hex hd g1 pk nd1 room ?_ ?_ ?_ ?_
      · intro b s₁ Q' q; cases b <;> first | exact wpAny_pure q | exact wpAny_rule q
      · first | (split <;> first | exact hf1 | exact SetTable.fits_plain_off hf1) | exact hf1
      · first | (split <;> exact hr1) | exact hr1
      · first | (split <;> exact hled) | exact hled
      · intro h' sb r; dsimp only; exact wpAny_pure (fin h' sb r)
    · refine wpAny_bind (wpAny_pure ?_)
      simp only [↓reduceIte]
      refine tset_tail ?_ ho hex hd g1 pk nd1 room hf1 hr1 hled ?_
      · intro b s₁ Q' q; cases b <;> first | exact wpAny_pure q | exact wpAny_rule q
      · intro h' sb r; dsimp only; exact wpAny_pure (fin h' sb r)

def setOfL (xs : List Str) : List Str := xs.foldl addS []
omit [Wo] in
theorem addS_len (l : List Str) (k : Str) : (addS l k).length ≤ l.length + 1 := by
  unfold addS
  split
  · omega
  · simp
omit [Wo] in
theorem foldS_len : ∀ (xs l : List Str), (xs.foldl addS l).length ≤ l.length + xs.length
  | [], l => by simp
  | x :: xs, l => by
    have h1 := foldS_len xs (addS l x)
    have h2 := addS_len l x
    rw [List.foldl_cons, List.length_cons]
    omega
omit [Wo] in
theorem foldS_mem (k : Str) : ∀ (xs l : List Str), k ∈ xs.foldl addS l ↔ k ∈ l ∨ k ∈ xs
  | [], l => by simp
  | x :: xs, l => by
    rw [List.foldl_cons, foldS_mem k xs]
    unfold addS
    split
    · rename_i hx
      simp only [List.mem_cons]
      constructor
      · rintro (h | h)
        · exact .inl h
        · exact .inr (.inr h)
      · rintro (h | rfl | h)
        · exact .inl h
        · exact .inl hx
        · exact .inr h
    · simp only [List.mem_cons]
      constructor
      · rintro ((h | h) | h)
        · exact .inr (.inl h)
        · exact .inl h
        · exact .inr (.inr h)
      · rintro (h | h | h)
        · exact .inl (.inr h)
        · exact .inl (.inl h)
        · exact .inr h

omit [Wo] in
theorem tset_update {I : Addr} {fp wr : List Addr} {G : Array GenState → Array GenState → Prop} {n : Nat} {Pv : Nat → Value → Prop} {St : Nat → Shared → Prop} {R : Result → Shared → Prop}
    (W : WalksS P w A.in1 I fp wr G n Pv St) (S : Addr) (hSf : S ∉ fp) (xs : List Str) (hn : n = xs.length) (hb : xs.length + 1 < scanBound) (hval : ∀ i v, Pv i v → ∃ k t, xs[i]? = some k ∧ v = .str k t) :
    ∀ (k i : Nat) (s : Shared), n - i = k → i ≤ n → St i s → TSet w s.heap S (setOfL (xs.take i)) →
      (∀ s', Moved (S :: wr) G s s' → TSet w s'.heap S (setOfL xs) → R (.ok (.ret .none)) s') →
      codeAny (model P w) A (.builtin "set.update.loop" ⟨[.ref S, .ref I], []⟩) R s := by
  have hSw : S ∉ wr := fun h => hSf (W.sub _ h)
  have hsub : ∀ b ∈ wr, b ∈ S :: wr := fun b hb => List.mem_cons_of_mem _ hb
  intro k
  induction k with
  | zero =>
    intro i s hk' hi hst hS hR
    have hin : i = n := by omega
    subst hin
    refine codeAny_builtin F.entry_set_update_loop ?_
    rw [Around.under_plainId F.plain_set_update_loop _]
    show wpAny _ A.in1 (pyNext (.ref I) >>= _) _ _ s
    refine wpAny_bind (W.done s _ _ hst fun s' hm => ?_)
    show wpAny _ A.in1 (ret Value.none) _ _ s'
    have e : xs.take i = xs := List.take_of_length_le (by omega)
    rw [e] at hS
    exact wpAny_pure (hR s' (hm.mono hsub) (hS.at fun o e => hm.heap S o hSw e))
  | succ k ih =>
    intro i s hk' hi hst hS hR
    have hlt : i < n := by omega
    refine codeAny_builtin F.entry_set_update_loop ?_
    rw [Around.under_plainId F.plain_set_update_loop _]
    show wpAny _ A.in1 (pyNext (.ref I) >>= _) _ _ s
    refine wpAny_bind (W.item i s _ _ hlt hst fun v s' hP hst' hm => ?_)
    obtain ⟨z, t, hz, rfl⟩ := hval i v hP
    have hS' : TSet w s'.heap S (setOfL (xs.take i)) := hS.at fun o e => hm.heap S o hSw e
    show wpAny _ A.in1 (holding [Value.str z t] (setAdd S (.str z t)) >>= _) _ _ s'
    refine wpAny_bind (wpAny_holding ?_)
    unfold setAdd
    refine wpAny_holding ?_
    refine wpAny_bind ((PySem.strKind P w).pyHash (k := z) (isS z t) ?_)
    have hroom : (setOfL (xs.take i)).length + 1 < scanBound := by
      have := foldS_len (xs.take i) []
      rw [List.length_take, List.length_nil] at this
      unfold setOfL
      omega
    refine tset_add (s := { s' with toks := s'.toks + 1 }) hS' hroom fun b h' hsb hS2 => ?_
    have hS3 : TSet w h' S (setOfL (xs.take (i + 1))) := by
      have e : setOfL (xs.take (i + 1)) = addS (setOfL (xs.take i)) z := by
        unfold setOfL
        rw [List.take_add_one, hz, List.foldl_append] <;> rfl
      rw [e]
      exact hS2
    refine wpAny_pure ⟨plainId_quiet F.plain_set_update_loop _, ih (i + 1) _ (by omega) hlt (W.frame _ s' _ _ hst' (Nat.le_succ _) fun b hb o e => ?_) hS3 fun s'' hm'' hS'' => ?_⟩
    · rw [hsb.2 b (fun h : b = S => hSf (by rw [← h]; exact hb))]; exact e
    · refine hR s'' (Moved.trans W.gtrans ((hm.mono hsub).then_heap (Nat.le_succ _) fun b o hb e => ?_) hm'') hS''
      rw [hsb.2 b (fun h : b = S => hb (by rw [h]; exact List.mem_cons_self))]; exact e

omit [Wo] in
theorem tset_fresh {h : Heap} (ho : h.get? a = some { cls := .type "set", dict := none, data := .set #[] 0 (.fresh 0 0 (!w.params.followText "set-order")) }) : TSet w h a (setOfL []) :=
  ⟨_, #[], 0, _, ho, ⟨rfl, rfl, rfl⟩, rfl, (fun e he => by simp at he), List.Perm.nil, List.nodup_nil, (by decide), (by rfl), List.Pairwise.nil, by
    show _ ∨ (!w.params.followText "set-order") = true
    cases w.params.followText "set-order"
    · exact .inr rfl
    · exact .inl rfl⟩

omit [Wo] in
theorem strs_at {xs : List Str} : ∀ {vs : List Value}, StrsAre vs xs → ∀ (i : Nat) (v : Value), vs[i]? = some v → ∃ k t, xs[i]? = some k ∧ v = .str k t := fun h i v e => by
  obtain ⟨y, t, e1, e2⟩ := StrsAre.item h i v e
  exact ⟨y, t, e2, e1⟩

set_option maxHeartbeats 3200000 in
omit [Wo] in
theorem call_set_texts {l : Addr} {items : Array Value} (xs : List Str) {Q : Value → Shared → Prop} (hh : A.handled = none) (hl : s.heap.IsList l items) (hit : StrsAre items.toList xs) (hb : xs.length + 1 < scanBound)
    (h : ∀ (h' : Heap) (tk : Nat), TSet w h' s.heap.objs.size (setOfL xs) → (∀ b o, s.heap.get? b = some o → h'.get? b = some o) → Q (.ref s.heap.objs.size) { s with heap := h', toks := tk }) :
    wpAny (model P w) A (call (.type "set") [.ref l]) Q E s := by
  have hisz : items.size = xs.length := by
    have q := strs_len_eq hit
    rw [Array.length_toList] at q
    exact q
  obtain ⟨c, tl, hmro⟩ := PySem.F.called_set.mro
  have hmade := PySem.F.called_set.made
  have hsub := PySem.F.called_set.sub
  refine wpAny_call (codeAny_of_tree ?_)
  show wpAny _ _ (callAny (.type "set") _) _ _ _
  refine wpAny_pure ⟨Code.quiet_builtin _ (by decide +kernel), codeAny_builtin PySem.F.entry_type_call ?_⟩
  rw [Around.under_plain (weight_type_call_type "set" [.ref l] []) rfl]
  have h1 := PySem.F.called_set.notType
  have h2 := PySem.F.called_set.canCreate
  have hct := PySem.F.typeCall_set_1 (.ref l)
  repeat (any_goals (first | assumption | wp_step))
  refine codeAny_mono (code_set_led1 (.ref l) (E := E) (Q₁ := fun obj s₁ => obj = .ref s.heap.objs.size ∧ s₁ = { s with heap := s.heap.push { cls := .type "set", dict := none, data := .set #[] 0 (.fresh 0 0 (!w.params.followText "set-order")) } }) ⟨rfl, rfl⟩) fun r s₁ hr => ?_
  cases r with
  | error e => exact hr
  | ok fl =>
    cases fl with
    | ret obj =>
      obtain ⟨rfl, rfl⟩ := hr
      have hS : (s.heap.push { cls := .type "set", dict := none, data := .set #[] 0 (.fresh 0 0 (!w.params.followText "set-order")) }).get? s.heap.objs.size = some { cls := .type "set", dict := none, data := .set #[] 0 (.fresh 0 0 (!w.params.followText "set-order")) } := Heap.get?_push_size _ rfl
      have hT : Shared.TypeIs { s with heap := s.heap.push { cls := .type "set", dict := none, data := .set #[] 0 (.fresh 0 0 (!w.params.followText "set-order")) } } (.ref s.heap.objs.size) "set" := ⟨_, hS, rfl⟩
      have hli := PySem.F.called_set.init.lookup
      have hbi := PySem.F.called_set.init.bind (.ref s.heap.objs.size)
      repeat (any_goals (first | assumption | wp_step))
      refine codeAny_mono (codeAny_call_builtin (R := wants (fun r s₂ => r = .none ∧ ∃ h' tk, s₂ = { s with heap := h', toks := tk } ∧ TSet w h' s.heap.objs.size (setOfL xs) ∧
          (∀ b o, s.heap.get? b = some o → h'.get? b = some o)) E) PySem.F.called_set.init.plain PySem.F.entry_set_init (check_set_init_1 hT ?_)) fun r₂ s₂ hr₂ => ?_
      · obtain ⟨ol, hol, hcl, nl, hdl⟩ := hl
        obtain ⟨ocls, odict, odata, oslots⟩ := ol
        simp only at hcl hdl
        subst hcl; subst hdl
        have hol' : (s.heap.push { cls := .type "set", dict := none, data := .set #[] 0 (.fresh 0 0 (!w.params.followText "set-order")) }).get? l = some { cls := .type "list", dict := odict, data := .seq items nl, slots := oslots } := Heap.get?_push_of_some _ hol
        have hsls := PySem.F.sub_list_set
        have hslf := PySem.F.sub_list_frozenset
        have hne : (Value.type "list" == Value.type "dict") = false := by decide
        have hl1 : (s.heap.push { cls := .type "set", dict := none, data := .set #[] 0 (.fresh 0 0 (!w.params.followText "set-order")) }).IsList l items := ⟨_, hol', rfl, nl, rfl⟩
        unfold Builtin.«set.__init__» noKeywords Builtin.Frozenset.updateFrom
        generalize hPI : pyIter = PI
        wp_walk
        subst hPI
        refine wpAny_pyIter_list hl1 ?_
        refine wpAny_bind (wpAny_runValue ?_)
        have hlS : l < s.heap.objs.size := Heap.lt_size hol
        have hh3 : A.in1.in1.in1.handled = none := by simp [hh]
        have hneI : l ≠ (s.heap.push { cls := .type "set", dict := none, data := .set #[] 0 (.fresh 0 0 (!w.params.followText "set-order")) }).objs.size := by
          rw [Heap.size_push]; exact Nat.ne_of_lt (Nat.lt_succ_of_lt hlS)
        have hSf : s.heap.objs.size ∉ [(s.heap.push { cls := .type "set", dict := none, data := .set #[] 0 (.fresh 0 0 (!w.params.followText "set-order")) }).objs.size, l] := by
          rw [Heap.size_push]; simp only [List.mem_cons, List.mem_singleton, List.not_mem_nil, or_false, not_or]
          exact ⟨Nat.ne_of_lt (Nat.lt_succ_self _), Nat.ne_of_gt hlS⟩
        have hval : ∀ (i : Nat) (v : Value), items[i]? = some v → ∃ k t, xs[i]? = some k ∧ v = .str k t := fun i v hv => strs_at hit i v (by rw [Array.getElem?_toList]; exact hv)
        refine tset_update ((Walks.list hh3 _ l hneI items).toS) s.heap.objs.size
          hSf xs hisz hb hval (items.size - 0) 0 _ (by omega) (Nat.zero_le _)
          ⟨⟨_, Heap.get?_push_size _ rfl, rfl, rfl⟩, (hl1.push _)⟩ ?hS0 ?hR
        case hS0 =>
          exact tset_fresh (Heap.get?_push_of_some _ hS)
        case hR =>
          intro s' hm hS'
          obtain ⟨h', g2, d', tk', os'⟩ := s'
          have eg : g2 = s.gens := hm.gens
          have ed : d' = s.drawn := hm.drawn
          have eo : os' = s.os := hm.os
          subst eg; subst ed; subst eo
          show wpAny _ _ _ _ _ _
          refine wpAny_pure ?_
          show wpAny _ _ (ret Value.none) _ _ _
          refine wpAny_pure ⟨rfl, h', tk', rfl, hS', fun b o e => ?_⟩
          have hb := Heap.lt_size e
          have hb1 : b ≠ s.heap.objs.size := Nat.ne_of_lt hb
          have hb2 : b ≠ (s.heap.push { cls := .type "set", dict := none, data := .set #[] 0 (.fresh 0 0 (!w.params.followText "set-order")) }).objs.size := by
            rw [Heap.size_push]; exact Nat.ne_of_lt (Nat.lt_succ_of_lt hb)
          exact hm.heap b o (by simp only [List.mem_cons, List.mem_singleton, List.not_mem_nil, or_false, not_or]; exact ⟨hb1, hb2⟩) (Heap.get?_push_of_some _ (Heap.get?_push_of_some _ e))
      · cases r₂ with
        | error e => exact hr₂
        | ok fl₂ =>
          cases fl₂ with
          | ret r =>
            obtain ⟨rfl, h', tk, rfl, hS', hk'⟩ := hr₂
            repeat (any_goals (first | assumption | wp_step))
            exact h _ _ hS' hk'
          | _ => exact hr₂.elim
    | _ => exact hr.elim
end
end Ev

/-! sorted(set(texts)), sorted(data). -/
namespace Ev
open PySem PySem.Spec
open PyProof.Rows hiding St
open L2
open Evl (Ex)
variable [Wo]

def Asc (l : List (List Nat)) : Prop := l.Pairwise (· < ·)
omit [Wo] in
theorem insU_mem (x k : List Nat) : ∀ l : List (List Nat), k ∈ insU x l ↔ k = x ∨ k ∈ l
  | [] => by simp [insU]
  | y :: r => by
    unfold insU
    split
    · rename_i e
      subst e
      simp
    · split
      · simp
      · rw [List.mem_cons, insU_mem x k r, List.mem_cons]
        constructor
        · rintro (h | h | h)
          · exact .inr (.inl h)
          · exact .inl h
          · exact .inr (.inr h)
        · rintro (h | h | h)
          · exact .inr (.inl h)
          · exact .inl h
          · exact .inr (.inr h)
omit [Wo] in
theorem lt_tri (x y : List Nat) : x < y ∨ x = y ∨ y < x := by
  by_cases h1 : x < y
  · exact .inl h1
  · by_cases h2 : y < x
    · exact .inr (.inr h2)
    · exact .inr (.inl (List.le_antisymm (List.not_lt.mp h2) (List.not_lt.mp h1)))
omit [Wo] in
theorem insU_asc (x : List Nat) : ∀ l : List (List Nat), Asc l → Asc (insU x l)
  | [], _ => List.pairwise_singleton _ _
  | y :: r, h => by
    obtain ⟨h1, h2⟩ := List.pairwise_cons.mp h
    unfold insU
    split
    · exact h
    · rename_i ne
      split
      · rename_i lt
        exact List.pairwise_cons.mpr ⟨fun z hz => by
          rcases List.mem_cons.mp hz with rfl | hz
          · exact lt
          · exact List.lt_trans lt (h1 z hz), h⟩
      · rename_i nl
        refine List.pairwise_cons.mpr ⟨fun z hz => ?_, insU_asc x r h2⟩
        rcases (insU_mem x z r).mp hz with rfl | hz
        · rcases lt_tri z y with c | c | c
          · exact absurd c nl
          · exact absurd c ne
          · exact c
        · exact h1 z hz
omit [Wo] in
theorem sortU_mem (k : List Nat) : ∀ l : List (List Nat), k ∈ sortU l ↔ k ∈ l
  | [] => by simp [sortU]
  | x :: l => by
    show k ∈ insU x (sortU l) ↔ _
    rw [insU_mem, sortU_mem k l, List.mem_cons]
omit [Wo] in
theorem sortU_asc : ∀ l : List (List Nat), Asc (sortU l)
  | [] => List.Pairwise.nil
  | x :: l => insU_asc x _ (sortU_asc l)
omit [Wo] in
theorem asc_one : ∀ {a b : List (List Nat)}, Asc a → Asc b → (∀ k, k ∈ a ↔ k ∈ b) → a = b
  | [], [], _, _, _ => rfl
  | [], y :: r, _, _, h => by
    have := (h y).2 (List.mem_cons_self ..)
    cases this
  | x :: l, [], _, _, h => by
    have := (h x).1 (List.mem_cons_self ..)
    cases this
  | x :: l, y :: r, h1, h2, h => by
    obtain ⟨a1, a2⟩ := List.pairwise_cons.mp h1
    obtain ⟨b1, b2⟩ := List.pairwise_cons.mp h2
    have e : x = y := by
      rcases List.mem_cons.mp ((h x).1 (List.mem_cons_self ..)) with e | hx
      · exact e
      · rcases List.mem_cons.mp ((h y).2 (List.mem_cons_self ..)) with e | hy
        · exact e.symm
        · exact absurd (List.lt_trans (a1 y hy) (b1 x hx)) (List.lt_irrefl _)
    subst e
    have e2 : l = r := asc_one a2 b2 fun k => by
      constructor
      · intro hk
        rcases List.mem_cons.mp ((h k).1 (List.mem_cons_of_mem _ hk)) with e | hk'
        · subst e
          exact absurd (a1 k hk) (List.lt_irrefl _)
        · exact hk'
      · intro hk
        rcases List.mem_cons.mp ((h k).2 (List.mem_cons_of_mem _ hk)) with e | hk'
        · subst e
          exact absurd (b1 k hk) (List.lt_irrefl _)
        · exact hk'
    rw [e2]
omit [Wo] in
theorem asc_of {l : List (List Nat)} (h : l.Pairwise (· ≤ ·)) (d : l.Nodup) : Asc l := by
  induction l with
  | nil => exact List.Pairwise.nil
  | cons x l ih =>
    obtain ⟨h1, h2⟩ := List.pairwise_cons.mp h
    obtain ⟨d1, d2⟩ := List.nodup_cons.mp d
    refine List.pairwise_cons.mpr ⟨fun y hy => ?_, ih h2 d2⟩
    rcases lt_tri x y with c | c | c
    · exact c
    · exact absurd (c ▸ hy) d1
    · exact absurd c (List.not_lt.mpr (h1 y hy))

def textOf (v : Value) : Str := match v with | .str x _ => x | _ => Str.empty
omit [Wo] in
theorem each_text : ∀ {vs : List Value}, (∀ v ∈ vs, ∃ x t, v = Value.str x t) → PySem.W.EachIs (fun v b => ∃ t, v = Value.str b t) vs (vs.map textOf)
  | [], _ => .nil
  | v :: vs, h => by
    obtain ⟨x, t, e⟩ := h v (List.mem_cons_self ..)
    subst e
    exact .cons ⟨t, rfl⟩ (each_text fun u hu => h u (List.mem_cons_of_mem _ hu))
omit [Wo] in
theorem strs_each : ∀ {vs : List Value} {xs : List Str}, PySem.W.EachIs (fun v b => ∃ t, v = Value.str b t) vs xs → StrsAre vs xs
  | _, _, .nil => .nil
  | _, _, .cons ⟨t, e⟩ r => by
    subst e
    exact .cons _ t (strs_each r)
omit [Wo] in
theorem T_of_map (ys : List Str) : (ys.map fun y => y.cps.toList).map T = ys := by
  rw [List.map_map]
  exact (List.map_congr_left fun y _ => T_of y).trans (List.map_id _)

section
variable {P : Program} {w : World} {A : Around} {E : Value → Shared → Prop} {s : Shared} {a : Addr}
omit [Wo] in
theorem sorted_tset {zs : List (List Nat)} {Q : Value → Shared → Prop} (R : TSet w s.heap a (setOfL (zs.map T))) (hh : A.handled = none) (hu : A.units + 10 < cLine)
    (hQ : ∀ s' p (out : Array Value) (c : Nat), (∀ b o, s.heap.get? b = some o → s'.heap.get? b = some o) → s'.gens = s.gens → s'.os = s.os → s.heap.objs.size ≤ p →
      s'.heap.get? p = some (seqObj "list" out c) → StrsAre out.toList ((sortU zs).map T) → (sortU zs).length ≤ sizeLine → Q (.ref p) s') :
    wpAny (model P w) A (call (.builtin "sorted") [.ref a]) Q E s := by
  obtain ⟨o, es, ep, t, ho, hex, hd, g, pm0, nd, hb, hf, hr, hl⟩ := R
  have hsz : es.size = (setOfL (zs.map T)).length := by
    have q := pm0.length_eq
    rw [List.length_map, Array.length_toList] at q
    exact q
  have hbz : es.size < scanBound := by rw [hsz]; exact hb
  refine Calls.call_function_entry kind_sorted plain_sorted entry_sorted (args_sorted1 _) ?_
  unfold Builtin.«sorted»
  refine wpAny_bind (m := checkCount "sorted" 1 1 _) (wpAny_pure ?_)
  refine wpAny_bind (collect_set (A := A.in1) hh ⟨o, ho, hex.1, hd⟩ hf hbz hr hl fun s1 vs k1 hz g1 o1 pm => ?_)
  have hvl : vs.length = es.size := by rw [pm.length_eq, List.length_map, Array.length_toList]
  have hT : ∀ v ∈ vs, ∃ x t, v = Value.str x t := fun v hv => by
    obtain ⟨e, he, q⟩ := List.mem_map.mp (pm.mem_iff.mp hv)
    obtain ⟨x, tk, h1, _⟩ := g e he
    exact ⟨x, tk, by rw [← q]; exact h1⟩
  have pk : (vs.map textOf).Perm (setOfL (zs.map T)) := by
    have q := pm.map textOf
    rw [List.map_map] at q
    exact q.trans pm0
  have eE := each_text hT
  have hln : (vs.map textOf).length ≤ sizeLine := by
    rw [List.length_map, hvl]
    exact fits_of_scanBound hbz
  refine wpAny_bind (wpAny_newList ?_ (by rw [hvl]; exact fits_of_scanBound hbz))
  have hoL : (s1.heap.push (seqObj "list" vs.toArray 0)).get? s1.heap.objs.size = some (seqObj "list" vs.toArray 0) := Heap.get?_push_size _ rfl
  have hin : A.in1.units + 1 + 0 < cLine := by
    have e : A.in1.units = A.units + 1 := rfl
    rw [e]
    omega
  refine wpAny_bind (wpAny_holding (PySem.W.list_sort_data (A := A.in1) (s := { s1 with heap := s1.heap.push (seqObj "list" vs.toArray 0) }) (enc := PyData.str) (R := fun v b => ∃ t, v = Value.str b t) hoL eE (eE.mono fun v b ⟨t, e⟩ => by subst e; exact ⟨[], .str b t, by simp⟩) (PySem.W.AllAlike.of fun b b' => by simp [PySem.W.alike]) (PySem.W.Sortable.others fun b => ⟨by simp, fun xs => by simp⟩) hln
    (fun b hb => by simpa [PyData.depth] using hin) fun out hol hout => ?_))
  obtain ⟨c, hc⟩ := sortedHeap_at (vs := vs) (out := out.toArray) hoL
  rw [PySem.W.dataLe_str] at hout
  generalize hms : (vs.map textOf).mergeSort (fun a b => decide (a.cps.toList ≤ b.cps.toList)) = ms at hout
  have hp : ms.Perm (setOfL (zs.map T)) := by rw [← hms]; exact (List.mergeSort_perm _ _).trans pk
  have hw : ms.Pairwise fun a b => a.cps.toList ≤ b.cps.toList := by
    rw [← hms]
    refine (List.pairwise_mergeSort (fun a b c h1 h2 => ?_) (fun a b => ?_) _).imp fun h => of_decide_eq_true h
    · exact decide_eq_true (List.le_trans (of_decide_eq_true h1) (of_decide_eq_true h2))
    · rw [Bool.or_eq_true]
      exact (List.le_total a.cps.toList b.cps.toList).imp decide_eq_true decide_eq_true
  have ems : ms = (sortU zs).map T := by
    have e : ms.map (fun y => y.cps.toList) = sortU zs := by
      refine asc_one (asc_of (List.pairwise_map.mpr hw) ?_) (sortU_asc _) fun k => ?_
      · refine List.Pairwise.map _ (fun x y ne e => ne ?_) (hp.nodup_iff.mpr nd)
        have := congrArg T e
        rw [T_of, T_of] at this
        exact this
      · rw [sortU_mem, List.mem_map]
        constructor
        · rintro ⟨y, hy, rfl⟩
          have := hp.mem_iff.mp hy
          unfold setOfL at this
          rcases (foldS_mem y _ _).mp this with h | h
          · cases h
          · obtain ⟨z, hz, rfl⟩ := List.mem_map.mp h
            rw [T_cps]
            exact hz
        · intro hk
          refine ⟨T k, hp.mem_iff.mpr ?_, T_cps k⟩
          unfold setOfL
          exact (foldS_mem _ _ _).mpr (.inr (List.mem_map.mpr ⟨k, hk, rfl⟩))
    rw [← e, T_of_map]
  rw [ems] at hout
  have hlen : (sortU zs).length ≤ sizeLine := by
    have e1 := congrArg List.length ems
    rw [List.length_map, hp.length_eq, ← hsz] at e1
    rw [← e1]
    exact fits_of_scanBound hbz
  refine wpAny_pure ⟨_, rfl, hQ _ s1.heap.objs.size out.toArray c (fun b u e => ?_) g1 o1 hz hc (by simpa using strs_each hout) hlen⟩
  have q := k1 b u e
  have hlt := Heap.lt_size q
  show (sortedHeap (s1.heap.push (seqObj "list" vs.toArray 0)) s1.heap.objs.size vs out.toArray).get? b = some u
  rw [sortedHeap_old (Nat.ne_of_lt hlt) (by rw [size_push']; exact Nat.lt_succ_of_lt hlt)]
  exact Heap.get?_push_of_some _ q
end
omit [Wo] in
theorem vals_strs : ∀ {xs : List Str} {us : List Value}, StrsAre us xs → Vals (xs.map V.str) us
  | _, _, .nil => .nil
  | _, _, .cons x t h => .cons ⟨t, rfl⟩ (vals_strs h)
omit [Wo] in
theorem strs_vals : ∀ {xs : List Str} {us : List Value}, Vals (xs.map V.str) us → StrsAre us xs
  | [], _, .nil => .nil
  | x :: xs, _ :: us, .cons r h => by
    obtain ⟨t, rfl⟩ := r
    exact .cons x t (strs_vals h)
section
variable {X : Cx}
def tSS (ta : TE) : TE := fun σ H Q => ta σ H fun x H1 => ∃ (l : Addr) (zs : List (List Nat)), x = V.ref l ∧ Rd H1 l (.lst ((zs.map T).map V.str)) ∧ zs.length + 1 < scanBound ∧
  ∀ p, H1 p = none → Q (.ref p) (upd H1 p (.lst (((sortU zs).map T).map V.str)))
theorem pe_sortedSet {a : Expr} {ta : TE} {p p2 q pos : Pos} (hc : X.calm = true) (hu : X.A.units + 160 < cLine) (hg : Gl X "sorted") (hm : X.mg "sorted" = none) (hg2 : Gl X "set") (hm2 : X.mg "set" = none) (ha : PE X a ta)
    (na : starEach [a] X.env = (false, eval a X.env) :: starEach [] X.env) : PE X (.Call (.Name "sorted" p) [.Call (.Name "set" p2) [a] [] q] [] pos) (tSS ta) := by
  refine ⟨fun pins s σ H Q I h => ?_⟩
  refine Call_ (ld_blt I hg hm PyProof.Rows.boot_sorted ?_)
  refine PyProof.Rows.callWith_builtin1 (PyProof.Rows.args_cons ?_ rfl) rfl rfl
  refine Call_ (ld_blt I hg2 hm2 PyProof.Rows.boot_set ?_)
  refine PyProof.Rows.callWith_type1 (PyProof.Rows.args_cons (thn (ha.run pins s σ H _ I h) fun v s1 ⟨x, H1, I1, r1, q1⟩ => PyProof.Rows.args_nil ?_) na) na rfl
  obtain ⟨l, zs, rfl, hq, h1, q1⟩ := q1
  cases r1
  obtain ⟨_, its, n, r, _, hl⟩ := rd_lst I1 hq
  refine call_set_texts (zs.map T) (I1.ok.hd hc) ⟨_, hl, rfl, n, rfl⟩ (by simpa using strs_vals r) (by rw [List.length_map]; exact h1) fun h' tk hS hk => ?_
  refine PyProof.Rows.args_nil ?_
  have I2 : Inv X pins σ H1 { s1 with heap := h', toks := tk } := I1.kept hk
  refine sorted_tset (s := { s1 with heap := h', toks := tk }) hS (I2.ok.hd hc) (by omega) fun s' p out c k g o hp hg hout hlen => ?_
  have hn : H1 p = none := I2.hok.fresh hp
  have J : Inv X pins σ (upd H1 p (.lst (((sortU zs).map T).map V.str))) s' :=
    Inv.call' (ch := []) I2 o (Un.laid k hp hn) (I2.hok.laid k hp ⟨by rw [List.length_map, List.length_map]; exact hlen, out.toList, c, vals_strs hout, hg⟩) (by rw [g]; exact I2.bare) (fun _ z => nomatch z)
  exact ⟨.ref p, _, J, rfl, q1 p hn⟩
end
omit [Wo] in
theorem insU_len (x : List Nat) : ∀ l : List (List Nat), (insU x l).length ≤ l.length + 1
  | [] => by simp [insU]
  | y :: r => by
    have := insU_len x r
    unfold insU
    split
    · simp
    · split
      · simp
      · simp only [List.length_cons]
        omega
omit [Wo] in
theorem sortU_len : ∀ l : List (List Nat), (sortU l).length ≤ l.length
  | [] => Nat.le_refl _
  | x :: l => by
    have h1 := insU_len x (sortU l)
    have h2 := sortU_len l
    show (insU x (sortU l)).length ≤ _
    rw [List.length_cons]
    omega
omit [Wo] in
theorem reps_short {K : PySem.W.Frag} {H : Hp} : ∀ {vs : List V} {ds : List D} {l : List (List Nat)}, Reps K H vs ds → dTexts ds = some l → ∀ z ∈ l, z.length ≤ line
  | _, [], _, .nil, e => by cases e; intro z hz; cases hz
  | _, d :: ds, l, .cons h r, e => by
    cases d <;> simp only [dTexts, reduceCtorEq] at e
    cases q : dTexts ds with
    | none => rw [q] at e; cases e
    | some l' =>
      rw [q] at e
      cases e
      intro z hz
      rcases List.mem_cons.mp hz with rfl | hz
      · exact h.str_inv.2
      · exact reps_short r q z hz
omit [Wo] in
theorem reps_of_texts {K : PySem.W.Frag} {H : Hp} : ∀ {l : List (List Nat)}, (∀ z ∈ l, z.length ≤ line) → Reps K H ((l.map T).map V.str) (l.map D.str)
  | [], _ => .nil
  | z :: l, h => .cons (.str z (h z (List.mem_cons_self ..))) (reps_of_texts fun y hy => h y (List.mem_cons_of_mem _ hy))
omit [Wo] in
/-- what sorted(set(l)) gives -/
theorem sortedSet_ok {K : PySem.W.Frag} {H H1 : Hp} {v : V} {d d2 : D} {Q : VK} (e1 : Ex H H1) (r : RepB K H1 v d) (ed : opF .sortedSet [d] = some d2) (g : ∀ v H', Ex H H' → RepK .C K H H' v d2 → Q v H') :
    ∃ (l : Addr) (zs : List (List Nat)), v = V.ref l ∧ Rd H1 l (.lst ((zs.map T).map V.str)) ∧ zs.length + 1 < scanBound ∧ ∀ p, H1 p = none → Q (.ref p) (upd H1 p (.lst (((sortU zs).map T).map V.str))) := by
  cases d <;> simp only [opF, reduceCtorEq] at ed
  rename_i ys
  cases q0 : dTexts ys with
  | none => rw [q0] at ed; cases ed
  | some l =>
    rw [q0] at ed
    simp only [Option.bind_some] at ed
    split at ed <;> cases ed
    rename_i hb
    obtain ⟨a, vs, rfl, ha, rr⟩ := r.lst_inv
    have hlen : ∀ z ∈ l, z.length ≤ line := reps_short rr q0
    rw [reps_texts rr q0] at ha
    refine ⟨a, l, rfl, ha, hb, fun p hp => g _ _ (e1.trans (Ex.new hp)) (FRep.back e1 (frep_lst hp (reps_of_texts fun z hz => hlen z ((sortU_mem z l).mp hz)) ?_))⟩
    have h1 : (sortU l).length ≤ l.length := sortU_len l
    have h2 : scanBound = 4096 := rfl
    have h3 : line = 16777216 := by decide
    rw [List.length_map]
    omega
section
variable {X : Cx}
omit [Wo] in
theorem each_reps {K : PySem.W.Frag} {H : Hp} : ∀ {vs : List V} {us : List Value} {ds : List D}, Vals vs us → Reps K H vs ds → PySem.W.EachIs (fun u d => ∃ v, RelV v u ∧ Rep K H v d) us ds
  | _, _, _, .nil, .nil => .nil
  | _, _, _, .cons r t, .cons h t2 => .cons ⟨_, r, h⟩ (each_reps t t2)
omit [Wo] in
theorem reps_each {K : PySem.W.Frag} {H : Hp} : ∀ {us : List Value} {ds : List D}, PySem.W.EachIs (fun u d => ∃ v, RelV v u ∧ Rep K H v d) us ds → ∃ vs, Vals vs us ∧ Reps K H vs ds
  | _, _, .nil => ⟨[], .nil, .nil⟩
  | _, _, .cons ⟨v, r, h⟩ t => by
    obtain ⟨vs, h1, h2⟩ := reps_each t
    exact ⟨v :: vs, .cons r h1, .cons h h2⟩
omit [Wo] in
theorem call_sorted_ (hc : X.calm = true) (hu : X.A.units + 160 < cLine) : CallR X (.builtin "sorted") (rF X.K .sorted) := by
  intro pins s σ H xs us Q I r ⟨ds, d, h, e, q⟩
  match ds, e with
  | [.lst ys], e =>
    simp only [opF] at e
    split at e <;> cases e
    rename_i hok
    simp only [sortOk, Bool.and_eq_true, List.all_eq_true, Bool.or_eq_true, decide_eq_true_eq] at hok
    obtain ⟨⟨ok1, ok2⟩, ok3⟩ := hok
    obtain ⟨v, rfl, hv⟩ := h.one
    obtain ⟨a, vs, rfl, ha, rr⟩ := hv.lst_inv
    rw [Vals.ref1 r]
    obtain ⟨z, its, n, rv, hl, hget⟩ := rd_lst I ha
    have hz : ys.length ≤ sizeLine := by rw [← rr.length]; exact z
    refine PySem.W.sorted_data (enc := D.py) (bs := ys) (vs := its) (R := fun u d => ∃ v, RelV v u ∧ Rep X.K H v d) ⟨_, hget, rfl, n, rfl⟩ (each_reps rv rr) ((each_reps rv rr).mono fun u d ⟨v, r, h⟩ => Dp.reads I _ v u h.dp r) (fun d hd d' hd' => ?_) ?_ hz (fun d hd => ?_) fun out hol hout => ?_
    · obtain ⟨b, hb, rfl⟩ := List.mem_map.mp hd
      obtain ⟨b', hb', rfl⟩ := List.mem_map.mp hd'
      exact ok1 b hb b' hb'
    · refine ok2.imp (fun h d hd => ?_) (fun h d hd => ?_)
      · obtain ⟨b, hb, rfl⟩ := List.mem_map.mp hd
        have := h b hb
        unfold isTupNE at this
        split at this
        · exact ⟨_, _, by rw [D.py, D.pyL]⟩
        · cases this
      · obtain ⟨b, hb, rfl⟩ := List.mem_map.mp hd
        have := h b hb
        unfold notTN at this
        split at this
        · cases this
        · cases this
        · rename_i n1 n2
          constructor
          · cases b <;> simp [D.py]
            exact n1 rfl
          · cases b <;> simp [D.py]
            exact n2 _ rfl
    · have := ok3 d hd
      have := py_depth d
      omega
    · obtain ⟨c, hcc⟩ := sortedAll_at s.heap its out.toArray
      obtain ⟨ws, h1, h2⟩ := reps_each hout
      have hp : H (s.heap.objs.size + 1) = none := I.hok.fresh (Nat.le_succ _)
      have hlen : ws.length ≤ sizeLine := by
        rw [h2.length, (List.mergeSort_perm _ _).length_eq]
        exact hz
      refine ⟨.ref _, upd H (s.heap.objs.size + 1) (.lst ws), I.laid (t' := s.toks) (fun _ _ => sortedAll_old) (Nat.le_succ _) ⟨hlen, out, c, h1, hcc⟩, rfl, q _ _ (Ex.new hp) (frep_lst hp h2 ?_)⟩
      have e2 : ws.length = (ys.mergeSort leD).length := h2.length
      rw [← e2]
      exact hlen
  | [.non], e | [.bl _], e | [.int _], e | [.str _], e | [.tup _], e => simp [opF] at e
  | [], e => simp [opF] at e
  | _ :: _ :: _, e => simp [opF] at e
/-- sorted(d): its keys, sorted -/
theorem call_sorted_nk (hc : X.calm = true) (hu : X.A.units + 160 < cLine) : CallR X (.builtin "sorted") (fun vs H Q => ∃ (a : Addr) (xs : List (NestedKey × Addr)) (ys : List D), vs = [.ref a] ∧ H a = some (NkO X.w a xs) ∧ Reps X.K H (xs.map fun x => .ref x.2) ys ∧ sortOk ys = true ∧
    ∀ p ws, H p = none → Reps X.K H ws (ys.mergeSort leD) → ws.length ≤ sizeLine → Q (.ref p) (upd H p (.lst ws))) := by
  intro pins s σ H vs us Q I r ⟨a, xs, ys, ex, ha, rr, hok, q⟩
  subst ex
  simp only [sortOk, Bool.and_eq_true, List.all_eq_true, Bool.or_eq_true, decide_eq_true_eq] at hok
  obtain ⟨⟨ok1, ok2⟩, ok3⟩ := hok
  obtain ⟨u, eu, rx⟩ := vals1 r
  subst eu
  cases rx
  obtain ⟨lo, z, o, es, ep, zs, e1, e2, e3, e4, e5, e6⟩ := (show ObjOk X.prog X.w H s.heap a (NkO X.w a xs) from I.hok a _ ha).1
  have es1 : es.size = xs.length := by
    have := congrArg List.length e4
    rw [List.length_map] at this
    rw [← e5, List.length_map, ← this]
    simp
  refine Calls.call_function_entry PyProof.Rows.kind_sorted PyProof.Rows.plain_sorted PyProof.Rows.entry_sorted (PyProof.Rows.args_sorted1 _) ?_
  unfold Builtin.«sorted»
  refine wpAny_bind (m := checkCount "sorted" 1 1 _) (wpAny_pure ?_)
  refine wpAny_bind (PySem.W.kdu_collect (A := X.A.in1) (KdlSrc.rawDict (prog := X.prog) (w := X.w) (es := es) (ep := ep) lo) (I.ok.hd hc) ⟨o, e1, e2, e3⟩ (by omega) fun h' tk acc hk hacc => ?_)
  have hv : Vals (xs.map fun x => V.ref x.2) acc.toList := by
    refine vals_of_at (by rw [List.length_map, Array.length_toList]; exact es1.symm.trans hacc.1.symm) fun j x w h1 h2 => ?_
    obtain ⟨hi, e⟩ := hacc.2 j w (by rw [← Array.getElem?_toList]; exact h2)
    have e7 : es.toList[j]? = some es[j] := by rw [Array.getElem?_toList, Array.getElem?_eq_getElem hi]
    rw [e4, List.getElem?_map] at e7
    obtain ⟨y, hy, e8⟩ := Option.map_eq_some_iff.mp e7
    rw [← e5, List.map_map, List.getElem?_map, hy] at h1
    cases h1
    subst e
    rw [← e8]
    rfl
  have hzl : acc.toList.length ≤ sizeLine := by rw [← hv.length, List.length_map]; exact z
  have hyl : ys.length ≤ sizeLine := by rw [← rr.length, List.length_map]; exact z
  have I1 : Inv X pins σ H { s with heap := h', toks := tk } := I.kept hk
  refine wpAny_bind (wpAny_newList ?_ hzl)
  have hoL : (h'.push (seqObj "list" acc.toList.toArray 0)).get? h'.objs.size = some (seqObj "list" acc.toList.toArray 0) := Heap.get?_push_size _ rfl
  show wpAny _ _ _ _ _ { s with heap := h'.push (seqObj "list" acc.toList.toArray 0), toks := tk }
  have er : PySem.W.EachIs (fun u d => ∃ as, PySem.Reads (PySem.W.sortingHeap (h'.push (seqObj "list" acc.toList.toArray 0)) h'.objs.size acc.toList) u (D.py d) as) acc.toList ys := (each_reps hv rr).mono fun u d ⟨v, r, h⟩ => by
    obtain ⟨as, hr⟩ := Dp.reads I1 _ v u h.dp r
    exact ⟨as, PyProof.Rows.Reads.keeps (fun b o e => PySem.W.sortingHeap_old (Nat.ne_of_lt (Heap.lt_size e)) (Heap.get?_push_of_some _ e)) hr⟩
  have hal : PySem.W.AllAlike (ys.map D.py) := fun d hd d' hd' => by
    obtain ⟨b, hb, rfl⟩ := List.mem_map.mp hd
    obtain ⟨b', hb', rfl⟩ := List.mem_map.mp hd'
    exact ok1 b hb b' hb'
  have hso : PySem.W.Sortable (ys.map D.py) := by
    refine ok2.imp (fun h d hd => ?_) (fun h d hd => ?_)
    · obtain ⟨b, hb, rfl⟩ := List.mem_map.mp hd
      have := h b hb
      unfold isTupNE at this
      split at this
      · exact ⟨_, _, by rw [D.py, D.pyL]⟩
      · cases this
    · obtain ⟨b, hb, rfl⟩ := List.mem_map.mp hd
      have := h b hb
      unfold notTN at this
      split at this
      · cases this
      · cases this
      · rename_i n1 n2
        constructor
        · cases b <;> simp [D.py]
          exact n1 rfl
        · cases b <;> simp [D.py]
          exact n2 _ rfl
  have er2 := PySem.W.each_map (R := fun v d => ∃ as, PySem.Reads (PySem.W.sortingHeap (h'.push (seqObj "list" acc.toList.toArray 0)) h'.objs.size acc.toList) v d as) D.py er
  refine wpAny_bind (wpAny_holding (wpAny_call_entry PyProof.Rows.slot_list_sort ⟨_, hoL, rfl⟩ PyProof.Rows.entry_list_sort (PySem.W.list_sort_vals (A := X.A.in1.in1) (s := { s with heap := h'.push (seqObj "list" acc.toList.toArray 0), toks := tk })
    (κ := PySem.W.dataKind (PySem.W.sortingHeap (h'.push (seqObj "list" acc.toList.toArray 0)) h'.objs.size acc.toList) (ys.map D.py)) hoL (PySem.W.SortsAt.data (s := { s with heap := PySem.W.sortingHeap (h'.push (seqObj "list" acc.toList.toArray 0)) h'.objs.size acc.toList, toks := tk }) er2 hal hso (PySem.W.bound_map fun d hd => ?_)) hzl ?_) (PyProof.Rows.args_list_sort _)))
  · have := ok3 d hd
    have := py_depth d
    have e : X.A.in1.in1.units = X.A.units + 1 + 1 := rfl
    omega
  · refine ⟨_, rfl, ?_⟩
    have hout := PySem.W.sortVals_data false (each_reps hv rr) er hal
    have hol := PySem.W.sortVals_length (κ := PySem.W.dataKind (PySem.W.sortingHeap (h'.push (seqObj "list" acc.toList.toArray 0)) h'.objs.size acc.toList) (ys.map D.py)) false (vs := acc.toList) (rfl : acc.toList.length = acc.toList.length)
    generalize PySem.W.sortVals (PySem.W.dataKind (PySem.W.sortingHeap (h'.push (seqObj "list" acc.toList.toArray 0)) h'.objs.size acc.toList) (ys.map D.py)) false acc.toList acc.toList = out at hout hol
    obtain ⟨c, hcc⟩ := PyProof.Rows.sortedHeap_at (vs := acc.toList) (out := out.toArray) hoL
    obtain ⟨ws, h1, h2⟩ := reps_each hout
    have hp : H h'.objs.size = none := I1.hok.fresh (Nat.le_refl _)
    have hlen : ws.length ≤ sizeLine := by
      rw [h2.length, (List.mergeSort_perm _ _).length_eq]
      exact hyl
    refine wpAny_pure ⟨_, rfl, .ref h'.objs.size, upd H h'.objs.size (.lst ws), I1.laid (t' := tk) (fun b u e => ?_) (Nat.le_refl _) ⟨hlen, out, c, h1, hcc⟩, rfl, q _ _ hp h2 hlen⟩
    have hb : b < h'.objs.size := Heap.lt_size e
    rw [PyProof.Rows.sortedHeap_old (Nat.ne_of_lt hb) (by rw [size_push']; exact Nat.lt_succ_of_lt hb)]
    exact Heap.get?_push_of_some _ e
end
end Ev

/-! x[::-1] of lists and tuples. -/
namespace HT
open PySem PySem.Spec PyProof.Rows
section
variable {prog : Program} {w : World} {A : Around} {E : Value → Shared → Prop} {s : Shared}
theorem adjust_rev (n : Nat) : Builtin.Slice.sliceAdjust none none (-1) (n : Int) = ((n : Int) - 1, -1) := by
  unfold Builtin.Slice.sliceAdjust
  simp
theorem places_rev (n : Nat) : Builtin.Slice.slicePlaces ((n : Int) - 1) (-1) (-1) = n := by
  unfold Builtin.Slice.slicePlaces
  simp
  omega
theorem sliceApplied_rev {sl : Addr} {vl vu vs : Value} {n : Nat} {Q : Int × Int × Nat → Shared → Prop} (hs : s.heap.IsSliceOf sl vl vu vs) (pl : IsPart vl none) (pu : IsPart vu none) (ps : IsPart vs (some (-1)))
    (h : Q ((n : Int) - 1, -1, n) s) : wpAny (model prog w) A (Builtin.Slice.sliceApplied (.ref sl) (pure (n : Int))) Q E s := by
  obtain ⟨os, hos, hcs, hds⟩ := id hs
  unfold Builtin.Slice.sliceApplied Builtin.Slice.sliceFields
  refine wpAny_bind (wpAny_bind (wpAny_field hos hds (x := vl) rfl (wpAny_bind (wpAny_field hos hds (x := vu) rfl (wpAny_bind (wpAny_field hos hds (x := vs) rfl (wpAny_pure ?_)))))))
  refine wpAny_bind (slicePart_ ps ?_)
  show wpAny _ _ (if ((-1 : Int) == 0) = true then _ else _) _ _ s
  rw [if_neg (by decide)]
  refine wpAny_bind (slicePart_ pl (wpAny_bind (slicePart_ pu (wpAny_bind (wpAny_pure ?_)))))
  show wpAny _ _ (match Builtin.Slice.sliceAdjust none none (-1) (n : Int) with | (lo, hi) => pure (lo, (-1 : Int), Builtin.Slice.slicePlaces lo hi (-1))) _ _ s
  rw [adjust_rev n]
  show wpAny _ _ (pure ((n : Int) - 1, (-1 : Int), Builtin.Slice.slicePlaces ((n : Int) - 1) (-1) (-1))) _ _ s
  rw [places_rev]
  exact wpAny_pure h
theorem pick_rev (xs : Array Value) : ((List.range xs.size).filterMap fun (m : Nat) => xs[(((xs.size : Nat) : Int) - 1 + (m : Int) * (-1)).toNat]?).toArray = xs.toList.reverse.toArray := by
  congr 1
  have e : ∀ m ∈ List.range xs.size, xs[(((xs.size : Nat) : Int) - 1 + (m : Int) * (-1)).toNat]? = some (xs.toList.reverse.getD m .none) := fun m hm => by
    have hm := List.mem_range.mp hm
    have : (((xs.size : Nat) : Int) - 1 + (m : Int) * (-1)).toNat = xs.size - 1 - m := by omega
    rw [this]
    have h2 : m < xs.toList.length := by simpa using hm
    rw [List.getD_eq_getElem?_getD, List.getElem?_reverse h2]
    simp
    have h3 : xs.size - 1 - m < xs.size := by omega
    simp [h3]
  have e2 : ∀ (l : List Nat), (∀ m ∈ l, xs[(((xs.size : Nat) : Int) - 1 + (m : Int) * (-1)).toNat]? = some (xs.toList.reverse.getD m .none)) → (l.filterMap fun (m : Nat) => xs[(((xs.size : Nat) : Int) - 1 + (m : Int) * (-1)).toNat]?) = l.map fun m => xs.toList.reverse.getD m .none := fun l => by
    induction l with
    | nil => intro _; rfl
    | cons a l ih =>
      intro h
      rw [List.filterMap_cons, h a (List.mem_cons_self ..), List.map_cons, ih fun m hm => h m (List.mem_cons_of_mem _ hm)]
  rw [e2 _ e]
  apply List.ext_getElem
  · simp
  · intro i h1 h2
    simp at h2
    simp [h2]
theorem getItem_tuple_rev {t sl : Addr} {items : Array Value} {vl vu vs : Value} {Q : Value → Shared → Prop} (ht : IsTup s.heap t items) (hs : s.heap.IsSliceOf sl vl vu vs) (pl : IsPart vl none) (pu : IsPart vu none) (ps : IsPart vs (some (-1)))
    (h : Q (.ref s.heap.objs.size) { s with heap := s.heap.push { cls := .type "tuple", data := .seq items.toList.reverse.toArray } })
    (hsz : items.size ≤ sizeLine) : wpAny (model prog w) A (getItem (.ref t) (.ref sl)) Q E s := by
  have htake : sizeOk (.seq items.toList.reverse.toArray) := by
    show items.toList.reverse.toArray.size ≤ sizeLine
    simpa using hsz
  obtain ⟨os, hos, hcs, hds⟩ := id hs
  have hTs : s.TypeIs (.ref sl) "slice" := ⟨os, hos, hcs⟩
  unfold getItem
  try with_reducible refine wpAny_holding ?_
  first | refine wpAny_bind (wpAny_pure ?_) | skip
  refine wpAny_bind (wpAny_sequenceKey ht.typeIs (by decide) ?_)
  refine wpAny_bind (wpAny_callSpecial?_slot (name := Str.ofString "__getitem__") ht.typeIs PyProof.Rows.slot_tuple_getitem
    (wpAny_call_entry PyProof.Rows.slot_tuple_getitem ht.typeIs entry_tuple_getitem ?_ (args_tuple_getitem _ _)))
  show wpAny _ _ (Builtin.Tuple.tupleItemsOf (.ref t) >>= _) _ _ s
  refine wpAny_bind (tupleItemsOf_ ht ?_)
  refine wpAny_bind (wpAny_typeOf hTs ?_)
  rw [if_pos (by decide)]
  refine wpAny_bind (sliceApplied_rev hs pl pu ps ?_)
  have hno : ¬ ((((items.size : Int) - 1) == 0 && (-1 : Int) == 1 && items.size == items.size) = true) := by
    intro q
    rw [Bool.and_eq_true, Bool.and_eq_true] at q
    exact absurd q.1.2 (by decide)
  show wpAny _ _ (if (((items.size : Int) - 1) == 0 && (-1 : Int) == 1 && items.size == items.size) = true then _ else _) _ _ s
  rw [if_neg hno, pick_rev]
  first
    | exact wpAny_bind (m := Builtin.Tuple.tupleExact _) (wpAny_newObj_type (wpAny_pure ⟨_, rfl, wpAny_pure h⟩) htake)
    | exact wpAny_bind (m := Builtin.Tuple.tupleExact _) (wpAny_newObj_type (wpAny_bind (wpAny_pure (wpAny_pure ⟨_, rfl, wpAny_pure h⟩))) htake)
    | exact wpAny_bind (wpAny_bind (m := Builtin.Tuple.tupleExact _) (wpAny_newObj_type (wpAny_pure (wpAny_pure ⟨_, rfl, wpAny_pure h⟩)) htake))
    | exact wpAny_bind (wpAny_bind (m := Builtin.Tuple.tupleExact _) (wpAny_newObj_type (wpAny_pure ⟨_, rfl, wpAny_pure h⟩) htake))
end
end HT
namespace Ev
open PySem PySem.Spec
open PyProof.Rows hiding St
open L2
/-- x[::-1], x a list or a tuple -/
def tRevA (K : PySem.W.Frag) (te : TE) : TE := fun σ H Q => te σ H fun x H1 => ∃ a xs, x = .ref a ∧ ((SqL K H1 a xs ∧ ∀ p, H1 p = none → Q (.ref p) (upd H1 p (.lst xs.reverse))) ∨ (SqT K H1 a xs ∧ ∀ p, H1 p = none → Q (.ref p) (upd H1 p (.tup xs.reverse))))
theorem pe_revA {X : Cx} {e : Expr} {te : TE} {k : Nat} {p1 p2 p3 pos : Pos} (he : PE X e te) : PE X (.Subscript e (.Slice none none (some (.UnaryOp .USub (.Constant (.int 1) k p1) p2)) p3) pos) (tRevA X.K te) := by
  refine ⟨fun pins s σ H Q I h => ?_⟩
  refine Subscript_ (thn (he.run pins s σ H _ I h) fun v s1 ⟨x, H1, I1, r1, q1⟩ => ?_)
  obtain ⟨a, xs, ex, q⟩ := q1
  subst ex
  cases r1
  have hst : PO X (some (.UnaryOp .USub (.Constant (.int 1) k p1) p2)) (tPart (tUn (rU fun i => .int (-i)) (tC (.int 1)))) := po_some (pe_un un_neg pe_int)
  refine wpAny_Slice (thn (po_none.run pins s1 σ H1 (fun o H2 => o = none ∧ H2 = H1) I1 ⟨rfl, rfl⟩) fun vl s2 ⟨l, H2, I2, pl, el, e2⟩ => ?_)
  subst el e2
  refine thn (po_none.run pins s2 σ H2 (fun o H3 => o = none ∧ H3 = H2) I2 ⟨rfl, rfl⟩) fun vu s3 ⟨u, H3, I3, pu, eu, e3⟩ => ?_
  subst eu e3
  refine thn (hst.run pins s3 σ H3 (fun o H4 => o = some (-1) ∧ H4 = H3) I3 ⟨1, rfl, -1, rfl, rfl, rfl⟩) fun vs s4 ⟨o, H4, I4, ps, eo, e4⟩ => ?_
  subst eo e4
  have I5 : Inv X pins σ H4 { s4 with heap := s4.heap.push { cls := .type "slice", data := .fields #[vl, vu, vs] } } := I4.kept (t' := s4.toks) fun b ob q => Heap.get?_push_of_some _ q
  show wpAny (model X.prog X.w) X.A (subscriptTail e (.Slice none none (some (.UnaryOp .USub (.Constant (.int 1) k p1) p2)) p3) (.ref a) (.ref s4.heap.objs.size)) (EP X pins σ Q) X.xe { s4 with heap := s4.heap.push { cls := .type "slice", data := .fields #[vl, vu, vs] } }
  rcases q with ⟨hx, q⟩ | ⟨hx, q⟩
  · obtain ⟨its, r, ht, hz⟩ := I5.list hx
    have hlen := r.length
    refine tail_any (ops := [.ref a, .ref s4.heap.objs.size]) ht.isList.typeIs (PySem.slot_list_getitem.lookup) ?_ (by with_unfolding_all rfl)
    refine wpAny_getItem_list_slice ht.isList (Heap.IsSliceOf.new _ vl vu vs) pl pu ps (by decide) ?_ (by rw [List.size_toArray]; omega)
    rw [PySem.W.krv_pick]
    refine ⟨.ref _, _, I5.laid (t' := s4.toks) (o := .lst xs.reverse) (fun b ob q => Heap.get?_push_of_some _ q) (Nat.le_refl _) ?_, rfl, q _ (I5.hok.fresh (Nat.le_refl _))⟩
    exact ⟨by rw [List.length_reverse]; exact hz, _, 0, r.reverse, Heap.get?_push_size _ rfl⟩
  · obtain ⟨its, r, ht, hz⟩ := I5.tuple hx
    have hlen := r.length
    refine tail_any (ops := [.ref a, .ref s4.heap.objs.size]) ht.typeIs (PyProof.Rows.slot_tuple_getitem.lookup) ?_ (by with_unfolding_all rfl)
    refine HT.getItem_tuple_rev ht (Heap.IsSliceOf.new _ vl vu vs) pl pu ps ?_ (by rw [List.size_toArray]; omega)
    refine ⟨.ref _, _, I5.laid (t' := s4.toks) (o := .tup xs.reverse) (fun b ob q => Heap.get?_push_of_some _ q) (Nat.le_refl _) ?_, rfl, q _ (I5.hok.fresh (Nat.le_refl _))⟩
    exact ⟨by rw [List.length_reverse]; exact hz, _, r.reverse, IsTup.new _ _⟩
end Ev

/-! The text against the core syntax; expressions are sound. -/
namespace Ev
open PySem PySem.Spec
open PyProof.Rows hiding St
open L2
open Evl (Ex)
variable [Wo]

/-- a def that asks an error for its class: its text, its two names, the classes that it asks for -/
structure Od where
  st : Stmt
  e : Str
  v : Str
  c1 : List Nat
  c2 : List Nat
/-- how exceptions may come: any; none but such as were raised where nothing was handled; while one is handled -/
inductive Md where | any | clean | hot
  deriving DecidableEq
/-- what a row's text fixes -/
structure Lw where
  T : Nat → Option FD
  gl : Nat → Option D
  nm : Nat → Str
  exm : Nat → Nat → Option Bool
  kt : Nat → Nat → Option Bool
  od : Nat → Option Od
  Tc : Nat → Option FD
  Th : Nat → Option FD
  md : Md
  tp : Bool
  gd : Bool
  T0 : Nat → Option FD
/-- within a try -/
def Lw.dn (L : Lw) : Lw := { L with tp := false, gd := false }
/-- .. whose exceptions were all raised where nothing was handled -/
def Lw.cl (L : Lw) : Lw := { L with T := L.Tc, md := .clean, tp := false, gd := false }
/-- where one is handled -/
def Lw.ho (L : Lw) : Lw := { L with T := L.Th, md := .hot, tp := false, gd := false }
/-- the law itself: repr is not running -/
def Lw.gp (L : Lw) : Lw := { L with gd := true }
def Lw.ab (L : Lw) : Bool := match L.md with
  | .any => true
  | _ => false
def Lw.cb (L : Lw) : Bool := match L.md with
  | .hot => false
  | _ => true
def reprF : Bf → Bool
  | .repr => true
  | _ => false
def quietF : Bf → Bool
  | .sum | .all | .any | .max2 | .min2 | .sorted | .sortedSet => false
  | _ => true

def nmOk (x : Str) : Bool := !(x == ("__debug__" : Str)) && !(x == ("__classdict__" : Str)) && !(x == ("__name__" : Str))
def visB (sc : Scope) (x : Str) : Bool := nmOk x && (match sc.names.lookup x with | some .local => true | some .cell => true | some .free => true | _ => false)
def locB (sc : Scope) (x : Str) : Bool := match sc.names.lookup x with | some .local => true | some .cell => true | _ => false
def gloB (sc : Scope) (x : Str) : Bool := nmOk x && (match sc.names.lookup x with | some .globalImplicit => true | _ => false)
def notStar : Expr → Bool | .Starred .. => false | _ => true
def notSet : Expr → Bool | .Set .. => false | _ => true
def notSlice : Expr → Bool | .Slice .. => false | _ => true
def notComp : Expr → Bool | .ListComp .. => false | .SetComp .. => false | .DictComp .. => false | _ => true
def notCall : Expr → Bool | .Call (.Name _ _) .. => false | _ => true
def plainT : Expr → Bool | .UnaryOp .Not .. => false | .BoolOp .. => false | .Compare .. => false | .IfExp .. => false | _ => true

def plainOw : Ow → Bool
  | .no => true
  | .own => true
  | _ => false
def oKd : Ow → Kd
  | .own => .C
  | _ => .V
def kd (L : Lw) : E → Kd
  | .bor _ => .B
  | .lst _ | .comp _ _ _ _ | .bin _ _ _ | .sl _ _ _ | .bf _ _ | .mt _ _ _ | .lrng _ | .revs _ | .nks _ | .nsrt _ => .C
  | .call f _ => match L.T f with
    | some fd => oKd fd.own
    | none => .V
  | _ => .V
def isV (L : Lw) (e : E) : Bool := match e with | .bor _ => false | .dar _ => false | .dnil => false | _ => true
def isC (L : Lw) (e : E) : Bool := match kd L e with | .C => true | _ => false
def Bo.chk (o : Bo) (p : Operator) : Bool := decide (o.py = p)
def Co.chk (o : Co) (p : CmpOp) : Bool := decide (o.py = p)
def isTy : Bf → Bool
  | .isInt | .isBool | .isStr | .isTuple => true
  | _ => false

/-- the keys of a display -/
def chkKeys : List (List Nat) → List (Option Expr) → Bool
  | [], ks => ks.isEmpty
  | s :: ss, ks => match ks with
    | some (.Constant (.str x) _ _) :: ks => decide (x.cps.toList = s) && decide (s.length ≤ line) && chkKeys ss ks
    | _ => false
/-- a dict as an argument -/
def chkD (N : List Str) (c : E) (sc : Scope) (e : Expr) : Bool := match c, e with
  | .dar i, .Name x _ => decide (N[i]? = some x) && visB sc x
  | .dnil, .Dict [] [] _ => true
  | _, _ => false
mutual
def chkE (L : Lw) (N : List Str) : E → Scope → Expr → Bool
  | .var i, sc, e => match e with
    | .Name x _ => decide (N[i]? = some x) && visB sc x
    | _ => false
  | .bor i, sc, e => match e with
    | .Name x _ => decide (N[i]? = some x) && visB sc x
    | _ => false
  | .lit d, _, e => match d, e with
    | .non, .Constant .none _ _ => true
    | .bl b, .Constant (.bool c) _ _ => b == c
    | .int i, .Constant (.int j) _ _ => decide (i = j)
    | .str s, .Constant (.str x) _ _ => decide (x.cps.toList = s) && decide (s.length ≤ line)
    | _, _ => false
  | .glob g, sc, e => match e with
    | .Name x _ => decide (x = L.nm g) && gloB sc x
    | _ => false
  | .tup es, sc, e => match e with
    | .Tuple xs _ _ => chkEs L N es (xs.map fun _ => Pk.s) sc xs && decide (xs.length ≤ line)
    | _ => false
  | .lst es, sc, e => match e with
    | .List xs _ => chkEs L N es (xs.map fun _ => Pk.s) sc xs && decide (xs.length ≤ line)
    | _ => false
  | .bin o a b, sc, e => match e with
    | .BinOp x p y _ => o.chk p && chkE L N a sc x && chkE L N b sc y
    | _ => false
  | .lrng a, sc, e => L.cb && match e with
    | .Call (.Name l _) [.Call (.Name x _) [y] [] _] [] _ => decide (l = ("list" : Str)) && gloB sc l && decide (x = ("range" : Str)) && gloB sc x && chkE L N a sc y && notStar y
    | _ => false
  | .revs a, sc, e => match e with
    | .Subscript x (.Slice none none (some (.UnaryOp .USub (.Constant (.int i) _ _) _)) _) _ => decide (i = 1) && chkE L N a sc x
    | _ => false
  | .prt i k, sc, e => match e with
    | .Subscript (.Name x _) (.Constant (.int j) _ _) _ => decide (N[i]? = some x) && visB sc x && decide (j = (k : Int))
    | _ => false
  | .dget i k, sc, e => match e with
    | .Subscript (.Name x _) y _ => decide (N[i]? = some x) && visB sc x && chkE L N k sc y && notSlice y
    | _ => false
  | .din i k, sc, e => match e with
    | .Compare y [.In] [.Name x _] _ => chkE L N k sc y && decide (N[i]? = some x) && visB sc x
    | _ => false
  | .dlen i, sc, e => match e with
    | .Call (.Name l _) [.Name x _] [] _ => decide (l = ("len" : Str)) && gloB sc l && decide (N[i]? = some x) && visB sc x
    | _ => false
  | .dar _, _, _ => false
  | .nks i, sc, e => L.cb && match e with
    | .Call (.Name l _) [.Name x _] [] _ => decide (l = ("list" : Str)) && gloB sc l && decide (N[i]? = some x) && visB sc x
    | _ => false
  | .nsrt i, sc, e => L.cb && match e with
    | .Call (.Name l _) [.Name x _] [] _ => decide (l = ("sorted" : Str)) && gloB sc l && decide (N[i]? = some x) && visB sc x
    | _ => false
  | .dnil, _, _ => false
  | .lix a b, sc, e => match e with
    | .Call (.Attribute o n ap) [y] [] p => decide (n = ("index" : Str)) && notCall o && (ap.endLine == p.line) && chkE L N a sc o && chkE L N b sc y && notStar y
    | _ => false
  | .call0 f, sc, e => L.cb && match e with
    | .Call (.Name x _) [] [] _ => decide (x = L.nm f) && gloB sc x && (match L.T f with
      | some fd => fd.ps.isEmpty && decide (fd.own = .no)
      | none => false)
    | _ => false
  | .pick ks es k, sc, e => match e with
    | .Subscript (.Dict keys vals _) y _ => chkKeys ks keys && !ks.isEmpty && decide (ks.length ≤ 15) && decide (keys.length = vals.length) && chkEs L N es (vals.map fun _ => Pk.s) sc vals && chkE L N k sc y && notSlice y
    | _ => false
  | .repl a i y z, sc, e => match e with
    | .Call (.Attribute (.Subscript o (.Constant (.int k) _ _) _) n ap) [.Constant (.str u) _ _, .Constant (.str v) _ _] [] p => decide (n = ("replace" : Str)) && (ap.endLine == p.line) && decide (k = i) && decide (u = T y) && decide (v = T z) && !y.isEmpty && !(T y == T z) && chkE L N a sc o
    | _ => false
  | .isb k neg a, sc, e => match e with
    | .Compare x [p] [.Constant (.bool c) _ _] _ => decide (p = if neg then .IsNot else .Is) && (c == k) && chkE L N a sc x
    | _ => false
  | .neg a, sc, e => match e with
    | .UnaryOp .USub x _ => chkE L N a sc x
    | _ => false
  | .not a, sc, e => match e with
    | .UnaryOp .Not x _ => chkE L N a sc x && chkT x
    | _ => false
  | .and a b, sc, e => match e with
    | .BoolOp .And (x :: y :: r) pos => chkE L N a sc x && chkT x && (match r with
      | [] => chkE L N b sc y && chkT y
      | _ => (match b with | .and _ _ => true | _ => false) && chkE L N b sc (.BoolOp .And (y :: r) pos))
    | _ => false
  | .or a b, sc, e => match e with
    | .BoolOp .Or (x :: y :: r) pos => chkE L N a sc x && chkT x && (match r with
      | [] => chkE L N b sc y && chkT y
      | _ => (match b with | .or _ _ => true | _ => false) && chkE L N b sc (.BoolOp .Or (y :: r) pos))
    | _ => false
  | .cmp o a b, sc, e => match e with
    | .Compare x [p] [y] _ => o.chk p && chkE L N a sc x && chkE L N b sc y && notSet y
    | _ => false
  | .chain o p a b c, sc, e => match e with
    | .Compare x [q, r] [y, z] _ => o.chk q && p.chk r && chkE L N a sc x && chkE L N b sc y && chkE L N c sc z && notSet y && notSet z
    | _ => false
  | .isN a, sc, e => match e with
    | .Compare x [.Is] [.Constant .none _ _] _ => chkE L N a sc x
    | _ => false
  | .notN a, sc, e => match e with
    | .Compare x [.IsNot] [.Constant .none _ _] _ => chkE L N a sc x
    | _ => false
  | .ife c a b, sc, e => match e with
    | .IfExp t x y _ => chkE L N c sc t && chkT t && chkE L N a sc x && chkE L N b sc y && isV L a && isV L b
    | _ => false
  | .call f es, sc, e => match e with
    | .Call (.Name x _) (y :: ys) [] _ => decide (x = L.nm f) && gloB sc x && (match L.T f with
      | some fd => chkEs L N es fd.ps sc (y :: ys) && plainOw fd.own
      | none => false)
    | _ => false
  | .bf b es, sc, e => ((L.cb || quietF b) && (L.gd || !reprF b)) && match e with
    | .Call (.Name x _) (y :: ys) [] _ => if isTy b then decide (x = ("isinstance" : Str)) && gloB sc x && (match es, ys with
        | .cons a .nil, [.Name t _] => chkE L N a sc y && decide (t = b.py.1) && gloB sc t && notStar y
        | _, _ => false)
      else if b = .sortedSet then decide (x = ("sorted" : Str)) && gloB sc x && (match es, y, ys with
        | .cons a .nil, .Call (.Name t _) [z] [] _, [] => chkE L N a sc z && decide (t = ("set" : Str)) && gloB sc t && notStar z
        | _, _, _ => false)
      else decide (b ≠ .sortedSet) && decide (x = b.py.1) && gloB sc x && chkEs L N es ((y :: ys).map fun _ => Pk.b) sc (y :: ys)
    | _ => false
  | .mt m a es, sc, e => match m, e with
    | .join, .Call (.Attribute o n ap) [y] [] p => decide (n = ("join" : Str)) && notCall o && (ap.endLine == p.line) && chkE L N a sc o && chkEs L N es [Pk.b] sc [y]
    | .islower, .Call (.Attribute o n ap) [] [] p => decide (n = ("islower" : Str)) && notCall o && (ap.endLine == p.line) && chkE L N a sc o && (match es with | .nil => true | _ => false)
    | .isupper, .Call (.Attribute o n ap) [] [] p => decide (n = ("isupper" : Str)) && notCall o && (ap.endLine == p.line) && chkE L N a sc o && (match es with | .nil => true | _ => false)
    | .split, .Call (.Attribute o n ap) [y] [] p => decide (n = ("split" : Str)) && notCall o && (ap.endLine == p.line) && chkE L N a sc o && chkEs L N es [Pk.b] sc [y]
    | .strip, .Call (.Attribute o n ap) [y] [] p => decide (n = ("strip" : Str)) && notCall o && (ap.endLine == p.line) && chkE L N a sc o && chkEs L N es [Pk.b] sc [y]
    | .lstrip, .Call (.Attribute o n ap) [y] [] p => decide (n = ("lstrip" : Str)) && notCall o && (ap.endLine == p.line) && chkE L N a sc o && chkEs L N es [Pk.b] sc [y]
    | .rstrip, .Call (.Attribute o n ap) [y] [] p => decide (n = ("rstrip" : Str)) && notCall o && (ap.endLine == p.line) && chkE L N a sc o && chkEs L N es [Pk.b] sc [y]
    | .starts, .Call (.Attribute o n ap) [y] [] p => decide (n = ("startswith" : Str)) && notCall o && (ap.endLine == p.line) && chkE L N a sc o && chkEs L N es [Pk.b] sc [y]
    | .find, .Call (.Attribute o n ap) [y] [] p => decide (n = ("find" : Str)) && notCall o && (ap.endLine == p.line) && chkE L N a sc o && chkEs L N es [Pk.b] sc [y]
    | .part, .Call (.Attribute o n ap) [y] [] p => decide (n = ("partition" : Str)) && notCall o && (ap.endLine == p.line) && chkE L N a sc o && chkEs L N es [Pk.b] sc [y]
    | .isalnum, .Call (.Attribute o n ap) [] [] p => decide (n = ("isalnum" : Str)) && notCall o && (ap.endLine == p.line) && chkE L N a sc o && (match es with | .nil => true | _ => false)
    | _, _ => false
  | .ix a b, sc, e => match e with
    | .Subscript x y _ => chkE L N a sc x && chkE L N b sc y && notSlice y
    | _ => false
  | .sl a lo hi, sc, e => match e with
    | .Subscript x (.Slice l h none _) _ => chkE L N a sc x && (match l with
        | none => isLitNon lo
        | some l => !isLitNon lo && chkE L N lo sc l) && (match h with
        | none => isLitNon hi
        | some h => !isLitNon hi && chkE L N hi sc h)
    | _ => false
  | .comp x it cond elt, sc, e => L.ab && match e with
    | .ListComp el [⟨.Name t _, iter, ifs, 0⟩] scope _ => decide (N[x]? = some t) && blkC N sc scope [(t, x)] && nmOk t && locB scope t && chkIt L N it sc iter && (match ifs with
        | [] => isLitTrue cond
        | [c] => chkE L N cond (relS scope sc) c && chkT c
        | _ => false) && chkE L N elt (relS scope sc) el && isV L elt
    | _ => false
def chkEs (L : Lw) (N : List Str) : Es → List Pk → Scope → List Expr → Bool
  | .nil, bs, _, xs => bs.isEmpty && xs.isEmpty
  | .cons e es, bs, sc, xs => match bs, xs with
    | b :: bs, x :: xs => (match b with
      | .s => chkE L N e sc x && isV L e
      | .b => chkE L N e sc x
      | .d => chkD N e sc x) && notStar x && chkEs L N es bs sc xs
    | _, _ => false
def chkIt (L : Lw) (N : List Str) : It → Scope → Expr → Bool
  | .seq a, sc, e => chkE L N a sc e && notSet e && isV L a
  | .txt a, sc, e => chkE L N a sc e && notSet e && isV L a
  | .dks i, sc, e => match e with
    | .Name x _ => decide (N[i]? = some x) && visB sc x
    | _ => false
  | .rng1 a, sc, e => match e with
    | .Call (.Name x _) [y] [] _ => decide (x = ("range" : Str)) && gloB sc x && chkE L N a sc y && notStar y
    | _ => false
  | .rev a, sc, e => match e with
    | .Call (.Name x _) [y] [] _ => decide (x = ("reversed" : Str)) && gloB sc x && chkE L N a sc y && notStar y && isV L a
    | _ => false
  | .revr a, sc, e => match e with
    | .Call (.Name x _) [.Call (.Name r _) [y] [] _] [] _ => decide (x = ("reversed" : Str)) && gloB sc x && decide (r = ("range" : Str)) && gloB sc r && chkE L N a sc y && notStar y
    | _ => false
  | .rng2 a b, sc, e => match e with
    | .Call (.Name x _) [y, z] [] _ => decide (x = ("range" : Str)) && gloB sc x && chkE L N a sc y && notStar y && chkE L N b sc z && notStar z
    | _ => false
/-- may stand as a test -/
def chkT : Expr → Bool
  | .IfExp .. => false
  | _ => true
def isLitTrue : E → Bool
  | .lit (.bl true) => true
  | _ => false
end
end Ev

/-! Exceptions that leave a comprehension. -/
namespace Ev
open PySem PySem.Spec PyProof.Rows L2
/-- an exception in the air of X, noted at X's frame or not yet -/
def XF (X : Cx) (W : WX) (u : Value) (s' : Shared) : Prop :=
  ∃ (a : Addr) (B : Heap) (sI : Shared) (pins : List (Addr × Obj)) (σ : L2.St) (H : Hp) (cls : Value) (d : Option Addr) (L : Addr),
    u = .ref a ∧ X.env.frame = some L ∧ L2.Inv X pins σ H sI ∧ (∀ b o, sI.heap.get? b = some o → b ∉ frs X.stack → B.get? b = some o) ∧ sI.heap.UpToSlots s'.heap ∧
      Sky B X.stack a (Zc cls d) L s'.heap ∧ H a = none ∧ s'.os = sI.os ∧ AllBare s'.gens ∧ W cls d σ H
def TakesF (X : Cx) (W : WX) : Prop := ∀ u s', XF X W u s' → X.xe u s'
section
variable {X : Cx} {pins : List (Addr × Obj)} {σ : L2.St} {H : Hp} {s s' : Shared} {W : WX} {E : XK} {L : Addr}
theorem TakesF.of (hf : X.env.frame = some X.env.locals) (t : L2.Takes X W) : TakesF X W := fun u s' ⟨a, B, sI, pins, σ, H, cls, d, L, e, hL, I, nb, up, sky, na, os, ag, w⟩ => by
  rw [hf] at hL
  cases hL
  exact t u s' ⟨a, B, sI, pins, σ, H, cls, d, e, I, nb, up, sky, na, os, ag, w⟩
theorem TakesF.imp {W' : WX} (t : TakesF X W) (h : ∀ c d σ H, W' c d σ H → W c d σ H) : TakesF X W' := fun u s' ⟨a, B, sI, pins, σ, H, cls, d, L, e, hL, I, nb, up, sky, na, os, ag, w⟩ =>
  t u s' ⟨a, B, sI, pins, σ, H, cls, d, L, e, hL, I, nb, up, sky, na, os, ag, h _ _ _ _ w⟩
theorem XF.of_call (hL : X.env.frame = some L) (I : L2.Inv X pins σ H s) (hW : ∀ cls d H', E cls d H' → W cls d σ H') {u : Value} (c : L2.CX X.prog X.w X.stack H s E u s') : XF X W u s' := by
  obtain ⟨a, B, H', cls, d, rfl, fl, hok, ub, na, os, ag, hE⟩ := c
  obtain ⟨G, g1, g2⟩ := L2.restrict s'.heap fun b => (B.get? b).isSome || decide (b ∈ frs X.stack)
  have st : B.StaysIn s'.heap := fl.1
  have gB : ∀ b o, B.get? b = some o → G.get? b = some o := fun b o e => by
    rw [g1 b (by simp [e])]
    exact st b o e
  have gF : ∀ b, b ∈ frs X.stack → G.get? b = s'.heap.get? b := fun b hb => g1 b (by simp [hb])
  have og : ∀ b o, G.get? b = some o → s'.heap.get? b = some o ∧ ((B.get? b).isSome = true ∨ b ∈ frs X.stack) := fun b o e => by
    cases q : ((B.get? b).isSome || decide (b ∈ frs X.stack)) with
    | false => rw [g2 b q] at e; cases e
    | true =>
      rw [g1 b q] at e
      exact ⟨e, by simpa [Bool.or_eq_true] using q⟩
  refine ⟨a, B, { s with heap := G, gens := s'.gens, drawn := s'.drawn, toks := s'.toks }, pins, σ, H', cls, d, L, rfl, hL, ?_, fun b o e hb => ?_, Heap.UpToSlots.of_keeps fun b o e => (og b o e).1, .inr (.inl fl), na, os, ag, hW _ _ _ hE⟩
  · refine I.call (ch := []) ⟨fun b o e n hb _ => gB b o (ub.keep b o e n hb), fun b o e n hb _ => ?_, fun b o e n _ => ub.free b o e n, fun b o e _ => ?_, ub.tups, ub.frzs, ub.tbls⟩ (hok.kept gB) ag (fun _ z => nomatch z)
    · obtain ⟨sl, q⟩ := ub.slot b o e hb
      exact ⟨sl, by rw [gF b hb]; exact q⟩
    · by_cases hb : b ∈ frs X.stack
      · obtain ⟨sl, q⟩ := ub.slot b o e hb
        exact ⟨_, by rw [gF b hb]; exact q⟩
      · obtain ⟨o', q⟩ := ub.there b o e hb
        exact ⟨o', gB b o' q⟩
  · obtain ⟨e', h⟩ := og b o e
    rcases h with h | h
    · obtain ⟨o', q⟩ := Option.isSome_iff_exists.mp h
      have z := st b o' q
      rw [e'] at z; cases z
      exact q
    · exact absurd h hb
theorem TakesF.passAt (hL : X.env.frame = some L) (t : TakesF X W) (σ : L2.St) : PassesAt (L2.CX X.prog X.w) X σ (WE W σ) := fun _ _ _ e s' I c => t e s' (XF.of_call hL I (fun _ _ _ h => h) c)
/-- the context of a block whose exceptions go on to the def -/
abbrev blkX (X : Cx) (s : Shared) (H : Hp) (scope : Scope) (cenv : PySem.Env) (fp : List Addr) (xe : Value → Shared → Prop) : Cx := { X with s_0 := s, H_0 := H, env := cenv, outer := X.stack, ex := fp, fn := fun x => scope.names.lookup x == some .cell, pn := [], xe := xe }
theorem takesF_blk {s3 : Shared} {H3 : Hp} {scope : Scope} {cl : List (Str × Addr)} {fp : List Addr} {use : Option (Value → Sem Unit)} {Qf : Value → Shared → Prop} {D : Addr} {e0 : PySem.Env} {out : List PySem.Env}
    (I3 : L2.Inv X pins σ H3 s3) (t : TakesF X W) (hst : X.stack = e0 :: out) (h0 : e0.frame = some L) (hL : X.env.frame = some L) (f3 : ∀ b ∈ fp, FpOk X pins H3 b ∧ b < s3.heap.objs.size) :
    TakesF (blkX X s3 H3 scope (compEnvC scope cl s3.heap.objs.size X.env) fp (notedBy (model X.prog X.w) X.A (compEnvC scope cl s3.heap.objs.size X.env) fun e s' => compEnds (model X.prog X.w) X.A X.xe use Qf (.ref D) (compEnvC scope cl s3.heap.objs.size X.env) (.error e) s')) (fun cls d _ H' => W cls d σ H') := by
  rintro u s' ⟨a, B, sI, pins', σ', H', cls, d, L', rfl, hL', I', nb, up, sky, na, os, ag, w⟩
  have eL : L' = L := by
    have q : X.env.frame = some L' := hL'
    rw [hL] at q
    exact (Option.some.inj q).symm
  subst eL
  generalize hce : compEnvC scope cl s3.heap.objs.size X.env = ce at I' ⊢
  have cL : ce.locals = s3.heap.objs.size := by subst hce; rfl
  have cf : ce.frame = some L' := by subst hce; exact hL
  generalize hC : s3.heap.objs.size = C at cL
  have hfr : X.A.frames = some (e0 :: out) := by rw [I3.ok.frames, hst]
  have nC : H' C = none := by
    have z : H' ce.locals = none := I'.free
    rw [cL] at z
    exact z
  have stk : (∀ b ∈ frs X.stack, b ≠ C) := fun b hb e => by
    obtain ⟨_, o, ho, _⟩ := I3.stack.mem hb
    have := Heap.lt_size ho
    rw [e, ← hC] at this
    exact absurd this (Nat.lt_irrefl _)
  have key : ∀ h1, HandSPX.HeldZ B (e0 :: out) a (Zc cls d) L' h1 → s'.heap.UpToSlots h1 → compEnds (model X.prog X.w) X.A X.xe use Qf (.ref D) ce (.error (.ref a)) { s' with heap := h1 } := by
    intro h1 hh up1
    obtain ⟨m, hn, _⟩ := I'.loc
    have hn : sI.heap.Ns ce.locals m := hn
    have hn1 : h1.Ns ce.locals m := Heap.Ns.upToSlots (hn) (up.trans up1)
    have fails : CompFails (model X.prog X.w) X.A X.xe ce (.ref a) { s' with heap := h1 } := by
      refine ⟨m, hn1, fun h' m' hn' hs' => ?_⟩
      obtain ⟨b1, b0, f1, oe, vs, T, oT, ts, he, hz, hd, h1f, hnT, hTe, hT, hdT, h3⟩ := hh
      obtain ⟨oC, es, ep, hoC, hdC, _⟩ := hn1
      have ne : ∀ b o (vs : Array Value), h1.get? b = some o → o.data = .fields vs → b ≠ ce.locals := fun b o vs e q z => by
        rw [z, hoC] at e
        cases e
        rw [hdC] at q
        cases q
      have naC : a ≠ ce.locals := ne a oe vs he hd
      have nTC : T ≠ ce.locals := ne T oT ts hT hdT
      have he' : h'.get? a = some oe := (hs'.2 a naC).trans he
      have hT' : h'.get? T = some oT := (hs'.2 T nTC).trans hT
      obtain ⟨B', p1, p2⟩ := L2.restrict B fun b => decide (b ≠ C)
      obtain ⟨G, g1, g2⟩ := L2.restrict sI.heap fun b => decide (b ≠ C)
      have sub : ∀ b o, B'.get? b = some o → B.get? b = some o ∧ b ≠ C := fun b o e => by
        by_cases q : b = C
        · rw [p2 b (by simp [q])] at e; cases e
        · rw [p1 b (by simp [q])] at e
          exact ⟨e, q⟩
      have gsub : ∀ b o, G.get? b = some o → sI.heap.get? b = some o ∧ b ≠ C := fun b o e => by
        by_cases q : b = C
        · rw [g2 b (by simp [q])] at e; cases e
        · rw [g1 b (by simp [q])] at e
          exact ⟨e, q⟩
      have gkeep : ∀ b o, sI.heap.get? b = some o → b ≠ C → G.get? b = some o := fun b o e q => by
        rw [g1 b (by simp [q])]
        exact e
      have none' : ∀ b, B.get? b = none → B'.get? b = none := fun b e => by
        cases q : B'.get? b with
        | none => rfl
        | some o => rw [(sub b o q).1] at e; cases e
      have held : HandSPX.HeldZ B' (e0 :: out) a (Zc cls d) L' h' := by
        refine ⟨fun b o e => ?_, none' a b0, ?_, oe, vs, T, oT, ts, he', hz, hd, h1f, none' T hnT, hTe, hT', hdT, h3⟩
        · obtain ⟨q1, q2⟩ := sub b o e
          exact (hs'.2 b (by rw [cL]; exact q2)).trans (b1 b o q1)
        · refine Heap.FunFrames.sameBut hs' hn' (funFrames_none f1 fun b hb => none' b ?_)
          exact (f1.mem hb).1
      unfold PySem.passOn
      refine wpAny_bind (wpAny_field he' hd h1f ?_)
      rw [if_neg (show ¬ ((Value.ref T == Value.none) = true) from by simp)]
      rw [cf]
      refine wpAny_bind (HandSPX.setFlight_onZ (s := { s' with heap := h' }) held fun h2 held2 up2 => ?_)
      refine wpAny_throw ?_
      -- the state without it
      have hokG : HOk X.prog X.w H' G := fun b o q => (I'.hok b o q).stay (fun c u hc r => gkeep c u r fun hm => by
        rcases hc with hc | hc
        · rw [← hc, hm, nC] at q; cases q
        · rw [hm, nC] at hc; cases hc) (fun _ r => r) fun _ _ r => r
      have IG : L2.Inv X pins σ H' { sI with heap := G } := by
        have ub := I'.base
        have lt : ∀ b o, s3.heap.get? b = some o → b ≠ C := fun b o e q => by
          have := Heap.lt_size e
          rw [q, hC] at this
          exact absurd this (Nat.lt_irrefl _)
        refine I3.call' (ch := fp) (s' := { sI with heap := G }) I'.os ⟨fun b o e n h1 h2 => gkeep b o (ub.keep b o e n h1 h2) (lt b o e), fun b o e n h1 h2 => ?_, ub.free, fun b o e h2 => ?_, ub.tups, ub.frzs, ub.tbls⟩ hokG I'.bare fun b hb => ⟨(f3 b hb).1.2.2.2.1, (f3 b hb).1.2.1, (f3 b hb).1.2.2.2.2.1, (f3 b hb).1.2.2.2.2.2⟩
        · obtain ⟨sl, q⟩ := ub.slot b o e n h1 h2
          exact ⟨sl, gkeep b _ q (lt b o e)⟩
        · obtain ⟨o', q⟩ := ub.there b o e h2
          exact ⟨o', gkeep b _ q (lt b o e)⟩
      refine t (.ref a) _ ⟨a, B', { sI with heap := G }, pins, σ, H', cls, d, L', rfl, hL, IG, fun b o e hb => ?_, fun b o e hnf => ?_, .inr (.inr (by rw [hst]; exact held2)), na, os, ag, w⟩
      · obtain ⟨q1, q2⟩ := gsub b o e
        rw [p1 b (by simp [q2])]
        exact nb b o q1 hb
      · obtain ⟨q1, q2⟩ := gsub b o e
        obtain ⟨sl1, r1⟩ := (up.trans up1) b o q1 hnf
        have r2 : h'.get? b = some { o with slots := sl1 } := (hs'.2 b (by rw [cL]; exact q2)).trans r1
        obtain ⟨sl2, r3⟩ := up2 b { o with slots := sl1 } r2 hnf
        exact ⟨sl2, r3⟩
    cases use <;> exact fails
  show wpAny (model X.prog X.w) X.A (noteFrame (.ref a) ce) _ _ s'
  rw [noteFrame_env (.ref a) (show ce.frame = e0.frame by rw [cf, h0])]
  have sky : Sky B X.stack a (Zc cls d) L' s'.heap := sky
  rw [hst] at sky
  rcases sky with ⟨hB, hn, hl, oe, vs, he, hz, hd, h1⟩ | fl | hh
  · exact HandSPX.look_newZ Zc.steady hfr hl h0 he hB hn hd h1 hz key
  · exact HandSPX.looks_onZ Zc.steady hfr h0 fl key
  · exact HandSPX.againZ h0 hh.2.2.2 (key s'.heap hh (Heap.UpToSlots.refl _))
/-- what stands in a comprehension's block is gone through, exceptions of its element go on to the def -/
theorem comp_core {elt tg iter : Expr} {ifs : List Expr} {scope : Scope} {own : List (Str × Nat)} {cpos cpos' : Pos} {wi : TI} {g : TG} {tt : L2.St → TT} {te : L2.St → TE} {use : Option (Value → Sem Unit)} {Qf : Value → Shared → Prop} {e0 : PySem.Env} {out : List PySem.Env} {Q : VK}
    (hc : X.calm = true) (hN : X.N.Nodup) (t : TakesF X W) (hst : X.stack = e0 :: out) (h0 : e0.frame = some L) (hL : X.env.frame = some L) (hi : PI X tg iter wi) (ok : BlkOk X.N X.env.scope scope own)
    (hg : ∀ s H C cl fp xe, PG (blkX X s H scope (compEnvC scope cl C X.env) fp xe) tg g)
    (ht : ∀ σ s H C cl fp xe, TakesF (blkX X s H scope (compEnvC scope cl C X.env) fp xe) (fun c d _ H' => W c d σ H') → PTs (blkX X s H scope (compEnvC scope cl C X.env) fp xe) ifs (tt σ))
    (he : ∀ σ s H C cl fp xe, TakesF (blkX X s H scope (compEnvC scope cl C X.env) fp xe) (fun c d _ H' => W c d σ H') → PE (blkX X s H scope (compEnvC scope cl C X.env) fp xe) elt (te σ))
    (hs : ∀ x, foldedSetIterable iter X.env x = pure x) (I : L2.Inv X pins σ H s) (h : tLc wi g (tt σ) (te σ) (own.map (·.2)) σ H Q)
    (last : ∀ D (ce : PySem.Env) s' m H', L2.Inv X pins σ H' s' → Q (.ref D) H' → s'.heap.Ns ce.locals m → FpOk X pins H' ce.locals → compEnds (model X.prog X.w) X.A X.xe use Qf (.ref D) ce (.ok .next) s') :
    wpAny (model X.prog X.w) X.A (comprehension (.ListComp elt [⟨tg, iter, ifs, 0⟩] scope cpos) scope X.env cpos' (newList []) false (eval iter X.env) use) Qf X.xe s := by
  have captured : ∀ y ∈ scope.names, y.2 = .free → ∃ c, X.env.cells.lookup y.1 = some c := fun y hy e => (ok.free y hy e).elim (fun k => I.ok.has _ (.inl k)) (fun k => I.ok.has _ (.inr k))
  refine comprehension_at (use := use) rfl hs (closure_ok captured) ok.kind (fun y hy e => by rw [ok.uniq y hy, e]) (thn (hi.run pins s σ H _ I h) fun xv s1 hx => thn hx fun itv s2 h2 => ?_)
  obtain ⟨it, fp, tn, J, H2, e, I2, T, st2, f2, q⟩ := h2
  subst e
  refine wpAny_newObj_type (newEnv_comp ?_) (by show 0 ≤ sizeLine; decide)
  generalize hD : s2.heap.objs.size = D
  have hDn : H2 D = none := I2.hok.fresh (Nat.le_of_eq hD)
  obtain ⟨V, ⟨m0, v0⟩, turn⟩ := q D hDn
  generalize hs3 : ({ s2 with heap := s2.heap.push { cls := .type "list", data := .seq ([] : List Value).toArray } } : Shared) = s3
  have hp3 : s3.heap = s2.heap.push { cls := .type "list", data := .seq ([] : List Value).toArray } := by rw [← hs3]
  have I3 : L2.Inv X pins σ (upd H2 D (.lst [])) s3 := by
    subst hs3 hD
    exact I2.laid (t' := s2.toks) (fun b o e => Heap.get?_push_of_some _ e) (Nat.le_refl _) ⟨Nat.zero_le _, [], 0, .nil, Heap.get?_push_size _ rfl⟩
  have f3 : ∀ b ∈ fp, FpOk X pins (upd H2 D (.lst [])) b ∧ b < s3.heap.objs.size := fun b hb => by
    obtain ⟨o, e, _⟩ := T.obj _ _ st2 b hb
    have hlt := Heap.lt_size e
    refine ⟨⟨?_, (f2 b hb).2⟩, by rw [hp3, Heap.size_push]; exact Nat.lt_succ_of_lt hlt⟩
    rw [upd_ne (by rw [← hD]; exact Nat.ne_of_lt hlt)]
    exact (f2 b hb).1
  have st3 : tn 0 s3.heap := T.keep _ _ _ st2 fun b _ o e => by rw [hp3]; exact Heap.get?_push_of_some _ e
  generalize hH3 : upd H2 D (.lst []) = H3 at I3 v0 f3
  have I4 := block_start I3 ok hN f3
  show codeAny _ _ (.compStart (.ListComp elt [⟨tg, iter, ifs, 0⟩] scope cpos) 0 (.ref it) (.ref D) (compEnvC scope (cellsFrom (s3.heap.objs.size + 1) scope.names (cloFrom X.env.cells scope.names [])) s3.heap.objs.size X.env)) (compEnds (model X.prog X.w) X.A X.xe use Qf (.ref D) (compEnvC scope (cellsFrom (s3.heap.objs.size + 1) scope.names (cloFrom X.env.cells scope.names [])) s3.heap.objs.size X.env)) { s3 with heap := pushCells (s3.heap.push { cls := .type "dict", data := .dict #[] }) scope.names }
  have tb := takesF_blk (scope := scope) (cl := cellsFrom (s3.heap.objs.size + 1) scope.names (cloFrom X.env.cells scope.names [])) (use := use) (Qf := Qf) (D := D) I3 t hst h0 hL f3
  generalize hxe : (notedBy (model X.prog X.w) X.A (compEnvC scope (cellsFrom (s3.heap.objs.size + 1) scope.names (cloFrom X.env.cells scope.names [])) s3.heap.objs.size X.env) fun e s' => compEnds (model X.prog X.w) X.A X.xe use Qf (.ref D) (compEnvC scope (cellsFrom (s3.heap.objs.size + 1) scope.names (cloFrom X.env.cells scope.names [])) s3.heap.objs.size X.env) (.error e) s') = xe at tb
  have pg := hg s3 H3 s3.heap.objs.size (cellsFrom (s3.heap.objs.size + 1) scope.names (cloFrom X.env.cells scope.names [])) fp xe
  have pt := ht σ s3 H3 s3.heap.objs.size (cellsFrom (s3.heap.objs.size + 1) scope.names (cloFrom X.env.cells scope.names [])) fp xe tb
  have pe := he σ s3 H3 s3.heap.objs.size (cellsFrom (s3.heap.objs.size + 1) scope.names (cloFrom X.env.cells scope.names [])) fp xe tb
  generalize hce : compEnvC scope (cellsFrom (s3.heap.objs.size + 1) scope.names (cloFrom X.env.cells scope.names [])) s3.heap.objs.size X.env = ce at I4 pg pt pe tb hxe ⊢
  have cL : ce.locals = s3.heap.objs.size := by subst hce; rfl
  generalize hs4 : ({ s3 with heap := pushCells (s3.heap.push { cls := .type "dict", data := .dict #[] }) scope.names } : Shared) = s4 at I4 ⊢
  have I4 : L2.Inv (blkX X s3 H3 scope ce fp xe) [] (wipe σ (own.map (·.2))) H3 s4 := I4.toTry xe
  have st4 : tn 0 s4.heap := T.keep _ _ _ st3 fun b _ o e => by rw [← hs4]; exact pushCells_keeps _ _ _ _ (Heap.get?_push_of_some _ e)
  have free3 : ∀ b ∈ fp, H3 b = none := fun b hb => (f3 b hb).1.1
  have stat : ∀ {σ' : L2.St} {H' : Hp} {s' : Shared}, L2.Inv (blkX X s3 H3 scope ce fp xe) [] σ' H' s' → (∀ b ∈ fp, H' b = none) → ∀ b ∈ fp, FpOk (blkX X s3 H3 scope ce fp xe) [] H' b := fun {σ' H' s'} I' hn b hb =>
    ⟨hn b hb, (I'.ok.exf b hb).1, I'.ok.exfs b hb, .inl hb, fun x c e => (I'.ok.exf b hb).2 x c e, fun p hp => absurd (show p ∈ ([] : List (Addr × Obj)) ++ [] from hp) (by simp)⟩
  refine codeAny_compStart_list ?_ (T.self X.A 0 _ _ _ st4 ?_)
  all_goals
    refine compLoop_any (fun n s' => ∃ i H', L2.Inv (blkX X s3 H3 scope ce fp xe) [] (wipe σ (own.map (·.2))) H' s' ∧ tn i s'.heap ∧ (∀ b ∈ fp, H' b = none) ∧ V i n H') ?_ m0 ⟨0, H3, I4, st4, free3, v0⟩
    rw [hxe]
    rintro n s5 ⟨i, H5, I5, st5, n5, v5⟩
    rcases turn i n H5 v5 with ⟨stop, qq⟩ | ⟨go, Nx, hNx, step⟩
    · refine thnF (T.done (blkX X s3 H3 scope ce fp xe) rfl rfl rfl hc i [] s5 _ H5 (fun _ _ => False) I5 (stat I5 n5) st5 stop) fun r s6 ⟨hr, I6⟩ => ?_
      subst hr
      have I7 : L2.Inv X pins σ H5 s6 := I3.call' (ch := fp) I6.os I6.base I6.hok I6.bare fun b hb => ⟨(f3 b hb).1.2.2.2.1, (f3 b hb).1.2.1, (f3 b hb).1.2.2.2.2.1, (f3 b hb).1.2.2.2.2.2⟩
      have nC : H5 ce.locals = none := I6.free
      obtain ⟨m, hn, _⟩ := I6.loc
      exact last D ce s6 m H5 I7 qq hn (I3.fpOk (by rw [cL]; exact Nat.le_refl _) nC)
    · refine thnF (T.item (blkX X s3 H3 scope ce fp xe) rfl rfl rfl hc i [] s5 _ H5 (fun _ _ => False) I5 (stat I5 n5) st5 go) fun r s6 ⟨u, hr, h6⟩ => ?_
      subst hr
      refine thnF h6 fun _ s7 ⟨x, H7, I7, r7, y7, st7, n7⟩ => ?_
      have I7' := I7.pinned (stat I7 n7) (T.obj _ _ st7)
      refine thn (pg.run _ s7 _ H7 x u _ I7' r7 (step x H7 y7)) fun _ s8 ⟨σ8, H8, I8, hw8, q8⟩ => ?_
      refine thn (pt.run _ s8 σ8 H8 _ I8 q8) fun b s9 ⟨H9, I9, q9⟩ => ?_
      have fin : ∀ {s' : Shared} {H' : Hp}, L2.Inv (blkX X s3 H3 scope ce fp xe) ([] ++ pinsAt fp s7.heap) σ8 H' s' → Nx H' → ∃ m, m < n ∧ ∃ i H', L2.Inv (blkX X s3 H3 scope ce fp xe) [] (wipe σ (own.map (·.2))) H' s' ∧ tn i s'.heap ∧ (∀ b ∈ fp, H' b = none) ∧ V i m H' := fun {s' H'} I' nx => by
        obtain ⟨m', hm, v'⟩ := hNx H' nx
        have same : ∀ b ∈ fp, ∀ o, s7.heap.get? b = some o → s'.heap.get? b = some o ∧ H' b = none := fun b hb o e =>
          let z := I'.pin (b, o) (List.mem_append_right _ (List.mem_append_right _ (mem_pinsAt hb e)))
          ⟨z.1, z.2.1⟩
        have hl : (wipe σ (own.map (·.2))).length = σ8.length := by rw [← hw8, wipe_length]
        refine ⟨m', hm, i + 1, H', (I'.unpinned (pins := [])).weak hl (fun j v e => ?_), T.keep _ _ _ st7 fun b hb o e => (same b hb o e).1, fun b hb => ?_, v'⟩
        · rw [← hw8] at e
          exact (wipe_some e).1
        · obtain ⟨o, e, _⟩ := T.obj _ _ st7 b hb
          exact (same b hb o e).2
      cases b with
      | false =>
        simp only [Bool.false_eq_true, if_false] at q9 ⊢
        exact fin I9 q9
      | true =>
        simp only [if_true] at q9 ⊢
        refine thn (pe.run _ s9 σ8 H9 _ I9 q9) fun z s10 ⟨yv, H10, I10, r10, acc, hD10, hz10, nx⟩ => ?_
        exact app_ok (X := blkX X s3 H3 scope ce fp xe) I10 hD10 hz10 r10 fun s11 I11 => fin I11 nx
/-- as a value -/
theorem pe_comp {elt tg iter : Expr} {ifs : List Expr} {scope : Scope} {own : List (Str × Nat)} {cpos : Pos} {wi : TI} {g : TG} {tt : L2.St → TT} {te : L2.St → TE} {e0 : PySem.Env} {out : List PySem.Env}
    (hc : X.calm = true) (hN : X.N.Nodup) (t : TakesF X W) (hst : X.stack = e0 :: out) (h0 : e0.frame = some L) (hL : X.env.frame = some L) (hi : PI X tg iter wi) (ok : BlkOk X.N X.env.scope scope own)
    (hg : ∀ s H C cl fp xe, PG (blkX X s H scope (compEnvC scope cl C X.env) fp xe) tg g)
    (ht : ∀ σ s H C cl fp xe, TakesF (blkX X s H scope (compEnvC scope cl C X.env) fp xe) (fun c d _ H' => W c d σ H') → PTs (blkX X s H scope (compEnvC scope cl C X.env) fp xe) ifs (tt σ))
    (he : ∀ σ s H C cl fp xe, TakesF (blkX X s H scope (compEnvC scope cl C X.env) fp xe) (fun c d _ H' => W c d σ H') → PE (blkX X s H scope (compEnvC scope cl C X.env) fp xe) elt (te σ))
    (hs : ∀ x, foldedSetIterable iter X.env x = pure x := by intro _; rfl) :
    PE X (.ListComp elt [⟨tg, iter, ifs, 0⟩] scope cpos) (fun σ H Q => tLc wi g (tt σ) (te σ) (own.map (·.2)) σ H Q) := by
  refine ⟨fun pins s σ H Q I h => ?_⟩
  rw [eval_ListComp]
  refine comp_core hc hN t hst h0 hL hi ok hg ht he hs I h fun D ce s' m H' I' q hn f => ⟨m, hn, fun h2 sb => ?_⟩
  obtain ⟨f0, f1, f2, f3, f4, f5⟩ := f
  exact ⟨.ref D, H', I'.turned (t' := s'.toks) (fun b o hb e => (sb.2 b hb).trans e) f0 f1 f3 f4 f5, rfl, q⟩
/-- name = [..] on one line, the name a local -/
theorem ps_setComp {i : Nat} {y : Str} {py spos : Pos} {elt tg iter : Expr} {ifs : List Expr} {scope : Scope} {own : List (Str × Nat)} {cpos : Pos} {wi : TI} {g : TG} {tt : L2.St → TT} {te : L2.St → TE} {e0 : PySem.Env} {out : List PySem.Env}
    (hc : X.calm = true) (hN : X.N.Nodup) (t : TakesF X W) (hst : X.stack = e0 :: out) (h0 : e0.frame = some L) (hL : X.env.frame = some L) (hy : X.N[i]? = some y) (hyl : X.env.scope.names.lookup y = some .local)
    (hsw : swapsWith (.ListComp elt [⟨tg, iter, ifs, 0⟩] scope cpos) (some (.Name y py)) spos.line X.env = pure true) (hi : PI X tg iter wi) (ok : BlkOk X.N X.env.scope scope own)
    (hg : ∀ s H C cl fp xe, PG (blkX X s H scope (compEnvC scope cl C X.env) fp xe) tg g)
    (ht : ∀ σ s H C cl fp xe, TakesF (blkX X s H scope (compEnvC scope cl C X.env) fp xe) (fun c d _ H' => W c d σ H') → PTs (blkX X s H scope (compEnvC scope cl C X.env) fp xe) ifs (tt σ))
    (he : ∀ σ s H C cl fp xe, TakesF (blkX X s H scope (compEnvC scope cl C X.env) fp xe) (fun c d _ H' => W c d σ H') → PE (blkX X s H scope (compEnvC scope cl C X.env) fp xe) elt (te σ))
    (hs : ∀ x, foldedSetIterable iter X.env x = pure x := by intro _; rfl) :
    PS X (.Assign [.Name y py] (.ListComp elt [⟨tg, iter, ifs, 0⟩] scope cpos) spos) (tAsg (fun σ H Q => tLc wi g (tt σ) (te σ) (own.map (·.2)) σ H Q) (gName i)) := by
  refine ⟨fun pins s σ H D I h => ?_⟩
  rw [exec_Assign_Name_used _ _ _ _ hsw]
  refine wpAny_bind (wpAny_standAt (wpAny_bind ?_))
  show wpAny _ X.A (do let _ ← comprehension (.ListComp elt [⟨tg, iter, ifs, 0⟩] scope cpos) scope X.env (firstIterPos [⟨tg, iter, ifs, 0⟩] cpos) (newList []) false (eval iter X.env) (some (assign (.Name y py) X.env))) _ _ s
  have h : tLc wi g (tt σ) (te σ) (own.map (·.2)) σ H (fun x H1 => gName i x σ H1 D.nx) := h
  refine wpAny_bind (thn (comp_core (Qf := fun _ s' => SP X pins D .next s') hc hN t hst h0 hL hi ok hg ht he hs I h fun A ce s' m H' I' q hn f => ?_) fun _ s' hq => wpAny_pure (wpAny_pure hq))
  show wpAny _ _ (assign (.Name y py) X.env (.ref A)) _ _ _
  refine wpAny_assign_Name (store_ok2 (v := V.ref A) I' hN hy (.inl hyl) rfl (fun s2 I2 ⟨a, sb, ha⟩ => ?_) (.inr hyl))
  obtain ⟨f0, f1, f2, f3, f4, f5⟩ := f
  have apart : ce.locals ≠ a := ha.elim (fun z => by rw [z]; exact f1) (fun z e => f4 y a z e.symm)
  exact ⟨m, hn.sameBut sb apart, fun h3 sb3 => ⟨_, H', I2.turned (t' := s2.toks) (fun b o hb e => (sb3.2 b hb).trans e) f0 f1 f3 f4 f5, q⟩⟩
end
end Ev

/-! Expressions are sound. -/
namespace Ev
open PySem PySem.Spec
open PyProof.Rows hiding St
open L2
open Evl (Ex)
variable [Wo]

def bnames : List Str := ["len", "int", "str", "tuple", "list", "sum", "all", "any", "max", "min", "isinstance", "bool", "range", "sorted", "set", "dict", "reversed", "zip", "repr", "ValueError"]
/-- how an error of the wished kind lies -/
def WW (xa : Nat → Addr) (W : WN) : WX := fun cls d σ H => ∃ c, d = none ∧ cls = .ref (xa c) ∧ W c σ H
/-- a dict that may be read -/
def DShR (K : PySem.W.Frag) (H : Hp) (v : V) (d : D) : Prop := ∃ a o kvs es, v = .ref a ∧ d = .lst es ∧ H a = some (.frz o (.dK kvs)) ∧ DRep K H kvs es ∧ es.length ≤ line
omit [Wo] in
theorem DShR.mono {K : PySem.W.Frag} {H H' : Hp} {v : V} {d : D} (p : Pers H H') (h : DShR K H v d) : DShR K H' v d := by
  obtain ⟨a, o, kvs, es, e1, e2, h, r, z⟩ := h
  exact ⟨a, o, kvs, es, e1, e2, p.2 _ _ _ h, r.mono p, z⟩
def ArgR (K : PySem.W.Frag) (H : Hp) : Pk → V → D → Prop
  | .s => Rep K H
  | .b => RepB K H
  | .d => DShR K H
inductive ArgsR (K : PySem.W.Frag) (H : Hp) : List Pk → List V → List D → Prop
  | nil : ArgsR K H [] [] []
  | cons {b : Pk} {v : V} {d : D} {bs : List Pk} {vs : List V} {ds : List D} : ArgR K H b v d → ArgsR K H bs vs ds → ArgsR K H (b :: bs) (v :: vs) (d :: ds)
omit [Wo] in
theorem ArgsR.len {K : PySem.W.Frag} {H : Hp} : ∀ {bs : List Pk} {vs : List V} {ds : List D}, ArgsR K H bs vs ds → vs.length = bs.length ∧ ds.length = bs.length
  | _, _, _, .nil => ⟨rfl, rfl⟩
  | _, _, _, .cons _ r => ⟨congrArg Nat.succ r.len.1, congrArg Nat.succ r.len.2⟩
omit [Wo] in
theorem ArgR.mono {K : PySem.W.Frag} {H H' : Hp} (e : Ex H H') {b : Pk} {v : V} {d : D} (h : ArgR K H b v d) : ArgR K H' b v d := by
  cases b with
  | s => exact Rep.mono (.of e) h
  | b => exact RepB.mono e h
  | d => exact DShR.mono (.of e) h
omit [Wo] in
theorem ArgsR.mono {K : PySem.W.Frag} {H H' : Hp} (e : Ex H H') : ∀ {bs : List Pk} {vs : List V} {ds : List D}, ArgsR K H bs vs ds → ArgsR K H' bs vs ds
  | _, _, _, .nil => .nil
  | _, _, _, .cons h r => .cons (ArgR.mono e h) (ArgsR.mono e r)
omit [Wo] in
theorem ArgsR.bs {K : PySem.W.Frag} {H : Hp} {α : Type} : ∀ {xs : List α} {vs : List V} {ds : List D}, ArgsR K H (xs.map fun _ => Pk.b) vs ds → RepBs K H vs ds
  | [], _, _, .nil => .nil
  | _ :: _, _, _, .cons h r => .cons h (ArgsR.bs r)
omit [Wo] in
theorem ArgsR.reps {K : PySem.W.Frag} {H : Hp} {α : Type} : ∀ {xs : List α} {vs : List V} {ds : List D}, ArgsR K H (xs.map fun _ => Pk.s) vs ds → Reps K H vs ds
  | [], _, _, .nil => .nil
  | _ :: _, _, _, .cons h r => .cons h (ArgsR.reps r)
/-- a list whose first item is a new list, its own -/
def PRep (K : PySem.W.Frag) (Hi H : Hp) (v : V) (d : D) : Prop := match d with
  | .lst (.lst xs :: ds) => ∃ a p vs ws, v = .ref a ∧ p ≠ a ∧ Hi a = none ∧ H a = some (.lst (.ref p :: ws)) ∧ Hi p = none ∧ H p = some (.lst vs) ∧ Reps K H vs xs ∧ xs.length ≤ line ∧ Reps K H ws ds ∧ ds.length < line
  | _ => Rep K H v d
/-- what has become of the lists at these places -/
inductive Fins (K : PySem.W.Frag) (H : Hp) : List Addr → List D → Prop
  | nil : Fins K H [] []
  | cons {a : Addr} {us : List V} {xs : List D} {as : List Addr} {ds : List D} : H a = some (.lst us) → Reps K H us xs → xs.length ≤ line → Fins K H as ds → Fins K H (a :: as) (.lst xs :: ds)
/-- all stays but what stands at these places -/
def ExW (Wr : List Addr) (H H' : Hp) : Prop := ∀ a o, H a = some o → a ∉ Wr → H' a = some o
omit [Wo] in
theorem ExW.of {Wr : List Addr} {H H' : Hp} (e : Ex H H') : ExW Wr H H' := fun a o h _ => e a o h
omit [Wo] in
theorem ExW.nil {H H' : Hp} (e : ExW [] H H') : Ex H H' := fun a o h => e a o h (by simp)
/-- slots and their lists -/
abbrev Mp := List (Nat × Addr)
def RetR (own : Ow) (K : PySem.W.Frag) (M : Mp) (H0 H : Hp) (v : V) (d : D) : Prop := match own with
  | .no => Rep K H v d
  | .own => FRep K H0 H v d
  | .prt => PRep K H0 H v d
  | .chg _ => match d with
    | .tup (r :: fs) => Rep K H v r ∧ Fins K H (M.map (·.2)) fs
    | _ => False
/-- which lists a def may change: the arguments at these places -/
def MutA (own : Ow) (K : PySem.W.Frag) (H : Hp) (vs : List V) (ds : List D) (M : Mp) : Prop := match own with
  | .chg l => M.map (·.1) = l ∧ (M.map (·.2)).Nodup ∧ ∀ p ∈ M, vs[p.1]? = some (.ref p.2) ∧ ∃ us xs, H p.2 = some (.lst us) ∧ ds[p.1]? = some (.lst xs) ∧ Reps K H us xs ∧ xs.length ≤ line
  | _ => M = []
/-- what a def promises -/
def spF (K : PySem.W.Frag) (xa : Nat → Addr) (r : List D → Res D) (fd : FD) : Sp := fun vs H Q E => ∃ ds M, ArgsR K H fd.ps vs ds ∧ MutA fd.own K H vs ds M ∧ match r ds with
  | .ok d => ∀ v H', ExW (M.map (·.2)) H H' → RetR fd.own K M H H' v d → Q v H'
  | .exc c => ∀ H', Ex H H' → E (.ref (xa c)) none H'
  | .fail => False
/-- how a callee's exceptions come -/
def cxM : Md → Program → World → CXT
  | .clean, P, w => L2N.CX P w
  | _, P, w => L2.CX P w
def FnS (m : Md) (X : Cx) (k : Nat) (fa : Addr) (fdt : FuncData) (ps : List Str) (sp : Sp) : Prop := match m with
  | .hot => L2H.RoomH k X.A ∧ L2H.FnH X.prog X.w X.K X.mg X.base (L2.CX X.prog X.w) k fa fdt ps sp
  | .any => Room k X.A ∧ FnOk X.prog X.w X.K X.mg X.base (L2.CX X.prog X.w) k fa fdt ps sp
  | .clean => Room k X.A ∧ FnOk X.prog X.w X.K X.mg X.base (L2N.CX X.prog X.w) k fa fdt ps sp
def FnAt (L : Lw) (cf : Nat → List D → Res D) (xa : Nat → Addr) (X : Cx) (f : Nat) (fd : FD) : Prop := ∃ (fa : Addr) (fdt : FuncData) (ps : List Str) (k : Nat), X.mg (L.nm f) = some (.ref fa) ∧ PySem.W.keepIn X.K (.ref fa) = true ∧ Binds X.K fdt ps [] ∧
  FnS L.md X k fa fdt ps (spF X.K xa (cf f) fd)
structure CtxOk (L : Lw) (cf : Nat → List D → Res D) (xa : Nat → Addr) (N : List Str) (W : WN) (X : Cx) (sc : Scope) : Prop where
  calm : L.cb = true → X.calm = true
  hotc : L.md = .hot → L2H.HotC X
  gd : L.gd = true → X.A.guards = some []
  nN : X.N = N
  nd : X.N.Nodup
  scp : X.env.scope = sc
  room : L2H.RoomH 0 X.A
  fns : ∀ f fd, L.T f = some fd → FnAt L cf xa X f fd
  free : ∀ x ∈ bnames, X.mg x = none
  glb : ∀ g d, L.gl g = some d → ∃ u v, X.mg (L.nm g) = some u ∧ RelV v u ∧ ∀ H, Rep X.K H v d
  tk : L.ab = true → TakesF X (WW xa W)
  pc : ∀ σ, PassesAt (cxM L.md X.prog X.w) X σ (WE (WW xa W) σ)
  fr : ∃ e0 out Lf, X.stack = e0 :: out ∧ e0.frame = some Lf ∧ X.env.frame = some Lf
  cw : Wo.w = X.w

section
variable {L : Lw} {cf : Nat → List D → Res D} {xa : Nat → Addr} {N : List Str} {W : WN} {X : Cx} {sc : Scope}
omit [Wo] in
theorem nm1 {x : Str} (h : nmOk x = true) : (x == ("__debug__" : Str)) = false ∧ (x == ("__classdict__" : Str)) = false ∧ x ≠ "__name__" := by
  unfold nmOk at h
  simp only [Bool.and_eq_true, Bool.not_eq_true'] at h
  exact ⟨h.1.1, h.1.2, fun z => by rw [z] at h; simp at h⟩
omit [Wo] in
theorem vis_of {x : Str} (h : visB sc x = true) (e : X.env.scope = sc) : Vis X.env.scope x ∧ nmOk x = true := by
  unfold visB at h
  rw [Bool.and_eq_true] at h
  refine ⟨?_, h.1⟩
  rw [e]
  have h2 := h.2
  unfold Vis
  split at h2 <;> simp_all
omit [Wo] in
theorem loc_of {x : Str} (h : locB sc x = true) (e : X.env.scope = sc) : L2.Loc X.env.scope x := by
  unfold locB at h
  rw [e]
  unfold L2.Loc
  split at h <;> simp_all
omit [Wo] in
theorem glo_of {x : Str} (h : gloB sc x = true) (e : X.env.scope = sc) : Gl X x ∧ nmOk x = true := by
  unfold gloB at h
  rw [Bool.and_eq_true] at h
  refine ⟨?_, h.1⟩
  have h2 := h.2
  unfold Gl Env.kindOf
  rw [e]
  split at h2 <;> simp_all
omit [Wo] in
theorem star_of {e : Expr} {es : List Expr} (h : notStar e = true) (env : PySem.Env) : starEach (e :: es) env = (false, eval e env) :: starEach es env := by
  cases e <;> first | rfl | (simp [notStar] at h)
omit [Wo] in
theorem plain_star {es : List Expr} {env : PySem.Env} {pos : Pos} (h : ∀ e ∈ es, notStar e = true) : (backTo pos (starEach es env)).any (·.1) = false := by
  induction es with
  | nil => rfl
  | cons e es ih =>
    rw [star_of (h e (List.mem_cons_self ..))]
    show (false || (backTo pos (starEach es env)).any (·.1)) = false
    rw [ih fun e' he => h e' (List.mem_cons_of_mem _ he)]
    rfl
omit [Wo] in
theorem set_of {e : Expr} (h : notSet e = true) (env : PySem.Env) (x : Value) : foldedSetIterable e env x = pure x := by
  cases e <;> first | rfl | (simp [notSet] at h)
omit [Wo] in
theorem marks_of {e : Expr} (h : notSet e = true) (op : CmpOp) : behindInMarks op e = false := by
  cases e <;> first | rfl | (simp [notSet] at h)
omit [Wo] in
theorem slice_of {e : Expr} (h : notSlice e = true) (o i : Value) : subscripted e false o i = operate [o, i] (getItem o i) := by
  cases e <;> first | rfl | (simp [notSlice] at h)
omit [Wo] in
theorem base_of {e : Expr} (h : notCall e = true) (f : Str) (env : PySem.Env) : attributeBase e f env (eval e env) = eval e env := by
  cases e <;> first | rfl | (rename_i g _ _ _; cases g <;> first | rfl | (simp [notCall] at h))
omit [Wo] in
theorem isTrue_of {e : Expr} (h : plainT e = true) (env : PySem.Env) (whole : Sem Value) : isTrue e env whole = (do let v ← whole; standAt e.pos; holding [v] (truthy v)) := by
  cases e <;> first | rfl | (rename_i o _ _; cases o <;> first | rfl | (simp [plainT] at h)) | (simp [plainT] at h)
omit [Wo] in
theorem swap_of {e : Expr} (h : notComp e = true) (t : Option Expr) (l : Nat) (env : PySem.Env) : swapsWith e t l env = pure false := by
  cases e <;> first | rfl | (simp [notComp] at h)

abbrev SE (L : Lw) (cf : Nat → List D → Res D) (xa : Nat → Addr) (N : List Str) (c : E) : Prop := ∀ (W : WN) (X : Cx) (sc : Scope) (e : Expr), CtxOk L cf xa N W X sc → chkE L N c sc e = true → PE X e (rd (kd L c) X.K W (evE cf L.gl c))
theorem SE.v {c : E} (h : SE L cf xa N c) (hv : isV L c = true) {e : Expr} (C : CtxOk L cf xa N W X sc) (k : chkE L N c sc e = true) : PE X e (rd .V X.K W (evE cf L.gl c)) := by
  have q := h W X sc e C k
  cases z : kd L c with
  | C => rw [z] at q; exact pe_val q
  | V => rw [z] at q; exact q
  | B =>
    cases c <;> simp [kd, isV] at z hv
    rename_i f es
    split at z
    · rename_i fd _
      cases w : fd.own <;> rw [w] at z <;> cases z
    · cases z
theorem SE.b {c : E} (h : SE L cf xa N c) {e : Expr} (C : CtxOk L cf xa N W X sc) (k : chkE L N c sc e = true) : PE X e (rd .B X.K W (evE cf L.gl c)) := pe_b (h W X sc e C k)

theorem room_u (C : CtxOk L cf xa N W X sc) : X.A.units + 160 < cLine := by
  have := C.room.un
  omega

omit [Wo] in
theorem Lw.cb_of {L : Lw} (h : L.ab = true) : L.cb = true := by
  unfold Lw.ab at h
  unfold Lw.cb
  split at h
  · rename_i e; rw [e]
  · cases h
omit [Wo] in
theorem Lw.ab_md {L : Lw} (h : L.ab = true) : L.md = .any := by
  unfold Lw.ab at h
  split at h
  · assumption
  · cases h
/-- a call, as its exceptions may come here -/
theorem pe_callF (C : CtxOk L cf xa N W X sc) {k : Nat} {fa : Addr} {fdt : FuncData} {ps : List Str} {sp : Sp} {x : Str} {e : Expr} {es : List Expr} {t : TA} {p pos : Pos} (F : FnS L.md X k fa fdt ps sp) (hg : Gl X x) (hm : X.mg x = some (.ref fa)) (hk : PySem.W.keepIn X.K (.ref fa) = true) (hb : Binds X.K fdt ps [])
    (ha : PA X (e :: es) t) (hdb : (x == ("__debug__" : Str)) = false) (he : starEach (e :: es) X.env = (false, eval e X.env) :: starEach es X.env) (hpl : (backTo pos (starEach es X.env)).any (·.1) = false) :
    PE X (.Call (.Name x p) (e :: es) [] pos) (tCallS sp (fun σ => WE (WW xa W) σ) t) := by
  have pc := C.pc
  have hc := C.hotc
  cases h : L.md with
  | any =>
    rw [h] at F pc
    exact pe_callS F.2 F.1 hg hm hk hb pc ha hdb he hpl
  | clean =>
    rw [h] at F pc
    exact pe_callS F.2 F.1 hg hm hk hb pc ha hdb he hpl
  | hot =>
    rw [h] at F pc
    exact L2H.pe_callH F.2 F.1 (hc h) hg hm hk hb pc ha hdb he hpl
theorem s_var (i : Nat) : SE L cf xa N (.var i) := fun W X sc e C k => by
  unfold chkE at k
  split at k
  · rename_i x p
    rw [Bool.and_eq_true, decide_eq_true_eq] at k
    obtain ⟨v, o⟩ := vis_of k.2 C.scp
    obtain ⟨d1, d2, _⟩ := nm1 o
    refine pe_imp (pe_var (by rw [C.nN]; exact k.1) v d1 d2) fun σ H Q ⟨H0, Wr, ρ, R, g⟩ => ?_
    obtain ⟨d, e, g⟩ := g.o
    obtain ⟨v, hv, r⟩ := R.sh e
    exact ⟨v, hv, g v H (Ex.refl H) r⟩
  · cases k
theorem s_bor (i : Nat) : SE L cf xa N (.bor i) := fun W X sc e C k => by
  unfold chkE at k
  split at k
  · rename_i x p
    rw [Bool.and_eq_true, decide_eq_true_eq] at k
    obtain ⟨v, o⟩ := vis_of k.2 C.scp
    obtain ⟨d1, d2, _⟩ := nm1 o
    refine pe_imp (pe_var (by rw [C.nN]; exact k.1) v d1 d2) fun σ H Q ⟨H0, Wr, ρ, R, g⟩ => ?_
    obtain ⟨d, e, g⟩ := g.o
    obtain ⟨v, hv, r⟩ := R.any e
    exact ⟨v, hv, g v H (Ex.refl H) r⟩
  · cases k
omit [Wo] in
theorem pe_lit {W : WN} {X : Cx} {sc : Scope} {e : Expr} {K : PySem.W.Frag} {r : Env → Res D} (d : D) (k : chkE L N (.lit d) sc e = true) : PE X e (fun σ H Q => ∀ v H', Ex H H' → Rep K H' v d → Q v H') := by
  unfold chkE at k
  split at k
  · exact pe_imp pe_non fun σ H Q g => g _ H (Ex.refl H) .non
  · rename_i b c _ _
    have : b = c := by simpa using k
    subst this
    exact pe_imp pe_bl fun σ H Q g => g _ H (Ex.refl H) (.bl _)
  · rename_i i j _ _
    have : i = j := of_decide_eq_true k
    subst this
    exact pe_imp pe_int fun σ H Q g => g _ H (Ex.refl H) (.int _)
  · rename_i s x _ _
    rw [Bool.and_eq_true, decide_eq_true_eq, decide_eq_true_eq] at k
    obtain ⟨rfl, k⟩ := k
    refine pe_imp pe_str fun σ H Q g => ?_
    have := g (.str (T x.cps.toList)) H (Ex.refl H) (.str _ k)
    rw [T_of] at this
    exact this
  · cases k
theorem s_lit (d : D) : SE L cf xa N (.lit d) := fun W X sc e C k => by
  unfold chkE at k
  split at k
  · exact pe_imp pe_non fun σ H Q ⟨H0, Wr, ρ, R, g⟩ => g _ H (Ex.refl H) .non
  · rename_i b c _ _
    have : b = c := by simpa using k
    subst this
    exact pe_imp pe_bl fun σ H Q ⟨H0, Wr, ρ, R, g⟩ => g _ H (Ex.refl H) (.bl _)
  · rename_i i j _ _
    have : i = j := of_decide_eq_true k
    subst this
    exact pe_imp pe_int fun σ H Q ⟨H0, Wr, ρ, R, g⟩ => g _ H (Ex.refl H) (.int _)
  · rename_i s x _ _
    rw [Bool.and_eq_true, decide_eq_true_eq, decide_eq_true_eq] at k
    obtain ⟨rfl, k⟩ := k
    refine pe_imp pe_str fun σ H Q ⟨H0, Wr, ρ, R, g⟩ => ?_
    have := g (.str (T x.cps.toList)) H (Ex.refl H) (.str _ k)
    rw [T_of] at this
    exact this
  · cases k
theorem s_glob (i : Nat) : SE L cf xa N (.glob i) := fun W X sc e C k => by
  unfold chkE at k
  split at k
  · rename_i x p
    rw [Bool.and_eq_true, decide_eq_true_eq] at k
    obtain ⟨rfl, k⟩ := k
    obtain ⟨gl, o⟩ := glo_of k C.scp
    cases q : L.gl i with
    | none => exact ⟨fun pins s σ H Q I ⟨H0, Wr, ρ, R, g⟩ => by
        have g : Gd W σ H (ofO (L.gl i)) _ := g
        rw [q] at g; exact g.elim⟩
    | some d =>
      obtain ⟨u, v, h1, h2, h3⟩ := C.glb i d q
      refine pe_imp (pe_glob gl h1 h2 (nm1 o).1) fun σ H Q ⟨H0, Wr, ρ, R, g⟩ => ?_
      have g : Gd W σ H (ofO (L.gl i)) _ := g
      rw [q] at g
      exact g v H (Ex.refl H) (h3 H)
  · cases k
theorem s_bin (o : Bo) {a b : E} (ha : SE L cf xa N a) (hb : SE L cf xa N b) : SE L cf xa N (.bin o a b) := fun W X sc e C k => by
  unfold chkE at k
  split at k
  · rename_i x p y pos
    simp only [Bool.and_eq_true] at k
    obtain ⟨⟨k0, k1⟩, k2⟩ := k
    have : o.py = p := of_decide_eq_true k0
    subst this
    refine pe_imp (pe_op (op_B o) (ha.b C k1) (hb.b C k2)) fun σ H Q ⟨H0, Wr, ρ, R, g⟩ => ?_
    have g := g.bind
    refine ⟨H0, Wr, ρ, R, g.mono fun dx g vx H1 e1 rx => ⟨H0, Wr, ρ, R.ex e1, (g.ex e1).bind.mono fun dy g vy H2 e2 ry => ?_⟩⟩
    obtain ⟨d, ed, g⟩ := g.o
    exact ⟨dx, dy, d, rx.mono e2, ry, ed, fun v H3 e3 f => g v H3 ((e1.trans e2).trans e3) (f.back (e1.trans e2))⟩
  · cases k
omit [Wo] in
theorem reps_rg {K : PySem.W.Frag} {H : Hp} (n : Int) : Reps K H (rgV 0 n) (rng 0 n.toNat) := by
  have key : ∀ (l : List Nat), Reps K H (l.map fun i => V.int (0 + (i : Nat))) (l.map fun (k : Nat) => D.int (0 + (k : Int))) := fun l => by
    induction l with
    | nil => exact .nil
    | cons a l ih => exact .cons (.int _) ih
  have e : rgV 0 n = (List.range n.toNat).map fun i => V.int (0 + (i : Nat)) := by
    unfold rgV
    rw [Int.sub_zero]
  rw [e]
  exact key _
theorem s_lrng {a : E} (ha : SE L cf xa N a) : SE L cf xa N (.lrng a) := fun W X sc e C k => by
  unfold chkE at k
  rw [Bool.and_eq_true] at k
  obtain ⟨kc, k⟩ := k
  split at k
  · rename_i l lp x xp y rp pos
    simp only [Bool.and_eq_true, decide_eq_true_eq] at k
    obtain ⟨⟨⟨⟨⟨rfl, k1⟩, rfl⟩, k2⟩, k3⟩, k4⟩ := k
    obtain ⟨gl, o⟩ := glo_of k1 C.scp
    obtain ⟨gr, o2⟩ := glo_of k2 C.scp
    refine pe_imp (pe_listRg (C.calm kc) gl (C.free _ (by decide)) (prg_1 gr (C.free _ (by decide)) (ha.b C k3) (star_of k4 _)) (star_of rfl _)) fun σ H Q ⟨H0, Wr, ρ, R, g⟩ => ?_
    have g : Gd W σ H (evE cf L.gl a ρ >>= fun x => (ofO (rng1 x)) >>= fun l => Res.ok (D.lst l)) (fun d => ∀ (v : V) (H' : Hp), Ex H H' → RepK (kd L (.lrng a)) X.K H H' v d → Q v H') := g
    refine ⟨H0, Wr, ρ, R, g.bind.mono fun d g v H1 e1 rv => ?_⟩
    obtain ⟨ds, ed, g⟩ := g.bind.o
    cases d <;> simp only [rng1, reduceCtorEq] at ed
    rename_i j
    split at ed <;> cases ed
    rename_i hj
    obtain rfl := rv.int_inv
    have hl : line = 16777216 := by decide
    refine ⟨j, rfl, ⟨by omega, by omega, by omega, by omega, by omega⟩, fun p hp => ?_⟩
    have g : ∀ v H', Ex H H' → RepK (kd L (.lrng a)) X.K H H' v (.lst (rng 0 j.toNat)) → Q v H' := g
    refine g _ _ (e1.trans (Ex.new hp)) (FRep.back e1 (frep_lst hp (reps_rg j) ?_))
    have : (rng 0 j.toNat).length = j.toNat := by unfold rng; simp
    rw [this]
    omega
  · cases k
theorem s_revs {a : E} (ha : SE L cf xa N a) : SE L cf xa N (.revs a) := fun W X sc e C k => by
  unfold chkE at k
  split at k
  · rename_i x i k0 p1 p2 p3 pos
    simp only [Bool.and_eq_true, decide_eq_true_eq] at k
    obtain ⟨rfl, k⟩ := k
    refine pe_imp (pe_revA (ha.b C k)) fun σ H Q ⟨H0, Wr, ρ, R, g⟩ => ?_
    refine ⟨H0, Wr, ρ, R, g.bind.mono fun dx g vx H1 e1 r => ?_⟩
    obtain ⟨d, ed, g⟩ := g.o
    have rev : ∀ {H : Hp} {vs : List V} {ds : List D}, Reps X.K H vs ds → Reps X.K H vs.reverse ds.reverse := fun {H vs ds} r => by
      induction vs generalizing ds with
      | nil => cases r; exact .nil
      | cons v vs ih =>
        cases r with
        | cons h r =>
          rw [List.reverse_cons, List.reverse_cons]
          exact (ih r).append (.one h)
    cases dx <;> simp only [opRev, reduceCtorEq] at ed <;> cases ed
    · rename_i xs g
      have hz := RepB.lenT r
      obtain ⟨a, vs, rfl, h1, rr⟩ := RepB.tup_inv r
      exact ⟨a, vs, rfl, .inr ⟨h1, fun p hp => g _ _ (e1.trans (Ex.new hp)) (rep_tup hp (rev rr) (by rw [List.length_reverse]; exact hz))⟩⟩
    · rename_i xs g
      have hz := RepB.len r
      obtain ⟨a, vs, rfl, h1, rr⟩ := RepB.lst_inv r
      exact ⟨a, vs, rfl, .inl ⟨.inl h1, fun p hp => g _ _ (e1.trans (Ex.new hp)) (FRep.back e1 (frep_lst hp (rev rr) (by rw [List.length_reverse]; exact hz)))⟩⟩
  · cases k
theorem s_prt (i j : Nat) : SE L cf xa N (.prt i j) := fun W X sc e C k => by
  unfold chkE at k
  split at k
  · rename_i x p q k0 p1 pos
    simp only [Bool.and_eq_true, decide_eq_true_eq] at k
    obtain ⟨⟨k1, k2⟩, rfl⟩ := k
    obtain ⟨v, o⟩ := vis_of k2 C.scp
    obtain ⟨d1, d2, _⟩ := nm1 o
    refine pe_imp (pe_ix ix_list (pe_var (by rw [C.nN]; exact k1) v d1 d2) pe_int (slice_of rfl)) fun σ H Q ⟨H0, Wr, ρ, R, g⟩ => ?_
    obtain ⟨d, e, g⟩ := g.o
    obtain ⟨a, ob, vs, w, hs, ha, hk, hz, r⟩ := R.prt e
    refine ⟨_, hs, ?_⟩
    have hj : atI vs (j : Int) = some w := by
      have hl : j < vs.length := (List.getElem?_eq_some_iff.mp hk).1
      have : L2.ixN vs.length (j : Int) = some j := by
        unfold L2.ixN
        rw [if_pos (by omega), if_pos (by omega), Int.toNat_natCast]
      unfold atI
      rw [this]
      exact hk
    exact ⟨_, _, _, _, rfl, rfl, .inl (.inr ⟨_, ha⟩), hj, g w H (Ex.refl H) r⟩
  · cases k
theorem s_neg {a : E} (ha : SE L cf xa N a) : SE L cf xa N (.neg a) := fun W X sc e C k => by
  unfold chkE at k
  split at k
  · rename_i x p
    refine pe_imp (pe_un un_neg (ha.b C k)) fun σ H Q ⟨H0, Wr, ρ, R, g⟩ => ?_
    refine ⟨H0, Wr, ρ, R, g.bind.mono fun dx g vx H1 e1 rx => ?_⟩
    obtain ⟨d, ed, g⟩ := g.o
    cases dx <;> simp only [opNeg, reduceCtorEq] at ed <;> cases ed
    obtain rfl := rx.int_inv
    exact ⟨_, rfl, g _ H1 e1 (.int _)⟩
  · cases k
/-- sound by one reading, as a value and as a test -/
abbrev SM (L : Lw) (cf : Nat → List D → Res D) (xa : Nat → Addr) (N : List Str) (c : E) : Prop := ∀ (W : WN) (X : Cx) (sc : Scope) (e : Expr), CtxOk L cf xa N W X sc → chkE L N c sc e = true →
  ∃ t : TE, PE X e t ∧ PT X e (tTest t) ∧ ∀ σ H Q, rd .V X.K W (evE cf L.gl c) σ H Q → t σ H Q
theorem m_isN {a : E} (ha : SE L cf xa N a) : SM L cf xa N (.isN a) := fun W X sc e C k => by
  unfold chkE at k
  split at k
  · refine ⟨_, pe_cmp (pc_isN (ha.b C k)), pt_cmp (pc_isN (ha.b C k)), fun σ H Q ⟨H0, Wr, ρ, R, g⟩ => ?_⟩
    refine ⟨H0, Wr, ρ, R, g.bind.mono fun dx g vx H1 e1 rx => ?_⟩
    have : decide (vx = V.non) = isNon dx := by
      cases dx with
      | non => rw [rx.non_inv]; rfl
      | bl b => rw [rx.bl_inv]; rfl
      | int b => rw [rx.int_inv]; rfl
      | str b => rw [rx.str_inv.1]; rfl
      | tup b => obtain ⟨_, _, rfl, _⟩ := rx.tup_inv; rfl
      | lst b => obtain ⟨_, _, rfl, _⟩ := rx.lst_inv; rfl
    show Q (V.bl (decide (vx = V.non))) H1
    rw [this]
    exact g _ H1 e1 (.bl _)
  · cases k
theorem m_notN {a : E} (ha : SE L cf xa N a) : SM L cf xa N (.notN a) := fun W X sc e C k => by
  unfold chkE at k
  split at k
  · refine ⟨_, pe_cmp (pc_notN (ha.b C k)), pt_cmp (pc_notN (ha.b C k)), fun σ H Q ⟨H0, Wr, ρ, R, g⟩ => ?_⟩
    refine ⟨H0, Wr, ρ, R, g.bind.mono fun dx g vx H1 e1 rx => ?_⟩
    have : decide (vx = V.non) = isNon dx := by
      cases dx with
      | non => rw [rx.non_inv]; rfl
      | bl b => rw [rx.bl_inv]; rfl
      | int b => rw [rx.int_inv]; rfl
      | str b => rw [rx.str_inv.1]; rfl
      | tup b => obtain ⟨_, _, rfl, _⟩ := rx.tup_inv; rfl
      | lst b => obtain ⟨_, _, rfl, _⟩ := rx.lst_inv; rfl
    show Q (V.bl !decide (vx = V.non)) H1
    rw [this]
    exact g _ H1 e1 (.bl _)
  · cases k
theorem m_cmp (o : Co) {a b : E} (ha : SE L cf xa N a) (hb : SE L cf xa N b) : SM L cf xa N (.cmp o a b) := fun W X sc e C k => by
  unfold chkE at k
  split at k
  · rename_i x p y pos
    simp only [Bool.and_eq_true] at k
    obtain ⟨⟨⟨k0, k1⟩, k2⟩, k3⟩ := k
    have : o.py = p := of_decide_eq_true k0
    subst this
    refine ⟨_, pe_cmpR (op_C (room_u C) o) (ha.b C k1) (hb.b C k2) (marks_of k3 _), pt_cmpR (op_C (room_u C) o) (ha.b C k1) (hb.b C k2) (marks_of k3 _), fun σ H Q ⟨H0, Wr, ρ, R, g⟩ => ?_⟩
    refine ⟨H0, Wr, ρ, R, g.bind.mono fun dx g vx H1 e1 rx => ⟨H0, Wr, ρ, R.ex e1, (g.ex e1).bind.mono fun dy g vy H2 e2 ry => ?_⟩⟩
    obtain ⟨d, ed, g⟩ := g.bind.o
    exact ⟨dx, dy, d, rx.mono e2, ry, ed, g _ H2 (e1.trans e2) (.bl _)⟩
  · cases k
theorem m_chain (o p : Co) {a b c : E} (ha : SE L cf xa N a) (hb : SE L cf xa N b) (hc : SE L cf xa N c) : SM L cf xa N (.chain o p a b c) := fun W X sc e C k => by
  unfold chkE at k
  split at k
  · rename_i x q r y z pos
    simp only [Bool.and_eq_true] at k
    obtain ⟨⟨⟨⟨⟨⟨k0, k0'⟩, k1⟩, k2⟩, k3⟩, k4⟩, k5⟩ := k
    have : o.py = q := of_decide_eq_true k0
    subst this
    have : p.py = r := of_decide_eq_true k0'
    subst this
    refine ⟨_, pe_chain (op_C (room_u C) o) (op_C (room_u C) p) (ha.b C k1) (hb.b C k2) (hc.b C k3) (marks_of k5 _), pt_chain (op_C (room_u C) o) (op_C (room_u C) p) (ha.b C k1) (hb.b C k2) (hc.b C k3) (marks_of k5 _), fun σ H Q ⟨H0, Wr, ρ, R, g⟩ => ?_⟩
    refine ⟨H0, Wr, ρ, R, g.bind.mono fun dx g vx H1 e1 rx => ⟨H0, Wr, ρ, R.ex e1, (g.ex e1).bind.mono fun dy g vy H2 e2 ry => ?_⟩⟩
    obtain ⟨d, ed, g⟩ := g.bind.o
    refine ⟨dx, dy, d, rx.mono e2, ry, ed, d, rfl, ?_⟩
    cases d with
    | false => exact g _ H2 (e1.trans e2) (.bl _)
    | true =>
      refine ⟨H0, Wr, ρ, (R.ex e1).ex e2, ((show Gd W σ H1 _ _ from g).ex e2).bind.mono fun dz g vz H3 e3 rz => ?_⟩
      obtain ⟨d, ed, g⟩ := g.bind.o
      exact ⟨dy, dz, d, ry.mono e3, rz, ed, g _ H3 ((e1.trans e2).trans e3) (.bl _)⟩
  · cases k
theorem s_ix {a b : E} (ha : SE L cf xa N a) (hb : SE L cf xa N b) : SE L cf xa N (.ix a b) := fun W X sc e C k => by
  unfold chkE at k
  split at k
  · rename_i x y pos
    simp only [Bool.and_eq_true] at k
    obtain ⟨⟨k1, k2⟩, k3⟩ := k
    refine pe_imp (pe_ix ix_X (ha.b C k1) (hb.b C k2) (slice_of k3)) fun σ H Q ⟨H0, Wr, ρ, R, g⟩ => ?_
    refine ⟨H0, Wr, ρ, R, g.bind.mono fun dx g vx H1 e1 rx => ⟨H0, Wr, ρ, R.ex e1, (g.ex e1).bind.mono fun dy g vy H2 e2 ry => ?_⟩⟩
    obtain ⟨d, ed, g⟩ := g.o
    exact ⟨dx, dy, d, rx.mono e2, ry, ed, fun v r => g v H2 (e1.trans e2) r⟩
  · cases k
omit [Wo] in
theorem nosl_of {e : Expr} (h : notSlice e = true) : NoSl e := fun o i => slice_of h o i
theorem s_dget (i : Nat) {k : E} (hk : SE L cf xa N k) : SE L cf xa N (.dget i k) := fun W X sc e C q => by
  unfold chkE at q
  split at q
  · rename_i x p y pos
    simp only [Bool.and_eq_true, decide_eq_true_eq] at q
    obtain ⟨⟨⟨k1, k2⟩, k3⟩, k4⟩ := q
    obtain ⟨v, o⟩ := vis_of k2 C.scp
    obtain ⟨d1, d2, _⟩ := nm1 o
    refine pe_imp (pe_dget (by have := room_u C; omega) (pe_var (by rw [C.nN]; exact k1) v d1 d2) (hk.b C k3) (nosl_of k4)) fun σ H Q ⟨H0, Wr, ρ, R, g⟩ => ?_
    obtain ⟨es, e, g⟩ := g.bind.o
    obtain ⟨a, kvs, hs, ha, dr, hz⟩ := R.dd e
    refine ⟨_, hs, H0, Wr, ρ, R, (show Gd W σ H _ _ from g).bind.mono fun dy g vy H2 e2 ry => ?_⟩
    obtain ⟨d, ed, g2⟩ := g.o
    clear g
    cases dy <;> simp only [dGet, reduceCtorEq] at ed
    rename_i s
    obtain ⟨rfl, hl⟩ := ry.str_inv
    have ha2 : Rd H2 a (.dK kvs) := ha.elim (fun h => .inl (e2 _ _ h)) fun ⟨o, h⟩ => .inr ⟨o, e2 _ _ h⟩
    rcases dr.val s with ⟨h1, _⟩ | ⟨d', w, h1, h2, h3⟩
    · rw [h1] at ed; cases ed
    · rw [h1] at ed; cases ed
      exact ⟨a, w, rfl, .inl ⟨kvs, .inr (T s), ha2, rfl, h2.symm⟩, g2 w H2 e2 (h3.mono (.of e2))⟩
  · cases q
theorem s_dlen (i : Nat) : SE L cf xa N (.dlen i) := fun W X sc e C q => by
  unfold chkE at q
  split at q
  · rename_i l lp x p pos
    simp only [Bool.and_eq_true, decide_eq_true_eq] at q
    obtain ⟨⟨⟨rfl, k1⟩, k2⟩, k3⟩ := q
    obtain ⟨gl, o2⟩ := glo_of k1 C.scp
    obtain ⟨v, o⟩ := vis_of k3 C.scp
    obtain ⟨d1, d2, _⟩ := nm1 o
    have cl : CallR X (.builtin "len") (fun xs H Q => ∃ (a : Addr) (kvs : List (L2.Key × V)), xs = [.ref a] ∧ Rd H a (.dK kvs) ∧ Q (.int kvs.length) H) := fun pins s σ H xs us Q I r ⟨a, kvs, hx, ha, q⟩ => by
      subst hx
      cases r with
      | cons rx rr =>
        cases rr
        cases rx
        exact d_len I ha fun t s' I' => ⟨.int kvs.length, H, I', ⟨t, rfl⟩, q⟩
    refine pe_imp (pe_callB cl gl (C.free _ (by decide)) boot_len (pa_cons (pe_var (by rw [C.nN]; exact k2) v d1 d2) pa_nil (star_of rfl _)) (nm1 o2).2.2 (nm1 o2).1 (star_of rfl _) (plain_star fun e he => by cases he)) fun σ H Q ⟨H0, Wr, ρ, R, g⟩ => ?_
    obtain ⟨es, e, g⟩ := g.bind.o
    obtain ⟨a, kvs, hs, ha, dr, hz⟩ := R.dd e
    refine ⟨_, hs, a, kvs, rfl, ha, ?_⟩
    rw [dr.length]
    exact g _ H (Ex.refl H) (.int _)
  · cases q
theorem s_nks (i : Nat) : SE L cf xa N (.nks i) := fun W X sc e C q => by
  unfold chkE at q
  rw [Bool.and_eq_true] at q
  obtain ⟨kc, q⟩ := q
  split at q
  · rename_i l lp x p pos
    simp only [Bool.and_eq_true, decide_eq_true_eq] at q
    obtain ⟨⟨⟨rfl, k1⟩, k2⟩, k3⟩ := q
    obtain ⟨gl, o2⟩ := glo_of k1 C.scp
    obtain ⟨v, o⟩ := vis_of k3 C.scp
    obtain ⟨d1, d2, _⟩ := nm1 o
    refine pe_imp (pe_callTy (call_list_nk (C.calm kc)) gl (C.free _ (by decide)) (by decide +kernel) (pa_cons (pe_var (by rw [C.nN]; exact k2) v d1 d2) pa_nil (star_of rfl _)) (nm1 o2).2.2 (nm1 o2).1 (star_of rfl _) (plain_star fun e he => by cases he)) fun σ H Q ⟨H0, Wr, ρ, R, g⟩ => ?_
    obtain ⟨ks, e, g⟩ := g.bind.o
    obtain ⟨a, xs, hs, ha, kr, h0, hz⟩ := R.nk e
    rw [C.cw] at ha
    refine ⟨_, hs, a, xs, rfl, ha, fun p hp => g _ _ (Ex.new hp) ⟨p, _, rfl, hp, upd_same, kr.reps.mono (.of (Ex.new hp)), ?_⟩⟩
    exact hz
  · cases q
theorem s_nsrt (i : Nat) : SE L cf xa N (.nsrt i) := fun W X sc e C q => by
  unfold chkE at q
  rw [Bool.and_eq_true] at q
  obtain ⟨kc, q⟩ := q
  split at q
  · rename_i l lp x p pos
    simp only [Bool.and_eq_true, decide_eq_true_eq] at q
    obtain ⟨⟨⟨rfl, k1⟩, k2⟩, k3⟩ := q
    obtain ⟨gl, o2⟩ := glo_of k1 C.scp
    obtain ⟨v, o⟩ := vis_of k3 C.scp
    obtain ⟨d1, d2, _⟩ := nm1 o
    refine pe_imp (pe_callB (call_sorted_nk (C.calm kc) (room_u C)) gl (C.free _ (by decide)) PyProof.Rows.boot_sorted (pa_cons (pe_var (by rw [C.nN]; exact k2) v d1 d2) pa_nil (star_of rfl _)) (nm1 o2).2.2 (nm1 o2).1 (star_of rfl _) (plain_star fun e he => by cases he)) fun σ H Q ⟨H0, Wr, ρ, R, g⟩ => ?_
    obtain ⟨ks, e, g⟩ := g.bind.o
    obtain ⟨a, xs, hs, ha, kr, h0, hz⟩ := R.nk e
    rw [C.cw] at ha
    obtain ⟨d, e2, g⟩ := g.o
    simp only [opF] at e2
    split at e2 <;> cases e2
    rename_i hok
    refine ⟨_, hs, a, xs, ks, rfl, ha, kr.reps, hok, fun p ws hp h2 hl => ?_⟩
    exact g _ _ (Ex.new hp) (frep_lst hp h2 (by rw [← h2.length]; exact hl))
  · cases q
theorem s_lix {a b : E} (ha : SE L cf xa N a) (hb : SE L cf xa N b) : SE L cf xa N (.lix a b) := fun W X sc e C k => by
  unfold chkE at k
  split at k
  · rename_i o n ap y p
    simp only [Bool.and_eq_true, decide_eq_true_eq] at k
    obtain ⟨⟨⟨⟨⟨rfl, k1⟩, k2⟩, k3⟩, k4⟩, ns⟩ := k
    have st := star_of (es := []) ns X.env
    refine pe_imp (pe_bm PySem.F.plainAttrs_list PySem.F.slot_list_index PySem.F.type_list_index (mt_lix_ (room_u C)) (ha.b C k3) (pa_cons (hb.b C k4) pa_nil st) (base_of k1 _ _) (by rw [st]; rfl) k2 st (plain_star fun e he => by cases he)) fun σ H Q ⟨H0, Wr, ρ, R, g⟩ => ?_
    refine ⟨H0, Wr, ρ, R, g.bind.mono fun dx g vx H1 e1 rx => ?_⟩
    obtain ⟨xs, er, g⟩ := g.bind.o
    cases dx <;> simp only [listOf, reduceCtorEq] at er
    obtain ⟨a', vs, rfl, h1, rr⟩ := rx.lst_inv
    refine ⟨.inl ⟨rfl, vs, .inl h1⟩, H0, Wr, ρ, R.ex e1, (g.ex e1).bind.mono fun dy g vy H2 e2 ry => ?_⟩
    obtain ⟨d, ed, g⟩ := g.o
    exact ⟨_, dy, d, vy, RepB.mono e2 rx, rfl, ry, ed, fun v H3 e3 f => g v H3 ((e1.trans e2).trans e3) f⟩
  · cases k
theorem m_isb (c n : Bool) {a : E} (ha : SE L cf xa N a) : SM L cf xa N (.isb c n a) := fun W X sc e C k => by
  unfold chkE at k
  split at k
  · rename_i x p c' j1 p1 p2
    simp only [Bool.and_eq_true, decide_eq_true_eq, beq_iff_eq] at k
    obtain ⟨⟨k0, rfl⟩, k1⟩ := k
    have op : OpR X (compareOp p) (fun x y H Q => ∃ a b : Bool, x = .bl a ∧ y = .bl b ∧ Q (.bl (if n then !decide (a = b) else decide (a = b))) H) := by
      subst k0
      cases n with
      | true => exact op_notBl
      | false => exact op_isBl
    have mk : behindInMarks p (.Constant (.bool c') j1 p1) = false := by subst k0; cases n <;> rfl
    refine ⟨_, pe_cmpR op (ha.b C k1) pe_bl mk, pt_cmpR op (ha.b C k1) pe_bl mk, fun σ H Q ⟨H0, Wr, ρ, R, g⟩ => ?_⟩
    refine ⟨H0, Wr, ρ, R, g.bind.mono fun dx g vx H1 e1 rx => ?_⟩
    obtain ⟨b, eb, g⟩ := g.bind.o
    cases dx <;> simp only [opIsb, reduceCtorEq] at eb
    cases eb
    exact ⟨_, _, rx.bl_inv, rfl, g _ H1 e1 (.bl _)⟩
  · cases k
theorem m_din (i : Nat) {k : E} (hk : SE L cf xa N k) : SM L cf xa N (.din i k) := fun W X sc e C q => by
  unfold chkE at q
  split at q
  · rename_i y x p pos
    simp only [Bool.and_eq_true, decide_eq_true_eq] at q
    obtain ⟨⟨k1, k2⟩, k3⟩ := q
    obtain ⟨v, o⟩ := vis_of k3 C.scp
    obtain ⟨d1, d2, _⟩ := nm1 o
    have pc := pc_din (X := X) (by have := room_u C; omega) (hk.b C k1) (pe_var (pos := p) (by rw [C.nN]; exact k2) v d1 d2)
    refine ⟨_, pe_cmp pc, pt_cmp pc, fun σ H Q ⟨H0, Wr, ρ, R, g⟩ => ?_⟩
    refine ⟨H0, Wr, ρ, R, g.bind.mono fun dy g vy H1 e1 ry => ?_⟩
    obtain ⟨es, e, g⟩ := g.bind.o
    obtain ⟨a, kvs, hs, ha, dr, hz⟩ := R.dd e
    obtain ⟨d, ed, g2⟩ := Gd.o g
    clear g
    cases dy <;> simp only [dHas, reduceCtorEq] at ed
    cases ed
    rename_i s
    obtain ⟨rfl, hl⟩ := ry.str_inv
    have ha2 : Rd H1 a (.dK kvs) := ha.elim (fun h => .inl (e1 _ _ h)) fun ⟨o, h⟩ => .inr ⟨o, e1 _ _ h⟩
    refine ⟨_, hs, a, L2.valV kvs (.inr (T s)), rfl, .inl ⟨kvs, .inr (T s), ha2, rfl, rfl⟩, ?_⟩
    have : (L2.valV kvs (.inr (T s))).isSome = (dFind es s).isSome := by
      rcases dr.val s with ⟨h1, h2⟩ | ⟨d', w, h1, h2, h3⟩ <;> rw [h1, h2] <;> rfl
    rw [this]
    exact g2 _ H1 e1 (.bl _)
  · cases q
omit [Wo] in
/-- a dict may be locked -/
theorem pe_lkD {X : Cx} {e : Expr} {t : TE} (h : PE X e t) : PE X e (fun σ H Q => t σ H fun v H' => ∃ a kvs, v = .ref a ∧ H' a = some (.dK kvs) ∧ ∀ o, Q v (upd H' a (.frz o (.dK kvs)))) := by
  refine ⟨fun pins s σ H Q I hw => thn (h.run pins s σ H _ I hw) fun u s1 ⟨v, H1, I1, r, a, kvs, e, ha, q⟩ => ?_⟩
  subst e
  obtain ⟨od, I2⟩ := I1.lock ha trivial
  exact ⟨_, _, I2, r, q od⟩
/-- a dict as an argument -/
theorem pe_dar {c : E} {e : Expr} (C : CtxOk L cf xa N W X sc) (k : chkD N c sc e = true) : PE X e (fun σ H Q => ∃ H0 Wr ρ, REnv X.K H0 Wr H σ ρ ∧ Gd W σ H (evE cf L.gl c ρ) fun d => ∀ v H', Ex H H' → DShR X.K H' v d → Q v H') := by
  unfold chkD at k
  split at k
  · rename_i i x p
    rw [Bool.and_eq_true, decide_eq_true_eq] at k
    obtain ⟨v, o⟩ := vis_of k.2 C.scp
    obtain ⟨d1, d2, _⟩ := nm1 o
    refine pe_imp (pe_var (by rw [C.nN]; exact k.1) v d1 d2) fun σ H Q ⟨H0, Wr, ρ, R, g⟩ => ?_
    obtain ⟨es, e, g⟩ := g.bind.o
    obtain ⟨a, o, kvs, hs, ha, dr, hz⟩ := R.dsh e
    exact ⟨_, hs, g _ H (Ex.refl H) ⟨a, o, kvs, es, rfl, rfl, ha, dr, hz⟩⟩
  · refine pe_imp (pe_lkD pe_dnewK) fun σ H Q ⟨H0, Wr, ρ, R, g⟩ => fun p hp => ?_
    have g : ∀ v H', Ex H H' → DShR X.K H' v (.lst []) → Q v H' := g
    exact ⟨p, [], rfl, upd_same, fun o => g _ _ (fun b u hb => by rw [upd_ne (ne_of_none hb hp), upd_ne (ne_of_none hb hp)]; exact hb) ⟨p, o, [], [], rfl, rfl, upd_same, .nil, Nat.zero_le _⟩⟩
  · cases k
end
end Ev

/-! Tests; and, or, not; calls; comprehensions. -/
namespace Ev
open PySem PySem.Spec
open PyProof.Rows hiding St
open L2
open Evl (Ex)
variable [Wo]
section
variable {L : Lw} {cf : Nat → List D → Res D} {xa : Nat → Addr} {N : List Str} {W : WN} {X : Cx} {sc : Scope}
def isBo : E → Bool | .and _ _ => true | .or _ _ => true | _ => false
/-- as a test -/
abbrev evT (cf : Nat → List D → Res D) (L : Lw) (c : E) (ρ : Env) : Res Bool := (evE cf L.gl c ρ) >>= fun x => ofO (truth x)
abbrev ST (L : Lw) (cf : Nat → List D → Res D) (xa : Nat → Addr) (N : List Str) (c : E) : Prop := ∀ (W : WN) (X : Cx) (sc : Scope) (e : Expr), CtxOk L cf xa N W X sc → chkE L N c sc e = true → chkT e = true → PT X e (rdT X.K W (evT cf L c))
abbrev SW (L : Lw) (cf : Nat → List D → Res D) (xa : Nat → Addr) (N : List Str) (c : E) : Prop := ∀ (W : WN) (X : Cx) (sc : Scope) (e : Expr), CtxOk L cf xa N W X sc → chkE L N c sc e = true → isBo c = true → PW X e (rdT X.K W (evT cf L c))
structure SX (L : Lw) (cf : Nat → List D → Res D) (xa : Nat → Addr) (N : List Str) (c : E) : Prop where
  e : SE L cf xa N c
  t : ST L cf xa N c
  w : SW L cf xa N c
omit [Wo] in
theorem truth_o {d : D} {k : Bool} (h : truth d = some k) : d = .bl k := by
  cases d <;> simp only [truth, reduceCtorEq] at h
  cases h; rfl
/-- a test whose value is a bool -/
theorem t_plain {c : E} (h : SE L cf xa N c) {e : Expr} (C : CtxOk L cf xa N W X sc) (k : chkE L N c sc e = true) (p : plainT e = true) : PT X e (rdT X.K W (evT cf L c)) := by
  refine pt_imp (pt_val (h.b C k) fun wh => isTrue_of p _ wh) fun σ H Q ⟨H0, Wr, ρ, R, g⟩ => ?_
  refine ⟨H0, Wr, ρ, R, g.bind.mono fun d g v H1 e1 r => ?_⟩
  obtain ⟨b, eb, g⟩ := g.o
  obtain rfl := truth_o eb
  exact ⟨b, r.bl_inv, g H1 e1⟩
def plainC : E → Bool
  | .not _ | .and _ _ | .or _ _ | .cmp _ _ _ | .chain _ _ _ _ _ | .isN _ | .notN _ | .ife _ _ _ | .din _ _ | .isb _ _ _ => false
  | _ => true
omit [Wo] in
theorem plain_of {c : E} {e : Expr} (h : plainC c = true) (k : chkE L N c sc e = true) : plainT e = true := by
  cases c <;> first | (simp [plainC] at h; done) | (unfold chkE at k; cases k; done) | (unfold chkE at k; split at k <;> first | rfl | (exact absurd k (by decide)) | (split at k <;> rfl)) | (unfold chkE at k; rw [Bool.and_eq_true] at k; have k := k.2; split at k <;> first | rfl | (exact absurd k (by decide)) | (split at k <;> rfl))
theorem x_plain {c : E} (h : SE L cf xa N c) (hp : plainC c = true) : SX L cf xa N c :=
  ⟨h, fun W X sc e C k _ => t_plain h C k (plain_of hp k), fun W X sc e C k m => by cases c <;> first | (simp [isBo] at m; done) | (simp [plainC] at hp)⟩
/-- what is sound by one reading -/
theorem x_one {c : E} (h : SM L cf xa N c) (hk : kd L c = .V) (hm : isBo c = false) : SX L cf xa N c := by
  refine ⟨fun W X sc e C k => ?_, fun W X sc e C k _ => ?_, fun _ _ _ _ _ _ m => by rw [hm] at m; cases m⟩
  · obtain ⟨t, h1, h2, h3⟩ := h W X sc e C k
    rw [hk]
    exact pe_imp h1 h3
  · obtain ⟨t, h1, h2, h3⟩ := h W X sc e C k
    refine pt_imp h2 fun σ H Q ⟨H0, Wr, ρ, R, g⟩ => h3 σ H _ ⟨H0, Wr, ρ, R, g.bind.mono fun d g v H1 e1 r => ?_⟩
    obtain ⟨b, eb, g⟩ := g.o
    obtain rfl := truth_o eb
    exact ⟨b, Rep.bl_inv r, g H1 e1⟩
theorem x_not {a : E} (ha : SX L cf xa N a) : SX L cf xa N (.not a) := by
  refine ⟨fun W X sc e C k => ?_, fun W X sc e C k _ => ?_, fun _ _ _ _ _ _ m => by cases m⟩
  · unfold chkE at k
    split at k
    · rw [Bool.and_eq_true] at k
      refine pe_imp (pe_not (ha.e.b C k.1)) fun σ H Q ⟨H0, Wr, ρ, R, g⟩ => ?_
      refine ⟨H0, Wr, ρ, R, g.bind.mono fun d g v H1 e1 r => ?_⟩
      obtain ⟨b, eb, g⟩ := g.bind.o
      obtain rfl := truth_o eb
      exact ⟨b, r.bl_inv, g _ H1 e1 (.bl _)⟩
    · cases k
  · unfold chkE at k
    split at k
    · rw [Bool.and_eq_true] at k
      refine pt_imp (pt_not (ha.t W X sc _ C k.1 k.2)) fun σ H Q ⟨H0, Wr, ρ, R, g⟩ => ?_
      refine ⟨H0, Wr, ρ, R, ?_⟩
      have g : Gd W σ H ((evE cf L.gl a ρ >>= fun x => ofO (truth x) >>= fun k => Res.ok (D.bl !k)) >>= fun x => ofO (truth x)) fun b => ∀ H', Ex H H' → Q b H' := g
      show Gd W σ H (evE cf L.gl a ρ >>= fun x => ofO (truth x)) fun b => ∀ H', Ex H H' → Q (!b) H'
      cases q : evE cf L.gl a ρ with
      | ok d =>
        rw [q] at g
        cases q2 : truth d with
        | none => simp only [res_bind_ok, q2, ofO_none, res_bind_fail] at g; exact (show False from g).elim
        | some b =>
          simp only [res_bind_ok, q2] at g ⊢
          exact g
      | exc c => rw [q] at g; exact g
      | fail => rw [q] at g; exact g
    · cases k
theorem x_and {a b : E} (ha : SX L cf xa N a) (hb : SX L cf xa N b) : SX L cf xa N (.and a b) := by
  have wt : SW L cf xa N (.and a b) := fun W X sc e C k _ => by
    unfold chkE at k
    split at k
    · rename_i x y r pos
      simp only [Bool.and_eq_true] at k
      obtain ⟨⟨k1, k2⟩, k3⟩ := k
      have hr : PW X (.BoolOp .And (y :: r) pos) (rdT X.K W (evT cf L b)) := by
        split at k3
        · rw [Bool.and_eq_true] at k3
          exact pw_and1 (hb.t W X sc _ C k3.1 k3.2)
        · rw [Bool.and_eq_true] at k3
          refine hb.w W X sc _ C k3.2 ?_
          have := k3.1
          split at this
          · rfl
          · cases this
      refine pw_imp (pw_and (ha.t W X sc _ C k1 k2) hr) fun σ H Q ⟨H0, Wr, ρ, R, g⟩ => ?_
      refine ⟨H0, Wr, ρ, R, ?_⟩
      have g : Gd W σ H ((evE cf L.gl a ρ >>= fun x => ofO (truth x) >>= fun k => if k then (evE cf L.gl b ρ) >>= fun y => (ofO (truth y)) >>= fun k => .ok (.bl k) else .ok (.bl false)) >>= fun x => ofO (truth x)) fun b => ∀ H', Ex H H' → Q b H' := g
      show Gd W σ H (evE cf L.gl a ρ >>= fun x => ofO (truth x)) fun k => ∀ H', Ex H H' → if k = true then rdT X.K W (evT cf L b) σ H' Q else Q false H'
      cases q : evE cf L.gl a ρ with
      | ok d =>
        rw [q] at g
        cases q2 : truth d with
        | none => simp only [res_bind_ok, q2, ofO_none, res_bind_fail] at g; exact (show False from g).elim
        | some k =>
          simp only [res_bind_ok, q2] at g ⊢
          cases k with
          | false => exact fun H' e => g H' e
          | true =>
            intro H' e
            refine ⟨H0, Wr, ρ, R.ex e, ?_⟩
            have g : Gd W σ H ((evE cf L.gl b ρ >>= fun y => ofO (truth y) >>= fun k => Res.ok (D.bl k)) >>= fun x => ofO (truth x)) fun b => ∀ H', Ex H H' → Q b H' := g
            show Gd W σ H' (evE cf L.gl b ρ >>= fun x => ofO (truth x)) fun b => ∀ H2, Ex H' H2 → Q b H2
            cases q3 : evE cf L.gl b ρ with
            | ok d2 =>
              rw [q3] at g
              cases q4 : truth d2 with
              | none => simp only [res_bind_ok, q4, ofO_none, res_bind_fail] at g; exact (show False from g).elim
              | some k =>
                simp only [res_bind_ok, q4] at g ⊢
                exact fun H2 e2 => g H2 (e.trans e2)
            | exc c => rw [q3] at g; exact fun H2 e2 => g H2 (e.trans e2)
            | fail => rw [q3] at g; exact g
      | exc c => rw [q] at g; exact g
      | fail => rw [q] at g; exact g
    · cases k
  refine ⟨fun W X sc e C k => ?_, fun W X sc e C k _ => (wt W X sc e C k rfl).pt, wt⟩
  unfold chkE at k
  split at k
  · rename_i x y r pos
    simp only [Bool.and_eq_true] at k
    obtain ⟨⟨k1, k2⟩, k3⟩ := k
    have hr : PE X (.BoolOp .And (y :: r) pos) (rd .B X.K W (evE cf L.gl b)) := by
      split at k3
      · rw [Bool.and_eq_true] at k3
        exact pe_one (hb.e.b C k3.1)
      · rw [Bool.and_eq_true] at k3
        exact hb.e.b C k3.2
    refine pe_imp (pe_and (ha.e.b C k1) hr) fun σ H Q ⟨H0, Wr, ρ, R, g⟩ => ?_
    refine ⟨H0, Wr, ρ, R, g.bind.mono fun d g v H1 e1 r => ?_⟩
    obtain ⟨k, ek, g2⟩ := g.bind.o
    obtain rfl := truth_o ek
    refine ⟨k, r.bl_inv, ?_⟩
    cases k with
    | false => exact g2 _ H1 e1 (.bl _)
    | true =>
      refine ⟨H0, Wr, ρ, R.ex e1, ((show Gd W σ H _ _ from g2).ex e1).bind.mono fun d2 g v2 H2 e2 r2 => ?_⟩
      obtain ⟨k, ek, g3⟩ := g.bind.o
      obtain rfl := truth_o ek
      rw [r2.bl_inv]
      exact g3 _ H2 (e1.trans e2) (.bl _)
  · cases k
theorem x_or {a b : E} (ha : SX L cf xa N a) (hb : SX L cf xa N b) : SX L cf xa N (.or a b) := by
  have wt : SW L cf xa N (.or a b) := fun W X sc e C k _ => by
    unfold chkE at k
    split at k
    · rename_i x y r pos
      simp only [Bool.and_eq_true] at k
      obtain ⟨⟨k1, k2⟩, k3⟩ := k
      have hr : PW X (.BoolOp .Or (y :: r) pos) (rdT X.K W (evT cf L b)) := by
        split at k3
        · rw [Bool.and_eq_true] at k3
          exact pw_or1 (hb.t W X sc _ C k3.1 k3.2)
        · rw [Bool.and_eq_true] at k3
          refine hb.w W X sc _ C k3.2 ?_
          have := k3.1
          split at this
          · rfl
          · cases this
      refine pw_imp (pw_or (ha.t W X sc _ C k1 k2) hr) fun σ H Q ⟨H0, Wr, ρ, R, g⟩ => ?_
      refine ⟨H0, Wr, ρ, R, ?_⟩
      have g : Gd W σ H ((evE cf L.gl a ρ >>= fun x => ofO (truth x) >>= fun k => if k then .ok (.bl true) else (evE cf L.gl b ρ) >>= fun y => (ofO (truth y)) >>= fun k => .ok (.bl k)) >>= fun x => ofO (truth x)) fun b => ∀ H', Ex H H' → Q b H' := g
      show Gd W σ H (evE cf L.gl a ρ >>= fun x => ofO (truth x)) fun k => ∀ H', Ex H H' → if k = true then Q true H' else rdT X.K W (evT cf L b) σ H' Q
      cases q : evE cf L.gl a ρ with
      | ok d =>
        rw [q] at g
        cases q2 : truth d with
        | none => simp only [res_bind_ok, q2, ofO_none, res_bind_fail] at g; exact (show False from g).elim
        | some k =>
          simp only [res_bind_ok, q2] at g ⊢
          cases k with
          | true => exact fun H' e => g H' e
          | false =>
            intro H' e
            refine ⟨H0, Wr, ρ, R.ex e, ?_⟩
            have g : Gd W σ H ((evE cf L.gl b ρ >>= fun y => ofO (truth y) >>= fun k => Res.ok (D.bl k)) >>= fun x => ofO (truth x)) fun b => ∀ H', Ex H H' → Q b H' := g
            show Gd W σ H' (evE cf L.gl b ρ >>= fun x => ofO (truth x)) fun b => ∀ H2, Ex H' H2 → Q b H2
            cases q3 : evE cf L.gl b ρ with
            | ok d2 =>
              rw [q3] at g
              cases q4 : truth d2 with
              | none => simp only [res_bind_ok, q4, ofO_none, res_bind_fail] at g; exact (show False from g).elim
              | some k =>
                simp only [res_bind_ok, q4] at g ⊢
                exact fun H2 e2 => g H2 (e.trans e2)
            | exc c => rw [q3] at g; exact fun H2 e2 => g H2 (e.trans e2)
            | fail => rw [q3] at g; exact g
      | exc c => rw [q] at g; exact g
      | fail => rw [q] at g; exact g
    · cases k
  refine ⟨fun W X sc e C k => ?_, fun W X sc e C k _ => (wt W X sc e C k rfl).pt, wt⟩
  unfold chkE at k
  split at k
  · rename_i x y r pos
    simp only [Bool.and_eq_true] at k
    obtain ⟨⟨k1, k2⟩, k3⟩ := k
    have hr : PE X (.BoolOp .Or (y :: r) pos) (rd .B X.K W (evE cf L.gl b)) := by
      split at k3
      · rw [Bool.and_eq_true] at k3
        exact pe_one (hb.e.b C k3.1)
      · rw [Bool.and_eq_true] at k3
        exact hb.e.b C k3.2
    refine pe_imp (pe_or (ha.e.b C k1) hr) fun σ H Q ⟨H0, Wr, ρ, R, g⟩ => ?_
    refine ⟨H0, Wr, ρ, R, g.bind.mono fun d g v H1 e1 r => ?_⟩
    obtain ⟨k, ek, g2⟩ := g.bind.o
    obtain rfl := truth_o ek
    refine ⟨k, r.bl_inv, ?_⟩
    cases k with
    | true => exact g2 _ H1 e1 (.bl _)
    | false =>
      refine ⟨H0, Wr, ρ, R.ex e1, ((show Gd W σ H _ _ from g2).ex e1).bind.mono fun d2 g v2 H2 e2 r2 => ?_⟩
      obtain ⟨k, ek, g3⟩ := g.bind.o
      obtain rfl := truth_o ek
      rw [r2.bl_inv]
      exact g3 _ H2 (e1.trans e2) (.bl _)
  · cases k
theorem x_ife {c a b : E} (hc : SX L cf xa N c) (ha : SX L cf xa N a) (hb : SX L cf xa N b) : SX L cf xa N (.ife c a b) := by
  refine ⟨fun W X sc e C k => ?_, fun W X sc e C k t => ?_, fun _ _ _ _ _ _ m => by cases m⟩
  · unfold chkE at k
    split at k
    · simp only [Bool.and_eq_true] at k
      obtain ⟨⟨⟨⟨⟨k1, k2⟩, k3⟩, k4⟩, k5⟩, k6⟩ := k
      refine pe_imp (pe_ifExp (hc.t W X sc _ C k1 k2) (ha.e.v k5 C k3) (hb.e.v k6 C k4)) fun σ H Q ⟨H0, Wr, ρ, R, g⟩ => ?_
      refine ⟨H0, Wr, ρ, R, ?_⟩
      have g : Gd W σ H (evE cf L.gl c ρ >>= fun x => ofO (truth x) >>= fun k => if k then evE cf L.gl a ρ else evE cf L.gl b ρ) fun d => ∀ v H', Ex H H' → Rep X.K H' v d → Q v H' := g
      show Gd W σ H (evE cf L.gl c ρ >>= fun x => ofO (truth x)) fun k => ∀ H', Ex H H' → if k = true then rd .V X.K W (evE cf L.gl a) σ H' Q else rd .V X.K W (evE cf L.gl b) σ H' Q
      cases q : evE cf L.gl c ρ with
      | ok d =>
        rw [q] at g
        cases q2 : truth d with
        | none => simp only [res_bind_ok, q2, ofO_none, res_bind_fail] at g; exact (show False from g).elim
        | some k =>
          simp only [res_bind_ok, q2] at g ⊢
          cases k with
          | true => exact fun H' e => ⟨H0, Wr, ρ, R.ex e, ((show Gd W σ H _ _ from g).ex e).mono fun d g v H2 e2 r => g v H2 (e.trans e2) r⟩
          | false => exact fun H' e => ⟨H0, Wr, ρ, R.ex e, ((show Gd W σ H _ _ from g).ex e).mono fun d g v H2 e2 r => g v H2 (e.trans e2) r⟩
      | exc c => rw [q] at g; exact g
      | fail => rw [q] at g; exact g
    · cases k
  · unfold chkE at k
    split at k
    · simp [chkT] at t
    · cases k
end
end Ev

/-! Argument lists, displays, calls, walks, comprehensions. -/
namespace Ev
open PySem PySem.Spec
open PyProof.Rows hiding St
open L2
open Evl (Ex)
variable [Wo]
section
variable {L : Lw} {cf : Nat → List D → Res D} {xa : Nat → Addr} {N : List Str} {W : WN} {X : Cx} {sc : Scope}
abbrev rdAs (K : PySem.W.Frag) (W : WN) (bs : List Pk) (r : Env → Res (List D)) : TA := rdA K W r fun vs H ds => ArgsR K H bs vs ds
abbrev SEs (L : Lw) (cf : Nat → List D → Res D) (xa : Nat → Addr) (N : List Str) (es : Es) : Prop := ∀ (W : WN) (X : Cx) (sc : Scope) (bs : List Pk) (xs : List Expr), CtxOk L cf xa N W X sc → chkEs L N es bs sc xs = true →
  PA X xs (rdAs X.K W bs (evEs cf L.gl es)) ∧ ∀ x ∈ xs, notStar x = true
theorem es_nil : SEs L cf xa N .nil := fun W X sc bs xs C k => by
  unfold chkEs at k
  simp only [Bool.and_eq_true, List.isEmpty_iff] at k
  obtain ⟨rfl, rfl⟩ := k
  exact ⟨pa_imp pa_nil fun σ H Q ⟨H0, Wr, ρ, R, g⟩ => g [] H (Ex.refl H) .nil, fun _ h => by cases h⟩
theorem es_cons {e : E} {es : Es} (he : SX L cf xa N e) (hs : SEs L cf xa N es) : SEs L cf xa N (.cons e es) := fun W X sc bs xs C k => by
  unfold chkEs at k
  split at k
  · rename_i b bs x xs
    simp only [Bool.and_eq_true] at k
    obtain ⟨⟨k1, k2⟩, k4⟩ := k
    obtain ⟨hp, hn⟩ := hs W X sc bs xs C k4
    refine ⟨?_, fun y hy => ?_⟩
    · cases b with
      | b =>
        refine pa_imp (pa_cons (he.e.b C k1) hp (star_of k2 _)) fun σ H Q ⟨H0, Wr, ρ, R, g⟩ => ?_
        refine ⟨H0, Wr, ρ, R, g.bind.mono fun d g v H1 e1 r => ⟨H0, Wr, ρ, R.ex e1, (g.ex e1).bind.mono fun ds g vs H2 e2 rs => ?_⟩⟩
        exact g _ H2 (e1.trans e2) (.cons (show RepB _ _ _ _ from RepB.mono e2 r) rs)
      | s =>
        have k1 : (chkE L N e sc x && isV L e) = true := k1
        rw [Bool.and_eq_true] at k1
        refine pa_imp (pa_cons (he.e.v k1.2 C k1.1) hp (star_of k2 _)) fun σ H Q ⟨H0, Wr, ρ, R, g⟩ => ?_
        refine ⟨H0, Wr, ρ, R, g.bind.mono fun d g v H1 e1 r => ⟨H0, Wr, ρ, R.ex e1, (g.ex e1).bind.mono fun ds g vs H2 e2 rs => ?_⟩⟩
        exact g _ H2 (e1.trans e2) (.cons (show Rep _ _ _ _ from Rep.mono (.of e2) r) rs)
      | d =>
        have k1 : chkD N e sc x = true := k1
        refine pa_imp (pa_cons (pe_dar C k1) hp (star_of k2 _)) fun σ H Q ⟨H0, Wr, ρ, R, g⟩ => ?_
        refine ⟨H0, Wr, ρ, R, g.bind.mono fun d g v H1 e1 r => ⟨H0, Wr, ρ, R.ex e1, (g.ex e1).bind.mono fun ds g vs H2 e2 rs => ?_⟩⟩
        exact g _ H2 (e1.trans e2) (.cons (show DShR _ _ _ _ from DShR.mono (.of e2) r) rs)
    · rcases List.mem_cons.mp hy with rfl | hy
      · exact k2
      · exact hn y hy
  · cases k
theorem s_tup {es : Es} (hs : SEs L cf xa N es) : SE L cf xa N (.tup es) := fun W X sc e C k => by
  unfold chkE at k
  split at k
  · rename_i xs _ _
    rw [Bool.and_eq_true, decide_eq_true_eq] at k
    obtain ⟨hp, _⟩ := hs W X sc _ xs C k.1
    refine pe_imp (pe_tup hp) fun σ H Q ⟨H0, Wr, ρ, R, g⟩ => ?_
    refine ⟨H0, Wr, ρ, R, g.bind.mono fun ds g vs H1 e1 rs => ?_⟩
    have hl := rs.len.1
    rw [List.length_map] at hl
    exact ⟨by rw [hl]; exact k.2, fun p hp => g _ _ (e1.trans (Ex.new hp)) (rep_tup hp rs.reps (by have := rs.len.2; rw [List.length_map] at this; rw [this]; exact k.2))⟩
  · cases k
theorem s_lst {es : Es} (hs : SEs L cf xa N es) : SE L cf xa N (.lst es) := fun W X sc e C k => by
  unfold chkE at k
  split at k
  · rename_i xs _
    rw [Bool.and_eq_true, decide_eq_true_eq] at k
    obtain ⟨hp, _⟩ := hs W X sc _ xs C k.1
    refine pe_imp (pe_lst hp) fun σ H Q ⟨H0, Wr, ρ, R, g⟩ => ?_
    refine ⟨H0, Wr, ρ, R, g.bind.mono fun ds g vs H1 e1 rs => ?_⟩
    have hl := rs.len.1
    rw [List.length_map] at hl
    exact ⟨by rw [hl]; exact k.2, fun p hp => g _ _ (e1.trans (Ex.new hp)) (FRep.back e1 (frep_lst hp rs.reps (by have := rs.len.2; rw [List.length_map] at this; rw [this]; exact k.2)))⟩
  · cases k
theorem s_call (f : Nat) {es : Es} (hs : SEs L cf xa N es) : SE L cf xa N (.call f es) := fun W X sc e C k => by
  unfold chkE at k
  split at k
  · rename_i x p y ys pos
    simp only [Bool.and_eq_true, decide_eq_true_eq] at k
    obtain ⟨⟨rfl, k1⟩, k2⟩ := k
    split at k2
    · rename_i fd hf
      obtain ⟨gl, o⟩ := glo_of k1 C.scp
      rw [Bool.and_eq_true] at k2
      obtain ⟨hp, hn⟩ := hs W X sc _ _ C k2.1
      obtain ⟨fa, fdt, ps, kk, h1, h2, h3, h4⟩ := C.fns f fd hf
      refine pe_imp (pe_callF C h4 gl h1 h2 h3 hp (nm1 o).1 (star_of (hn y (List.mem_cons_self ..)) _) (plain_star fun e he => hn e (List.mem_cons_of_mem _ he))) fun σ H Q ⟨H0, Wr, ρ, R, g⟩ => ?_
      refine ⟨H0, Wr, ρ, R, g.bind.mono fun ds g vs H1 e1 rs => ⟨ds, [], rs, by cases z : fd.own <;> first | exact rfl | (rw [z] at k2; cases k2.2), ?_⟩⟩
      have hk : kd L (.call f es) = oKd fd.own := by simp only [kd, hf, oKd]
      rw [hk] at g
      cases q : cf f ds with
      | ok d =>
        rw [q] at g
        refine fun v H' e2 r => g v H' (e1.trans e2.nil) ?_
        cases z : fd.own with
        | no => rw [z] at r; exact r
        | own => rw [z] at r; exact FRep.back e1 r
        | prt => rw [z] at k2; cases k2.2
        | chg l => rw [z] at k2; cases k2.2
      | exc c =>
        rw [q] at g
        exact fun H' e2 => ⟨c, rfl, rfl, g H' (e1.trans e2)⟩
      | fail =>
        rw [q] at g
        exact g
    · cases k2
  · cases k
/-- a built-in of one's own name -/
theorem s_bf (b : Bf) {es : Es} (hs : SEs L cf xa N es) (h1 : ∀ a, es = .cons a .nil → SX L cf xa N a) : SE L cf xa N (.bf b es) := fun W X sc e C k => by
  unfold chkE at k
  rw [Bool.and_eq_true] at k
  obtain ⟨kq0, k⟩ := k
  rw [Bool.and_eq_true] at kq0
  obtain ⟨kq, kg⟩ := kq0
  split at k
  · rename_i x p y ys pos
    split at k
    · rename_i ht
      simp only [Bool.and_eq_true, decide_eq_true_eq] at k
      obtain ⟨⟨rfl, k1⟩, k2⟩ := k
      split at k2
      · rename_i a t pt
        simp only [Bool.and_eq_true, decide_eq_true_eq] at k2
        obtain ⟨⟨⟨k3, k4⟩, k5⟩, k6⟩ := k2
        obtain ⟨gl, o⟩ := glo_of k1 C.scp
        obtain ⟨gt, ot⟩ := glo_of k5 C.scp
        have ha := h1 a rfl
        have main : ∀ n : String, b.py = (Str.ofString n, .type n) → bootBuiltins (Str.ofString n) = some (.type n) → (Str.ofString n) ∈ bnames → ((b = .isInt ∧ n = "int") ∨ (b = .isBool ∧ n = "bool") ∨ (b = .isStr ∧ n = "str") ∨ (b = .isTuple ∧ n = "tuple")) →
            PE X (.Call (.Name "isinstance" p) [y, .Name t pt] [] pos) (rd (kd L (.bf b (.cons a .nil))) X.K W (evE cf L.gl (.bf b (.cons a .nil)))) := fun n e1 e2 e3 e4 => by
          have et : t = Str.ofString n := by rw [k4, e1]
          subst et
          have pt' : PE X (.Name (Str.ofString n) pt) (tC (.ty n)) := pe_bltn gt (C.free _ e3) e2 rfl (nm1 ot).2.2 (nm1 ot).1
          refine pe_imp (pe_callB (call_is e4) gl (C.free _ (by decide)) boot_isinstance (pa_cons (ha.e.b C k3) (pa_cons pt' pa_nil (star_of rfl _)) (star_of k6 _)) (nm1 o).2.2 (nm1 o).1 (star_of k6 _) (plain_star fun e he => by
            rcases List.mem_cons.mp he with rfl | he
            · rfl
            · cases he)) fun σ H Q ⟨H0, Wr, ρ, R, g⟩ => ?_
          have g : Gd W σ H (((evE cf L.gl a ρ) >>= fun x => .ok [x]) >>= fun l => ofO (opF b l)) _ := g
          refine ⟨H0, Wr, ρ, R, g.bind.bind.mono fun d g v H1 e1 r => ?_⟩
          obtain ⟨d', ed, g⟩ := g.o
          obtain ⟨k', rfl⟩ : ∃ k', d' = .bl k' := by
            rcases e4 with ⟨rfl, _⟩ | ⟨rfl, _⟩ | ⟨rfl, _⟩ | ⟨rfl, _⟩ <;> simp only [opF] at ed <;> (cases z : kindOf d <;> rw [z] at ed <;> cases ed <;> exact ⟨_, rfl⟩)
          exact ⟨v, d, k', rfl, r, ed, g _ H1 e1 (.bl _)⟩
        cases b <;> simp only [isTy, Bool.false_eq_true] at ht
        · exact main "int" rfl boot_int (by decide) (.inl ⟨rfl, rfl⟩)
        · exact main "bool" rfl (by decide +kernel) (by decide) (.inr (.inl ⟨rfl, rfl⟩))
        · exact main "str" rfl boot_str (by decide) (.inr (.inr (.inl ⟨rfl, rfl⟩)))
        · exact main "tuple" rfl boot_tuple (by decide) (.inr (.inr (.inr ⟨rfl, rfl⟩)))
      · cases k2
    · rename_i ht
      split at k
      · rename_i hb
        subst hb
        simp only [Bool.and_eq_true, decide_eq_true_eq] at k
        obtain ⟨⟨rfl, k1⟩, k2⟩ := k
        split at k2
        · rename_i a t pt z q0
          simp only [Bool.and_eq_true, decide_eq_true_eq] at k2
          obtain ⟨⟨⟨k3, rfl⟩, k5⟩, k6⟩ := k2
          obtain ⟨gl, o⟩ := glo_of k1 C.scp
          obtain ⟨gt, ot⟩ := glo_of k5 C.scp
          have ha := h1 a rfl
          refine pe_imp (pe_sortedSet (C.calm (by simpa [quietF] using kq)) (room_u C) gl (C.free _ (by decide)) gt (C.free _ (by decide)) (ha.e.b C k3) (star_of k6 _)) fun σ H Q ⟨H0, Wr, ρ, R, g⟩ => ?_
          have g : Gd W σ H (((evE cf L.gl a ρ) >>= fun x => .ok [x]) >>= fun l => ofO (opF .sortedSet l)) _ := g
          refine ⟨H0, Wr, ρ, R, g.bind.bind.mono fun d g v H1 e1 r => ?_⟩
          obtain ⟨d2, ed, g⟩ := (show Gd W σ H (ofO (opF .sortedSet [d])) _ from g).o
          exact sortedSet_ok e1 r ed g
        · cases k2
      · rename_i hb
        simp only [Bool.and_eq_true, decide_eq_true_eq] at k
        obtain ⟨⟨⟨k0, rfl⟩, k1⟩, k2⟩ := k
        obtain ⟨gl, o⟩ := glo_of k1 C.scp
        obtain ⟨hp, hn⟩ := hs W X sc _ _ C k2
        have fin : ∀ σ H Q, rd (kd L (.bf b es)) X.K W (evE cf L.gl (.bf b es)) σ H Q → tCB (rF X.K b) (rdAs X.K W ((y :: ys).map fun _ => Pk.b) (evEs cf L.gl es)) σ H Q := fun σ H Q ⟨H0, Wr, ρ, R, g⟩ => by
          refine ⟨H0, Wr, ρ, R, g.bind.mono fun ds g vs H1 e1 rs => ?_⟩
          obtain ⟨d, ed, g⟩ := g.o
          exact ⟨ds, d, rs.bs, ed, fun v H2 e2 f => g v H2 (e1.trans e2) (f.back e1)⟩
        have st := star_of (es := ys) (hn y (List.mem_cons_self ..)) X.env
        have pl := plain_star (env := X.env) (pos := pos) fun e he => hn e (List.mem_cons_of_mem _ he)
        have B : ∀ n : String, b.py = (Str.ofString n, .builtin n) → CallR X (.builtin n) (rF X.K b) → bootBuiltins (Str.ofString n) = some (.builtin n) → (Str.ofString n) ∈ bnames → PE X (.Call (.Name b.py.1 p) (y :: ys) [] pos) (rd (kd L (.bf b es)) X.K W (evE cf L.gl (.bf b es))) := fun n e1 hc e2 e3 => by
          rw [e1] at gl o ⊢
          exact pe_imp (pe_callB hc gl (C.free _ e3) e2 hp (nm1 o).2.2 (nm1 o).1 st pl) fin
        have Y : ∀ n : String, b.py = (Str.ofString n, .type n) → CallR X (.type n) (rF X.K b) → bootBuiltins (Str.ofString n) = some (.type n) → (Str.ofString n) ∈ bnames → PE X (.Call (.Name b.py.1 p) (y :: ys) [] pos) (rd (kd L (.bf b es)) X.K W (evE cf L.gl (.bf b es))) := fun n e1 hc e2 e3 => by
          rw [e1] at gl o ⊢
          exact pe_imp (pe_callTy hc gl (C.free _ e3) e2 hp (nm1 o).2.2 (nm1 o).1 st pl) fin
        cases b with
        | len => exact B "len" rfl call_len_ boot_len (by decide)
        | int => exact Y "int" rfl call_int_ boot_int (by decide)
        | str => exact Y "str" rfl call_str_ boot_str (by decide)
        | tuple => exact Y "tuple" rfl call_tuple_ boot_tuple (by decide)
        | list => exact Y "list" rfl call_list_ boot_list (by decide)
        | sum => exact B "sum" rfl (call_sum_ (C.calm (by simpa [quietF] using kq))) boot_sum (by decide)
        | all => exact B "all" rfl (call_all_ (C.calm (by simpa [quietF] using kq))) boot_all (by decide)
        | any => exact B "any" rfl (call_any_ (C.calm (by simpa [quietF] using kq))) boot_any (by decide)
        | max2 => exact B "max" rfl (call_max_ (C.calm (by simpa [quietF] using kq))) boot_max (by decide)
        | min2 => exact B "min" rfl (call_min_ (C.calm (by simpa [quietF] using kq))) (by decide +kernel) (by decide)
        | sortedSet => exact absurd rfl k0
        | sorted => exact B "sorted" rfl (call_sorted_ (C.calm (by simpa [quietF] using kq)) (room_u C)) boot_sorted (by decide)
        | repr => exact B "repr" rfl (call_repr_ (C.gd (by simpa [reprF] using kg)) (room_u C)) boot_repr (by decide)
        | isInt => exact absurd rfl ht
        | isBool => exact absurd rfl ht
        | isStr => exact absurd rfl ht
        | isTuple => exact absurd rfl ht
  · cases k
omit [Wo] in
theorem litNon_eq {c : E} (h : isLitNon c = true) : c = .lit .non := by
  unfold isLitNon at h
  split at h
  · rfl
  · cases h
theorem s_sl {a lo hi : E} (ha : SE L cf xa N a) (hlo : SE L cf xa N lo) (hhi : SE L cf xa N hi) : SE L cf xa N (.sl a lo hi) := fun W X sc e C k => by
  unfold chkE at k
  split at k
  · rename_i x l h p2 pos
    simp only [Bool.and_eq_true] at k
    obtain ⟨⟨k1, k2⟩, k3⟩ := k
    have part : ∀ (c : E) (o : Option Expr), SE L cf xa N c → (match o with | none => isLitNon c | some l => !isLitNon c && chkE L N c sc l) = true →
        ∃ t : TO, PO X o t ∧ ∀ σ H H0 Wr ρ (Qo : Option Int → Hp → Prop), REnv X.K H0 Wr H σ ρ → (Gd W σ H (evE cf L.gl c ρ >>= fun d => ofO (ixPart (isLitNon c) d)) fun i => ∀ H', Ex H H' → Qo i H') → t σ H Qo := by
      intro c o hc hk
      cases o with
      | none =>
        refine ⟨_, po_none, fun σ H H0 Wr ρ Qo R g => ?_⟩
        obtain rfl := litNon_eq hk
        exact (show ∀ H', Ex H H' → Qo none H' from g) H (Ex.refl H)
      | some l =>
        simp only [Bool.and_eq_true, Bool.not_eq_true'] at hk
        refine ⟨_, po_some (hc.b C hk.2), fun σ H H0 Wr ρ Qo R g => ⟨H0, Wr, ρ, R, g.bind.mono fun d g v H1 ex r => ?_⟩⟩
        rw [hk.1] at g
        obtain ⟨i, ei, g⟩ := g.o
        cases d <;> simp only [ixPart, Bool.false_eq_true, if_false, reduceCtorEq] at ei <;> cases ei
        exact ⟨_, r.int_inv, g H1 ex⟩
    obtain ⟨tl, pl, ml⟩ := part lo l hlo k2
    obtain ⟨th, ph, mh⟩ := part hi h hhi k3
    refine pe_imp (pe_slice sl_S (ha.b C k1) pl ph) fun σ H Q ⟨H0, Wr, ρ, R, g⟩ => ?_
    refine ⟨H0, Wr, ρ, R, g.bind.mono fun dx g vx H1 e1 rx => ml σ H1 H0 Wr ρ _ (R.ex e1) ?_⟩
    have g : Gd W σ H (evE cf L.gl lo ρ >>= fun y => (ofO (ixPart (isLitNon lo) y)) >>= fun l => (evE cf L.gl hi ρ) >>= fun z => (ofO (ixPart (isLitNon hi) z)) >>= fun h => ofO (opSl dx l h)) fun d => ∀ v H', Ex H H' → FRep X.K H H' v d → Q v H' := g
    have g1 : Gd W σ H ((evE cf L.gl lo ρ >>= fun y => ofO (ixPart (isLitNon lo) y)) >>= fun l => (evE cf L.gl hi ρ >>= fun z => ofO (ixPart (isLitNon hi) z)) >>= fun h => ofO (opSl dx l h)) fun d => ∀ v H', Ex H H' → FRep X.K H H' v d → Q v H' := by
      cases q : evE cf L.gl lo ρ with
      | ok d =>
        rw [q] at g
        simp only [res_bind_ok] at g ⊢
        cases q2 : ofO (ixPart (isLitNon lo) d) with
        | ok i =>
          rw [q2] at g
          simp only [res_bind_ok] at g ⊢
          cases q3 : evE cf L.gl hi ρ with
          | ok d2 =>
            rw [q3] at g
            exact g
          | exc c => rw [q3] at g; exact g
          | fail => rw [q3] at g; exact g
        | exc c => rw [q2] at g; exact g
        | fail => rw [q2] at g; exact g
      | exc c => rw [q] at g; exact g
      | fail => rw [q] at g; exact g
    refine (g1.ex e1).bind.mono fun i g H2 e2 => mh σ H2 H0 Wr ρ _ ((R.ex e1).ex e2) ?_
    refine (g.ex e2).bind.mono fun j g H3 e3 => ?_
    obtain ⟨d, ed, g⟩ := g.o
    exact ⟨dx, d, RepB.mono (e2.trans e3) rx, ed, fun v H4 e4 f => g v H4 (((e1.trans e2).trans e3).trans e4) (FRep.back ((e1.trans e2).trans e3) f)⟩
  · cases k
theorem s_mt (m : Mt) {a : E} {es : Es} (ha : SE L cf xa N a) (hs : SEs L cf xa N es) : SE L cf xa N (.mt m a es) := fun W X sc e C k => by
  unfold chkE at k
  split at k
  · rename_i o n ap y p
    simp only [Bool.and_eq_true, decide_eq_true_eq] at k
    obtain ⟨⟨⟨⟨rfl, k1⟩, k2⟩, k3⟩, k4⟩ := k
    obtain ⟨hp, hn⟩ := hs W X sc _ _ C k4
    have ns := hn y (List.mem_cons_self ..)
    have st := star_of (es := []) ns X.env
    refine pe_imp (pe_bm PySem.F.plainAttrs_str PySem.F.slot_str_join PySem.F.type_str_join mt_join_ (ha.b C k3) hp (base_of k1 _ _) (by rw [st]; rfl) k2 st (plain_star fun e he => by cases he)) fun σ H Q ⟨H0, Wr, ρ, R, g⟩ => ?_
    refine ⟨H0, Wr, ρ, R, g.bind.mono fun dx g vx H1 e1 rx => ?_⟩
    have g := g.bind
    obtain ⟨_, er, g⟩ := g.o
    cases dx <;> simp only [recv, reduceCtorEq] at er
    obtain ⟨rfl, _⟩ := rx.str_inv
    exact ⟨rfl, H0, Wr, ρ, R.ex e1, (g.ex e1).bind.mono fun ds g vs H2 e2 rs => by
      obtain ⟨d, ed, g⟩ := g.o
      exact ⟨_, ds, d, RepB.mono e2 rx, ArgsR.bs (xs := [()]) rs, ed, fun v H3 e3 f => g v H3 ((e1.trans e2).trans e3) (FRep.back (e1.trans e2) f)⟩⟩
  · rename_i o n ap p
    simp only [Bool.and_eq_true, decide_eq_true_eq] at k
    obtain ⟨⟨⟨⟨rfl, k1⟩, k2⟩, k3⟩, k4⟩ := k
    cases es with
    | cons _ _ => cases k4
    | nil =>
      refine pe_imp (pe_bm0 PySem.F.plainAttrs_str PySem.F.slot_str_islower PySem.F.type_str_islower mt_low_ (ha.b C k3) (base_of k1 _ _) k2) fun σ H Q ⟨H0, Wr, ρ, R, g⟩ => ?_
      refine ⟨H0, Wr, ρ, R, g.bind.mono fun dx g vx H1 e1 rx => ?_⟩
      have g := g.bind
      obtain ⟨_, er, g⟩ := g.o
      cases dx <;> simp only [recv, reduceCtorEq] at er
      obtain ⟨rfl, _⟩ := rx.str_inv
      obtain ⟨d, ed, g⟩ := (show Gd W σ H (ofO (opM .islower _ [])) _ from g).o
      exact ⟨rfl, _, [], d, rx, .nil, ed, fun v H3 e3 f => g v H3 (e1.trans e3) (FRep.back e1 f)⟩
  · rename_i o n ap p
    simp only [Bool.and_eq_true, decide_eq_true_eq] at k
    obtain ⟨⟨⟨⟨rfl, k1⟩, k2⟩, k3⟩, k4⟩ := k
    cases es with
    | cons _ _ => cases k4
    | nil =>
      refine pe_imp (pe_bm0 PySem.F.plainAttrs_str PySem.F.slot_str_isupper PySem.F.type_str_isupper mt_upp_ (ha.b C k3) (base_of k1 _ _) k2) fun σ H Q ⟨H0, Wr, ρ, R, g⟩ => ?_
      refine ⟨H0, Wr, ρ, R, g.bind.mono fun dx g vx H1 e1 rx => ?_⟩
      have g := g.bind
      obtain ⟨_, er, g⟩ := g.o
      cases dx <;> simp only [recv, reduceCtorEq] at er
      obtain ⟨rfl, _⟩ := rx.str_inv
      obtain ⟨d, ed, g⟩ := (show Gd W σ H (ofO (opM .isupper _ [])) _ from g).o
      exact ⟨rfl, _, [], d, rx, .nil, ed, fun v H3 e3 f => g v H3 (e1.trans e3) (FRep.back e1 f)⟩
  · rename_i o n ap y p
    simp only [Bool.and_eq_true, decide_eq_true_eq] at k
    obtain ⟨⟨⟨⟨rfl, k1⟩, k2⟩, k3⟩, k4⟩ := k
    obtain ⟨hp, hn⟩ := hs W X sc _ _ C k4
    have ns := hn y (List.mem_cons_self ..)
    have st := star_of (es := []) ns X.env
    refine pe_imp (pe_bm PySem.F.plainAttrs_str PySem.F.slot_str_split PySem.F.type_str_split mt_split_ (ha.b C k3) hp (base_of k1 _ _) (by rw [st]; rfl) k2 st (plain_star fun e he => by cases he)) fun σ H Q ⟨H0, Wr, ρ, R, g⟩ => ?_
    refine ⟨H0, Wr, ρ, R, g.bind.mono fun dx g vx H1 e1 rx => ?_⟩
    have g := g.bind
    obtain ⟨_, er, g⟩ := g.o
    cases dx <;> simp only [recv, reduceCtorEq] at er
    obtain ⟨rfl, _⟩ := rx.str_inv
    exact ⟨rfl, H0, Wr, ρ, R.ex e1, (g.ex e1).bind.mono fun ds g vs H2 e2 rs => by
      obtain ⟨d, ed, g⟩ := g.o
      exact ⟨_, ds, d, RepB.mono e2 rx, ArgsR.bs (xs := [()]) rs, ed, fun v H3 e3 f => g v H3 ((e1.trans e2).trans e3) (FRep.back (e1.trans e2) f)⟩⟩
  · rename_i o n ap y p
    simp only [Bool.and_eq_true, decide_eq_true_eq] at k
    obtain ⟨⟨⟨⟨rfl, k1⟩, k2⟩, k3⟩, k4⟩ := k
    obtain ⟨hp, hn⟩ := hs W X sc _ _ C k4
    have ns := hn y (List.mem_cons_self ..)
    have st := star_of (es := []) ns X.env
    refine pe_imp (pe_bm PySem.F.plainAttrs_str PySem.F.slot_str_strip PySem.F.type_str_strip mt_strip_ (ha.b C k3) hp (base_of k1 _ _) (by rw [st]; rfl) k2 st (plain_star fun e he => by cases he)) fun σ H Q ⟨H0, Wr, ρ, R, g⟩ => ?_
    refine ⟨H0, Wr, ρ, R, g.bind.mono fun dx g vx H1 e1 rx => ?_⟩
    have g := g.bind
    obtain ⟨_, er, g⟩ := g.o
    cases dx <;> simp only [recv, reduceCtorEq] at er
    obtain ⟨rfl, _⟩ := rx.str_inv
    exact ⟨rfl, H0, Wr, ρ, R.ex e1, (g.ex e1).bind.mono fun ds g vs H2 e2 rs => by
      obtain ⟨d, ed, g⟩ := g.o
      exact ⟨_, ds, d, RepB.mono e2 rx, ArgsR.bs (xs := [()]) rs, ed, fun v H3 e3 f => g v H3 ((e1.trans e2).trans e3) (FRep.back (e1.trans e2) f)⟩⟩
  · rename_i o n ap y p
    simp only [Bool.and_eq_true, decide_eq_true_eq] at k
    obtain ⟨⟨⟨⟨rfl, k1⟩, k2⟩, k3⟩, k4⟩ := k
    obtain ⟨hp, hn⟩ := hs W X sc _ _ C k4
    have ns := hn y (List.mem_cons_self ..)
    have st := star_of (es := []) ns X.env
    refine pe_imp (pe_bm PySem.F.plainAttrs_str PySem.F.slot_str_lstrip PySem.F.type_str_lstrip mt_lstrip_ (ha.b C k3) hp (base_of k1 _ _) (by rw [st]; rfl) k2 st (plain_star fun e he => by cases he)) fun σ H Q ⟨H0, Wr, ρ, R, g⟩ => ?_
    refine ⟨H0, Wr, ρ, R, g.bind.mono fun dx g vx H1 e1 rx => ?_⟩
    have g := g.bind
    obtain ⟨_, er, g⟩ := g.o
    cases dx <;> simp only [recv, reduceCtorEq] at er
    obtain ⟨rfl, _⟩ := rx.str_inv
    exact ⟨rfl, H0, Wr, ρ, R.ex e1, (g.ex e1).bind.mono fun ds g vs H2 e2 rs => by
      obtain ⟨d, ed, g⟩ := g.o
      exact ⟨_, ds, d, RepB.mono e2 rx, ArgsR.bs (xs := [()]) rs, ed, fun v H3 e3 f => g v H3 ((e1.trans e2).trans e3) (FRep.back (e1.trans e2) f)⟩⟩
  · rename_i o n ap y p
    simp only [Bool.and_eq_true, decide_eq_true_eq] at k
    obtain ⟨⟨⟨⟨rfl, k1⟩, k2⟩, k3⟩, k4⟩ := k
    obtain ⟨hp, hn⟩ := hs W X sc _ _ C k4
    have ns := hn y (List.mem_cons_self ..)
    have st := star_of (es := []) ns X.env
    refine pe_imp (pe_bm PySem.F.plainAttrs_str PySem.F.slot_str_rstrip PySem.F.type_str_rstrip mt_rstrip_ (ha.b C k3) hp (base_of k1 _ _) (by rw [st]; rfl) k2 st (plain_star fun e he => by cases he)) fun σ H Q ⟨H0, Wr, ρ, R, g⟩ => ?_
    refine ⟨H0, Wr, ρ, R, g.bind.mono fun dx g vx H1 e1 rx => ?_⟩
    have g := g.bind
    obtain ⟨_, er, g⟩ := g.o
    cases dx <;> simp only [recv, reduceCtorEq] at er
    obtain ⟨rfl, _⟩ := rx.str_inv
    exact ⟨rfl, H0, Wr, ρ, R.ex e1, (g.ex e1).bind.mono fun ds g vs H2 e2 rs => by
      obtain ⟨d, ed, g⟩ := g.o
      exact ⟨_, ds, d, RepB.mono e2 rx, ArgsR.bs (xs := [()]) rs, ed, fun v H3 e3 f => g v H3 ((e1.trans e2).trans e3) (FRep.back (e1.trans e2) f)⟩⟩
  · rename_i o n ap y p
    simp only [Bool.and_eq_true, decide_eq_true_eq] at k
    obtain ⟨⟨⟨⟨rfl, k1⟩, k2⟩, k3⟩, k4⟩ := k
    obtain ⟨hp, hn⟩ := hs W X sc _ _ C k4
    have ns := hn y (List.mem_cons_self ..)
    have st := star_of (es := []) ns X.env
    refine pe_imp (pe_bm PySem.F.plainAttrs_str PySem.F.slot_str_startswith PySem.F.type_str_startswith mt_starts_ (ha.b C k3) hp (base_of k1 _ _) (by rw [st]; rfl) k2 st (plain_star fun e he => by cases he)) fun σ H Q ⟨H0, Wr, ρ, R, g⟩ => ?_
    refine ⟨H0, Wr, ρ, R, g.bind.mono fun dx g vx H1 e1 rx => ?_⟩
    have g := g.bind
    obtain ⟨_, er, g⟩ := g.o
    cases dx <;> simp only [recv, reduceCtorEq] at er
    obtain ⟨rfl, _⟩ := rx.str_inv
    exact ⟨rfl, H0, Wr, ρ, R.ex e1, (g.ex e1).bind.mono fun ds g vs H2 e2 rs => by
      obtain ⟨d, ed, g⟩ := g.o
      exact ⟨_, ds, d, RepB.mono e2 rx, ArgsR.bs (xs := [()]) rs, ed, fun v H3 e3 f => g v H3 ((e1.trans e2).trans e3) (FRep.back (e1.trans e2) f)⟩⟩
  · rename_i o n ap y p
    simp only [Bool.and_eq_true, decide_eq_true_eq] at k
    obtain ⟨⟨⟨⟨rfl, k1⟩, k2⟩, k3⟩, k4⟩ := k
    obtain ⟨hp, hn⟩ := hs W X sc _ _ C k4
    have ns := hn y (List.mem_cons_self ..)
    have st := star_of (es := []) ns X.env
    refine pe_imp (pe_bm PySem.F.plainAttrs_str PySem.F.slot_str_find PySem.F.type_str_find mt_find_ (ha.b C k3) hp (base_of k1 _ _) (by rw [st]; rfl) k2 st (plain_star fun e he => by cases he)) fun σ H Q ⟨H0, Wr, ρ, R, g⟩ => ?_
    refine ⟨H0, Wr, ρ, R, g.bind.mono fun dx g vx H1 e1 rx => ?_⟩
    have g := g.bind
    obtain ⟨_, er, g⟩ := g.o
    cases dx <;> simp only [recv, reduceCtorEq] at er
    obtain ⟨rfl, _⟩ := rx.str_inv
    exact ⟨rfl, H0, Wr, ρ, R.ex e1, (g.ex e1).bind.mono fun ds g vs H2 e2 rs => by
      obtain ⟨d, ed, g⟩ := g.o
      exact ⟨_, ds, d, RepB.mono e2 rx, ArgsR.bs (xs := [()]) rs, ed, fun v H3 e3 f => g v H3 ((e1.trans e2).trans e3) (FRep.back (e1.trans e2) f)⟩⟩
  · rename_i o n ap y p
    simp only [Bool.and_eq_true, decide_eq_true_eq] at k
    obtain ⟨⟨⟨⟨rfl, k1⟩, k2⟩, k3⟩, k4⟩ := k
    obtain ⟨hp, hn⟩ := hs W X sc _ _ C k4
    have ns := hn y (List.mem_cons_self ..)
    have st := star_of (es := []) ns X.env
    refine pe_imp (pe_bm PySem.F.plainAttrs_str PySem.F.slot_str_partition PySem.F.type_str_partition mt_part_ (ha.b C k3) hp (base_of k1 _ _) (by rw [st]; rfl) k2 st (plain_star fun e he => by cases he)) fun σ H Q ⟨H0, Wr, ρ, R, g⟩ => ?_
    refine ⟨H0, Wr, ρ, R, g.bind.mono fun dx g vx H1 e1 rx => ?_⟩
    have g := g.bind
    obtain ⟨_, er, g⟩ := g.o
    cases dx <;> simp only [recv, reduceCtorEq] at er
    obtain ⟨rfl, _⟩ := rx.str_inv
    exact ⟨rfl, H0, Wr, ρ, R.ex e1, (g.ex e1).bind.mono fun ds g vs H2 e2 rs => by
      obtain ⟨d, ed, g⟩ := g.o
      exact ⟨_, ds, d, RepB.mono e2 rx, ArgsR.bs (xs := [()]) rs, ed, fun v H3 e3 f => g v H3 ((e1.trans e2).trans e3) (FRep.back (e1.trans e2) f)⟩⟩
  · rename_i o n ap p
    simp only [Bool.and_eq_true, decide_eq_true_eq] at k
    obtain ⟨⟨⟨⟨rfl, k1⟩, k2⟩, k3⟩, k4⟩ := k
    cases es with
    | cons _ _ => cases k4
    | nil =>
      refine pe_imp (pe_bm0 PySem.F.plainAttrs_str PySem.F.slot_str_isalnum PySem.F.type_str_isalnum mt_aln_ (ha.b C k3) (base_of k1 _ _) k2) fun σ H Q ⟨H0, Wr, ρ, R, g⟩ => ?_
      refine ⟨H0, Wr, ρ, R, g.bind.mono fun dx g vx H1 e1 rx => ?_⟩
      have g := g.bind
      obtain ⟨_, er, g⟩ := g.o
      cases dx <;> simp only [recv, reduceCtorEq] at er
      obtain ⟨rfl, _⟩ := rx.str_inv
      obtain ⟨d, ed, g⟩ := (show Gd W σ H (ofO (opM .isalnum _ [])) _ from g).o
      exact ⟨rfl, _, [], d, rx, .nil, ed, fun v H3 e3 f => g v H3 (e1.trans e3) (FRep.back e1 f)⟩
  · cases k
end
end Ev

/-! Walks, comprehensions; all expressions are sound. -/
namespace Ev
open PySem PySem.Spec
open PyProof.Rows hiding St
open L2
open Evl (Ex)
variable [Wo]
/-- an iterator that gives the items ds, whatever is made meanwhile -/
structure Walks (K : PySem.W.Frag) (J : L2.It) (H : Hp) (ds : List D) : Prop where
  len : ds.length ≤ sizeLine
  go : ∀ H', Pers H H' → ∀ (i : Nat) (d : D), ds[i]? = some d → J.go i H' ∧ ∀ x H3, J.yld i H' x H3 → H3 = H' ∧ Rep K H' x d
  stop : ∀ H', Pers H H' → J.stop ds.length H'
def rdI (K : PySem.W.Frag) (W : WN) (r : Env → Res (List D)) : TI := fun σ H R => ∃ H0 Wr ρ, REnv K H0 Wr H σ ρ ∧ Gd W σ H (r ρ) fun ds => ∀ J H', Ex H H' → Walks K J H' ds → R J H'
omit [Wo] in
theorem rd_pers {H H' : Hp} {a : Addr} {xs : List V} {o : Obj} (p : Pers H H') (h : H a = some (.frz o (.lst xs))) : Rd H' a (.lst xs) := .inr ⟨o, p.2 a o _ h⟩
section
variable {L : Lw} {cf : Nat → List D → Res D} {xa : Nat → Addr} {N : List Str} {W : WN} {X : Cx} {sc : Scope}
omit [Wo] in
theorem pi_imp {tg e : Expr} {t t' : TI} (h : PI X tg e t) (m : ∀ σ H R, t' σ H R → t σ H R) : PI X tg e t' := ⟨fun pins s σ H R I q => h.run pins s σ H R I (m σ H R q)⟩
abbrev SI (L : Lw) (cf : Nat → List D → Res D) (xa : Nat → Addr) (N : List Str) (it : It) : Prop := ∀ (W : WN) (X : Cx) (sc : Scope) (tg e : Expr), CtxOk L cf xa N W X sc → chkIt L N it sc e = true →
  PI X tg e (rdI X.K W (evIt cf L.gl it)) ∧ notSet e = true
omit [Wo] in
theorem rng_get (lo : Int) (n i : Nat) (d : D) (h : (rng lo n)[i]? = some d) : i < n ∧ d = .int (lo + (i : Int)) := by
  unfold rng at h
  rw [List.getElem?_map] at h
  by_cases hi : i < n
  · rw [List.getElem?_range hi] at h
    cases h
    exact ⟨hi, rfl⟩
  · rw [List.getElem?_eq_none (by simpa using hi)] at h; cases h
omit [Wo] in
theorem rng_len (lo : Int) (n : Nat) : (rng lo n).length = n := by unfold rng; simp
omit [Wo] in
theorem walks_rng {K : PySem.W.Frag} {lo : Int} {n : Nat} {H : Hp} (hn : n ≤ sizeLine) : Walks K (Itr lo n) H (rng lo n) := by
  refine ⟨by rw [rng_len]; exact hn, fun H' _ i d h => ?_, fun H' _ => by rw [rng_len]; exact Nat.le_refl _⟩
  obtain ⟨hi, rfl⟩ := rng_get _ _ _ _ h
  exact ⟨hi, fun x H3 y => ⟨y.1, by rw [y.2]; exact .int _⟩⟩
theorem i_rng1 {a : E} (ha : SE L cf xa N a) : SI L cf xa N (.rng1 a) := fun W X sc tg e C k => by
  unfold chkIt at k
  split at k
  · rename_i x p y pos
    simp only [Bool.and_eq_true, decide_eq_true_eq] at k
    obtain ⟨⟨⟨rfl, k1⟩, k2⟩, k3⟩ := k
    obtain ⟨gl, o⟩ := glo_of k1 C.scp
    refine ⟨pi_imp (pi_range1 gl (C.free _ (by decide)) (pa_cons (ha.b C k2) pa_nil (star_of k3 _)) (star_of k3 _)) fun σ H R ⟨H0, Wr, ρ, r, g⟩ => ?_, rfl⟩
    refine ⟨H0, Wr, ρ, r, g.bind.mono fun d g v H1 e1 rv => ?_⟩
    obtain ⟨ds, ed, g⟩ := g.o
    cases d <;> simp only [rng1, reduceCtorEq] at ed
    rename_i j
    split at ed <;> cases ed
    rename_i hj
    obtain rfl := rv.int_inv
    have hl : line = 16777216 := by decide
    have hs : sizeLine = 16777216 := by decide
    have : (2 : Int) ^ 62 = 4611686018427387904 := by decide
    exact ⟨j, rfl, by omega, by omega, g _ H1 e1 (walks_rng (by omega))⟩
  · cases k
theorem i_rng2 {a b : E} (ha : SE L cf xa N a) (hb : SE L cf xa N b) : SI L cf xa N (.rng2 a b) := fun W X sc tg e C k => by
  unfold chkIt at k
  split at k
  · rename_i x p y z pos
    simp only [Bool.and_eq_true, decide_eq_true_eq] at k
    obtain ⟨⟨⟨⟨⟨rfl, k1⟩, k2⟩, k3⟩, k4⟩, k5⟩ := k
    obtain ⟨gl, o⟩ := glo_of k1 C.scp
    have s2 := star_of (es := []) k5 X.env
    have s1 := star_of (es := [z]) k3 X.env
    refine ⟨pi_imp (pi_range2 gl (C.free _ (by decide)) (pa_cons (ha.b C k2) (pa_cons (hb.b C k4) pa_nil s2) s1) (by rw [s1, s2]; rfl) s2) fun σ H R ⟨H0, Wr, ρ, r, g⟩ => ?_, rfl⟩
    refine ⟨H0, Wr, ρ, r, g.bind.mono fun d g v H1 e1 rv => ⟨H0, Wr, ρ, r.ex e1, (g.ex e1).bind.mono fun d2 g v2 H2 e2 rv2 => ?_⟩⟩
    obtain ⟨ds, ed, g⟩ := g.o
    cases d <;> cases d2 <;> simp only [rng2, reduceCtorEq] at ed
    rename_i _ i _ j
    split at ed <;> cases ed
    rename_i hj
    obtain rfl := rv.int_inv
    obtain rfl := rv2.int_inv
    have hl : line = 16777216 := by decide
    have hs : sizeLine = 16777216 := by decide
    have : (2 : Int) ^ 62 = 4611686018427387904 := by decide
    exact ⟨i, j, rfl, ⟨by omega, by omega, by omega, by omega⟩, g _ H2 (e1.trans e2) (walks_rng (by omega))⟩
  · cases k
theorem i_seq {a : E} (ha : SE L cf xa N a) : SI L cf xa N (.seq a) := fun W X sc tg e C k => by
  unfold chkIt at k
  simp only [Bool.and_eq_true] at k
  obtain ⟨⟨k1, k2⟩, k3⟩ := k
  refine ⟨⟨fun pins s σ H R I ⟨H0, Wr, ρ, r, g⟩ => ?_⟩, k2⟩
  have hv := ha.v k3 C k1
  have g : Gd W σ H (evE cf L.gl a ρ >>= fun x => ofO (itemsOf x)) _ := g
  cases q : evE cf L.gl a ρ with
  | ok d =>
    rw [q] at g
    obtain ⟨ds, ed, g⟩ := Gd.o (show Gd W σ H (ofO (itemsOf d)) _ from g)
    cases d <;> simp only [itemsOf, reduceCtorEq] at ed <;> cases ed
    · rename_i xs _
      refine (pi_str hv).run pins s σ H R I ⟨H0, Wr, ρ, r, ?_⟩
      rw [q]
      intro v H1 e1 rv
      obtain ⟨rfl, hl⟩ := Rep.str_inv rv
      refine ⟨_, rfl, g _ H1 e1 ⟨by rw [List.length_map]; exact hl, fun H' _ i d h => ?_, fun H' _ => ?_⟩⟩
      · rw [List.getElem?_map] at h
        cases q2 : xs[i]? with
        | none => rw [q2] at h; cases h
        | some c =>
          rw [q2] at h
          cases h
          have hi := (List.getElem?_eq_some_iff.mp q2).1
          refine ⟨by show i < (T xs).cps.size; simpa [T] using hi, fun x H3 y => ⟨y.1, ?_⟩⟩
          obtain ⟨c', hc, rfl⟩ := y.2
          have : c' = c := by
            have : xs[i]? = some c' := by simpa [T] using hc
            rw [q2] at this; cases this; rfl
          subst this
          exact .str [c'] (by show 1 ≤ line; decide)
      · rw [List.length_map]
        show (T xs).cps.size ≤ xs.length
        simp [T]
    · rename_i xs
      refine (pi_tup hv).run pins s σ H R I ⟨H0, Wr, ρ, r, ?_⟩
      rw [q]
      intro v H1 e1 rv
      have hz := RepB.lenT (.inl rv)
      obtain ⟨a', vs, rfl, h1, rr⟩ := RepB.tup_inv (.inl rv)
      refine ⟨a', rfl, ⟨vs, h1⟩, g _ H1 e1 ⟨?_, fun H' p i d h => ?_, fun H' p => ⟨vs, sqt_pers p h1, by rw [rr.length]; exact Nat.le_refl _⟩⟩⟩
      · exact hz
      · obtain ⟨x, hx, hr⟩ := rr.get h
        refine ⟨⟨vs, x, sqt_pers p h1, hx⟩, fun y H3 yl => ⟨yl.1, ?_⟩⟩
        have := yl.2 vs (sqt_pers p h1)
        rw [hx] at this; cases this
        exact hr.mono p
    · rename_i xs
      refine (pi_list hv).run pins s σ H R I ⟨H0, Wr, ρ, r, ?_⟩
      rw [q]
      intro v H1 e1 rv
      cases rv with
      | lst h1 rr hz =>
        rename_i a' vs o
        have sq : ∀ H', Pers H1 H' → SqL X.K H' a' vs := fun H' p => .inl (rd_pers p h1)
        refine ⟨a', rfl, ⟨vs, sq H1 (Pers.refl _)⟩, g _ H1 e1 ⟨?_, fun H' p i d h => ?_, fun H' p => ⟨vs, sq H' p, by rw [rr.length]; exact Nat.le_refl _⟩⟩⟩
        · exact hz
        · obtain ⟨x, hx, hr⟩ := rr.get h
          refine ⟨⟨vs, x, sq H' p, hx⟩, fun y H3 yl => ⟨yl.1, ?_⟩⟩
          have := yl.2 vs (sq H' p)
          rw [hx] at this; cases this
          exact hr.mono p
  | exc c =>
    rw [q] at g
    refine (pi_str hv).run pins s σ H R I ⟨H0, Wr, ρ, r, ?_⟩
    rw [q]
    exact g
  | fail => rw [q] at g; exact (show False from g).elim

theorem txt_wi {a : E} {σ : L2.St} {H : Hp} {R : L2.It → Hp → Prop} (h : rdI X.K W (evIt cf L.gl (.txt a)) σ H R) : iStr (rd .V X.K W (evE cf L.gl a)) σ H R := by
  obtain ⟨H0, Wr, ρ, r, g⟩ := h
  have g : Gd W σ H (evE cf L.gl a ρ >>= fun x => ofO (txtOf x)) _ := g
  cases q : evE cf L.gl a ρ with
  | ok d =>
    rw [q] at g
    obtain ⟨ds, ed, g⟩ := Gd.o (show Gd W σ H (ofO (txtOf d)) _ from g)
    cases d <;> simp only [txtOf, reduceCtorEq] at ed <;> cases ed
    rename_i xs _
    refine ⟨H0, Wr, ρ, r, ?_⟩
    rw [q]
    intro v H1 e1 rv
    obtain ⟨rfl, hl⟩ := Rep.str_inv rv
    refine ⟨_, rfl, g _ H1 e1 ⟨by rw [List.length_map]; exact hl, fun H' _ i d h => ?_, fun H' _ => ?_⟩⟩
    · rw [List.getElem?_map] at h
      cases q2 : xs[i]? with
      | none => rw [q2] at h; cases h
      | some c =>
        rw [q2] at h
        cases h
        have hi := (List.getElem?_eq_some_iff.mp q2).1
        refine ⟨by show i < (T xs).cps.size; simpa [T] using hi, fun x H3 y => ⟨y.1, ?_⟩⟩
        obtain ⟨c', hc, rfl⟩ := y.2
        have : c' = c := by
          have : xs[i]? = some c' := by simpa [T] using hc
          rw [q2] at this; cases this; rfl
        subst this
        exact .str [c'] (by show 1 ≤ line; decide)
    · rw [List.length_map]
      show (T xs).cps.size ≤ xs.length
      simp [T]
  | exc c =>
    rw [q] at g
    refine ⟨H0, Wr, ρ, r, ?_⟩
    rw [q]
    exact g
  | fail => rw [q] at g; exact (show False from g).elim
theorem i_txt {a : E} (ha : SE L cf xa N a) : SI L cf xa N (.txt a) := fun W X sc tg e C k => by
  unfold chkIt at k
  simp only [Bool.and_eq_true] at k
  obtain ⟨⟨k1, k2⟩, k3⟩ := k
  exact ⟨pi_imp (pi_str (ha.v k3 C k1)) fun σ H R h => txt_wi h, k2⟩
/-- .. where an exception is handled -/
theorem i_txtH {a : E} (ha : SE L cf xa N a) {tg e : Expr} (C : CtxOk L cf xa N W X sc) (k : chkIt L N (.txt a) sc e = true) : L2H.PIH X tg e (rdI X.K W (evIt cf L.gl (.txt a))) ∧ notSet e = true := by
  unfold chkIt at k
  simp only [Bool.and_eq_true] at k
  obtain ⟨⟨k1, k2⟩, k3⟩ := k
  exact ⟨⟨fun pins s σ H R I h => (EvHt.pi_strH (ha.v k3 C k1)).run pins s σ H R I (txt_wi h)⟩, k2⟩
theorem i_dks (i : Nat) : SI L cf xa N (.dks i) := fun W X sc tg e C k => by
  unfold chkIt at k
  split at k
  · rename_i x p
    rw [Bool.and_eq_true, decide_eq_true_eq] at k
    obtain ⟨v, o⟩ := vis_of k.2 C.scp
    obtain ⟨d1, d2, _⟩ := nm1 o
    refine ⟨pi_imp (pi_keys (pe_var (pos := p) (by rw [C.nN]; exact k.1) v d1 d2)) fun σ H R ⟨H0, Wr, ρ, r, g⟩ => ?_, rfl⟩
    obtain ⟨es, e, g⟩ := g.bind.o
    obtain ⟨a, ob, kvs, hs, ha, dr, hz⟩ := r.dsh e
    have g : ∀ J H', Ex H H' → Walks X.K J H' (dKeys es) → R J H' := g
    have kl : (dKeys es).length = kvs.length := by rw [dr.length]; simp [dKeys]
    refine ⟨_, hs, a, ob, rfl, .inl ⟨kvs, ha, g _ H (Ex.refl H) ⟨by rw [kl, dr.length]; exact hz, fun H' p i d h => ?_, fun H' p => ?_⟩⟩⟩
    · obtain ⟨q, w, h1, h2⟩ := dr.get h
      exact ⟨⟨p.2 _ _ _ ha, (List.getElem?_eq_some_iff.mp h1).1⟩, fun x H3 yl => ⟨yl.1, by
        obtain ⟨k', v', e1, rfl⟩ := yl.2
        rw [h1] at e1
        cases e1
        exact h2.mono p⟩⟩
    · exact ⟨p.2 _ _ _ ha, by rw [kl]; exact Nat.le_refl _⟩
  · cases k
omit [Wo] in
theorem walks_rngR {K : PySem.W.Frag} {n : Nat} {H : Hp} (hn : n ≤ sizeLine) : Walks K (Itc ((n : Int) - 1) (-1) n) H (rng 0 n).reverse := by
  refine ⟨by rw [List.length_reverse, rng_len]; exact hn, fun H' _ i d h => ?_, fun H' _ => by rw [List.length_reverse, rng_len]; exact Nat.le_refl _⟩
  have hi : i < (rng 0 n).length := by
    have := (List.getElem?_eq_some_iff.mp h).1
    simpa using this
  rw [List.getElem?_reverse hi] at h
  rw [rng_len] at hi h
  obtain ⟨_, rfl⟩ := rng_get _ _ _ _ h
  refine ⟨hi, fun x H3 y => ⟨y.1, ?_⟩⟩
  rw [y.2, show (n : Int) - 1 + (i : Nat) * (-1) = 0 + ((n - 1 - i : Nat) : Int) by omega]
  exact .int _
theorem i_revr {a : E} (ha : SE L cf xa N a) : SI L cf xa N (.revr a) := fun W X sc tg e C k => by
  unfold chkIt at k
  split at k
  · rename_i x p r rp y pos2 pos
    simp only [Bool.and_eq_true, decide_eq_true_eq] at k
    obtain ⟨⟨⟨⟨⟨rfl, k1⟩, rfl⟩, k2⟩, k3⟩, k4⟩ := k
    obtain ⟨gl, o⟩ := glo_of k1 C.scp
    obtain ⟨gr, o2⟩ := glo_of k2 C.scp
    refine ⟨pi_imp (pi_revR gl (C.free _ (by decide)) (prg_1 gr (C.free _ (by decide)) (ha.b C k3) (star_of k4 _)) (star_of rfl _)) fun σ H R ⟨H0, Wr, ρ, r, g⟩ => ?_, rfl⟩
    have g : Gd W σ H (evE cf L.gl a ρ >>= fun x => (ofO (rng1 x)) >>= fun l => Res.ok l.reverse) (fun ds => ∀ J H', Ex H H' → Walks X.K J H' ds → R J H') := g
    refine ⟨H0, Wr, ρ, r, g.bind.mono fun d g v H1 e1 rv => ?_⟩
    obtain ⟨ds, ed, g⟩ := g.bind.o
    cases d <;> simp only [rng1, reduceCtorEq] at ed
    rename_i j
    split at ed <;> cases ed
    rename_i hj
    obtain rfl := rv.int_inv
    have hl : line = 16777216 := by decide
    have hs : sizeLine = 16777216 := by decide
    have h62 : (2 : Int) ^ 62 = 4611686018427387904 := by decide
    have g : ∀ J H', Ex H H' → Walks X.K J H' (rng 0 j.toNat).reverse → R J H' := g
    refine ⟨j, rfl, by omega, by omega, by omega, by omega, ?_⟩
    have e : (0 : Int) + (((j - 0).toNat : Nat) : Int) - 1 = ((j.toNat : Nat) : Int) - 1 := by omega
    rw [e, show (j - 0).toNat = j.toNat by omega]
    exact g _ H1 e1 (walks_rngR (by omega))
  · cases k
theorem i_rev {a : E} (ha : SE L cf xa N a) : SI L cf xa N (.rev a) := fun W X sc tg e C k => by
  unfold chkIt at k
  split at k
  · rename_i x p y pos
    simp only [Bool.and_eq_true, decide_eq_true_eq] at k
    obtain ⟨⟨⟨⟨rfl, k1⟩, k2⟩, k3⟩, k4⟩ := k
    obtain ⟨gl, o⟩ := glo_of k1 C.scp
    refine ⟨pi_imp (RT.pi_revA gl (C.free _ (by decide)) (ha.v k4 C k2) (star_of k3 _)) fun σ H R ⟨H0, Wr, ρ, r, g⟩ => ?_, rfl⟩
    refine ⟨H0, Wr, ρ, r, g.bind.mono fun d g v H1 e1 rv => ?_⟩
    obtain ⟨ds, ed, g⟩ := g.o
    have at_ : ∀ {n i : Nat} {vs : List V} {xs : List D} {d : D}, vs.length = xs.length → n = vs.length → xs.reverse[i]? = some d → i < n ∧ xs[n - 1 - i]? = some d := fun {n i vs xs d} hl hn h => by
      have hi : i < xs.length := by
        have := (List.getElem?_eq_some_iff.mp h).1
        simpa using this
      rw [List.getElem?_reverse hi] at h
      exact ⟨by omega, by rw [hn, hl]; exact h⟩
    cases d <;> simp only [revOf, reduceCtorEq] at ed <;> cases ed
    · rename_i xs g
      have hz := RepB.lenT (.inl rv)
      obtain ⟨a', vs, rfl, h1, rr⟩ := RepB.tup_inv (.inl rv)
      refine ⟨a', vs, rfl, .inr ⟨h1, g _ H1 e1 ⟨by rw [List.length_reverse]; exact hz, fun H' p i d h => ?_, fun H' p => ?_⟩⟩⟩
      · obtain ⟨hi, hd⟩ := at_ rr.length rfl h
        obtain ⟨x, hx, hr⟩ := rr.get hd
        refine ⟨⟨hi, vs, x, sqt_pers p h1, hx⟩, fun y H3 yl => ⟨yl.1, ?_⟩⟩
        have := yl.2 vs (sqt_pers p h1)
        rw [hx] at this; cases this
        exact hr.mono p
      · show vs.length ≤ xs.reverse.length
        rw [List.length_reverse, rr.length]
        exact Nat.le_refl _
    · rename_i xs g
      cases rv with
      | lst h1 rr hz =>
        rename_i a' vs o2
        have sq : ∀ H', Pers H1 H' → SqL X.K H' a' vs := fun H' p => .inl (rd_pers p h1)
        refine ⟨a', vs, rfl, .inl ⟨sq H1 (Pers.refl _), g _ H1 e1 ⟨by rw [List.length_reverse]; exact hz, fun H' p i d h => ?_, fun H' p => ?_⟩⟩⟩
        · obtain ⟨hi, hd⟩ := at_ rr.length rfl h
          obtain ⟨x, hx, hr⟩ := rr.get hd
          refine ⟨⟨hi, vs, x, sq H' p, hx⟩, fun y H3 yl => ⟨yl.1, ?_⟩⟩
          have := yl.2 vs (sq H' p)
          rw [hx] at this; cases this
          exact hr.mono p
        · show vs.length ≤ xs.reverse.length
          rw [List.length_reverse, rr.length]
          exact Nat.le_refl _
  · cases k

/-! ### comprehensions -/
theorem ctx_blk {scope : Scope} {s : Shared} {H : Hp} {C : Addr} {cl : List (Str × Addr)} {fp : List Addr} {xe : Value → Shared → Prop} {σ0 : L2.St} (O : CtxOk L cf xa N W X sc) (hm : L.ab = true) (t : TakesF (blkX X s H scope (compEnvC scope cl C X.env) fp xe) (fun c d _ H' => WW xa W c d σ0 H')) :
    CtxOk L cf xa N (fun c _ H' => W c σ0 H') (blkX X s H scope (compEnvC scope cl C X.env) fp xe) (relS scope sc) where
  calm := O.calm
  hotc := fun h => by rw [Lw.ab_md hm] at h; cases h
  gd := O.gd
  nN := O.nN
  nd := O.nd
  scp := by
    have := O.scp
    subst this
    rfl
  room := O.room
  fns := O.fns
  free := O.free
  glb := O.glb
  cw := O.cw
  tk := fun _ => t
  pc := by
    rw [Lw.ab_md hm]
    obtain ⟨_, _, Lf, _, _, hLf⟩ := O.fr
    exact fun σ => TakesF.passAt (X := blkX X s H scope (compEnvC scope cl C X.env) fp xe) (L := Lf) hLf t σ
  fr := O.fr
omit [Wo] in
theorem wipe_set (σ : L2.St) (i : Nat) (v : V) : (wipe σ [i]).set i (some v) = σ.set i (some v) := by
  show (σ.set i none).set i (some v) = _
  rw [List.set_set]
omit [Wo] in
theorem wipe_wipe (σ : L2.St) (i : Nat) (v : V) : wipe (σ.set i (some v)) [i] = wipe σ [i] := by
  show (σ.set i (some v)).set i none = σ.set i none
  rw [List.set_set]
omit [Wo] in
/-- one turn of a comprehension, plainly -/
theorem compL_cons {cond elt : D → Res D} {x : D} {xs : List D} {r : Res (List D)} (h : compL (fun d => noExc (cond d)) elt (x :: xs) = r) (hr : r ≠ .fail) : ∃ b, (cond x >>= fun c => ofO (truth c)) = .ok b ∧
    if b = true then (∃ c, elt x = .exc c ∧ r = .exc c) ∨ (∃ y, elt x = .ok y ∧ ∃ r', compL (fun d => noExc (cond d)) elt xs = r' ∧ r' ≠ .fail ∧ r = r' >>= fun ys => .ok (y :: ys)) else compL (fun d => noExc (cond d)) elt xs = r := by
  unfold compL at h
  cases q : cond x with
  | ok c =>
    rw [q] at h
    simp only [noExc_ok, res_bind_ok] at h ⊢
    cases q2 : truth c with
    | none => rw [q2] at h; exact absurd h.symm hr
    | some b =>
      rw [q2] at h
      simp only [ofO_some, res_bind_ok] at h
      refine ⟨b, rfl, ?_⟩
      cases b with
      | false => simpa using h
      | true =>
        simp only [if_true] at h ⊢
        cases q3 : elt x with
        | ok y =>
          rw [q3] at h
          simp only [res_bind_ok] at h
          refine .inr ⟨y, rfl, _, rfl, fun e => ?_, h.symm⟩
          rw [e] at h
          exact hr h.symm
        | exc c =>
          rw [q3] at h
          exact .inl ⟨c, rfl, h.symm⟩
        | fail => rw [q3] at h; exact absurd h.symm hr
  | exc c => rw [q] at h; exact absurd h.symm hr
  | fail => rw [q] at h; exact absurd h.symm hr
omit [Wo] in
theorem isLitTrue_eq {c : E} (h : isLitTrue c = true) : c = .lit (.bl true) := by
  unfold isLitTrue at h
  split at h
  · rfl
  · cases h
/-- what a comprehension is made of, and its reading -/
def CompM (L : Lw) (cf : Nat → List D → Res D) (xa : Nat → Addr) (X : Cx) (W : WN) (c : E) (e : Expr) : Prop := ∃ (el tg iter : Expr) (ifs : List Expr) (scope : Scope) (own : List (Str × Nat)) (pos : Pos) (wi : TI) (g : TG) (tt : L2.St → TT) (te : L2.St → TE),
  e = .ListComp el [⟨tg, iter, ifs, 0⟩] scope pos ∧ PI X tg iter wi ∧ BlkOk X.N X.env.scope scope own ∧
  (∀ s H C cl fp xe, PG (blkX X s H scope (compEnvC scope cl C X.env) fp xe) tg g) ∧
  (∀ σ s H C cl fp xe, TakesF (blkX X s H scope (compEnvC scope cl C X.env) fp xe) (fun c d _ H' => WW xa W c d σ H') → PTs (blkX X s H scope (compEnvC scope cl C X.env) fp xe) ifs (tt σ)) ∧
  (∀ σ s H C cl fp xe, TakesF (blkX X s H scope (compEnvC scope cl C X.env) fp xe) (fun c d _ H' => WW xa W c d σ H') → PE (blkX X s H scope (compEnvC scope cl C X.env) fp xe) el (te σ)) ∧
  (∀ x, foldedSetIterable iter X.env x = pure x) ∧
  ∀ σ H Q, rd .C X.K W (evE cf L.gl c) σ H Q → tLc wi g (tt σ) (te σ) (own.map (·.2)) σ H Q
theorem m_comp (x : Nat) {it : It} {cond elt : E} (hi : SI L cf xa N it) (hc : SX L cf xa N cond) (he : SX L cf xa N elt) {W : WN} {X : Cx} {sc : Scope} {e : Expr} (O : CtxOk L cf xa N W X sc) (k : chkE L N (.comp x it cond elt) sc e = true) : CompM L cf xa X W (.comp x it cond elt) e := by
  unfold chkE at k
  rw [Bool.and_eq_true] at k
  obtain ⟨ka, k⟩ := k
  split at k
  · rename_i el t p iter ifs scope pos
    simp only [Bool.and_eq_true, decide_eq_true_eq] at k
    obtain ⟨⟨⟨⟨⟨⟨⟨k1, k2⟩, k3⟩, k4⟩, k5⟩, k6⟩, k7⟩, k8⟩ := k
    obtain ⟨pi, ns⟩ := hi W X sc (.Name t p) iter O k5
    -- the test's reading
    have ht : ∃ tt : L2.St → TT, (∀ σ s H C cl fp xe, TakesF (blkX X s H scope (compEnvC scope cl C X.env) fp xe) (fun c d _ H' => WW xa W c d σ H') → PTs (blkX X s H scope (compEnvC scope cl C X.env) fp xe) ifs (tt σ)) ∧
        ∀ σ0 σ H H0 Wr ρ b (Qo : Bool → Hp → Prop), REnv X.K H0 Wr H σ ρ → evT cf L cond ρ = .ok b → (∀ H', Ex H H' → Qo b H') → tt σ0 σ H Qo := by
      split at k6
      · obtain rfl := isLitTrue_eq k6
        refine ⟨fun _ => tYes, fun _ _ _ _ _ _ _ _ => pts_nil, fun σ0 σ H H0 Wr ρ b Qo R e q => ?_⟩
        cases e
        exact q H (Ex.refl H)
      · rename_i c
        rw [Bool.and_eq_true] at k6
        refine ⟨fun σ0 => rdT X.K (fun c _ H' => W c σ0 H') (evT cf L cond), fun σ0 s H C cl fp xe t => pts_one (hc.t _ (blkX X s H scope (compEnvC scope cl C X.env) fp xe) _ c (ctx_blk O ka t) k6.1 k6.2), fun σ0 σ H H0 Wr ρ b Qo R e q => ⟨H0, Wr, ρ, R, ?_⟩⟩
        rw [e]
        exact q
      · cases k6
    obtain ⟨tt, pt, mt⟩ := ht
    have lt : (relS scope sc).names.lookup t = some .local ∨ ((relS scope sc).names.lookup t = some .cell ∧ scope.names.lookup t = some .cell) := by
      unfold locB at k4
      split at k4
      · rename_i h
        exact .inl (lookup_relS_keep (by decide) h)
      · rename_i h
        exact .inr ⟨lookup_relS_keep (by decide) h, h⟩
      · cases k4
    have escp : ∀ {s : Shared} {H : Hp} {C : Addr} {cl : List (Str × Addr)} {fp : List Addr} {xe : Value → Shared → Prop}, (blkX X s H scope (compEnvC scope cl C X.env) fp xe).env.scope = relS scope sc := by
      intro s H C cl fp xe
      have := O.scp
      subst this
      rfl
    refine ⟨el, .Name t p, iter, ifs, scope, [(t, x)], pos, _, gName x, tt, fun σ0 => rd .V X.K (fun c _ H' => W c σ0 H') (evE cf L.gl elt), rfl, pi, blkOk_by (by rw [O.nN, O.scp]; exact k2),
      fun s H C cl fp xe => pg_name (i := x) O.nd (by rw [O.nN]; exact k1) (by rw [escp]; exact lt.elim .inl fun z => .inr z.1) (by rw [escp]; exact lt.elim .inr fun z => .inl (by show (scope.names.lookup t == some NameKind.cell) = true; rw [z.2]; rfl)),
      pt, fun σ0 s H C cl fp xe tk => he.e.v (X := blkX X s H scope (compEnvC scope cl C X.env) fp xe) k8 (ctx_blk O ka tk) k7, set_of ns _, fun σ H Q ⟨H0, Wr, ρ, R, g⟩ => ?_⟩
    · have g : Gd W σ H (evIt cf L.gl it ρ >>= fun l => (compL (fun d => noExc (evE cf L.gl cond (setV ρ x d))) (fun d => evE cf L.gl elt (setV ρ x d)) l) >>= fun r => .ok (.lst r)) fun d => ∀ v H', Ex H H' → FRep X.K H H' v d → Q v H' := g
      refine ⟨H0, Wr, ρ, R, g.bind.mono fun ds g J H1 e1 wk => ?_⟩
      intro Dl hD
      have g := g.bind
      have hz : sizeLine = line := rfl
      -- what is left to be told, by the turn
      have nf : compL (fun d => noExc (evE cf L.gl cond (setV ρ x d))) (fun d => evE cf L.gl elt (setV ρ x d)) ds ≠ .fail := fun e => by
        rw [e] at g
        exact g
      generalize hall : compL (fun d => noExc (evE cf L.gl cond (setV ρ x d))) (fun d => evE cf L.gl elt (setV ρ x d)) ds = all at g nf
      refine ⟨fun i m H' => m = ds.length - i ∧ i ≤ ds.length ∧ Ex H1 H' ∧ ∃ vs acc rest, H' Dl = some (.lst vs) ∧ Reps X.K H' vs acc ∧ acc.length ≤ i ∧ compL (fun d => noExc (evE cf L.gl cond (setV ρ x d))) (fun d => evE cf L.gl elt (setV ρ x d)) (ds.drop i) = rest ∧ rest ≠ .fail ∧ all = rest >>= fun ys => .ok (acc ++ ys),
        ⟨ds.length, by simp, Nat.zero_le _, Ex.new hD, [], [], all, upd_same, .nil, Nat.le_refl _, by simpa using hall, nf, by cases all <;> rfl⟩, ?_⟩
      rintro i m H' ⟨rfl, hil, ex1, vs, acc, rest, hDl, rr, hac, hrest, hnf, hrs⟩
      by_cases hlt : i < ds.length
      · have hd : ds[i]? = some ds[i] := by simp [hlt]
        obtain ⟨go, yl⟩ := wk.go H' (.of ex1) i _ hd
        rw [List.drop_eq_getElem_cons hlt] at hrest
        obtain ⟨b, eb, hb⟩ := compL_cons hrest hnf
        refine .inr ⟨go, fun H2 => ∃ m', m' < ds.length - i ∧ (m' = ds.length - (i + 1) ∧ i + 1 ≤ ds.length ∧ Ex H1 H2 ∧ ∃ vs acc rest, H2 Dl = some (.lst vs) ∧ Reps X.K H2 vs acc ∧ acc.length ≤ i + 1 ∧ compL (fun d => noExc (evE cf L.gl cond (setV ρ x d))) (fun d => evE cf L.gl elt (setV ρ x d)) (ds.drop (i + 1)) = rest ∧ rest ≠ .fail ∧ all = rest >>= fun ys => .ok (acc ++ ys)), fun H2 h => h, fun xv H2 hy => ?_⟩
        obtain ⟨rfl, rx⟩ := yl xv H2 hy
        have R2 : REnv X.K H0 Wr H2 (σ.set x (some xv)) (setV ρ x ds[i]) := ((R.ex e1).ex ex1).set rx
        show wipe ((wipe σ [x]).set x (some xv)) [x] = wipe σ [x] ∧ tt σ ((wipe σ [x]).set x (some xv)) H2 _
        rw [wipe_set]
        refine ⟨wipe_wipe σ x xv, mt _ _ H2 H0 Wr _ b _ R2 eb fun H3 e3 => ?_⟩
        cases b with
        | false =>
          have hb : compL (fun d => noExc (evE cf L.gl cond (setV ρ x d))) (fun d => evE cf L.gl elt (setV ρ x d)) (ds.drop (i + 1)) = rest := by simpa using hb
          exact ⟨_, by omega, rfl, hlt, ex1.trans e3, vs, acc, rest, e3 _ _ hDl, rr.mono (.of e3), by omega, hb, hnf, hrs⟩
        | true =>
          have R3 : REnv X.K H0 Wr H3 ((wipe σ [x]).set x (some xv)) (setV ρ x ds[i]) := by rw [wipe_set]; exact R2.ex e3
          refine ⟨H0, Wr, _, R3, ?_⟩
          simp only [if_true] at hb
          rcases hb with ⟨c, ey, hr⟩ | ⟨y, ey, r', hys, hn', hr⟩
          · rw [ey]
            intro H4 e4
            rw [hr] at hrs
            rw [show all = .exc c from hrs] at g
            exact g H4 (((e1.trans ex1).trans e3).trans e4)
          · rw [ey]
            intro yv H4 e4 ry
            have h4 : H4 Dl = some (.lst vs) := e4 _ _ (e3 _ _ hDl)
            have ex4 : Ex H1 H4 := (ex1.trans e3).trans e4
            have P4 : Pers H4 (upd H4 Dl (.lst (vs ++ [yv]))) := (Pers.refl _).mut h4
            have hl := rr.length
            refine ⟨vs, h4, by have := wk.len; omega, _, by omega, rfl, hlt, Ex.mut ex4 hD, vs ++ [yv], acc ++ [y], r', upd_same, ?_, by rw [List.length_append]; simp; omega, hys, hn', ?_⟩
            · exact ((rr.mono (.of (e3.trans e4))).append (.one ry)).mono P4
            · rw [hrs, hr]
              cases r' with
              | ok ys => show Res.ok (acc ++ y :: ys) = .ok ((acc ++ [y]) ++ ys); simp
              | exc c => rfl
              | fail => rfl
      · have ei : i = ds.length := by omega
        subst ei
        refine .inl ⟨wk.stop H' (.of ex1), ?_⟩
        have : rest = .ok [] := by
          rw [List.drop_length] at hrest
          exact hrest.symm
        subst this
        have hrs : all = .ok acc := by rw [hrs]; show Res.ok (acc ++ []) = _; rw [List.append_nil]
        subst hrs
        exact g _ _ (e1.trans ex1) ⟨Dl, vs, rfl, Evl.fresh_back e1 hD, hDl, rr, by have := wk.len; omega⟩
  · cases k
theorem s_comp (x : Nat) {it : It} {cond elt : E} (hi : SI L cf xa N it) (hc : SX L cf xa N cond) (he : SX L cf xa N elt) : SE L cf xa N (.comp x it cond elt) := fun W X sc e O k => by
  obtain ⟨el, tg, iter, ifs, scope, own, pos, wi, g, tt, te, rfl, h1, h2, h3, h4, h5, h6, h7⟩ := m_comp x hi hc he O k
  obtain ⟨e0, out, Lf, z1, z2, z3⟩ := O.fr
  have ka : L.ab = true := by
    unfold chkE at k
    rw [Bool.and_eq_true] at k
    exact k.1
  exact pe_imp (pe_comp (O.calm (Lw.cb_of ka)) O.nd (O.tk ka) z1 z2 z3 h1 h2 h3 h4 h5 h6) h7
end
end Ev

/-! All expressions are sound; extend by what is locked. -/
namespace PySem.AutoSeq1
theorem ev_extend_list_tuple (l : Addr) (items : Array Value) (n : Nat) (b : Addr) (items2 : Array Value) (n2 : Nat) (dd2 : Option Addr) (sl2 : Array (Option Value)) (hs0 : ¬(!items.isEmpty && Builtin.List.listTooLong (items.size + items2.size)) = true) (hs1 : items.size ≤ sizeLine) (hs2 : items.size + items2.size ≤ sizeLine + 1) :
    Meets (Builtin.«list.extend» ⟨[.ref l, .ref b], []⟩) (fun _ R s => s.heap.get? l = some { cls := .type "list", dict := none, data := .seq items n, slots := #[] } ∧ s.heap.get? b = some { cls := .type "tuple", dict := dd2, data := .seq items2 n2, slots := sl2 } ∧ R (.ok (.ret Value.none)) { s with heap := s.heap.update l (Obj.mapSeq fun x => x ++ items2), toks := s.toks }) :=
  .of_wp fun prog w A R s h => by
    obtain ⟨hp, g, d, tk, os⟩ := s; obtain ⟨hl, hb, h⟩ := h; have f1 := idx_int; have f2 := sub_tuple_tuple; have f3 := sub_list_list; have f4 := sub_tuple_list; have f5 := sub_list_tuple;
    have hz' : (items ++ items2).size ≤ sizeLine + 1 := by rw [Array.size_append]; exact hs2
    wp_walk using (wpAny_updateSeq hl rfl (hz := hs1) (_hz' := hz')), wpAny_loadPart' hl, wpAny_loadPart' hb; exact ⟨_, rfl, h⟩
end PySem.AutoSeq1
namespace Ev
open PySem PySem.Spec
open PyProof.Rows hiding St
open L2
open Evl (Ex)
variable [Wo]
section
variable {L : Lw} {cf : Nat → List D → Res D} {xa : Nat → Addr} {N : List Str} {W : WN} {X : Cx} {sc : Scope}
/-! ### displays of dicts -/
def trP (K : PySem.W.Frag) (W : WN) (cf : Nat → List D → Res D) (gl : Nat → Option D) : List (List Nat) → Es → List (TE × TE)
  | s :: ks, .cons e es => (tC (.str (T s)), rd .V K W (evE cf gl e)) :: trP K W cf gl ks es
  | _, _ => []
def lenE : Es → Nat
  | .nil => 0
  | .cons _ es => lenE es + 1
abbrev SPp (L : Lw) (cf : Nat → List D → Res D) (xa : Nat → Addr) (N : List Str) (es : Es) : Prop := ∀ (W : WN) (X : Cx) (sc : Scope) (ks : List (List Nat)) (keys : List (Option Expr)) (vals : List Expr) (pos : Pos), CtxOk L cf xa N W X sc → chkKeys ks keys = true → keys.length = vals.length → chkEs L N es (vals.map fun _ => Pk.s) sc vals = true →
  PPs X pos keys vals (trP X.K W cf L.gl ks es) ∧ lenE es = ks.length
theorem pp_nil : SPp L cf xa N .nil := fun W X sc ks keys vals pos C k1 k2 k3 => by
  unfold chkEs at k3
  simp only [Bool.and_eq_true, List.isEmpty_iff] at k3
  obtain ⟨_, rfl⟩ := k3
  have : keys = [] := List.eq_nil_of_length_eq_zero k2
  subst this
  cases ks with
  | nil => exact ⟨pps_nil, rfl⟩
  | cons s ks => unfold chkKeys at k1; cases k1
theorem pp_cons {e : E} {es : Es} (he : SX L cf xa N e) (hs : SPp L cf xa N es) : SPp L cf xa N (.cons e es) := fun W X sc ks keys vals pos C k1 k2 k3 => by
  cases vals with
  | nil => unfold chkEs at k3; cases k3
  | cons x xs =>
    cases keys with
    | nil => cases k2
    | cons y ys =>
      cases ks with
      | nil => unfold chkKeys at k1; cases k1
      | cons s ss =>
        unfold chkKeys at k1
        split at k1
        · rename_i heq
          cases heq
          simp only [Bool.and_eq_true, decide_eq_true_eq] at k1
          obtain ⟨⟨q1, q2⟩, q3⟩ := k1
          simp only [List.map_cons] at k3
          unfold chkEs at k3
          simp only [Bool.and_eq_true] at k3
          obtain ⟨⟨⟨k4, k5⟩, k6⟩, k7⟩ := k3
          obtain ⟨h1, h2⟩ := hs W X sc ss _ xs pos C q3 (by simpa using k2) k7
          subst q1
          have e0 := @pe_str X
          rename_i x0 j0 p0
          refine ⟨pps_cons (by rw [T_of]; exact e0) (he.e.v k5 C k4) h1, by rw [lenE, h2]; rfl⟩
        · cases k1
theorem pairs_rd {K : PySem.W.Frag} {gl : Nat → Option D} {H0 : Hp} {Wr : List Addr} {ρ : Env} : ∀ (ks : List (List Nat)) (es : Es) {σ : L2.St} {H : Hp} {Q : List (V × V) → Hp → Prop}, lenE es = ks.length → REnv K H0 Wr H σ ρ →
    Gd W σ H (evEs cf gl es ρ) (fun ds => ∀ vs H', Ex H H' → Reps K H' vs ds → Q ((ks.zip vs).map fun p => (V.str (T p.1), p.2)) H') → tPairs (trP K W cf gl ks es) σ H Q
  | [], .nil, σ, H, Q, _, R, g => g [] H (Ex.refl H) .nil
  | [], .cons _ _, _, _, _, h, _, _ => by cases h
  | _ :: _, .nil, _, _, _, h, _, _ => by cases h
  | s :: ks, .cons e es, σ, H, Q, h, R, g => by
    have g : Gd W σ H (evE cf gl e ρ >>= fun x => evEs cf gl es ρ >>= fun l => .ok (x :: l)) _ := g
    refine ⟨H0, Wr, ρ, R, g.bind.mono fun d g v H1 e1 rv => ?_⟩
    refine pairs_rd ks es (by rw [lenE, List.length_cons] at h; omega) (R.ex e1) ((g.ex e1).bind.mono fun ds g vs H2 e2 rs => ?_)
    exact g (v :: vs) H2 (e1.trans e2) (.cons (rv.mono (.of e2)) rs)
omit [Wo] in
theorem DRep.merge {K : PySem.W.Frag} {H : Hp} : ∀ {ks : List (List Nat)} {vs : List V} {ds : List D} {kvs : List (L2.Key × V)} {es : List D}, (∀ s ∈ ks, s.length ≤ line) → Reps K H vs ds → DRep K H kvs es →
    DRep K H (mergeK kvs ((ks.zip vs).map fun p => (.inr (T p.1), p.2))) ((ks.zip ds).foldl (fun acc p => dPut acc p.1 p.2) es)
  | [], _, _, _, _, _, _, d => by simpa [mergeK] using d
  | s :: ks, _, _, _, _, _, .nil, d => by simpa [mergeK] using d
  | s :: ks, _, _, _, _, h, .cons hv r, d => by
    rw [List.zip_cons_cons, List.zip_cons_cons, List.map_cons, List.foldl_cons]
    exact DRep.merge (ks := ks) (fun x hx => h x (List.mem_cons_of_mem _ hx)) r (d.put (h s (List.mem_cons_self ..)) hv)
theorem foldPut_len : ∀ (l : List (List Nat × D)) (es : List D), (l.foldl (fun acc p => dPut acc p.1 p.2) es).length ≤ es.length + l.length
  | [], es => by simp
  | p :: l, es => by
    have h1 := foldPut_len l (dPut es p.1 p.2)
    have h2 := dPut_len es p.1 p.2
    rw [List.foldl_cons, List.length_cons]
    omega
theorem keys_line : ∀ {ks : List (List Nat)} {keys : List (Option Expr)}, chkKeys ks keys = true → ∀ s ∈ ks, s.length ≤ line
  | [], _, _, _, h => by cases h
  | s :: ks, keys, k, x, h => by
    unfold chkKeys at k
    split at k
    · simp only [Bool.and_eq_true, decide_eq_true_eq] at k
      rcases List.mem_cons.mp h with rfl | h
      · exact k.1.2
      · exact keys_line k.2 x h
    · cases k
theorem keys_some : ∀ {ks : List (List Nat)} {keys : List (Option Expr)}, chkKeys ks keys = true → keys.all (·.isSome) = true ∧ keys.length = ks.length
  | [], keys, k => by
    unfold chkKeys at k
    rw [List.isEmpty_iff] at k
    subst k
    exact ⟨rfl, rfl⟩
  | s :: ks, keys, k => by
    unfold chkKeys at k
    split at k
    · simp only [Bool.and_eq_true] at k
      obtain ⟨h1, h2⟩ := keys_some k.2
      exact ⟨by rw [List.all_cons, h1]; rfl, by rw [List.length_cons, List.length_cons, h2]⟩
    · cases k
/-- a display: a new dict -/
theorem pe_lit_d {es : Es} (hp : SPp L cf xa N es) {ks : List (List Nat)} {keys : List (Option Expr)} {vals : List Expr} {pos : Pos} (C : CtxOk L cf xa N W X sc) (k1 : chkKeys ks keys = true) (k2 : keys.length = vals.length) (k3 : chkEs L N es (vals.map fun _ => Pk.s) sc vals = true) (k4 : ks ≠ []) (k5 : ks.length ≤ 15) :
    PE X (.Dict keys vals pos) (fun σ H Q => ∃ H0 Wr ρ, REnv X.K H0 Wr H σ ρ ∧ Gd W σ H (evEs cf L.gl es ρ) fun ds => ∀ p H' kvs, H p = none → Ex H H' → H' p = some (.dK kvs) → DRep X.K H' kvs (dLit ks ds) → (dLit ks ds).length ≤ 15 → Q (.ref p) H') := by
  obtain ⟨pp, hl⟩ := hp W X sc ks keys vals pos C k1 k2 k3
  obtain ⟨a1, a2⟩ := keys_some k1
  refine pe_imp (pe_disp pp a1 k2 (fun e => k4 (by rw [e] at a2; exact List.eq_nil_of_length_eq_zero a2.symm)) (by omega)) fun σ H Q ⟨H0, Wr, ρ, R, g⟩ p hp => ?_
  have e0 : Ex H (upd H p (.dK [])) := Ex.new hp
  refine pairs_rd ks es hl (R.ex e0) ((g.ex e0).mono fun ds g vs H2 e2 rs => ?_)
  have h2 : H2 p = some (.dK []) := e2 _ _ upd_same
  have P2 : Pers H2 (upd H2 p (.dK (mergeK [] ((ks.zip vs).map fun q => (.inr (T q.1), q.2))))) := (Pers.refl H2).mutD h2
  refine ⟨h2, (ks.zip vs).map fun q => (.inr (T q.1), q.2), by rw [List.map_map]; rfl, by rw [List.length_map, List.length_zip]; omega, ?_⟩
  refine g p _ _ hp (Evl.Ex.mut (e0.trans e2) hp) upd_same (DRep.merge (keys_line k1) (rs.mono P2) .nil) ?_
  have := foldPut_len (ks.zip ds) []
  rw [List.length_zip] at this
  simp only [List.length_nil] at this
  unfold dLit
  omega
theorem pe_replI {X : Cx} {o : Expr} {to : TE} (ho : PE X o to) {i : Int} {y z : List Nat} {j j0 j1 : Nat} {c0 c1 c2 sp ap pos : Pos} (hy : y ≠ []) (hyz : (T y == T z) = false) (hline : (ap.endLine == pos.line) = true) :
    PE X (.Call (.Attribute (.Subscript o (.Constant (.int i) j c0) sp) "replace" ap) [.Constant (.str (T y)) j0 c1, .Constant (.str (T z)) j1 c2] [] pos)
      (fun σ H Q => to σ H fun x H1 => rX X.K x (.int i) H1 fun v H2 => ∃ t : List Nat, v = .str (T t) ∧ t.length + (t.length + 1) * z.length ≤ line ∧ Q (.str (T (StrLaws.replL y z t))) H2) := by
  refine ⟨fun pins s σ H Q I h => ?_⟩
  have ev : wpAny (model X.prog X.w) X.A (eval (.Subscript o (.Constant (.int i) j c0) sp) X.env) (fun v s1 => 1 ≤ s1.toks ∧ EP X pins σ (fun v H2 => ∃ t : List Nat, v = .str (T t) ∧ t.length + (t.length + 1) * z.length ≤ line ∧ Q (.str (T (StrLaws.replL y z t))) H2) v s1) X.xe s := by
    refine Subscript_ (thn (ho.run pins s σ H _ I h) fun v s1 ⟨x, H1, I1, r1, q1⟩ => ?_)
    refine wpAny_Constant_int ?_
    have h2 := ix_X (X := X) o (.Constant (.int i) j c0) pins { s1 with toks := s1.toks + 1 } σ H1 x (.int i) v (.int i s1.toks) _ (I1.tok _) r1 ⟨_, rfl⟩ q1 (slice_of (e := .Constant (.int i) j c0) rfl _ _)
    exact wpAny_mono (wpAny_toks_of (n := 1) (show 1 ≤ s1.toks + 1 by omega) h2) (fun a s2 q => q) fun _ _ q => q.2
  refine PySem.Call_method2 (by rfl) (by rfl) hline (thn ev fun v s1 q => ?_)
  obtain ⟨hk, v', H1, I1, r1, t, e1, hb, q⟩ := q
  subst e1
  obtain ⟨tx, e2⟩ := r1
  subst e2
  refine ⟨"str", _, PySem.F.plainAttrs_str, PySem.F.slot_str_replace, PySem.F.type_str_replace, typeIs_str _ _ _, (fun _ e => nomatch e), Calls.callWith_builtin rfl (Calls.evalArgs_plain (Calls.spliced_cons ?_))⟩
  refine Calls.Constant_str (Calls.spliced_cons (Calls.Constant_str (Calls.spliced_nil ?_)))
  refine PySem.SC.replace (by show s1.toks ≠ 0; omega) (by show s1.toks + 1 ≠ 0; omega) (by show s1.toks ≠ s1.toks + 1; omega) hyz hb fun t' k => ⟨.str (Txt.replace (T t) (T y) (T z)), H1, I1.tok k, ⟨t', rfl⟩, ?_⟩
  have e : Txt.replace (T t) (T y) (T z) = T (StrLaws.replL y z t) := by
    have := StrLaws.replace_list (x := T t) (y := T y) (z := T z) (by
      cases y with
      | nil => exact absurd rfl hy
      | cons c r => show 1 ≤ (c :: r).length; simp)
    rw [← T_tl (Txt.replace (T t) (T y) (T z))]
    show T (Txt.replace (T t) (T y) (T z)).cps.toList = _
    rw [this]
    rfl
  rw [e]
  exact q
theorem replL_len {y z t : List Nat} (hy : y ≠ []) : (StrLaws.replL y z t).length ≤ t.length + (t.length + 1) * z.length := by
  have h := StrLaws.replace_list (x := T t) (y := T y) (z := T z) (by
    cases y with
    | nil => exact absurd rfl hy
    | cons c r => show 1 ≤ (c :: r).length; simp)
  have h2 := TK.replace_len (T t) (T y) (T z)
  have h3 : (StrLaws.replL y z t).length = (Txt.replace (T t) (T y) (T z)).length := by
    show (StrLaws.replL (T y).cps.toList (T z).cps.toList (T t).cps.toList).length = _
    rw [← h]
    simp [Str.length]
  rw [h3]
  exact h2
theorem s_repl {a : E} (ha : SE L cf xa N a) (i : Int) (y z : List Nat) : SE L cf xa N (.repl a i y z) := fun W X sc e C k => by
  unfold chkE at k
  split at k
  · rename_i o k' j0 c0 sp n ap u j1 c1 v j2 c2 p
    simp only [Bool.and_eq_true, decide_eq_true_eq, Bool.not_eq_true', List.isEmpty_eq_false_iff] at k
    obtain ⟨⟨⟨⟨⟨⟨⟨rfl, k1⟩, rfl⟩, rfl⟩, rfl⟩, k2⟩, k3⟩, k4⟩ := k
    refine pe_imp (pe_replI (ha.b C k4) k2 k3 k1) fun σ H Q ⟨H0, Wr, ρ, R, g⟩ => ?_
    refine ⟨H0, Wr, ρ, R, g.bind.mono fun dx g vx H1 e1 rx => ?_⟩
    obtain ⟨dt, ed, g⟩ := g.bind.o
    refine ⟨dx, .int k', dt, rx, .inl (.int _), ed, fun w r => ?_⟩
    obtain ⟨d, ed2, g⟩ := g.o
    cases dt <;> simp only [opRepl, reduceCtorEq] at ed2
    rename_i t
    split at ed2
    · rename_i hb
      cases ed2
      obtain ⟨rfl, _⟩ := r.str_inv
      exact ⟨t, rfl, hb, g _ H1 e1 (.str _ (Nat.le_trans (replL_len k2) hb))⟩
    · cases ed2
  · cases k
theorem s_pick (ks : List (List Nat)) {es : Es} {k : E} (hp : SPp L cf xa N es) (hk : SE L cf xa N k) : SE L cf xa N (.pick ks es k) := fun W X sc e C q => by
  unfold chkE at q
  split at q
  · rename_i keys vals dp y pos
    simp only [Bool.and_eq_true, decide_eq_true_eq, Bool.not_eq_true', List.isEmpty_eq_false_iff] at q
    obtain ⟨⟨⟨⟨⟨⟨k1, k2⟩, k3⟩, k4⟩, k5⟩, k6⟩, k7⟩ := q
    refine pe_imp (pe_dget (by have := room_u C; omega) (pe_lit_d hp C k1 k4 k5 k2 k3) (hk.b C k6) (nosl_of k7)) fun σ H Q ⟨H0, Wr, ρ, R, g⟩ => ?_
    refine ⟨H0, Wr, ρ, R, g.bind.mono fun ds g p H1 kvs hp e1 hk dr hz => ?_⟩
    refine ⟨H0, Wr, ρ, R.ex e1, (g.ex e1).bind.mono fun dy g vy H2 e2 ry => ?_⟩
    obtain ⟨d, ed, g2⟩ := g.o
    clear g
    cases dy <;> simp only [dGet, reduceCtorEq] at ed
    rename_i s
    obtain ⟨rfl, hl⟩ := ry.str_inv
    have ha2 : Rd H2 p (.dK kvs) := .inl (e2 _ _ hk)
    rcases dr.val s with ⟨h1, _⟩ | ⟨d', w, h1, h2, h3⟩
    · rw [h1] at ed; cases ed
    · rw [h1] at ed; cases ed
      exact ⟨p, w, rfl, .inl ⟨kvs, .inr (T s), ha2, rfl, h2.symm⟩, g2 w H2 (e1.trans e2) (h3.mono (.of e2))⟩
  · cases q
/-- a call without arguments, which raises nothing -/
theorem s_call0 (f : Nat) : SE L cf xa N (.call0 f) := fun W X sc e C q => by
  unfold chkE at q
  rw [Bool.and_eq_true] at q
  obtain ⟨kc, q⟩ := q
  split at q
  · rename_i x p pos
    simp only [Bool.and_eq_true, decide_eq_true_eq] at q
    obtain ⟨⟨rfl, k1⟩, k2⟩ := q
    split at k2
    · rename_i fd hf
      simp only [Bool.and_eq_true, decide_eq_true_eq, List.isEmpty_iff] at k2
      obtain ⟨gl, o⟩ := glo_of k1 C.scp
      obtain ⟨fa, fdt, ps, kk, h1, h2, h3, h4⟩ := C.fns f fd hf
      have main : ∀ {CX : CXT}, Room kk X.A → FnOk X.prog X.w X.K X.mg X.base CX kk fa fdt ps (spF X.K xa (cf f) fd) → (∀ H s e s', CX X.stack H s (fun _ _ _ => False) e s' → False) → PE X (.Call (.Name (L.nm f) p) [] [] pos) (rd (kd L (.call0 f)) X.K W (evE cf L.gl (.call0 f))) := fun {CX} hr F hx => by
        refine pe_imp (pe_call0 (E := fun _ _ _ => False) (dvs := []) (ds := []) F hr gl h1 h2 h3 .nil (fun pins σ H s e s' I c => (hx H s e s' c).elim) (nm1 o).1) fun σ H Q ⟨H0, Wr, ρ, R, g⟩ => ?_
        refine ⟨[], [], by rw [k2.1]; exact .nil, by rw [k2.2]; rfl, ?_⟩
        have g : Gd W σ H (noExc (cf f [])) (fun d => ∀ v H', Ex H H' → Rep X.K H' v d → Q v H') := g
        cases q : cf f [] with
        | ok d =>
          rw [q] at g
          refine fun v H' e2 r => g v H' e2.nil ?_
          rw [k2.2] at r
          exact r
        | exc c => rw [q] at g; exact g.elim
        | fail => rw [q] at g; exact g.elim
      cases hm : L.md with
      | any => rw [hm] at h4; exact main (CX := L2.CX X.prog X.w) h4.1 h4.2 fun H s e s' ⟨_, _, _, _, _, _, _, _, _, _, _, _, h⟩ => h
      | clean => rw [hm] at h4; exact main (CX := L2N.CX X.prog X.w) h4.1 h4.2 fun H s e s' ⟨_, _, _, _, _, _, _, _, _, _, _, _, h⟩ => h
      | hot => unfold Lw.cb at kc; rw [hm] at kc; cases kc
    · cases k2
  · cases q
mutual
theorem x_all : ∀ c : E, SX L cf xa N c
  | .var i => x_plain (s_var i) rfl
  | .bor i => x_plain (s_bor i) rfl
  | .lit d => x_plain (s_lit d) rfl
  | .glob g => x_plain (s_glob g) rfl
  | .tup es => x_plain (s_tup (es_all es).1) rfl
  | .lst es => x_plain (s_lst (es_all es).1) rfl
  | .bin o a b => x_plain (s_bin o (x_all a).e (x_all b).e) rfl
  | .neg a => x_plain (s_neg (x_all a).e) rfl
  | .lrng a => x_plain (s_lrng (x_all a).e) rfl
  | .revs a => x_plain (s_revs (x_all a).e) rfl
  | .prt i k => x_plain (s_prt i k) rfl
  | .dget i k => x_plain (s_dget i (x_all k).e) rfl
  | .din i k => x_one (m_din i (x_all k).e) rfl rfl
  | .dlen i => x_plain (s_dlen i) rfl
  | .dar i => x_plain (fun W X sc e C k => by unfold chkE at k; cases k) rfl
  | .nks i => x_plain (s_nks i) rfl
  | .nsrt i => x_plain (s_nsrt i) rfl
  | .lix a b => x_plain (s_lix (x_all a).e (x_all b).e) rfl
  | .call0 f => x_plain (s_call0 f) rfl
  | .repl a i y z => x_plain (s_repl (x_all a).e i y z) rfl
  | .pick ks es k => x_plain (s_pick ks (es_all es).2.2 (x_all k).e) rfl
  | .isb k n a => x_one (m_isb k n (x_all a).e) rfl rfl
  | .dnil => x_plain (fun W X sc e C k => by unfold chkE at k; cases k) rfl
  | .not a => x_not (x_all a)
  | .and a b => x_and (x_all a) (x_all b)
  | .or a b => x_or (x_all a) (x_all b)
  | .cmp o a b => x_one (m_cmp o (x_all a).e (x_all b).e) rfl rfl
  | .chain o p a b c => x_one (m_chain o p (x_all a).e (x_all b).e (x_all c).e) rfl rfl
  | .isN a => x_one (m_isN (x_all a).e) rfl rfl
  | .notN a => x_one (m_notN (x_all a).e) rfl rfl
  | .ife c a b => x_ife (x_all c) (x_all a) (x_all b)
  | .call f es => x_plain (s_call f (es_all es).1) rfl
  | .bf b es => x_plain (s_bf b (es_all es).1 (es_all es).2.1) rfl
  | .mt m a es => x_plain (s_mt m (x_all a).e (es_all es).1) rfl
  | .ix a b => x_plain (s_ix (x_all a).e (x_all b).e) rfl
  | .sl a lo hi => x_plain (s_sl (x_all a).e (x_all lo).e (x_all hi).e) rfl
  | .comp x it c e => x_plain (s_comp x (it_all it) (x_all c) (x_all e)) rfl
theorem es_all : ∀ es : Es, SEs L cf xa N es ∧ (∀ a, es = .cons a .nil → SX L cf xa N a) ∧ SPp L cf xa N es
  | .nil => ⟨es_nil, fun _ h => (nomatch h), pp_nil⟩
  | .cons e es => ⟨es_cons (x_all e) (es_all es).1, fun a h => (by cases h; exact x_all _), pp_cons (x_all e) (es_all es).2.2⟩
theorem it_all : ∀ it : It, SI L cf xa N it
  | .seq a => i_seq (x_all a).e
  | .txt a => i_txt (x_all a).e
  | .rng1 a => i_rng1 (x_all a).e
  | .rng2 a b => i_rng2 (x_all a).e (x_all b).e
  | .rev a => i_rev (x_all a).e
  | .revr a => i_revr (x_all a).e
  | .dks i => i_dks i
end
/-- xs.extend(ys), ys locked, or a tuple -/
def rExt (K : PySem.W.Frag) : V → List V → Hp → VK → Prop := fun x vs H Q => ∃ l b xs zs, x = .ref l ∧ vs = [.ref b] ∧ H l = some (.lst xs) ∧ (Rd H b (.lst zs) ∨ SqT K H b zs) ∧ xs.length + zs.length ≤ sizeLine ∧ Q .non (upd H l (.lst (xs ++ zs)))
omit [Wo] in
theorem mt_ext : MtM X "list.extend" (rExt X.K) := by
  intro pins s σ H x vs v us Q I rx rv h
  obtain ⟨l, b, xs, zs, rfl, rfl, hH, hB, hz, q⟩ := h
  cases rx
  obtain ⟨u, rfl, ru⟩ := rv.one
  cases ru
  obtain ⟨z, its, n, r, hl, e⟩ := I.lstM hH
  have fin : ∀ its2 : List Value, Vals zs its2 → EP X pins σ Q .none { s with heap := s.heap.update l (Obj.mapSeq fun x => x ++ its2.toArray), toks := s.toks } := fun its2 r2 => by
    refine ⟨.non, _, I.lset (its' := its ++ its2) hH e (by simp) (r.append r2) ?_, rfl, q⟩
    rw [List.length_append]
    omega
  rcases hB with hB | hB
  · obtain ⟨z2, its2, n2, r2, hl2, e2⟩ := rd_lst I hB
    have hsz : its.toArray.size + its2.toArray.size ≤ sizeLine := by rw [List.size_toArray, List.size_toArray]; omega
    have hlong : ¬ (!its.toArray.isEmpty && Builtin.List.listTooLong (its.toArray.size + its2.toArray.size)) = true := by
      rw [notLongL hsz, Bool.and_false]
      exact Bool.false_ne_true
    exact call_meets PySem.F.slot_list_extend ⟨_, e, rfl⟩ PySem.F.entry_list_extend (PySem.F.args_list_extend_2 _ _)
      (AutoSeq1.list_extend_list_list_0 l its.toArray n b its2.toArray n2 hlong (by rw [List.size_toArray]; omega) (by omega)) ⟨e, e2, fin its2 r2⟩
  · obtain ⟨its2, r2, ⟨⟨oc, od, odt, osl⟩, e2, hc, n2, hd⟩, _⟩ := I.tuple hB
    have hl2 := r2.length
    simp only at hc hd
    subst hc hd
    have hsz : its.toArray.size + its2.toArray.size ≤ sizeLine := by rw [List.size_toArray, List.size_toArray]; omega
    have hlong : ¬ (!its.toArray.isEmpty && Builtin.List.listTooLong (its.toArray.size + its2.toArray.size)) = true := by
      rw [notLongL hsz, Bool.and_false]
      exact Bool.false_ne_true
    exact call_meets PySem.F.slot_list_extend ⟨_, e, rfl⟩ PySem.F.entry_list_extend (PySem.F.args_list_extend_2 _ _)
      (AutoSeq1.ev_extend_list_tuple l its.toArray n b its2.toArray n2 _ _ hlong (by rw [List.size_toArray]; omega) (by omega)) ⟨e, e2, fin its2 r2⟩
end
end Ev

/-! Calls within an except suite of a def that raises nothing, whatever is handled: of_one_class. -/
namespace Ev
open PySem PySem.Spec
open PyProof.Rows hiding St
open L2
open Evl (Ex)
open L2H (RoomH PinOk inv_startH cxH)
variable [Wo]
/-- what such a def promises -/
structure FnQ (P : Program) (w : World) (K : PySem.W.Frag) (mg : Str → Option Value) (base : Heap) (CX : CXT) (k : Nat) (f : Addr) (fd : FuncData) (ps : List Str) (sp : (Addr × Obj) → Sp) : Prop where
  len : ∀ p vs H Q E, sp p vs H Q E → vs.length = ps.length
  run : ∀ (A : Around) (outer : List PySem.Env) (s : Shared) (H : Hp) (args : Args) (us : List Value) (vs : List V) (Q : VK) (E : XK) (p : Addr × Obj), RoomH k A → PinOk outer H s p → Env0 P w K mg base A outer s H → BindsTo s fd args (ps.zip us) → Vals vs us → sp p vs H Q E →
    codeAny (model P w) A (.call (.ref f) args) (CR CX outer P w H s Q E) s
theorem fn_ofQ {CX : CXT} {P : Program} {w : World} {K : PySem.W.Frag} {mg : Str → Option Value} {base : Heap} {k : Nat} {f : Addr} {name qual : Str} {params : Arguments} {body : List Stmt} {scope : Scope} {dV kV doc pm cdv ct oc : Value} {an od : Option Addr}
    {osl : Array (Option Value)} {N ps : List Str} {sp : (Addr × Obj) → Sp} (lk : K.lookup f = some ⟨oc, od, .func (PySem.W.fnOf name qual params body scope dV kV doc pm an cdv ct), osl⟩) (hcd : PySem.W.codeIn K cdv qual = true) (S : FnScope N ps scope)
    (len : ∀ p vs H Q E, sp p vs H Q E → vs.length = ps.length)
    (hbody : ∀ (A : Around) (outer : List PySem.Env) (s : Shared) (H : Hp) (vs : List V) (Q : VK) (E : XK) (p : Addr × Obj), RoomH k (A.deeper (envOfC qual scope s.heap.objs.size f cdv)) → sp p vs H Q E →
      ∃ t, PSs (cxH CX P w K mg base N qual scope f cdv A outer s H E p) body t ∧ t { nx := fun _ H' => Q .non H', rt := Q } (L2.start N vs) H) :
    FnQ P w K mg base CX (k + 1) f (PySem.W.fnOf name qual params body scope dV kV doc pm an cdv ct) ps sp := by
  refine ⟨len, fun A outer s H args us vs Q E p hr hpin e0 hb r hsp => ?_⟩
  have hl := len _ _ _ _ _ hsp
  have KX : K.In s.heap := e0.mod.kin.keeps fun b o e => (e0.bs b o e).1
  have lim : s.heap.NoLimit := e0.mod.nolimit.keeps fun b o e => (e0.bs b o e).1
  have hkind : ∀ y ∈ ps.zip us, scope.names.lookup y.1 = some .local ∨ (scope.names.lookup y.1 = some .cell ∧ ((cellsFrom (s.heap.objs.size + 1) scope.names []).lookup y.1).isSome = true) := fun ⟨n, v⟩ hy => by
    rcases S.par n (List.of_mem_zip hy).1 with q | q
    · exact .inl q
    · exact .inr ⟨q, PySem.W.cellsFrom_some _ _ _ (.inl q)⟩
  refine codeAny_call_function hr.depth (KX _ _ lk) rfl S.co S.gen rfl (PySem.W.codeRec_of KX hcd) (hb _ _ _ _ ?_)
  refine wpAny_newFunctionEnv_cells S.kind hkind fun env he s1 x => ?_
  subst he
  refine ⟨lim.keeps x.toInCall.keep, codeAny_func ?_⟩
  obtain ⟨t, ht, hq⟩ := hbody A outer s H vs Q E p (hr.deeper _) hsp
  have I : Inv (cxH CX P w K mg base N qual scope f cdv A outer s H E p) [] (L2.start N vs) H s1 := inv_startH S hpin e0 hl r x
  refine wpAny_mono (ht.run [] s1 (L2.start N vs) H _ I hq) (fun fl s' hs => ?_) fun e s' hs => hs
  have fin : ∀ {σ' : L2.St} {H' : Hp} {v : V} {u : Value}, Inv (cxH CX P w K mg base N qual scope f cdv A outer s H E p) [] σ' H' s' → RelV v u → Q v H' → CE outer P w H s Q u s' :=
    fun {σ' H' v u} J rv q => ⟨v, H', J.os, J.bare, J.base, J.hok, rv, q⟩
  cases fl with
  | ret u =>
    obtain ⟨v, σ', H', J, rv, q⟩ := hs
    exact fin J rv q
  | next =>
    obtain ⟨σ', H', J, q⟩ := hs
    exact fin (v := V.non) (u := Value.none) J rfl q
  | brk =>
    obtain ⟨_, _, _, q⟩ := hs
    exact False.elim q
  | cont =>
    obtain ⟨_, _, _, q⟩ := hs
    exact False.elim q
/-- the call, p being among what is pinned -/
def tCallQ (sp : (Addr × Obj) → Sp) (t : TA) (p : Addr × Obj) : TE := fun σ H Q => t σ H fun vs H1 => sp p vs H1 Q fun _ _ _ => False
theorem pe_callQ {X : Cx} {CX : CXT} {k : Nat} {f : Addr} {fd : FuncData} {ps : List Str} {sp : (Addr × Obj) → Sp} {x : Str} {q pos : Pos} {e : Expr} {es : List Expr} {t : TA} {p : Addr × Obj}
    (F : FnQ X.prog X.w X.K X.mg X.base CX k f fd ps sp) (hr : RoomH k X.A) (hp : p ∈ X.pn) (hg : Gl X x) (hm : X.mg x = some (.ref f)) (hk : PySem.W.keepIn X.K (.ref f) = true) (hb : Binds X.K fd ps []) (hx : ∀ H s e s', CX X.stack H s (fun _ _ _ => False) e s' → False)
    (ha : PA X (e :: es) t) (hdb : (x == ("__debug__" : Str)) = false) (he : starEach (e :: es) X.env = (false, eval e X.env) :: starEach es X.env) (hpl : (backTo pos (starEach es X.env)).any (·.1) = false) :
    PE X (.Call (.Name x q) (e :: es) [] pos) (tCallQ sp t p) := by
  refine ⟨fun pins s σ H Q I h => ?_⟩
  refine wpAny_Call_Name_kw (ld_glob I hg hm ?_ hdb)
  refine PySem.W.callWith_K (h₀ := X.base) I.ok.mod.kin hk (thn (ha.run pos pins s σ H _ I h) fun us s1 ⟨vs, H1, I1, r, q⟩ => ⟨I1.kIn, ?_⟩) he hpl
  have hl : us.length = ps.length := by rw [← r.length]; exact F.len _ _ _ _ _ q
  have b := hb s1 us I1.kIn (by rw [List.append_nil]; exact hl)
  rw [List.append_nil] at b
  have P1 := I1.pin p (List.mem_append_left _ hp)
  have hpin : PinOk X.stack H1 s1 p := ⟨P1.1, P1.2.1, fun hm => (List.mem_cons.mp (I1.stkSub p.1 hm)).elim P1.2.2.1 P1.2.2.2.1, P1.2.2.2.2⟩
  refine wpAny_call (codeAny_mono (F.run X.A X.stack s1 H1 ⟨us, []⟩ us vs Q _ p hr hpin I1.env0 b r q) fun r s' hq => ?_)
  cases r with
  | error e => exact (hx _ _ _ _ hq).elim
  | ok fl =>
    cases fl with
    | ret u => exact I1.after hq
    | next => exact False.elim hq
    | brk => exact False.elim hq
    | cont => exact False.elim hq
/-! ### isinstance(e, C) -/
theorem call_isQ {X : Cx} {a D : Addr} {oe : Obj} (C : ExcC X.K D) (hp : (a, oe) ∈ X.pn) (hz : Zc (.ref D) none oe) (hf : ∃ vs, oe.data = .fields vs) : CallR X (.builtin "isinstance") (rIsE X.K D a) := by
  intro pins s σ H xs us Q I r h
  obtain ⟨c, cv, b, rfl, hcv, e, q⟩ := h
  cases r with
  | cons rx rr =>
    cases rr with
    | cons rt rr =>
      cases rr
      cases rx
      have ec := hcv _ rt
      subst ec
      obtain ⟨hget, _⟩ := I.pin (a, oe) (List.mem_append.mpr (.inl hp))
      obtain ⟨vs, hv⟩ := hf
      have J : PySem.W.InstAt s.heap a oe D none := by
        obtain ⟨oc, od, oda, osl⟩ := oe
        obtain ⟨h1, h2⟩ := hz
        dsimp only at h1 h2 hv
        subst h1 h2 hv
        exact ⟨hget, rfl, rfl, trivial⟩
      exact PySem.W.kia_one (PySem.W.handS_kitx_exc C.hg C.hk C.hs C.hd C.ha C.hn C.ht C.hm) I.kIn J e (fun z => nomatch z) fun tk => ⟨.bl b, H, I.kept (t' := tk) fun _ _ z => z, rfl, q⟩
/-! ### l.count(x) -/
def rCntD (K : PySem.W.Frag) : V → List V → Hp → VK → Prop := fun x xs H Q => ∃ (dx d : D) (v : V) (ds : List D), xs = [v] ∧ dx = .lst ds ∧ RepB K H x dx ∧ Rep K H v d ∧ d.depth ≤ eqDeep ∧ Q (.int (ds.countP fun y => D.eqv y d : Nat)) H
omit [Wo] in
theorem pyL_count (x : D) : ∀ ds : List D, ((D.pyL ds).countP fun y => PyData.eqv y x.py) = ds.countP fun y => D.eqv y x
  | [] => rfl
  | d :: ds => by
    show (d.py :: D.pyL ds).countP _ = _
    rw [List.countP_cons, List.countP_cons, py_eqv, pyL_count x ds]
omit [Wo] in
theorem mt_countD {X : Cx} (hu : X.A.units + 155 < cLine) : MtR X "list.count" (rCntD X.K) := by
  intro pins s σ H x xs v us Q I rx rxs h
  obtain ⟨dx, d, y, ds, rfl, rfl, hb, hy, hd, q⟩ := h
  obtain ⟨u, rfl, ru⟩ := rxs.one
  obtain ⟨a, vs, rfl, hR, rr⟩ := hb.lst_inv
  cases rx
  obtain ⟨z, its, n, r, hl, e⟩ := rd_lst I hR
  obtain ⟨as, r1⟩ := Dp.readsAll I (D.pyL ds) vs its (Reps.dp rr) r
  obtain ⟨bs, r2⟩ := Dp.reads I d.py y u (Rep.dp hy) ru
  have hp := py_depth d
  unfold eqDeep at hd
  refine PySem.SeqAt.count_list_data (vs := its.toArray) (xs := D.pyL ds) (d := d.py) ⟨_, e, rfl, n, rfl⟩ (by simpa using r1) r2 (py_plainL _) (py_plain _) (by omega) ?_
  rw [pyL_count]
  exact ⟨.int _, H, I.tok _, ⟨_, rfl⟩, q⟩
end Ev

/-! The def of_one_class: its text, its promise. -/
namespace Ev
open PySem PySem.Spec
open PyProof.Rows hiding St
open L2
open Evl (Ex)
open L2H (RoomH PinOk inv_startH cxH)
variable [Wo]
/-- isinstance(e, C) for each C -/
def chkIs (xn : Nat → Option Str) (e : Str) (sc : Scope) : List Nat → List Expr → Bool
  | [], es => es.isEmpty
  | c :: cs, .Call (.Name i _) [.Name e' _, .Name x _] [] _ :: es => decide (i = ("isinstance" : Str)) && gloB sc i && decide (e' = e) && visB sc e && decide (xn c = some x) && gloB sc x && chkIs xn e sc cs es
  | _, _ => false
def chkOd (xn : Nat → Option Str) (o : Od) (sc : Scope) : List Stmt → Bool
  | [.Assign [.Name v1 _] (.List es1 _) _, .Assign [.Name v2 _] (.BinOp (.Name v3 _) .Add (.List es2 _) _) _,
      .Return (some (.BoolOp .And [.Call (.Name i _) [.Name e1 _, .Name ve _] [] _, .Compare (.Call (.Attribute (.Name v4 _) n ap) [.Constant (.bool true) _ _] [] cp) [.Eq] [.Constant (.int k) _ _] _] _)) _] =>
    decide (v1 = o.v) && decide (v2 = o.v) && decide (v3 = o.v) && decide (v4 = o.v) && locB sc o.v && visB sc o.v && decide (e1 = o.e) && visB sc o.e && decide (i = ("isinstance" : Str)) && gloB sc i && decide (ve = ("ValueError" : Str)) && gloB sc ve &&
    decide (n = ("count" : Str)) && (ap.endLine == cp.line) && decide (k = 1) && chkIs xn o.e sc o.c1 es1 && chkIs xn o.e sc o.c2 es2
  | _ => false
/-- its answer for class y, by the table -/
def Od.of (o : Od) (kt : Nat → Nat → Option Bool) (y : Nat) : Option Bool := if (o.c1 ++ o.c2).all fun c => (kt y c).isSome then some (decide (((o.c1 ++ o.c2).countP fun c => kt y c == some true) = 1)) else none
/-- what it promises: of an exception of a known class -/
def spOd (K : PySem.W.Frag) (xa : Nat → Addr) (o : Od) (kt : Nat → Nat → Option Bool) (p : Addr × Obj) : Sp := fun vs H Q _ => vs = [.ref p.1] ∧ ∃ y b, Zc (.ref (xa y)) none p.2 ∧ (∃ fs, p.2.data = .fields fs) ∧ o.of kt y = some b ∧ ∀ H', Ex H H' → Q (.bl b) H'
/-- what the classes must say -/
structure KtOk (K : PySem.W.Frag) (xa : Nat → Addr) (xn : Nat → Option Str) (kt : Nat → Nat → Option Bool) : Prop where
  k : ∀ y c b, kt y c = some b → PySem.W.kitOne K (.ref (xa y)) (.ref (xa c)) = some b
  v : ∀ y c b, kt y c = some b → PySem.W.kitOne K (.ref (xa y)) (.type "ValueError") = some true
  c : ∀ y c b, kt y c = some b → ExcC K (xa y)
section
variable {X : Cx} {xa : Nat → Addr} {xn : Nat → Option Str} {kt : Nat → Nat → Option Bool} {sc : Scope} {e : Str} {a : Addr} {oe : Obj} {y : Nat}
theorem pe_isx {i x : Str} {p1 p2 p3 p4 : Pos} {cv : V} {cu : Value} {b : Bool} (q : X.env.scope = sc) (hN : X.N[0]? = some e) (hi : i = ("isinstance" : Str)) (h1 : gloB sc i = true) (hv : visB sc e = true) (hx : PE X (.Name x p3) (tC cv)) (free : X.mg "isinstance" = none)
    (C : ExcC X.K (xa y)) (hp : (a, oe) ∈ X.pn) (hz : Zc (.ref (xa y)) none oe) (hf : ∃ fs, oe.data = .fields fs) (hc : ∀ u, RelV cv u → u = cu) (hk : PySem.W.kitOne X.K (.ref (xa y)) cu = some b) :
    PE X (.Call (.Name i p1) [.Name e p2, .Name x p3] [] p4) (fun σ H Q => σ[0]? = some (some (.ref a)) ∧ Q (.bl b) H) := by
  subst hi
  obtain ⟨gl, o⟩ := glo_of h1 q
  obtain ⟨v, o2⟩ := vis_of hv q
  obtain ⟨d1, d2, _⟩ := nm1 o2
  refine pe_imp (pe_callB (call_isQ C hp hz hf) gl free PyProof.Rows.boot_isinstance (pa_cons (pe_var hN v d1 d2) (pa_cons hx pa_nil (star_of rfl _)) (star_of rfl _)) (nm1 o).2.2 (nm1 o).1 (star_of rfl _) (plain_star fun e he => by
    rcases List.mem_cons.mp he with rfl | he
    · rfl
    · cases he)) fun σ H Q ⟨hs, hq⟩ => ?_
  exact ⟨_, hs, cv, cu, b, rfl, hc, hk, hq⟩
theorem pa_isx (q : X.env.scope = sc) (hN : X.N[0]? = some e) (free : X.mg "isinstance" = none) (Kt : KtOk X.K xa xn kt) (hxn : ∀ c x, xn c = some x → X.mg x = some (.ref (xa c))) (hp : (a, oe) ∈ X.pn) (hz : Zc (.ref (xa y)) none oe) (hf : ∃ fs, oe.data = .fields fs) :
    ∀ (cs : List Nat) (es : List Expr), chkIs xn e sc cs es = true → (∀ c ∈ cs, (kt y c).isSome = true) → PA X es (fun σ H Q => σ[0]? = some (some (.ref a)) ∧ Q (cs.map fun c => .bl ((kt y c).getD false)) H) := by
  intro cs
  induction cs with
  | nil =>
    intro es k _
    simp only [chkIs, List.isEmpty_iff] at k
    subst k
    exact pa_imp pa_nil fun σ H Q ⟨_, h⟩ => h
  | cons c cs ih =>
    intro es k hk
    unfold chkIs at k
    split at k
    · rename_i h; cases h
    · rename_i c' cs' i p1 e' p2 x p3 p4 es' heq
      cases heq
      simp only [Bool.and_eq_true, decide_eq_true_eq] at k
      obtain ⟨⟨⟨⟨⟨⟨k1, k2⟩, rfl⟩, k4⟩, k5⟩, k6⟩, k7⟩ := k
      have h0 := hk c (List.mem_cons_self ..)
      obtain ⟨b, hb⟩ := Option.isSome_iff_exists.mp h0
      obtain ⟨gx, ox⟩ := glo_of k6 q
      have px : PE X (.Name x p3) (tC (.ref (xa c))) := pe_glob gx (hxn c x k5) rfl (nm1 ox).1
      have p := pe_isx (p1 := p1) (p2 := p2) (p4 := p4) q hN k1 k2 k4 px free (Kt.c y c b hb) hp hz hf (fun u hu => hu) (Kt.k y c b hb)
      refine pa_imp (pa_cons p (ih es' k7 fun d hd => hk d (List.mem_cons_of_mem _ hd)) (star_of rfl _)) fun σ H Q ⟨hs, h⟩ => ?_
      exact ⟨hs, hs, by rw [List.map_cons, hb] at h; exact h⟩
    · cases k
omit [Wo] in
theorem reps_bl {K : PySem.W.Frag} {H : Hp} : ∀ l : List Bool, Reps K H (l.map V.bl) (l.map D.bl)
  | [] => .nil
  | b :: l => .cons (.bl b) (reps_bl l)
omit [Wo] in
theorem count_bl : ∀ l : List Bool, (l.map D.bl).countP (fun y => D.eqv y (.bl true)) = l.countP id
  | [] => rfl
  | b :: l => by
    rw [List.map_cons, List.countP_cons, List.countP_cons, count_bl l]
    cases b <;> simp [D.eqv]
/-- the body's reading -/
theorem od_body {W : WN} (o : Od) (q : X.env.scope = sc) (nN : X.N = [o.e, o.v]) (nd : X.N.Nodup) (hu : X.A.units + 160 < cLine) (free : X.mg "isinstance" = none) (freeV : X.mg "ValueError" = none) (Kt : KtOk X.K xa xn kt) (hxn : ∀ c x, xn c = some x → X.mg x = some (.ref (xa c)))
    (fn : ∀ x, X.fn x = true) (hp : (a, oe) ∈ X.pn) (hz : Zc (.ref (xa y)) none oe) (hf : ∃ fs, oe.data = .fields fs) (lz : (o.c1 ++ o.c2).length ≤ 1000) {b : Bool} (hb : o.of kt y = some b) (hne : ∃ c, c ∈ o.c1 ++ o.c2) {body : List Stmt} (k : chkOd xn o sc body = true) :
    ∃ t, PSs X body t ∧ ∀ (DE : Ends) H, (∀ H', Ex H H' → DE.rt (.bl b) H') → t DE [some (.ref a), none] H := by
  have lv : line = sizeLine := rfl
  have ls : sizeLine = 16777216 := by decide
  unfold Od.of at hb
  split at hb
  · rename_i hall
    cases hb
    rw [List.all_eq_true] at hall
    unfold chkOd at k
    split at k
    · rename_i v1 p1 es1 p2 p3 v2 p4 v3 p5 es2 p6 p7 p8 i p9 e1 p10 ve p11 p12 v4 p13 n ap j1 p14 cp kk j2 p15 p16 p17 p18
      simp only [Bool.and_eq_true, decide_eq_true_eq] at k
      obtain ⟨⟨⟨⟨⟨⟨⟨⟨⟨⟨⟨⟨⟨⟨⟨⟨rfl, rfl⟩, rfl⟩, rfl⟩, kl⟩, kv⟩, rfl⟩, ke⟩, ki⟩, kg⟩, kve⟩, kgv⟩, rfl⟩, kln⟩, rfl⟩, q1⟩, q2⟩ := k
      have n0 : X.N[0]? = some o.e := by rw [nN]; rfl
      have n1 : X.N[1]? = some o.v := by rw [nN]; rfl
      obtain ⟨vv, ov⟩ := vis_of kv q
      have pv : ∀ pos, PE X (.Name o.v pos) (tVar 1) := fun pos => pe_var n1 vv (nm1 ov).1 (nm1 ov).2.1
      have a1 := pa_isx q n0 free Kt hxn hp hz hf o.c1 es1 q1 fun c hc => hall c (List.mem_append_left _ hc)
      have a2 := pa_isx q n0 free Kt hxn hp hz hf o.c2 es2 q2 fun c hc => hall c (List.mem_append_right _ hc)
      obtain ⟨c0, hc0⟩ := hne
      obtain ⟨b0, hb0⟩ := Option.isSome_iff_exists.mp (hall c0 hc0)
      subst kve
      have pve : PE X (.Name "ValueError" p11) (tC (.ty "ValueError")) := pe_bltn (glo_of kgv q).1 freeV (by decide +kernel) rfl (by decide) (by decide)
      have pi := pe_isx (p1 := p9) (p2 := p10) (p4 := p12) q n0 ki kg ke pve free (Kt.c y c0 b0 hb0) hp hz hf (fun u hu => hu) (Kt.v y c0 b0 hb0)
      have lc : L2.Loc X.env.scope o.v := loc_of kl q
      have pt : ∀ (j : Nat) (pos : Pos), PE X (.Constant (.bool true) j pos) (tC (.bl true)) := fun j pos => pe_bl
      have po : ∀ (j : Nat) (pos : Pos), PE X (.Constant (.int 1) j pos) (tC (.int 1)) := fun j pos => pe_int
      have pc := pe_bm PySem.F.plainAttrs_list PySem.F.slot_list_count PySem.F.type_list_count (mt_countD (X := X) (by omega)) (pv p13) (pa_cons (pt j1 p14) pa_nil (star_of rfl _)) (base_of rfl _ _) (cpos := cp) (apos := ap) (by rw [star_of (es := []) rfl X.env]; rfl) kln (star_of rfl _) (plain_star fun e he => by cases he)
      refine ⟨_, pss_cons (ps_set nd n1 lc (pe_lst a1) (swap_of rfl _ _ _) (.inl (fn _))) (pss_cons (ps_set nd n1 lc (pe_op (op_B .add) (pv p5) (pe_lst a2)) (swap_of rfl _ _ _) (.inl (fn _))) (pss_one (ps_ret (pe_and pi (pe_one (pe_cmpR (op_C hu .eq) pc (po j2 p15) (marks_of rfl _))))))), fun DE H h => ?_⟩
      have eb : ∀ cs : List Nat, (cs.map fun c => V.bl ((kt y c).getD false)) = (cs.map fun c => (kt y c).getD false).map V.bl := fun cs => by rw [List.map_map]; rfl
      have l1 : (o.c1.map fun c => (kt y c).getD false).length ≤ 1000 := by rw [List.length_map]; rw [List.length_append] at lz; omega
      have l2 : (o.c2.map fun c => (kt y c).getD false).length ≤ 1000 := by rw [List.length_map]; rw [List.length_append] at lz; omega
      have l3 : (o.c1.map fun c => (kt y c).getD false).length + (o.c2.map fun c => (kt y c).getD false).length ≤ 1000 := by rw [List.length_map, List.length_map]; rw [List.length_append] at lz; exact lz
      have ec : (o.c1 ++ o.c2).countP (fun c => kt y c == some true) = ((o.c1.map fun c => (kt y c).getD false) ++ (o.c2.map fun c => (kt y c).getD false)).countP id := by
        rw [← List.map_append, List.countP_map]
        refine List.countP_congr fun c _ => ?_
        cases q : kt y c with
        | none => simp [q]
        | some b => cases b <;> simp [q]
      rw [ec] at h
      clear ec
      have e1 := eb o.c1
      have e2 := eb o.c2
      clear eb
      generalize (o.c1.map fun c => (kt y c).getD false) = b1 at e1 l1 l3 h
      generalize (o.c2.map fun c => (kt y c).getD false) = b2 at e2 l2 l3 h
      refine ⟨rfl, by rw [e1, List.length_map]; omega, fun p hp1 => ?_⟩
      rw [e1]
      refine ⟨_, rfl, rfl, by rw [e2, List.length_map]; omega, fun p2 hp2 => ?_⟩
      rw [e2]
      have np : p ≠ p2 := fun z => by subst z; rw [upd_same] at hp2; cases hp2
      have x1 : Ex H (upd (upd H p (.lst (b1.map V.bl))) p2 (.lst (b2.map V.bl))) := (ex_new hp1).trans (ex_new hp2)
      refine ⟨.lst (b1.map D.bl), .lst (b2.map D.bl), .lst ((b1 ++ b2).map D.bl), .inr ⟨p, _, _, rfl, rfl, by rw [upd_ne np]; exact upd_same, reps_bl b1, by rw [List.length_map]; omega⟩, .inr ⟨p2, _, _, rfl, rfl, upd_same, reps_bl b2, by rw [List.length_map]; omega⟩, ?_, fun v H' ex f => ?_⟩
      · show (if (b1.map D.bl).length + (b2.map D.bl).length ≤ line then some (D.lst (b1.map D.bl ++ b2.map D.bl)) else none) = _
        rw [if_pos (by rw [List.length_map, List.length_map]; omega), List.map_append]
      obtain ⟨a', vs, rfl, hn, ha, rr, hz2⟩ := f
      refine ⟨rfl, true, rfl, ?_⟩
      refine ⟨_, rfl, .inl ⟨rfl, vs, .inl (.inl ha)⟩, .lst ((b1 ++ b2).map D.bl), .bl true, .bl true, (b1 ++ b2).map D.bl, rfl, rfl, .inr ⟨a', vs, _, rfl, rfl, ha, rr, hz2⟩, .bl true, by decide, ?_⟩
      rw [count_bl]
      refine ⟨.int _, .int 1, decide ((((b1 ++ b2).countP id : Nat) : Int) = 1), .inl (.int _), .inl (.int _), rfl, ?_⟩
      have := h H' (x1.trans ex)
      rw [show decide ((((b1 ++ b2).countP id : Nat) : Int) = 1) = decide ((b1 ++ b2).countP id = 1) from decide_eq_decide.mpr (by omega)]
      exact this
    · cases k
  · cases hb
end
end Ev

/-! Statements: the text against the core syntax; statements are sound. -/
namespace Ev
open PySem PySem.Spec
open PyProof.Rows hiding St
open L2
open Evl (Ex)
variable [Wo]

/-- a comprehension on the right: may it be stored as it is made (only a local on the same row), or surely not -/
def compSt (sc : Scope) (x : Str) (pos : Pos) : Expr → Bool
  | .ListComp _ _ scope vp => (match sc.kind with | .function => true | _ => false) && (match sc.names.lookup x with
      | some .local => (pos.line == vp.line) && !(scope.names.any fun (n, k) => n == x && (k == .local || k == .cell))
      | _ => false)
  | _ => false
def compNo (sc : Scope) (x : Str) (pos : Pos) : Expr → Bool
  | .ListComp _ _ scope vp => (match sc.names.lookup x with
      | some .cell => true
      | _ => false) || !(pos.line == vp.line)
  | _ => false
def isTxt : It → Bool
  | .txt _ => true
  | _ => false
/-- a slot that may be stored: none of the lists that are the caller's -/
def okSl (own : Ow) (i : Nat) : Bool := !own.mu.contains i
def locM (own : Ow) (i : Nat) (sc : Scope) (x : Str) : Bool := locB sc x && okSl own i
def plainR : Ow → Bool
  | .chg _ => false
  | _ => true
def chkH (L : Lw) (N : List Str) (own : Ow) (sc : Scope) : Hd → Stmt → Bool
  | .set i d, st => match st with
    | .Assign [.Name x _] v _ => decide (N[i]? = some x) && locM own i sc x && chkE L N (.lit d) sc v && notComp v
    | _ => false
  | .ret d, st => match st with
    | .Return (some v) _ => decide (own = .no) && chkE L N (.lit d) sc v
    | _ => false
  | .pass, st => match st with
    | .Pass _ => true
    | _ => false
  | .one _ _ _ _, _ => false
  | .raise _, _ => false
  | .retC _ _, _ => false
/-- handlers that may raise -/
def hotH : Hd → Bool
  | .raise _ => true
  | .retC _ _ => true
  | _ => false
def chkHX (L : Lw) (N : List Str) (xn : Nat → Option Str) (own : Ow) (sc : Scope) : Hd → Stmt → Bool
  | .raise c, st => match st with
    | .Raise (some (.Call (.Name x _) [.Constant (.str _) _ _] [] _)) none _ => decide (xn c = some x) && gloB sc x
    | _ => false
  | .retC f es, st => match st with
    | .Return (some e) _ => decide (own = .no) && chkE L.ho N (.call f es) sc e
    | _ => false
  | _, _ => false
/-- return f(e), or v and f(e) -/
def chkOne (L : Lw) (N : List Str) (own : Ow) (sc : Scope) (n : Str) (x : Nat) (v : Option Nat) (f : Nat) (l : List Nat) (st : Stmt) : Bool :=
  decide (own = .no) && decide (N[x]? = some n) && (match sc.names.lookup n with | some .local => true | _ => false) && visB sc n && (match L.od f with
    | some o => (l.all fun y => decide (o.of L.kt y = some true)) && (match v, st with
      | none, .Return (some (.Call (.Name g _) [.Name n' _] [] _)) _ => decide (g = L.nm f) && gloB sc g && decide (n' = n)
      | some i, .Return (some (.BoolOp .And [.Name w _, .Call (.Name g _) [.Name n' _] [] _] _)) _ => decide (g = L.nm f) && gloB sc g && decide (n' = n) && decide (N[i]? = some w) && visB sc w && decide (i ≠ x)
      | _, _ => false)
    | none => false)
/-- return isinstance(e, ValueError) and isinstance(e, C1) and not isinstance(e, C2); f tells both classes -/
def chkIn (L : Lw) (N : List Str) (xn : Nat → Option Str) (own : Ow) (sc : Scope) (n : Str) (x : Nat) (v : Option Nat) (f : Nat) (l : List Nat) (st : Stmt) : Bool :=
  decide (own = .no) && decide (N[x]? = some n) && (match sc.names.lookup n with | some .local => true | _ => false) && visB sc n && decide (v = none) &&
    (l.all fun y => decide (L.kt y (f / 1024) = some true) && decide (L.kt y (f % 1024) = some false)) && (match st with
      | .Return (some (.BoolOp .And [.Call (.Name i1 _) [.Name n1 _, .Name w _] [] _, .Call (.Name i2 _) [.Name n2 _, .Name x1 _] [] _, .UnaryOp .Not (.Call (.Name i3 _) [.Name n3 _, .Name x2 _] [] _) _] _)) _ =>
        decide (i1 = ("isinstance" : Str)) && gloB sc i1 && decide (n1 = n) && decide (w = ("ValueError" : Str)) && gloB sc w && decide (i2 = ("isinstance" : Str)) && gloB sc i2 && decide (n2 = n) && decide (xn (f / 1024) = some x1) && gloB sc x1 &&
          decide (i3 = ("isinstance" : Str)) && gloB sc i3 && decide (n3 = n) && decide (xn (f % 1024) = some x2) && gloB sc x2
      | _ => false)
def Lw.hb (L : Lw) : Bool := match L.md with
  | .hot => true
  | _ => false
/-- several clauses, each hands back a constant -/
def chkHs (L : Lw) (N : List Str) (xn : Nat → Option Str) (sc : Scope) : List (Nat × List Nat × List Nat × D) → List ExceptHandler → Bool
  | [], hs => hs.isEmpty
  | (c, yes, no, d) :: l, .ExceptHandler (some (.Name x _)) none [.Return (some v) _] _ :: hs => decide (xn c = some x) && gloB sc x && (yes.all fun y => decide (L.exm y c = some true)) && (no.all fun y => decide (L.exm y c = some false)) && chkE L N (.lit d) sc v && chkHs L N xn sc l hs
  | _, _ => false
/-- names to be stored -/
def chkTg (N : List Str) (own : Ow) (sc : Scope) : List Nat → List Expr → Bool
  | [], es => es.isEmpty
  | i :: is, e :: es => (match e with
    | .Name x _ => decide (N[i]? = some x) && locM own i sc x
    | _ => false) && chkTg N own sc is es
  | _, _ => false
def isCall : Expr → Bool | .Call .. => true | _ => false
def Es.len : Es → Nat
  | .nil => 0
  | .cons _ es => Es.len es + 1
/-- the arguments of a call that changes some: those are slots, told by ms, or new; all others values -/
def chkMs (L : Lw) (N : List Str) (sc : Scope) (mu : List Nat) : Nat → Es → List (Option Nat) → List Expr → Bool
  | _, .nil, ms, es => ms.isEmpty && es.isEmpty
  | k, .cons a as, ms, es => match es with
    | e :: es => notStar e && (if mu.contains k then (match ms with
      | some i :: ms => (match a with
        | .bor j => Nat.beq i j && chkE L N a sc e
        | _ => false) && chkMs L N sc mu (k + 1) as ms es
      | none :: ms => (match a with
        | .lst _ => chkE L N a sc e
        | _ => false) && chkMs L N sc mu (k + 1) as ms es
      | [] => false) else chkE L N a sc e && isV L a && chkMs L N sc mu (k + 1) as ms es)
    | [] => false
def somes : List (Option Nat) → List Nat
  | [] => []
  | some i :: ms => i :: somes ms
  | none :: ms => somes ms
/-- the kind of a parameter, l the changed ones -/
def pkOf (l : List Nat) (i : Nat) : Pk := if l.contains i then .b else .s
def chkCall (L : Lw) (N : List Str) (sc : Scope) (f : Nat) (es : Es) (ms : List (Option Nat)) : Expr → Bool
  | .Call (.Name x _) ys [] _ => decide (x = L.nm f) && gloB sc x && !ys.isEmpty && decide (somes ms).Nodup && (match L.T f with
    | some fd => (match fd.own with
      | .chg l => chkMs L N sc l 0 es ms ys && decide ((ms.filter Option.isNone).length ≤ 1) && decide (l = (List.range' 0 es.len).filter l.contains) && decide (fd.ps = (List.range' 0 es.len).map (pkOf l))
      | _ => false)
    | none => false)
  | _ => false
def ownO : Ow → Option (List Nat) → Bool
  | .no, none => true
  | .chg l, some k => decide (l = k)
  | _, _ => false
def lastOf : List Expr → Option (List Expr × Expr)
  | [] => none
  | [e] => some ([], e)
  | e :: f :: es => (lastOf (f :: es)).map fun p => (e :: p.1, p.2)
def chkK (L : Lw) (N : List Str) (own : Ow) (sc : Scope) (k : Km) (f : Nat) (es : Es) (ms : List (Option Nat)) (st : Stmt) : Bool := match k with
  | .drop => (match st with
    | .Expr e _ => chkCall L N sc f es ms e && notComp e
    | _ => false)
  | .asg i => (match st with
    | .Assign [.Name x _] e _ => decide (N[i]? = some x) && locM own i sc x && chkCall L N sc f es ms e && notComp e
    | _ => false)
  | .ret l => (match st with
    | .Return (some e) _ => ownO own l && chkCall L N sc f es ms e
    | _ => false)
  | .app i => (match st with
    | .Expr (.Call (.Attribute (.Name x _) n ap) [y] [] cp) _ => decide (N[i]? = some x) && visB sc x && decide (n = ("append" : Str)) && (ap.endLine == cp.line) && chkCall L N sc f es ms y && notStar y
    | _ => false)
  | .ext i => (match st with
    | .Expr (.Call (.Attribute (.Name x _) n ap) [y] [] cp) _ => decide (N[i]? = some x) && visB sc x && decide (n = ("extend" : Str)) && (ap.endLine == cp.line) && chkCall L N sc f es ms y && notStar y
    | _ => false)
  | .asgT i pre => (match st with
    | .Assign [.Name x _] (.Tuple ys _ _) _ => decide (N[i]? = some x) && locM own i sc x && (match lastOf ys with
      | some p => chkEs L N pre (p.1.map fun _ => Pk.s) sc p.1 && chkCall L N sc f es ms p.2 && decide (ys.length < line)
      | none => false)
    | _ => false)
  | .retT l pre => (match st with
    | .Return (some (.Tuple ys _ _)) _ => ownO own l && (match lastOf ys with
      | some p => chkEs L N pre (p.1.map fun _ => Pk.s) sc p.1 && chkCall L N sc f es ms p.2 && decide (ys.length < line)
      | none => false)
    | _ => false)
mutual
def chkS (L : Lw) (N : List Str) (xn : Nat → Option Str) (own : Ow) (sc : Scope) : S → Stmt → Bool
  | .pass, st => match st with
    | .Pass _ => true
    | _ => false
  | .expr e, st => match st with
    | .Expr x _ => chkE L N e sc x && notComp x
    | _ => false
  | .assign i e, st => match st with
    | .Assign [.Name x _] v _ => decide (N[i]? = some x) && locM own i sc x && chkE L N e sc v && isV L e && notComp v
    | _ => false
  | .assignF i e, st => match st with
    | .Assign [.Name x p] v _ => decide (N[i]? = some x) && locM own i sc x && chkE L N e sc v && isC L e && (notComp v || compSt sc x p v || compNo sc x p v)
    | _ => false
  | .append i e, st => match st with
    | .Expr (.Call (.Attribute (.Name x _) n ap) [y] [] cp) _ => decide (N[i]? = some x) && visB sc x && decide (n = ("append" : Str)) && (ap.endLine == cp.line) && chkE L N e sc y && isV L e && notStar y
    | _ => false
  | .extend i e, st => match st with
    | .Expr (.Call (.Attribute (.Name x _) n ap) [y] [] cp) _ => decide (N[i]? = some x) && visB sc x && decide (n = ("extend" : Str)) && (ap.endLine == cp.line) && chkE L N e sc y && isV L e && notStar y
    | _ => false
  | .ins i k e, st => match st with
    | .Expr (.Call (.Attribute (.Name x _) n ap) [y, z] [] cp) _ => decide (N[i]? = some x) && visB sc x && decide (n = ("insert" : Str)) && (ap.endLine == cp.line) && chkE L N k sc y && notStar y && chkE L N e sc z && isV L e && notStar z
    | _ => false
  | .setIx i k e, st => match st with
    | .Assign [.Subscript (.Name x _) y _] v _ => decide (N[i]? = some x) && visB sc x && chkE L N k sc y && notSlice y && chkE L N e sc v && isV L e && notComp v
    | _ => false
  | .bad, _ => true
  | .dlit i ks es, st => match st with
    | .Assign [.Name x _] (.Dict keys vals _) _ => decide (N[i]? = some x) && locM own i sc x && chkKeys ks keys && !ks.isEmpty && decide (ks.length ≤ 15) && decide (keys.length = vals.length) && chkEs L N es (vals.map fun _ => Pk.s) sc vals
    | _ => false
  | .dnew i, st => match st with
    | .Assign [.Name x _] (.Dict [] [] _) _ => decide (N[i]? = some x) && locM own i sc x
    | _ => false
  | .dcp i j, st => match st with
    | .Assign [.Name x _] (.Call (.Name l _) [.Name y _] [] _) _ => decide (N[i]? = some x) && locM own i sc x && decide (l = ("dict" : Str)) && gloB sc l && decide (N[j]? = some y) && visB sc y
    | _ => false
  | .nnew i, st => match st with
    | .Assign [.Name x _] (.Dict [] [] _) _ => decide (N[i]? = some x) && locM own i sc x
    | _ => false
  | .nput i k, st => match st with
    | .Assign [.Subscript (.Name x _) y _] (.Constant (.bool true) _ _) _ => decide (N[i]? = some x) && visB sc x && chkE L N k sc y && notSlice y && isV L k
    | _ => false
  | .dput i k e, st => match st with
    | .Assign [.Subscript (.Name x _) y _] v _ => decide (N[i]? = some x) && visB sc x && chkE L N k sc y && notSlice y && chkE L N e sc v && isV L e && notComp v
    | _ => false
  | .ife c a b, st => match st with
    | .If t xs ys _ => chkE L N c sc t && chkT t && chkB L N xn own sc a xs && chkB L N xn own sc b ys
    | _ => false
  | .for_ i it b, st => (L.cb || isTxt it) && match st with
    | .For (.Name x _) iter xs [] _ => decide (N[i]? = some x) && locM own i sc x && chkIt L N it sc iter && chkB L N xn own sc b xs
    | _ => false
  | .whil c b, st => match st with
    | .While t xs [] _ => chkE L N c sc t && chkT t && chkB L N xn own sc b xs
    | _ => false
  | .ret e, st => match st with
    | .Return (some x) _ => decide (own = .no) && chkE L N e sc x && isV L e
    | _ => false
  | .retF e, st => match st with
    | .Return (some x) _ => chkE L N e sc x && isC L e && plainOw own
    | _ => false
  | .retOwn i, st => match st with
    | .Return (some (.Name x _)) _ => decide (N[i]? = some x) && visB sc x && plainOw own
    | _ => false
  | .retN, st => match st with
    | .Return none _ => plainR own
    | _ => false
  | .brk, st => match st with
    | .Break _ => true
    | _ => false
  | .cont, st => match st with
    | .Continue _ => true
    | _ => false
  | .raise c, st => match st with
    | .Raise (some (.Call (.Name x _) [.Constant (.str _) _ _] [] _)) none _ => decide (xn c = some x) && gloB sc x
    | _ => false
  | .unpack is e, st => L.cb && match st with
    | .Assign [.Tuple es _ _] v _ => chkTg N own sc is es && isCall v && chkE L N e sc v && isV L e
    | _ => false
  | .pop x i, st => match st with
    | .Assign [.Name y _] (.Call (.Attribute (.Name z _) n ap) [] [] cp) _ => decide (N[x]? = some y) && locM own x sc y && decide (N[i]? = some z) && visB sc z && decide (n = ("pop" : Str)) && (ap.endLine == cp.line)
    | _ => false
  | .popU is i, st => L.cb && match st with
    | .Assign [.Tuple es _ _] (.Call (.Attribute (.Name z _) n ap) [] [] cp) _ => chkTg N own sc is es && decide (N[i]? = some z) && visB sc z && decide (n = ("pop" : Str)) && (ap.endLine == cp.line)
    | _ => false
  | .retP i es, st => match st with
    | .Return (some (.List (.Name x _ :: xs) _)) _ => decide (own = .prt) && decide (N[i]? = some x) && visB sc x && chkEs L N es (xs.map fun _ => Pk.s) sc xs && decide (xs.length < line)
    | _ => false
  | .retM l e, st => match st with
    | .Return (some x) _ => decide (own = .chg l) && chkE L N e sc x && isV L e
    | _ => false
  | .retMN l, st => match st with
    | .Return none _ => decide (own = .chg l)
    | _ => false
  | .callM k f es ms, st => chkK L N own sc k f es ms st
  | .try_ b yes no c h, st => (L.ab || L.hb) && match st with
    | .Try body [.ExceptHandler (some (.Name x _)) none [h₀] _] [] [] _ => L.ab && decide (xn c = some x) && gloB sc x && (yes.all fun y => decide (L.exm y c = some true)) && (no.all fun y => decide (L.exm y c = some false)) &&
        if hotH h then L.tp && chkB L.cl N xn own sc b body && chkHX L N xn own sc h h₀ else chkB L.dn N xn own sc b body && chkH L N own sc h h₀
    | .Try body [.ExceptHandler (some (.Name x _)) (some n) [h₀] _] [] [] _ => decide (xn c = some x) && gloB sc x && (yes.all fun y => decide (L.exm y c = some true)) && (no.all fun y => decide (L.exm y c = some false)) &&
        chkB L.dn N xn own sc b body && (match h with | .one i v f l => (L.ab && chkOne L N own sc n i v f l h₀) || chkIn L N xn own sc n i v f l h₀ | _ => false)
    | _ => false
  | .tryM b hs, st => L.ab && match st with
    | .Try body (h₀ :: hds) [] [] _ => decide (own = .no) && chkB L.dn N xn own sc b body && chkHs L N xn sc hs (h₀ :: hds)
    | _ => false
def chkB (L : Lw) (N : List Str) (xn : Nat → Option Str) (own : Ow) (sc : Scope) : B → List Stmt → Bool
  | .nil, l => l.isEmpty
  | .cons s b, l => match l with
    | st :: r => chkS L N xn own sc s st && chkB L N xn own sc b r
    | [] => false
  | .freeze i b, l => okSl own i && chkB L N xn own sc b l
  | .frzD _ b, l => chkB L N xn own sc b l
  | .pair i j f es b, l => match l with
    | .Assign [.Name x _] (.Call (.Name g _) (y :: ys) [] _) _ :: .Assign [.Name z _] (.Subscript (.Name x' _) (.Constant (.int k) _ _) _) _ :: r => decide (N[i]? = some x) && locM own i sc x && visB sc x && decide (g = L.nm f) && gloB sc g && (match L.T f with
        | some fd => chkEs L N es fd.ps sc (y :: ys) && decide (fd.own = .prt)
        | none => false) && decide (N[j]? = some z) && locM own j sc z && decide (x' = x) && decide (k = 0) && decide (i ≠ j) && chkB L N xn own sc b r
    | _ => false
end

/-- the slots stand for ρ, the caller's lists in theirs -/
structure RE (K : PySem.W.Frag) (H0 : Hp) (M : Mp) (H : Hp) (σ : L2.St) (ρ : Env) : Prop where
  r : REnv K H0 (M.map (·.2)) H σ ρ
  mp : ∀ p ∈ M, σ[p.1]? = some (some (.ref p.2))
def MFst (own : Ow) (M : Mp) : Prop := match own with
  | .chg l => M.map (·.1) = l
  | _ => M = []
section
variable {K : PySem.W.Frag} {H0 H H' : Hp} {M : Mp} {σ : L2.St} {ρ : Env} {v : V} {d : D} {i : Nat} {own : Ow}
omit [Wo] in
theorem sl_of (h : okSl own i = true) (m : MFst own M) : ∀ p ∈ M, p.1 ≠ i := fun p hp e => by
  unfold okSl at h
  cases own with
  | chg l =>
    have m : M.map (·.1) = l := m
    have : i ∈ l := by rw [← m, ← e]; exact List.mem_map_of_mem hp
    have h : (!l.contains i) = true := h
    have : l.contains i = true := by simpa using this
    rw [this] at h
    cases h
  | _ => have m : M = [] := m; subst m; cases hp
omit [Wo] in
theorem locM_of {env : Scope} {x : Str} (h : locM own i env x = true) : locB env x = true ∧ okSl own i = true := by
  unfold locM at h
  rw [Bool.and_eq_true] at h
  exact h
theorem RE.ex (R : RE K H0 M H σ ρ) (e : Ex H H') : RE K H0 M H' σ ρ := ⟨R.r.ex e, R.mp⟩
theorem RE.exw (R : RE K H0 M H σ ρ) : ExW (M.map (·.2)) H0 H := fun a o h n => R.r.gr a o h n
theorem RE.ex0 (R : RE K H0 M H σ ρ) (m : M = []) : Ex H0 H := by subst m; exact fun a o h => R.r.gr a o h (by simp)
theorem RE.tr (R : RE K H0 M H σ ρ) (e : Ex H H') : ExW (M.map (·.2)) H0 H' := fun a o h n => e a o (R.exw a o h n)
theorem RE.keep (R : RE K H0 M H σ ρ) (n : ∀ p ∈ M, p.1 ≠ i) : ∀ p ∈ M, (σ.set i (some v))[p.1]? = some (some (.ref p.2)) := fun p hp => by
  rw [List.getElem?_set_ne (fun e => n p hp e.symm)]
  exact R.mp p hp
theorem RE.set (R : RE K H0 M H σ ρ) (n : ∀ p ∈ M, p.1 ≠ i) (h : Rep K H v d) : RE K H0 M H (σ.set i (some v)) (setV ρ i d) := ⟨R.r.set h, R.keep n⟩
theorem RE.setVs : ∀ {is : List Nat} {vs : List V} {ds : List D} {σ : L2.St} {ρ : Env}, RE K H0 M H σ ρ → (∀ i ∈ is, ∀ p ∈ M, p.1 ≠ i) → Reps K H vs ds → RE K H0 M H (setSs is vs σ) (Ev.setVs is ds ρ)
  | [], _, _, _, _, R, _, _ => by unfold setSs Ev.setVs; exact R
  | i :: is, _, _, _, _, R, _, .nil => R
  | i :: is, _, _, _, _, R, n, .cons h r => RE.setVs (is := is) (R.set (n i (List.mem_cons_self ..)) h) (fun j hj => n j (List.mem_cons_of_mem _ hj)) r
theorem RE.setF {Hi : Hp} {xs : List D} (R : RE K H0 M Hi σ ρ) (n : ∀ p ∈ M, p.1 ≠ i) (e : Ex Hi H) (h : FRep K Hi H v (.lst xs)) : RE K H0 M H (σ.set i (some v)) (setOwn ρ i xs) := ⟨R.r.setF e h, R.keep n⟩
theorem RE.setP {a : Addr} {o : Obj} {x : V} {vs : List V} {ds : List D} (R : RE K H0 M H σ ρ) (n : ∀ p ∈ M, p.1 ≠ i) (h : H a = some (.frz o (.lst (x :: vs)))) (r : Reps K H vs ds) (z : ds.length < line) : RE K H0 M H (σ.set i (some (.ref a))) (setPrt ρ i ds) := ⟨R.r.setP h r z, R.keep n⟩
theorem RE.write {a : Addr} {vs ws : List V} {xs ys : List D} (R : RE K H0 M H σ ρ) (h : getOwn ρ i = some xs) (hs : σ[i]? = some (some (.ref a))) (ha : H a = some (.lst vs)) (r : Reps K H ws ys) (hz : ys.length ≤ line) :
    RE K H0 M (upd H a (.lst ws)) σ (setOwn ρ i ys) ∧ Pers H (upd H a (.lst ws)) := ⟨⟨(R.r.write h hs ha r hz).1, R.mp⟩, (R.r.write h hs ha r hz).2⟩
theorem RE.lock {a : Addr} {vs : List V} {xs : List D} {o : Obj} (R : RE K H0 M H σ ρ) (h : getOwn ρ i = some xs) (hs : σ[i]? = some (some (.ref a))) (ha : H a = some (.lst vs)) (r : Reps K H vs xs) :
    RE K H0 M (upd H a (.frz o (.lst vs))) σ (setV ρ i (.lst xs)) ∧ Pers H (upd H a (.frz o (.lst vs))) := ⟨⟨(R.r.lock h hs ha r).1, R.mp⟩, (R.r.lock h hs ha r).2⟩
end
section
variable {K : PySem.W.Frag} {H0 H H' : Hp} {M : Mp} {σ : L2.St} {ρ : Env} {v : V} {d : D} {i : Nat} {own : Ow}
theorem RE.setD {Hi : Hp} {a : Addr} {kvs : List (L2.Key × V)} {es : List D} (R : RE K H0 M Hi σ ρ) (n : ∀ p ∈ M, p.1 ≠ i) (e : Ex Hi H) (hn : Hi a = none) (h : H a = some (.dK kvs)) (r : DRep K H kvs es) (z : es.length ≤ line) : RE K H0 M H (σ.set i (some (.ref a))) (setDic ρ i es) := ⟨R.r.setD e hn h r z, R.keep n⟩
theorem RE.writeD {a : Addr} {kvs ls : List (L2.Key × V)} {es fs : List D} (R : RE K H0 M H σ ρ) (h : getDic ρ i = some es) (hs : σ[i]? = some (some (.ref a))) (ha : H a = some (.dK kvs)) (r : DRep K H ls fs) (z : fs.length ≤ line) :
    RE K H0 M (upd H a (.dK ls)) σ (setDic ρ i fs) ∧ Pers H (upd H a (.dK ls)) := ⟨⟨(R.r.writeD h hs ha r z).1, R.mp⟩, (R.r.writeD h hs ha r z).2⟩
theorem RE.setX {Hi : Hp} {a : Addr} (R : RE K H0 M Hi σ ρ) (n : ∀ p ∈ M, p.1 ≠ i) (e : Ex Hi H) (hn : Hi a = none) (h : H a = some (NkO Wo.w a [])) : RE K H0 M H (σ.set i (some (.ref a))) (setNk ρ i []) := ⟨R.r.setX e hn h, R.keep n⟩
theorem RE.writeX {a : Addr} {xs ys : List (NestedKey × Addr)} {ks fs : List D} (R : RE K H0 M H σ ρ) (h : getNk ρ i = some ks) (hs : σ[i]? = some (some (.ref a))) (ha : H a = some (NkO Wo.w a xs)) (r : KRep K H ys fs) (z : fs.length ≤ line) :
    RE K H0 M (upd H a (NkO Wo.w a ys)) σ (setNk ρ i fs) ∧ Pers H (upd H a (NkO Wo.w a ys)) := ⟨⟨(R.r.writeX h hs ha r z).1, R.mp⟩, (R.r.writeX h hs ha r z).2⟩
theorem RE.lockD {a : Addr} {kvs : List (L2.Key × V)} {es : List D} {o : Obj} (R : RE K H0 M H σ ρ) (h : getDic ρ i = some es) (hs : σ[i]? = some (some (.ref a))) (ha : H a = some (.dK kvs)) (r : DRep K H kvs es) :
    RE K H0 M (upd H a (.frz o (.dK kvs))) σ (ρ.set i (some (.dsh, .lst es))) ∧ Pers H (upd H a (.frz o (.dK kvs))) := ⟨⟨(R.r.lockD h hs ha r).1, R.mp⟩, (R.r.lockD h hs ha r).2⟩
end
/-- what is good of a flow -/
def GS (own : Ow) (K : PySem.W.Frag) (W : WN) (H0 : Hp) (M : Mp) (H : Hp) (E : Ends) : Res Flow → Prop
  | .ok (.nx ρ) => ∀ σ' H', RE K H0 M H' σ' ρ → Pers H H' → E.nx σ' H'
  | .ok (.brk ρ) => ∀ σ' H', RE K H0 M H' σ' ρ → Pers H H' → E.bk σ' H'
  | .ok (.cont ρ) => ∀ σ' H', RE K H0 M H' σ' ρ → Pers H H' → E.ct σ' H'
  | .ok (.ret d) => ∀ v H', ExW (M.map (·.2)) H0 H' → Pers H H' → RetR own K M H0 H' v d → E.rt v H'
  | .ok (.exc c ρ) => ∀ σ' H', RE K H0 M H' σ' ρ → Pers H H' → W c σ' H'
  | .exc _ => False
  | .fail => False
theorem GS.pers {own : Ow} {K : PySem.W.Frag} {W : WN} {H0 H H' : Hp} {M : Mp} {E : Ends} {r : Res Flow} (p : Pers H H') (h : GS own K W H0 M H E r) : GS own K W H0 M H' E r := by
  unfold GS at h ⊢
  split at h
  · exact fun σ' H2 R q => h σ' H2 R (p.trans q)
  · exact fun σ' H2 R q => h σ' H2 R (p.trans q)
  · exact fun σ' H2 R q => h σ' H2 R (p.trans q)
  · exact fun v H2 e q => h v H2 e (p.trans q)
  · exact fun σ' H2 R q => h σ' H2 R (p.trans q)
  · exact h
  · exact h
def rdS (own : Ow) (K : PySem.W.Frag) (W : WN) (r : Env → Res Flow) : TS := fun E σ H => ∃ H0 M ρ, MFst own M ∧ RE K H0 M H σ ρ ∧ GS own K W H0 M H E (r ρ)
/-- an expression ahead -/
theorem GS.withE {own : Ow} {K : PySem.W.Frag} {W : WN} {H0 H : Hp} {M : Mp} {E : Ends} {α : Type} {r : Res α} {ρ : Env} {σ : L2.St} {f : α → Res Flow} (R : RE K H0 M H σ ρ) (h : GS own K W H0 M H E (Ev.withE r ρ f)) : Gd W σ H r fun a => GS own K W H0 M H E (f a) := by
  cases r with
  | ok a => exact h
  | exc c => exact fun H' e => h σ H' (R.ex e) (.of e)
  | fail => exact h
theorem GS.o {own : Ow} {K : PySem.W.Frag} {W : WN} {H0 H : Hp} {M : Mp} {E : Ends} {α : Type} {o : Option α} {f : α → Res Flow} (h : GS own K W H0 M H E (ofO o >>= f)) : ∃ a, o = some a ∧ GS own K W H0 M H E (f a) := by
  cases o with
  | none => exact h.elim
  | some a => exact ⟨a, rfl, h⟩

/-- an error's class, as the top has it -/
structure XcAt (X : Cx) (x : Str) (C : Addr) : Prop where
  g : X.mg x = some (.ref C)
  ex : PySem.W.excIn X.K C [.type "ValueError", .type "Exception", .type "BaseException", .type "object"] "ValueError.__new__" = true
  kp : PySem.W.keepIn X.K (.ref C) = true
  sb : PySem.W.subIn X.K (.ref C) (.type "BaseException") = some true
  ty : PySem.W.typeIn X.K (.ref C) = some (.type "type")
structure SCtx (L : Lw) (cf : Nat → List D → Res D) (xa : Nat → Addr) (xn : Nat → Option Str) (N : List Str) (W : WN) (X : Cx) (sc : Scope) : Prop extends CtxOk L cf xa N W X sc where
  pass : PassesOwn (model X.prog X.w) X.A X.env X.xe
  fn : ∀ x, X.fn x = true
  xc : ∀ c x, xn c = some x → XcAt X x (xa c)
  ems : ∀ y c b, L.exm y c = some b → PySem.W.exmOne X.K (.ref (xa y)) (.ref (xa c)) = some b
  hs : X.stack = X.env :: X.outer
  hf : X.env.frame = some X.env.locals
  kt : KtOk X.K xa xn L.kt
  tkS : match L.md with
    | .clean => L2N.Takes X (WW xa W)
    | _ => L2.Takes X (WW xa W)
  cln : L.ab = true → ∀ f fd, L.Tc f = some fd → FnAt L.cl cf xa X f fd
  hts : L.ab = true → ∀ f fd, L.Th f = some fd → FnAt L.ho cf xa X f fd
  pa : L.tp = true → ∀ hd, PassesOwnAt (model X.prog X.w) (X.A.mark hd) X.A X.env X.xe
  ods : ∀ f o, L.od f = some o → ∃ fa fdt k, X.mg (L.nm f) = some (.ref fa) ∧ PySem.W.keepIn X.K (.ref fa) = true ∧ Binds X.K fdt [o.e] [] ∧ L2H.RoomH k X.A ∧ FnQ X.prog X.w X.K X.mg X.base (L2.CX X.prog X.w) k fa fdt [o.e] (spOd X.K xa o L.kt)
section
variable {L : Lw} {cf : Nat → List D → Res D} {xa : Nat → Addr} {xn : Nat → Option Str} {N : List Str} {W : WN} {X : Cx} {sc : Scope} {own : Ow}
omit [Wo] in
theorem ps_imp {st : Stmt} {t t' : TS} (h : PS X st t) (m : ∀ E σ H, t' E σ H → t E σ H) : PS X st t' := ⟨fun pins s σ H E I q => h.run pins s σ H E I (m E σ H q)⟩
omit [Wo] in
theorem pss_imp {sts : List Stmt} {t t' : TS} (h : PSs X sts t) (m : ∀ E σ H, t' E σ H → t E σ H) : PSs X sts t' := ⟨fun pins s σ H E I q => h.run pins s σ H E I (m E σ H q)⟩
abbrev SS (L : Lw) (cf : Nat → List D → Res D) (xa : Nat → Addr) (xn : Nat → Option Str) (N : List Str) (own : Ow) (s : S) : Prop := ∀ (W : WN) (X : Cx) (sc : Scope) (st : Stmt), SCtx L cf xa xn N W X sc → chkS L N xn own sc s st = true → PS X st (rdS own X.K W (evS cf L.gl s))
abbrev SB (L : Lw) (cf : Nat → List D → Res D) (xa : Nat → Addr) (xn : Nat → Option Str) (N : List Str) (own : Ow) (b : B) : Prop := ∀ (W : WN) (X : Cx) (sc : Scope) (sts : List Stmt), SCtx L cf xa xn N W X sc → chkB L N xn own sc b sts = true → PSs X sts (rdS own X.K W (evB cf L.gl b))
theorem ss_pass : SS L cf xa xn N own .pass := fun W X sc st C k => by
  unfold chkS at k
  split at k
  · exact ps_imp ps_pass fun E σ H ⟨H0, M, ρ, mm, R, g⟩ => g σ H R (Pers.refl H)
  · cases k
theorem ss_brk : SS L cf xa xn N own .brk := fun W X sc st C k => by
  unfold chkS at k
  split at k
  · exact ps_imp ps_break fun E σ H ⟨H0, M, ρ, mm, R, g⟩ => g σ H R (Pers.refl H)
  · cases k
theorem ss_cont : SS L cf xa xn N own .cont := fun W X sc st C k => by
  unfold chkS at k
  split at k
  · exact ps_imp ps_continue fun E σ H ⟨H0, M, ρ, mm, R, g⟩ => g σ H R (Pers.refl H)
  · cases k
theorem ss_retN : SS L cf xa xn N own .retN := fun W X sc st C k => by
  unfold chkS at k
  split at k
  · refine ps_imp ps_retN fun E σ H ⟨H0, M, ρ, mm, R, g⟩ => g _ H R.exw (Pers.refl H) ?_
    cases own with
    | chg l => cases k
    | _ => exact .non
  · cases k
theorem ss_expr (e : E) : SS L cf xa xn N own (.expr e) := fun W X sc st C k => by
  unfold chkS at k
  split at k
  · rw [Bool.and_eq_true] at k
    refine ps_imp (ps_expr ((x_all e).e.b C.toCtxOk k.1) (swap_of k.2 _ _ _)) fun E σ H ⟨H0, M, ρ, mm, R, g⟩ => ⟨H0, _, ρ, R.r, (g.withE R).mono fun d g v H1 e1 r => ?_⟩
    exact g σ H1 (R.ex e1) (.of e1)
  · cases k
theorem ss_assign (i : Nat) (e : E) : SS L cf xa xn N own (.assign i e) := fun W X sc st C k => by
  unfold chkS at k
  split at k
  · simp only [Bool.and_eq_true, decide_eq_true_eq] at k
    obtain ⟨⟨⟨⟨k1, k2⟩, k3⟩, k4⟩, k5⟩ := k
    refine ps_imp (ps_set C.nd (by rw [C.nN]; exact k1) (loc_of (locM_of k2).1 C.scp) ((x_all e).e.v k4 C.toCtxOk k3) (swap_of k5 _ _ _) (.inl (C.fn _))) fun E σ H ⟨H0, M, ρ, mm, R, g⟩ => ⟨H0, _, ρ, R.r, (g.withE R).mono fun d g v H1 e1 r => ?_⟩
    exact g _ H1 ((R.ex e1).set (sl_of (locM_of k2).2 mm) r) (.of e1)
  · cases k
theorem ss_assignF (i : Nat) (e : E) : SS L cf xa xn N own (.assignF i e) := fun W X sc st C k => by
  unfold chkS at k
  split at k
  · rename_i x p v pos
    simp only [Bool.and_eq_true, decide_eq_true_eq, Bool.or_eq_true] at k
    obtain ⟨⟨⟨⟨k1, k2⟩, k3⟩, k4⟩, k5⟩ := k
    have hk : kd L e = .C := by
      unfold isC at k4
      split at k4
      · assumption
      · cases k4
    have pe := (x_all (cf := cf) (xa := xa) e).e W X sc v C.toCtxOk k3
    rw [hk] at pe
    have fin : ∀ {t : TE} {E σ H}, (∀ σ H Q, rd .C X.K W (evE cf L.gl e) σ H Q → t σ H Q) → rdS own X.K W (evS cf L.gl (.assignF i e)) E σ H → tAsg t (gName i) E σ H := fun {t E σ H} m ⟨H0, M, ρ, mm, R, g⟩ => m σ H _ ⟨H0, _, ρ, R.r, (g.withE R).mono fun d g v H1 e1 r => by
      obtain ⟨xs, ed, g⟩ := g.o
      cases d <;> simp only [listOf, reduceCtorEq] at ed <;> cases ed
      exact g _ H1 (R.setF (sl_of (locM_of k2).2 mm) e1 r) (.of e1)⟩
    have plain : (∀ env', env' = X.env → swapsWith v (some (.Name x p)) pos.line env' = pure false) → PS X (.Assign [.Name x p] v pos) (rdS own X.K W (evS cf L.gl (.assignF i e))) := fun hs =>
      ps_imp (ps_set C.nd (by rw [C.nN]; exact k1) (loc_of (locM_of k2).1 C.scp) pe (hs _ rfl) (.inl (C.fn _))) fun E σ H h => fin (fun _ _ _ q => q) h
    rcases k5 with (k5 | k5) | k5
    · exact plain fun env' _ => swap_of k5 _ _ _
    · -- as it is made
      cases v <;> simp only [compSt, Bool.false_eq_true] at k5
      rename_i el gens scope vp
      cases e <;> first | (simp [kd] at hk; done) | (unfold chkE at k3; simp at k3; done) | skip
      · rename_i y it cond elt
        obtain ⟨el', tg, iter, ifs, scope', own', pos', wi, g, tt, te, he, h1, h2, h3, h4, h5, h6, h7⟩ := m_comp y (it_all it) (x_all cond) (x_all elt) C.toCtxOk k3
        cases he
        simp only [Bool.and_eq_true] at k5
        obtain ⟨q1, q2⟩ := k5
        have kf : X.env.scope.kind = .function := by
          rw [C.scp]
          split at q1
          · assumption
          · cases q1
        split at q2
        · rename_i hl
          simp only [Bool.and_eq_true, Bool.not_eq_true'] at q2
          obtain ⟨e0, out, Lf, z1, z2, z3⟩ := C.fr
          have ka : L.ab = true := by
            unfold chkE at k3
            rw [Bool.and_eq_true] at k3
            exact k3.1
          refine ps_imp (ps_setComp (C.calm (Lw.cb_of ka)) C.nd (C.tk ka) z1 z2 z3 (by rw [C.nN]; exact k1) (by rw [C.scp]; exact hl) (sw_true kf (by rw [C.scp]; exact hl) q2.1 q2.2) h1 h2 h3 h4 h5 h6) fun E σ H h => fin h7 h
        · cases q2
    · cases v <;> simp only [compNo, Bool.false_eq_true] at k5
      rename_i el gens scope vp
      refine plain fun env' he => ?_
      unfold swapsWith
      simp only [Expr.pos]
      rw [Bool.or_eq_true] at k5
      have : (env'.blockKind == ScopeKind.function && env'.kindOf x == some NameKind.local && p.line == vp.line && !(scope.names.any fun x_1 => x_1.fst == x && (x_1.snd == NameKind.local || x_1.snd == NameKind.cell))) = false := by
        rcases k5 with k5 | k5
        · split at k5
          · rename_i hl
            have : env'.kindOf x = some .cell := by
              rw [he]
              unfold Env.kindOf
              rw [C.scp]
              exact hl
            rw [this]
            simp
          · cases k5
        · have : (p.line == vp.line) = false := by simpa using k5
          rw [this]
          simp
      first
        | (rw [this] <;> rfl)
        | (simp only [this] <;> rfl)
  · cases k
theorem ss_append (i : Nat) (e : E) : SS L cf xa xn N own (.append i e) := fun W X sc st C k => by
  unfold chkS at k
  split at k
  · simp only [Bool.and_eq_true, decide_eq_true_eq] at k
    obtain ⟨⟨⟨⟨⟨⟨k1, k2⟩, rfl⟩, k3⟩, k4⟩, k5⟩, k6⟩ := k
    obtain ⟨v, o⟩ := vis_of k2 C.scp
    obtain ⟨d1, d2, _⟩ := nm1 o
    have st := star_of (es := []) k6 X.env
    refine ps_imp (ps_expr (pe_bm PySem.F.plainAttrs_list PySem.F.slot_list_append PySem.F.type_list_append mt_append (pe_var (by rw [C.nN]; exact k1) v d1 d2) (pa_cons ((x_all e).e.v k5 C.toCtxOk k4) pa_nil st) rfl (by rw [st]; rfl) k3 st (plain_star fun e he => by cases he))) fun E σ H ⟨H0, M, ρ, mm, R, g⟩ => ?_
    obtain ⟨xs, ex, g⟩ := g.o
    obtain ⟨a, vs, hs, ha, rr, w, hz⟩ := R.r.own ex
    refine ⟨_, hs, .inl ⟨rfl, _, .inl (.inl ha)⟩, H0, _, ρ, R.r, (g.withE R).mono fun d g v H1 e1 r => ?_⟩
    obtain ⟨ys, ey, g⟩ := g.o
    unfold appL at ey
    split at ey <;> cases ey
    rename_i hl
    have h1 := e1 _ _ ha
    have rr1 := rr.mono (.of e1)
    refine ⟨a, vs, v, rfl, rfl, h1, by rw [rr.length]; exact hl, ?_⟩
    obtain ⟨R2, P2⟩ := (R.ex e1).write ex hs h1 (rr1.append (.one r)) (by rw [List.length_append]; simp; omega)
    exact g σ _ R2 ((Pers.of e1).trans P2)
  · cases k
theorem ss_extend (i : Nat) (e : E) : SS L cf xa xn N own (.extend i e) := fun W X sc st C k => by
  unfold chkS at k
  split at k
  · simp only [Bool.and_eq_true, decide_eq_true_eq] at k
    obtain ⟨⟨⟨⟨⟨⟨k1, k2⟩, rfl⟩, k3⟩, k4⟩, k5⟩, k6⟩ := k
    obtain ⟨v, o⟩ := vis_of k2 C.scp
    obtain ⟨d1, d2, _⟩ := nm1 o
    have st := star_of (es := []) k6 X.env
    refine ps_imp (ps_expr (pe_bm PySem.F.plainAttrs_list PySem.F.slot_list_extend PySem.F.type_list_extend mt_ext (pe_var (by rw [C.nN]; exact k1) v d1 d2) (pa_cons ((x_all e).e.v k5 C.toCtxOk k4) pa_nil st) rfl (by rw [st]; rfl) k3 st (plain_star fun e he => by cases he))) fun E σ H ⟨H0, M, ρ, mm, R, g⟩ => ?_
    obtain ⟨xs, ex, g⟩ := g.o
    obtain ⟨a, vs, hs, ha, rr, w, hz⟩ := R.r.own ex
    refine ⟨_, hs, .inl ⟨rfl, _, .inl (.inl ha)⟩, H0, _, ρ, R.r, (g.withE R).mono fun d g v H1 e1 r => ?_⟩
    obtain ⟨ys, ey, g⟩ := g.o
    obtain ⟨zs, ez, g⟩ := g.o
    unfold extL at ez
    split at ez <;> cases ez
    rename_i hl
    have h1 := e1 _ _ ha
    have rr1 := rr.mono (.of e1)
    have hz : ∃ b ws, v = .ref b ∧ (Rd H1 b (.lst ws) ∨ SqT X.K H1 b ws) ∧ Reps X.K H1 ws ys := by
      have r : Rep X.K H1 v d := r
      cases d <;> simp only [seqOf, reduceCtorEq] at ey <;> cases ey
      · obtain ⟨b, ws, e1, e2, e3⟩ := RepB.tup_inv (.inl r)
        exact ⟨b, ws, e1, .inr e2, e3⟩
      · obtain ⟨b, ws, e1, e2, e3⟩ := RepB.lst_inv (.inl r)
        exact ⟨b, ws, e1, .inl e2, e3⟩
    obtain ⟨b, ws, rfl, hb, rw'⟩ := hz
    refine ⟨a, b, vs, ws, rfl, rfl, h1, hb, by rw [rr.length, rw'.length]; exact hl, ?_⟩
    obtain ⟨R2, P2⟩ := (R.ex e1).write ex hs h1 (rr1.append rw') (by rw [List.length_append]; exact hl)
    exact g σ _ R2 ((Pers.of e1).trans P2)
  · cases k
omit [Wo] in
theorem assign_sub {o y : Expr} {py : Pos} {env : PySem.Env} {w : Value} (h : notSlice y = true) : assign (.Subscript o y py) env w = (do
    let ov ← holding [w] (eval o env)
    let iv ← holding [w, ov] (eval y env)
    standAt py
    holding [w, ov, iv] (setItem ov iv w)
    release [w, ov, iv] []) := by
  cases y <;> first | rfl | (simp [notSlice] at h)
theorem ss_dnew (i : Nat) : SS L cf xa xn N own (.dnew i) := fun W X sc st C k => by
  unfold chkS at k
  split at k
  · rw [Bool.and_eq_true, decide_eq_true_eq] at k
    obtain ⟨k1, k2⟩ := k
    refine ps_imp (ps_set C.nd (by rw [C.nN]; exact k1) (loc_of (locM_of k2).1 C.scp) pe_dnewK (swap_of rfl _ _ _) (.inl (C.fn _))) fun E σ H ⟨H0, M, ρ, mm, R, g⟩ => fun p hp => ?_
    have ex : Ex H (upd H p (.dK [])) := Ex.new hp
    exact g _ _ (R.setD (sl_of (locM_of k2).2 mm) ex hp upd_same .nil (Nat.zero_le _)) (.of ex)
  · cases k
theorem ss_bad : SS L cf xa xn N own .bad := fun W X sc st C k => by
  have any : ∀ {t : TS}, (∀ D σ H, ¬ t D σ H) → PS X st t := fun {t} h => ⟨fun pins s σ H D I q => (h D σ H q).elim⟩
  exact any fun D σ H ⟨H0, M, ρ, mm, R, g⟩ => g
theorem ss_dlit (i : Nat) (ks : List (List Nat)) (es : Es) : SS L cf xa xn N own (.dlit i ks es) := fun W X sc st C k => by
  unfold chkS at k
  split at k
  · simp only [Bool.and_eq_true, decide_eq_true_eq, Bool.not_eq_true', List.isEmpty_eq_false_iff] at k
    obtain ⟨⟨⟨⟨⟨⟨k1, k2⟩, k3⟩, k4⟩, k5⟩, k6⟩, k7⟩ := k
    refine ps_imp (ps_set C.nd (by rw [C.nN]; exact k1) (loc_of (locM_of k2).1 C.scp) (pe_lit_d (es_all es).2.2 C.toCtxOk k3 k6 k7 k4 k5) (swap_of rfl _ _ _) (.inl (C.fn _))) fun E σ H ⟨H0, M, ρ, mm, R, g⟩ => ⟨H0, _, ρ, R.r, (g.withE R).mono fun ds g p H' kvs hp ex hk dr hz => ?_⟩
    have lv : line = 16777216 := by decide
    exact g _ _ (R.setD (sl_of (locM_of k2).2 mm) ex hp hk dr (by omega)) (.of ex)
  · cases k
theorem ss_nnew (i : Nat) : SS L cf xa xn N own (.nnew i) := fun W X sc st C k => by
  unfold chkS at k
  split at k
  · rw [Bool.and_eq_true, decide_eq_true_eq] at k
    obtain ⟨k1, k2⟩ := k
    refine ps_imp (ps_set C.nd (by rw [C.nN]; exact k1) (loc_of (locM_of k2).1 C.scp) pe_nknew (swap_of rfl _ _ _) (.inl (C.fn _))) fun E σ H ⟨H0, M, ρ, mm, R, g⟩ => fun p hp => ?_
    have ex : Ex H (upd H p (NkO X.w p [])) := Ex.new hp
    exact g _ _ (R.setX (sl_of (locM_of k2).2 mm) ex hp (by rw [C.cw]; exact upd_same)) (.of ex)
  · cases k
theorem ss_nput (i : Nat) (kx : E) : SS L cf xa xn N own (.nput i kx) := fun W X sc st C k => by
  unfold chkS at k
  split at k
  · rename_i x px y py cp cq pos
    simp only [Bool.and_eq_true, decide_eq_true_eq] at k
    obtain ⟨⟨⟨⟨k1, k2⟩, k3⟩, k4⟩, k5⟩ := k
    obtain ⟨v, o⟩ := vis_of k2 C.scp
    obtain ⟨d1, d2, _⟩ := nm1 o
    refine ps_imp (ps_nput (by have := room_u C.toCtxOk; omega) (pe_var (pos := px) (by rw [C.nN]; exact k1) v d1 d2) ((x_all kx).e.v k5 C.toCtxOk k3) pe_bl (swap_of rfl _ _ _)) fun E σ H ⟨H0, M, ρ, mm, R, g⟩ => ?_
    obtain ⟨ks, ex, g⟩ := g.o
    obtain ⟨a, xs, hs, ha, kr, h0, hz⟩ := R.r.nk ex
    refine ⟨_, hs, H0, _, ρ, R.r, (g.withE R).mono fun d g v2 H2 e2 r2 => ?_⟩
    obtain ⟨fs, ey, g3⟩ := g.o
    have ey2 := ey
    unfold nkAdd at ey
    split at ey
    · rename_i kk hk
      obtain ⟨_, _, ds, rfl⟩ := tkey_some hk
      obtain ⟨b, rfl⟩ : ∃ b, v2 = .ref b := by
        cases r2 with
        | tup _ _ _ => exact ⟨_, rfl⟩
      have ha2 : H2 a = some (NkO Wo.w a xs) := e2 _ _ ha
      obtain ⟨kr2, hl⟩ := (kr.mono (.of e2)).ins hk r2 ey2
      obtain ⟨R2, P2⟩ := (R.ex e2).writeX ex hs ha2 kr2 (nkAdd_len ey2)
      rw [C.cw] at ha2 R2 P2
      exact ⟨a, b, xs, ks, _, kk, rfl, rfl, ha2, kr.mono (.of e2), hk, r2, hl, g3 _ _ R2 ((Pers.of e2).trans P2)⟩
    · cases ey
  · cases k
theorem ss_dcp (i j : Nat) : SS L cf xa xn N own (.dcp i j) := fun W X sc st C k => by
  unfold chkS at k
  split at k
  · rename_i x px l lp y yp cp pos
    simp only [Bool.and_eq_true, decide_eq_true_eq] at k
    obtain ⟨⟨⟨⟨⟨k1, k2⟩, rfl⟩, k4⟩, k5⟩, k6⟩ := k
    obtain ⟨gl, o⟩ := glo_of k4 C.scp
    obtain ⟨v, o2⟩ := vis_of k6 C.scp
    obtain ⟨d1, d2, _⟩ := nm1 o2
    have pe := pe_callTy (X := X) (p := lp) (pos := cp) call_dictD gl (C.free _ (by decide)) (by decide +kernel) (pa_cons (pe_var (pos := yp) (by rw [C.nN]; exact k5) v d1 d2) pa_nil (star_of rfl _)) (nm1 o).2.2 (nm1 o).1 (star_of rfl _) (plain_star fun e he => by cases he)
    refine ps_imp (ps_set C.nd (by rw [C.nN]; exact k1) (loc_of (locM_of k2).1 C.scp) pe (swap_of rfl _ _ _) (.inl (C.fn _))) fun E σ H ⟨H0, M, ρ, mm, R, g⟩ => ?_
    obtain ⟨es, e, g⟩ := g.o
    obtain ⟨a, kvs, hs, ha, dr, hz⟩ := R.r.dd e
    refine ⟨_, hs, a, kvs, rfl, ha, fun p hp => ?_⟩
    have ex : Ex H (upd H p (.dK kvs)) := Ex.new hp
    exact g _ _ (R.setD (sl_of (locM_of k2).2 mm) ex hp upd_same (dr.mono (.of ex)) hz) (.of ex)
  · cases k
theorem ss_dput (i : Nat) (kx e : E) : SS L cf xa xn N own (.dput i kx e) := fun W X sc st C k => by
  unfold chkS at k
  split at k
  · rename_i x px y py val pos
    simp only [Bool.and_eq_true, decide_eq_true_eq] at k
    obtain ⟨⟨⟨⟨⟨⟨k1, k2⟩, k3⟩, k4⟩, k5⟩, k6⟩, k7⟩ := k
    obtain ⟨v, o⟩ := vis_of k2 C.scp
    obtain ⟨d1, d2, _⟩ := nm1 o
    refine ps_imp (ps_dput (by have := room_u C.toCtxOk; omega) (pe_var (pos := px) (by rw [C.nN]; exact k1) v d1 d2) ((x_all kx).e.b C.toCtxOk k3) ((x_all e).e.v k6 C.toCtxOk k5) (swap_of k7 _ _ _)) fun E σ H ⟨H0, M, ρ, mm, R, g⟩ => ?_
    obtain ⟨es, ex, g⟩ := g.o
    obtain ⟨a, kvs, hs, ha, dr, h0, hz⟩ := R.r.dic ex
    refine ⟨H0, _, ρ, R.r, (g.withE R).mono fun d g v H1 e1 r => ⟨_, hs, H0, _, ρ, (R.ex e1).r, ?_⟩⟩
    refine ((g.withE R).ex e1).mono fun kd g2 v2 H2 e2 r2 => ?_
    obtain ⟨fs, ey, g3⟩ := g2.o
    cases kd <;> simp only [dSet, reduceCtorEq] at ey
    rename_i s
    split at ey <;> cases ey
    rename_i hl
    obtain ⟨rfl, hsl⟩ := r2.str_inv
    have ha2 : H2 a = some (.dK kvs) := e2 _ _ (e1 _ _ ha)
    have dr2 : DRep X.K H2 (L2.putK kvs (.inr (T s)) v) (dPut es s d) := (dr.mono (.of (e1.trans e2))).put hsl (r.mono (.of e2))
    obtain ⟨R2, P2⟩ := ((R.ex e1).ex e2).writeD ex hs ha2 dr2 (by have := dPut_len es s d; omega)
    refine ⟨a, _, rfl, .inl ⟨kvs, .inr (T s), ha2, rfl, by rw [dr.length]; exact hl, rfl⟩, ?_⟩
    exact g3 _ _ R2 ((Pers.of (e1.trans e2)).trans P2)
  · cases k
theorem ss_ins (i : Nat) (kx e : E) : SS L cf xa xn N own (.ins i kx e) := fun W X sc st C k => by
  unfold chkS at k
  split at k
  · rename_i x px n ap y z cp pos
    simp only [Bool.and_eq_true, decide_eq_true_eq] at k
    obtain ⟨⟨⟨⟨⟨⟨⟨⟨k1, k2⟩, rfl⟩, k3⟩, k4⟩, k5⟩, k6⟩, k7⟩, k8⟩ := k
    obtain ⟨v, o⟩ := vis_of k2 C.scp
    obtain ⟨d1, d2, _⟩ := nm1 o
    have st := star_of (es := [z]) k5 X.env
    have st2 := star_of (es := []) k8 X.env
    refine ps_imp (ps_expr (pe_bm PySem.F.plainAttrs_list PySem.F.slot_list_insert PySem.F.type_list_insert mt_insert (pe_var (by rw [C.nN]; exact k1) v d1 d2) (pa_cons ((x_all kx).e.b C.toCtxOk k4) (pa_cons ((x_all e).e.v k7 C.toCtxOk k6) pa_nil st2) st) rfl (by rw [st, st2]; rfl) k3 st (plain_star fun e he => by
      simp only [List.mem_singleton] at he
      rw [he]; exact k8))) fun E σ H ⟨H0, M, ρ, mm, R, g⟩ => ?_
    obtain ⟨xs, ex, g⟩ := g.o
    obtain ⟨a, vs, hs, ha, rr, w, hz⟩ := R.r.own ex
    refine ⟨_, hs, .inl ⟨rfl, _, .inl (.inl ha)⟩, H0, _, ρ, R.r, (g.withE R).mono fun kd g v2 H1 e1 r2 => ⟨H0, _, ρ, (R.ex e1).r, ?_⟩⟩
    refine ((g.withE R).ex e1).mono fun d g v H2 e2 r => ?_
    obtain ⟨ys, ey, g⟩ := g.o
    obtain ⟨j, rfl⟩ : ∃ j, kd = .int j := by
      cases kd <;> simp only [insL, reduceCtorEq] at ey
      exact ⟨_, rfl⟩
    simp only [insL] at ey
    split at ey <;> cases ey
    rename_i hl
    obtain rfl := r2.int_inv
    have h2 := e2 _ _ (e1 _ _ ha)
    have rr2 := rr.mono (.of (e1.trans e2))
    refine ⟨a, vs, j, v, rfl, rfl, h2, by rw [rr.length]; exact hl.1, hl.2.1, hl.2.2, ?_⟩
    obtain ⟨R2, P2⟩ := ((R.ex e1).ex e2).write (ws := vs.take j.toNat ++ [v] ++ vs.drop j.toNat) ex hs h2 ((Reps.append (Reps.append (rr2.take j.toNat) (.one r)) (rr2.drop j.toNat))) (by
      rw [List.length_append, List.length_append, List.length_take, List.length_drop]
      simp only [List.length_singleton]
      have := hl.1
      omega)
    exact g σ _ R2 ((Pers.of (e1.trans e2)).trans P2)
  · cases k
theorem ss_setIx (i : Nat) (kx e : E) : SS L cf xa xn N own (.setIx i kx e) := fun W X sc st C k => by
  unfold chkS at k
  split at k
  · rename_i x px y py val pos
    simp only [Bool.and_eq_true, decide_eq_true_eq] at k
    obtain ⟨⟨⟨⟨⟨⟨k1, k2⟩, k3⟩, k4⟩, k5⟩, k6⟩, k7⟩ := k
    obtain ⟨v, o⟩ := vis_of k2 C.scp
    obtain ⟨d1, d2, _⟩ := nm1 o
    have sw : swapsWithSole [.Subscript (.Name x px) y py] val pos.line X.env = pure false := by
      unfold swapsWithSole
      exact swap_of k7 _ _ _
    refine ps_imp (ps_asg ((x_all e).e.v k6 C.toCtxOk k5) (pg_sub (pe_var (by rw [C.nN]; exact k1) v d1 d2) ((x_all kx).e.b C.toCtxOk k3) set_list (fun w => assign_sub k4)) sw) fun E σ H ⟨H0, M, ρ, mm, R, g⟩ => ?_
    obtain ⟨xs, ex, g⟩ := g.o
    obtain ⟨a, vs, hs, ha, rr, w, hz⟩ := R.r.own ex
    refine ⟨H0, _, ρ, R.r, (g.withE R).mono fun d g v H1 e1 r => ⟨_, hs, H0, _, ρ, (R.ex e1).r, ?_⟩⟩
    refine ((g.withE R).ex e1).mono fun kd g v2 H2 e2 r2 => ?_
    obtain ⟨ys, ey, g⟩ := g.o
    cases kd <;> simp only [setL, reduceCtorEq] at ey
    rename_i j
    cases q : ixN xs.length j with
    | none => rw [q] at ey; cases ey
    | some n =>
      rw [q] at ey
      cases ey
      obtain rfl := r2.int_inv
      have h2 := e2 _ _ (e1 _ _ ha)
      refine ⟨a, vs, j, n, rfl, rfl, h2, by rw [rr.length]; exact q, ?_⟩
      have r' : Rep X.K H2 v d := Rep.mono (.of e2) r
      obtain ⟨R2, P2⟩ := ((R.ex e1).ex e2).write ex hs h2 (Reps.set r' n (rr.mono (.of (e1.trans e2)))) (by rw [List.length_set]; exact hz)
      exact g σ _ R2 ((Pers.of (e1.trans e2)).trans P2)
  · cases k
theorem ss_ife (c : E) {a b : B} (ha : SB L cf xa xn N own a) (hb : SB L cf xa xn N own b) : SS L cf xa xn N own (.ife c a b) := fun W X sc st C k => by
  unfold chkS at k
  split at k
  · simp only [Bool.and_eq_true] at k
    obtain ⟨⟨⟨k1, k2⟩, k3⟩, k4⟩ := k
    refine ps_imp (ps_if ((x_all c).t W X sc _ C.toCtxOk k1 k2) (ha W X sc _ C k3) (hb W X sc _ C k4)) fun E σ H ⟨H0, M, ρ, mm, R, g⟩ => ⟨H0, _, ρ, R.r, ?_⟩
    have g : Gd W σ H (evE cf L.gl c ρ) fun x => GS own X.K W H0 M H E ((ofO (truth x)) >>= fun k => if k then evB cf L.gl a ρ else evB cf L.gl b ρ) := GS.withE R g
    show Gd W σ H (evE cf L.gl c ρ >>= fun x => ofO (truth x)) _
    cases q : evE cf L.gl c ρ with
    | ok d =>
      rw [q] at g
      obtain ⟨k, ek, g⟩ := GS.o g
      simp only [res_bind_ok, ek]
      show ∀ H', Ex H H' → _
      intro H' e
      cases k with
      | true => exact ⟨H0, M, ρ, mm, R.ex e, GS.pers (.of e) g⟩
      | false => exact ⟨H0, M, ρ, mm, R.ex e, GS.pers (.of e) g⟩
    | exc c => rw [q] at g; exact g
    | fail => rw [q] at g; exact g
  · cases k
theorem ss_ret (e : E) : SS L cf xa xn N own (.ret e) := fun W X sc st C k => by
  unfold chkS at k
  split at k
  · simp only [Bool.and_eq_true, decide_eq_true_eq] at k
    obtain ⟨⟨rfl, k2⟩, k3⟩ := k
    refine ps_imp (ps_ret ((x_all e).e.v k3 C.toCtxOk k2)) fun E σ H ⟨H0, M, ρ, mm, R, g⟩ => ⟨H0, _, ρ, R.r, (g.withE R).mono fun d g v H1 e1 r => ?_⟩
    exact g v H1 (R.tr e1) (.of e1) r
  · cases k
theorem ss_retF (e : E) : SS L cf xa xn N own (.retF e) := fun W X sc st C k => by
  unfold chkS at k
  split at k
  · simp only [Bool.and_eq_true, decide_eq_true_eq] at k
    obtain ⟨⟨k2, k3⟩, k4⟩ := k
    have hk : kd L e = .C := by
      unfold isC at k3
      split at k3
      · assumption
      · cases k3
    have pe := (x_all (cf := cf) (xa := xa) e).e W X sc _ C.toCtxOk k2
    rw [hk] at pe
    cases own with
    | prt => cases k4
    | chg l => cases k4
    | own =>
      refine ps_imp (ps_ret pe) fun E σ H ⟨H0, M, ρ, mm, R, g⟩ => ⟨H0, _, ρ, R.r, (g.withE R).mono fun d g v H1 e1 r => ?_⟩
      exact g v H1 (R.tr e1) (.of e1) (FRep.back (R.ex0 mm) r)
    | no =>
      refine ps_imp (ps_ret (pe_val pe)) fun E σ H ⟨H0, M, ρ, mm, R, g⟩ => ⟨H0, _, ρ, R.r, (g.withE R).mono fun d g v H1 e1 r => ?_⟩
      exact g v H1 (R.tr e1) (.of e1) r
  · cases k
theorem ss_retOwn (i : Nat) : SS L cf xa xn N own (.retOwn i) := fun W X sc st C k => by
  unfold chkS at k
  split at k
  · simp only [Bool.and_eq_true, decide_eq_true_eq] at k
    obtain ⟨⟨k1, k2⟩, k4⟩ := k
    obtain ⟨v, o⟩ := vis_of k2 C.scp
    obtain ⟨d1, d2, _⟩ := nm1 o
    refine ps_imp (ps_ret (pe_lk (pe_var (by rw [C.nN]; exact k1) v d1 d2))) fun E σ H ⟨H0, M, ρ, mm, R, g⟩ => ?_
    obtain ⟨xs, ex, g⟩ := g.o
    obtain ⟨a, vs, hs, ha, rr, w, hz⟩ := R.r.own ex
    cases own with
    | prt => cases k4
    | chg l => cases k4
    | own =>
      have mm : M = [] := mm
      subst mm
      have n0 : H0 a = none := w.elim id fun w => by cases w
      exact ⟨_, hs, .inr (g _ H R.exw (Pers.refl H) ⟨a, vs, rfl, n0, ha, rr, hz⟩)⟩
    | no =>
      have mm : M = [] := mm
      subst mm
      have n0 : H0 a = none := w.elim id fun w => by cases w
      have P2 : ∀ o, Pers H (upd H a (.frz o (.lst vs))) := fun o => (Pers.refl H).mut ha
      exact ⟨_, hs, .inl ⟨a, vs, rfl, ha, fun o => g _ _ (.of (Evl.Ex.mut (R.ex0 rfl) n0)) (P2 o) (.lst upd_same (rr.mono (P2 o)) hz)⟩⟩
  · cases k
/-- stored one behind the other -/
def tNames : List Nat → TGs
  | [] => gNil
  | i :: is => gCons (gName i) (tNames is)
omit [Wo] in
theorem tNames_of : ∀ {is : List Nat} {vs : List V} {σ : L2.St} {H : Hp} {Q : L2.St → Hp → Prop}, vs.length = is.length → Q (setSs is vs σ) H → tNames is vs σ H Q
  | [], vs, σ, H, Q, hl, q => by
    have : vs = [] := List.length_eq_zero_iff.mp hl
    subst this
    exact ⟨rfl, q⟩
  | i :: is, v :: vs, σ, H, Q, hl, q => ⟨v, vs, rfl, tNames_of (is := is) (by simpa using hl) q⟩
theorem pgs_names (C : SCtx L cf xa xn N W X sc) : ∀ {is : List Nat} {es : List Expr}, chkTg N own sc is es = true → PGs X es (tNames is) ∧ (assignEach es X.env).length = is.length ∧ (assignEach es X.env).findIdx? (·.1) = none ∧ ∀ i ∈ is, okSl own i = true
  | [], es, k => by
    unfold chkTg at k
    rw [List.isEmpty_iff] at k
    subst k
    exact ⟨pgs_nil, rfl, rfl, fun i h => by cases h⟩
  | i :: is, e :: es, k => by
    unfold chkTg at k
    rw [Bool.and_eq_true] at k
    obtain ⟨k1, k2⟩ := k
    split at k1
    · simp only [Bool.and_eq_true, decide_eq_true_eq] at k1
      obtain ⟨h1, h2, h3, h4⟩ := pgs_names C k2
      refine ⟨pgs_cons (pg_name C.nd (by rw [C.nN]; exact k1.1) (loc_of (locM_of k1.2).1 C.scp) (.inl (C.fn _))) h1 rfl, ?_, ?_, ?_⟩
      · exact congrArg Nat.succ h2
      · show List.findIdx? (·.1) ((false, _) :: assignEach es X.env) = none
        rw [List.findIdx?_cons]
        simp only [Bool.false_eq_true, if_false, h3]
        rfl
      · intro j hj
        rcases List.mem_cons.mp hj with rfl | hj
        · exact (locM_of k1.2).2
        · exact h4 j hj
    · cases k1
theorem ss_unpack (is : List Nat) (e : E) : SS L cf xa xn N own (.unpack is e) := fun W X sc st C k => by
  unfold chkS at k
  rw [Bool.and_eq_true] at k
  obtain ⟨kc, k⟩ := k
  split at k
  · rename_i es _ _ v pos
    simp only [Bool.and_eq_true] at k
    obtain ⟨⟨⟨k1, k2⟩, k3⟩, k4⟩ := k
    obtain ⟨h1, h2, h3, hsl⟩ := pgs_names C k1
    cases v <;> first | (simp [isCall] at k2; done) | skip
    refine ps_imp (ps_asg ((x_all e).e.v k4 C.toCtxOk k3) (pg_tup (C.calm kc) h1 h2 h3)) fun E σ H ⟨H0, M, ρ, mm, R, g⟩ => ⟨H0, _, ρ, R.r, (g.withE R).mono fun d g v H1 e1 r => ?_⟩
    obtain ⟨ds, ed, g2⟩ := g.o
    cases d <;> simp only [tupN, reduceCtorEq] at ed
    split at ed <;> cases ed
    rename_i hl
    obtain ⟨a, vs, rfl, h4, rr⟩ := RepB.tup_inv (.inl r)
    exact ⟨a, vs, rfl, h4, rr.length.trans hl, tNames_of (rr.length.trans hl) (g2 _ H1 ((R.ex e1).setVs (fun i hi => sl_of (hsl i hi) mm) rr) (.of e1))⟩
  · cases k
omit [Wo] in
theorem popL_some {xs ys : List D} {d : D} (h : popL xs = some (ys, d)) : ys = xs.dropLast ∧ xs[xs.length - 1]? = some d := by
  unfold popL at h
  cases q : xs[xs.length - 1]? with
  | none => rw [q] at h; cases h
  | some x => rw [q] at h; cases h; exact ⟨rfl, rfl⟩
omit [Wo] in
theorem reps_init {K : PySem.W.Frag} {H : Hp} {vs : List V} {ds : List D} (r : Reps K H vs ds) : Reps K H vs.dropLast ds.dropLast := by
  rw [List.dropLast_eq_take, List.dropLast_eq_take, r.length]
  exact r.take _
theorem ss_pop (x i : Nat) : SS L cf xa xn N own (.pop x i) := fun W X sc st C k => by
  unfold chkS at k
  split at k
  · simp only [Bool.and_eq_true, decide_eq_true_eq] at k
    obtain ⟨⟨⟨⟨⟨k1, k2⟩, k3⟩, k4⟩, rfl⟩, k6⟩ := k
    obtain ⟨v, o⟩ := vis_of k4 C.scp
    obtain ⟨d1, d2, _⟩ := nm1 o
    refine ps_imp (ps_set C.nd (by rw [C.nN]; exact k1) (loc_of (locM_of k2).1 C.scp) (pe_bm0 PySem.F.plainAttrs_list PySem.F.slot_list_pop PySem.F.type_list_pop mt_pop (pe_var (by rw [C.nN]; exact k3) v d1 d2) rfl k6) rfl (.inl (C.fn _))) fun E σ H ⟨H0, M, ρ, mm, R, g⟩ => ?_
    obtain ⟨xs, ex, g⟩ := g.o
    obtain ⟨⟨ys, d⟩, ep, g⟩ := g.o
    obtain ⟨rfl, hd⟩ := popL_some ep
    obtain ⟨a, vs, hs, ha, rr, w, hz⟩ := R.r.own ex
    obtain ⟨y, hy, ry⟩ := rr.get hd
    obtain ⟨R2, P2⟩ := R.write ex hs ha (reps_init rr) (by rw [List.length_dropLast]; omega)
    refine ⟨_, hs, .inl ⟨rfl, _, .inl (.inl ha)⟩, a, vs, y, rfl, rfl, ha, by rw [rr.length]; exact hy, ?_⟩
    exact g _ _ (R2.set (sl_of (locM_of k2).2 mm) (ry.mono P2)) P2
  · cases k
theorem ss_popU (is : List Nat) (i : Nat) : SS L cf xa xn N own (.popU is i) := fun W X sc st C k => by
  unfold chkS at k
  rw [Bool.and_eq_true] at k
  obtain ⟨kc, k⟩ := k
  split at k
  · simp only [Bool.and_eq_true, decide_eq_true_eq] at k
    obtain ⟨⟨⟨⟨k1, k3⟩, k4⟩, rfl⟩, k6⟩ := k
    obtain ⟨v, o⟩ := vis_of k4 C.scp
    obtain ⟨d1, d2, _⟩ := nm1 o
    obtain ⟨h1, h2, h3, hsl⟩ := pgs_names C k1
    refine ps_imp (ps_asg (pe_bm0 PySem.F.plainAttrs_list PySem.F.slot_list_pop PySem.F.type_list_pop mt_pop (pe_var (by rw [C.nN]; exact k3) v d1 d2) rfl k6) (pg_tup (C.calm kc) h1 h2 h3)) fun E σ H ⟨H0, M, ρ, mm, R, g⟩ => ?_
    obtain ⟨xs, ex, g⟩ := g.o
    obtain ⟨⟨ys, d⟩, ep, g⟩ := g.o
    obtain ⟨ds, ed, g2⟩ := g.o
    obtain ⟨rfl, hd⟩ := popL_some ep
    obtain ⟨a, vs, hs, ha, rr, w, hz⟩ := R.r.own ex
    obtain ⟨y, hy, ry⟩ := rr.get hd
    obtain ⟨R2, P2⟩ := R.write ex hs ha (reps_init rr) (by rw [List.length_dropLast]; omega)
    refine ⟨_, hs, .inl ⟨rfl, _, .inl (.inl ha)⟩, a, vs, y, rfl, rfl, ha, by rw [rr.length]; exact hy, ?_⟩
    cases d <;> simp only [tupN, reduceCtorEq] at ed
    split at ed <;> cases ed
    rename_i hl
    obtain ⟨b, ws, rfl, h4, rw'⟩ := RepB.tup_inv (.inl (ry.mono P2))
    exact ⟨b, ws, rfl, h4, rw'.length.trans hl, tNames_of (rw'.length.trans hl) (g2 _ _ (R2.setVs (fun i hi => sl_of (hsl i hi) mm) rw') P2)⟩
  · cases k
theorem ss_retP (i : Nat) (es : Es) : SS L cf xa xn N own (.retP i es) := fun W X sc st C k => by
  unfold chkS at k
  split at k
  · rename_i x p xs pos pos2
    simp only [Bool.and_eq_true, decide_eq_true_eq] at k
    obtain ⟨⟨⟨⟨rfl, k1⟩, k2⟩, k3⟩, k4⟩ := k
    obtain ⟨v, o⟩ := vis_of k2 C.scp
    obtain ⟨d1, d2, _⟩ := nm1 o
    obtain ⟨hp, _⟩ := (es_all (cf := cf) (xa := xa) es).1 W X sc _ xs C.toCtxOk k3
    refine ps_imp (ps_ret (pe_lst (pa_cons (pe_var (by rw [C.nN]; exact k1) v d1 d2) hp rfl))) fun E σ H ⟨H0, M, ρ, mm, R, g⟩ => ?_
    obtain ⟨ys, ex, g⟩ := g.o
    obtain ⟨p, vs, hs, hh, rr, w, hz⟩ := R.r.own ex
    have mm : M = [] := mm
    subst mm
    have n0 : H0 p = none := w.elim id fun w => by cases w
    have ex0 := R.ex0 rfl
    refine ⟨_, hs, H0, _, ρ, R.r, (g.withE R).mono fun ds g ws H1 e1 rs => ?_⟩
    have hl := rs.len.1
    have hl2 := rs.len.2
    rw [List.length_map] at hl hl2
    have lv : sizeLine = line := rfl
    refine ⟨by rw [List.length_cons, hl]; omega, fun a ha => ?_⟩
    have h1 := e1 _ _ hh
    have ne : p ≠ a := fun z => by rw [z, ha] at h1; cases h1
    have e2 : Ex H (upd H1 a (.lst (.ref p :: ws))) := e1.trans (Ex.new ha)
    exact g _ _ (.of (ex0.trans e2)) (.of e2) ⟨a, p, vs, ws, rfl, ne, Evl.fresh_back (ex0.trans e1) ha, upd_same, n0, by rw [upd_ne ne]; exact h1, rr.mono (.of e2), hz, rs.reps.mono (.of (Ex.new ha)), by rw [hl2]; exact k4⟩
  · cases k
theorem ss_raise (c : Nat) : SS L cf xa xn N own (.raise c) := fun W X sc st C k => by
  unfold chkS at k
  split at k
  · simp only [Bool.and_eq_true, decide_eq_true_eq] at k
    obtain ⟨gl, o⟩ := glo_of k.2 C.scp
    have x := C.xc _ _ k.1
    have tk := C.tkS
    have fin : ∀ {E : Ends} {σ : L2.St} {H : Hp}, rdS own X.K W (evS cf L.gl (.raise c)) E σ H → WW xa W (.ref (xa c)) none σ H := fun {E σ H} ⟨H0, M, ρ, mm, R, g⟩ => ⟨c, rfl, rfl, g σ H R (Pers.refl H)⟩
    cases hm : L.md with
    | any =>
      rw [hm] at tk
      exact ps_imp (L2.ps_raise (C.calm (by unfold Lw.cb; rw [hm])) tk (L2.pmk_own PySem.F.excBase_ValueError x.ex x.g x.kp (raises_own x.sb x.ty) gl (nm1 o).1)) fun E σ H h => fin h
    | clean =>
      rw [hm] at tk
      exact ps_imp (L2N.ps_raise (C.calm (by unfold Lw.cb; rw [hm])) tk (L2N.pmk_own PySem.F.excBase_ValueError x.ex x.g x.kp (raises_own x.sb x.ty) gl (nm1 o).1)) fun E σ H h => fin h
    | hot =>
      rw [hm] at tk
      exact ps_imp (L2H.ps_raiseH (C.hotc hm) tk (L2N.pmk_own PySem.F.excBase_ValueError x.ex x.g x.kp (raises_own x.sb x.ty) gl (nm1 o).1)) fun E σ H h => fin h
  · cases k
theorem SCtx.tr (C : SCtx L cf xa xn N W X sc) (ka : L.ab = true) {W2 : WN} {pn : List (Addr × Obj)} {xe : Value → Shared → Prop} (tk : Takes (X.tr pn xe) (WW xa W2)) (ps : PassesOwn (model X.prog X.w) X.A X.env xe) : SCtx L.dn cf xa xn N W2 (X.tr pn xe) sc :=
  { calm := fun h => C.calm h, hotc := fun h => (by rw [show L.dn.md = L.md from rfl, Lw.ab_md ka] at h; cases h), gd := fun h => (by cases h), nN := C.nN, nd := C.nd, scp := C.scp, room := C.room, fns := fun f fd h => C.fns f fd h, free := C.free, glb := C.glb, cw := C.cw, tk := fun _ => TakesF.of C.hf tk,
    pc := (by
      rw [show L.dn.md = L.md from rfl, Lw.ab_md ka]
      exact fun σ => passAt tk σ),
    tkS := (by
      rw [show L.dn.md = L.md from rfl, Lw.ab_md ka]
      exact tk),
    cln := fun h f fd hf => C.cln h f fd hf, hts := fun h f fd hf => C.hts h f fd hf, pa := fun h => (by cases h),
    fr := C.fr, pass := ps, fn := C.fn,
    xc := fun c x h => ⟨(C.xc c x h).g, (C.xc c x h).ex, (C.xc c x h).kp, (C.xc c x h).sb, (C.xc c x h).ty⟩, ems := C.ems, hs := C.hs, hf := C.hf, kt := C.kt, ods := fun f o h => C.ods f o h }
/-- .. where an exception is handled -/
theorem SCtx.trH (C : SCtx L cf xa xn N W X sc) (kh : L.md = .hot) {W2 : WN} {pn : List (Addr × Obj)} {xe : Value → Shared → Prop} (hp : ∀ q ∈ X.pn, q ∈ pn) (tk : Takes (X.tr pn xe) (WW xa W2)) (ps : PassesOwn (model X.prog X.w) X.A X.env xe) : SCtx L.dn cf xa xn N W2 (X.tr pn xe) sc :=
  { calm := fun h => C.calm h, hotc := fun h => (by
      obtain ⟨p, h1, h2⟩ := C.hotc h
      exact ⟨p, h1, hp p h2⟩), gd := fun h => (by cases h), nN := C.nN, nd := C.nd, scp := C.scp, room := C.room, fns := fun f fd h => C.fns f fd h, free := C.free, glb := C.glb, cw := C.cw, tk := fun _ => TakesF.of C.hf tk,
    pc := (by
      rw [show L.dn.md = L.md from rfl, kh]
      exact fun σ => passAt tk σ),
    tkS := (by
      rw [show L.dn.md = L.md from rfl, kh]
      exact tk),
    cln := fun h f fd hf => C.cln h f fd hf, hts := fun h f fd hf => C.hts h f fd hf, pa := fun h => (by cases h),
    fr := C.fr, pass := ps, fn := C.fn,
    xc := fun c x h => ⟨(C.xc c x h).g, (C.xc c x h).ex, (C.xc c x h).kp, (C.xc c x h).sb, (C.xc c x h).ty⟩, ems := C.ems, hs := C.hs, hf := C.hf, kt := C.kt, ods := fun f o h => C.ods f o h }
/-- .. a try whose suite may raise -/
theorem SCtx.trN (C : SCtx L cf xa xn N W X sc) (ka : L.ab = true) {W2 : WN} {pn : List (Addr × Obj)} {xe : Value → Shared → Prop} (tk : L2N.Takes (X.tr pn xe) (WW xa W2)) (ps : PassesOwn (model X.prog X.w) X.A X.env xe) : SCtx L.cl cf xa xn N W2 (X.tr pn xe) sc :=
  { calm := fun _ => C.calm (Lw.cb_of ka), hotc := fun h => (by cases h), gd := fun h => (by cases h), nN := C.nN, nd := C.nd, scp := C.scp, room := C.room, fns := fun f fd h => C.cln ka f fd h, free := C.free, glb := C.glb, cw := C.cw, tk := fun h => (by cases h),
    pc := fun σ => L2N.passAt tk σ,
    tkS := tk,
    cln := fun h => (by cases h), hts := fun h => (by cases h), pa := fun h => (by cases h),
    fr := C.fr, pass := ps, fn := C.fn,
    xc := fun c x h => ⟨(C.xc c x h).g, (C.xc c x h).ex, (C.xc c x h).kp, (C.xc c x h).sb, (C.xc c x h).ty⟩, ems := C.ems, hs := C.hs, hf := C.hf, kt := C.kt, ods := fun f o h => C.ods f o h }
/-- .. and that suite, to be asked for an expression -/
theorem SCtx.su (C : SCtx L cf xa xn N W X sc) (ka : L.ab = true) {a : Addr} {pn : List (Addr × Obj)} (tk : L2.Takes (L2H.suiteX X a pn) (WW xa W)) (hc : L2H.HotC (L2H.suiteX X a pn)) : CtxOk L.ho cf xa N W (L2H.suiteX X a pn) sc :=
  { calm := fun h => (by cases h), hotc := fun _ => hc, gd := fun h => (by cases h), nN := C.nN, nd := C.nd, scp := C.scp, room := ⟨C.room.dp, C.room.un⟩, fns := fun f fd h => by
      obtain ⟨fa, fdt, ps, k, h1, h2, h3, h4⟩ := C.hts ka f fd h
      exact ⟨fa, fdt, ps, k, h1, h2, h3, ⟨⟨h4.1.dp, h4.1.un⟩, h4.2⟩⟩,
    free := C.free, glb := C.glb, cw := C.cw, tk := fun h => (by cases h),
    pc := fun σ => passAt tk σ,
    fr := C.fr }
theorem ss_hd (C : SCtx L cf xa xn N W X sc) (h : Hd) (y : Nat) {h₀ : Stmt} (k : chkH L N own sc h h₀ = true) (a : Addr) (pn : List (Addr × Obj)) : PSs (X.suite a pn) [h₀] (rdS own X.K W fun ρ => evH cf L.gl h y ρ) := by
  cases h with
  | set i d =>
    simp only [chkH] at k
    split at k
    · simp only [Bool.and_eq_true, decide_eq_true_eq] at k
      obtain ⟨⟨⟨k1, k2⟩, k3⟩, k5⟩ := k
      refine pss_imp (pss_one (ps_set (X := X.suite a pn) C.nd (by show X.N[_]? = _; rw [C.nN]; exact k1) (loc_of (locM_of k2).1 (show (X.suite a pn).env.scope = sc from C.scp)) (pe_lit (K := X.K) (W := W) (r := fun _ => .fail) d k3) (swap_of k5 _ _ _) (.inl (C.fn _)))) fun E σ H ⟨H0, M, ρ, mm, R, g⟩ => ?_
      exact fun v H1 e1 r => (show ∀ σ' H', RE X.K H0 M H' σ' (setV ρ i d) → Pers H H' → E.nx σ' H' from g) _ H1 ((R.ex e1).set (sl_of (locM_of k2).2 mm) r) (.of e1)
    · cases k
  | ret d =>
    simp only [chkH] at k
    split at k
    · simp only [Bool.and_eq_true, decide_eq_true_eq] at k
      obtain ⟨rfl, k3⟩ := k
      refine pss_imp (pss_one (ps_ret (X := X.suite a pn) (pe_lit (K := X.K) (W := W) (r := fun _ => .fail) d k3))) fun E σ H ⟨H0, M, ρ, mm, R, g⟩ => ?_
      exact fun v H1 e1 r => (show ∀ v H', ExW (M.map (·.2)) H0 H' → Pers H H' → RetR .no X.K M H0 H' v d → E.rt v H' from g) v H1 (R.tr e1) (.of e1) r
    · cases k
  | pass =>
    simp only [chkH] at k
    split at k
    · exact pss_imp (pss_one ps_pass) fun E σ H ⟨H0, M, ρ, mm, R, g⟩ => (show ∀ σ' H', RE X.K H0 M H' σ' ρ → Pers H H' → E.nx σ' H' from g) σ H R (Pers.refl H)
    · cases k
  | one x v f l =>
    simp only [chkH] at k
    cases k
  | raise c =>
    simp only [chkH] at k
    cases k
  | retC f es =>
    simp only [chkH] at k
    cases k
/-- a suite that may raise -/
theorem ss_hdX (C : SCtx L cf xa xn N W X sc) (ka : L.ab = true) (h : Hd) (y : Nat) {h₀ : Stmt} (k : chkHX L N xn own sc h h₀ = true) (a : Addr) (pn : List (Addr × Obj)) (tk : L2.Takes (L2H.suiteX X a pn) (WW xa W)) (hc : L2H.HotC (L2H.suiteX X a pn)) :
    PSs (L2H.suiteX X a pn) [h₀] (rdS own X.K W fun ρ => evH cf L.gl h y ρ) := by
  cases h with
  | raise c =>
    simp only [chkHX] at k
    split at k
    · simp only [Bool.and_eq_true, decide_eq_true_eq] at k
      obtain ⟨gl, o⟩ := glo_of k.2 C.scp
      have x := C.xc _ _ k.1
      refine pss_imp (pss_one (L2H.ps_raiseH (X := L2H.suiteX X a pn) hc tk (L2N.pmk_own PySem.F.excBase_ValueError x.ex x.g x.kp (raises_own x.sb x.ty) gl (nm1 o).1))) fun E σ H ⟨H0, M, ρ, mm, R, g⟩ => ?_
      exact ⟨c, rfl, rfl, (show ∀ σ' H', RE X.K H0 M H' σ' ρ → Pers H H' → W c σ' H' from g) σ H R (Pers.refl H)⟩
    · cases k
  | retC f es =>
    simp only [chkHX] at k
    split at k
    · rename_i e p
      rw [Bool.and_eq_true, decide_eq_true_eq] at k
      obtain ⟨rfl, k⟩ := k
      refine pss_imp (pss_one (ps_ret (X := L2H.suiteX X a pn) ((x_all (.call f es)).e.v rfl (C.su ka tk hc) k))) fun E σ H ⟨H0, M, ρ, mm, R, g⟩ => ⟨H0, _, ρ, R.r, (GS.withE R g).mono fun d g v H1 e1 r => ?_⟩
      exact (show ∀ v H', ExW (M.map (·.2)) H0 H' → Pers H H' → RetR .no X.K M H0 H' v d → E.rt v H' from g) v H1 (R.tr e1) (.of e1) r
    · cases k
  | set i d => simp only [chkHX] at k; cases k
  | ret d => simp only [chkHX] at k; cases k
  | pass => simp only [chkHX] at k; cases k
  | one x v f l => simp only [chkHX] at k; cases k
/-- the suite that asks for the class -/
def tsOne (xa : Nat → Addr) (x : Nat) (v : Option Nat) (l : List Nat) (a : Addr) (cls : Value) (d : Option Addr) : TS := fun D σ H => ∃ (y : Nat) (σ0 : L2.St), cls = .ref (xa y) ∧ d = none ∧ σ = σ0.set x (some (.ref a)) ∧ match v with
  | none => l.contains y = true ∧ ∀ H', Ex H H' → D.rt (.bl true) H'
  | some i => ∃ kb : Bool, σ0[i]? = some (some (.bl kb)) ∧ (kb = true → l.contains y = true) ∧ ∀ H', Ex H H' → D.rt (.bl kb) H'
theorem hd_one (C : SCtx L cf xa xn N W X sc) {n : Str} {x : Nat} {v : Option Nat} {f : Nat} {l : List Nat} {h₀ : Stmt} (k : chkOne L N own sc n x v f l h₀ = true) (a : Addr) (oe : Obj) (cls : Value) (d : Option Addr) (pn : List (Addr × Obj)) (hz : Zc cls d oe) (hf : ∃ vs, oe.data = .fields vs) :
    PSs (X.suite a ((a, oe) :: pn)) [h₀] (tsOne xa x v l a cls d) := by
  unfold chkOne at k
  simp only [Bool.and_eq_true, decide_eq_true_eq] at k
  obtain ⟨⟨⟨⟨k1, k2⟩, k3⟩, k4⟩, k5⟩ := k
  split at k5
  · rename_i o ho
    rw [Bool.and_eq_true, List.all_eq_true] at k5
    obtain ⟨k5, k6⟩ := k5
    obtain ⟨fa, fdt, kk, h1, h2, h3, h4, h5⟩ := C.ods f o ho
    have scp : (X.suite a ((a, oe) :: pn)).env.scope = sc := C.scp
    obtain ⟨vn, on⟩ := vis_of k4 scp
    have hN : (X.suite a ((a, oe) :: pn)).N[x]? = some n := by show X.N[x]? = _; rw [C.nN]; exact k2
    have pn_ : ∀ pos, PE (X.suite a ((a, oe) :: pn)) (.Name n pos) (tVar x) := fun pos => pe_var hN vn (nm1 on).1 (nm1 on).2.1
    have hr : L2H.RoomH kk (X.suite a ((a, oe) :: pn)).A := ⟨h4.dp, h4.un⟩
    have noX : ∀ H s e s', L2.CX X.prog X.w X.stack H s (fun _ _ _ => False) e s' → False := fun H s e s' h => by
      obtain ⟨_, _, _, _, _, _, _, _, _, _, _, _, h⟩ := h
      exact h
    have pc : ∀ {g : Str} {p1 p2 p3 : Pos}, g = L.nm f → gloB sc g = true → PE (X.suite a ((a, oe) :: pn)) (.Call (.Name g p1) [.Name n p2] [] p3) (tCallQ (spOd X.K xa o L.kt) (tCons (tVar x) tNil) (a, oe)) := fun {g p1 p2 p3} hg hl => by
      subst hg
      obtain ⟨gl, og⟩ := glo_of hl scp
      exact pe_callQ (X := X.suite a ((a, oe) :: pn)) h5 hr List.mem_cons_self gl h1 h2 h3 noX (pa_cons (pn_ p2) pa_nil (star_of rfl _)) (nm1 og).1 (star_of rfl _) (plain_star fun e he => by cases he)
    have at_ : ∀ {σ0 σ : L2.St} {s : Shared} {H : Hp} {pins : List (Addr × Obj)}, Inv (X.suite a ((a, oe) :: pn)) pins σ H s → σ = σ0.set x (some (.ref a)) → σ[x]? = some (some (.ref a)) := fun {σ0 σ s H pins} I e => by
      have hl := I.len
      have hx : x < σ.length := by rw [hl]; exact (List.getElem?_eq_some_iff.mp hN).1
      subst e
      rw [List.length_set] at hx
      exact List.getElem?_set_self hx
    have go : ∀ {σ : L2.St} {H : Hp} {Q : VK} {y : Nat}, cls = .ref (xa y) → d = none → σ[x]? = some (some (.ref a)) → l.contains y = true → (∀ H', Ex H H' → Q (.bl true) H') → tCallQ (spOd X.K xa o L.kt) (tCons (tVar x) tNil) (a, oe) σ H Q := fun {σ H Q y} e1 e2 e3 e4 q => by
      subst e1 e2
      exact ⟨_, e3, rfl, y, true, hz, hf, of_decide_eq_true (k5 y (by simpa using e4)), q⟩
    split at k6
    · simp only [Bool.and_eq_true, decide_eq_true_eq] at k6
      obtain ⟨⟨kg, kl⟩, rfl⟩ := k6
      refine ⟨fun pins s σ H D I ⟨y, σ0, e1, e2, e3, e4, q⟩ => ?_⟩
      exact (pss_one (ps_ret (pc kg kl))).run pins s σ H D I (go e1 e2 (at_ I e3) e4 q)
    · simp only [Bool.and_eq_true, decide_eq_true_eq] at k6
      obtain ⟨⟨⟨⟨⟨kg, kl⟩, rfl⟩, kw⟩, kv⟩, kx⟩ := k6
      rename_i i w wp g' gp n' np cp bp rp
      obtain ⟨vw, ow⟩ := vis_of kv scp
      have pw : ∀ pos, PE (X.suite a ((a, oe) :: pn)) (.Name w pos) (tVar i) := fun pos => pe_var (by show X.N[i]? = _; rw [C.nN]; exact kw) vw (nm1 ow).1 (nm1 ow).2.1
      refine ⟨fun pins s σ H D I ⟨y, σ0, e1, e2, e3, kb, e4, e5, q⟩ => ?_⟩
      refine (pss_one (ps_ret (pe_and (pw _) (pe_one (pc kg kl))))).run pins s σ H D I ?_
      have e6 : σ[i]? = some (some (.bl kb)) := by rw [e3, List.getElem?_set_ne (fun z => kx z.symm)]; exact e4
      refine ⟨_, e6, kb, rfl, ?_⟩
      cases kb with
      | false => exact q H (Ex.refl H)
      | true => exact go e1 e2 (at_ I e3) (e5 rfl) q
    · cases k6
  · cases k5
theorem pe_isxA {X : Cx} {sc : Scope} {a : Addr} {oe : Obj} {y x0 : Nat} {i x e : Str} {p1 p2 p3 p4 : Pos} {cv : V} {cu : Value} {b : Bool} (q : X.env.scope = sc) (hN : X.N[x0]? = some e) (hi : i = ("isinstance" : Str)) (h1 : gloB sc i = true) (hv : visB sc e = true) (hx : PE X (.Name x p3) (tC cv)) (free : X.mg "isinstance" = none)
    (C : ExcC X.K (xa y)) (hp : (a, oe) ∈ X.pn) (hz : Zc (.ref (xa y)) none oe) (hf : ∃ fs, oe.data = .fields fs) (hc : ∀ u, RelV cv u → u = cu) (hk : PySem.W.kitOne X.K (.ref (xa y)) cu = some b) :
    PE X (.Call (.Name i p1) [.Name e p2, .Name x p3] [] p4) (fun σ H Q => σ[x0]? = some (some (.ref a)) ∧ Q (.bl b) H) := by
  subst hi
  obtain ⟨gl, o⟩ := glo_of h1 q
  obtain ⟨v, o2⟩ := vis_of hv q
  obtain ⟨d1, d2, _⟩ := nm1 o2
  refine pe_imp (pe_callB (call_isQ C hp hz hf) gl free PyProof.Rows.boot_isinstance (pa_cons (pe_var hN v d1 d2) (pa_cons hx pa_nil (star_of rfl _)) (star_of rfl _)) (nm1 o).2.2 (nm1 o).1 (star_of rfl _) (plain_star fun e he => by
    rcases List.mem_cons.mp he with rfl | he
    · rfl
    · cases he)) fun σ H Q ⟨hs, hq⟩ => ?_
  exact ⟨_, hs, cv, cu, b, rfl, hc, hk, hq⟩
theorem hd_in (C : SCtx L cf xa xn N W X sc) {n : Str} {x : Nat} {v : Option Nat} {f : Nat} {l : List Nat} {h₀ : Stmt} (k : chkIn L N xn own sc n x v f l h₀ = true) (a : Addr) (oe : Obj) (cls : Value) (d : Option Addr) (pn : List (Addr × Obj)) (hz : Zc cls d oe) (hf : ∃ vs, oe.data = .fields vs) :
    PSs (X.suite a ((a, oe) :: pn)) [h₀] (tsOne xa x v l a cls d) := by
  unfold chkIn at k
  simp only [Bool.and_eq_true, decide_eq_true_eq, List.all_eq_true] at k
  obtain ⟨⟨⟨⟨⟨⟨k1, k2⟩, k3⟩, k4⟩, rfl⟩, k5⟩, k6⟩ := k
  split at k6
  · simp only [Bool.and_eq_true, decide_eq_true_eq] at k6
    obtain ⟨⟨⟨⟨⟨⟨⟨⟨⟨⟨⟨⟨⟨⟨i1, g1⟩, n1⟩, w1⟩, gw⟩, i2⟩, g2⟩, n2⟩, x1⟩, gx1⟩, i3⟩, g3⟩, n3⟩, x2⟩, gx2⟩ := k6
    subst n1 n2 w1
    subst n3
    have scp : (X.suite a ((a, oe) :: pn)).env.scope = sc := C.scp
    have hN : ∀ m, N[x]? = some m → (X.suite a ((a, oe) :: pn)).N[x]? = some m := fun m h => by show X.N[x]? = _; rw [C.nN]; exact h
    have free : (X.suite a ((a, oe) :: pn)).mg "isinstance" = none := C.free _ (by decide)
    have freeV : (X.suite a ((a, oe) :: pn)).mg "ValueError" = none := C.free _ (by decide)
    refine ⟨fun pins s σ H D I ⟨y, σ0, e1, e2, e3, e4, q⟩ => ?_⟩
    subst e1 e2
    have ky := k5 y (by simpa using e4)
    have hp : (a, oe) ∈ (X.suite a ((a, oe) :: pn)).pn := List.mem_cons_self
    have ex := C.kt.c y _ _ ky.1
    have pve : ∀ p, PE (X.suite a ((a, oe) :: pn)) (.Name "ValueError" p) (tC (.ty "ValueError")) := fun p => pe_bltn (glo_of gw scp).1 freeV (by decide +kernel) rfl (by decide) (by decide)
    have pc1 : ∀ p, PE (X.suite a ((a, oe) :: pn)) (.Name _ p) (tC (.ref (xa (f / 1024)))) := fun p => pe_glob (glo_of gx1 scp).1 (C.xc _ _ x1).g rfl (nm1 (glo_of gx1 scp).2).1
    have pc2 : ∀ p, PE (X.suite a ((a, oe) :: pn)) (.Name _ p) (tC (.ref (xa (f % 1024)))) := fun p => pe_glob (glo_of gx2 scp).1 (C.xc _ _ x2).g rfl (nm1 (glo_of gx2 scp).2).1
    have hx : σ[x]? = some (some (.ref a)) := by
      have hl := I.len
      have hx : x < σ.length := by rw [hl]; exact (List.getElem?_eq_some_iff.mp (hN _ k2)).1
      subst e3
      rw [List.length_set] at hx
      exact List.getElem?_set_self hx
    have q1 := fun p1 p2 p3 p4 => pe_isxA (p1 := p1) (p2 := p2) (p3 := p3) (p4 := p4) scp (hN _ k2) i1 g1 k4 (pve p3) free ex hp hz hf (fun u hu => hu) (C.kt.v y _ _ ky.1)
    have q2 := fun p1 p2 p3 p4 => pe_isxA (p1 := p1) (p2 := p2) (p3 := p3) (p4 := p4) scp (hN _ k2) i2 g2 k4 (pc1 p3) free ex hp hz hf (fun u hu => hu) (C.kt.k y _ _ ky.1)
    have q3 := fun p1 p2 p3 p4 => pe_isxA (p1 := p1) (p2 := p2) (p3 := p3) (p4 := p4) scp (hN _ k2) i3 g3 k4 (pc2 p3) free ex hp hz hf (fun u hu => hu) (C.kt.k y _ _ ky.2)
    refine (pss_one (ps_ret (pe_and (q1 _ _ _ _) (pe_and (q2 _ _ _ _) (pe_one (pe_not (q3 _ _ _ _))))))).run pins s σ H D I ?_
    exact ⟨hx, true, rfl, hx, true, rfl, hx, false, rfl, q H (Ex.refl H)⟩
  · cases k6
theorem SCtx.tkA (C : SCtx L cf xa xn N W X sc) (ka : L.ab = true) : L2.Takes X (WW xa W) := by
  have := C.tkS
  rw [Lw.ab_md ka] at this
  exact this
theorem ss_try {b : B} (yes no : List Nat) (c : Nat) (h : Hd) (hb : SB L.dn cf xa xn N own b) (hb2 : SB L.cl cf xa xn N own b) : SS L cf xa xn N own (.try_ b yes no c h) := fun W X sc st C k => by
  unfold chkS at k
  rw [Bool.and_eq_true] at k
  obtain ⟨kah, k⟩ := k
  split at k
  · rename_i body x np h₀ pos' pos
    simp only [Bool.and_eq_true, decide_eq_true_eq, List.all_eq_true] at k
    obtain ⟨⟨⟨⟨⟨ka, k1⟩, k2⟩, k3⟩, k4⟩, k5⟩ := k
    obtain ⟨gl, o⟩ := glo_of k2 C.scp
    have x0 := C.xc _ _ k1
    split at k5
    · simp only [Bool.and_eq_true] at k5
      obtain ⟨⟨k7, k5⟩, k6⟩ := k5
      refine ps_imp (L2H.ps_try_onlyX (c := .ref (xa c)) (Wout := WW xa W) (tb := fun W' D σ H => ∃ W2 : WN, (∀ y σ H, W2 y σ H → W' (.ref (xa y)) none σ H) ∧ rdS own X.K W2 (evB cf L.gl b) D σ H) (ts := fun _ cls _ D σ H => ∃ y, cls = .ref (xa y) ∧ rdS own X.K W (fun ρ => evH cf L.gl h y ρ) D σ H)
        C.hs C.hf ⟨gl, (nm1 o).1, .inl x0.g⟩ (C.pa k7) (C.tkA ka) (fun W' pn xe tk _ ps => ⟨fun pins s σ H D I ⟨W2, hW, q⟩ => ?_⟩) (fun a oe cls d pn _ _ tk2 hc2 => ⟨fun pins s σ H D I ⟨y, _, q⟩ => (ss_hdX C ka h y k6 a _ tk2 hc2).run pins s σ H D I q⟩)) fun D σ H ⟨H0, M, ρ, mm, R, g⟩ => ?_
      · refine (hb2 W2 (X.tr pn xe) sc body (C.trN ka (tk.imp fun cl d σ H hw => ?_) ps) k5).run pins s σ H D I q
        obtain ⟨y, rfl, rfl, hw⟩ := hw
        exact hW y σ H hw
      · refine ⟨fun y σ' H' => ∃ bb, PySem.W.exmOne X.K (.ref (xa y)) (.ref (xa c)) = some bb ∧ (bb = true → rdS own X.K W (fun ρ => evH cf L.gl h y ρ) D σ' H') ∧ (bb = false → W y σ' H'), fun y σ' H' ⟨bb, e, h1, h2⟩ => ⟨bb, e, fun z a _ => ⟨y, rfl, h1 z⟩, fun z => ⟨y, rfl, rfl, h2 z⟩⟩, H0, M, ρ, mm, R, ?_⟩
        have g : GS own X.K W H0 M H D (evB cf L.gl b ρ >>= fun fl => match fl with
          | .exc x ρ' => if yes.contains x then evH cf L.gl h x ρ' else if no.contains x then .ok (.exc x ρ') else .fail
          | f => .ok f) := g
        cases q : evB cf L.gl b ρ with
        | exc c => rw [q] at g; exact g
        | fail => rw [q] at g; exact g
        | ok fl =>
          rw [q] at g
          cases fl with
          | nx ρ2 => exact g
          | cont ρ2 => exact g
          | brk ρ2 => exact g
          | ret d => exact g
          | exc y ρ2 =>
            have g : GS own X.K W H0 M H D (if yes.contains y then evH cf L.gl h y ρ2 else if no.contains y then .ok (.exc y ρ2) else .fail) := g
            intro σ' H' R' p
            by_cases hy : yes.contains y = true
            · rw [if_pos hy] at g
              have e := C.ems y c true (k3 y (by simpa using hy))
              exact ⟨true, e, fun _ => ⟨H0, M, ρ2, mm, R', g.pers p⟩, fun z => by cases z⟩
            · rw [if_neg hy] at g
              by_cases hn : no.contains y = true
              · rw [if_pos hn] at g
                have e := C.ems y c false (k4 y (by simpa using hn))
                exact ⟨false, e, (fun z => by cases z), fun _ => (show ∀ σ' H', RE X.K H0 M H' σ' ρ2 → Pers H H' → W y σ' H' from g) σ' H' R' p⟩
              · rw [if_neg hn] at g
                exact (show False from g).elim
    · rw [Bool.and_eq_true] at k5
      obtain ⟨k5, k6⟩ := k5
      refine ps_imp (ps_try_only (c := .ref (xa c)) (Wout := WW xa W) (tb := fun W' D σ H => ∃ W2 : WN, (∀ y σ H, W2 y σ H → W' (.ref (xa y)) none σ H) ∧ rdS own X.K W2 (evB cf L.gl b) D σ H) (ts := fun _ cls _ D σ H => ∃ y, cls = .ref (xa y) ∧ rdS own X.K W (fun ρ => evH cf L.gl h y ρ) D σ H)
        C.hs C.hf ⟨gl, (nm1 o).1, .inl x0.g⟩ (C.tkA ka) (fun W' pn xe tk ps => ⟨fun pins s σ H D I ⟨W2, hW, q⟩ => ?_⟩) (fun a oe cls d pn _ _ => ⟨fun pins s σ H D I ⟨y, _, q⟩ => (ss_hd C h y k6 a _).run pins s σ H D I q⟩)) fun D σ H ⟨H0, M, ρ, mm, R, g⟩ => ?_
      · refine (hb W2 (X.tr pn xe) sc body (C.tr ka (tk.imp fun cl d σ H hw => ?_) ps) k5).run pins s σ H D I q
        obtain ⟨y, rfl, rfl, hw⟩ := hw
        exact hW y σ H hw
      · refine ⟨fun y σ' H' => ∃ bb, PySem.W.exmOne X.K (.ref (xa y)) (.ref (xa c)) = some bb ∧ (bb = true → rdS own X.K W (fun ρ => evH cf L.gl h y ρ) D σ' H') ∧ (bb = false → W y σ' H'), fun y σ' H' ⟨bb, e, h1, h2⟩ => ⟨bb, e, fun z a _ => ⟨y, rfl, h1 z⟩, fun z => ⟨y, rfl, rfl, h2 z⟩⟩, H0, M, ρ, mm, R, ?_⟩
        have g : GS own X.K W H0 M H D (evB cf L.gl b ρ >>= fun fl => match fl with
          | .exc x ρ' => if yes.contains x then evH cf L.gl h x ρ' else if no.contains x then .ok (.exc x ρ') else .fail
          | f => .ok f) := g
        cases q : evB cf L.gl b ρ with
        | exc c => rw [q] at g; exact g
        | fail => rw [q] at g; exact g
        | ok fl =>
          rw [q] at g
          cases fl with
          | nx ρ2 => exact g
          | cont ρ2 => exact g
          | brk ρ2 => exact g
          | ret d => exact g
          | exc y ρ2 =>
            have g : GS own X.K W H0 M H D (if yes.contains y then evH cf L.gl h y ρ2 else if no.contains y then .ok (.exc y ρ2) else .fail) := g
            intro σ' H' R' p
            by_cases hy : yes.contains y = true
            · rw [if_pos hy] at g
              have e := C.ems y c true (k3 y (by simpa using hy))
              exact ⟨true, e, fun _ => ⟨H0, M, ρ2, mm, R', g.pers p⟩, fun z => by cases z⟩
            · rw [if_neg hy] at g
              by_cases hn : no.contains y = true
              · rw [if_pos hn] at g
                have e := C.ems y c false (k4 y (by simpa using hn))
                exact ⟨false, e, (fun z => by cases z), fun _ => (show ∀ σ' H', RE X.K H0 M H' σ' ρ2 → Pers H H' → W y σ' H' from g) σ' H' R' p⟩
              · rw [if_neg hn] at g
                exact (show False from g).elim
  · rename_i body x np n h₀ pos' pos
    rw [Bool.and_eq_true] at k
    obtain ⟨k, k6⟩ := k
    simp only [Bool.and_eq_true, decide_eq_true_eq, List.all_eq_true] at k
    obtain ⟨⟨⟨⟨k1, k2⟩, k3⟩, k4⟩, k5⟩ := k
    split at k6
    · rename_i i v f l
      obtain ⟨gl, o⟩ := glo_of k2 C.scp
      have x0 := C.xc _ _ k1
      rw [Bool.or_eq_true, Bool.and_eq_true] at k6
      have hk : own = .no ∧ N[i]? = some n ∧ sc.names.lookup n = some .local ∧ ∀ j, v = some j → i ≠ j := by
        rcases k6 with ⟨_, k6⟩ | k6
        case inr =>
          unfold chkIn at k6
          simp only [Bool.and_eq_true, decide_eq_true_eq] at k6
          obtain ⟨⟨⟨⟨⟨⟨q1, q2⟩, q3⟩, q4⟩, q5⟩, q6⟩, q7⟩ := k6
          refine ⟨q1, q2, ?_, fun j hj => by rw [q5] at hj; cases hj⟩
          split at q3
          · assumption
          · cases q3
        unfold chkOne at k6
        simp only [Bool.and_eq_true, decide_eq_true_eq] at k6
        obtain ⟨⟨⟨⟨q1, q2⟩, q3⟩, q4⟩, q5⟩ := k6
        refine ⟨q1, q2, ?_, fun j hj => ?_⟩
        · split at q3
          · assumption
          · cases q3
        · subst hj
          split at q5
          · rw [Bool.and_eq_true] at q5
            have q6 := q5.2
            split at q6
            · rename_i hh; cases hh
            · rename_i hh
              cases hh
              simp only [Bool.and_eq_true, decide_eq_true_eq] at q6
              exact fun z => q6.2 z.symm
            · cases q6
          · cases q5
      obtain ⟨rfl, hN, hl, hij⟩ := hk
      have hsu : ∀ (a : Addr) (oe : Obj) (cls : Value) (d : Option Addr) (pn : List (Addr × Obj)), Zc cls d oe → (∃ vs, oe.data = .fields vs) → PSs (X.suite a ((a, oe) :: pn)) [h₀] (tsOne xa i v l a cls d) := fun a oe cls d pn hz hf => by
        rcases k6 with ⟨_, k6⟩ | k6
        · exact hd_one C k6 a oe cls d pn hz hf
        · exact hd_in C k6 a oe cls d pn hz hf
      have tkA : L2.Takes X (WW xa W) := by
        have := C.tkS
        cases hm : L.md with
        | any => rw [hm] at this; exact this
        | hot => rw [hm] at this; exact this
        | clean =>
          unfold Lw.ab Lw.hb at kah
          rw [hm] at kah
          cases kah
      have ctr : ∀ {W2 : WN} {pn : List (Addr × Obj)} {xe : Value → Shared → Prop}, (∀ q ∈ X.pn, q ∈ pn) → Takes (X.tr pn xe) (WW xa W2) → PassesOwn (model X.prog X.w) X.A X.env xe → SCtx L.dn cf xa xn N W2 (X.tr pn xe) sc := fun {W2 pn xe} hp tk ps => by
        cases ha : L.ab with
        | true => exact C.tr ha tk ps
        | false =>
          rw [ha, Bool.false_or] at kah
          have hm : L.md = .hot := by
            unfold Lw.hb at kah
            split at kah
            · assumption
            · cases kah
          exact C.trH hm hp tk ps
      refine ps_imp (L2H.ps_try_asH (i := i) (c := .ref (xa c)) (Wout := WW xa W) (tb := fun W' D σ H => ∃ W2 : WN, (∀ y σ H, W2 y σ H → W' (.ref (xa y)) none σ H) ∧ rdS .no X.K W2 (evB cf L.gl b) D σ H) (ts := tsOne xa i v l)
        C.hs C.hf C.nd (by rw [C.nN]; exact hN) (by show X.env.scope.names.lookup n = _; rw [C.scp]; exact hl) ⟨gl, (nm1 o).1, .inl x0.g⟩ tkA (fun W' pn xe hpn tk ps => ⟨fun pins s σ H D I ⟨W2, hW, q⟩ => ?_⟩) hsu) fun D σ H ⟨H0, M, ρ, mm, R, g⟩ => ?_
      · refine (hb W2 (X.tr pn xe) sc body (ctr hpn (tk.imp fun cl d σ H hw => ?_) ps) k5).run pins s σ H D I q
        obtain ⟨y, rfl, rfl, hw⟩ := hw
        exact hW y σ H hw
      · refine ⟨fun y σ' H' => ∃ bb, PySem.W.exmOne X.K (.ref (xa y)) (.ref (xa c)) = some bb ∧ (bb = true → ∀ a, tsOne xa i v l a (.ref (xa y)) none D (σ'.set i (some (.ref a))) H') ∧ (bb = false → W y σ' H'), fun y σ' H' ⟨bb, e, h1, h2⟩ => ⟨bb, e, fun z a _ => h1 z a, fun z => ⟨y, rfl, rfl, h2 z⟩⟩, H0, M, ρ, mm, R, ?_⟩
        have g : GS .no X.K W H0 M H D (evB cf L.gl b ρ >>= fun fl => match fl with
          | .exc x ρ' => if yes.contains x then evH cf L.gl (.one i v f l) x ρ' else if no.contains x then .ok (.exc x ρ') else .fail
          | f => .ok f) := g
        cases q : evB cf L.gl b ρ with
        | exc c => rw [q] at g; exact g
        | fail => rw [q] at g; exact g
        | ok fl =>
          rw [q] at g
          cases fl with
          | nx ρ2 => exact g
          | cont ρ2 => exact g
          | brk ρ2 => exact g
          | ret d => exact g
          | exc y ρ2 =>
            have g : GS .no X.K W H0 M H D (if yes.contains y then evH cf L.gl (.one i v f l) y ρ2 else if no.contains y then .ok (.exc y ρ2) else .fail) := g
            intro σ' H' R' p
            by_cases hy : yes.contains y = true
            · rw [if_pos hy] at g
              have e := C.ems y c true (k3 y (by simpa using hy))
              refine ⟨true, e, fun _ a => ⟨y, σ', rfl, rfl, rfl, ?_⟩, fun z => by cases z⟩
              have fin : ∀ {kb : Bool}, GS .no X.K W H0 M H D (.ok (.ret (.bl kb))) → ∀ H2, Ex H' H2 → D.rt (.bl kb) H2 := fun {kb} g H2 ex =>
                (show ∀ v H', ExW (M.map (·.2)) H0 H' → Pers H H' → RetR .no X.K M H0 H' v (.bl kb) → D.rt v H' from g) _ H2 (R'.tr ex) (p.trans (.of ex)) (.bl _)
              cases v with
              | none =>
                have g : GS .no X.K W H0 M H D (if l.contains y then .ok (.ret (.bl true)) else .fail) := g
                by_cases hl : l.contains y = true
                · rw [if_pos hl] at g
                  exact ⟨hl, fin g⟩
                · rw [if_neg hl] at g
                  exact (show False from g).elim
              | some j =>
                obtain ⟨d, ed, g⟩ := GS.o (show GS .no X.K W H0 M H D ((ofO (getSh ρ2 j)) >>= fun d => (ofO (truth d)) >>= fun k => if k then (if l.contains y then .ok (.ret (.bl true)) else .fail) else .ok (.ret (.bl false))) from g)
                obtain ⟨kb, ek, g⟩ := GS.o g
                obtain rfl := truth_o ek
                obtain ⟨u, hu, ru⟩ := R'.r.sh ed
                obtain rfl := ru.bl_inv
                refine ⟨kb, hu, ?_⟩
                cases kb with
                | false => exact ⟨(fun z => by cases z), fin g⟩
                | true =>
                  have g : GS .no X.K W H0 M H D (if l.contains y then .ok (.ret (.bl true)) else .fail) := g
                  by_cases hl : l.contains y = true
                  · rw [if_pos hl] at g
                    exact ⟨fun _ => hl, fin g⟩
                  · rw [if_neg hl] at g
                    exact (show False from g).elim
            · rw [if_neg hy] at g
              by_cases hn : no.contains y = true
              · rw [if_pos hn] at g
                have e := C.ems y c false (k4 y (by simpa using hn))
                exact ⟨false, e, (fun z => by cases z), fun _ => (show ∀ σ' H', RE X.K H0 M H' σ' ρ2 → Pers H H' → W y σ' H' from g) σ' H' R' p⟩
              · rw [if_neg hn] at g
                exact (show False from g).elim
    · cases k6
  · cases k
theorem hds_ok (C : SCtx L cf xa xn N W X sc) : ∀ {l : List (Nat × List Nat × List Nat × D)} {hs : List ExceptHandler}, chkHs L N xn sc l hs = true → HdsOk X hs (l.map fun p => (.ref (xa p.1), fun _ cls _ D σ H => rdS .no X.K W (fun ρ => .ok (.ret p.2.2.2)) D σ H))
  | [], hs, k => by
    simp only [chkHs, List.isEmpty_iff] at k
    subst k
    exact .nil
  | (c, yes, no, d) :: l, hs, k => by
    unfold chkHs at k
    split at k
    · rename_i h; cases h
    · rename_i c' yes' no' d' l' x np v rp pos' hs' heq
      cases heq
      simp only [Bool.and_eq_true, decide_eq_true_eq] at k
      obtain ⟨⟨⟨⟨⟨k1, k2⟩, k3⟩, k4⟩, k5⟩, k6⟩ := k
      obtain ⟨gl, o⟩ := glo_of k2 C.scp
      exact .cons ⟨gl, (nm1 o).1, .inl (C.xc _ _ k1).g⟩ (fun a oe cls dd pn _ _ => pss_imp (pss_one (ps_ret (X := X.suite a ((a, oe) :: pn)) (pe_lit (K := X.K) (W := W) (r := fun _ => .fail) d k5))) fun E σ H ⟨H0, M, ρ, mm, R, g⟩ => by
        exact fun v H1 e1 r => (show ∀ v H', ExW (M.map (·.2)) H0 H' → Pers H H' → RetR .no X.K M H0 H' v d → E.rt v H' from g) v H1 (R.tr e1) (.of e1) r) (hds_ok C k6)
    · cases k
theorem chkHs_em : ∀ {l : List (Nat × List Nat × List Nat × D)} {hs : List ExceptHandler}, chkHs L N xn sc l hs = true → ∀ p ∈ l, (∀ y, p.2.1.contains y = true → L.exm y p.1 = some true) ∧ ∀ y, p.2.2.1.contains y = true → L.exm y p.1 = some false
  | [], hs, k, p, h => by cases h
  | (c, yes, no, d) :: l, hs, k, p, h => by
    unfold chkHs at k
    split at k
    · rename_i h; cases h
    · rename_i c' yes' no' d' l' x np v rp pos' hs' heq
      cases heq
      simp only [Bool.and_eq_true, decide_eq_true_eq, List.all_eq_true] at k
      obtain ⟨⟨⟨⟨⟨k1, k2⟩, k3⟩, k4⟩, k5⟩, k6⟩ := k
      rcases List.mem_cons.mp h with rfl | h
      · exact ⟨fun y hy => k3 y (by simpa using hy), fun y hy => k4 y (by simpa using hy)⟩
      · exact chkHs_em k6 p h
    · cases k
theorem pick_ok (C : SCtx L cf xa xn N W X sc) {H0 H' : Hp} {M : Mp} {D : Ends} {σ' : L2.St} {ρ : Env} (mm : MFst .no M) (R : RE X.K H0 M H' σ' ρ) (y : Nat) : ∀ hs : List (Nat × List Nat × List Nat × Ev.D),
    (∀ p ∈ hs, (∀ y, p.2.1.contains y = true → L.exm y p.1 = some true) ∧ ∀ y, p.2.2.1.contains y = true → L.exm y p.1 = some false) → GS .no X.K W H0 M H' D (pickH hs y ρ) →
    wMany X.K (WW xa W) D (hs.map fun p => (.ref (xa p.1), fun _ cls _ D σ H => rdS .no X.K W (fun ρ => .ok (.ret p.2.2.2)) D σ H)) (.ref (xa y)) none σ' H'
  | [], _, g => ⟨y, rfl, rfl, (show ∀ σ2 H2, RE X.K H0 M H2 σ2 ρ → Pers H' H2 → W y σ2 H2 from g) σ' H' R (Pers.refl _)⟩
  | (c, yes, no, d) :: hs, em, g => by
    have g : GS .no X.K W H0 M H' D (if yes.contains y then .ok (.ret d) else if no.contains y then pickH hs y ρ else .fail) := g
    obtain ⟨m1, m2⟩ := em _ (List.mem_cons_self ..)
    by_cases hy : yes.contains y = true
    · rw [if_pos hy] at g
      exact ⟨true, C.ems y c true (m1 y hy), fun _ a _ => ⟨H0, M, ρ, mm, R, g⟩, fun z => by cases z⟩
    · rw [if_neg hy] at g
      by_cases hn : no.contains y = true
      · rw [if_pos hn] at g
        exact ⟨false, C.ems y c false (m2 y hn), (fun z => by cases z), fun _ => pick_ok C mm R y hs (fun p hp => em p (List.mem_cons_of_mem _ hp)) g⟩
      · rw [if_neg hn] at g
        exact (show False from g).elim
theorem ss_tryM {b : B} (hs : List (Nat × List Nat × List Nat × D)) (hb : SB L.dn cf xa xn N own b) : SS L cf xa xn N own (.tryM b hs) := fun W X sc st C k => by
  unfold chkS at k
  rw [Bool.and_eq_true] at k
  obtain ⟨ka, k⟩ := k
  split at k
  · rename_i body h₀ hds pos
    simp only [Bool.and_eq_true, decide_eq_true_eq] at k
    obtain ⟨⟨rfl, k5⟩, k6⟩ := k
    refine ps_imp (ps_try_many (Wout := WW xa W) (tb := fun W' D σ H => ∃ W2 : WN, (∀ y σ H, W2 y σ H → W' (.ref (xa y)) none σ H) ∧ rdS .no X.K W2 (evB cf L.gl b) D σ H)
      C.hs C.hf (C.tkA ka) (fun W' pn xe tk ps => ⟨fun pins s σ H D I ⟨W2, hW, q⟩ => ?_⟩) (hds_ok (W := W) C k6)) fun D σ H ⟨H0, M, ρ, mm, R, g⟩ => ?_
    · refine (hb W2 (X.tr pn xe) sc body (C.tr ka (tk.imp fun cl d σ H hw => ?_) ps) k5).run pins s σ H D I q
      obtain ⟨y, rfl, rfl, hw⟩ := hw
      exact hW y σ H hw
    · refine ⟨fun y σ' H' => wMany X.K (WW xa W) D (hs.map fun p => (.ref (xa p.1), fun _ cls _ D σ H => rdS .no X.K W (fun ρ => .ok (.ret p.2.2.2)) D σ H)) (.ref (xa y)) none σ' H', fun y σ' H' h => h, H0, M, ρ, mm, R, ?_⟩
      have g : GS .no X.K W H0 M H D (evB cf L.gl b ρ >>= fun fl => match fl with
        | .exc x ρ' => pickH hs x ρ'
        | f => .ok f) := g
      cases q : evB cf L.gl b ρ with
      | exc c => rw [q] at g; exact g
      | fail => rw [q] at g; exact g
      | ok fl =>
        rw [q] at g
        cases fl with
        | nx ρ2 => exact g
        | cont ρ2 => exact g
        | brk ρ2 => exact g
        | ret d => exact g
        | exc y ρ2 =>
          have g : GS .no X.K W H0 M H D (pickH hs y ρ2) := g
          intro σ' H' R' p
          exact pick_ok C mm R' y hs (chkHs_em k6) (g.pers p)
  · cases k
/-! ### lists that are the caller's -/
theorem fins_of {K : PySem.W.Frag} {H0 H : Hp} {M : Mp} {σ : L2.St} {ρ : Env} (R : RE K H0 M H σ ρ) : ∀ (N : Mp) (fs : List D), (∀ p ∈ N, p ∈ M) → collect (N.map (·.1)) ρ = some fs → Fins K H (N.map (·.2)) fs
  | [], fs, _, h => by
    cases h
    exact .nil
  | p :: N, fs, hs, h => by
    simp only [List.map_cons, collect] at h
    cases q : getOwn ρ p.1 with
    | none => rw [q] at h; cases h
    | some xs =>
      rw [q, Option.bind_some] at h
      cases q2 : collect (N.map (·.1)) ρ with
      | none => rw [q2] at h; cases h
      | some gs =>
        rw [q2] at h
        cases h
        obtain ⟨a, vs, e, ha, rr, _, hz⟩ := R.r.own q
        have e2 := R.mp p (hs p (List.mem_cons_self ..))
        rw [e] at e2
        cases e2
        exact .cons ha rr hz (fins_of R N gs (fun x hx => hs x (List.mem_cons_of_mem _ hx)) q2)
theorem hand_of {K : PySem.W.Frag} {H0 H : Hp} {M : Mp} {σ : L2.St} {ρ : Env} {l : List Nat} {d r : D} {v : V} (R : RE K H0 M H σ ρ) (m : MFst (.chg l) M) (h : handM l d ρ = some r) (hv : Rep K H v d) : RetR (.chg l) K M H0 H v r := by
  have m : M.map (·.1) = l := m
  unfold handM at h
  rw [← m] at h
  cases q : collect (M.map (·.1)) ρ with
  | none => rw [q] at h; cases h
  | some fs =>
    rw [q] at h
    cases h
    exact ⟨hv, fins_of R M fs (fun _ h => h) q⟩
theorem ss_retM (l : List Nat) (e : E) : SS L cf xa xn N own (.retM l e) := fun W X sc st C k => by
  unfold chkS at k
  split at k
  · simp only [Bool.and_eq_true, decide_eq_true_eq] at k
    obtain ⟨⟨rfl, k2⟩, k3⟩ := k
    refine ps_imp (ps_ret ((x_all e).e.v k3 C.toCtxOk k2)) fun E σ H ⟨H0, M, ρ, mm, R, g⟩ => ⟨H0, _, ρ, R.r, (g.withE R).mono fun d g v H1 e1 r => ?_⟩
    obtain ⟨x, ex, g⟩ := GS.o g
    exact g v H1 (R.tr e1) (.of e1) (hand_of (R.ex e1) mm ex r)
  · cases k
theorem ss_retMN (l : List Nat) : SS L cf xa xn N own (.retMN l) := fun W X sc st C k => by
  unfold chkS at k
  split at k
  · have k := of_decide_eq_true k
    subst k
    refine ps_imp ps_retN fun E σ H ⟨H0, M, ρ, mm, R, g⟩ => ?_
    obtain ⟨x, ex, g⟩ := GS.o g
    exact g _ H R.exw (Pers.refl H) (hand_of R mm ex .non)
  · cases k
end
end Ev

/-! Loops, blocks; all statements are sound; defs. -/
namespace Ev
open PySem PySem.Spec
open PyProof.Rows hiding St
open L2
open Evl (Ex)
variable [Wo]
section
variable {L : Lw} {cf : Nat → List D → Res D} {xa : Nat → Addr} {xn : Nat → Option Str} {N : List Str} {W : WN} {X : Cx} {sc : Scope} {own : Ow}
/-- what the turns of a for say -/
theorem for_turns {i : Nat} {it : It} {b : B} {E : Ends} {σ : L2.St} {H : Hp} (n2 : okSl own i = true) (hr : rdS own X.K W (evS cf L.gl (.for_ i it b)) E σ H) :
    tFor (rdI X.K W (evIt cf L.gl it)) (gName i) (rdS own X.K W (evB cf L.gl b)) E σ H := by
    obtain ⟨H0, M, ρ, mm, R, g⟩ := hr
    refine ⟨H0, _, ρ, R.r, (g.withE R).mono fun ds g J H1 e1 wk => ?_⟩
    refine ⟨fun n m σ' H' => m = ds.length - n ∧ n ≤ ds.length ∧ Pers H1 H' ∧ ∃ ρ', RE X.K H0 M H' σ' ρ' ∧ GS own X.K W H0 M H' E (forL i (fun ρ => evB cf L.gl b ρ) (ds.drop n) ρ'),
      ⟨ds.length, by simp, Nat.zero_le _, Pers.refl _, ρ, R.ex e1, by rw [List.drop_zero]; exact g.pers (.of e1)⟩, ?_⟩
    rintro n m σ' H' ⟨rfl, hn, p, ρ', R', g⟩
    by_cases hlt : n < ds.length
    · have hd : ds[n]? = some ds[n] := by simp [hlt]
      obtain ⟨go, yl⟩ := wk.go H' p n _ hd
      rw [List.drop_eq_getElem_cons hlt] at g
      refine .inr ⟨go, fun σ2 H2 => ∃ m', m' < ds.length - n ∧ (m' = ds.length - (n + 1) ∧ n + 1 ≤ ds.length ∧ Pers H1 H2 ∧ ∃ ρ2, RE X.K H0 M H2 σ2 ρ2 ∧ GS own X.K W H0 M H2 E (forL i (fun ρ => evB cf L.gl b ρ) (ds.drop (n + 1)) ρ2)), fun _ _ h => h, fun xv H2 hy => ?_⟩
      obtain ⟨rfl, rx⟩ := yl xv H2 hy
      refine ⟨H0, M, _, mm, R'.set (sl_of n2 mm) rx, ?_⟩
      have g : GS own X.K W H0 M H2 E (evB cf L.gl b (setV ρ' i ds[n]) >>= fun fl => match fl with
        | .nx ρ' => forL i (fun ρ => evB cf L.gl b ρ) (ds.drop (n + 1)) ρ'
        | .cont ρ' => forL i (fun ρ => evB cf L.gl b ρ) (ds.drop (n + 1)) ρ'
        | .brk ρ' => .ok (.nx ρ')
        | .ret d => .ok (.ret d)
        | .exc c ρ' => .ok (.exc c ρ')) := g
      have nxt : ∀ ρ2, GS own X.K W H0 M H2 E (forL i (fun ρ => evB cf L.gl b ρ) (ds.drop (n + 1)) ρ2) → ∀ σ3 H3, RE X.K H0 M H3 σ3 ρ2 → Pers H2 H3 →
          ∃ m', m' < ds.length - n ∧ (m' = ds.length - (n + 1) ∧ n + 1 ≤ ds.length ∧ Pers H1 H3 ∧ ∃ ρ2, RE X.K H0 M H3 σ3 ρ2 ∧ GS own X.K W H0 M H3 E (forL i (fun ρ => evB cf L.gl b ρ) (ds.drop (n + 1)) ρ2)) :=
        fun ρ2 g σ3 H3 R3 p3 => ⟨_, by omega, rfl, hlt, p.trans p3, ρ2, R3, g.pers p3⟩
      cases q : evB cf L.gl b (setV ρ' i ds[n]) with
      | exc c => rw [q] at g; exact g
      | fail => rw [q] at g; exact g
      | ok fl =>
        rw [q] at g
        cases fl with
        | nx ρ2 => exact nxt ρ2 g
        | cont ρ2 => exact nxt ρ2 g
        | brk ρ2 => exact g
        | ret d => exact g
        | exc c ρ2 => exact g
    · have en : n = ds.length := by omega
      subst en
      rw [List.drop_length] at g
      exact .inl ⟨wk.stop H' p, (show ∀ σ2 H2, RE X.K H0 M H2 σ2 ρ' → Pers H' H2 → E.nx σ2 H2 from g) σ' H' R' (Pers.refl _)⟩
theorem ss_for (i : Nat) (it : It) {b : B} (hb : SB L cf xa xn N own b) : SS L cf xa xn N own (.for_ i it b) := fun W X sc st C k => by
  unfold chkS at k
  rw [Bool.and_eq_true] at k
  obtain ⟨kc, k⟩ := k
  split at k
  · rename_i x px iter xs pos
    simp only [Bool.and_eq_true, decide_eq_true_eq] at k
    obtain ⟨⟨⟨k1, k2⟩, k3⟩, k4⟩ := k
    cases kb : L.cb with
    | true =>
      obtain ⟨pi, ns⟩ := it_all (cf := cf) (xa := xa) it W X sc (.Name x px) iter C.toCtxOk k3
      exact ps_imp (ps_for C.pass (C.calm kb) pi (pg_name (i := i) C.nd (by rw [C.nN]; exact k1) (loc_of (locM_of k2).1 C.scp) (.inl (C.fn _))) (hb W X sc xs C k4) (set_of ns _)) fun E σ H h => for_turns (locM_of k2).2 h
    | false =>
      rw [kb, Bool.false_or] at kc
      have hm : L.md = .hot := by
        unfold Lw.cb at kb
        split at kb
        · assumption
        · cases kb
      cases it <;> simp only [isTxt, Bool.false_eq_true] at kc
      rename_i a
      obtain ⟨pi, ns⟩ := i_txtH (cf := cf) (xa := xa) (W := W) (X := X) (tg := .Name x px) (x_all a).e C.toCtxOk k3
      exact ps_imp (L2H.ps_forH C.pass (C.hotc hm) pi (pg_name (i := i) C.nd (by rw [C.nN]; exact k1) (loc_of (locM_of k2).1 C.scp) (.inl (C.fn _))) (hb W X sc xs C k4) (set_of ns _)) fun E σ H h => for_turns (locM_of k2).2 h
  · cases k
theorem ss_whil (c : E) {b : B} (hb : SB L cf xa xn N own b) : SS L cf xa xn N own (.whil c b) := fun W X sc st C k => by
  unfold chkS at k
  split at k
  · rename_i t xs pos
    simp only [Bool.and_eq_true] at k
    obtain ⟨⟨k1, k2⟩, k3⟩ := k
    refine ps_imp (ps_while C.pass ((x_all c).t W X sc t C.toCtxOk k1 k2) (hb W X sc xs C k3)) fun E σ H ⟨H0, M, ρ, mm, R, g⟩ => ?_
    refine ⟨fun m σ' H' => ∃ ρ', RE X.K H0 M H' σ' ρ' ∧ GS own X.K W H0 M H' E (whileL (fun ρ => evE cf L.gl c ρ) (fun ρ => evB cf L.gl b ρ) m ρ'), ⟨turns, ρ, R, g⟩, ?_⟩
    rintro m σ' H' ⟨ρ', R', g⟩
    cases m with
    | zero => exact (show False from g).elim
    | succ m =>
      refine ⟨H0, _, ρ', R'.r, ?_⟩
      show Gd W σ' H' (evE cf L.gl c ρ' >>= fun x => ofO (truth x)) _
      unfold whileL at g
      cases q : evE cf L.gl c ρ' with
      | exc c => rw [q] at g; exact fun H2 e => g σ' H2 (R'.ex e) (.of e)
      | fail => rw [q] at g; exact g
      | ok d =>
        rw [q] at g
        obtain ⟨k, ek, g⟩ := GS.o g
        simp only [res_bind_ok, ek]
        show ∀ H2, Ex H' H2 → _
        intro H2 e
        have R2 := R'.ex e
        cases k with
        | false =>
          rw [if_neg Bool.false_ne_true]
          exact (show ∀ σ3 H3, RE X.K H0 M H3 σ3 ρ' → Pers H' H3 → E.nx σ3 H3 from g) σ' H2 R2 (.of e)
        | true =>
          rw [if_pos rfl]
          have g : GS own X.K W H0 M H2 E (evB cf L.gl b ρ' >>= fun fl => match fl with
            | .nx ρ' => whileL (fun ρ => evE cf L.gl c ρ) (fun ρ => evB cf L.gl b ρ) m ρ'
            | .cont ρ' => whileL (fun ρ => evE cf L.gl c ρ) (fun ρ => evB cf L.gl b ρ) m ρ'
            | .brk ρ' => .ok (.nx ρ')
            | .ret d => .ok (.ret d)
            | .exc c ρ' => .ok (.exc c ρ')) := g.pers (.of e)
          refine ⟨fun σ3 H3 => ∃ m', m' < m + 1 ∧ ∃ ρ2, RE X.K H0 M H3 σ3 ρ2 ∧ GS own X.K W H0 M H3 E (whileL (fun ρ => evE cf L.gl c ρ) (fun ρ => evB cf L.gl b ρ) m' ρ2), fun _ _ h => h, H0, M, ρ', mm, R2, ?_⟩
          have nxt : ∀ ρ2, GS own X.K W H0 M H2 E (whileL (fun ρ => evE cf L.gl c ρ) (fun ρ => evB cf L.gl b ρ) m ρ2) → ∀ σ3 H3, RE X.K H0 M H3 σ3 ρ2 → Pers H2 H3 →
              ∃ m', m' < m + 1 ∧ ∃ ρ2, RE X.K H0 M H3 σ3 ρ2 ∧ GS own X.K W H0 M H3 E (whileL (fun ρ => evE cf L.gl c ρ) (fun ρ => evB cf L.gl b ρ) m' ρ2) :=
            fun ρ2 g σ3 H3 R3 p3 => ⟨m, Nat.lt_succ_self _, ρ2, R3, g.pers p3⟩
          cases q2 : evB cf L.gl b ρ' with
          | exc c => rw [q2] at g; exact g
          | fail => rw [q2] at g; exact g
          | ok fl =>
            rw [q2] at g
            cases fl with
            | nx ρ2 => exact nxt ρ2 g
            | cont ρ2 => exact nxt ρ2 g
            | brk ρ2 => exact g
            | ret d => exact g
            | exc c ρ2 => exact g
  · cases k
theorem sb_nil : SB L cf xa xn N own .nil := fun W X sc sts C k => by
  unfold chkB at k
  rw [List.isEmpty_iff] at k
  subst k
  exact pss_imp pss_nil fun E σ H ⟨H0, M, ρ, mm, R, g⟩ => g σ H R (Pers.refl H)
theorem sb_cons {s : S} {b : B} (hs : SS L cf xa xn N own s) (hb : SB L cf xa xn N own b) : SB L cf xa xn N own (.cons s b) := fun W X sc sts C k => by
  unfold chkB at k
  split at k
  · rw [Bool.and_eq_true] at k
    refine pss_imp (pss_cons (hs W X sc _ C k.1) (hb W X sc _ C k.2)) fun E σ H ⟨H0, M, ρ, mm, R, g⟩ => ⟨H0, M, ρ, mm, R, ?_⟩
    have g : GS own X.K W H0 M H E (evS cf L.gl s ρ >>= fun fl => match fl with
      | .nx ρ' => evB cf L.gl b ρ'
      | f => .ok f) := g
    cases q : evS cf L.gl s ρ with
    | exc c => rw [q] at g; exact g
    | fail => rw [q] at g; exact g
    | ok fl =>
      rw [q] at g
      cases fl with
      | nx ρ2 => exact fun σ3 H3 R3 p3 => ⟨H0, M, ρ2, mm, R3, g.pers p3⟩
      | cont ρ2 => exact g
      | brk ρ2 => exact g
      | ret d => exact g
      | exc c ρ2 => exact g
  · cases k
theorem sb_freeze (i : Nat) {b : B} (hb : SB L cf xa xn N own b) : SB L cf xa xn N own (.freeze i b) := fun W X sc sts C k => by
  unfold chkB at k
  rw [Bool.and_eq_true] at k
  refine ⟨fun pins s σ H E I ⟨H0, M, ρ, mm, R, g⟩ => ?_⟩
  obtain ⟨xs, ex, g⟩ := g.o
  obtain ⟨a, vs, hs, ha, rr, w, hz⟩ := R.r.own ex
  obtain ⟨od, I2⟩ := I.lock ha trivial
  obtain ⟨R2, P2⟩ := R.lock (o := od) ex hs ha rr
  exact (hb W X sc sts C k.2).run pins s σ _ E I2 ⟨H0, M, _, mm, R2, g.pers P2⟩
theorem sb_frzD (i : Nat) {b : B} (hb : SB L cf xa xn N own b) : SB L cf xa xn N own (.frzD i b) := fun W X sc sts C k => by
  unfold chkB at k
  refine ⟨fun pins s σ H E I ⟨H0, M, ρ, mm, R, g⟩ => ?_⟩
  obtain ⟨es, ex, g⟩ := g.o
  obtain ⟨a, kvs, hs, ha, dr, h0, hz⟩ := R.r.dic ex
  obtain ⟨od, I2⟩ := I.lock ha trivial
  obtain ⟨R2, P2⟩ := R.lockD (o := od) ex hs ha dr
  exact (hb W X sc sts C k).run pins s σ _ E I2 ⟨H0, M, _, mm, R2, g.pers P2⟩
theorem sb_pair (i j f : Nat) (es : Es) {b : B} (hb : SB L cf xa xn N own b) : SB L cf xa xn N own (.pair i j f es b) := fun W X sc sts C k => by
  unfold chkB at k
  split at k
  · rename_i x xp g gp y ys cp ap z zp x' xp' k0 kk kp sp ap2 r
    simp only [Bool.and_eq_true, decide_eq_true_eq] at k
    obtain ⟨⟨⟨⟨⟨⟨⟨⟨⟨⟨⟨k1, k2⟩, k3⟩, rfl⟩, k5⟩, k6⟩, k7⟩, k8⟩, rfl⟩, rfl⟩, k11⟩, k12⟩ := k
    split at k6
    · rename_i fd hf
      rw [Bool.and_eq_true, decide_eq_true_eq] at k6
      obtain ⟨gl, o⟩ := glo_of k5 C.scp
      obtain ⟨vx, ox⟩ := vis_of k3 C.scp
      obtain ⟨d1, d2, _⟩ := nm1 ox
      obtain ⟨hp, hn⟩ := (es_all (cf := cf) (xa := xa) es).1 W X sc _ _ C.toCtxOk k6.1
      obtain ⟨fa, fdt, ps, kf, h1, h2, h3, h4⟩ := C.fns f fd hf
      have pe1 := pe_lk (pe_callF (p := gp) (pos := cp) C.toCtxOk h4 gl h1 h2 h3 hp (nm1 o).1 (star_of (hn y (List.mem_cons_self ..)) _) (plain_star fun e he => hn e (List.mem_cons_of_mem _ he)))
      have ps1 := ps_set (pos := ap) (pos' := xp) C.nd (by rw [C.nN]; exact k1) (loc_of (locM_of k2).1 C.scp) pe1 rfl (.inl (C.fn _))
      have ps2 := ps_set (pos := ap2) (pos' := zp) C.nd (by rw [C.nN]; exact k7) (loc_of (locM_of k8).1 C.scp) (pe_ix (pos := sp) ix_list (pe_var (pos := xp') (by rw [C.nN]; exact k1) vx d1 d2) (pe_int (i := 0) (j := kk) (pos := kp)) (slice_of (by rfl))) rfl (.inl (C.fn _))
      refine pss_imp (pss_cons ps1 (pss_cons ps2 (hb W X sc _ C k12))) fun E σ H ⟨H0, M, ρ, mm, R, g⟩ => ?_
      have g := GS.withE R g
      refine ⟨H0, _, ρ, R.r, g.bind.mono fun ds g vs H1 e1 rs => ⟨ds, [], rs, by rw [k6.2]; rfl, ?_⟩⟩
      cases q : cf f ds with
      | ok d =>
        rw [q] at g
        refine fun v H' e2 rr => ?_
        obtain ⟨⟨xs, d2s⟩, ep, g2⟩ := GS.o (show GS own X.K W H0 M H E (ofO (if i < ρ.length then pairOf d else none) >>= fun p => evB cf L.gl b (setPrt (setOwn ρ j p.1) i p.2)) from g)
        split at ep
        · rename_i hi
          unfold pairOf at ep
          split at ep
          · rename_i xs' ds'
            cases ep
            rw [k6.2] at rr
            have e2 : Ex H1 H' := e2.nil
            obtain ⟨a, p, vs, ws, rfl, ne, ha0, ha, hp0, hp, rx, hz, rw', hz2⟩ := rr
            refine .inl ⟨a, _, rfl, ha, fun ob => ?_⟩
            have eH : Ex H1 (upd H' a (.frz ob (.lst (.ref p :: ws)))) := Evl.Ex.mut e2 ha0
            have eH0 := e1.trans eH
            have P' : Pers H' (upd H' a (.frz ob (.lst (.ref p :: ws)))) := (Pers.refl H').mut ha
            have fr : FRep X.K H (upd H' a (.frz ob (.lst (.ref p :: ws)))) (.ref p) (.lst xs) := ⟨p, vs, rfl, Evl.fresh_back e1 hp0, by rw [upd_ne ne]; exact hp, rx.mono P', hz⟩
            have R2 := (R.setF (i := j) (sl_of (locM_of k8).2 mm) eH0 fr).setP (i := i) (sl_of (locM_of k2).2 mm) upd_same (rw'.mono P') hz2
            have hiσ : i < σ.length := by rw [R.r.len]; exact hi
            have hj : atI (V.ref p :: ws) 0 = some (.ref p) := by
              unfold atI L2.ixN
              rw [if_pos (by omega), if_pos (by rw [List.length_cons]; omega)]
              rfl
            refine ⟨.ref a, by rw [List.getElem?_set_self hiσ], a, _, 0, .ref p, rfl, rfl, .inl (.inr ⟨ob, upd_same⟩), hj, ?_⟩
            rw [List.set_comm _ _ (Ne.symm k11)] at R2
            exact ⟨H0, M, _, mm, R2, GS.pers (.of eH0) g2⟩
          · cases ep
        · cases ep
      | exc c =>
        rw [q] at g
        exact fun H' e2 => ⟨c, rfl, rfl, (show ∀ H', Ex H H' → W c σ H' from g) H' (e1.trans e2)⟩
      | fail =>
        rw [q] at g
        exact g
    · cases k6
  · cases k
/-! ### calls that change their arguments -/
/-- the arguments: at a place of mu a slot's list or a new one -/
inductive MArgs (K : PySem.W.Frag) (σ : L2.St) (ρ : Env) (H H1 : Hp) (mu : List Nat) : Nat → List (Option Nat) → List V → List D → Mp → Prop
  | nil (k : Nat) : MArgs K σ ρ H H1 mu k [] [] [] []
  | val {k : Nat} {ms : List (Option Nat)} {v : V} {d : D} {vs : List V} {ds : List D} {M : Mp} : mu.contains k = false → Rep K H1 v d → MArgs K σ ρ H H1 mu (k + 1) ms vs ds M → MArgs K σ ρ H H1 mu k ms (v :: vs) (d :: ds) M
  | slot {k i : Nat} {ms : List (Option Nat)} {a : Addr} {us : List V} {xs : List D} {vs : List V} {ds : List D} {M : Mp} : mu.contains k = true → σ[i]? = some (some (.ref a)) → getOwn ρ i = some xs → H a = some (.lst us) → H1 a = some (.lst us) → Reps K H1 us xs → xs.length ≤ line → MArgs K σ ρ H H1 mu (k + 1) ms vs ds M →
      MArgs K σ ρ H H1 mu k (some i :: ms) (.ref a :: vs) (.lst xs :: ds) ((k, a) :: M)
  | new {k : Nat} {ms : List (Option Nat)} {a : Addr} {us : List V} {xs : List D} {vs : List V} {ds : List D} {M : Mp} : mu.contains k = true → H a = none → H1 a = some (.lst us) → Reps K H1 us xs → xs.length ≤ line → MArgs K σ ρ H H1 mu (k + 1) ms vs ds M →
      MArgs K σ ρ H H1 mu k (none :: ms) (.ref a :: vs) (.lst xs :: ds) ((k, a) :: M)
section
variable {K : PySem.W.Frag} {σ : L2.St} {ρ : Env} {H H1 H2 H' : Hp} {mu : List Nat}
omit [Wo] in
theorem MArgs.back (e : Ex H H1) (hs : ∀ (i : Nat) (a : Addr) (xs : List D), σ[i]? = some (some (.ref a)) → getOwn ρ i = some xs → ∃ us, H a = some (.lst us)) : ∀ {k : Nat} {ms : List (Option Nat)} {vs : List V} {ds : List D} {M : Mp}, MArgs K σ ρ H1 H2 mu k ms vs ds M → MArgs K σ ρ H H2 mu k ms vs ds M
  | _, _, _, _, _, .nil k => .nil k
  | _, _, _, _, _, .val h1 h2 r => .val h1 h2 (MArgs.back e hs r)
  | _, _, _, _, _, .slot h1 h2 h3 h4 h5 h6 h7 r => by
    obtain ⟨us, hu⟩ := hs _ _ _ h2 h3
    have := e _ _ hu
    rw [this] at h4
    cases h4
    exact .slot h1 h2 h3 hu h5 h6 h7 (MArgs.back e hs r)
  | _, _, _, _, _, .new h1 h2 h3 h4 h5 r => .new h1 (Evl.fresh_back e h2) h3 h4 h5 (MArgs.back e hs r)
omit [Wo] in
theorem MArgs.args : ∀ {k : Nat} {ms : List (Option Nat)} {vs : List V} {ds : List D} {M : Mp}, MArgs K σ ρ H H1 mu k ms vs ds M → ArgsR K H1 ((List.range' k vs.length).map (pkOf mu)) vs ds
  | _, _, _, _, _, .nil k => .nil
  | k, _, _ :: vs, _, _, .val h1 h2 r => by
    rw [List.length_cons, List.range'_succ, List.map_cons, show pkOf mu k = .s by unfold pkOf; rw [h1]; rfl]
    exact .cons h2 (MArgs.args r)
  | k, _, _ :: vs, _, _, .slot h1 h2 h3 h4 h5 h6 h7 r => by
    rw [List.length_cons, List.range'_succ, List.map_cons, show pkOf mu k = .b by unfold pkOf; rw [h1]; rfl]
    exact .cons (show RepB _ _ _ _ from .inr ⟨_, _, _, rfl, rfl, h5, h6, h7⟩) (MArgs.args r)
  | k, _, _ :: vs, _, _, .new h1 h2 h3 h4 h5 r => by
    rw [List.length_cons, List.range'_succ, List.map_cons, show pkOf mu k = .b by unfold pkOf; rw [h1]; rfl]
    exact .cons (show RepB _ _ _ _ from .inr ⟨_, _, _, rfl, rfl, h3, h4, h5⟩) (MArgs.args r)
omit [Wo] in
theorem MArgs.fst : ∀ {k : Nat} {ms : List (Option Nat)} {vs : List V} {ds : List D} {M : Mp}, MArgs K σ ρ H H1 mu k ms vs ds M → M.map (·.1) = (List.range' k vs.length).filter mu.contains
  | _, _, _, _, _, .nil k => rfl
  | k, _, _ :: vs, _, _, .val h1 h2 r => by
    rw [List.length_cons, List.range'_succ, List.filter_cons_of_neg (by rw [h1]; decide)]
    exact MArgs.fst r
  | k, _, _ :: vs, _, _, .slot h1 h2 h3 h4 h5 h6 h7 r => by
    rw [List.length_cons, List.range'_succ, List.filter_cons_of_pos h1, List.map_cons, MArgs.fst r]
  | k, _, _ :: vs, _, _, .new h1 h2 h3 h4 h5 r => by
    rw [List.length_cons, List.range'_succ, List.filter_cons_of_pos h1, List.map_cons, MArgs.fst r]
omit [Wo] in
theorem MArgs.at_ : ∀ {k : Nat} {ms : List (Option Nat)} {vs : List V} {ds : List D} {M : Mp}, MArgs K σ ρ H H1 mu k ms vs ds M → ∀ p ∈ M, k ≤ p.1 ∧ vs[p.1 - k]? = some (.ref p.2) ∧ ∃ us xs, H1 p.2 = some (.lst us) ∧ ds[p.1 - k]? = some (.lst xs) ∧ Reps K H1 us xs ∧ xs.length ≤ line
  | _, _, _, _, _, .nil k => fun p h => by cases h
  | k, _, _ :: vs, _, _, .val h1 h2 r => fun p h => by
    obtain ⟨a, b, us, xs, c, d, e⟩ := MArgs.at_ r p h
    have : p.1 - k = (p.1 - (k + 1)) + 1 := by omega
    exact ⟨by omega, by rw [this]; simpa using b, us, xs, c, by rw [this]; simpa using d, e⟩
  | k, _, _ :: vs, _, _, .slot h1 h2 h3 h4 h5 h6 h7 r => fun p h => by
    rcases List.mem_cons.mp h with rfl | h
    · exact ⟨Nat.le_refl _, by simp, _, _, h5, by simp, h6, h7⟩
    · obtain ⟨a, b, us, xs, c, d, e⟩ := MArgs.at_ r p h
      have : p.1 - k = (p.1 - (k + 1)) + 1 := by omega
      exact ⟨by omega, by rw [this]; simpa using b, us, xs, c, by rw [this]; simpa using d, e⟩
  | k, _, _ :: vs, _, _, .new h1 h2 h3 h4 h5 r => fun p h => by
    rcases List.mem_cons.mp h with rfl | h
    · exact ⟨Nat.le_refl _, by simp, _, _, h3, by simp, h4, h5⟩
    · obtain ⟨a, b, us, xs, c, d, e⟩ := MArgs.at_ r p h
      have : p.1 - k = (p.1 - (k + 1)) + 1 := by omega
      exact ⟨by omega, by rw [this]; simpa using b, us, xs, c, by rw [this]; simpa using d, e⟩
/-- which lists: a slot's, or a new one -/
inductive MSl (σ : L2.St) (ρ : Env) (H : Hp) : List (Option Nat) → List Addr → Prop
  | nil : MSl σ ρ H [] []
  | slot {i : Nat} {ms : List (Option Nat)} {a : Addr} {us : List V} {xs : List D} {as : List Addr} : σ[i]? = some (some (.ref a)) → getOwn ρ i = some xs → H a = some (.lst us) → MSl σ ρ H ms as → MSl σ ρ H (some i :: ms) (a :: as)
  | new {ms : List (Option Nat)} {a : Addr} {as : List Addr} : H a = none → MSl σ ρ H ms as → MSl σ ρ H (none :: ms) (a :: as)
omit [Wo] in
theorem MArgs.sl : ∀ {k : Nat} {ms : List (Option Nat)} {vs : List V} {ds : List D} {M : Mp}, MArgs K σ ρ H H1 mu k ms vs ds M → MSl σ ρ H ms (M.map (·.2))
  | _, _, _, _, _, .nil k => .nil
  | _, _, _, _, _, .val h1 h2 r => MArgs.sl r
  | _, _, _, _, _, .slot h1 h2 h3 h4 h5 h6 h7 r => .slot h2 h3 h4 (MArgs.sl r)
  | _, _, _, _, _, .new h1 h2 h3 h4 h5 r => .new h2 (MArgs.sl r)
omit [Wo] in
theorem MSl.mem : ∀ {ms : List (Option Nat)} {as : List Addr}, MSl σ ρ H ms as → ∀ a ∈ as, (∃ i xs us, some i ∈ ms ∧ σ[i]? = some (some (.ref a)) ∧ getOwn ρ i = some xs ∧ H a = some (.lst us)) ∨ (none ∈ ms ∧ H a = none)
  | _, _, .nil, a, h => by cases h
  | _, _, .slot h1 h2 h3 r, a, h => by
    rcases List.mem_cons.mp h with rfl | h
    · exact .inl ⟨_, _, _, List.mem_cons_self .., h1, h2, h3⟩
    · rcases MSl.mem r a h with ⟨i, xs, us, a1, a2⟩ | ⟨a1, a2⟩
      · exact .inl ⟨i, xs, us, List.mem_cons_of_mem _ a1, a2⟩
      · exact .inr ⟨List.mem_cons_of_mem _ a1, a2⟩
  | _, _, .new h1 r, a, h => by
    rcases List.mem_cons.mp h with rfl | h
    · exact .inr ⟨List.mem_cons_self .., h1⟩
    · rcases MSl.mem r a h with ⟨i, xs, us, a1, a2⟩ | ⟨a1, a2⟩
      · exact .inl ⟨i, xs, us, List.mem_cons_of_mem _ a1, a2⟩
      · exact .inr ⟨List.mem_cons_of_mem _ a1, a2⟩
omit [Wo] in
theorem mem_somes {i : Nat} : ∀ {ms : List (Option Nat)}, some i ∈ ms → i ∈ somes ms
  | some j :: ms, h => by
    rcases List.mem_cons.mp h with e | h
    · cases e; exact List.mem_cons_self ..
    · exact List.mem_cons_of_mem _ (mem_somes h)
  | none :: ms, h => by
    rcases List.mem_cons.mp h with e | h
    · cases e
    · show i ∈ somes ms
      exact mem_somes h
theorem MSl.nodup {H0 : Hp} {Wr : List Addr} (R : REnv K H0 Wr H σ ρ) : ∀ {ms : List (Option Nat)} {as : List Addr}, MSl σ ρ H ms as → (somes ms).Nodup → (ms.filter Option.isNone).length ≤ 1 → as.Nodup
  | _, _, .nil, _, _ => List.nodup_nil
  | _, _, @MSl.slot _ _ _ i ms a us xs as h1 h2 h3 r, hn, hm => by
    have hn := List.nodup_cons.mp (show (i :: somes ms).Nodup from hn)
    refine List.nodup_cons.mpr ⟨fun hmem => ?_, MSl.nodup R r hn.2 hm⟩
    rcases MSl.mem r a hmem with ⟨j, ys, vs, b1, b2, b3, b4⟩ | ⟨_, b⟩
    · have : i ≠ j := fun e => hn.1 (e ▸ mem_somes b1)
      exact R.dist i j _ _ _ _ this rfl rfl (getOwn_some h2) (getOwn_some b3) (h1.trans b2.symm)
    · rw [h3] at b; cases b
  | _, _, @MSl.new _ _ _ ms a as h1 r, hn, hm => by
    have hm2 : (ms.filter Option.isNone).length = 0 := by
      rw [List.filter_cons_of_pos (by rfl), List.length_cons] at hm
      omega
    refine List.nodup_cons.mpr ⟨fun hmem => ?_, MSl.nodup R r hn (by omega)⟩
    rcases MSl.mem r a hmem with ⟨j, ys, vs, b1, b2, b3, b4⟩ | ⟨b, _⟩
    · rw [h1] at b4; cases b4
    · have : none ∈ ms.filter Option.isNone := List.mem_filter.mpr ⟨b, rfl⟩
      rw [List.length_eq_zero_iff.mp hm2] at this
      cases this
end
def tMs (K : PySem.W.Frag) (W : WN) (cf : Nat → List D → Res D) (gl : Nat → Option D) (mu : List Nat) (k : Nat) (es : Es) (ms : List (Option Nat)) : TA := fun σ H Q => ∃ H0 Wr ρ, REnv K H0 Wr H σ ρ ∧ (∀ i, some i ∈ ms → ∃ xs, getOwn ρ i = some xs) ∧ Gd W σ H (evEs cf gl es ρ) fun ds => ∀ vs M H', Ex H H' → MArgs K σ ρ H H' mu k ms vs ds M → Q vs H'
omit [Wo] in
theorem own_any {ρ : Env} {i : Nat} {xs : List D} (h : getOwn ρ i = some xs) : getAny ρ i = some (.lst xs) := by
  unfold getAny
  rw [getOwn_some h]
theorem pa_ms (C : CtxOk L cf xa N W X sc) (mu : List Nat) : ∀ (es : Es) (k : Nat) (ms : List (Option Nat)) (xs : List Expr), chkMs L N sc mu k es ms xs = true → PA X xs (tMs X.K W cf L.gl mu k es ms) ∧ ∀ x ∈ xs, notStar x = true
  | .nil, k, ms, xs, h => by
    unfold chkMs at h
    simp only [Bool.and_eq_true, List.isEmpty_iff] at h
    obtain ⟨rfl, rfl⟩ := h
    exact ⟨pa_imp pa_nil fun σ H Q ⟨H0, Wr, ρ, R, ho, g⟩ => g [] [] H (Ex.refl H) (.nil k), fun _ h => by cases h⟩
  | .cons a as, k, ms, xs, h => by
    unfold chkMs at h
    split at h
    · rename_i e es
      rw [Bool.and_eq_true] at h
      obtain ⟨ns, h⟩ := h
      have back : ∀ {H0 Wr H H1 ρ σ}, REnv X.K H0 Wr H σ ρ → Ex H H1 → ∀ (i : Nat) (a : Addr) (xs : List D), σ[i]? = some (some (.ref a)) → getOwn ρ i = some xs → ∃ us, H a = some (.lst us) := fun R e i a xs h1 h2 => by
        obtain ⟨b, us, e1, e2, _⟩ := R.own h2
        rw [h1] at e1
        cases e1
        exact ⟨us, e2⟩
      by_cases hk : mu.contains k = true
      · rw [if_pos hk] at h
        split at h
        · rename_i i ms'
          rw [Bool.and_eq_true] at h
          obtain ⟨h1, h2⟩ := h
          split at h1
          · rename_i j
            rw [Bool.and_eq_true] at h1
            have ej := Nat.eq_of_beq_eq_true h1.1
            subst ej
            obtain ⟨hp, hn⟩ := pa_ms C mu as (k + 1) ms' es h2
            refine ⟨?_, fun y hy => ?_⟩
            · have h3 := h1.2
              unfold chkE at h3
              split at h3
              · rename_i x p
                rw [Bool.and_eq_true, decide_eq_true_eq] at h3
                obtain ⟨v, o⟩ := vis_of h3.2 C.scp
                obtain ⟨d1, d2, _⟩ := nm1 o
                refine pa_imp (pa_cons (pe_var (by rw [C.nN]; exact h3.1) v d1 d2) hp (star_of ns _)) fun σ H Q ⟨H0, Wr, ρ, R, ho, g⟩ => ?_
                obtain ⟨xs, hx⟩ := ho i (List.mem_cons_self ..)
                obtain ⟨a, us, e1, e2, rr, _, hz⟩ := R.own hx
                have g : Gd W σ H (evEs cf L.gl as ρ >>= fun l => .ok (.lst xs :: l)) fun ds => ∀ vs M H', Ex H H' → MArgs X.K σ ρ H H' mu k (some i :: ms') vs ds M → Q vs H' := by
                  have : evEs cf L.gl (.cons (.bor i) as) ρ = (evEs cf L.gl as ρ >>= fun l => .ok (.lst xs :: l)) := by
                    show (ofO (getAny ρ i) >>= fun x => evEs cf L.gl as ρ >>= fun l => .ok (x :: l)) = _
                    rw [own_any hx]
                    rfl
                  rw [← this]
                  exact g
                refine ⟨.ref a, e1, H0, Wr, ρ, R, fun j hj => ho j (List.mem_cons_of_mem _ hj), g.bind.mono fun ds g vs M H1 ex ma => ?_⟩
                exact g _ _ H1 ex (.slot hk e1 hx e2 (ex _ _ e2) (rr.mono (.of ex)) hz ma)
              · cases h3
            · rcases List.mem_cons.mp hy with rfl | hy
              · exact ns
              · exact hn y hy
          · cases h1
        · rename_i ms'
          rw [Bool.and_eq_true] at h
          obtain ⟨h1, h2⟩ := h
          split at h1
          · rename_i bs
            obtain ⟨hp, hn⟩ := pa_ms C mu as (k + 1) ms' es h2
            refine ⟨?_, fun y hy => ?_⟩
            · refine pa_imp (pa_cons ((x_all (cf := cf) (xa := xa) (.lst bs)).e W X sc e C h1) hp (star_of ns _)) fun σ H Q ⟨H0, Wr, ρ, R, ho, g⟩ => ?_
              refine ⟨H0, Wr, ρ, R, ?_⟩
              have g : Gd W σ H (evE cf L.gl (.lst bs) ρ >>= fun x => evEs cf L.gl as ρ >>= fun l => .ok (x :: l)) fun ds => ∀ vs M H', Ex H H' → MArgs X.K σ ρ H H' mu k (none :: ms') vs ds M → Q vs H' := g
              have g := g.bind
              cases q : evE cf L.gl (.lst bs) ρ with
              | fail => rw [q] at g; exact g
              | exc c => rw [q] at g; exact g
              | ok d =>
                rw [q] at g
                obtain ⟨xs, rfl⟩ : ∃ xs, d = .lst xs := by
                  have q : (evEs cf L.gl bs ρ >>= fun l => Res.ok (D.lst l)) = .ok d := q
                  cases q2 : evEs cf L.gl bs ρ with
                  | ok l => rw [q2] at q; cases q; exact ⟨l, rfl⟩
                  | exc c => rw [q2] at q; cases q
                  | fail => rw [q2] at q; cases q
                refine fun v H1 e1 r => ?_
                obtain ⟨a, us, rfl, na, ha, rr, hz⟩ : ∃ a us, v = .ref a ∧ H a = none ∧ H1 a = some (.lst us) ∧ Reps X.K H1 us xs ∧ xs.length ≤ line := r
                refine ⟨H0, Wr, ρ, R.ex e1, fun j hj => ho j (List.mem_cons_of_mem _ hj), ((show Gd W σ H (evEs cf L.gl as ρ >>= fun l => .ok (.lst xs :: l)) _ from g).ex e1).bind.mono fun ds g vs M H2 e2 ma => ?_⟩
                exact g _ _ H2 (e1.trans e2) (.new hk na (e2 _ _ ha) (rr.mono (.of e2)) hz (ma.back e1 (back R e1)))
            · rcases List.mem_cons.mp hy with rfl | hy
              · exact ns
              · exact hn y hy
          · cases h1
        · cases h
      · rw [if_neg hk] at h
        simp only [Bool.and_eq_true] at h
        obtain ⟨⟨h1, h2⟩, h3⟩ := h
        obtain ⟨hp, hn⟩ := pa_ms C mu as (k + 1) ms es h3
        refine ⟨?_, fun y hy => ?_⟩
        · refine pa_imp (pa_cons ((x_all (cf := cf) (xa := xa) a).e.v h2 C h1) hp (star_of ns _)) fun σ H Q ⟨H0, Wr, ρ, R, ho, g⟩ => ?_
          refine ⟨H0, Wr, ρ, R, g.bind.mono fun d g v H1 e1 r => ⟨H0, Wr, ρ, R.ex e1, ho, (g.ex e1).bind.mono fun ds g vs M H2 e2 ma => ?_⟩⟩
          exact g _ _ H2 (e1.trans e2) (.val (by simpa using hk) (Rep.mono (.of e2) r) (ma.back e1 (back R e1)))
        · rcases List.mem_cons.mp hy with rfl | hy
          · exact ns
          · exact hn y hy
    · cases h
omit [Wo] in
theorem setOwns_other {j : Nat} : ∀ (ms : List (Option Nat)) (ls : List (List D)) (ρ : Env), j ∉ somes ms → (setOwns ms ls ρ)[j]? = ρ[j]?
  | [], ls, ρ, _ => by cases ls <;> rfl
  | some i :: ms, [], ρ, _ => rfl
  | none :: ms, [], ρ, _ => rfl
  | some i :: ms, xs :: ls, ρ, h => by
    have h1 : j ≠ i := fun e => h (e ▸ List.mem_cons_self ..)
    have h2 : j ∉ somes ms := fun e => h (List.mem_cons_of_mem _ e)
    show (setOwns ms ls (setOwn ρ i xs))[j]? = _
    rw [setOwns_other ms ls _ h2]
    unfold setOwn
    rw [List.getElem?_set_ne (Ne.symm h1)]
  | none :: ms, xs :: ls, ρ, h => by
    show (setOwns ms ls ρ)[j]? = _
    exact setOwns_other ms ls ρ h
omit [Wo] in
theorem setOwns_len : ∀ (ms : List (Option Nat)) (ls : List (List D)) (ρ : Env), (setOwns ms ls ρ).length = ρ.length
  | [], ls, ρ => by cases ls <;> rfl
  | some i :: ms, [], ρ => rfl
  | none :: ms, [], ρ => rfl
  | some i :: ms, xs :: ls, ρ => by
    show (setOwns ms ls (setOwn ρ i xs)).length = _
    rw [setOwns_len]
    unfold setOwn
    simp
  | none :: ms, xs :: ls, ρ => by
    show (setOwns ms ls ρ).length = _
    rw [setOwns_len]
omit [Wo] in
theorem setOwns_at {K : PySem.W.Frag} {σ : L2.St} {ρ0 : Env} {H H' : Hp} : ∀ {ms : List (Option Nat)} {as : List Addr} {fs : List D} {ls : List (List D)}, MSl σ ρ0 H ms as → Fins K H' as fs → lists fs = some ls → (somes ms).Nodup → ∀ (ρ' : Env), ρ'.length = ρ0.length → ∀ j ∈ somes ms,
    ∃ a xs us, σ[j]? = some (some (.ref a)) ∧ a ∈ as ∧ (setOwns ms ls ρ')[j]? = some (some (.own, .lst xs)) ∧ H' a = some (.lst us) ∧ Reps K H' us xs ∧ xs.length ≤ line
  | _, _, _, _, .nil, _, _, _, ρ', _, j, hj => by cases hj
  | _, _, _, _, @MSl.slot _ _ _ i ms a us xs as h1 h2 h3 r, @Fins.cons _ _ _ vs ys _ fs f1 f2 f3 fr, hl, hn, ρ', hρ, j, hj => by
    have hn := List.nodup_cons.mp (show (i :: somes ms).Nodup from hn)
    unfold lists at hl
    cases q : lists fs with
    | none => rw [q] at hl; cases hl
    | some ls' =>
      rw [q] at hl
      cases hl
      rcases List.mem_cons.mp (show j ∈ i :: somes ms from hj) with rfl | hj
      · refine ⟨a, ys, vs, h1, List.mem_cons_self .., ?_, f1, f2, f3⟩
        show (setOwns ms ls' (setOwn ρ' j ys))[j]? = _
        rw [setOwns_other ms ls' _ hn.1]
        unfold setOwn
        rw [List.getElem?_set_self]
        rw [hρ]
        exact lt_of_get (getOwn_some h2)
      · obtain ⟨b, zs, ws, b1, b2, b3⟩ := setOwns_at r fr q hn.2 (setOwn ρ' i ys) (by unfold setOwn; simpa using hρ) j hj
        exact ⟨b, zs, ws, b1, List.mem_cons_of_mem _ b2, b3⟩
  | _, _, _, _, @MSl.new _ _ _ ms a as h1 r, @Fins.cons _ _ _ vs ys _ fs f1 f2 f3 fr, hl, hn, ρ', hρ, j, hj => by
    unfold lists at hl
    cases q : lists fs with
    | none => rw [q] at hl; cases hl
    | some ls' =>
      rw [q] at hl
      cases hl
      obtain ⟨b, zs, ws, b1, b2, b3⟩ := setOwns_at r fr q hn ρ' hρ j hj
      exact ⟨b, zs, ws, b1, List.mem_cons_of_mem _ b2, b3⟩
omit [Wo] in
theorem somes_mem {i : Nat} : ∀ {ms : List (Option Nat)}, i ∈ somes ms → some i ∈ ms
  | some j :: ms, h => by
    rcases List.mem_cons.mp (show i ∈ j :: somes ms from h) with rfl | h
    · exact List.mem_cons_self ..
    · exact List.mem_cons_of_mem _ (somes_mem h)
  | none :: ms, h => List.mem_cons_of_mem _ (somes_mem (show i ∈ somes ms from h))
theorem RE.over {K : PySem.W.Frag} {H0 H H1 H' : Hp} {M : Mp} {σ : L2.St} {ρ : Env} {ms : List (Option Nat)} {as : List Addr} {fs : List D} {ls : List (List D)} (R : RE K H0 M H σ ρ) (ho : ∀ i, some i ∈ ms → ∃ xs, getOwn ρ i = some xs) (e1 : Ex H H1) (sl : MSl σ ρ H ms as) (nd : (somes ms).Nodup)
    (hx : ExW as H1 H') (hl1 : ∀ a ∈ as, ∃ us, H1 a = some (.lst us)) (fin : Fins K H' as fs) (hls : lists fs = some ls) : RE K H0 M H' σ (setOwns ms ls ρ) ∧ Pers H1 H' := by
  have na : ∀ {b : Addr} {u : HO}, H1 b = some u → (∀ us, u ≠ .lst us) → b ∉ as := fun h hu hb => by
    obtain ⟨us, e⟩ := hl1 _ hb
    rw [e] at h
    cases h
    exact hu _ rfl
  have P : Pers H1 H' := ⟨fun a xs h => hx a _ h (na h fun _ z => by cases z), fun a o u h => hx a _ h (na h fun _ z => by cases z)⟩
  have R1 := R.r.ex e1
  have at1 := setOwns_at sl fin hls nd ρ rfl
  have notin : ∀ {b : Addr} {u : HO}, H b = some u → (∀ i, some i ∈ ms → σ[i]? ≠ some (some (.ref b))) → b ∉ as := fun {b u} h hs hb => by
    rcases MSl.mem sl b hb with ⟨i, xs, us, b1, b2, _⟩ | ⟨_, b2⟩
    · exact hs i b1 b2
    · rw [h] at b2; cases b2
  have ownOf : ∀ (i : Nat) (f : Fl) (d : D), f.isOwn = true → (setOwns ms ls ρ)[i]? = some (some (f, d)) → ∃ g d', g.isOwn = true ∧ ρ[i]? = some (some (g, d')) := fun i f d of h => by
    by_cases hi : i ∈ somes ms
    · obtain ⟨xs, hx⟩ := ho i (somes_mem hi)
      exact ⟨_, _, rfl, getOwn_some hx⟩
    · rw [setOwns_other ms ls ρ hi] at h
      exact ⟨_, _, of, h⟩
  have memW : ∀ {b : Addr}, b ∈ as → H0 b = none ∨ b ∈ M.map (·.2) := fun {b} hb => by
    rcases MSl.mem sl b hb with ⟨i, xs, us, b1, b2, b3, b4⟩ | ⟨_, b2⟩
    · obtain ⟨a, vs, e, _, _, w, _⟩ := R.r.own b3
      rw [b2] at e
      cases e
      exact w
    · refine .inl ?_
      cases q : H0 b with
      | none => rfl
      | some o =>
        by_cases hw : b ∈ M.map (·.2)
        · obtain ⟨u, hu⟩ := R.r.wrH b hw
          rw [b2] at hu; cases hu
        · have := R.r.gr b o q hw
          rw [b2] at this; cases this
  refine ⟨⟨⟨by rw [setOwns_len]; exact R.r.len, fun i f d h => ?_, fun i j f g d d' hij of og h1 h2 => ?_, fun a o h hw => ?_, R.r.wr, fun a hw => ?_⟩, R.mp⟩, P⟩
  · by_cases hi : i ∈ somes ms
    · obtain ⟨a, xs, us, b1, b2, b3, b4, b5, b6⟩ := at1 i hi
      rw [b3] at h
      cases h
      exact ⟨.ref a, b1, a, us, xs, rfl, rfl, b4, b5, memW b2, b6⟩
    · rw [setOwns_other ms ls ρ hi] at h
      obtain ⟨v, hv, s⟩ := R1.at_ i f d h
      refine ⟨v, hv, ?_⟩
      cases f with
      | sh => exact Rep.mono P s
      | own =>
        obtain ⟨a, vs, xs, rfl, rfl, h5, rr, w, hz⟩ := s
        obtain ⟨v0, hv0, s0⟩ := R.r.at_ i _ _ h
        rw [hv] at hv0
        cases hv0
        obtain ⟨a0, vs0, xs0, e0, _, h50, _⟩ := s0
        cases e0
        refine ⟨a, vs, xs, rfl, rfl, hx a _ h5 (notin h50 fun j hj e => ?_), rr.mono P, w, hz⟩
        obtain ⟨ys, hy⟩ := ho j hj
        have : i ≠ j := fun e => hi (e ▸ mem_somes hj)
        exact R.r.dist i j _ _ _ _ this rfl rfl h (getOwn_some hy) (hv.trans e.symm)
      | bor => exact s
      | prt =>
        obtain ⟨a, o, x, vs, xs, e1, e2, h5, rr, hz⟩ := s
        exact ⟨a, o, x, vs, xs, e1, e2, P.2 _ _ _ h5, rr.mono P, hz⟩
      | dic =>
        obtain ⟨a, kvs, es, e1, e2, h5, rr, w, hz⟩ := s
        exact ⟨a, kvs, es, e1, e2, hx a _ h5 (na h5 fun _ z => by cases z), rr.mono P, w, hz⟩
      | dsh =>
        obtain ⟨a, o, kvs, es, e1, e2, h5, rr, hz⟩ := s
        exact ⟨a, o, kvs, es, e1, e2, P.2 _ _ _ h5, rr.mono P, hz⟩
      | nky =>
        obtain ⟨a, xs, ks, e1, e2, h5, rr, w⟩ := s
        exact ⟨a, xs, ks, e1, e2, hx a _ h5 (na h5 fun _ z => by cases z), rr.mono P, w⟩
  · obtain ⟨_, _, o1, q1⟩ := ownOf i f d of h1
    obtain ⟨_, _, o2, q2⟩ := ownOf j g d' og h2
    exact R.r.dist i j _ _ _ _ hij o1 o2 q1 q2
  · have h1 := R.r.gr a o h hw
    refine hx a o (e1 a o h1) fun hb => ?_
    rcases memW hb with z | z
    · rw [z] at h; cases h
    · exact hw z
  · obtain ⟨u, hu⟩ := R1.wrH a hw
    by_cases hb : a ∈ as
    · have : ∀ {as : List Addr} {fs : List D}, Fins K H' as fs → ∀ b ∈ as, ∃ u, H' b = some u := fun {as fs} f => by
        induction f with
        | nil => intro b h; cases h
        | cons f1 _ _ _ ih =>
          intro b h
          rcases List.mem_cons.mp h with rfl | h
          · exact ⟨_, f1⟩
          · exact ih b h
      exact this fin a hb
    · exact ⟨u, hx a u hu hb⟩
omit [Wo] in
theorem ownsAt_ho : ∀ {ms : List (Option Nat)} {ρ : Env} {u : Unit}, ownsAt ms ρ = some u → ∀ i, some i ∈ ms → ∃ xs, getOwn ρ i = some xs
  | [], _, _, _, i, h => by cases h
  | some j :: ms, ρ, u, h, i, hi => by
    unfold ownsAt at h
    cases q : getOwn ρ j with
    | none => rw [q] at h; cases h
    | some xs =>
      rw [q] at h
      rcases List.mem_cons.mp hi with e | hi
      · cases e; exact ⟨xs, q⟩
      · exact ownsAt_ho h i hi
  | none :: ms, ρ, u, h, i, hi => by
    unfold ownsAt at h
    rcases List.mem_cons.mp hi with e | hi
    · cases e
    · exact ownsAt_ho h i hi
omit [Wo] in
theorem evEs_len {ρ : Env} {gl : Nat → Option D} : ∀ {es : Es} {ds : List D}, evEs cf gl es ρ = .ok ds → ds.length = es.len
  | .nil, ds, h => by cases h; rfl
  | .cons e es, ds, h => by
    have h : (evE cf gl e ρ >>= fun x => evEs cf gl es ρ >>= fun l => Res.ok (x :: l)) = .ok ds := h
    cases q : evE cf gl e ρ with
    | exc c => rw [q] at h; cases h
    | fail => rw [q] at h; cases h
    | ok x =>
      rw [q, res_bind_ok] at h
      cases q2 : evEs cf gl es ρ with
      | exc c => rw [q2] at h; cases h
      | fail => rw [q2] at h; cases h
      | ok l =>
        rw [q2] at h
        cases h
        rw [List.length_cons, evEs_len q2]
        rfl
omit [Wo] in
theorem MArgs.len {K : PySem.W.Frag} {σ : L2.St} {ρ : Env} {H H1 : Hp} {mu : List Nat} : ∀ {k : Nat} {ms : List (Option Nat)} {vs : List V} {ds : List D} {M : Mp}, MArgs K σ ρ H H1 mu k ms vs ds M → vs.length = ds.length
  | _, _, _, _, _, .nil k => rfl
  | _, _, _, _, _, .val _ _ r => congrArg Nat.succ (MArgs.len r)
  | _, _, _, _, _, .slot _ _ _ _ _ _ _ r => congrArg Nat.succ (MArgs.len r)
  | _, _, _, _, _, .new _ _ _ _ _ r => congrArg Nat.succ (MArgs.len r)
def tCallM (K : PySem.W.Frag) (W : WN) (cf : Nat → List D → Res D) (gl : Nat → Option D) (f : Nat) (es : Es) (ms : List (Option Nat)) : TE := fun σ H Q => ∃ H0 M ρ, RE K H0 M H σ ρ ∧ (∀ i, some i ∈ ms → ∃ xs, getOwn ρ i = some xs) ∧ Gd W σ H (evEs cf gl es ρ >>= fun l => cf f l) fun d =>
  ∃ p, mutRes ms.length d = some p ∧ ∀ v H', RE K H0 M H' σ (setOwns ms p.2 ρ) → Pers H H' → Rep K H' v p.1 → Q v H'
theorem pe_callM (C : SCtx L cf xa xn N W X sc) {f : Nat} {es : Es} {ms : List (Option Nat)} {e : Expr} (h : chkCall L N sc f es ms e = true) : PE X e (tCallM X.K W cf L.gl f es ms) ∧ notStar e = true ∧ notComp e = true := by
  unfold chkCall at h
  split at h
  · rename_i x p ys pos
    simp only [Bool.and_eq_true, decide_eq_true_eq] at h
    obtain ⟨⟨⟨⟨rfl, h2⟩, h3⟩, h4⟩, h5⟩ := h
    split at h5
    · rename_i fd hf
      split at h5
      · rename_i l hl
        simp only [Bool.and_eq_true, decide_eq_true_eq] at h5
        obtain ⟨⟨⟨k1, k2⟩, k3⟩, k4⟩ := h5
        obtain ⟨gl, o⟩ := glo_of h2 C.scp
        obtain ⟨hp, hn⟩ := pa_ms C.toCtxOk l es 0 ms ys k1
        obtain ⟨fa, fdt, ps, kk, f1, f2, f3, f4⟩ := C.fns f fd hf
        cases ys with
        | nil => simp at h3
        | cons y ys =>
          refine ⟨pe_imp (pe_callF C.toCtxOk f4 gl f1 f2 f3 hp (nm1 o).1 (star_of (hn y (List.mem_cons_self ..)) _) (plain_star fun e he => hn e (List.mem_cons_of_mem _ he))) fun σ H Q ⟨H0, M, ρ, R, ho, g⟩ => ?_, rfl, rfl⟩
          refine ⟨H0, _, ρ, R.r, ho, ?_⟩
          have g := g.bind
          cases q : evEs cf L.gl es ρ with
          | fail => rw [q] at g; exact g
          | exc c => rw [q] at g; exact g
          | ok ds =>
            rw [q] at g
            refine fun vs Mc H1 e1 ma => ?_
            have hlen : vs.length = es.len := ma.len.trans (evEs_len q)
            have hfst : Mc.map (·.1) = l := by rw [ma.fst, hlen]; exact k3.symm
            have hat := ma.at_
            refine ⟨ds, Mc, by rw [k4, ← hlen]; exact ma.args, ?_, ?_⟩
            · rw [hl]
              refine ⟨hfst, MSl.nodup R.r ma.sl h4 k2, fun p hp => ?_⟩
              obtain ⟨_, a2, us, xs, a3, a4, a5, a6⟩ := hat p hp
              exact ⟨by simpa using a2, us, xs, a3, by simpa using a4, a5, a6⟩
            · have g : Gd W σ H (cf f ds) _ := g
              cases q2 : cf f ds with
              | fail => rw [q2] at g; exact g
              | exc c =>
                rw [q2] at g
                exact fun H' e2 => ⟨c, rfl, rfl, g H' (e1.trans e2)⟩
              | ok d =>
                rw [q2] at g
                obtain ⟨⟨r, ls⟩, em, g⟩ := g
                refine fun v H' hx rr => ?_
                rw [hl] at rr
                cases d <;> simp only [mutRes, reduceCtorEq] at em
                rename_i ts
                cases ts with
                | nil => cases em
                | cons r0 fs =>
                  simp only at em
                  split at em
                  · rename_i hle
                    cases q3 : lists fs with
                    | none => rw [q3] at em; cases em
                    | some ls0 =>
                      rw [q3] at em
                      cases em
                      obtain ⟨hv, fin⟩ : Rep X.K H' v r ∧ Fins X.K H' (Mc.map fun p : Nat × Addr => p.2) fs := rr
                      obtain ⟨R2, P2⟩ := R.over ho e1 ma.sl h4 hx (fun a ha => by
                        obtain ⟨p, hp, rfl⟩ := List.mem_map.mp ha
                        obtain ⟨_, _, us, xs, a3, _⟩ := hat p hp
                        exact ⟨us, a3⟩) fin q3
                      exact g v H' R2 ((Pers.of e1).trans P2) hv
                  · cases em
      · cases h5
    · cases h5
  · cases h
/-- what a call's flow tells -/
theorem callM_flow {H0 H : Hp} {M : Mp} {E : Ends} {σ : L2.St} {ρ : Env} {f : Nat} {es : Es} {ms : List (Option Nat)} {gl : Nat → Option D} {F : D × List (List D) → Res Flow} {K : PySem.W.Frag} (R : RE K H0 M H σ ρ)
    (g : GS own K W H0 M H E ((ofO (ownsAt ms ρ)) >>= fun _ => withE (evEs cf gl es ρ >>= fun l => cf f l) ρ fun d => (ofO (mutRes ms.length d)) >>= F)) :
    (∀ i, some i ∈ ms → ∃ xs, getOwn ρ i = some xs) ∧ Gd W σ H (evEs cf gl es ρ >>= fun l => cf f l) fun d => ∃ p, mutRes ms.length d = some p ∧ GS own K W H0 M H E (F p) := by
  obtain ⟨u, eu, g⟩ := GS.o g
  refine ⟨ownsAt_ho eu, (GS.withE R g).mono fun d g => ?_⟩
  obtain ⟨p, ep, g⟩ := GS.o g
  exact ⟨p, ep, g⟩
theorem ret_of {K : PySem.W.Frag} {H0 H : Hp} {M : Mp} {σ : L2.St} {ρ : Env} {l : Option (List Nat)} {d r : D} {v : V} (R : RE K H0 M H σ ρ) (m : MFst own M) (hl : ownO own l = true) (h : handO l d ρ = some r) (hv : Rep K H v d) : RetR own K M H0 H v r := by
  cases own with
  | no =>
    cases l with
    | none => cases h; exact hv
    | some l => cases hl
  | chg k =>
    cases l with
    | none => cases hl
    | some l =>
      have e : k = l := of_decide_eq_true hl
      subst e
      exact hand_of R m h hv
  | own => cases l <;> cases hl
  | prt => cases l <;> cases hl
omit [Wo] in
theorem lastOf_app : ∀ {es xs : List Expr} {e : Expr}, lastOf es = some (xs, e) → es = xs ++ [e]
  | [], _, _, h => by cases h
  | [a], _, _, h => by cases h; rfl
  | a :: b :: es, xs, e, h => by
    unfold lastOf at h
    cases q : lastOf (b :: es) with
    | none => rw [q] at h; cases h
    | some p =>
      rw [q] at h
      cases h
      rw [List.cons_append, ← lastOf_app q]
def tPre (K : PySem.W.Frag) (W : WN) (cf : Nat → List D → Res D) (gl : Nat → Option D) (n : Nat) (pre : Es) (t : TE) : TA := fun σ H Q => ∃ H0 Wr ρ, REnv K H0 Wr H σ ρ ∧ Gd W σ H (evEs cf gl pre ρ) fun ps => ∀ vs H1, Ex H H1 → Reps K H1 vs ps → vs.length = n → t σ H1 fun v H2 => Q (vs ++ [v]) H2
theorem pa_pre (C : CtxOk L cf xa N W X sc) {e : Expr} {t : TE} (he : PE X e t) (ne : notStar e = true) : ∀ (pre : Es) (xs : List Expr), chkEs L N pre (xs.map fun _ => Pk.s) sc xs = true → PA X (xs ++ [e]) (tPre X.K W cf L.gl xs.length pre t)
  | .nil, xs, h => by
    unfold chkEs at h
    simp only [Bool.and_eq_true, List.isEmpty_iff] at h
    obtain ⟨h1, h2⟩ := h
    have : xs = [] := by first | exact h1 | exact h2 | simpa using h1
    subst this
    exact pa_imp (pa_cons he pa_nil (star_of ne _)) fun σ H Q ⟨H0, Wr, ρ, R, g⟩ => g [] H (Ex.refl H) .nil rfl
  | .cons a as, xs, h => by
    unfold chkEs at h
    split at h
    · rename_i b bs x xs' hbs
      cases hbs
      simp only [Bool.and_eq_true] at h
      obtain ⟨⟨⟨k1, hv⟩, k2⟩, k4⟩ := h
      refine pa_imp (pa_cons ((x_all (cf := cf) (xa := xa) a).e.v hv C k1) (pa_pre C he ne as xs' k4) (star_of k2 _)) fun σ H Q ⟨H0, Wr, ρ, R, g⟩ => ?_
      refine ⟨H0, Wr, ρ, R, g.bind.mono fun d g v H1 e1 r => ⟨H0, Wr, ρ, R.ex e1, (g.ex e1).bind.mono fun ds g vs H2 e2 rs hl => ?_⟩⟩
      exact g _ H2 (e1.trans e2) (.cons (Rep.mono (.of e2) r) rs) (by rw [List.length_cons, List.length_cons, hl])
    · cases h
theorem ss_callM (k : Km) (f : Nat) (es : Es) (ms : List (Option Nat)) : SS L cf xa xn N own (.callM k f es ms) := fun W X sc st C h => by
  unfold chkS at h
  cases k with
  | drop =>
    unfold chkK at h
    simp only at h
    split at h
    · rw [Bool.and_eq_true] at h
      obtain ⟨pe, ns, nc⟩ := pe_callM C h.1
      refine ps_imp (ps_expr pe (swap_of h.2 _ _ _)) fun E σ H ⟨H0, M, ρ, mm, R, g⟩ => ?_
      obtain ⟨_, _, g⟩ := GS.o g
      obtain ⟨ho, g⟩ := callM_flow R g
      exact ⟨H0, M, ρ, R, ho, g.mono fun d ⟨p, ep, g⟩ => ⟨p, ep, fun v H' R2 P2 rv => g σ H' R2 P2⟩⟩
    · cases h
  | asg i =>
    unfold chkK at h
    simp only at h
    split at h
    · simp only [Bool.and_eq_true, decide_eq_true_eq] at h
      obtain ⟨⟨⟨k1, k2⟩, k3⟩, k4⟩ := h
      obtain ⟨pe, ns, nc⟩ := pe_callM C k3
      refine ps_imp (ps_set C.nd (by rw [C.nN]; exact k1) (loc_of (locM_of k2).1 C.scp) pe (swap_of k4 _ _ _) (.inl (C.fn _))) fun E σ H ⟨H0, M, ρ, mm, R, g⟩ => ?_
      obtain ⟨_, _, g⟩ := GS.o g
      obtain ⟨ho, g⟩ := callM_flow R g
      exact ⟨H0, M, ρ, R, ho, g.mono fun d ⟨p, ep, g⟩ => ⟨p, ep, fun v H' R2 P2 rv => g _ H' (R2.set (sl_of (locM_of k2).2 mm) rv) P2⟩⟩
    · cases h
  | ret l =>
    unfold chkK at h
    simp only at h
    split at h
    · rw [Bool.and_eq_true] at h
      obtain ⟨pe, ns, nc⟩ := pe_callM C h.2
      refine ps_imp (ps_ret pe) fun E σ H ⟨H0, M, ρ, mm, R, g⟩ => ?_
      obtain ⟨_, _, g⟩ := GS.o g
      obtain ⟨ho, g⟩ := callM_flow R g
      refine ⟨H0, M, ρ, R, ho, g.mono fun d ⟨p, ep, g⟩ => ⟨p, ep, fun v H' R2 P2 rv => ?_⟩⟩
      obtain ⟨r, er, g⟩ := GS.o g
      exact g v H' R2.exw P2 (ret_of R2 mm h.1 er rv)
    · cases h
  | app i =>
    unfold chkK at h
    simp only at h
    split at h
    · simp only [Bool.and_eq_true, decide_eq_true_eq] at h
      obtain ⟨⟨⟨⟨⟨k1, k2⟩, rfl⟩, k3⟩, k4⟩, k6⟩ := h
      obtain ⟨pe, ns, nc⟩ := pe_callM C k4
      obtain ⟨v, o⟩ := vis_of k2 C.scp
      obtain ⟨d1, d2, _⟩ := nm1 o
      have st := star_of (es := []) k6 X.env
      refine ps_imp (ps_expr (pe_bm PySem.F.plainAttrs_list PySem.F.slot_list_append PySem.F.type_list_append mt_append (pe_var (by rw [C.nN]; exact k1) v d1 d2) (pa_cons pe pa_nil st) rfl (by rw [st]; rfl) k3 st (plain_star fun e he => by cases he))) fun E σ H ⟨H0, M, ρ, mm, R, g⟩ => ?_
      obtain ⟨u, eu, g⟩ := GS.o g
      obtain ⟨ho, g⟩ := callM_flow R g
      cases q : getOwn ρ i with
      | none => simp only [konP, q] at eu; cases eu
      | some xs0 =>
        obtain ⟨a, vs0, hs, ha, rr0, _, hz0⟩ := R.r.own q
        refine ⟨_, hs, .inl ⟨rfl, _, .inl (.inl ha)⟩, H0, M, ρ, R, ho, g.mono fun d ⟨p, ep, g⟩ => ⟨p, ep, fun v H' R2 P2 rv => ?_⟩⟩
        obtain ⟨xs, ex, g⟩ := GS.o g
        obtain ⟨ys, ey, g⟩ := GS.o g
        obtain ⟨b, vs, hb, hb2, rr, _, hz⟩ := R2.r.own ex
        rw [hs] at hb
        cases hb
        unfold appL at ey
        split at ey <;> cases ey
        rename_i hl
        refine ⟨a, vs, v, rfl, rfl, hb2, by rw [rr.length]; exact hl, ?_⟩
        obtain ⟨R3, P3⟩ := R2.write ex hs hb2 (rr.append (.one rv)) (by rw [List.length_append]; simp; omega)
        exact g σ _ R3 (P2.trans P3)
    · cases h
  | ext i =>
    unfold chkK at h
    simp only at h
    split at h
    · simp only [Bool.and_eq_true, decide_eq_true_eq] at h
      obtain ⟨⟨⟨⟨⟨k1, k2⟩, rfl⟩, k3⟩, k4⟩, k6⟩ := h
      obtain ⟨pe, ns, nc⟩ := pe_callM C k4
      obtain ⟨v, o⟩ := vis_of k2 C.scp
      obtain ⟨d1, d2, _⟩ := nm1 o
      have st := star_of (es := []) k6 X.env
      refine ps_imp (ps_expr (pe_bm PySem.F.plainAttrs_list PySem.F.slot_list_extend PySem.F.type_list_extend mt_ext (pe_var (by rw [C.nN]; exact k1) v d1 d2) (pa_cons pe pa_nil st) rfl (by rw [st]; rfl) k3 st (plain_star fun e he => by cases he))) fun E σ H ⟨H0, M, ρ, mm, R, g⟩ => ?_
      obtain ⟨u, eu, g⟩ := GS.o g
      obtain ⟨ho, g⟩ := callM_flow R g
      cases q : getOwn ρ i with
      | none => simp only [konP, q] at eu; cases eu
      | some xs0 =>
        obtain ⟨a, vs0, hs, ha, rr0, _, hz0⟩ := R.r.own q
        refine ⟨_, hs, .inl ⟨rfl, _, .inl (.inl ha)⟩, H0, M, ρ, R, ho, g.mono fun d ⟨p, ep, g⟩ => ⟨p, ep, fun v H' R2 P2 rv => ?_⟩⟩
        obtain ⟨xs, ex, g⟩ := GS.o g
        obtain ⟨ys, ey, g⟩ := GS.o g
        obtain ⟨zs, ez, g⟩ := GS.o g
        obtain ⟨b, vs, hb, hb2, rr, _, hz⟩ := R2.r.own ex
        rw [hs] at hb
        cases hb
        unfold extL at ez
        split at ez <;> cases ez
        rename_i hl
        have hz2 : ∃ b us, v = .ref b ∧ (Rd H' b (.lst us) ∨ SqT X.K H' b us) ∧ Reps X.K H' us ys := by
          cases hp1 : p.1 <;> rw [hp1] at ey rv <;> simp only [seqOf, reduceCtorEq] at ey <;> cases ey
          · obtain ⟨b, us, e1, h4, rb⟩ := RepB.tup_inv (.inl rv)
            exact ⟨b, us, e1, .inr h4, rb⟩
          · obtain ⟨b, us, e1, h4, rb⟩ := RepB.lst_inv (.inl rv)
            exact ⟨b, us, e1, .inl h4, rb⟩
        obtain ⟨b, us, rfl, hb3, rb⟩ := hz2
        refine ⟨a, b, vs, us, rfl, rfl, hb2, hb3, by rw [rr.length, rb.length]; exact hl, ?_⟩
        obtain ⟨R3, P3⟩ := R2.write ex hs hb2 (rr.append rb) (by rw [List.length_append]; exact hl)
        exact g σ _ R3 (P2.trans P3)
    · cases h
  | asgT i pre =>
    unfold chkK at h
    simp only at h
    split at h
    · rename_i x px ys ctx pt ps
      simp only [Bool.and_eq_true, decide_eq_true_eq] at h
      obtain ⟨⟨k1, k2⟩, h⟩ := h
      split at h
      · rename_i q hq
        simp only [Bool.and_eq_true, decide_eq_true_eq] at h
        obtain ⟨⟨k3, k4⟩, k5⟩ := h
        obtain ⟨pe, ns, nc⟩ := pe_callM C k4
        have ey := lastOf_app hq
        have pp := pa_pre C.toCtxOk pe ns pre q.1 k3
        rw [← ey] at pp
        refine ps_imp (ps_set C.nd (by rw [C.nN]; exact k1) (loc_of (locM_of k2).1 C.scp) (pe_tup pp) rfl (.inl (C.fn _))) fun E σ H ⟨H0, M, ρ, mm, R, g⟩ => ?_
        obtain ⟨_, _, g⟩ := GS.o g
        refine ⟨H0, _, ρ, R.r, (GS.withE R g).mono fun ps g vs H1 e1 rs hvs => ?_⟩
        obtain ⟨ho, g⟩ := callM_flow (R.ex e1) (g.pers (.of e1))
        refine ⟨H0, M, ρ, R.ex e1, ho, g.mono fun d ⟨p, ep, g⟩ => ⟨p, ep, fun v H' R2 P2 rv => ?_⟩⟩
        have hl : (vs ++ [v]).length = ys.length := by rw [ey, List.length_append, List.length_append, hvs]; rfl
        have hl2 : (ps ++ [p.1]).length ≤ line := by
          rw [List.length_append] at hl ⊢
          rw [← rs.length]
          simp only [List.length_cons, List.length_nil] at hl ⊢
          omega
        refine ⟨by rw [hl]; have lv : sizeLine = line := rfl; omega, fun t ht => ?_⟩
        have e2 : Ex H' (upd H' t (.tup (vs ++ [v]))) := Ex.new ht
        exact g _ _ ((R2.ex e2).set (sl_of (locM_of k2).2 mm) (rep_tup ht ((rs.mono P2).append (.one rv)) hl2)) (P2.trans (.of e2))
      · cases h
    · cases h
  | retT l pre =>
    unfold chkK at h
    simp only at h
    split at h
    · rename_i ys ctx pt ps
      rw [Bool.and_eq_true] at h
      obtain ⟨k1, h⟩ := h
      split at h
      · rename_i q hq
        simp only [Bool.and_eq_true, decide_eq_true_eq] at h
        obtain ⟨⟨k3, k4⟩, k5⟩ := h
        obtain ⟨pe, ns, nc⟩ := pe_callM C k4
        have ey := lastOf_app hq
        have pp := pa_pre C.toCtxOk pe ns pre q.1 k3
        rw [← ey] at pp
        refine ps_imp (ps_ret (pe_tup pp)) fun E σ H ⟨H0, M, ρ, mm, R, g⟩ => ?_
        obtain ⟨_, _, g⟩ := GS.o g
        refine ⟨H0, _, ρ, R.r, (GS.withE R g).mono fun ps g vs H1 e1 rs hvs => ?_⟩
        obtain ⟨ho, g⟩ := callM_flow (R.ex e1) (g.pers (.of e1))
        refine ⟨H0, M, ρ, R.ex e1, ho, g.mono fun d ⟨p, ep, g⟩ => ⟨p, ep, fun v H' R2 P2 rv => ?_⟩⟩
        have hl : (vs ++ [v]).length = ys.length := by rw [ey, List.length_append, List.length_append, hvs]; rfl
        have hl2 : (ps ++ [p.1]).length ≤ line := by
          rw [List.length_append] at hl ⊢
          rw [← rs.length]
          simp only [List.length_cons, List.length_nil] at hl ⊢
          omega
        refine ⟨by rw [hl]; have lv : sizeLine = line := rfl; omega, fun t ht => ?_⟩
        have e2 : Ex H' (upd H' t (.tup (vs ++ [v]))) := Ex.new ht
        obtain ⟨r, er, g⟩ := GS.o g
        exact g _ _ (R2.tr e2) (P2.trans (.of e2)) (ret_of (R2.ex e2) mm k1 er (rep_tup ht ((rs.mono P2).append (.one rv)) hl2))
      · cases h
    · cases h
mutual
theorem s_all : ∀ (s : S) (L : Lw), SS L cf xa xn N own s
  | .pass, L => ss_pass
  | .expr e, L => ss_expr e
  | .assign i e, L => ss_assign i e
  | .assignF i e, L => ss_assignF i e
  | .append i e, L => ss_append i e
  | .extend i e, L => ss_extend i e
  | .setIx i k e, L => ss_setIx i k e
  | .ins i k e, L => ss_ins i k e
  | .ife c a b, L => ss_ife c (b_all a L) (b_all b L)
  | .for_ x it b, L => ss_for x it (b_all b L)
  | .whil c b, L => ss_whil c (b_all b L)
  | .ret e, L => ss_ret e
  | .retF e, L => ss_retF e
  | .retOwn i, L => ss_retOwn i
  | .retN, L => ss_retN
  | .brk, L => ss_brk
  | .cont, L => ss_cont
  | .raise c, L => ss_raise c
  | .bad, L => ss_bad
  | .dlit i ks es, L => ss_dlit i ks es
  | .dnew i, L => ss_dnew i
  | .dcp i j, L => ss_dcp i j
  | .dput i k e, L => ss_dput i k e
  | .nnew i, L => ss_nnew i
  | .nput i k, L => ss_nput i k
  | .try_ b yes no c h, L => ss_try yes no c h (b_all b L.dn) (b_all b L.cl)
  | .tryM b hs, L => ss_tryM hs (b_all b L.dn)
  | .unpack is e, L => ss_unpack is e
  | .pop x i, L => ss_pop x i
  | .popU is i, L => ss_popU is i
  | .retP i es, L => ss_retP i es
  | .retM l e, L => ss_retM l e
  | .retMN l, L => ss_retMN l
  | .callM k f es ms, L => ss_callM k f es ms
theorem b_all : ∀ (b : B) (L : Lw), SB L cf xa xn N own b
  | .nil, L => sb_nil
  | .cons s b, L => sb_cons (s_all s L) (b_all b L)
  | .freeze i b, L => sb_freeze i (b_all b L)
  | .frzD i b, L => sb_frzD i (b_all b L)
  | .pair i j f es b, L => sb_pair i j f es (b_all b L)
end
end
end Ev

/-! Defs are sound; the law's end. -/
namespace Ev
open PySem PySem.Spec
open PyProof.Rows hiding St
open L2
open Evl (Ex)

/-! ### parameters -/
theorem lookup_zip_some {ps : List Str} {us : List Value} : ∀ (hl : us.length = ps.length) (x : Str), x ∈ ps → ∃ v, (ps.zip us).lookup x = some v := by
  induction ps generalizing us with
  | nil => intro _ x h; cases h
  | cons p ps ih =>
    intro hl x h
    cases us with
    | nil => cases hl
    | cons u us =>
      rw [List.zip_cons_cons, List.lookup_cons]
      cases e : x == p with
      | true => exact ⟨u, rfl⟩
      | false =>
        rcases List.mem_cons.mp h with rfl | h
        · simp at e
        · exact ih (by simpa using hl) x h
theorem fm_congr {α β : Type} {f g : α → Option β} : ∀ {l : List α}, (∀ a ∈ l, f a = g a) → l.filterMap f = l.filterMap g
  | [], _ => rfl
  | a :: l, h => by
    rw [List.filterMap_cons, List.filterMap_cons, h a (List.mem_cons_self ..), fm_congr fun b hb => h b (List.mem_cons_of_mem _ hb)]
theorem zip_back {ps : List Str} {us : List Value} (nd : ps.Nodup) (hl : us.length = ps.length) : (ps.filterMap fun n => ((ps.zip us).lookup n).map (n, ·)) = ps.zip us := by
  induction ps generalizing us with
  | nil => simp
  | cons p ps ih =>
    cases us with
    | nil => cases hl
    | cons u us =>
      have hp : p ∉ ps := (List.nodup_cons.mp nd).1
      have e : ∀ n ∈ ps, (((p :: ps).zip (u :: us)).lookup n).map (fun v => (n, v)) = ((ps.zip us).lookup n).map (fun v => (n, v)) := fun n hn => by
        rw [List.zip_cons_cons, List.lookup_cons]
        have : (n == p) = false := by
          rw [beq_eq_false_iff_ne]
          exact fun z => hp (z ▸ hn)
        rw [this]
      rw [List.filterMap_cons]
      have e0 : (((p :: ps).zip (u :: us)).lookup p).map (fun v => (p, v)) = some (p, u) := by
        rw [List.zip_cons_cons, List.lookup_cons, beq_self_eq_true]; rfl
      rw [e0]
      simp only
      rw [fm_congr e, ih (List.nodup_cons.mp nd).2 (by simpa using hl)]
      rfl
def argsOk (a : Arguments) (ps : List Str) : Bool := a.posonlyargs.isEmpty && decide (a.args.map (·.arg) = ps) && a.vararg.isNone && a.kwonlyargs.isEmpty && a.kwarg.isNone && decide ps.Nodup
theorem bind_ok {x qual : Str} {params : Arguments} {body : List Stmt} {scope : Scope} {ps : List Str} (h : argsOk params ps = true) (kV doc pm : Value) (an : Option Addr) (cdv ct : Value) (us : List Value) (hl : us.length = ps.length) :
    bindArgs (PySem.W.fnOf x qual params body scope .none kV doc pm an cdv ct) ⟨us, []⟩ = pure (ps.zip us) := by
  obtain ⟨po, ar, va, ko, kd, kw, df⟩ := params
  unfold argsOk at h
  simp only [Bool.and_eq_true, List.isEmpty_iff, decide_eq_true_eq, Option.isNone_iff_eq_none] at h
  obtain ⟨⟨⟨⟨⟨rfl, h2⟩, rfl⟩, rfl⟩, rfl⟩, nd⟩ := h
  have e1 : List.filter (fun n => (List.lookup n (ps.zip us)).isNone) ps = [] := by
    rw [List.filter_eq_nil_iff]
    intro x hx
    obtain ⟨v, e⟩ := lookup_zip_some hl x hx
    simp [e]
  have e2 := zip_back nd hl
  unfold bindArgs
  simp only [PySem.W.fnOf, h2, notAStandIn, List.map_nil, List.nil_append, List.append_nil, seqItems?, pure_bind, List.forIn_nil, Option.getD_none, Array.toList_empty, List.length_nil, Nat.sub_zero, List.take_length, List.drop_nil, List.drop_length, List.zip_nil_right, hl,
    List.isEmpty_nil, Bool.not_true, Bool.false_eq_true, if_false, Nat.lt_irrefl, gt_iff_lt, decide_false, Bool.false_and, e1, e2, false_and]
/-- what stands for a def of the text -/
structure DefAt (L : Lw) (xn : Nat → Option Str) (K : PySem.W.Frag) (mg : Str → Option Value) (f : Nat) (fd : FD) (fa : Addr) (fdt : FuncData) (ps N : List Str) (d : He.DefD) : Prop where
  g : mg (L.nm f) = some (.ref fa)
  F : FunD K d.name d.qual d.params d.body d.scope [] [] fa fdt
  S : FnScope N ps d.scope
  ak : argsOk d.params ps = true
  ns : fd.ns = N.length
  pl : fd.ps.length = ps.length
  pb : ∀ l, fd.own = .chg l → ∀ i, fd.ps[i]? = some Pk.b → l.contains i = true
  ck : chkB L N xn fd.own d.scope fd.body d.body = true
structure TopOk (L : Lw) (xa : Nat → Addr) (xn : Nat → Option Str) (K : PySem.W.Frag) (mg : Str → Option Value) : Prop where
  fns : ∀ f fd, L.T f = some fd → ∃ fa fdt ps N d, DefAt L xn K mg f fd fa fdt ps N d
  md : L.md = .any
  gf : L.gd = false
  t0 : ∀ f fd, L.T f = some fd → L.T0 f = some fd
  fnc : ∀ f fd, L.Tc f = some fd → L.T0 f = some fd ∧ ∃ fa fdt ps N d, DefAt L.cl xn K mg f fd fa fdt ps N d
  fnh : ∀ f fd, L.Th f = some fd → L.T0 f = some fd ∧ ∃ fa fdt ps N d, DefAt L.ho xn K mg f fd fa fdt ps N d
  free : ∀ x ∈ bnames, mg x = none
  glb : ∀ g d, L.gl g = some d → ∃ u v, mg (L.nm g) = some u ∧ RelV v u ∧ ∀ H, Rep K H v d
  xc : ∀ c x, xn c = some x → mg x = some (.ref (xa c)) ∧ PySem.W.excIn K (xa c) He.veBase "ValueError.__new__" = true ∧ PySem.W.keepIn K (.ref (xa c)) = true ∧ PySem.W.subIn K (.ref (xa c)) (.type "BaseException") = some true ∧
    PySem.W.typeIn K (.ref (xa c)) = some (.type "type")
  ems : ∀ y c b, L.exm y c = some b → PySem.W.exmOne K (.ref (xa y)) (.ref (xa c)) = some b
  kt : KtOk K xa xn L.kt
  ods : ∀ f o, L.od f = some o → ∃ (fa : Addr) (fdt : FuncData) (d : He.DefD), mg (L.nm f) = some (.ref fa) ∧ FunD K d.name d.qual d.params d.body d.scope [] [] fa fdt ∧ FnScope [o.e, o.v] [o.e] d.scope ∧ argsOk d.params [o.e] = true ∧ chkOd xn o d.scope d.body = true ∧ (o.c1 ++ o.c2).length ≤ 1000 ∧ ∃ c, c ∈ o.c1 ++ o.c2

theorem start_env {K : PySem.W.Frag} {H : Hp} {mu : List Nat} {bs : List Pk} {vs : List V} {ds : List D} (a : ArgsR K H bs vs ds) : ∀ (k i : Nat) (f : Fl) (d : D), (startL mu k bs ds)[i]? = some (some (f, d)) →
    ∃ v b, (vs.map some)[i]? = some (some v) ∧ vs[i]? = some v ∧ ds[i]? = some d ∧ bs[i]? = some b ∧ f = (if mu.contains (k + i) then Fl.own else b.fl) ∧ ArgR K H b v d := by
  induction a with
  | nil => intro k i f d h; simp [startL] at h
  | @cons b v d0 bs vs ds h r ih =>
    intro k i f d e
    cases i with
    | zero =>
      simp only [startL, List.getElem?_cons_zero, Option.some.injEq, Prod.mk.injEq] at e
      obtain ⟨e1, rfl⟩ := e
      exact ⟨v, b, rfl, rfl, rfl, rfl, e1.symm, h⟩
    | succ i =>
      simp only [startL, List.getElem?_cons_succ] at e
      obtain ⟨v', b', h1, h2, h3, h4, h5, h6⟩ := ih (k + 1) i f d e
      refine ⟨v', b', by simpa using h1, by simpa using h2, by simpa using h3, by simpa using h4, ?_, h6⟩
      rw [show k + (i + 1) = k + 1 + i by omega]
      exact h5
theorem startL_len {mu : List Nat} : ∀ (k : Nat) {bs : List Pk} {ds : List D}, ds.length = bs.length → (startL mu k bs ds).length = bs.length
  | _, [], [], _ => rfl
  | _, [], _ :: _, h => by cases h
  | _, _ :: _, [], h => by cases h
  | k, b :: bs, d :: ds, h => by
    simp only [startL, List.length_cons]
    rw [startL_len (k + 1) (by simpa using h)]
theorem start_renv [Wo] {K : PySem.W.Frag} {H : Hp} {fd : FD} {N : List Str} {vs : List V} {ds : List D} {M : Mp} (a : ArgsR K H fd.ps vs ds) (m : MutA fd.own K H vs ds M) (pb : ∀ l, fd.own = .chg l → ∀ i, fd.ps[i]? = some Pk.b → l.contains i = true) (ns : fd.ns = N.length) :
    MFst fd.own M ∧ RE K H M H (start N vs) (fd.start ds) := by
  have l1 := a.len.1
  have l2 := a.len.2
  have mf : MFst fd.own M := by
    revert m
    cases fd.own with
    | chg l => exact fun m => m.1
    | _ => exact fun m => m
  have mk : ∀ p ∈ M, vs[p.1]? = some (.ref p.2) ∧ ∃ us xs, H p.2 = some (.lst us) ∧ ds[p.1]? = some (.lst xs) ∧ Reps K H us xs ∧ xs.length ≤ line := by
    revert m
    cases fd.own with
    | chg l => exact fun m => m.2.2
    | _ => exact fun m p hp => by have m : M = [] := m; subst m; cases hp
  have nd : (M.map (·.2)).Nodup := by
    revert m
    cases fd.own with
    | chg l => exact fun m => m.2.1
    | _ => exact fun m => by have m : M = [] := m; subst m; exact List.nodup_nil
  have inM : ∀ i, fd.own.mu.contains i = true → ∃ p ∈ M, p.1 = i := fun i hi => by
    revert mf hi
    cases fd.own with
    | chg l =>
      intro mf hi
      have mf : M.map (·.1) = l := mf
      have : i ∈ l := by simpa [Ow.mu] using hi
      rw [← mf] at this
      obtain ⟨p, hp, e⟩ := List.mem_map.mp this
      exact ⟨p, hp, e⟩
    | _ => intro mf hi; simp [Ow.mu] at hi
  have noB : ∀ i, fd.ps[i]? = some Pk.b → fd.own.mu.contains i = false → M = [] := fun i h1 h2 => by
    revert mf h2 pb
    cases fd.own with
    | chg l =>
      intro pb mf h2
      have := pb l rfl i h1
      have h2 : l.contains i = false := h2
      rw [this] at h2
      cases h2
    | _ => intro pb mf h2; exact mf
  have lk : ∀ {i : Nat} {v : V}, vs[i]? = some v → (start N vs)[i]? = some (some v) := fun {i v} h => by
    unfold L2.start
    rw [List.getElem?_append_left (by simp; exact (List.getElem?_eq_some_iff.mp h).1), List.getElem?_map, h]
    rfl
  have at_ : ∀ (i : Nat) (f : Fl) (d : D), (fd.start ds)[i]? = some (some (f, d)) → ∃ v, (start N vs)[i]? = some (some v) ∧ SlotAt K H (M.map (·.2)) H v f d ∧ (f.isOwn = true → ∃ p ∈ M, p.1 = i ∧ v = .ref p.2) := fun i f d h => by
    unfold FD.start at h
    have lz := startL_len (mu := fd.own.mu) 0 l2
    by_cases hi : i < fd.ps.length
    · rw [List.getElem?_append_left (by rw [lz]; exact hi)] at h
      obtain ⟨v, b, h1, h2, h3, h4, h5, h6⟩ := start_env a 0 i f d h
      rw [Nat.zero_add] at h5
      refine ⟨v, lk h2, ?_⟩
      cases hm : fd.own.mu.contains i with
      | true =>
        rw [hm, if_pos rfl] at h5
        subst h5
        obtain ⟨p, hp, rfl⟩ := inM i hm
        obtain ⟨q1, us, xs, q2, q3, q4, q5⟩ := mk p hp
        rw [h2] at q1
        cases q1
        rw [h3] at q3
        cases q3
        exact ⟨⟨p.2, us, xs, rfl, rfl, q2, q4, .inr (List.mem_map_of_mem hp), q5⟩, fun _ => ⟨p, hp, rfl, rfl⟩⟩
      | false =>
        rw [hm, if_neg Bool.false_ne_true] at h5
        cases b with
        | b =>
          have h5 : f = .bor := h5
          subst h5
          have : M = [] := noB i h4 hm
          exact ⟨⟨h6, fun a _ => by subst this; simp⟩, fun z => absurd z (by decide)⟩
        | s =>
          have h5 : f = .sh := h5
          subst h5
          exact ⟨h6, fun z => absurd z (by decide)⟩
        | d =>
          have h5 : f = .dsh := h5
          subst h5
          exact ⟨h6, fun z => absurd z (by decide)⟩
    · rw [List.getElem?_append_right (by rw [lz]; omega), List.getElem?_replicate] at h
      split at h <;> cases h
  refine ⟨mf, ⟨⟨?_, fun i f d h => ?_, fun i j f g d d' hij of og h1 h2 => ?_, fun b o h _ => h, fun b hb => ?_, fun b hb => ?_⟩, fun p hp => lk (mk p hp).1⟩⟩
  · unfold L2.start FD.start
    simp [startL_len 0 l2, l1, ns]
  · obtain ⟨v, e, s, _⟩ := at_ i f d h
    exact ⟨v, e, s⟩
  · obtain ⟨v, e, _, hp⟩ := at_ i f d h1
    obtain ⟨v', e', _, hq⟩ := at_ j g d' h2
    obtain ⟨p, hp1, rfl, rfl⟩ := hp of
    obtain ⟨q, hq1, rfl, rfl⟩ := hq og
    rw [e, e']
    intro z
    have z : p.2 = q.2 := by simpa using z
    have : ∀ {M : Mp}, (M.map (·.2)).Nodup → ∀ p ∈ M, ∀ q ∈ M, p.2 = q.2 → p = q := fun {M} => by
      induction M with
      | nil => intro _ p hp; cases hp
      | cons a M ih =>
        intro nd p hp q hq e
        have nd := List.nodup_cons.mp (show (a.2 :: M.map (·.2)).Nodup from nd)
        rcases List.mem_cons.mp hp with hp1 | hp1
        · rcases List.mem_cons.mp hq with hq1 | hq1
          · rw [hp1, hq1]
          · exact absurd (by rw [← hp1, e]; exact List.mem_map_of_mem hq1 : a.2 ∈ M.map (·.2)) nd.1
        · rcases List.mem_cons.mp hq with hq1 | hq1
          · exact absurd (by rw [← hq1, ← e]; exact List.mem_map_of_mem hp1 : a.2 ∈ M.map (·.2)) nd.1
          · exact ih nd.2 p hp1 q hq1 e
    exact hij (congrArg Prod.fst (this nd p hp1 q hq1 z))
  · obtain ⟨p, hp, rfl⟩ := List.mem_map.mp hb
    obtain ⟨_, us, xs, q2, _⟩ := mk p hp
    exact ⟨us, q2⟩
  · obtain ⟨p, hp, rfl⟩ := List.mem_map.mp hb
    obtain ⟨_, us, xs, q2, _⟩ := mk p hp
    exact ⟨_, q2⟩
section
variable {L : Lw} {xa : Nat → Addr} {xn : Nat → Option Str} {P : Program} {w : World} {K : PySem.W.Frag} {mg : Str → Option Value} {base : Heap}
/-- .. of a def that asks an error for its class -/
theorem od_sound (Tp : TopOk L xa xn K mg) {f : Nat} {o : Od} (h : L.od f = some o) : ∃ fa fdt, mg (L.nm f) = some (.ref fa) ∧ PySem.W.keepIn K (.ref fa) = true ∧ Binds K fdt [o.e] [] ∧ FnQ P w K mg base (L2.CX P w) 1 fa fdt [o.e] (spOd K xa o L.kt) := by
  letI : Wo := ⟨w⟩
  obtain ⟨fa, fdt, d, h1, F, S, ak, hc, lz, hne⟩ := Tp.ods f o h
  refine ⟨fa, fdt, h1, F.kp, F.bindsN fun _ _ _ _ _ _ us hl => bind_ok ak _ _ _ _ _ _ us hl, ?_⟩
  obtain ⟨oc, od, dV, kV, doc, pm, an, cdv, ct, osl, rfl, lk, hcd, _, _⟩ := F.ex
  refine fn_ofQ (k := 0) lk hcd S (fun p vs H Q E h => by rw [h.1]; rfl) fun A outer s H vs Q E p hr hsp => ?_
  obtain ⟨rfl, y, b, hz, hf, hb, q⟩ := hsp
  obtain ⟨t, ht, hq⟩ := od_body (X := L2H.cxH (L2.CX P w) P w K mg base [o.e, o.v] d.qual d.scope fa cdv A outer s H E p) (W := fun _ _ _ => False) (sc := d.scope) (xa := xa) (xn := xn) (kt := L.kt) (a := p.1) (oe := p.2) (y := y) o rfl rfl S.nd (Nat.lt_of_le_of_lt (Nat.add_le_add_left (by decide) _) hr.un) (Tp.free _ (by decide)) (Tp.free _ (by decide)) Tp.kt (fun c x h => (Tp.xc c x h).1) (fun _ => rfl) (List.mem_singleton.mpr rfl) hz hf lz hb hne hc
  exact ⟨t, ht, hq _ H q⟩
/-- how a def ends -/
theorem fn_end [Wo] {n f : Nat} {fd : FD} {vs : List V} {ds : List Ev.D} {M : Mp} {H : Hp} {Q : VK} {E : XK} (hf : L.T0 f = some fd) (a : ArgsR K H fd.ps vs ds) (mf : MFst fd.own M)
    (h : match callF L.T0 L.gl (n + 1) f ds with
      | .ok d => ∀ v H', ExW (M.map (·.2)) H H' → RetR fd.own K M H H' v d → Q v H'
      | .exc c => ∀ H', Ex H H' → E (.ref (xa c)) none H'
      | .fail => False) :
    GS fd.own K (fun c _ H' => E (.ref (xa c)) none H') H M H { nx := fun _ H' => Q .non H', rt := Q } (evB (callF L.T0 L.gl n) L.gl fd.body (fd.start ds)) := by
  have e : callF L.T0 L.gl (n + 1) f ds = fd.run (callF L.T0 L.gl n) L.gl ds := by
    show (match L.T0 f with
      | some fd => fd.run (callF L.T0 L.gl n) L.gl ds
      | none => .fail) = _
    rw [hf]
  rw [e] at h
  unfold FD.run at h
  rw [if_pos a.len.2] at h
  show GS fd.own K (fun c _ H' => E (.ref (xa c)) none H') H M H { nx := fun _ H' => Q .non H', rt := Q } (evB (callF L.T0 L.gl n) L.gl fd.body (fd.start ds))
  cases q : evB (callF L.T0 L.gl n) L.gl fd.body (fd.start ds) with
  | fail => rw [q] at h; exact h
  | exc c => rw [q] at h; exact h
  | ok fl =>
    rw [q] at h
    cases fl with
    | nx ρ =>
      refine fun σ' H' R p => ?_
      have h : match (match fd.own with
        | .chg l => ofO (handM l .non ρ)
        | _ => Res.ok Ev.D.non) with
        | .ok d => ∀ v H', ExW (M.map (·.2)) H H' → RetR fd.own K M H H' v d → Q v H'
        | .exc c => ∀ H', Ex H H' → E (.ref (xa c)) none H'
        | .fail => False := h
      cases z : fd.own with
      | chg l =>
        rw [z] at h mf
        simp only at h
        cases q2 : handM l .non ρ with
        | none => rw [q2] at h; exact h.elim
        | some r =>
          rw [q2] at h
          exact (show ∀ v H', ExW (M.map (·.2)) H H' → RetR (.chg l) K M H H' v r → Q v H' from h) .non H' R.exw (hand_of R mf q2 .non)
      | _ => rw [z] at h; exact h .non H' R.exw .non
    | brk ρ => exact (show False from h).elim
    | cont ρ => exact (show False from h).elim
    | ret d => exact fun v H' e p r => (show ∀ v H', ExW (M.map (·.2)) H H' → RetR fd.own K M H H' v d → Q v H' from h) v H' e r
    | exc c ρ =>
      refine fun σ' H' R p => ?_
      have h : match (match fd.own with
        | .chg _ => Res.fail
        | _ => Res.exc c : Res Ev.D) with
        | .ok d => ∀ v H', ExW (M.map (·.2)) H H' → RetR fd.own K M H H' v d → Q v H'
        | .exc c => ∀ H', Ex H H' → E (.ref (xa c)) none H'
        | .fail => False := h
      cases z : fd.own with
      | chg l => rw [z] at h; exact h.elim
      | _ => rw [z] at h mf; exact h H' (R.ex0 mf)
theorem fn_soundC (Tp : TopOk L xa xn K mg) : ∀ (n f : Nat) (fd : FD), L.Tc f = some fd → ∀ (fa : Addr) (fdt : FuncData) (ps N : List Str) (d : He.DefD), DefAt L.cl xn K mg f fd fa fdt ps N d →
    FnOk P w K mg base (L2N.CX P w) (n + 1) fa fdt ps (spF K xa (callF L.T0 L.gl n f) fd)
  | 0, f, fd, _, fa, fdt, ps, N, d, _ => ⟨fun vs H Q E ⟨ds, M, a, m, h⟩ => (show False from h).elim, fun A outer s H args us vs Q E hr e0 hb r ⟨ds, M, a, m, h⟩ => (show False from h).elim⟩
  | n + 1, f, fd, hf, fa, fdt, ps, N, d, D => by
    refine D.F.ok D.S (fun vs H Q E ⟨ds, M, a, m, h⟩ => a.len.1.trans D.pl) fun cdv A outer s H vs Q E hr h => ?_
    obtain ⟨ds, M, a, m, h⟩ := h
    let X : Cx := cxOf (L2N.CX P w) P w K mg base N d.qual d.scope fa cdv A outer s H E
    let W : WN := fun c _ H' => E (.ref (xa c)) none H'
    letI : Wo := ⟨w⟩
    obtain ⟨mf, R0⟩ := start_renv a m D.pb D.ns
    have hr : Room (n + 1) X.A := hr
    have r1 : L2H.RoomH 1 X.A := L2H.roomH_of (hr.mono (by omega))
    have tk : L2N.Takes X (WW xa W) := (L2N.takes_of (X := X) (E := E) rfl rfl rfl rfl).imp fun c d σ H h => by
      obtain ⟨x, rfl, rfl, h⟩ := h
      exact h
    have C : SCtx L.cl (callF L.T0 L.gl n) xa xn N W X d.scope :=
      { calm := fun _ => rfl, hotc := fun h => (by cases h), gd := fun h => (by cases h), nN := rfl, nd := D.S.nd, scp := rfl, room := L2H.roomH_of (hr.mono (Nat.zero_le _)),
        fns := fun g gd hg => by
          obtain ⟨_, ga, gdt, qs, M, e, G⟩ := Tp.fnc g gd hg
          exact ⟨ga, gdt, qs, n + 1, G.g, G.F.kp, G.F.bindsN fun _ _ _ _ _ _ us hl => bind_ok G.ak _ _ _ _ _ _ us hl, hr, fn_soundC Tp n g gd hg ga gdt qs M e G⟩
        tk := fun h => (by cases h), pc := fun σ => L2N.passAt tk σ, tkS := tk,
        cln := fun h => (by cases h), hts := fun h => (by cases h), pa := fun h => (by cases h),
        free := Tp.free, glb := Tp.glb, cw := rfl,
        fr := ⟨_, _, _, rfl, rfl, rfl⟩
        pass := passes_of (X := X) rfl, fn := fun _ => rfl,
        xc := fun c x h => by
          obtain ⟨h1, h2, h3, h4, h5⟩ := Tp.xc c x h
          exact ⟨h1, h2, h3, h4, h5⟩
        ems := Tp.ems, hs := rfl, hf := rfl, kt := Tp.kt, ods := fun f o h => by
          obtain ⟨ga, gdt, h1, h2, h3, h4⟩ := od_sound (P := P) (w := w) (base := base) Tp h
          exact ⟨ga, gdt, 1, h1, h2, h3, r1, h4⟩ }
    exact ⟨_, b_all fd.body L.cl W X d.scope d.body C D.ck, H, M, fd.start ds, mf, R0, fn_end (Tp.fnc f fd hf).1 a mf h⟩
theorem fn_soundH (Tp : TopOk L xa xn K mg) : ∀ (n f : Nat) (fd : FD), L.Th f = some fd → ∀ (fa : Addr) (fdt : FuncData) (ps N : List Str) (d : He.DefD), DefAt L.ho xn K mg f fd fa fdt ps N d →
    L2H.FnH P w K mg base (L2.CX P w) (n + 1) fa fdt ps (spF K xa (callF L.T0 L.gl n f) fd)
  | 0, f, fd, _, fa, fdt, ps, N, d, _ => ⟨fun vs H Q E ⟨ds, M, a, m, h⟩ => (show False from h).elim, fun A outer s H args us vs Q E p hr _ _ e0 hb r ⟨ds, M, a, m, h⟩ => (show False from h).elim⟩
  | n + 1, f, fd, hf, fa, fdt, ps, N, d, D => by
    obtain ⟨oc, od, dV, kV, doc, pm, an, cdv, ct, osl, rfl, lk, hcd, _, _⟩ := D.F.ex
    refine L2H.fn_ofH lk hcd D.S (fun vs H Q E ⟨ds, M, a, m, h⟩ => a.len.1.trans D.pl) fun A outer s H vs Q E p h1 hr h => ?_
    obtain ⟨ds, M, a, m, h⟩ := h
    let X : Cx := L2H.cxH (L2.CX P w) P w K mg base N d.qual d.scope fa cdv A outer s H E p
    let W : WN := fun c _ H' => E (.ref (xa c)) none H'
    letI : Wo := ⟨w⟩
    obtain ⟨mf, R0⟩ := start_renv a m D.pb D.ns
    have hr : L2H.RoomH (n + 1) X.A := hr
    have r1 : L2H.RoomH 1 X.A := hr.mono (by omega)
    have tk : L2.Takes X (WW xa W) := (L2.takes_of (X := X) (E := E) rfl rfl rfl rfl).imp fun c d σ H h => by
      obtain ⟨x, rfl, rfl, h⟩ := h
      exact h
    have C : SCtx L.ho (callF L.T0 L.gl n) xa xn N W X d.scope :=
      { calm := fun h => (by cases h), hotc := fun _ => ⟨p, h1, List.mem_singleton.mpr rfl⟩, gd := fun h => (by cases h), nN := rfl, nd := D.S.nd, scp := rfl, room := hr.mono (Nat.zero_le _),
        fns := fun g gd hg => by
          obtain ⟨_, ga, gdt, qs, M, e, G⟩ := Tp.fnh g gd hg
          exact ⟨ga, gdt, qs, n + 1, G.g, G.F.kp, G.F.bindsN fun _ _ _ _ _ _ us hl => bind_ok G.ak _ _ _ _ _ _ us hl, hr, fn_soundH Tp n g gd hg ga gdt qs M e G⟩
        tk := fun h => (by cases h), pc := fun σ => L2.passAt tk σ, tkS := tk,
        cln := fun h => (by cases h), hts := fun h => (by cases h), pa := fun h => (by cases h),
        free := Tp.free, glb := Tp.glb, cw := rfl,
        fr := ⟨_, _, _, rfl, rfl, rfl⟩
        pass := passes_of (X := X) rfl, fn := fun _ => rfl,
        xc := fun c x h => by
          obtain ⟨h1, h2, h3, h4, h5⟩ := Tp.xc c x h
          exact ⟨h1, h2, h3, h4, h5⟩
        ems := Tp.ems, hs := rfl, hf := rfl, kt := Tp.kt, ods := fun f o h => by
          obtain ⟨ga, gdt, h1, h2, h3, h4⟩ := od_sound (P := P) (w := w) (base := base) Tp h
          exact ⟨ga, gdt, 1, h1, h2, h3, r1, h4⟩ }
    exact ⟨_, b_all fd.body L.ho W X d.scope d.body C D.ck, H, M, fd.start ds, mf, R0, fn_end (Tp.fnh f fd hf).1 a mf h⟩
theorem fn_sound (Tp : TopOk L xa xn K mg) : ∀ (n f : Nat) (fd : FD), L.T f = some fd → ∀ (fa : Addr) (fdt : FuncData) (ps N : List Str) (d : He.DefD), DefAt L xn K mg f fd fa fdt ps N d →
    FnOk P w K mg base (L2.CX P w) (n + 1) fa fdt ps (spF K xa (callF L.T0 L.gl n f) fd)
  | 0, f, fd, _, fa, fdt, ps, N, d, _ => ⟨fun vs H Q E ⟨ds, M, a, m, h⟩ => (show False from h).elim, fun A outer s H args us vs Q E hr e0 hb r ⟨ds, M, a, m, h⟩ => (show False from h).elim⟩
  | n + 1, f, fd, hf, fa, fdt, ps, N, d, D => by
    refine D.F.ok D.S (fun vs H Q E ⟨ds, M, a, m, h⟩ => a.len.1.trans D.pl) fun cdv A outer s H vs Q E hr h => ?_
    obtain ⟨ds, M, a, m, h⟩ := h
    let X : Cx := cxOf (L2.CX P w) P w K mg base N d.qual d.scope fa cdv A outer s H E
    let W : WN := fun c _ H' => E (.ref (xa c)) none H'
    letI : Wo := ⟨w⟩
    obtain ⟨mf, R0⟩ := start_renv a m D.pb D.ns
    have hr : Room (n + 1) X.A := hr
    have r1 : L2H.RoomH 1 X.A := L2H.roomH_of (hr.mono (by omega))
    have tk : L2.Takes X (WW xa W) := (L2.takes_of (X := X) (E := E) rfl rfl rfl rfl).imp fun c d σ H h => by
      obtain ⟨x, rfl, rfl, h⟩ := h
      exact h
    have em := Tp.md
    have C : SCtx L (callF L.T0 L.gl n) xa xn N W X d.scope :=
      { calm := fun _ => rfl, hotc := fun h => (by rw [em] at h; cases h), gd := fun h => (by rw [Tp.gf] at h; cases h), nN := rfl, nd := D.S.nd, scp := rfl, room := L2H.roomH_of (hr.mono (Nat.zero_le _)),
        fns := fun g gd hg => by
          obtain ⟨ga, gdt, qs, M, e, G⟩ := Tp.fns g gd hg
          exact ⟨ga, gdt, qs, n + 1, G.g, G.F.kp, G.F.bindsN fun _ _ _ _ _ _ us hl => bind_ok G.ak _ _ _ _ _ _ us hl, (by rw [em]; exact ⟨hr, fn_sound Tp n g gd hg ga gdt qs M e G⟩)⟩
        tk := fun _ => TakesF.of rfl tk, pc := (by rw [em]; exact fun σ => L2.passAt tk σ), tkS := (by rw [em]; exact tk),
        cln := fun _ g gd hg => by
          obtain ⟨_, ga, gdt, qs, M, e, G⟩ := Tp.fnc g gd hg
          exact ⟨ga, gdt, qs, n + 1, G.g, G.F.kp, G.F.bindsN fun _ _ _ _ _ _ us hl => bind_ok G.ak _ _ _ _ _ _ us hl, hr, fn_soundC Tp n g gd hg ga gdt qs M e G⟩
        hts := fun _ g gd hg => by
          obtain ⟨_, ga, gdt, qs, M, e, G⟩ := Tp.fnh g gd hg
          exact ⟨ga, gdt, qs, n + 1, G.g, G.F.kp, G.F.bindsN fun _ _ _ _ _ _ us hl => bind_ok G.ak _ _ _ _ _ _ us hl, L2H.roomH_of hr, fn_soundH Tp n g gd hg ga gdt qs M e G⟩
        pa := fun _ hd => L2H.passesAt_of (X := X) rfl hd,
        free := Tp.free, glb := Tp.glb, cw := rfl,
        fr := ⟨_, _, _, rfl, rfl, rfl⟩
        pass := passes_of (X := X) rfl, fn := fun _ => rfl,
        xc := fun c x h => by
          obtain ⟨h1, h2, h3, h4, h5⟩ := Tp.xc c x h
          exact ⟨h1, h2, h3, h4, h5⟩
        ems := Tp.ems, hs := rfl, hf := rfl, kt := Tp.kt, ods := fun f o h => by
          obtain ⟨ga, gdt, h1, h2, h3, h4⟩ := od_sound (P := P) (w := w) (base := base) Tp h
          exact ⟨ga, gdt, 1, h1, h2, h3, r1, h4⟩ }
    exact ⟨_, b_all fd.body L W X d.scope d.body C D.ck, H, M, fd.start ds, mf, R0, fn_end (Tp.t0 f fd hf) a mf h⟩
/-- what the law's def promises where repr is not running -/
structure FnG (P : Program) (w : World) (K : PySem.W.Frag) (mg : Str → Option Value) (base : Heap) (CX : CXT) (k : Nat) (f : Addr) (fd : FuncData) (ps : List Str) (sp : Sp) : Prop where
  len : ∀ vs H Q E, sp vs H Q E → vs.length = ps.length
  run : ∀ (A : Around) (outer : List PySem.Env) (s : Shared) (H : Hp) (args : Args) (us : List Value) (vs : List V) (Q : VK) (E : XK), A.guards = some [] → Room k A → Env0 P w K mg base A outer s H → BindsTo s fd args (ps.zip us) → Vals vs us → sp vs H Q E →
    codeAny (model P w) A (.call (.ref f) args) (CR CX outer P w H s Q E) s
end
end Ev

/-! The head's facts for a text of the evaluator; a law's end. -/
namespace Ev
open PySem PySem.Spec
open PyProof.Rows hiding St
open L2
open Evl (Ex)

def look {α : Type} : List (Nat × α) → Nat → Option α
  | [], _ => none
  | (i, a) :: l, j => if Nat.beq i j then some a else look l j
theorem look_mem {α : Type} : ∀ {l : List (Nat × α)} {i : Nat} {a : α}, look l i = some a → (i, a) ∈ l
  | [], _, _, h => by cases h
  | (i, b) :: l, j, a, h => by
    unfold look at h
    split at h
    · rename_i e
      cases h
      rw [Nat.eq_of_beq_eq_true e]
      exact List.mem_cons_self ..
    · exact List.mem_cons_of_mem _ (look_mem h)
/-- a def of the text: its core, its statement, its slots' names, its parameters' -/
structure Df where
  fd : FD
  st : Stmt
  N : List Str
  ps : List Str
structure Tx where
  fs : List (Nat × Df)
  gs : List (Nat × D)
  xs : List (Nat × Str)
  nms : List (Nat × Str)
  ems : List (Nat × Nat × Bool) := []
  kts : List (Nat × Nat × Bool) := []
  os : List (Nat × Od) := []
  cl : List Nat := []
  ho : List Nat := []
  /-- the law itself, where it asks repr -/
  top : Option Nat := none
def Tx.isTop (t : Tx) (i : Nat) : Bool := match t.top with
  | some j => Nat.beq j i
  | none => false
def Tx.nm (t : Tx) (i : Nat) : Str := (look t.nms i).getD Str.empty
def Tx.T (t : Tx) (i : Nat) : Option FD := (look t.fs i).map (·.fd)
def Tx.gl (t : Tx) (i : Nat) : Option D := look t.gs i
def Tx.xn (t : Tx) (i : Nat) : Option Str := look t.xs i
def Tx.exm (t : Tx) (x c : Nat) : Option Bool := (t.ems.find? fun p => decide (p.1 = x ∧ p.2.1 = c)).map (·.2.2)
def Tx.kt (t : Tx) (x c : Nat) : Option Bool := (t.kts.find? fun p => decide (p.1 = x ∧ p.2.1 = c)).map (·.2.2)
def Tx.od (t : Tx) (i : Nat) : Option Od := look t.os i
def Tx.lw (t : Tx) : Lw := ⟨fun i => if t.isTop i then none else t.T i, t.gl, t.nm, t.exm, t.kt, t.od, fun i => if t.cl.contains i then t.T i else none, fun i => if t.ho.contains i then t.T i else none, .any, true, false, t.T⟩
def Tx.em (t : Tx) (p : Nat × Nat × Bool) : He.Fa := .exm ((t.xn p.1).getD Str.empty) ((t.xn p.2.1).getD Str.empty) p.2.2
def scopeOk (N ps : List Str) (sc : Scope) : Bool := (match sc.kind with | .function => true | _ => false) && !sc.isCoroutine && !sc.isGenerator && decide N.Nodup && decide (N.take ps.length = ps) &&
  (ps.all fun x => match sc.names.lookup x with | some .local => true | some .cell => true | _ => false) && sc.names.all fun y => match y.2 with | .free => false | _ => true
theorem scope_ok {N ps : List Str} {sc : Scope} (h : scopeOk N ps sc = true) : FnScope N ps sc := by
  unfold scopeOk at h
  simp only [Bool.and_eq_true, Bool.not_eq_true', decide_eq_true_eq, List.all_eq_true] at h
  obtain ⟨⟨⟨⟨⟨⟨h1, h2⟩, h3⟩, h4⟩, h5⟩, h6⟩, h7⟩ := h
  refine ⟨?_, h2, h3, h4, h5, fun x hx => ?_, fun y hy e => ?_⟩
  · split at h1
    · assumption
    · cases h1
  · have := h6 x hx
    split at this <;> simp_all
  · have := h7 y hy
    rw [e] at this
    cases this
def Df.dat (d : Df) (x : Str) : He.DefD := ⟨(x, none), x, x, defArgs d.st, defBody d.st, defScope d.st, [], []⟩
def dfOk (t : Tx) (i : Nat) (d : Df) : Bool := scopeOk d.N d.ps (defScope d.st) && argsOk (defArgs d.st) d.ps && Nat.beq d.fd.ns d.N.length && Nat.beq d.fd.ps.length d.ps.length && (match d.fd.own with | .chg l => d.fd.ps.zipIdx.all fun p => !decide (p.1 = Pk.b) || l.contains p.2 | _ => true) && chkB (if t.isTop i then t.lw.gp else t.lw) d.N t.xn d.fd.own (defScope d.st) d.fd.body (defBody d.st)
def Od.dat (d : Od) (x : Str) : He.DefD := ⟨(x, none), x, x, defArgs d.st, defBody d.st, defScope d.st, [], []⟩
def odOk (t : Tx) (o : Od) : Bool := scopeOk [o.e, o.v] [o.e] (defScope o.st) && argsOk (defArgs o.st) [o.e] && chkOd t.xn o (defScope o.st) (defBody o.st) && Nat.ble (o.c1 ++ o.c2).length 1000 && !(o.c1 ++ o.c2).isEmpty
/-- what is asked besides of the defs that may be asked elsewhere -/
def mdOk (t : Tx) (i : Nat) (d : Df) : Bool := (!t.cl.contains i || chkB t.lw.cl d.N t.xn d.fd.own (defScope d.st) d.fd.body (defBody d.st)) && (!t.ho.contains i || chkB t.lw.ho d.N t.xn d.fd.own (defScope d.st) d.fd.body (defBody d.st))
def Tx.ok (t : Tx) : Bool := ((t.fs.all fun p => dfOk t p.1 p.2) && t.os.all fun p => odOk t p.2) && t.fs.all fun p => mdOk t p.1 p.2
/-! ### constants of the top -/
mutual
def relD (K : PySem.W.Frag) : D → Value → Bool
  | .int i, u => match u with
    | .int j _ => decide (j = i)
    | _ => false
  | .str s, u => match u with
    | .str x _ => decide (x.cps.toList = s) && Nat.ble s.length line
    | _ => false
  | .non, u => match u with
    | .none => true
    | _ => false
  | .bl b, u => match u with
    | .bool c => b == c
    | _ => false
  | .tup ds, u => match u with
    | .ref a => (match K.lookup a with
      | some ⟨.type c, _, .seq its _, _⟩ => decide (c = "tuple") && Nat.ble its.size sizeLine && relDs K ds its.toList
      | _ => false)
    | _ => false
  | .lst _, _ => false
def relDs (K : PySem.W.Frag) : List D → List Value → Bool
  | [], us => us.isEmpty
  | d :: ds, us => match us with
    | u :: us => relD K d u && relDs K ds us
    | [] => false
end
mutual
theorem relD_ok {K : PySem.W.Frag} : ∀ (d : D) (u : Value), relD K d u = true → ∃ v, RelV v u ∧ ∀ H, Rep K H v d
  | .int i, u, h => by
    unfold relD at h
    split at h
    · have := of_decide_eq_true h
      subst this
      exact ⟨.int _, ⟨_, rfl⟩, fun _ => .int _⟩
    · cases h
  | .str s, u, h => by
    unfold relD at h
    split at h
    · rw [Bool.and_eq_true, decide_eq_true_eq] at h
      obtain ⟨rfl, h2⟩ := h
      rename_i x t
      refine ⟨.str x, ⟨_, rfl⟩, fun H => ?_⟩
      have := Rep.str (K := K) (H := H) x.cps.toList (Nat.le_of_ble_eq_true h2)
      rw [T_of] at this
      exact this
    · cases h
  | .non, u, h => by
    unfold relD at h
    split at h
    · exact ⟨.non, rfl, fun _ => .non⟩
    · cases h
  | .bl b, u, h => by
    unfold relD at h
    split at h
    · have := eq_of_beq h
      subst this
      exact ⟨.bl _, rfl, fun _ => .bl _⟩
    · cases h
  | .tup ds, u, h => by
    unfold relD at h
    split at h
    · rename_i a
      split at h
      · rename_i c od its n sl lk
        simp only [Bool.and_eq_true, decide_eq_true_eq] at h
        obtain ⟨⟨rfl, h2⟩, h3⟩ := h
        have hz := Nat.le_of_ble_eq_true h2
        obtain ⟨vs, r, hr⟩ := relDs_ok ds its.toList h3
        refine ⟨.ref a, rfl, fun H => .tup (.inr ⟨_, its, n, lk, rfl, rfl, hz, r⟩) (hr H) ?_⟩
        rw [← (hr H).length, r.length, Array.length_toList]
        exact hz
      · cases h
    · cases h
  | .lst _, u, h => by unfold relD at h; cases h
theorem relDs_ok {K : PySem.W.Frag} : ∀ (ds : List D) (us : List Value), relDs K ds us = true → ∃ vs, Vals vs us ∧ ∀ H, Reps K H vs ds
  | [], us, h => by
    unfold relDs at h
    rw [List.isEmpty_iff] at h
    subst h
    exact ⟨[], .nil, fun _ => .nil⟩
  | d :: ds, us, h => by
    unfold relDs at h
    split at h
    · rw [Bool.and_eq_true] at h
      obtain ⟨v, r, hr⟩ := relD_ok d _ h.1
      obtain ⟨vs, rs, hrs⟩ := relDs_ok ds _ h.2
      exact ⟨v :: vs, .cons r rs, fun H => .cons (hr H) (hrs H)⟩
    · cases h
end
def noList (K : PySem.W.Frag) : Bool := K.all fun p => match p.2.cls with
  | .type c => !decide (c = "list")
  | _ => true
def glOk (t : Tx) (K : PySem.W.Frag) : Bool := t.gs.all fun p => match PySem.W.nsIn K mainGlobals (t.nm p.1) with
  | some (some u) => relD K p.2 u
  | _ => false
def xaK (t : Tx) (K : PySem.W.Frag) (c : Nat) : Addr := He.ga K ((t.xn c).getD Str.empty)
def excCB (K : PySem.W.Frag) (a : Addr) : Bool := decide (PySem.W.findIn K (.ref a) "__getattribute__" = some (some (.builtin "BaseException.__getattribute__"))) && decide (PySem.W.findIn K (.ref a) "__getattr__" = some none) && decide (PySem.W.subIn K (.ref a) (.type "BaseException") = some true) &&
  PySem.W.hasDictIn K a && decide (PySem.W.findIn K (.ref a) "__class__" = some (some (.builtin "object.__class__"))) && decide (PySem.W.specialIn K (.builtin "object.__class__") "__get__" = some (some (.builtin "getset_descriptor.__get__"))) &&
  decide (PySem.W.takesIn K (.builtin "object.__class__") = some true) && decide (PySem.W.mroIn K a (.type "object") = some true)
theorem excCB_ok {K : PySem.W.Frag} {a : Addr} (h : excCB K a = true) : ExcC K a := by
  unfold excCB at h
  simp only [Bool.and_eq_true, decide_eq_true_eq] at h
  obtain ⟨⟨⟨⟨⟨⟨⟨h1, h2⟩, h3⟩, h4⟩, h5⟩, h6⟩, h7⟩, h8⟩ := h
  exact ⟨h1, h2, h3, h4, h5, h6, h7, h8⟩
def exK (t : Tx) (K : PySem.W.Frag) : Bool := t.kts.all fun p => decide (PySem.W.kitOne K (.ref (xaK t K p.1)) (.ref (xaK t K p.2.1)) = some p.2.2) && decide (PySem.W.kitOne K (.ref (xaK t K p.1)) (.type "ValueError") = some true) && excCB K (xaK t K p.1)
/-! ### the Hook -/
def Tx.fa (t : Tx) : List He.Fa := (t.fs.map fun p => He.Fa.glo (t.nm p.1)) ++ (bnames.map He.Fa.free) ++ (t.xs.map fun p => He.Fa.glo p.2) ++ (t.xs.map fun p => He.Fa.exc p.2) ++ t.ems.map t.em ++ t.os.map fun p => He.Fa.glo (t.nm p.1)
theorem mem_fa {t : Tx} {f : He.Fa} : f ∈ t.fa ↔ (∃ p, p ∈ t.fs ∧ He.Fa.glo (t.nm p.1) = f) ∨ (∃ x, x ∈ bnames ∧ He.Fa.free x = f) ∨ (∃ p, p ∈ t.xs ∧ He.Fa.glo p.2 = f) ∨ (∃ p, p ∈ t.xs ∧ He.Fa.exc p.2 = f) ∨ (∃ p, p ∈ t.ems ∧ t.em p = f) ∨ ∃ p, p ∈ t.os ∧ He.Fa.glo (t.nm p.1) = f := by
  unfold Tx.fa
  rw [List.mem_append, List.mem_append, List.mem_append, List.mem_append, List.mem_append, List.mem_map, List.mem_map, List.mem_map, List.mem_map, List.mem_map, List.mem_map]
  exact ⟨fun h => by
    rcases h with ((((h | h) | h) | h) | h) | h
    · exact .inl h
    · exact .inr (.inl h)
    · exact .inr (.inr (.inl h))
    · exact .inr (.inr (.inr (.inl h)))
    · exact .inr (.inr (.inr (.inr (.inl h))))
    · exact .inr (.inr (.inr (.inr (.inr h)))), fun h => by
    rcases h with h | h | h | h | h | h
    · exact .inl (.inl (.inl (.inl (.inl h))))
    · exact .inl (.inl (.inl (.inl (.inr h))))
    · exact .inl (.inl (.inl (.inr h)))
    · exact .inl (.inl (.inr h))
    · exact .inl (.inr h)
    · exact .inr h⟩
def Tx.fn (t : Tx) : List He.DefD := (t.fs.map fun p => p.2.dat (t.nm p.1)) ++ t.os.map fun p => p.2.dat (t.nm p.1)
def obsX (t : Tx) (K : PySem.W.Frag) : He.AlD := ((t.fa.all fun f => f.ok K) && (t.fn.all fun d => d.ok K) && noList K && glOk t K && exK t K, t.fn.map fun d => He.fnW K d.at_)
def SaysX (t : Tx) (K : PySem.W.Frag) : Prop := obsX t K = He.valD t.fn
def obsXG (t : Tx) (n : Nat) (g : Addr → Option Obj) : He.AlD := obsX t (He.frG g (He.asD g n))
def hookX (t : Tx) (n : Nat) : PySem.W.Hook where
  α := He.AlD
  obs := fun s => obsXG t n s.heap.get?
  val := fun _ => He.valD t.fn
  says := fun _ h => ∃ K : PySem.W.Frag, K.In h ∧ SaysX t K
  of := fun _ _ e => ⟨_, He.frG_in, e⟩
  keeps := fun _ _ _ ⟨K, hK, c⟩ k => ⟨K, PySem.W.Frag.In.keeps hK k, c⟩
def obT (t : Tx) (n : Nat) (s : PySem.W.SharedT) : He.AlD := obsXG t n (HandSHeadRun.getT s)
theorem obT_eq (t : Tx) (n : Nat) (s : PySem.W.SharedT) : obT t n s = (hookX t n).obs s.abs := by
  have e : HandSHeadRun.getT s = s.abs.heap.get? := funext (HandSHeadRun.getT_eq s)
  unfold obT
  rw [e]
  rfl
theorem lw_T {t : Tx} {f : Nat} {fd : FD} (h : t.lw.T f = some fd) : t.lw.T0 f = some fd := by
  have h : (if t.isTop f then none else t.T f) = some fd := h
  split at h
  · cases h
  · exact h
theorem lw_N {t : Tx} {f : Nat} {fd : FD} (h : t.lw.T f = some fd) : t.isTop f = false := by
  have h : (if t.isTop f then none else t.T f) = some fd := h
  split at h
  · cases h
  · rename_i z
    simpa using z
theorem says_def {t : Tx} {K : PySem.W.Frag} {h : Heap} {mg : Str → Option Value} (X : K.In h) (G : h.Ns mainGlobals mg) (ok : t.ok = true) (c : SaysX t K) : ∀ (L' : Lw), L'.nm = t.nm → ∀ f d, look t.fs f = some d → chkB L' d.N t.xn d.fd.own (defScope d.st) d.fd.body (defBody d.st) = true → ∃ fa fdt ps N dd, DefAt L' t.xn K mg f d.fd fa fdt ps N dd := by
  have c1 : ((t.fa.all fun f => f.ok K) && (t.fn.all fun d => d.ok K) && noList K && glOk t K && exK t K) = true := congrArg (fun z : He.AlD => z.1) c
  have c2 : (t.fn.map fun d => He.fnW K d.at_) = t.fn.map He.DefD.val := congrArg (fun z : He.AlD => z.2) c
  simp only [Bool.and_eq_true, List.all_eq_true] at c1
  obtain ⟨⟨⟨⟨f1, f2⟩, f3⟩, f4⟩, f5⟩ := c1
  have fa_ : ∀ f ∈ t.fa, f.ok K = true := f1
  have ok3 : (((t.fs.all fun p => dfOk t p.1 p.2) && t.os.all fun p => odOk t p.2) && t.fs.all fun p => mdOk t p.1 p.2) = true := ok
  rw [Bool.and_eq_true] at ok3
  have ok2 := ok3.1
  rw [Bool.and_eq_true] at ok2
  have fn_at : ∀ dd : He.DefD, dd ∈ t.fn → He.fnW K dd.at_ = dd.val := fun dd hd => by
    obtain ⟨i, hi, e⟩ := List.mem_iff_getElem.mp hd
    have e2 := congrArg (fun l => l[i]?) c2
    simp only [List.getElem?_map, List.getElem?_eq_getElem hi, Option.map_some, Option.some.injEq] at e2
    rw [← e]
    exact e2
  exact fun L' el f d q kc => by
    have hm := look_mem q
    have hk : dfOk t f d = true := List.all_eq_true.mp ok2.1 (f, d) hm
    unfold dfOk at hk
    simp only [Bool.and_eq_true] at hk
    obtain ⟨⟨⟨⟨⟨k1, k2⟩, k3⟩, k4⟩, kb⟩, k5⟩ := hk
    have pb : ∀ l, d.fd.own = .chg l → ∀ i, d.fd.ps[i]? = some Pk.b → l.contains i = true := by
      intro l hl i hi
      rw [hl] at kb
      have := List.all_eq_true.mp (show (d.fd.ps.zipIdx.all fun p => !decide (p.1 = Pk.b) || l.contains p.2) = true from kb) (Pk.b, i) (by
        rw [List.mem_iff_getElem?]
        exact ⟨i, by rw [List.getElem?_zipIdx, hi]; simp⟩)
      simpa using this
    have hd : d.dat (t.nm f) ∈ t.fn := List.mem_append_left _ (List.mem_map.mpr ⟨_, hm, rfl⟩)
    have ev : He.fnW K (d.dat (t.nm f)).at_ = (d.dat (t.nm f)).val := fn_at _ hd
    obtain ⟨fdt, F⟩ := He.DefD.funD ev (f2 _ hd)
    have F' : FunD K (d.dat (t.nm f)).name (d.dat (t.nm f)).qual (d.dat (t.nm f)).params (d.dat (t.nm f)).body (d.dat (t.nm f)).scope [] [] (He.fAd K (d.dat (t.nm f)).at_) fdt := F
    refine ⟨He.fAd K (d.dat (t.nm f)).at_, fdt, d.ps, d.N, d.dat (t.nm f), ?_, F', scope_ok k1, k2, Nat.eq_of_beq_eq_true k3, Nat.eq_of_beq_eq_true k4, pb, kc⟩
    rw [el]
    exact He.glo_ok X G (fa_ (.glo (t.nm f)) (mem_fa.mpr (.inl ⟨_, hm, rfl⟩)))
theorem says_top {t : Tx} {K : PySem.W.Frag} {h : Heap} {mg : Str → Option Value} (X : K.In h) (G : h.Ns mainGlobals mg) (ok : t.ok = true) (c : SaysX t K) : TopOk t.lw (xaK t K) t.xn K mg := by
  have c1 : ((t.fa.all fun f => f.ok K) && (t.fn.all fun d => d.ok K) && noList K && glOk t K && exK t K) = true := congrArg (fun z : He.AlD => z.1) c
  have c2 : (t.fn.map fun d => He.fnW K d.at_) = t.fn.map He.DefD.val := congrArg (fun z : He.AlD => z.2) c
  simp only [Bool.and_eq_true, List.all_eq_true] at c1
  obtain ⟨⟨⟨⟨f1, f2⟩, f3⟩, f4⟩, f5⟩ := c1
  have fa_ : ∀ f ∈ t.fa, f.ok K = true := f1
  have kt_ : ∀ y c b, t.kt y c = some b → (PySem.W.kitOne K (.ref (xaK t K y)) (.ref (xaK t K c)) = some b ∧ PySem.W.kitOne K (.ref (xaK t K y)) (.type "ValueError") = some true) ∧ excCB K (xaK t K y) = true := fun y c b hb => by
    unfold Tx.kt at hb
    cases q : t.kts.find? fun p => decide (p.1 = y ∧ p.2.1 = c) with
    | none => rw [q] at hb; cases hb
    | some p =>
      rw [q] at hb
      have hm := List.mem_of_find?_eq_some q
      have hp := List.find?_some q
      rw [decide_eq_true_eq] at hp
      obtain ⟨rfl, rfl⟩ := hp
      obtain rfl : p.2.2 = b := Option.some.inj hb
      have := List.all_eq_true.mp (show (t.kts.all _) = true from f5) p hm
      simpa only [Bool.and_eq_true, decide_eq_true_eq] using this
  have ok3 : (((t.fs.all fun p => dfOk t p.1 p.2) && t.os.all fun p => odOk t p.2) && t.fs.all fun p => mdOk t p.1 p.2) = true := ok
  rw [Bool.and_eq_true] at ok3
  have ok2 := ok3.1
  rw [Bool.and_eq_true] at ok2
  have fn_at : ∀ dd : He.DefD, dd ∈ t.fn → He.fnW K dd.at_ = dd.val := fun dd hd => by
    obtain ⟨i, hi, e⟩ := List.mem_iff_getElem.mp hd
    have e2 := congrArg (fun l => l[i]?) c2
    simp only [List.getElem?_map, List.getElem?_eq_getElem hi, Option.map_some, Option.some.injEq] at e2
    rw [← e]
    exact e2
  have dd := says_def X G ok c
  refine ⟨fun f fd hf => ?_, rfl, rfl, fun f fd hf => lw_T hf, fun f fd hf => ?_, fun f fd hf => ?_, fun x hx => ?_, fun g d hg => ?_, fun e x hx => ?_, fun y c b hb => ?_, ⟨fun y c b hb => (kt_ y c b hb).1.1, fun y c b hb => (kt_ y c b hb).1.2, fun y c b hb => excCB_ok (kt_ y c b hb).2⟩, fun f o hf => ?_⟩
  · have nt := lw_N hf
    have hf : (look t.fs f).map (·.fd) = some fd := lw_T hf
    cases q : look t.fs f with
    | none => rw [q] at hf; cases hf
    | some d =>
      rw [q] at hf
      obtain rfl : d.fd = fd := Option.some.inj hf
      have hk : dfOk t f d = true := List.all_eq_true.mp ok2.1 (f, d) (look_mem q)
      unfold dfOk at hk
      rw [Bool.and_eq_true, nt] at hk
      exact dd t.lw rfl f d q hk.2
  · have hf : (if t.cl.contains f then t.T f else none) = some fd := hf
    split at hf
    · rename_i hc
      refine ⟨hf, ?_⟩
      have hf : (look t.fs f).map (·.fd) = some fd := hf
      cases q : look t.fs f with
      | none => rw [q] at hf; cases hf
      | some d =>
        rw [q] at hf
        obtain rfl : d.fd = fd := Option.some.inj hf
        have hk : mdOk t f d = true := List.all_eq_true.mp ok3.2 (f, d) (look_mem q)
        unfold mdOk at hk
        rw [Bool.and_eq_true, hc] at hk
        exact dd t.lw.cl rfl f d q (by simpa using hk.1)
    · cases hf
  · have hf : (if t.ho.contains f then t.T f else none) = some fd := hf
    split at hf
    · rename_i hc
      refine ⟨hf, ?_⟩
      have hf : (look t.fs f).map (·.fd) = some fd := hf
      cases q : look t.fs f with
      | none => rw [q] at hf; cases hf
      | some d =>
        rw [q] at hf
        obtain rfl : d.fd = fd := Option.some.inj hf
        have hk : mdOk t f d = true := List.all_eq_true.mp ok3.2 (f, d) (look_mem q)
        unfold mdOk at hk
        rw [Bool.and_eq_true, hc] at hk
        exact dd t.lw.ho rfl f d q (by simpa using hk.2)
    · cases hf
  · exact He.free_ok X G (fa_ (.free x) (mem_fa.mpr (.inr (.inl ⟨_, hx, rfl⟩))))
  · have hm := look_mem (show look t.gs g = some d from hg)
    have := List.all_eq_true.mp (show (t.gs.all fun p => match PySem.W.nsIn K mainGlobals (t.nm p.1) with
      | some (some u) => relD K p.2 u
      | _ => false) = true from f4) (g, d) hm
    simp only at this
    split at this
    · rename_i u e
      obtain ⟨v, r, hr⟩ := relD_ok d u this
      exact ⟨u, v, PySem.W.mg_of X G e, r, hr⟩
    · cases this
  · have hm := look_mem (show look t.xs e = some x from hx)
    have ea : xaK t K e = He.ga K x := by unfold xaK; rw [hx]; rfl
    rw [ea]
    exact ⟨He.glo_ok X G (fa_ (.glo x) (mem_fa.mpr (.inr (.inr (.inl ⟨_, hm, rfl⟩))))), He.exc_ok (fa_ (.exc x) (mem_fa.mpr (.inr (.inr (.inr (.inl ⟨_, hm, rfl⟩))))))⟩
  · have hb' : (t.ems.find? fun p => decide (p.1 = y ∧ p.2.1 = c)).map (·.2.2) = some b := hb
    clear hb
    cases q : t.ems.find? fun p => decide (p.1 = y ∧ p.2.1 = c) with
    | none => rw [q] at hb'; cases hb'
    | some p =>
      rw [q] at hb'
      have hm := List.mem_of_find?_eq_some q
      have hp := List.find?_some q
      rw [decide_eq_true_eq] at hp
      obtain ⟨rfl, rfl⟩ := hp
      obtain rfl : p.2.2 = b := Option.some.inj hb'
      exact He.exm_ok (fa_ (t.em p) (mem_fa.mpr (.inr (.inr (.inr (.inr (.inl ⟨p, hm, rfl⟩)))))))
  · have hm := look_mem (show look t.os f = some o from hf)
    have hk : odOk t o = true := List.all_eq_true.mp ok2.2 (f, o) hm
    unfold odOk at hk
    simp only [Bool.and_eq_true, Bool.not_eq_true'] at hk
    obtain ⟨⟨⟨⟨k1, k2⟩, k3⟩, k4⟩, k5⟩ := hk
    have hd : o.dat (t.nm f) ∈ t.fn := List.mem_append_right _ (List.mem_map.mpr ⟨_, hm, rfl⟩)
    obtain ⟨fdt, F⟩ := He.DefD.funD (fn_at _ hd) (f2 _ hd)
    have F' : FunD K (o.dat (t.nm f)).name (o.dat (t.nm f)).qual (o.dat (t.nm f)).params (o.dat (t.nm f)).body (o.dat (t.nm f)).scope [] [] (He.fAd K (o.dat (t.nm f)).at_) fdt := F
    refine ⟨He.fAd K (o.dat (t.nm f)).at_, fdt, o.dat (t.nm f), He.glo_ok X G (fa_ (.glo (t.nm f)) (mem_fa.mpr (.inr (.inr (.inr (.inr (.inr ⟨_, hm, rfl⟩))))))), F', scope_ok k1, k2, k3, Nat.le_of_ble_eq_true k4, ?_⟩
    cases q : o.c1 ++ o.c2 with
    | nil => rw [q] at k5; cases k5
    | cons c r => exact ⟨c, List.mem_cons_self ..⟩
theorem says_nolist {t : Tx} {K : PySem.W.Frag} (c : SaysX t K) {a : Addr} {o : Obj} (h : K.lookup a = some o) : o.cls ≠ .type "list" := by
  have c1 : ((t.fa.all fun f => f.ok K) && (t.fn.all fun d => d.ok K) && noList K && glOk t K && exK t K) = true := congrArg (fun z : He.AlD => z.1) c
  simp only [Bool.and_eq_true] at c1
  have := List.all_eq_true.mp (show (K.all _) = true from c1.1.1.2) (a, o) (PySem.W.mem_of_lookupK h)
  intro e
  simp only [e] at this
  simp at this
/-! ### the law's end -/
def depthMost : Nat := 220
theorem room_top : Room (depthMost + 1) callerA := ⟨rfl, by decide, by decide⟩
theorem reps_of_ints {K : PySem.W.Frag} {H : Hp} : ∀ ns : List Int, Reps K H (ns.map V.int) (ns.map D.int)
  | [] => .nil
  | n :: ns => .cons (.int n) (reps_of_ints ns)
theorem walk_ev {l : PySem.W.OpenLaw} {q : Program} {loose : List Str} {XP : (Str → Option Value) → Heap → Prop} {t : Tx} {m f : Nat} {d : DefRec} {df : Df} {x : Str}
    (hn : l.most = some 63) (hdf : d.params.defaults = []) (ok : t.ok = true) (hl : look t.fs f = some df) (hx : df.ps = [x]) (hb : df.fd.ps = [Pk.s]) (hco : ∀ l, df.fd.own ≠ .chg l) (hN : d.name = t.nm f) (hnt : t.isTop f = false)
    (plain : ∀ ns : List Int, ns.length ≤ 63 → callF t.T t.gl depthMost f [.lst (ns.map .int)] = .ok (.bl true)) :
    PySem.W.WalkO q loose XP (hookX t m).says l.row.toRowW d [] (fun f vs => PySem.call f vs) := by
  refine Att.attach_call hn hdf fun w s₀ s₁ mg mb fa o pm cd doc a vs ns G Y ho hd hcd hmg hobj hints hlen hg => ?_
  obtain ⟨K, KX, c⟩ := Y
  have Tp := says_top KX G.T.g ok c
  have hT : t.lw.T f = some df.fd := by
    show (if t.isTop f then none else (look t.fs f).map (·.fd)) = _
    rw [hnt, hl]; rfl
  obtain ⟨fa', fdt, ps, N, dd, D⟩ := Tp.fns f df.fd hT
  have ea : fa = fa' := by
    have := D.g
    rw [show t.lw.nm f = d.name from hN.symm, hmg] at this
    cases this
    rfl
  subst ea
  have hps : ∃ y, ps = [y] := by
    have := D.pl
    rw [hb] at this
    match ps, this with
    | [y], _ => exact ⟨y, rfl⟩
  obtain ⟨y, rfl⟩ := hps
  have F : ∀ base : Heap, K.In base → base.Ns mainGlobals mg → FnOk l.prog w K mg base (L2.CX l.prog w) (depthMost + 1) fa fdt [y] (spF K (xaK t K) (callF t.T t.gl depthMost f) df.fd) := fun base _ _ => fn_sound Tp depthMost f df.fd hT fa fdt [y] N dd D
  have hz : (63 : Nat) ≤ sizeLine := by decide
  have lb : ∀ (s : Shared) (u : Value), BindsTo s fdt ⟨[u], []⟩ [(y, u)] := fun s u => D.F.bindsA (ps := [y]) (fun _ _ _ _ _ _ us hl => bind_ok D.ak _ _ _ _ _ _ us hl) s [u] rfl
  refine law_call KX G.T.g G.T.b G.T.builtins G.T.nolimit hg hobj hints (Nat.le_trans hlen hz) room_top F lb (fun H hO hS => ?_) fun H e s' h => ?_
  · refine ⟨[.lst (ns.map .int)], [], ?_, ?_, ?_⟩
    · rw [hb]
      refine .cons ?_ .nil
      rcases hS with h | ⟨o, its, n, lk, hc, _⟩
      · rcases hO a with z | ⟨o, xs, z⟩
        · rcases h with h | ⟨o, h⟩
          · rw [z] at h; cases h
          · rw [z] at h; cases h
        · rcases h with h | ⟨o2, h⟩
          · rw [z] at h; cases h
          · exact .lst h (reps_of_ints ns) (by rw [List.length_map]; exact Nat.le_trans hlen hz)
      · exact absurd hc (says_nolist c lk)
    · unfold MutA
      cases z : df.fd.own with
      | chg l => exact absurd z (hco l)
      | own => rfl
      | prt => rfl
      | no => rfl
    · rw [plain ns hlen]
      intro v H' e r
      have : v = .bl true := by
        cases z : df.fd.own with
        | own => rw [z] at r; exact Rep.bl_inv r
        | prt => rw [z] at r; exact Rep.bl_inv r
        | no => rw [z] at r; exact Rep.bl_inv r
        | chg l => exact absurd z (hco l)
      exact this
  · obtain ⟨_, _, _, _, _, _, _, _, _, _, _, _, h⟩ := h
    exact h
/-! ### a law that asks repr: its call from the top, where repr is not running (after the library's law_call) -/
end Ev

/-! Reading the evaluator: functions by number, rules for readings. -/
namespace Ev
class Fn (T : Nat → Option FD) (i : Nat) (fd : outParam FD) : Prop where
  eq : T i = some fd
class Gl (gl : Nat → Option D) (i : Nat) (d : outParam D) : Prop where
  eq : gl i = some d
section
variable {T : Nat → Option FD} {gl : Nat → Option D} {cf : Nat → List D → Res D}
theorem call_eq {n i : Nat} {fd : FD} [h : Fn T i fd] (ds : List D) : callF T gl (n + 1) i ds = fd.run (callF T gl n) gl ds := by
  show (match T i with
    | some fd => fd.run (callF T gl n) gl ds
    | none => .fail) = _
  rw [h.eq]
theorem glob_eq {i : Nat} {d : D} [h : Gl gl i d] : gl i = some d := h.eq
end
/-- an answer is there, and P of it -/
@[irreducible] def okO {α : Type} (o : Option α) (P : α → Prop) : Prop := ∃ a, o = some a ∧ P a
@[irreducible] def okR {α : Type} (r : Res α) (X : Nat → Prop) (P : α → Prop) : Prop := match r with
  | .ok a => P a
  | .exc c => X c
  | .fail => False
/-- a block's ends -/
structure En where
  nx : Env → Prop
  rt : D → Prop
  bk : Env → Prop
  ct : Env → Prop
  xc : Nat → Env → Prop
def En.wn (n : En) (f : Env → Prop) : En := ⟨f, n.rt, n.bk, n.ct, n.xc⟩
def En.wl (n : En) (f g : Env → Prop) : En := ⟨f, n.rt, g, f, n.xc⟩
def En.wx (n : En) (x : Nat → Env → Prop) : En := ⟨n.nx, n.rt, n.bk, n.ct, x⟩
def En.fn (P : D → Prop) (X : Nat → Prop) : En := ⟨fun _ => P .non, P, fun _ => False, fun _ => False, fun c _ => X c⟩
/-- .. of a def that changes these parameters -/
def En.fm (l : List Nat) (P : D → Prop) : En := ⟨fun ρ => okO (handM l .non ρ) P, P, fun _ => False, fun _ => False, fun _ _ => False⟩
def Ow.still : Ow → Bool
  | .chg _ => false
  | _ => true
@[irreducible] def okF (r : Res Flow) (n : En) : Prop := match r with
  | .ok (.nx ρ) => n.nx ρ
  | .ok (.ret d) => n.rt d
  | .ok (.brk ρ) => n.bk ρ
  | .ok (.cont ρ) => n.ct ρ
  | .ok (.exc c ρ) => n.xc c ρ
  | .exc _ => False
  | .fail => False
section
variable {α β : Type} {X X' : Nat → Prop} {P P' : α → Prop} {n : En} {ρ : Env}
theorem okO_of {o : Option α} {a : α} (h : o = some a) (p : P a) : okO o P := by unfold okO; exact ⟨a, h, p⟩
theorem okO_mono {o : Option α} (h : okO o P) (m : ∀ a, P a → P' a) : okO o P' := by
  unfold okO at h ⊢
  obtain ⟨a, e, p⟩ := h
  exact ⟨a, e, m a p⟩
theorem okO_ex {o : Option α} (h : okO o P) : ∃ a, o = some a ∧ P a := by unfold okO at h; exact h
theorem okR_of {r : Res α} {a : α} (h : r = .ok a) (p : P a) : okR r X P := by unfold okR; rw [h]; exact p
theorem okR_exc {r : Res α} {c : Nat} (h : r = .exc c) (p : X c) : okR r X P := by unfold okR; rw [h]; exact p
theorem okR_mono {r : Res α} (h : okR r X P) (m : ∀ a, P a → P' a) (x : ∀ c, X c → X' c) : okR r X' P' := by
  unfold okR at h ⊢
  cases r with
  | ok a => exact m a h
  | exc c => exact x c h
  | fail => exact h
theorem okR_ex {r : Res α} (h : okR r (fun _ => False) P) : ∃ a, r = .ok a ∧ P a := by
  unfold okR at h
  cases r with
  | ok a => exact ⟨a, rfl, h⟩
  | exc c => exact h.elim
  | fail => exact h.elim
/-- what raises nothing: on -/
theorem okR_then {r : Res α} (h : okR r (fun _ => False) P) (m : ∀ a, P a → P' a) : okR r X P' := okR_mono h m fun _ h => h.elim
theorem okR_bind {r : Res α} {f : α → Res β} {P : β → Prop} (h : okR r X fun a => okR (f a) X P) : okR (r >>= f) X P := by
  unfold okR at h ⊢
  cases r <;> exact h
theorem okR_o {o : Option α} (h : okO o P) : okR (ofO o) X P := by
  obtain ⟨a, rfl, p⟩ := okO_ex h
  unfold okR
  exact p
theorem okF_withE {r : Res α} {f : α → Res Flow} (h : okR r (fun c => n.xc c ρ) fun a => okF (f a) n) : okF (withE r ρ f) n := by
  unfold okR at h
  cases r with
  | ok a => exact h
  | exc c => unfold okF; exact h
  | fail => exact h.elim
theorem okF_o {o : Option α} {f : α → Res Flow} (h : okO o fun a => okF (f a) n) : okF (ofO o >>= f) n := by
  obtain ⟨a, rfl, p⟩ := okO_ex h
  exact p
theorem okF_nx (h : n.nx ρ) : okF (.ok (.nx ρ)) n := by unfold okF; exact h
theorem okF_nx' (h : okF (.ok (.nx ρ)) n) : n.nx ρ := by unfold okF at h; exact h
theorem okF_ct' (h : okF (.ok (.cont ρ)) n) : n.ct ρ := by unfold okF at h; exact h
theorem okF_rt {d : D} (h : n.rt d) : okF (.ok (.ret d)) n := by unfold okF; exact h
end
@[irreducible] def okE (cf : Nat → List D → Res D) (gl : Nat → Option D) (c : E) (ρ : Env) (X : Nat → Prop) (P : D → Prop) : Prop := okR (evE cf gl c ρ) X P
@[irreducible] def okEs (cf : Nat → List D → Res D) (gl : Nat → Option D) (c : Es) (ρ : Env) (X : Nat → Prop) (P : List D → Prop) : Prop := okR (evEs cf gl c ρ) X P
@[irreducible] def okIt (cf : Nat → List D → Res D) (gl : Nat → Option D) (c : It) (ρ : Env) (X : Nat → Prop) (P : List D → Prop) : Prop := okR (evIt cf gl c ρ) X P
@[irreducible] def okS (cf : Nat → List D → Res D) (gl : Nat → Option D) (s : S) (ρ : Env) (n : En) : Prop := okF (evS cf gl s ρ) n
@[irreducible] def okB (cf : Nat → List D → Res D) (gl : Nat → Option D) (b : B) (ρ : Env) (n : En) : Prop := okF (evB cf gl b ρ) n
/-- a truth -/
@[irreducible] def okK (d : D) (P : Bool → Prop) : Prop := ∃ k, d = .bl k ∧ P k
@[irreducible] def okT (d : D) (A B : Prop) : Prop := ∃ k, d = .bl k ∧ (k = true → A) ∧ (k = false → B)
@[irreducible] def okComp (cf : Nat → List D → Res D) (gl : Nat → Option D) (x : Nat) (c e : E) (l : List D) (ρ : Env) (X : Nat → Prop) (P : List D → Prop) : Prop := okR (compL (fun d => noExc (evE cf gl c (setV ρ x d))) (fun d => evE cf gl e (setV ρ x d)) l) X P
@[irreducible] def okFor (cf : Nat → List D → Res D) (gl : Nat → Option D) (x : Nat) (b : B) (l : List D) (ρ : Env) (n : En) : Prop := okF (forL x (fun ρ => evB cf gl b ρ) l ρ) n
@[irreducible] def okWh (cf : Nat → List D → Res D) (gl : Nat → Option D) (c : E) (b : B) (m : Nat) (ρ : Env) (n : En) : Prop := okF (whileL (fun ρ => evE cf gl c ρ) (fun ρ => evB cf gl b ρ) m ρ) n
section
variable {cf : Nat → List D → Res D} {gl : Nat → Option D} {ρ : Env} {X X' : Nat → Prop} {P P' : D → Prop} {Q Q' : List D → Prop} {n : En}
theorem okK_bl {k : Bool} {P : Bool → Prop} (h : P k) : okK (.bl k) P := by unfold okK; exact ⟨k, rfl, h⟩
theorem okT_bl {k : Bool} {A B : Prop} (h1 : k = true → A) (h2 : k = false → B) : okT (.bl k) A B := by unfold okT; exact ⟨k, rfl, h1, h2⟩
theorem okT_dec {p : Prop} [Decidable p] {A B : Prop} (h1 : p → A) (h2 : ¬ p → B) : okT (.bl (decide p)) A B := okT_bl (fun h => h1 (of_decide_eq_true h)) fun h => h2 (of_decide_eq_false h)
theorem okT_tt {A B : Prop} (h : A) : okT (.bl true) A B := okT_bl (fun _ => h) fun h => by cases h
theorem okT_ff {A B : Prop} (h : B) : okT (.bl false) A B := okT_bl (fun h => by cases h) fun _ => h
theorem okT_ct {k : Bool} {A B : Prop} (e : k = true) (h : A) : okT (.bl k) A B := okT_bl (fun _ => h) fun q => by rw [e] at q; cases q
theorem okT_cf {k : Bool} {A B : Prop} (e : k = false) (h : B) : okT (.bl k) A B := okT_bl (fun q => by rw [e] at q; cases q) fun _ => h
theorem okT_ntt {A B : Prop} (h : B) : okT (.bl (!true)) A B := okT_bl (fun h => by cases h) fun _ => h
theorem okT_nff {A B : Prop} (h : A) : okT (.bl (!false)) A B := okT_bl (fun _ => h) fun h => by cases h
theorem okK_tr {d : D} {P : Bool → Prop} (h : okK d P) : okO (truth d) P := by
  unfold okK at h
  obtain ⟨k, rfl, p⟩ := h
  exact okO_of rfl p
theorem okE_mono {c : E} (h : okE cf gl c ρ X P) (m : ∀ d, P d → P' d) (x : ∀ c, X c → X' c) : okE cf gl c ρ X' P' := by
  unfold okE at h ⊢; exact okR_mono h m x
/-- one step of an expression -/
def stE (cf : Nat → List D → Res D) (gl : Nat → Option D) (ρ : Env) (X : Nat → Prop) (P : D → Prop) : E → Prop
  | .var i => okO (getSh ρ i) P
  | .bor i => okO (getAny ρ i) P
  | .lit d => P d
  | .glob g => okO (gl g) P
  | .tup es => okEs cf gl es ρ X fun l => P (.tup l)
  | .lst es => okEs cf gl es ρ X fun l => P (.lst l)
  | .bin o a b => okE cf gl a ρ X fun x => okE cf gl b ρ X fun y => okO (opB o x y) P
  | .neg a => okE cf gl a ρ X fun x => okO (opNeg x) P
  | .lrng a => okE cf gl a ρ X fun x => okO (rng1 x) fun l => P (.lst l)
  | .revs a => okE cf gl a ρ X fun x => okO (opRev x) P
  | .prt i k => okO (getPrt ρ i k) P
  | .dget i k => okO (getDD ρ i) fun es => okE cf gl k ρ X fun y => okO (dGet es y) P
  | .din i k => okE cf gl k ρ X fun y => okO (getDD ρ i) fun es => okO (dHas es y) P
  | .dlen i => okO (getDD ρ i) fun es => P (.int es.length)
  | .dar i => okO (getDsh ρ i) fun es => P (.lst es)
  | .dnil => P (.lst [])
  | .nks i => okO (getNk ρ i) fun ks => P (.lst ks)
  | .nsrt i => okO (getNk ρ i) fun ks => okO (opF .sorted [.lst ks]) P
  | .lix a b => okE cf gl a ρ X fun x => okO (listOf x) fun _ => okE cf gl b ρ X fun y => okO (opLix x y) P
  | .call0 f => okR (cf f []) (fun _ => False) P
  | .repl a i y z => okE cf gl a ρ X fun x => okO (opIx x (.int i)) fun t => okO (opRepl y z t) P
  | .pick ks es k => okEs cf gl es ρ X fun ds => okE cf gl k ρ X fun y => okO (dGet (dLit ks ds) y) P
  | .isb k n a => okE cf gl a ρ X fun x => okO (opIsb k n x) fun b => P (.bl b)
  | .not a => okE cf gl a ρ X fun x => okK x fun k => P (.bl (!k))
  | .and a b => okE cf gl a ρ X fun x => okT x (okE cf gl b ρ X fun y => okK y fun k => P (.bl k)) (P (.bl false))
  | .or a b => okE cf gl a ρ X fun x => okT x (P (.bl true)) (okE cf gl b ρ X fun y => okK y fun k => P (.bl k))
  | .cmp o a b => okE cf gl a ρ X fun x => okE cf gl b ρ X fun y => okO (opC o x y) fun k => P (.bl k)
  | .chain o p a b c => okE cf gl a ρ X fun x => okE cf gl b ρ X fun y => okO (opC o x y) fun k => okT (.bl k) (okE cf gl c ρ X fun z => okO (opC p y z) fun k => P (.bl k)) (P (.bl false))
  | .isN a => okE cf gl a ρ X fun x => P (.bl (isNon x))
  | .notN a => okE cf gl a ρ X fun x => P (.bl (!isNon x))
  | .ife c a b => okE cf gl c ρ X fun x => okT x (okE cf gl a ρ X P) (okE cf gl b ρ X P)
  | .call f es => okEs cf gl es ρ X fun l => okR (cf f l) X P
  | .bf b es => okEs cf gl es ρ X fun l => okO (opF b l) P
  | .mt m a es => okE cf gl a ρ X fun x => okO (recv x) fun _ => okEs cf gl es ρ X fun l => okO (opM m x l) P
  | .ix a b => okE cf gl a ρ X fun x => okE cf gl b ρ X fun y => okO (opIx x y) P
  | .sl a lo hi => okE cf gl a ρ X fun x => okE cf gl lo ρ X fun y => okO (ixPart (isLitNon lo) y) fun l => okE cf gl hi ρ X fun z => okO (ixPart (isLitNon hi) z) fun h => okO (opSl x l h) P
  | .comp x it c e => okIt cf gl it ρ X fun l => okComp cf gl x c e l ρ X fun r => P (.lst r)
def stEs (cf : Nat → List D → Res D) (gl : Nat → Option D) (ρ : Env) (X : Nat → Prop) (P : List D → Prop) : Es → Prop
  | .nil => P []
  | .cons e es => okE cf gl e ρ X fun x => okEs cf gl es ρ X fun l => P (x :: l)
def stIt (cf : Nat → List D → Res D) (gl : Nat → Option D) (ρ : Env) (X : Nat → Prop) (P : List D → Prop) : It → Prop
  | .seq a => okE cf gl a ρ X fun x => okO (itemsOf x) P
  | .txt a => okE cf gl a ρ X fun x => okO (txtOf x) P
  | .rng1 a => okE cf gl a ρ X fun x => okO (rng1 x) P
  | .rng2 a b => okE cf gl a ρ X fun x => okE cf gl b ρ X fun y => okO (rng2 x y) P
  | .rev e => okE cf gl e ρ X fun x => okO (revOf x) P
  | .revr a => okE cf gl a ρ X fun x => okO (rng1 x) fun l => P l.reverse
  | .dks i => okO (getDsh ρ i) fun es => P (dKeys es)
theorem okT_if {d : D} {r1 r2 : Res D} (h : okT d (okR r1 X P) (okR r2 X P)) : okR (ofO (truth d) >>= fun k => if k then r1 else r2) X P := by
  unfold okT at h
  obtain ⟨k, rfl, h1, h2⟩ := h
  cases k with
  | true => exact h1 rfl
  | false => exact h2 rfl
theorem stepE {c : E} (h : stE cf gl ρ X P c) : okE cf gl c ρ X P := by
  unfold okE
  cases c with
  | var i => exact okR_o h
  | bor i => exact okR_o h
  | lit d => exact okR_of rfl h
  | glob g => exact okR_o h
  | tup es =>
    refine okR_bind (okR_mono (by unfold stE okEs at h; exact h) (fun l p => okR_of rfl p) fun _ h => h)
  | lst es =>
    refine okR_bind (okR_mono (by unfold stE okEs at h; exact h) (fun l p => okR_of rfl p) fun _ h => h)
  | bin o a b =>
    simp only [stE, okE] at h
    exact okR_bind (okR_mono h (fun x h => okR_bind (okR_mono h (fun y h => okR_o h) fun _ h => h)) fun _ h => h)
  | lrng a =>
    simp only [stE, okE] at h
    exact okR_bind (okR_mono h (fun x h => okR_bind (okR_o (okO_mono h fun l p => okR_of rfl p))) fun _ h => h)
  | revs a =>
    simp only [stE, okE] at h
    exact okR_bind (okR_mono h (fun x h => okR_o h) fun _ h => h)
  | prt i k => exact okR_o h
  | dget i k =>
    simp only [stE, okE] at h
    exact okR_bind (okR_o (okO_mono h fun es h => okR_bind (okR_mono h (fun y h => okR_o h) fun _ h => h)))
  | din i k =>
    simp only [stE, okE] at h
    exact okR_bind (okR_mono h (fun y h => okR_bind (okR_o (okO_mono h fun es h => okR_o h))) fun _ h => h)
  | dlen i =>
    simp only [stE] at h
    exact okR_bind (okR_o (okO_mono h fun es h => okR_of rfl h))
  | dar i =>
    simp only [stE] at h
    exact okR_bind (okR_o (okO_mono h fun es h => okR_of rfl h))
  | dnil => exact okR_of rfl h
  | nks i =>
    simp only [stE] at h
    exact okR_bind (okR_o (okO_mono h fun es h => okR_of rfl h))
  | nsrt i =>
    simp only [stE] at h
    exact okR_bind (okR_o (okO_mono h fun es h => okR_o h))
  | lix a b =>
    simp only [stE, okE] at h
    exact okR_bind (okR_mono h (fun x h => okR_bind (okR_o (okO_mono h fun _ h => okR_bind (okR_mono h (fun y h => okR_o h) fun _ h => h)))) fun _ h => h)
  | call0 f =>
    have h : okR (cf f []) (fun _ => False) P := h
    show okR (noExc (cf f [])) X P
    unfold okR at h ⊢
    cases q : cf f [] with
    | ok d => rw [q] at h; exact h
    | exc c => rw [q] at h; exact h.elim
    | fail => rw [q] at h; exact h.elim
  | pick ks es k =>
    have h : okEs cf gl es ρ X fun ds => okE cf gl k ρ X fun y => okO (dGet (dLit ks ds) y) P := h
    simp only [okE, okEs] at h
    exact okR_bind (okR_mono h (fun ds h => okR_bind (okR_mono h (fun y h => okR_o h) fun _ h => h)) fun _ h => h)
  | repl a i y z =>
    simp only [stE, okE] at h
    exact okR_bind (okR_mono h (fun x h => okR_bind (okR_o (okO_mono h fun t h => okR_o h))) fun _ h => h)
  | isb k n a =>
    simp only [stE, okE] at h
    exact okR_bind (okR_mono h (fun x h => okR_bind (okR_o (okO_mono h fun b h => okR_of rfl h))) fun _ h => h)
  | neg a =>
    simp only [stE, okE] at h
    exact okR_bind (okR_mono h (fun x h => okR_o h) fun _ h => h)
  | not a =>
    simp only [stE, okE] at h
    exact okR_bind (okR_mono h (fun x h => okR_bind (okR_o (okO_mono (okK_tr h) fun k p => okR_of rfl p))) fun _ h => h)
  | and a b =>
    simp only [stE, okE] at h
    refine okR_bind (okR_mono h (fun x h => ?_) fun _ h => h)
    refine okT_if ?_
    unfold okT at h ⊢
    obtain ⟨k, rfl, h1, h2⟩ := h
    exact ⟨k, rfl, fun e => okR_bind (okR_mono (h1 e) (fun y h => okR_bind (okR_o (okO_mono (okK_tr h) fun k p => okR_of rfl p))) fun _ h => h), fun e => okR_of rfl (h2 e)⟩
  | or a b =>
    simp only [stE, okE] at h
    refine okR_bind (okR_mono h (fun x h => ?_) fun _ h => h)
    refine okT_if ?_
    unfold okT at h ⊢
    obtain ⟨k, rfl, h1, h2⟩ := h
    exact ⟨k, rfl, fun e => okR_of rfl (h1 e), fun e => okR_bind (okR_mono (h2 e) (fun y h => okR_bind (okR_o (okO_mono (okK_tr h) fun k p => okR_of rfl p))) fun _ h => h)⟩
  | cmp o a b =>
    simp only [stE, okE] at h
    exact okR_bind (okR_mono h (fun x h => okR_bind (okR_mono h (fun y h => okR_bind (okR_o (okO_mono h fun k p => okR_of rfl p))) fun _ h => h)) fun _ h => h)
  | chain o p a b c =>
    simp only [stE, okE] at h
    refine okR_bind (okR_mono h (fun x h => okR_bind (okR_mono h (fun y h => okR_bind (okR_o (okO_mono h fun k p => ?_))) fun _ h => h)) fun _ h => h)
    unfold okT at p
    obtain ⟨k', e, h1, h2⟩ := p
    cases e
    cases k with
    | true => exact okR_bind (okR_mono (h1 rfl) (fun z h => okR_bind (okR_o (okO_mono h fun k p => okR_of rfl p))) fun _ h => h)
    | false => exact okR_of rfl (h2 rfl)
  | isN a =>
    simp only [stE, okE] at h
    exact okR_bind (okR_mono h (fun x h => okR_of rfl h) fun _ h => h)
  | notN a =>
    simp only [stE, okE] at h
    exact okR_bind (okR_mono h (fun x h => okR_of rfl h) fun _ h => h)
  | ife c a b =>
    simp only [stE, okE] at h
    exact okR_bind (okR_mono h (fun x h => okT_if h) fun _ h => h)
  | call f es =>
    simp only [stE, okEs] at h
    exact okR_bind h
  | bf b es =>
    simp only [stE, okEs] at h
    exact okR_bind (okR_mono h (fun x h => okR_o h) fun _ h => h)
  | mt m a es =>
    simp only [stE, okE, okEs] at h
    exact okR_bind (okR_mono h (fun x h => okR_bind (okR_o (okO_mono h fun _ h => okR_bind (okR_mono h (fun x h => okR_o h) fun _ h => h)))) fun _ h => h)
  | ix a b =>
    simp only [stE, okE] at h
    exact okR_bind (okR_mono h (fun x h => okR_bind (okR_mono h (fun y h => okR_o h) fun _ h => h)) fun _ h => h)
  | sl a lo hi =>
    simp only [stE, okE] at h
    exact okR_bind (okR_mono h (fun x h => okR_bind (okR_mono h (fun y h => okR_bind (okR_o (okO_mono h fun l h => okR_bind (okR_mono h (fun z h => okR_bind (okR_o (okO_mono h fun hh h => okR_o h))) fun _ h => h)))) fun _ h => h)) fun _ h => h)
  | comp x it c e =>
    simp only [stE, okIt] at h
    refine okR_bind (okR_mono h (fun l h => ?_) fun _ h => h)
    unfold okComp at h
    exact okR_bind (okR_mono h (fun r h => okR_of rfl h) fun _ h => h)
theorem stepEs {c : Es} (h : stEs cf gl ρ X Q c) : okEs cf gl c ρ X Q := by
  unfold okEs
  cases c with
  | nil => exact okR_of rfl h
  | cons e es =>
    simp only [stEs, okE, okEs] at h
    exact okR_bind (okR_mono h (fun x h => okR_bind (okR_mono h (fun l h => okR_of rfl h) fun _ h => h)) fun _ h => h)
theorem stepIt {c : It} (h : stIt cf gl ρ X Q c) : okIt cf gl c ρ X Q := by
  unfold okIt
  cases c with
  | seq a =>
    simp only [stIt, okE] at h
    exact okR_bind (okR_mono h (fun x h => okR_o h) fun _ h => h)
  | txt a =>
    simp only [stIt, okE] at h
    exact okR_bind (okR_mono h (fun x h => okR_o h) fun _ h => h)
  | rng1 a =>
    simp only [stIt, okE] at h
    exact okR_bind (okR_mono h (fun x h => okR_o h) fun _ h => h)
  | rev e =>
    simp only [stIt, okE] at h
    exact okR_bind (okR_mono h (fun x h => okR_o h) fun _ h => h)
  | dks i =>
    simp only [stIt] at h
    exact okR_bind (okR_o (okO_mono h fun es h => okR_of rfl h))
  | revr a =>
    simp only [stIt, okE] at h
    exact okR_bind (okR_mono h (fun x h => okR_bind (okR_o (okO_mono h fun l p => okR_of rfl p))) fun _ h => h)
  | rng2 a b =>
    simp only [stIt, okE] at h
    exact okR_bind (okR_mono h (fun x h => okR_bind (okR_mono h (fun y h => okR_o h) fun _ h => h)) fun _ h => h)
/-- one step of a statement -/
def stH (cf : Nat → List D → Res D) (gl : Nat → Option D) (y : Nat) (ρ : Env) (n : En) : Hd → Prop
  | .set i d => n.nx (setV ρ i d)
  | .ret d => n.rt d
  | .pass => n.nx ρ
  | .raise c => n.xc c ρ
  | .retC f es => okEs cf gl es ρ (fun c => n.xc c ρ) fun l => okR (cf f l) (fun c => n.xc c ρ) n.rt
  | .one _ none _ l => l.contains y = true ∧ n.rt (.bl true)
  | .one _ (some i) _ l => okO (getSh ρ i) fun d => okK d fun k => if k = true then l.contains y = true ∧ n.rt (.bl true) else n.rt (.bl false)
theorem okF_H {y : Nat} {h : Hd} (p : stH cf gl y ρ n h) : okF (evH cf gl h y ρ) n := by
  cases h with
  | set i d => exact okF_nx p
  | ret d => exact okF_rt p
  | pass => exact okF_nx p
  | raise c =>
    show okF (.ok (.exc c ρ)) n
    unfold okF
    exact p
  | retC f es =>
    have p : okEs cf gl es ρ (fun c => n.xc c ρ) fun l => okR (cf f l) (fun c => n.xc c ρ) n.rt := p
    unfold okEs at p
    show okF (withE (evEs cf gl es ρ >>= fun l => cf f l) ρ fun d => .ok (.ret d)) n
    exact okF_withE (okR_bind (okR_mono p (fun l h => okR_mono h (fun d h => okF_rt h) fun _ h => h) fun _ h => h))
  | one x v f l =>
    cases v with
    | none =>
      obtain ⟨h1, h2⟩ := (show l.contains y = true ∧ n.rt (.bl true) from p)
      show okF (if l.contains y then .ok (.ret (.bl true)) else .fail) n
      rw [if_pos h1]
      exact okF_rt h2
    | some i =>
      refine okF_o (okO_mono (show okO (getSh ρ i) _ from p) fun d p => okF_o (okO_mono (okK_tr p) fun k p => ?_))
      cases k with
      | false => exact okF_rt p
      | true =>
        obtain ⟨h1, h2⟩ := (show l.contains y = true ∧ n.rt (.bl true) from p)
        show okF (if l.contains y then .ok (.ret (.bl true)) else .fail) n
        rw [if_pos h1]
        exact okF_rt h2
def stPick (y : Nat) (ρ : Env) (n : En) : List (Nat × List Nat × List Nat × D) → Prop
  | [] => n.xc y ρ
  | (_, yes, no, d) :: hs => (yes.contains y = true ∧ n.rt d) ∨ (yes.contains y = false ∧ no.contains y = true ∧ stPick y ρ n hs)
theorem okF_pick {y : Nat} : ∀ {hs : List (Nat × List Nat × List Nat × D)}, stPick y ρ n hs → okF (pickH hs y ρ) n
  | [], p => by
    unfold okF
    exact p
  | (c, yes, no, d) :: hs, p => by
    show okF (if yes.contains y then .ok (.ret d) else if no.contains y then pickH hs y ρ else .fail) n
    rcases p with ⟨h1, h2⟩ | ⟨h1, h2, h3⟩
    · rw [if_pos h1]
      exact okF_rt h2
    · rw [if_neg (by rw [h1]; decide), if_pos h2]
      exact okF_pick h3
/-- what becomes of a call's answer -/
def stK (ρ : Env) (n : En) (ps : List D) (r : D) : Km → Prop
  | .drop => n.nx ρ
  | .asg x => n.nx (setV ρ x r)
  | .asgT x _ => n.nx (setV ρ x (.tup (ps ++ [r])))
  | .ret l => okO (handO l r ρ) n.rt
  | .retT l _ => okO (handO l (.tup (ps ++ [r])) ρ) n.rt
  | .app i => okO (getOwn ρ i) fun xs => okO (appL xs r) fun ys => n.nx (setOwn ρ i ys)
  | .ext i => okO (getOwn ρ i) fun xs => okO (seqOf r) fun ys => okO (extL xs ys) fun zs => n.nx (setOwn ρ i zs)
theorem okF_K {k : Km} {ps : List D} {r : D} (h : stK ρ n ps r k) : okF (konK k ps r ρ) n := by
  cases k with
  | drop => exact okF_nx h
  | asg x => exact okF_nx h
  | asgT x p => exact okF_nx h
  | ret l => exact okF_o (okO_mono h fun _ h => okF_rt h)
  | retT l p => exact okF_o (okO_mono h fun _ h => okF_rt h)
  | app i => exact okF_o (okO_mono h fun _ h => okF_o (okO_mono h fun _ h => okF_nx h))
  | ext i => exact okF_o (okO_mono h fun _ h => okF_o (okO_mono h fun _ h => okF_o (okO_mono h fun _ h => okF_nx h)))
def stS (cf : Nat → List D → Res D) (gl : Nat → Option D) (ρ : Env) (n : En) : S → Prop
  | .pass => n.nx ρ
  | .expr e => okE cf gl e ρ (fun c => n.xc c ρ) fun _ => n.nx ρ
  | .assign i e => okE cf gl e ρ (fun c => n.xc c ρ) fun d => n.nx (setV ρ i d)
  | .assignF i e => okE cf gl e ρ (fun c => n.xc c ρ) fun d => okO (listOf d) fun xs => n.nx (setOwn ρ i xs)
  | .append i e => okO (getOwn ρ i) fun xs => okE cf gl e ρ (fun c => n.xc c ρ) fun d => okO (appL xs d) fun ys => n.nx (setOwn ρ i ys)
  | .extend i e => okO (getOwn ρ i) fun xs => okE cf gl e ρ (fun c => n.xc c ρ) fun d => okO (seqOf d) fun ys => okO (extL xs ys) fun zs => n.nx (setOwn ρ i zs)
  | .ins i k e => okO (getOwn ρ i) fun xs => okE cf gl k ρ (fun c => n.xc c ρ) fun j => okE cf gl e ρ (fun c => n.xc c ρ) fun d => okO (insL xs j d) fun ys => n.nx (setOwn ρ i ys)
  | .setIx i k e => okO (getOwn ρ i) fun xs => okE cf gl e ρ (fun c => n.xc c ρ) fun d => okE cf gl k ρ (fun c => n.xc c ρ) fun j => okO (setL xs j d) fun ys => n.nx (setOwn ρ i ys)
  | .ife c a b => okE cf gl c ρ (fun c => n.xc c ρ) fun x => okT x (okB cf gl a ρ n) (okB cf gl b ρ n)
  | .for_ x it b => okIt cf gl it ρ (fun c => n.xc c ρ) fun l => okFor cf gl x b l ρ n
  | .whil c b => okWh cf gl c b turns ρ n
  | .ret e => okE cf gl e ρ (fun c => n.xc c ρ) n.rt
  | .retF e => okE cf gl e ρ (fun c => n.xc c ρ) n.rt
  | .retOwn i => okO (getOwn ρ i) fun xs => n.rt (.lst xs)
  | .retN => n.rt .non
  | .brk => n.bk ρ
  | .cont => n.ct ρ
  | .raise c => n.xc c ρ
  | .unpack is e => okE cf gl e ρ (fun c => n.xc c ρ) fun d => okO (tupN is.length d) fun ds => n.nx (setVs is ds ρ)
  | .pop x i => okO (getOwn ρ i) fun xs => okO (popL xs) fun p => n.nx (setV (setOwn ρ i p.1) x p.2)
  | .popU is i => okO (getOwn ρ i) fun xs => okO (popL xs) fun p => okO (tupN is.length p.2) fun ds => n.nx (setVs is ds (setOwn ρ i p.1))
  | .retP i es => okO (getOwn ρ i) fun xs => okEs cf gl es ρ (fun c => n.xc c ρ) fun ds => n.rt (.lst (.lst xs :: ds))
  | .try_ b yes no _ h => okB cf gl b ρ (n.wx fun x ρ' => (yes.contains x = true ∧ stH cf gl x ρ' n h) ∨ (yes.contains x = false ∧ no.contains x = true ∧ n.xc x ρ'))
  | .tryM b hs => okB cf gl b ρ (n.wx fun x ρ' => stPick x ρ' n hs)
  | .retM l e => okE cf gl e ρ (fun c => n.xc c ρ) fun d => okO (handM l d ρ) n.rt
  | .retMN l => okO (handM l .non ρ) n.rt
  | .bad => False
  | .dlit i ks es => okEs cf gl es ρ (fun c => n.xc c ρ) fun ds => n.nx (setDic ρ i (dLit ks ds))
  | .dnew i => n.nx (setDic ρ i [])
  | .nnew i => n.nx (setNk ρ i [])
  | .nput i k => okO (getNk ρ i) fun ks => okE cf gl k ρ (fun c => n.xc c ρ) fun y => okO (nkAdd ks y) fun fs => n.nx (setNk ρ i fs)
  | .dcp i j => okO (getDD ρ j) fun es => n.nx (setDic ρ i es)
  | .dput i k e => okO (getDic ρ i) fun es => okE cf gl e ρ (fun c => n.xc c ρ) fun d => okE cf gl k ρ (fun c => n.xc c ρ) fun y => okO (dSet es y d) fun fs => n.nx (setDic ρ i fs)
  | .callM k f es ms => okO (konP k ρ) fun _ => okEs cf gl k.pre ρ (fun c => n.xc c ρ) fun ps => okO (ownsAt ms ρ) fun _ => okEs cf gl es ρ (fun c => n.xc c ρ) fun l => okR (cf f l) (fun c => n.xc c ρ) fun d => okO (mutRes ms.length d) fun p => stK (setOwns ms p.2 ρ) n ps p.1 k
def stB (cf : Nat → List D → Res D) (gl : Nat → Option D) (ρ : Env) (n : En) : B → Prop
  | .nil => n.nx ρ
  | .cons s b => okS cf gl s ρ (n.wn fun ρ' => okB cf gl b ρ' n)
  | .freeze i b => okO (getOwn ρ i) fun xs => okB cf gl b (setV ρ i (.lst xs)) n
  | .frzD i b => okO (getDic ρ i) fun es => okB cf gl b (ρ.set i (some (.dsh, .lst es))) n
  | .pair i j f es b => okEs cf gl es ρ (fun c => n.xc c ρ) fun l => okR (cf f l) (fun c => n.xc c ρ) fun d => okO (if i < ρ.length then pairOf d else none) fun p => okB cf gl b (setPrt (setOwn ρ j p.1) i p.2) n
theorem okF_mono {r : Res Flow} {n m : En} (h : okF r n) (h1 : ∀ ρ, n.nx ρ → m.nx ρ) (h2 : ∀ d, n.rt d → m.rt d) (h3 : ∀ ρ, n.bk ρ → m.bk ρ) (h4 : ∀ ρ, n.ct ρ → m.ct ρ) (h5 : ∀ c ρ, n.xc c ρ → m.xc c ρ) : okF r m := by
  unfold okF at h ⊢
  split at h
  · exact h1 _ h
  · exact h2 _ h
  · exact h3 _ h
  · exact h4 _ h
  · exact h5 _ _ h
  · exact h
  · exact h
theorem stepS {s : S} (h : stS cf gl ρ n s) : okS cf gl s ρ n := by
  unfold okS
  cases s with
  | pass => exact okF_nx h
  | expr e =>
    simp only [stS, okE] at h
    exact okF_withE (okR_mono h (fun x h => okF_nx h) fun _ h => h)
  | assign i e =>
    simp only [stS, okE] at h
    exact okF_withE (okR_mono h (fun x h => okF_nx h) fun _ h => h)
  | assignF i e =>
    simp only [stS, okE] at h
    exact okF_withE (okR_mono h (fun x h => okF_o (okO_mono h fun _ h => okF_nx h)) fun _ h => h)
  | append i e =>
    simp only [stS, okE] at h
    exact okF_o (okO_mono h fun _ h => okF_withE (okR_mono h (fun x h => okF_o (okO_mono h fun _ h => okF_nx h)) fun _ h => h))
  | extend i e =>
    simp only [stS, okE] at h
    exact okF_o (okO_mono h fun _ h => okF_withE (okR_mono h (fun x h => okF_o (okO_mono h fun _ h => okF_o (okO_mono h fun _ h => okF_nx h))) fun _ h => h))
  | ins i k e =>
    simp only [stS, okE] at h
    exact okF_o (okO_mono h fun _ h => okF_withE (okR_mono h (fun x h => okF_withE (okR_mono h (fun x h => okF_o (okO_mono h fun _ h => okF_nx h)) fun _ h => h)) fun _ h => h))
  | setIx i k e =>
    simp only [stS, okE] at h
    exact okF_o (okO_mono h fun _ h => okF_withE (okR_mono h (fun x h => okF_withE (okR_mono h (fun x h => okF_o (okO_mono h fun _ h => okF_nx h)) fun _ h => h)) fun _ h => h))
  | ife c a b =>
    simp only [stS, okE, okB] at h
    refine okF_withE (okR_mono h (fun x h => ?_) fun _ h => h)
    unfold okT at h
    obtain ⟨k, rfl, h1, h2⟩ := h
    cases k with
    | true => exact h1 rfl
    | false => exact h2 rfl
  | for_ x it b =>
    simp only [stS, okIt, okFor] at h
    exact okF_withE h
  | whil c b =>
    simp only [stS, okWh] at h
    exact h
  | ret e =>
    simp only [stS, okE] at h
    exact okF_withE (okR_mono h (fun x h => okF_rt h) fun _ h => h)
  | retF e =>
    simp only [stS, okE] at h
    exact okF_withE (okR_mono h (fun x h => okF_rt h) fun _ h => h)
  | retOwn i => exact okF_o (okO_mono h fun _ h => okF_rt h)
  | retN => exact okF_rt h
  | retM l e =>
    simp only [stS, okE] at h
    exact okF_withE (okR_mono h (fun x h => okF_o (okO_mono h fun _ h => okF_rt h)) fun _ h => h)
  | retMN l => exact okF_o (okO_mono h fun _ h => okF_rt h)
  | bad => exact (show False from h).elim
  | dlit i ks es =>
    have h : okEs cf gl es ρ (fun c => n.xc c ρ) fun ds => n.nx (setDic ρ i (dLit ks ds)) := h
    unfold okEs at h
    exact okF_withE (okR_mono h (fun ds h => okF_nx h) fun _ h => h)
  | dnew i => exact okF_nx h
  | nnew i => exact okF_nx h
  | nput i k =>
    simp only [stS, okE] at h
    exact okF_o (okO_mono h fun _ h => okF_withE (okR_mono h (fun x h => okF_o (okO_mono h fun _ h => okF_nx h)) fun _ h => h))
  | dcp i j => exact okF_o (okO_mono h fun _ h => okF_nx h)
  | dput i k e =>
    simp only [stS, okE] at h
    exact okF_o (okO_mono h fun _ h => okF_withE (okR_mono h (fun x h => okF_withE (okR_mono h (fun x h => okF_o (okO_mono h fun _ h => okF_nx h)) fun _ h => h)) fun _ h => h))
  | callM k f es ms =>
    simp only [stS, okEs] at h
    exact okF_o (okO_mono h fun _ h => okF_withE (okR_mono h (fun ps h => okF_o (okO_mono h fun _ h => okF_withE (okR_bind (okR_mono h (fun l h => okR_mono h (fun d h => okF_o (okO_mono h fun p h => okF_K h)) fun _ h => h) fun _ h => h)))) fun _ h => h))
  | brk => unfold okF; exact h
  | cont => unfold okF; exact h
  | raise c => unfold okF; exact h
  | unpack is e =>
    simp only [stS, okE] at h
    exact okF_withE (okR_mono h (fun x h => okF_o (okO_mono h fun _ h => okF_nx h)) fun _ h => h)
  | pop x i => exact okF_o (okO_mono h fun _ h => okF_o (okO_mono h fun _ h => okF_nx h))
  | popU is i => exact okF_o (okO_mono h fun _ h => okF_o (okO_mono h fun _ h => okF_o (okO_mono h fun _ h => okF_nx h)))
  | retP i es =>
    simp only [stS, okEs] at h
    exact okF_o (okO_mono h fun _ h => okF_withE (okR_mono h (fun x h => okF_rt h) fun _ h => h))
  | try_ b yes no c h' =>
    simp only [stS, okB] at h
    show okF (evB cf gl b ρ >>= fun fl => match fl with
      | .exc x ρ' => if yes.contains x then evH cf gl h' x ρ' else if no.contains x then .ok (.exc x ρ') else .fail
      | f => .ok f) n
    cases q : evB cf gl b ρ with
    | exc c => rw [q] at h; unfold okF at h; exact h.elim
    | fail => rw [q] at h; unfold okF at h; exact h.elim
    | ok fl =>
      rw [q] at h
      cases fl with
      | exc x ρ' =>
        have h : (yes.contains x = true ∧ stH cf gl x ρ' n h') ∨ (yes.contains x = false ∧ no.contains x = true ∧ n.xc x ρ') := by
          unfold okF at h
          exact h
        show okF (if yes.contains x then evH cf gl h' x ρ' else if no.contains x then .ok (.exc x ρ') else .fail) n
        rcases h with ⟨h1, h2⟩ | ⟨h1, h2, h3⟩
        · rw [if_pos h1]
          exact okF_H h2
        · rw [if_neg (by rw [h1]; decide), if_pos h2]
          unfold okF
          exact h3
      | nx _ => unfold okF at h ⊢; exact h
      | ret _ => unfold okF at h ⊢; exact h
      | brk _ => unfold okF at h ⊢; exact h
      | cont _ => unfold okF at h ⊢; exact h
  | tryM b hs =>
    simp only [stS, okB] at h
    show okF (evB cf gl b ρ >>= fun fl => match fl with
      | .exc x ρ' => pickH hs x ρ'
      | f => .ok f) n
    cases q : evB cf gl b ρ with
    | exc c => rw [q] at h; unfold okF at h; exact h.elim
    | fail => rw [q] at h; unfold okF at h; exact h.elim
    | ok fl =>
      rw [q] at h
      cases fl with
      | exc x ρ' =>
        have h : stPick x ρ' n hs := by
          unfold okF at h
          exact h
        exact okF_pick h
      | nx _ => unfold okF at h ⊢; exact h
      | ret _ => unfold okF at h ⊢; exact h
      | brk _ => unfold okF at h ⊢; exact h
      | cont _ => unfold okF at h ⊢; exact h
theorem stepB {b : B} (h : stB cf gl ρ n b) : okB cf gl b ρ n := by
  unfold okB
  cases b with
  | nil => exact okF_nx h
  | cons s b =>
    simp only [stB, okS, okB] at h
    show okF (evS cf gl s ρ >>= fun fl => match fl with
      | .nx ρ' => evB cf gl b ρ'
      | f => .ok f) n
    cases q : evS cf gl s ρ with
    | exc c => rw [q] at h; unfold okF at h; exact h.elim
    | fail => rw [q] at h; unfold okF at h; exact h.elim
    | ok fl =>
      rw [q] at h
      cases fl with
      | nx ρ' => exact okF_nx' h
      | exc _ _ => unfold okF at h ⊢; exact h
      | ret _ => unfold okF at h ⊢; exact h
      | brk _ => unfold okF at h ⊢; exact h
      | cont _ => unfold okF at h ⊢; exact h
  | freeze i b =>
    simp only [stB, okB] at h
    exact okF_o h
  | frzD i b =>
    simp only [stB, okB] at h
    exact okF_o h
  | pair i j f es b =>
    simp only [stB, okEs, okB] at h
    exact okF_withE (okR_bind (okR_mono h (fun l h => okR_mono h (fun d h => okF_o h) fun _ h => h) fun _ h => h))
/-! ### loops -/
theorem okFor_nil {x : Nat} {b : B} (h : n.nx ρ) : okFor cf gl x b [] ρ n := by unfold okFor; exact okF_nx h
theorem okFor_cons {x : Nat} {b : B} {d : D} {ds : List D} (h : okB cf gl b (setV ρ x d) (n.wl (fun ρ' => okFor cf gl x b ds ρ' n) n.nx)) : okFor cf gl x b (d :: ds) ρ n := by
  unfold okFor
  unfold okB at h
  show okF (evB cf gl b (setV ρ x d) >>= fun fl => match fl with
    | .nx ρ' => forL x (fun ρ => evB cf gl b ρ) ds ρ'
    | .cont ρ' => forL x (fun ρ => evB cf gl b ρ) ds ρ'
    | .brk ρ' => .ok (.nx ρ')
    | .ret d => .ok (.ret d)
    | .exc c ρ' => .ok (.exc c ρ')) n
  cases q : evB cf gl b (setV ρ x d) with
  | exc c => rw [q] at h; unfold okF at h; exact h.elim
  | fail => rw [q] at h; unfold okF at h; exact h.elim
  | ok fl =>
    rw [q] at h
    cases fl with
    | nx ρ' =>
      have h := okF_nx' h
      unfold okFor at h
      exact h
    | cont ρ' =>
      have h := okF_ct' h
      unfold okFor at h
      exact h
    | exc _ _ => unfold okF at h ⊢; exact h
    | ret _ => unfold okF at h ⊢; exact h
    | brk _ => unfold okF at h ⊢; exact h
theorem okB_mono {b : B} {n m : En} (h : okB cf gl b ρ n) (h1 : ∀ ρ, n.nx ρ → m.nx ρ) (h2 : ∀ d, n.rt d → m.rt d) (h3 : ∀ ρ, n.bk ρ → m.bk ρ) (h4 : ∀ ρ, n.ct ρ → m.ct ρ) (h5 : ∀ c ρ, n.xc c ρ → m.xc c ρ) : okB cf gl b ρ m := by
  unfold okB at h ⊢
  exact okF_mono h h1 h2 h3 h4 h5
/-- a loop over items: I of the items that are left -/
theorem okFor_ind {x : Nat} {b : B} (I : List D → Env → Prop) (hs : ∀ d ds ρ, I (d :: ds) ρ → okB cf gl b (setV ρ x d) (n.wl (I ds) n.nx)) (he : ∀ ρ, I [] ρ → n.nx ρ) : ∀ {l : List D} {ρ : Env}, I l ρ → okFor cf gl x b l ρ n
  | [], ρ, h => okFor_nil (he ρ h)
  | d :: ds, ρ, h => okFor_cons (okB_mono (hs d ds ρ h) (fun _ h => okFor_ind I hs he h) (fun _ h => h) (fun _ h => h) (fun _ h => okFor_ind I hs he h) fun _ _ h => h)
/-- .. of how many are done -/
theorem okFor_at {x : Nat} {b : B} {l : List D} (I : Nat → Env → Prop) (h0 : I 0 ρ) (hs : ∀ k d ρ, l[k]? = some d → I k ρ → okB cf gl b (setV ρ x d) (n.wl (I (k + 1)) n.nx)) (he : ∀ ρ, I l.length ρ → n.nx ρ) : okFor cf gl x b l ρ n := by
  refine okFor_ind (I := fun ds ρ => ∃ k, k ≤ l.length ∧ ds = l.drop k ∧ I k ρ) (fun d ds ρ ⟨k, hk, e, i⟩ => ?_) (fun ρ ⟨k, hk, e, i⟩ => ?_) ⟨0, Nat.zero_le _, by simp, h0⟩
  · have hlt : k < l.length := by
      by_cases q : k < l.length
      · exact q
      · rw [List.drop_eq_nil_of_le (by omega)] at e; cases e
    rw [List.drop_eq_getElem_cons hlt] at e
    cases e
    exact okB_mono (hs k _ ρ (by simp [hlt]) i) (fun _ h => ⟨k + 1, hlt, rfl, h⟩) (fun _ h => h) (fun _ h => h) (fun _ h => ⟨k + 1, hlt, rfl, h⟩) fun _ _ h => h
  · have : k = l.length := by
      have := congrArg List.length e
      simp at this
      omega
    subst this
    exact he ρ i
/-- a while: I of a number that falls -/
theorem okWh_ind {c : E} {b : B} (I : Nat → Env → Prop) (hs : ∀ m ρ, I m ρ → okE cf gl c ρ (fun c => n.xc c ρ) fun t => okT t (okB cf gl b ρ (n.wl (fun ρ' => ∃ m', m' < m ∧ I m' ρ') n.nx)) (n.nx ρ)) :
    ∀ (k m : Nat) (ρ : Env), m < k → I m ρ → okWh cf gl c b k ρ n
  | 0, m, ρ, hk, h => absurd hk (Nat.not_lt_zero _)
  | k + 1, m, ρ, hk, h => by
    have h := hs m ρ h
    unfold okE okR at h
    unfold okWh
    show okF (match evE cf gl c ρ with
    | .exc c => .ok (.exc c ρ)
    | .fail => .fail
    | .ok t => (ofO (truth t)) >>= fun q => if q then (evB cf gl b ρ) >>= fun fl => match fl with
      | .nx ρ' => whileL (fun ρ => evE cf gl c ρ) (fun ρ => evB cf gl b ρ) k ρ'
      | .cont ρ' => whileL (fun ρ => evE cf gl c ρ) (fun ρ => evB cf gl b ρ) k ρ'
      | .brk ρ' => .ok (.nx ρ')
      | .ret d => .ok (.ret d)
      | .exc c ρ' => .ok (.exc c ρ')
    else .ok (.nx ρ)) n
    cases q : evE cf gl c ρ with
    | exc c => rw [q] at h; unfold okF; exact h
    | fail => rw [q] at h; exact h.elim
    | ok t =>
      rw [q] at h
      simp only at h ⊢
      unfold okT at h
      obtain ⟨z, rfl, h1, h2⟩ := h
      cases z with
      | false => exact okF_nx (h2 rfl)
      | true =>
        have h := h1 rfl
        unfold okB at h
        show okF ((evB cf gl b ρ) >>= fun fl => match fl with
          | .nx ρ' => whileL (fun ρ => evE cf gl c ρ) (fun ρ => evB cf gl b ρ) k ρ'
          | .cont ρ' => whileL (fun ρ => evE cf gl c ρ) (fun ρ => evB cf gl b ρ) k ρ'
          | .brk ρ' => .ok (.nx ρ')
          | .ret d => .ok (.ret d)
          | .exc c ρ' => .ok (.exc c ρ')) n
        cases q2 : evB cf gl b ρ with
        | exc c => rw [q2] at h; unfold okF at h; exact h.elim
        | fail => rw [q2] at h; unfold okF at h; exact h.elim
        | ok fl =>
          rw [q2] at h
          cases fl with
          | nx ρ' =>
            obtain ⟨m', hm, h⟩ := okF_nx' h
            have := okWh_ind I hs k m' ρ' (by omega) h
            unfold okWh at this
            exact this
          | cont ρ' =>
            obtain ⟨m', hm, h⟩ := okF_ct' h
            have := okWh_ind I hs k m' ρ' (by omega) h
            unfold okWh at this
            exact this
          | exc _ _ => unfold okF at h ⊢; exact h
          | ret _ => unfold okF at h ⊢; exact h
          | brk _ => unfold okF at h ⊢; exact h
/-! ### comprehensions -/
theorem okComp_nil {x : Nat} {c e : E} {X : Nat → Prop} (h : Q []) : okComp cf gl x c e [] ρ X Q := by unfold okComp; exact okR_of rfl h
theorem okComp_cons {x : Nat} {c e : E} {d : D} {ds : List D} {X : Nat → Prop} (h : okE cf gl c (setV ρ x d) (fun _ => False) fun t => okT t (okE cf gl e (setV ρ x d) X fun y => okComp cf gl x c e ds ρ X fun r => Q (y :: r)) (okComp cf gl x c e ds ρ X Q)) : okComp cf gl x c e (d :: ds) ρ X Q := by
  unfold okE at h
  obtain ⟨t, e1, h⟩ := okR_ex h
  unfold okT at h
  obtain ⟨k, rfl, h1, h2⟩ := h
  unfold okComp
  have e0 : compL (fun d => noExc (evE cf gl c (setV ρ x d))) (fun d => evE cf gl e (setV ρ x d)) (d :: ds) = if k then (evE cf gl e (setV ρ x d)) >>= fun y => (compL (fun d => noExc (evE cf gl c (setV ρ x d))) (fun d => evE cf gl e (setV ρ x d)) ds) >>= fun ys => .ok (y :: ys) else compL (fun d => noExc (evE cf gl c (setV ρ x d))) (fun d => evE cf gl e (setV ρ x d)) ds := by
    show (noExc (evE cf gl c (setV ρ x d)) >>= fun c' => (ofO (truth c')) >>= fun b => if b then (evE cf gl e (setV ρ x d)) >>= fun y => (compL (fun d => noExc (evE cf gl c (setV ρ x d))) (fun d => evE cf gl e (setV ρ x d)) ds) >>= fun ys => .ok (y :: ys) else compL (fun d => noExc (evE cf gl c (setV ρ x d))) (fun d => evE cf gl e (setV ρ x d)) ds) = _
    rw [e1]
    rfl
  rw [e0]
  cases k with
  | true =>
    have h := h1 rfl
    unfold okE at h
    refine okR_bind (okR_mono h (fun y h => ?_) fun _ h => h)
    unfold okComp at h
    exact okR_bind (okR_mono h (fun r h => okR_of rfl h) fun _ h => h)
  | false =>
    have h := h2 rfl
    unfold okComp at h
    exact h
/-- with no if: each item's answer, by P -/
theorem okComp_each {x : Nat} {X : Nat → Prop} {e : E} {α β : Type} (dec : α → D) (enc : β → D) (p : α → β → Prop) {Q : List D → Prop} : ∀ {l : List α}, (∀ a ∈ l, okE cf gl e (setV ρ x (dec a)) (fun _ => False) fun y => ∃ b, y = enc b ∧ p a b) →
    (∀ r : List β, r.length = l.length → (∀ (i : Nat) (a : α) (b : β), l[i]? = some a → r[i]? = some b → p a b) → Q (r.map enc)) → okComp cf gl x (.lit (.bl true)) e (l.map dec) ρ X Q
  | [], _, q => okComp_nil (by simpa using q [] rfl (fun i a b h => by simp at h))
  | a :: l, h, q => by
    refine okComp_cons (stepE (okT_bl (fun _ => okE_mono (h a (List.mem_cons_self ..)) (fun y ⟨b, e, pb⟩ => ?_) fun _ h => h.elim) fun h => by cases h))
    subst e
    refine okComp_each dec enc p (Q := fun r => Q (enc b :: r)) (fun a' ha => h a' (List.mem_cons_of_mem _ ha)) fun r hr hp => ?_
    refine q (b :: r) (by simp [hr]) fun i a' b' h1 h2 => ?_
    cases i with
    | zero =>
      simp at h1 h2
      subst h1; subst h2; exact pb
    | succ i => exact hp i a' b' (by simpa using h1) (by simpa using h2)
/-- with an if -/
theorem okComp_filter {x : Nat} {X : Nat → Prop} {c e : E} {α : Type} (dec : α → D) (t : α → Bool) (f : α → D) {Q : List D → Prop} {l : List α} (h : ∀ a ∈ l, okE cf gl c (setV ρ x (dec a)) (fun _ => False) fun y => y = .bl (t a))
    (h2 : ∀ a ∈ l, t a = true → okE cf gl e (setV ρ x (dec a)) (fun _ => False) fun y => y = f a) (q : Q ((l.filter t).map f)) : okComp cf gl x c e (l.map dec) ρ X Q := by
  induction l generalizing Q with
  | nil => exact okComp_nil q
  | cons a l ih =>
    refine okComp_cons (okE_mono (h a (List.mem_cons_self ..)) (fun y e => ?_) fun _ h => h)
    subst e
    refine okT_bl (fun k => okE_mono (h2 a (List.mem_cons_self ..) k) (fun y e => ?_) fun _ h => h.elim) fun k => ?_
    · subst e
      refine ih (fun a' ha => h a' (List.mem_cons_of_mem _ ha)) (fun a' ha => h2 a' (List.mem_cons_of_mem _ ha)) ?_
      rw [List.filter_cons_of_pos k] at q
      exact q
    · refine ih (fun a' ha => h a' (List.mem_cons_of_mem _ ha)) (fun a' ha => h2 a' (List.mem_cons_of_mem _ ha)) ?_
      rw [List.filter_cons_of_neg (by simp [k])] at q
      exact q
end
/-! ### calls -/
section
variable {T : Nat → Option FD} {gl : Nat → Option D} {X : Nat → Prop} {P : D → Prop}
theorem okR_call {n k i : Nat} {fd : FD} [Fn T i fd] {ds : List D} (hn : k + 1 ≤ n) (hl : ds.length = fd.ps.length) (h : ∀ m, k ≤ m → okB (callF T gl m) gl fd.body (fd.start ds) (.fn P X)) (hc : fd.own.still = true := by rfl) : okR (callF T gl n i ds) X P := by
  obtain ⟨m, rfl⟩ : ∃ m, n = m + 1 := ⟨n - 1, by omega⟩
  have h := h m (by omega)
  rw [call_eq]
  unfold FD.run
  rw [if_pos hl]
  unfold okB at h
  cases q : evB (callF T gl m) gl fd.body (fd.start ds) with
  | exc c => rw [q] at h; unfold okF at h; exact h.elim
  | fail => rw [q] at h; unfold okF at h; exact h.elim
  | ok fl =>
    rw [q] at h
    unfold okF at h
    unfold okR
    cases z : fd.own with
    | chg l => rw [z] at hc; cases hc
    | no => cases fl <;> first | exact h | exact h.elim
    | own => cases fl <;> first | exact h | exact h.elim
    | prt => cases fl <;> first | exact h | exact h.elim
theorem eq_of_okR {r : Res D} {d : D} (h : okR r (fun _ => False) fun y => y = d) : r = .ok d := by
  obtain ⟨a, e, rfl⟩ := okR_ex h
  exact e
end
/-! ### operations -/
section
variable {P : D → Prop} {PB : Bool → Prop} {i j : Int} {s t : List Nat} {xs ys : List D}
theorem o_mod (h : 0 < j) (p : P (.int (i % j))) : okO (opB .mod (.int i) (.int j)) P := okO_of (if_pos h) p
theorem o_fdiv (h : 0 < j) (h2 : j < 1073741824) (p : P (.int (i / j))) : okO (opB .fdiv (.int i) (.int j)) P := okO_of (if_pos ⟨h, h2⟩) p
theorem o_mul (h : i.natAbs < 2 ^ 64 ∨ j.natAbs < 2 ^ 64) (p : P (.int (i * j))) : okO (opB .mul (.int i) (.int j)) P := okO_of (if_pos h) p
theorem o_addi (p : P (.int (i + j))) : okO (opB .add (.int i) (.int j)) P := okO_of rfl p
theorem o_subi (p : P (.int (i - j))) : okO (opB .sub (.int i) (.int j)) P := okO_of rfl p
theorem o_adds (h : s.length + t.length ≤ line) (p : P (.str (s ++ t))) : okO (opB .add (.str s) (.str t)) P := okO_of (if_pos h) p
theorem o_addl (h : xs.length + ys.length ≤ line) (p : P (.lst (xs ++ ys))) : okO (opB .add (.lst xs) (.lst ys)) P := okO_of (if_pos h) p
theorem o_isS (p : P (.bl true)) : okO (opF .isStr [.str s]) P := okO_of rfl p
theorem o_isT (p : P (.bl true)) : okO (opF .isTuple [.tup xs]) P := okO_of rfl p
theorem o_modL (h : 0 < j) (p : ∀ q : Int, q = i % j → 0 ≤ q → q < j → P (.int q)) : okO (opB .mod (.int i) (.int j)) P := o_mod h (p _ rfl (Int.emod_nonneg _ (by omega)) (Int.emod_lt_of_pos _ h))
theorem o_app {d : D} {Q : List D → Prop} (h : xs.length < line) (p : Q (xs ++ [d])) : okO (appL xs d) Q := okO_of (if_pos h) p
theorem o_rng1 {Q : List D → Prop} (h1 : -(line : Int) ≤ j) (h2 : j ≤ line) (p : Q (rng 0 j.toNat)) : okO (rng1 (.int j)) Q := okO_of (if_pos ⟨h1, h2⟩) p
theorem o_eqs (p : PB (s == t)) : okO (opC .eq (.str s) (.str t)) PB := okO_of rfl p
theorem o_nes (p : PB (!(s == t))) : okO (opC .ne (.str s) (.str t)) PB := okO_of rfl p
theorem o_eqi (p : PB (decide (i = j))) : okO (opC .eq (.int i) (.int j)) PB := okO_of rfl p
theorem o_nei (p : PB (decide (i ≠ j))) : okO (opC .ne (.int i) (.int j)) PB := okO_of (show some (!(i == j)) = _ by
  by_cases h : i = j <;> simp [h]) p
theorem o_inls (p : PB (isIn (.str s) xs)) : okO (opC .isin (.str s) (.lst xs)) PB := okO_of rfl p
theorem o_ints (p : PB (isIn (.str s) xs)) : okO (opC .isin (.str s) (.tup xs)) PB := okO_of rfl p
theorem o_ninls (p : PB (!isIn (.str s) xs)) : okO (opC .notin (.str s) (.lst xs)) PB := okO_of rfl p
theorem o_nints (p : PB (!isIn (.str s) xs)) : okO (opC .notin (.str s) (.tup xs)) PB := okO_of rfl p
theorem isIn_cons (x y : D) (ys : List D) : isIn x (y :: ys) = (D.eqv y x || isIn x ys) := rfl
theorem eqv_str (s t : List Nat) : D.eqv (.str s) (.str t) = (s == t) := by simp [D.eqv]
mutual
theorem eqv_comm : ∀ a b : D, D.eqv a b = D.eqv b a
  | .non, b => by cases b <;> simp [D.eqv]
  | .bl x, b => by cases b <;> simp [D.eqv, Bool.beq_comm, eq_comm, BEq.comm]
  | .int x, b => by cases b <;> simp [D.eqv, BEq.comm]
  | .str x, b => by cases b <;> simp [D.eqv, BEq.comm]
  | .tup xs, b => by cases b <;> simp [D.eqv, eqvL_comm xs]
  | .lst xs, b => by cases b <;> simp [D.eqv, eqvL_comm xs]
theorem eqvL_comm : ∀ xs ys : List D, D.eqvL xs ys = D.eqvL ys xs
  | [], [] => rfl
  | [], _ :: _ => by simp [D.eqvL]
  | _ :: _, [] => by simp [D.eqvL]
  | x :: xs, y :: ys => by simp [D.eqvL, eqv_comm x y, eqvL_comm xs ys]
end
theorem isIn_cons' (x y : D) (ys : List D) : isIn x (y :: ys) = (D.eqv x y || isIn x ys) := by rw [isIn_cons, eqv_comm]
mutual
theorem eqv_refl : ∀ d : D, D.eqv d d = true
  | .non => by simp [D.eqv]
  | .bl b => by simp [D.eqv]
  | .int i => by simp [D.eqv]
  | .str s => by simp [D.eqv]
  | .tup xs => by simp [D.eqv, eqvL_refl xs]
  | .lst xs => by simp [D.eqv, eqvL_refl xs]
theorem eqvL_refl : ∀ ds : List D, D.eqvL ds ds = true
  | [] => by simp [D.eqvL]
  | d :: ds => by simp [D.eqvL, eqv_refl d, eqvL_refl ds]
end
theorem o_ins {c : Nat} (p : PB (t.contains c)) : okO (opC .isin (.str [c]) (.str t)) PB := okO_of rfl p
theorem o_nins {c : Nat} (p : PB (!t.contains c)) : okO (opC .notin (.str [c]) (.str t)) PB := okO_of rfl p
theorem ixN_nat {n k : Nat} (h : k < n) : ixN n (k : Int) = some k := by
  unfold ixN L2.ixN
  simp
  omega
theorem o_ixl {k : Nat} {d : D} (h : xs[k]? = some d) (p : P d) : okO (opIx (.lst xs) (.int (k : Int))) P := okO_of (by
  unfold opIx
  simp only
  rw [ixN_nat (List.getElem?_eq_some_iff.mp h).1]
  exact h) p
theorem o_ixs {k : Nat} {c : Nat} (h : s[k]? = some c) (p : P (.str [c])) : okO (opIx (.str s) (.int (k : Int))) P := okO_of (by
  unfold opIx
  simp only
  rw [ixN_nat (List.getElem?_eq_some_iff.mp h).1]
  simp [h]) p
theorem ixN_int {n : Nat} (h0 : 0 ≤ i) (h1 : i < n) : ixN n i = some i.toNat := by
  have e : i = ((i.toNat : Nat) : Int) := by omega
  rw [e]
  exact ixN_nat (by omega)
/-- an item of a list of encoded things -/
theorem o_ixl' (h0 : 0 ≤ i) (h1 : i < xs.length) (p : ∀ d, xs[i.toNat]? = some d → P d) : okO (opIx (.lst xs) (.int i)) P := by
  have hl : i.toNat < xs.length := by omega
  refine okO_of (a := xs[i.toNat]) ?_ (p _ (by simp [hl]))
  show ((ixN xs.length i).bind fun j => xs[j]?) = _
  rw [ixN_int h0 h1]
  simp [hl]
theorem o_sls {l h : Option Int} (p : ∀ t, t = cut s l h → t.length ≤ s.length → P (.str t)) : okO (opSl (.str s) l h) P := okO_of rfl (p _ rfl (cut_length ..))
theorem o_sll {l h : Option Int} (p : ∀ t, t = cut xs l h → t.length ≤ xs.length → P (.lst t)) : okO (opSl (.lst xs) l h) P := okO_of rfl (p _ rfl (cut_length ..))
theorem o_ixi {s : List Int} (h0 : 0 ≤ i) (h1 : i < s.length) (p : P (.int (s.getD i.toNat 0))) : okO (opIx (.lst (s.map .int)) (.int i)) P :=
  o_ixl' h0 (by simpa using h1) fun d hd => by
    simp only [List.getElem?_map, Option.map_eq_some_iff] at hd
    obtain ⟨a, h2, rfl⟩ := hd
    have : s.getD i.toNat 0 = a := by simp [h2]
    rw [this] at p
    exact p
/-- a text of so many signs at most -/
def strLe (n : Nat) : D → Bool
  | .str s => Nat.ble s.length n
  | _ => false
theorem o_ixs' (h0 : 0 ≤ i) (h1 : i < s.length) (p : ∀ c, s[i.toNat]? = some c → P (.str [c])) : okO (opIx (.str s) (.int i)) P := by
  have hl : i.toNat < s.length := by omega
  refine okO_of (a := .str [s[i.toNat]]) ?_ (p _ (by simp [hl]))
  show (((ixN s.length i).bind fun j => s[j]?).map fun c => D.str [c]) = _
  rw [ixN_int h0 h1]
  simp [hl]
theorem o_eq {a b : D} (h : min a.depth b.depth ≤ eqDeep) (p : PB (D.eqv a b)) : okO (opC .eq a b) PB := okO_of (if_pos h) p
theorem line_val : line = 16777216 := by decide
theorem o_join {sep : List Nat} {l : List (List Nat)} (h : (l.map List.length).sum + l.length * sep.length ≤ line) (p : P (.str (joined sep l))) : okO (opM .join (.str sep) [.lst (l.map .str)]) P := by
  have e : ∀ l : List (List Nat), dTexts (l.map .str) = some l := fun l => by
    induction l with
    | nil => rfl
    | cons a l ih => simp only [List.map_cons, dTexts, ih, Option.map_some]
  exact okO_of (by unfold opM; simp only [e, Option.bind_some]; rw [if_pos h]) p
theorem o_joint {sep : List Nat} {l : List (List Nat)} (h : (l.map List.length).sum + l.length * sep.length ≤ line) (p : P (.str (joined sep l))) : okO (opM .join (.str sep) [.tup (l.map .str)]) P := by
  have e : ∀ l : List (List Nat), dTexts (l.map .str) = some l := fun l => by
    induction l with
    | nil => rfl
    | cons a l ih => simp only [List.map_cons, dTexts, ih, Option.map_some]
  exact okO_of (by unfold opM; simp only [e, Option.bind_some]; rw [if_pos h]) p
end
end Ev

namespace Ev
def c_built : FD := ⟨[.s, .s], 3,
  (.cons (.ife (.or (.not (.chain .le .le (.lit (.int 1)) (.bf .len (.cons (.var 0) .nil)) (.glob 4))) (.cmp .notin (.ix (.var 0) (.lit (.int 0))) (.var
    1))) (.cons (.ret (.lit (.bl false))) .nil) .nil) (.cons (.for_ 2 (.txt (.sl (.var 0) (.lit (.int 1)) (.lit .non))) (.cons (.ife (.and (.cmp
    .notin (.var 2) (.glob 0)) (.cmp .notin (.var 2) (.glob 2))) (.cons (.ret (.lit (.bl false))) .nil) .nil) .nil)) (.cons (.ret (.lit (.bl true)))
    .nil))),
  .no⟩
def c_is_name : FD := ⟨[.s], 1,
  (.cons (.ret (.and (.call 5 (.cons (.var 0) (.cons (.glob 0) .nil))) (.cmp .notin (.var 0) (.glob 3)))) .nil),
  .no⟩
def c_is_letter : FD := ⟨[.s], 1,
  (.cons (.ret (.call 5 (.cons (.var 0) (.cons (.glob 1) .nil)))) .nil),
  .no⟩
def c_is_word : FD := ⟨[.s], 1,
  (.cons (.ret (.call 6 (.cons (.var 0) .nil))) .nil),
  .no⟩
def c_law_cell_at : FD := ⟨[.s, .s], 2,
  (.cons (.ife (.cmp .lt (.var 1) (.bf .len (.cons (.var 0) .nil))) (.cons (.ret (.ix (.var 0) (.var 1))) .nil) .nil) (.cons (.ret (.lit (.int 0)))
    .nil)),
  .no⟩
def c_law_mixed : FD := ⟨[.s, .s], 4,
  (.cons (.assign 2 (.lit (.int 0))) (.cons (.ife (.cmp .gt (.bf .len (.cons (.var 0) .nil)) (.lit (.int 0))) (.cons (.assign 2 (.ix (.var 0) (.bin .mod
    (.var 1) (.bf .len (.cons (.var 0) .nil))))) .nil) .nil) (.cons (.assign 3 (.bin .mod (.bin .mul (.bin .add (.var 2) (.bin .mul (.lit (.int 7919))
    (.var 1))) (.lit (.int 48271))) (.lit (.int 2147483647)))) (.cons (.ret (.bin .mod (.bin .mul (.var 3) (.var 3)) (.lit (.int 2147483647))))
    .nil)))),
  .no⟩
def c_parts_of : FD := ⟨[.s], 1,
  (.cons (.ife (.cmp .eq (.ix (.var 0) (.lit (.int 0))) (.lit (.str [110, 111, 116]))) (.cons (.ret (.tup (.cons (.ix (.var 0) (.lit (.int 1))) .nil)))
    .nil) .nil) (.cons (.ife (.or (.cmp .eq (.ix (.var 0) (.lit (.int 0))) (.lit (.str [97, 108, 108]))) (.cmp .eq (.ix (.var 0) (.lit (.int 0)))
    (.lit (.str [115, 111, 109, 101])))) (.cons (.ret (.tup (.cons (.ix (.var 0) (.lit (.int 2))) .nil))) .nil) .nil) (.cons (.ife (.cmp .eq (.ix
    (.var 0) (.lit (.int 0))) (.lit (.str [105, 115]))) (.cons (.ret (.tup .nil)) .nil) .nil) (.cons (.ret (.sl (.var 0) (.lit (.int 1)) (.lit .non)))
    .nil)))),
  .no⟩
def c_deep : FD := ⟨[.s], 3,
  (.cons (.assign 1 (.lit (.int 0))) (.cons (.for_ 2 (.seq (.call 15 (.cons (.var 0) .nil))) (.cons (.assign 1 (.bf .max2 (.cons (.var 1) (.cons (.call
    16 (.cons (.var 2) .nil)) .nil)))) .nil)) (.cons (.ret (.bin .add (.var 1) (.lit (.int 1)))) .nil))),
  .no⟩
def c_law_whole : FD := ⟨[.s], 1,
  (.cons (.ret (.and (.bf .isInt (.cons (.var 0) .nil)) (.not (.bf .isBool (.cons (.var 0) .nil))))) .nil),
  .no⟩
def c_law_sign_by : FD := ⟨[.s, .s], 2,
  (.cons (.ret (.ix (.var 1) (.bin .mod (.var 0) (.bf .len (.cons (.var 1) .nil))))) .nil),
  .no⟩
def c_law_name_by : FD := ⟨[.s, .s, .s], 10,
  (.cons (.assign 3 (.lit (.str (97 :: 98 :: 99 :: 100 :: 101 :: 102 :: 103 :: 104 :: 105 :: 106 :: 107 :: 108 :: 109 :: 110 :: 111 :: 112 :: 113 :: 114
    :: 115 :: 116 :: 117 :: 118 :: 119 :: 120 :: 121 :: 122 :: 48 :: 49 :: 50 :: 51 :: 52 :: 53 :: 54 :: 55 :: 56 :: 57 :: [])))) (.cons (.assign 4
    (.bin .add (.lit (.int 1)) (.bin .mod (.var 0) (.lit (.int 8))))) (.cons (.assign 5 (.bin .mod (.bin .fdiv (.var 0) (.lit (.int 8))) (.var 4)))
    (.cons (.assignF 6 (.comp 9 (.rng1 (.var 4)) (.lit (.bl true)) (.call 18 (.cons (.bin .add (.bin .fdiv (.var 0) (.lit (.int 64))) (.bin .mul (.lit
    (.int 5)) (.var 9))) (.cons (.var 3) .nil))))) (.cons (.setIx 6 (.lit (.int 0)) (.call 18 (.cons (.bin .fdiv (.var 0) (.lit (.int 64))) (.cons
    (.var 1) .nil)))) (.cons (.ife (.cmp .eq (.var 5) (.lit (.int 0))) (.cons (.setIx 6 (.lit (.int 0)) (.call 18 (.cons (.bin .add (.bin .fdiv (.var
    0) (.lit (.int 64))) (.var 2)) (.cons (.var 1) .nil)))) .nil) (.cons (.setIx 6 (.var 5) (.call 18 (.cons (.bin .add (.bin .add (.bin .fdiv (.var
    0) (.lit (.int 64))) (.bin .mul (.lit (.int 5)) (.var 5))) (.var 2)) (.cons (.var 3) .nil)))) .nil)) (.cons (.assign 7 (.mt .join (.lit (.str []))
    (.cons (.bor 6) .nil))) (.cons (.assign 8 (.lst (.cons (.lit (.str [110, 111, 116])) (.cons (.lit (.str [97, 110, 100])) (.cons (.lit (.str [111,
    114])) (.cons (.lit (.str [116, 104, 101, 110])) (.cons (.lit (.str [97, 108, 108])) (.cons (.lit (.str [115, 111, 109, 101])) (.cons (.lit (.str
    [102, 97, 108, 115, 101])) .nil))))))))) (.cons (.ife (.and (.cmp .eq (.ix (.var 1) (.lit (.int 0))) (.lit (.str [97]))) (.cmp .eq (.bin .mod
    (.bin .fdiv (.var 0) (.lit (.int 512))) (.lit (.int 8))) (.lit (.int 1)))) (.cons (.ret (.sl (.bin .add (.ix (.var 8) (.bin .mod (.bin .fdiv (.var
    0) (.lit (.int 4096))) (.lit (.int 7)))) (.var 7)) (.lit .non) (.lit (.int 8)))) .nil) .nil) (.cons (.ife (.cmp .isin (.var 7) (.var 8)) (.cons
    (.ret (.bin .add (.var 7) (.lit (.str [48])))) .nil) .nil) (.cons (.ret (.var 7)) .nil))))))))))),
  .no⟩
def c_law_small_by : FD := ⟨[.s, .s], 6,
  (.cons (.ife (.cmp .eq (.bin .mod (.var 0) (.lit (.int 9))) (.lit (.int 0))) (.cons (.ret (.tup (.cons (.lit (.str [102, 97, 108, 115, 101])) .nil)))
    .nil) .nil) (.cons (.assignF 2 (.lst .nil)) (.cons (.for_ 3 (.rng1 (.bin .mod (.bin .fdiv (.var 0) (.lit (.int 9))) (.lit (.int 4)))) (.cons
    (.assign 5 (.bin .mod (.bin .fdiv (.bin .fdiv (.var 0) (.lit (.int 36))) (.ix (.lst (.cons (.lit (.int 1)) (.cons (.lit (.int 8)) (.cons (.lit
    (.int 64)) .nil)))) (.var 3))) (.lit (.int 8)))) (.cons (.ife (.cmp .eq (.bin .mod (.var 5) (.lit (.int 2))) (.lit (.int 1))) (.cons (.append 2
    (.call 19 (.cons (.var 1) (.cons (.lit (.str (65 :: 66 :: 67 :: 68 :: 69 :: 70 :: 71 :: 72 :: 73 :: 74 :: 75 :: 76 :: 77 :: 78 :: 79 :: 80 :: 81
    :: 82 :: 83 :: 84 :: 85 :: 86 :: 87 :: 88 :: 89 :: 90 :: []))) (.cons (.bin .fdiv (.var 5) (.lit (.int 2))) .nil))))) .nil) (.cons (.append 2
    (.call 19 (.cons (.bin .fdiv (.var 1) (.ix (.lst (.cons (.lit (.int 3)) (.cons (.lit (.int 7)) .nil))) (.bin .mod (.var 3) (.lit (.int 2)))))
    (.cons (.lit (.str (97 :: 98 :: 99 :: 100 :: 101 :: 102 :: 103 :: 104 :: 105 :: 106 :: 107 :: 108 :: 109 :: 110 :: 111 :: 112 :: 113 :: 114 :: 115
    :: 116 :: 117 :: 118 :: 119 :: 120 :: 121 :: 122 :: []))) (.cons (.bin .fdiv (.var 5) (.lit (.int 2))) .nil))))) .nil)) .nil))) (.cons (.assign 4
    (.call 19 (.cons (.bin .fdiv (.var 1) (.lit (.int 7))) (.cons (.lit (.str (97 :: 98 :: 99 :: 100 :: 101 :: 102 :: 103 :: 104 :: 105 :: 106 :: 107
    :: 108 :: 109 :: 110 :: 111 :: 112 :: 113 :: 114 :: 115 :: 116 :: 117 :: 118 :: 119 :: 120 :: 121 :: 122 :: []))) (.cons (.bin .mod (.bin .fdiv
    (.var 0) (.lit (.int 18432))) (.lit (.int 3))) .nil))))) (.cons (.ret (.tup (.cons (.lit (.str [105, 115])) (.cons (.var 4) (.cons (.bf .tuple
    (.cons (.bor 2) .nil)) .nil))))) .nil))))),
  .no⟩
def c_law_wrapped : FD := ⟨[.s, .s, .s, .s], 7,
  (.cons (.assign 4 (.bin .mod (.var 1) (.lit (.int 8)))) (.cons (.ife (.cmp .lt (.var 4) (.lit (.int 2))) (.cons (.ret (.tup (.cons (.lit (.str [110,
    111, 116])) (.cons (.var 0) .nil)))) .nil) .nil) (.cons (.ife (.cmp .lt (.var 4) (.lit (.int 5))) (.cons (.assign 6 (.ix (.lst (.cons (.lit (.str
    [97, 110, 100])) (.cons (.lit (.str [111, 114])) (.cons (.lit (.str [116, 104, 101, 110])) .nil)))) (.bin .sub (.var 4) (.lit (.int 2))))) (.cons
    (.ife (.cmp .eq (.bin .mod (.bin .fdiv (.var 1) (.lit (.int 8))) (.lit (.int 2))) (.lit (.int 1))) (.cons (.ret (.tup (.cons (.var 6) (.cons (.var
    2) (.cons (.var 0) .nil))))) .nil) .nil) (.cons (.ret (.tup (.cons (.var 6) (.cons (.var 0) (.cons (.var 2) .nil))))) .nil))) .nil) (.cons
    (.assign 5 (.call 19 (.cons (.var 3) (.cons (.lit (.str (65 :: 66 :: 67 :: 68 :: 69 :: 70 :: 71 :: 72 :: 73 :: 74 :: 75 :: 76 :: 77 :: 78 :: 79 ::
    80 :: 81 :: 82 :: 83 :: 84 :: 85 :: 86 :: 87 :: 88 :: 89 :: 90 :: []))) (.cons (.bin .mod (.bin .fdiv (.var 1) (.lit (.int 8))) (.lit (.int 4)))
    .nil))))) (.cons (.ret (.tup (.cons (.ix (.lst (.cons (.lit (.str [97, 108, 108])) (.cons (.lit (.str [115, 111, 109, 101])) .nil))) (.bin .mod
    (.var 4) (.lit (.int 2)))) (.cons (.var 5) (.cons (.var 0) .nil))))) .nil))))),
  .no⟩
def c_law_statement_by : FD := ⟨[.s, .s, .s], 10,
  (.cons (.assign 3 (.call 10 (.cons (.var 0) (.cons (.var 1) .nil)))) (.cons (.assign 4 (.call 20 (.cons (.call 10 (.cons (.var 0) (.cons (.bin .add
    (.var 1) (.lit (.int 1))) .nil))) (.cons (.var 3) .nil)))) (.cons (.for_ 5 (.rng1 (.var 2)) (.cons (.assign 6 (.call 10 (.cons (.var 0) (.cons
    (.bin .add (.bin .add (.var 1) (.lit (.int 2))) (.bin .mul (.lit (.int 3)) (.var 5))) .nil)))) (.cons (.assign 7 (.call 20 (.cons (.call 10 (.cons
    (.var 0) (.cons (.bin .add (.bin .add (.var 1) (.lit (.int 3))) (.bin .mul (.lit (.int 3)) (.var 5))) .nil))) (.cons (.var 3) .nil)))) (.cons
    (.for_ 8 (.rng1 (.ix (.lst (.cons (.lit (.int 0)) (.cons (.bf .int (.cons (.cmp .lt (.var 2) (.lit (.int 30))) .nil)) (.cons (.lit (.int 0))
    (.cons (.bin .mul (.lit (.int 5)) (.bf .int (.cons (.cmp .lt (.var 2) (.lit (.int 30))) .nil))) .nil))))) (.bin .mod (.bin .fdiv (.var 6) (.lit
    (.int 64))) (.lit (.int 4))))) (.cons (.assign 9 (.call 20 (.cons (.call 10 (.cons (.var 0) (.cons (.bin .add (.bin .add (.bin .add (.var 1) (.lit
    (.int 4))) (.bin .mul (.lit (.int 3)) (.var 5))) (.bin .mul (.lit (.int 7)) (.var 8))) .nil))) (.cons (.var 3) .nil)))) (.cons (.assign 7 (.call
    21 (.cons (.var 7) (.cons (.call 10 (.cons (.var 0) (.cons (.bin .add (.bin .add (.bin .add (.var 1) (.lit (.int 5))) (.bin .mul (.lit (.int 3))
    (.var 5))) (.bin .mul (.lit (.int 11)) (.var 8))) .nil))) (.cons (.var 9) (.cons (.var 3) .nil)))))) .nil))) (.cons (.assign 4 (.call 21 (.cons
    (.var 4) (.cons (.var 6) (.cons (.var 7) (.cons (.var 3) .nil)))))) .nil))))) (.cons (.ret (.var 4)) .nil)))),
  .no⟩
def c_law_many_by : FD := ⟨[.s], 1,
  (.cons (.ife (.cmp .eq (.bin .mod (.var 0) (.lit (.int 9))) (.lit (.int 8))) (.cons (.ret (.lit (.int 39))) .nil) .nil) (.cons (.ret (.bin .mod (.bin
    .mod (.var 0) (.lit (.int 9))) (.lit (.int 7)))) .nil)),
  .no⟩
def c_law_parts : FD := ⟨[.s], 1,
  (.cons (.ife (.or (.cmp .eq (.ix (.var 0) (.lit (.int 0))) (.lit (.str [105, 115]))) (.cmp .eq (.ix (.var 0) (.lit (.int 0))) (.lit (.str [102, 97,
    108, 115, 101])))) (.cons (.ret (.lst .nil)) .nil) .nil) (.cons (.ife (.cmp .eq (.ix (.var 0) (.lit (.int 0))) (.lit (.str [110, 111, 116])))
    (.cons (.ret (.lst (.cons (.ix (.var 0) (.lit (.int 1))) .nil))) .nil) .nil) (.cons (.ife (.or (.cmp .eq (.ix (.var 0) (.lit (.int 0))) (.lit
    (.str [97, 108, 108]))) (.cmp .eq (.ix (.var 0) (.lit (.int 0))) (.lit (.str [115, 111, 109, 101])))) (.cons (.ret (.lst (.cons (.ix (.var 0)
    (.lit (.int 2))) .nil))) .nil) .nil) (.cons (.ret (.lst (.cons (.ix (.var 0) (.lit (.int 1))) (.cons (.ix (.var 0) (.lit (.int 2))) .nil))))
    .nil)))),
  .no⟩
def c_law_deep : FD := ⟨[.s], 3,
  (.cons (.assign 1 (.lit (.int 0))) (.cons (.for_ 2 (.seq (.call 24 (.cons (.var 0) .nil))) (.cons (.assign 1 (.bf .max2 (.cons (.var 1) (.cons (.call
    25 (.cons (.var 2) .nil)) .nil)))) .nil)) (.cons (.ret (.bin .add (.var 1) (.lit (.int 1)))) .nil))),
  .no⟩
def c_written : FD := ⟨[.s], 1,
  (.cons (.ife (.cmp .eq (.ix (.var 0) (.lit (.int 0))) (.lit (.str [105, 115]))) (.cons (.ife (.cmp .eq (.bf .len (.cons (.ix (.var 0) (.lit (.int 2)))
    .nil)) (.lit (.int 0))) (.cons (.ret (.ix (.var 0) (.lit (.int 1)))) .nil) .nil) (.cons (.ret (.bin .add (.bin .add (.bin .add (.ix (.var 0) (.lit
    (.int 1))) (.lit (.str [40]))) (.mt .join (.lit (.str [44, 32])) (.cons (.ix (.var 0) (.lit (.int 2))) .nil))) (.lit (.str [41])))) .nil)) .nil)
    (.cons (.ife (.cmp .eq (.ix (.var 0) (.lit (.int 0))) (.lit (.str [102, 97, 108, 115, 101]))) (.cons (.ret (.lit (.str [102, 97, 108, 115, 101])))
    .nil) .nil) (.cons (.ife (.cmp .eq (.ix (.var 0) (.lit (.int 0))) (.lit (.str [110, 111, 116]))) (.cons (.ret (.bin .add (.lit (.str [110, 111,
    116, 32])) (.call 38 (.cons (.ix (.var 0) (.lit (.int 1))) .nil)))) .nil) .nil) (.cons (.ife (.or (.cmp .eq (.ix (.var 0) (.lit (.int 0))) (.lit
    (.str [97, 108, 108]))) (.cmp .eq (.ix (.var 0) (.lit (.int 0))) (.lit (.str [115, 111, 109, 101])))) (.cons (.ret (.bin .add (.bin .add (.bin
    .add (.bin .add (.ix (.var 0) (.lit (.int 0))) (.lit (.str [32]))) (.ix (.var 0) (.lit (.int 1)))) (.lit (.str [32]))) (.call 38 (.cons (.ix (.var
    0) (.lit (.int 2))) .nil)))) .nil) .nil) (.cons (.ret (.bin .add (.bin .add (.bin .add (.bin .add (.bin .add (.bin .add (.lit (.str [40])) (.call
    38 (.cons (.ix (.var 0) (.lit (.int 1))) .nil))) (.lit (.str [32]))) (.ix (.var 0) (.lit (.int 0)))) (.lit (.str [32]))) (.call 38 (.cons (.ix
    (.var 0) (.lit (.int 2))) .nil))) (.lit (.str [41])))) .nil))))),
  .no⟩
def c_law_written : FD := ⟨[.s], 1,
  (.cons (.ife (.and (.cmp .eq (.ix (.var 0) (.lit (.int 0))) (.lit (.str [105, 115]))) (.cmp .gt (.bf .len (.cons (.ix (.var 0) (.lit (.int 2))) .nil))
    (.lit (.int 0)))) (.cons (.ret (.bin .add (.bin .add (.bin .add (.ix (.var 0) (.lit (.int 1))) (.lit (.str [40]))) (.mt .join (.lit (.str [44,
    32])) (.cons (.ix (.var 0) (.lit (.int 2))) .nil))) (.lit (.str [41])))) .nil) .nil) (.cons (.ife (.cmp .eq (.ix (.var 0) (.lit (.int 0))) (.lit
    (.str [105, 115]))) (.cons (.ret (.ix (.var 0) (.lit (.int 1)))) .nil) .nil) (.cons (.ife (.cmp .eq (.ix (.var 0) (.lit (.int 0))) (.lit (.str
    [110, 111, 116]))) (.cons (.ret (.bin .add (.lit (.str [110, 111, 116, 32])) (.call 39 (.cons (.ix (.var 0) (.lit (.int 1))) .nil)))) .nil) .nil)
    (.cons (.ife (.or (.cmp .eq (.ix (.var 0) (.lit (.int 0))) (.lit (.str [97, 108, 108]))) (.cmp .eq (.ix (.var 0) (.lit (.int 0))) (.lit (.str
    [115, 111, 109, 101])))) (.cons (.ret (.bin .add (.bin .add (.bin .add (.bin .add (.ix (.var 0) (.lit (.int 0))) (.lit (.str [32]))) (.ix (.var 0)
    (.lit (.int 1)))) (.lit (.str [32]))) (.call 39 (.cons (.ix (.var 0) (.lit (.int 2))) .nil)))) .nil) .nil) (.cons (.ife (.cmp .eq (.ix (.var 0)
    (.lit (.int 0))) (.lit (.str [102, 97, 108, 115, 101]))) (.cons (.ret (.lit (.str [102, 97, 108, 115, 101]))) .nil) .nil) (.cons (.ret (.bin .add
    (.bin .add (.bin .add (.bin .add (.bin .add (.bin .add (.lit (.str [40])) (.call 39 (.cons (.ix (.var 0) (.lit (.int 1))) .nil))) (.lit (.str
    [32]))) (.ix (.var 0) (.lit (.int 0)))) (.lit (.str [32]))) (.call 39 (.cons (.ix (.var 0) (.lit (.int 2))) .nil))) (.lit (.str [41]))))
    .nil)))))),
  .no⟩
def c_law_v4 : FD := ⟨[.s], 3,
  (.cons (.assign 1 (.call 22 (.cons (.var 0) (.cons (.lit (.int 3)) (.cons (.call 23 (.cons (.call 9 (.cons (.var 0) (.cons (.lit (.int 0)) .nil)))
    .nil)) .nil))))) (.cons (.assign 2 (.call 38 (.cons (.var 1) .nil))) (.cons (.ret (.and (.bf .isStr (.cons (.var 2) .nil)) (.cmp .eq (.var 2)
    (.call 39 (.cons (.var 1) .nil))))) .nil))),
  .no⟩
def c_within_words : FD := ⟨[.s], 1,
  (.cons (.ret (.or (.cmp .isin (.var 0) (.glob 0)) (.or (.cmp .isin (.var 0) (.glob 1)) (.cmp .isin (.var 0) (.glob 2))))) .nil),
  .no⟩
def c_tokens_of : FD := ⟨[.s], 4,
  (.cons (.assignF 1 (.lst .nil)) (.cons (.assign 2 (.lit (.int 0))) (.cons (.whil (.cmp .lt (.var 2) (.bf .len (.cons (.var 0) .nil))) (.cons (.assign
    3 (.bin .add (.var 2) (.lit (.int 1)))) (.cons (.ife (.call 45 (.cons (.ix (.var 0) (.var 2)) .nil)) (.cons (.whil (.and (.cmp .lt (.var 3) (.bf
    .len (.cons (.var 0) .nil))) (.call 45 (.cons (.ix (.var 0) (.var 3)) .nil))) (.cons (.assign 3 (.bin .add (.var 3) (.lit (.int 1)))) .nil)) .nil)
    (.cons (.ife (.cmp .notin (.ix (.var 0) (.var 2)) (.lit (.str [32, 40, 41, 44]))) (.cons (.raise 43) .nil) .nil) .nil)) (.cons (.ife (.cmp .ne
    (.ix (.var 0) (.var 2)) (.lit (.str [32]))) (.cons (.append 1 (.sl (.var 0) (.var 2) (.var 3))) .nil) .nil) (.cons (.assign 2 (.var 3)) .nil)))))
    (.cons (.retOwn 1) .nil)))),
  .no⟩
def c_sure : FD := ⟨[.s], 1,
  (.cons (.ife (.not (.var 0)) (.cons (.raise 43) .nil) .nil) .nil),
  .no⟩
def c_token_at : FD := ⟨[.s, .s], 2,
  (.cons (.ife (.cmp .lt (.var 1) (.bf .len (.cons (.var 0) .nil))) (.cons (.ret (.ix (.var 0) (.var 1))) .nil) .nil) (.cons (.ret (.lit (.str [])))
    .nil)),
  .no⟩
def c_read_terms : FD := ⟨[.s, .s], 5,
  (.cons (.assignF 2 (.lst .nil)) (.cons (.whil (.lit (.bl true)) (.cons (.assign 3 (.call 48 (.cons (.var 0) (.cons (.var 1) .nil)))) (.cons (.expr
    (.call 47 (.cons (.and (.or (.call 6 (.cons (.var 3) .nil)) (.call 7 (.cons (.var 3) .nil))) (.cmp .lt (.bf .len (.cons (.bor 2) .nil)) (.lit
    (.int 3)))) .nil))) (.cons (.append 2 (.var 3)) (.cons (.assign 4 (.call 48 (.cons (.var 0) (.cons (.bin .add (.var 1) (.lit (.int 1))) .nil))))
    (.cons (.expr (.call 47 (.cons (.or (.cmp .eq (.var 4) (.lit (.str [44]))) (.cmp .eq (.var 4) (.lit (.str [41])))) .nil))) (.cons (.assign 1 (.bin
    .add (.var 1) (.lit (.int 2)))) (.cons (.ife (.cmp .eq (.var 4) (.lit (.str [41]))) (.cons (.ret (.tup (.cons (.bf .tuple (.cons (.bor 2) .nil))
    (.cons (.var 1) .nil)))) .nil) .nil) .nil)))))))) .nil)),
  .no⟩
def c_read_is : FD := ⟨[.s, .s], 4,
  (.cons (.assign 2 (.call 48 (.cons (.var 0) (.cons (.var 1) .nil)))) (.cons (.expr (.call 47 (.cons (.call 8 (.cons (.var 2) .nil)) .nil))) (.cons
    (.ife (.cmp .ne (.call 48 (.cons (.var 0) (.cons (.bin .add (.var 1) (.lit (.int 1))) .nil))) (.lit (.str [40]))) (.cons (.ret (.tup (.cons (.tup
    (.cons (.lit (.str [105, 115])) (.cons (.var 2) (.cons (.tup .nil) .nil)))) (.cons (.bin .add (.var 1) (.lit (.int 1))) .nil)))) .nil) .nil)
    (.cons (.assign 3 (.call 49 (.cons (.var 0) (.cons (.bin .add (.var 1) (.lit (.int 2))) .nil)))) (.cons (.ret (.tup (.cons (.tup (.cons (.lit
    (.str [105, 115])) (.cons (.var 2) (.cons (.ix (.var 3) (.lit (.int 0))) .nil)))) (.cons (.ix (.var 3) (.lit (.int 1))) .nil)))) .nil))))),
  .no⟩
def c_read_two : FD := ⟨[.s, .s, .s], 6,
  (.cons (.assign 3 (.call 52 (.cons (.var 0) (.cons (.var 1) (.cons (.var 2) .nil))))) (.cons (.assign 4 (.call 48 (.cons (.var 0) (.cons (.ix (.var 3)
    (.lit (.int 1))) .nil)))) (.cons (.expr (.call 47 (.cons (.cmp .isin (.var 4) (.tup (.cons (.lit (.str [97, 110, 100])) (.cons (.lit (.str [111,
    114])) (.cons (.lit (.str [116, 104, 101, 110])) .nil))))) .nil))) (.cons (.assign 5 (.call 52 (.cons (.var 0) (.cons (.bin .add (.ix (.var 3)
    (.lit (.int 1))) (.lit (.int 1))) (.cons (.var 2) .nil))))) (.cons (.expr (.call 47 (.cons (.cmp .eq (.call 48 (.cons (.var 0) (.cons (.ix (.var
    5) (.lit (.int 1))) .nil))) (.lit (.str [41]))) .nil))) (.cons (.ret (.tup (.cons (.tup (.cons (.var 4) (.cons (.ix (.var 3) (.lit (.int 0)))
    (.cons (.ix (.var 5) (.lit (.int 0))) .nil)))) (.cons (.bin .add (.ix (.var 5) (.lit (.int 1))) (.lit (.int 1))) .nil)))) .nil)))))),
  .no⟩
def c_read_from : FD := ⟨[.s, .s, .s], 6,
  (.cons (.expr (.call 47 (.cons (.cmp .gt (.var 2) (.lit (.int 0))) .nil))) (.cons (.assign 3 (.call 48 (.cons (.var 0) (.cons (.var 1) .nil)))) (.cons
    (.ife (.cmp .eq (.var 3) (.lit (.str [102, 97, 108, 115, 101]))) (.cons (.ret (.tup (.cons (.tup (.cons (.lit (.str [102, 97, 108, 115, 101]))
    .nil)) (.cons (.bin .add (.var 1) (.lit (.int 1))) .nil)))) .nil) .nil) (.cons (.ife (.cmp .eq (.var 3) (.lit (.str [110, 111, 116]))) (.cons
    (.assign 4 (.call 52 (.cons (.var 0) (.cons (.bin .add (.var 1) (.lit (.int 1))) (.cons (.bin .sub (.var 2) (.lit (.int 1))) .nil))))) (.cons
    (.ret (.tup (.cons (.tup (.cons (.lit (.str [110, 111, 116])) (.cons (.ix (.var 4) (.lit (.int 0))) .nil))) (.cons (.ix (.var 4) (.lit (.int 1)))
    .nil)))) .nil)) .nil) (.cons (.ife (.or (.cmp .eq (.var 3) (.lit (.str [97, 108, 108]))) (.cmp .eq (.var 3) (.lit (.str [115, 111, 109, 101]))))
    (.cons (.assign 5 (.call 48 (.cons (.var 0) (.cons (.bin .add (.var 1) (.lit (.int 1))) .nil)))) (.cons (.expr (.call 47 (.cons (.call 7 (.cons
    (.var 5) .nil)) .nil))) (.cons (.assign 4 (.call 52 (.cons (.var 0) (.cons (.bin .add (.var 1) (.lit (.int 2))) (.cons (.bin .sub (.var 2) (.lit
    (.int 1))) .nil))))) (.cons (.ret (.tup (.cons (.tup (.cons (.var 3) (.cons (.var 5) (.cons (.ix (.var 4) (.lit (.int 0))) .nil)))) (.cons (.ix
    (.var 4) (.lit (.int 1))) .nil)))) .nil)))) .nil) (.cons (.ife (.cmp .eq (.var 3) (.lit (.str [40]))) (.cons (.ret (.call 51 (.cons (.var 0)
    (.cons (.bin .add (.var 1) (.lit (.int 1))) (.cons (.bin .sub (.var 2) (.lit (.int 1))) .nil))))) .nil) .nil) (.cons (.ret (.call 50 (.cons (.var
    0) (.cons (.var 1) .nil)))) .nil))))))),
  .no⟩
def c_read : FD := ⟨[.s], 3,
  (.cons (.assign 1 (.call 46 (.cons (.var 0) .nil))) (.cons (.assign 2 (.call 52 (.cons (.var 1) (.cons (.lit (.int 0)) (.cons (.glob 41) .nil)))))
    (.cons (.expr (.call 47 (.cons (.cmp .eq (.ix (.var 2) (.lit (.int 1))) (.bf .len (.cons (.var 1) .nil))) .nil))) (.cons (.ret (.ix (.var 2) (.lit
    (.int 0)))) .nil)))),
  .no⟩
def c_law_tokens : FD := ⟨[.s], 5,
  (.cons (.assign 1 (.lst .nil)) (.cons (.assign 2 (.lit (.str []))) (.cons (.for_ 3 (.seq (.var 0)) (.cons (.ife (.mt .isalnum (.var 3) .nil) (.cons
    (.assign 2 (.bin .add (.var 2) (.var 3))) .nil) (.cons (.assign 1 (.bin .add (.var 1) (.comp 4 (.seq (.lst (.cons (.var 2) (.cons (.var 3)
    .nil)))) (.and (.cmp .ne (.var 4) (.lit (.str []))) (.cmp .ne (.var 4) (.lit (.str [32])))) (.var 4)))) (.cons (.assign 2 (.lit (.str [])))
    .nil))) .nil)) (.cons (.ret (.bin .add (.var 1) (.comp 4 (.seq (.lst (.cons (.var 2) .nil))) (.cmp .ne (.var 4) (.lit (.str []))) (.var 4))))
    .nil)))),
  .no⟩
def c_law_is_built : FD := ⟨[.s, .s], 3,
  (.cons (.ife (.or (.not (.bf .isStr (.cons (.var 0) .nil))) (.or (.cmp .eq (.var 0) (.lit (.str []))) (.or (.cmp .gt (.bf .len (.cons (.var 0) .nil))
    (.lit (.int 8))) (.cmp .notin (.ix (.var 0) (.lit (.int 0))) (.var 1))))) (.cons (.ret (.lit (.bl false))) .nil) .nil) (.cons (.for_ 2 (.seq (.sl
    (.var 0) (.lit (.int 1)) (.lit .non))) (.cons (.ife (.cmp .notin (.var 2) (.lit (.str (97 :: 98 :: 99 :: 100 :: 101 :: 102 :: 103 :: 104 :: 105 ::
    106 :: 107 :: 108 :: 109 :: 110 :: 111 :: 112 :: 113 :: 114 :: 115 :: 116 :: 117 :: 118 :: 119 :: 120 :: 121 :: 122 :: 48 :: 49 :: 50 :: 51 :: 52
    :: 53 :: 54 :: 55 :: 56 :: 57 :: [])))) (.cons (.ret (.lit (.bl false))) .nil) .nil) .nil)) (.cons (.ret (.cmp .notin (.var 0) (.lst (.cons (.lit
    (.str [110, 111, 116])) (.cons (.lit (.str [97, 110, 100])) (.cons (.lit (.str [111, 114])) (.cons (.lit (.str [116, 104, 101, 110])) (.cons (.lit
    (.str [97, 108, 108])) (.cons (.lit (.str [115, 111, 109, 101])) (.cons (.lit (.str [102, 97, 108, 115, 101])) .nil)))))))))) .nil))),
  .no⟩
def c_law_is_right : FD := ⟨[.s], 3,
  (.cons (.ife (.or (.cmp .ne (.bf .len (.cons (.var 0) .nil)) (.lit (.int 3))) (.or (.not (.bf .isTuple (.cons (.ix (.var 0) (.lit (.int 2))) .nil)))
    (.cmp .gt (.bf .len (.cons (.ix (.var 0) (.lit (.int 2))) .nil)) (.lit (.int 3))))) (.cons (.ret (.lit (.bl false))) .nil) .nil) (.cons (.for_ 1
    (.seq (.ix (.var 0) (.lit (.int 2)))) (.cons (.assign 2 (.call 55 (.cons (.var 1) (.cons (.lit (.str (65 :: 66 :: 67 :: 68 :: 69 :: 70 :: 71 :: 72
    :: 73 :: 74 :: 75 :: 76 :: 77 :: 78 :: 79 :: 80 :: 81 :: 82 :: 83 :: 84 :: 85 :: 86 :: 87 :: 88 :: 89 :: 90 :: []))) .nil)))) (.cons (.ife (.and
    (.not (.var 2)) (.not (.call 55 (.cons (.var 1) (.cons (.lit (.str (97 :: 98 :: 99 :: 100 :: 101 :: 102 :: 103 :: 104 :: 105 :: 106 :: 107 :: 108
    :: 109 :: 110 :: 111 :: 112 :: 113 :: 114 :: 115 :: 116 :: 117 :: 118 :: 119 :: 120 :: 121 :: 122 :: []))) .nil))))) (.cons (.ret (.lit (.bl
    false))) .nil) .nil) .nil))) (.cons (.ret (.call 55 (.cons (.ix (.var 0) (.lit (.int 1))) (.cons (.lit (.str (97 :: 98 :: 99 :: 100 :: 101 :: 102
    :: 103 :: 104 :: 105 :: 106 :: 107 :: 108 :: 109 :: 110 :: 111 :: 112 :: 113 :: 114 :: 115 :: 116 :: 117 :: 118 :: 119 :: 120 :: 121 :: 122 ::
    []))) .nil)))) .nil))),
  .no⟩
def c_law_fit : FD := ⟨[.s, .s], 5,
  (.cons (.ife (.or (.cmp .eq (.var 1) (.lit (.int 0))) (.or (.not (.bf .isTuple (.cons (.var 0) .nil))) (.or (.cmp .eq (.bf .len (.cons (.var 0) .nil))
    (.lit (.int 0))) (.not (.bf .isStr (.cons (.ix (.var 0) (.lit (.int 0))) .nil)))))) (.cons (.ret (.lit (.bl false))) .nil) .nil) (.cons (.ife
    (.cmp .eq (.ix (.var 0) (.lit (.int 0))) (.lit (.str [105, 115]))) (.cons (.ret (.call 56 (.cons (.var 0) .nil))) .nil) .nil) (.cons (.assign 2
    (.lst (.cons (.lit (.int 1)) (.cons (.lit (.int 2)) (.cons (.lit (.int 3)) (.cons (.lit (.int 3)) (.cons (.lit (.int 3)) (.cons (.lit (.int 3))
    (.cons (.lit (.int 3)) .nil))))))))) (.cons (.assign 3 (.lst (.cons (.lit (.str [102, 97, 108, 115, 101])) (.cons (.lit (.str [110, 111, 116]))
    (.cons (.lit (.str [97, 110, 100])) (.cons (.lit (.str [111, 114])) (.cons (.lit (.str [116, 104, 101, 110])) (.cons (.lit (.str [97, 108, 108]))
    (.cons (.lit (.str [115, 111, 109, 101])) .nil))))))))) (.cons (.ife (.or (.cmp .notin (.ix (.var 0) (.lit (.int 0))) (.var 3)) (.cmp .ne (.bf
    .len (.cons (.var 0) .nil)) (.ix (.var 2) (.lix (.var 3) (.ix (.var 0) (.lit (.int 0))))))) (.cons (.ret (.lit (.bl false))) .nil) .nil) (.cons
    (.ife (.and (.cmp .isin (.ix (.var 0) (.lit (.int 0))) (.lst (.cons (.lit (.str [97, 108, 108])) (.cons (.lit (.str [115, 111, 109, 101]))
    .nil)))) (.not (.call 55 (.cons (.ix (.var 0) (.lit (.int 1))) (.cons (.lit (.str (65 :: 66 :: 67 :: 68 :: 69 :: 70 :: 71 :: 72 :: 73 :: 74 :: 75
    :: 76 :: 77 :: 78 :: 79 :: 80 :: 81 :: 82 :: 83 :: 84 :: 85 :: 86 :: 87 :: 88 :: 89 :: 90 :: []))) .nil))))) (.cons (.ret (.lit (.bl false)))
    .nil) .nil) (.cons (.for_ 4 (.seq (.call 24 (.cons (.var 0) .nil))) (.cons (.ife (.not (.call 57 (.cons (.var 4) (.cons (.bin .sub (.var 1) (.lit
    (.int 1))) .nil)))) (.cons (.ret (.lit (.bl false))) .nil) .nil) .nil)) (.cons (.ret (.lit (.bl true))) .nil)))))))),
  .no⟩
def c_law_spoilt : FD := ⟨[.s, .s, .s], 9,
  (.cons (.assign 3 (.bin .mod (.bin .fdiv (.var 1) (.lit (.int 9))) (.bf .len (.cons (.var 0) .nil)))) (.cons (.assign 4 (.lst (.cons (.lit (.str
    [40])) (.cons (.lit (.str [41])) (.cons (.lit (.str [44])) (.cons (.lit (.str [110, 111, 116])) (.cons (.lit (.str [97, 110, 100])) (.cons (.lit
    (.str [111, 114])) (.cons (.lit (.str [116, 104, 101, 110])) (.cons (.lit (.str [97, 108, 108])) (.cons (.lit (.str [115, 111, 109, 101])) (.cons
    (.lit (.str [102, 97, 108, 115, 101])) (.cons (.var 2) (.cons (.lit (.str [88])) (.cons (.lit (.str [120, 121, 122, 120, 121, 122, 120, 121,
    122])) (.cons (.lit (.str [55])) .nil)))))))))))))))) (.cons (.assign 5 (.ix (.var 4) (.bin .mod (.bin .mod (.bin .mul (.var 1) (.lit (.int
    48271))) (.lit (.int 2147483647))) (.lit (.int 14))))) (.cons (.ife (.cmp .eq (.bin .mod (.var 1) (.lit (.int 9))) (.lit (.int 0))) (.cons (.ret
    (.bin .add (.sl (.var 0) (.lit .non) (.var 3)) (.sl (.var 0) (.bin .add (.var 3) (.lit (.int 1))) (.lit .non)))) .nil) .nil) (.cons (.ife (.cmp
    .eq (.bin .mod (.var 1) (.lit (.int 9))) (.lit (.int 1))) (.cons (.ret (.bin .add (.bin .add (.sl (.var 0) (.lit .non) (.var 3)) (.lst (.cons
    (.var 5) .nil))) (.sl (.var 0) (.bin .add (.var 3) (.ix (.lst (.cons (.lit (.int 0)) (.cons (.lit (.int 1)) .nil))) (.bin .mod (.bin .fdiv (.var
    1) (.lit (.int 9))) (.lit (.int 2))))) (.lit .non)))) .nil) .nil) (.cons (.ife (.cmp .eq (.bin .mod (.var 1) (.lit (.int 9))) (.lit (.int 2)))
    (.cons (.ret (.bin .add (.bin .add (.sl (.var 0) (.lit .non) (.bin .add (.var 3) (.lit (.int 1)))) (.ix (.lst (.cons (.lst (.cons (.lit (.str
    [44])) (.cons (.ix (.lst (.cons (.lit (.str [88])) (.cons (.var 2) .nil))) (.bin .mod (.var 3) (.lit (.int 2)))) .nil))) (.cons (.sl (.var 0)
    (.var 3) (.bin .add (.var 3) (.lit (.int 1)))) .nil))) (.bin .mod (.bin .fdiv (.var 1) (.lit (.int 9))) (.lit (.int 2))))) (.sl (.var 0) (.bin
    .add (.var 3) (.lit (.int 1))) (.lit .non)))) .nil) .nil) (.cons (.ife (.cmp .eq (.bin .mod (.var 1) (.lit (.int 9))) (.lit (.int 3))) (.cons
    (.ret (.ix (.lst (.cons (.bin .add (.var 0) (.lst (.cons (.var 5) .nil))) (.cons (.sl (.var 0) (.lit .non) (.var 3)) .nil))) (.bin .mod (.bin
    .fdiv (.var 1) (.lit (.int 9))) (.lit (.int 2))))) .nil) .nil) (.cons (.ife (.cmp .eq (.bin .mod (.var 1) (.lit (.int 9))) (.lit (.int 4))) (.cons
    (.ret (.bin .add (.bin .mul (.lst (.cons (.lit (.str [110, 111, 116])) .nil)) (.bin .add (.lit (.int 40)) (.bin .mod (.var 3) (.lit (.int 2)))))
    (.var 0))) .nil) .nil) (.cons (.assign 6 (.ix (.lst (.cons (.lst (.cons (.lit (.str [97, 110, 100])) (.cons (.lit (.str [111, 114])) (.cons (.lit
    (.str [116, 104, 101, 110])) .nil)))) (.cons (.lst (.cons (.lit (.str [41])) .nil)) (.cons (.lst (.cons (.lit (.str [40])) (.cons (.lit (.str
    [44])) .nil))) (.cons (.lst (.cons (.lit (.str [110, 111, 116])) (.cons (.lit (.str [97, 108, 108])) (.cons (.lit (.str [115, 111, 109, 101]))
    .nil)))) .nil))))) (.bin .sub (.bin .mod (.var 1) (.lit (.int 9))) (.lit (.int 5))))) (.cons (.assignF 7 (.comp 8 (.rng1 (.bf .len (.cons (.var 0)
    .nil))) (.cmp .isin (.ix (.var 0) (.var 8)) (.var 6)) (.var 8))) (.freeze 7 (.cons (.ife (.cmp .eq (.bf .len (.cons (.var 7) .nil)) (.lit (.int
    0))) (.cons (.ret (.bin .add (.var 0) (.lst (.cons (.var 5) .nil)))) .nil) .nil) (.cons (.assign 3 (.ix (.var 7) (.bin .mod (.bin .fdiv (.var 1)
    (.lit (.int 9))) (.bf .len (.cons (.var 7) .nil))))) (.cons (.ret (.bin .add (.bin .add (.sl (.var 0) (.lit .non) (.var 3)) (.lst (.cons (.ix
    (.var 4) (.bin .mod (.bin .mod (.bin .mul (.var 1) (.lit (.int 48271))) (.lit (.int 2147483647))) (.lit (.int 9)))) .nil))) (.sl (.var 0) (.bin
    .add (.var 3) (.lit (.int 1))) (.lit .non)))) .nil)))))))))))))),
  .no⟩
def c_law_joined : FD := ⟨[.s, .s, .s], 6,
  (.cons (.assign 3 (.lit (.str []))) (.cons (.for_ 4 (.rng1 (.bf .len (.cons (.var 0) .nil))) (.cons (.assign 5 (.bin .mod (.call 10 (.cons (.var 1)
    (.cons (.bin .add (.lit (.int 500)) (.var 4)) .nil))) (.lit (.int 3)))) (.cons (.ife (.and (.not (.var 2)) (.and (.cmp .eq (.var 5) (.lit (.int
    0))) (.and (.cmp .ne (.var 3) (.lit (.str []))) (.and (.mt .isalnum (.ix (.var 3) (.neg (.lit (.int 1)))) .nil) (.mt .isalnum (.ix (.ix (.var 0)
    (.var 4)) (.lit (.int 0))) .nil))))) (.cons (.assign 5 (.lit (.int 1))) .nil) .nil) (.cons (.assign 3 (.bin .add (.bin .add (.var 3) (.bin .mul
    (.lit (.str [32])) (.var 5))) (.ix (.var 0) (.var 4)))) .nil)))) (.cons (.ret (.var 3)) .nil))),
  .no⟩
def c_law_refused_right : FD := ⟨[.s], 2,
  (.cons (.try_ (.cons (.expr (.call 53 (.cons (.var 0) .nil))) .nil) [42, 43, 44] [] 42 (.one 1 none 44076 [43])) (.cons (.ret (.lit (.bl false)))
    .nil)),
  .no⟩
def c_law_v5 : FD := ⟨[.s], 9,
  (.cons (.assign 1 (.call 22 (.cons (.var 0) (.cons (.lit (.int 3)) (.cons (.call 23 (.cons (.call 9 (.cons (.var 0) (.cons (.lit (.int 0)) .nil)))
    .nil)) .nil))))) (.cons (.assign 2 (.call 19 (.cons (.bin .fdiv (.call 10 (.cons (.var 0) (.cons (.lit (.int 3)) .nil))) (.lit (.int 7))) (.cons
    (.lit (.str (97 :: 98 :: 99 :: 100 :: 101 :: 102 :: 103 :: 104 :: 105 :: 106 :: 107 :: 108 :: 109 :: 110 :: 111 :: 112 :: 113 :: 114 :: 115 :: 116
    :: 117 :: 118 :: 119 :: 120 :: 121 :: 122 :: []))) (.cons (.lit (.int 0)) .nil))))) (.cons (.assign 3 (.cmp .eq (.bin .mod (.call 9 (.cons (.var
    0) (.cons (.lit (.int 2)) .nil))) (.lit (.int 5))) (.lit (.int 3)))) (.cons (.assign 4 (.call 54 (.cons (.call 39 (.cons (.var 1) .nil)) .nil)))
    (.cons (.ife (.and (.not (.var 3)) (.cmp .lt (.bin .mod (.call 9 (.cons (.var 0) (.cons (.lit (.int 2)) .nil))) (.lit (.int 5))) (.lit (.int 4))))
    (.cons (.assign 4 (.call 58 (.cons (.var 4) (.cons (.call 9 (.cons (.var 0) (.cons (.lit (.int 1)) .nil))) (.cons (.var 2) .nil))))) .nil) .nil)
    (.cons (.assign 5 (.call 59 (.cons (.var 4) (.cons (.var 0) (.cons (.var 3) .nil))))) (.cons (.ife (.cmp .eq (.bin .mod (.call 9 (.cons (.var 0)
    (.cons (.lit (.int 2)) .nil))) (.lit (.int 5))) (.lit (.int 4))) (.cons (.assign 6 (.bin .mod (.bin .fdiv (.call 9 (.cons (.var 0) (.cons (.lit
    (.int 2)) .nil))) (.lit (.int 5))) (.bin .add (.bf .len (.cons (.var 5) .nil)) (.lit (.int 1))))) (.cons (.assign 7 (.ix (.lit (.str (33 :: 34 ::
    35 :: 36 :: 38 :: 39 :: 42 :: 43 :: 45 :: 46 :: 47 :: 58 :: 59 :: 60 :: 61 :: 62 :: 63 :: 64 :: 91 :: 92 :: 93 :: 94 :: 95 :: 96 :: 123 :: 124 ::
    125 :: 126 :: 10 :: 9 :: []))) (.bin .mod (.call 10 (.cons (.var 0) (.cons (.lit (.int 9)) .nil))) (.lit (.int 30))))) (.cons (.assign 5 (.bin
    .add (.bin .add (.sl (.var 5) (.lit .non) (.var 6)) (.var 7)) (.sl (.var 5) (.var 6) (.lit .non)))) .nil))) .nil) (.cons (.try_ (.cons (.assign 8
    (.call 53 (.cons (.var 5) .nil))) .nil) [43] [42, 44] 43 (.retC 60 (.cons (.var 5) .nil))) (.cons (.ret (.and (.call 57 (.cons (.var 8) (.cons
    (.lit (.int 40)) .nil))) (.cmp .eq (.call 54 (.cons (.call 39 (.cons (.var 8) .nil)) .nil)) (.call 54 (.cons (.var 5) .nil))))) .nil))))))))),
  .no⟩
def c_law_read : FD := ⟨[.s], 2,
  (.cons (.assign 1 (.lit .non)) (.cons (.try_ (.cons (.assign 1 (.call 53 (.cons (.var 0) .nil))) .nil) [43] [42] 43 (.set 1 (.non))) (.cons (.ret
    (.var 1)) .nil))),
  .no⟩
def c_law_v6 : FD := ⟨[.s], 7,
  (.cons (.assign 1 (.call 22 (.cons (.var 0) (.cons (.lit (.int 3)) (.cons (.call 23 (.cons (.call 9 (.cons (.var 0) (.cons (.lit (.int 0)) .nil)))
    .nil)) .nil))))) (.cons (.assign 2 (.call 62 (.cons (.call 38 (.cons (.var 1) .nil)) .nil))) (.cons (.ife (.or (.not (.bf .isTuple (.cons (.var 2)
    .nil))) (.cmp .ne (.var 2) (.var 1))) (.cons (.ret (.lit (.bl false))) .nil) .nil) (.cons (.assign 3 (.bin .mul (.lit (.str [32])) (.bin .mod
    (.call 9 (.cons (.var 0) (.cons (.lit (.int 1)) .nil))) (.lit (.int 3))))) (.cons (.assign 4 (.call 54 (.cons (.call 39 (.cons (.var 1) .nil))
    .nil))) (.cons (.for_ 5 (.rng1 (.bf .len (.cons (.var 4) .nil))) (.cons (.assign 6 (.bin .mod (.call 10 (.cons (.var 0) (.cons (.bin .add (.lit
    (.int 500)) (.var 5)) .nil))) (.lit (.int 4)))) (.cons (.ife (.and (.cmp .eq (.var 6) (.lit (.int 0))) (.and (.cmp .ne (.var 3) (.lit (.str [])))
    (.and (.mt .isalnum (.ix (.var 3) (.neg (.lit (.int 1)))) .nil) (.mt .isalnum (.ix (.ix (.var 4) (.var 5)) (.lit (.int 0))) .nil)))) (.cons
    (.assign 6 (.lit (.int 1))) .nil) .nil) (.cons (.assign 3 (.bin .add (.bin .add (.var 3) (.bin .mul (.lit (.str [32])) (.var 6))) (.ix (.var 4)
    (.var 5)))) .nil)))) (.cons (.assign 2 (.call 62 (.cons (.bin .add (.var 3) (.bin .mul (.lit (.str [32])) (.bin .mod (.call 9 (.cons (.var 0)
    (.cons (.lit (.int 2)) .nil))) (.lit (.int 3))))) .nil))) (.cons (.ret (.and (.bf .isTuple (.cons (.var 2) .nil)) (.cmp .eq (.var 2) (.var 1))))
    .nil)))))))),
  .no⟩
def c_law_mixed_v1 : FD := ⟨[.s, .s], 4,
  (.cons (.assign 2 (.lit (.int 0))) (.cons (.ife (.cmp .gt (.bf .len (.cons (.var 0) .nil)) (.lit (.int 0))) (.cons (.assign 2 (.ix (.var 0) (.bin .mod
    (.var 1) (.bf .len (.cons (.var 0) .nil))))) .nil) .nil) (.cons (.assign 3 (.bin .mod (.bin .mul (.bin .add (.var 2) (.bin .mul (.lit (.int 7919))
    (.var 1))) (.lit (.int 48271))) (.lit (.int 2147483647)))) (.cons (.ret (.bin .mod (.bin .add (.bin .mul (.var 3) (.var 3)) (.bin .mul (.lit (.int
    16807)) (.var 3))) (.lit (.int 2147483629)))) .nil)))),
  .no⟩
def c_read_two_v1 : FD := ⟨[.s, .s, .s], 6,
  (.cons (.assign 3 (.call 176 (.cons (.var 0) (.cons (.var 1) (.cons (.var 2) .nil))))) (.cons (.assign 4 (.call 48 (.cons (.var 0) (.cons (.ix (.var
    3) (.lit (.int 1))) .nil)))) (.cons (.expr (.call 47 (.cons (.cmp .isin (.var 4) (.tup (.cons (.lit (.str [97, 110, 100])) (.cons (.lit (.str
    [111, 114])) (.cons (.lit (.str [116, 104, 101, 110])) .nil))))) .nil))) (.cons (.assign 5 (.call 176 (.cons (.var 0) (.cons (.bin .add (.ix (.var
    3) (.lit (.int 1))) (.lit (.int 1))) (.cons (.var 2) .nil))))) (.cons (.expr (.call 47 (.cons (.cmp .eq (.call 48 (.cons (.var 0) (.cons (.ix
    (.var 5) (.lit (.int 1))) .nil))) (.lit (.str [41]))) .nil))) (.cons (.ret (.tup (.cons (.tup (.cons (.var 4) (.cons (.ix (.var 3) (.lit (.int
    0))) (.cons (.ix (.var 5) (.lit (.int 0))) .nil)))) (.cons (.bin .add (.ix (.var 5) (.lit (.int 1))) (.lit (.int 1))) .nil)))) .nil)))))),
  .no⟩
def c_read_from_v1 : FD := ⟨[.s, .s, .s], 6,
  (.cons (.expr (.call 47 (.cons (.cmp .gt (.var 2) (.lit (.int 0))) .nil))) (.cons (.assign 3 (.call 48 (.cons (.var 0) (.cons (.var 1) .nil)))) (.cons
    (.ife (.cmp .eq (.var 3) (.lit (.str [102, 97, 108, 115, 101]))) (.cons (.ret (.tup (.cons (.tup (.cons (.lit (.str [102, 97, 108, 115, 101]))
    .nil)) (.cons (.bin .add (.var 1) (.lit (.int 1))) .nil)))) .nil) .nil) (.cons (.ife (.cmp .eq (.var 3) (.lit (.str [110, 111, 116]))) (.cons
    (.assign 4 (.call 176 (.cons (.var 0) (.cons (.bin .add (.var 1) (.lit (.int 1))) (.cons (.bin .sub (.var 2) (.lit (.int 1))) .nil))))) (.cons
    (.ret (.tup (.cons (.tup (.cons (.lit (.str [110, 111, 116])) (.cons (.ix (.var 4) (.lit (.int 0))) .nil))) (.cons (.ix (.var 4) (.lit (.int 1)))
    .nil)))) .nil)) .nil) (.cons (.ife (.or (.cmp .eq (.var 3) (.lit (.str [97, 108, 108]))) (.cmp .eq (.var 3) (.lit (.str [115, 111, 109, 101]))))
    (.cons (.assign 5 (.call 48 (.cons (.var 0) (.cons (.bin .add (.var 1) (.lit (.int 1))) .nil)))) (.cons (.expr (.call 47 (.cons (.call 7 (.cons
    (.var 5) .nil)) .nil))) (.cons (.assign 4 (.call 176 (.cons (.var 0) (.cons (.bin .add (.var 1) (.lit (.int 2))) (.cons (.bin .sub (.var 2) (.lit
    (.int 1))) .nil))))) (.cons (.ret (.tup (.cons (.tup (.cons (.var 3) (.cons (.var 5) (.cons (.ix (.var 4) (.lit (.int 0))) .nil)))) (.cons (.ix
    (.var 4) (.lit (.int 1))) .nil)))) .nil)))) .nil) (.cons (.ife (.cmp .eq (.var 3) (.lit (.str [40]))) (.cons (.ret (.call 175 (.cons (.var 0)
    (.cons (.bin .add (.var 1) (.lit (.int 1))) (.cons (.bin .sub (.var 2) (.lit (.int 1))) .nil))))) .nil) .nil) (.cons (.ret (.call 50 (.cons (.var
    0) (.cons (.var 1) .nil)))) .nil))))))),
  .no⟩
def c_read_v1 : FD := ⟨[.s], 3,
  (.cons (.assign 1 (.call 46 (.cons (.var 0) .nil))) (.cons (.assign 2 (.call 176 (.cons (.var 1) (.cons (.lit (.int 0)) (.cons (.glob 41) .nil)))))
    (.cons (.expr (.call 47 (.cons (.cmp .eq (.ix (.var 2) (.lit (.int 1))) (.bf .len (.cons (.var 1) .nil))) .nil))) (.cons (.ret (.ix (.var 2) (.lit
    (.int 0)))) .nil)))),
  .no⟩
end Ev
/-! The law's text, its head, its end. -/
namespace LawEnd
open PySem PySem.Spec Ev
open PyProof.Rows hiding St
def top (i : Nat) : Stmt := PySem.Challenge.pw_boxproof_k06_what_is_read.main.body.getD i (.Pass ⟨0, 0, 0, 0⟩)
def fsL0 : List (Nat × Df) := [(5, ⟨c_built, top 10, ["text", "firsts", "sign"], ["text", "firsts"]⟩),
    (6, ⟨c_is_name, top 11, ["text"], ["text"]⟩),
    (7, ⟨c_is_letter, top 12, ["text"], ["text"]⟩),
    (8, ⟨c_is_word, top 13, ["text"], ["text"]⟩),
    (45, ⟨c_within_words, top 16, ["sign"], ["sign"]⟩),
    (46, ⟨c_tokens_of, top 17, ["text", "found", "at", "end"], ["text"]⟩),
    (47, ⟨c_sure, top 18, ["truth"], ["truth"]⟩),
    (48, ⟨c_token_at, top 19, ["tokens", "at"], ["tokens", "at"]⟩),
    (49, ⟨c_read_terms, top 20, ["tokens", "at", "found", "term", "behind"], ["tokens", "at"]⟩),
    (50, ⟨c_read_is, top 21, ["tokens", "at", "word", "pair"], ["tokens", "at"]⟩),
    (51, ⟨c_read_two, top 22, ["tokens", "at", "room", "first", "sign", "second"], ["tokens", "at", "room"]⟩),
    (52, ⟨c_read_from, top 23, ["tokens", "at", "room", "token", "pair", "letter"], ["tokens", "at", "room"]⟩),
    (53, ⟨c_read, top 24, ["text", "tokens", "pair"], ["text"]⟩),
    (9, ⟨c_law_cell_at, top 26, ["_law_script", "_law_k"], ["_law_script", "_law_k"]⟩),
    (10, ⟨c_law_mixed, top 27, ["_law_script", "_law_k", "_law_cell", "_law_number"], ["_law_script", "_law_k"]⟩),
    (18, ⟨c_law_sign_by, top 28, ["_law_number", "_law_signs"], ["_law_number", "_law_signs"]⟩),
    (19, ⟨c_law_name_by, top 29, ["_law_number", "_law_firsts", "_law_turn", "_law_some", "_law_size", "_law_at", "_law_signs", "_law_text", "_law_kept", "_law_k"], ["_law_number", "_law_firsts", "_law_turn"]⟩),
    (20, ⟨c_law_small_by, top 30, ["_law_number", "_law_base", "_law_terms", "_law_k", "_law_word", "_law_rest"], ["_law_number", "_law_base"]⟩),
    (21, ⟨c_law_wrapped, top 31, ["_law_ka", "_law_number", "_law_other", "_law_base", "_law_kind", "_law_letter", "_law_sign"], ["_law_ka", "_law_number", "_law_other", "_law_base"]⟩),
    (22, ⟨c_law_statement_by, top 32, ["_law_script", "_law_at", "_law_many", "_law_base", "_law_ka", "_law_k", "_law_number", "_law_other", "_law_j", "_law_beside"], ["_law_script", "_law_at", "_law_many"]⟩)]
def fsL1 : List (Nat × Df) := [(23, ⟨c_law_many_by, top 33, ["_law_cell"], ["_law_cell"]⟩),
    (39, ⟨c_law_written, top 34, ["_law_ka"], ["_law_ka"]⟩),
    (54, ⟨c_law_tokens, top 35, ["_law_text", "_law_found", "_law_run", "_law_sign", "_law_one"], ["_law_text"]⟩),
    (24, ⟨c_law_parts, top 36, ["_law_ka"], ["_law_ka"]⟩),
    (55, ⟨c_law_is_built, top 37, ["_law_text", "_law_firsts", "_law_sign"], ["_law_text", "_law_firsts"]⟩),
    (56, ⟨c_law_is_right, top 38, ["_law_ka", "_law_term", "_law_big"], ["_law_ka"]⟩),
    (57, ⟨c_law_fit, top 39, ["_law_ka", "_law_room", "_law_sizes", "_law_signs", "_law_part"], ["_law_ka", "_law_room"]⟩),
    (58, ⟨c_law_spoilt, top 40, ["_law_tokens_here", "_law_cell", "_law_word", "_law_at", "_law_some", "_law_odd", "_law_marks", "_law_places", "_law_k"], ["_law_tokens_here", "_law_cell", "_law_word"]⟩),
    (59, ⟨c_law_joined, top 41, ["_law_tokens_here", "_law_script", "_law_tight", "_law_text", "_law_k", "_law_far"], ["_law_tokens_here", "_law_script", "_law_tight"]⟩),
    (60, ⟨c_law_refused_right, top 42, ["_law_text", "e"], ["_law_text"]⟩),
    (61, ⟨c_law_v5, top 43, ["_law_script", "_law_ka", "_law_word", "_law_tight", "_law_tokens_here", "_law_text", "_law_k", "_law_odd", "_law_found"], ["_law_script"]⟩)]
def gsL0 : List (Nat × D) := [(0, .str (97 :: 98 :: 99 :: 100 :: 101 :: 102 :: 103 :: 104 :: 105 :: 106 :: 107 :: 108 :: 109 :: 110 :: 111 :: 112 :: 113 :: 114 :: 115 :: 116 :: 117 :: 118 :: 119 :: 120 :: 121 :: 122 :: [])),
    (1, .str (65 :: 66 :: 67 :: 68 :: 69 :: 70 :: 71 :: 72 :: 73 :: 74 :: 75 :: 76 :: 77 :: 78 :: 79 :: 80 :: 81 :: 82 :: 83 :: 84 :: 85 :: 86 :: 87 :: 88 :: 89 :: 90 :: [])),
    (2, .str [48, 49, 50, 51, 52, 53, 54, 55, 56, 57]),
    (3, .tup [.str [110, 111, 116], .str [97, 110, 100], .str [111, 114], .str [116, 104, 101, 110], .str [97, 108, 108], .str [115, 111, 109, 101], .str [102, 97, 108, 115, 101]]),
    (4, .int 8),
    (41, .int 40)]
def xsL0 : List (Nat × PySem.Str) := [(42, "BoxError"),
    (43, "NoStatement"),
    (44, "NoName")]
def nmL0 : List (Nat × PySem.Str) := [(5, "built"),
    (6, "is_name"),
    (7, "is_letter"),
    (8, "is_word"),
    (45, "within_words"),
    (46, "tokens_of"),
    (47, "sure"),
    (48, "token_at"),
    (49, "read_terms"),
    (50, "read_is"),
    (51, "read_two"),
    (52, "read_from"),
    (53, "read"),
    (9, "_law_cell_at"),
    (10, "_law_mixed"),
    (18, "_law_sign_by"),
    (19, "_law_name_by"),
    (20, "_law_small_by"),
    (21, "_law_wrapped"),
    (22, "_law_statement_by")]
def nmL1 : List (Nat × PySem.Str) := [(23, "_law_many_by"),
    (39, "_law_written"),
    (54, "_law_tokens"),
    (24, "_law_parts"),
    (55, "_law_is_built"),
    (56, "_law_is_right"),
    (57, "_law_fit"),
    (58, "_law_spoilt"),
    (59, "_law_joined"),
    (60, "_law_refused_right"),
    (61, "law"),
    (0, "SMALL"),
    (1, "GREAT"),
    (2, "FIGURES"),
    (3, "KEPT"),
    (4, "MOST_SIGNS"),
    (41, "MOST_DEEP"),
    (42, "BoxError"),
    (43, "NoStatement"),
    (44, "NoName")]
def emL0 : List (Nat × Nat × Bool) := [(42, 42, true),
    (43, 42, true),
    (44, 42, true),
    (42, 43, false),
    (43, 43, true),
    (44, 43, false)]
def ktL0 : List (Nat × Nat × Bool) := [(42, 44, false),
    (43, 44, false),
    (44, 44, true),
    (42, 43, false),
    (43, 43, true),
    (44, 43, false)]
def osL0 : List (Nat × Od) := []
def tx : Tx where
  fs := fsL0 ++ fsL1
  gs := gsL0
  xs := xsL0
  nms := nmL0 ++ nmL1
  ems := emL0
  kts := ktL0
  os := osL0
  cl := [5, 7, 6, 8, 53, 52, 50, 49, 51, 47, 48, 46, 45]
  ho := [60, 5, 7, 6, 8, 53, 52, 50, 49, 51, 47, 48, 46, 45]
  top := none
instance : Fn tx.T 5 c_built := ⟨rfl⟩
instance : Fn tx.T 6 c_is_name := ⟨rfl⟩
instance : Fn tx.T 7 c_is_letter := ⟨rfl⟩
instance : Fn tx.T 8 c_is_word := ⟨rfl⟩
instance : Fn tx.T 45 c_within_words := ⟨rfl⟩
instance : Fn tx.T 46 c_tokens_of := ⟨rfl⟩
instance : Fn tx.T 47 c_sure := ⟨rfl⟩
instance : Fn tx.T 48 c_token_at := ⟨rfl⟩
instance : Fn tx.T 49 c_read_terms := ⟨rfl⟩
instance : Fn tx.T 50 c_read_is := ⟨rfl⟩
instance : Fn tx.T 51 c_read_two := ⟨rfl⟩
instance : Fn tx.T 52 c_read_from := ⟨rfl⟩
instance : Fn tx.T 53 c_read := ⟨rfl⟩
instance : Fn tx.T 9 c_law_cell_at := ⟨rfl⟩
instance : Fn tx.T 10 c_law_mixed := ⟨rfl⟩
instance : Fn tx.T 18 c_law_sign_by := ⟨rfl⟩
instance : Fn tx.T 19 c_law_name_by := ⟨rfl⟩
instance : Fn tx.T 20 c_law_small_by := ⟨rfl⟩
instance : Fn tx.T 21 c_law_wrapped := ⟨rfl⟩
instance : Fn tx.T 22 c_law_statement_by := ⟨rfl⟩
instance : Fn tx.T 23 c_law_many_by := ⟨rfl⟩
instance : Fn tx.T 39 c_law_written := ⟨rfl⟩
instance : Fn tx.T 54 c_law_tokens := ⟨rfl⟩
instance : Fn tx.T 24 c_law_parts := ⟨rfl⟩
instance : Fn tx.T 55 c_law_is_built := ⟨rfl⟩
instance : Fn tx.T 56 c_law_is_right := ⟨rfl⟩
instance : Fn tx.T 57 c_law_fit := ⟨rfl⟩
instance : Fn tx.T 58 c_law_spoilt := ⟨rfl⟩
instance : Fn tx.T 59 c_law_joined := ⟨rfl⟩
instance : Fn tx.T 60 c_law_refused_right := ⟨rfl⟩
instance : Fn tx.T 61 c_law_v5 := ⟨rfl⟩
instance : Gl tx.gl 0 (.str (97 :: 98 :: 99 :: 100 :: 101 :: 102 :: 103 :: 104 :: 105 :: 106 :: 107 :: 108 :: 109 :: 110 :: 111 :: 112 :: 113 :: 114 :: 115 :: 116 :: 117 :: 118 :: 119 :: 120 :: 121 :: 122 :: [])) := ⟨rfl⟩
instance : Gl tx.gl 1 (.str (65 :: 66 :: 67 :: 68 :: 69 :: 70 :: 71 :: 72 :: 73 :: 74 :: 75 :: 76 :: 77 :: 78 :: 79 :: 80 :: 81 :: 82 :: 83 :: 84 :: 85 :: 86 :: 87 :: 88 :: 89 :: 90 :: [])) := ⟨rfl⟩
instance : Gl tx.gl 2 (.str [48, 49, 50, 51, 52, 53, 54, 55, 56, 57]) := ⟨rfl⟩
instance : Gl tx.gl 3 (.tup [.str [110, 111, 116], .str [97, 110, 100], .str [111, 114], .str [116, 104, 101, 110], .str [97, 108, 108], .str [115, 111, 109, 101], .str [102, 97, 108, 115, 101]]) := ⟨rfl⟩
instance : Gl tx.gl 4 (.int 8) := ⟨rfl⟩
instance : Gl tx.gl 41 (.int 40) := ⟨rfl⟩
theorem tx_ok : tx.ok = true := by decide +kernel
def names0 : List PySem.Str := ["BoxError", "NoStatement", "NoName", "SMALL", "GREAT", "FIGURES", "KEPT", "MOST_SIGNS", "built", "is_name", "is_letter", "is_word", "MOST_DEEP", "within_words", "tokens_of", "sure", "token_at", "read_terms", "read_is", "read_two"]
def names1 : List PySem.Str := ["read_from", "read", "_law_cell_at", "_law_mixed", "_law_sign_by", "_law_name_by", "_law_small_by", "_law_wrapped", "_law_statement_by", "_law_many_by", "_law_written", "_law_tokens", "_law_parts", "_law_is_built", "_law_is_right", "_law_fit", "_law_spoilt", "_law_joined", "_law_refused_right"]
def names : List PySem.Str := names0 ++ names1
abbrev R : PySem.W.OpenRow := PySem.W.OpenLaw.row PySem.Challenge.rw_boxproof_k06_what_is_read
theorem run (w : World) : HandSHeadRun.RunEq R (PySem.W.view R.prog [43]) (hookX tx 4) (obT tx 4) 3360 names w := by
  intro os
  kernel_rfl
end LawEnd
section
open PySem PySem.W PySem.Calls PyProof.Rows Ev
theorem LawEnd.holds_of (plain : ∀ ns : List Int, ns.length ≤ 63 → callF LawEnd.tx.T LawEnd.tx.gl depthMost 61 [.lst (ns.map .int)] = .ok (.bl true)) : PySem.Challenge.rw_boxproof_k06_what_is_read.Holds := by
  w_on; o_law
  refine HandSHeadRun.head_any (r := OpenLaw.row PySem.Challenge.rw_boxproof_k06_what_is_read) (q := view (OpenLaw.row PySem.Challenge.rw_boxproof_k06_what_is_read).prog [43]) (H := hookX LawEnd.tx 4) (ob := obT LawEnd.tx 4) (M := 3360) (loose := LawEnd.names) (d := HandSHeadRun.topDef (OpenLaw.row PySem.Challenge.rw_boxproof_k06_what_is_read).prog 43) (kwd := []) (obT_eq LawEnd.tx 4)
    (by kernel_rfl) (fun s => by kernel_rfl) LawEnd.run (by kernel_rfl) (by kernel_rfl) (by kernel_rfl) (by rfl) (by first | assumption | decide +kernel) (by decide +kernel) ⟨rfl, rfl, rfl, rfl, rfl, by decide +kernel⟩ ?hw ?hc
  case hw => w_witness2
  case hc => exact walk_ev (l := PySem.Challenge.rw_boxproof_k06_what_is_read) (t := LawEnd.tx) (f := 61) (x := "_law_script") rfl (by kernel_rfl) LawEnd.tx_ok rfl rfl rfl (fun _ h => by cases h) (by kernel_rfl) rfl plain
end

/-! Shared: loops and readings over typed things; cells. -/
namespace Ev
abbrev noX : Nat → Prop := fun _ => False
/-- a block behind so many statements -/
def B.tail : B → Nat → B
  | b, 0 => b
  | .cons _ b, k + 1 => B.tail b k
  | .freeze _ b, k + 1 => B.tail b k
  | b, _ => b
def forBody : S → B
  | .for_ _ _ b => b
  | .whil _ b => b
  | _ => .nil
def B.head : B → S
  | .cons s _ => s
  | _ => .pass
/-- a number as data -/
abbrev eN (k : Nat) : D := .int (k : Int)
section
variable {cf : Nat → List D → Res D} {gl : Nat → Option D} {ρ : Env} {n : En} {x : Nat} {b : B}
theorem okFor_map {α : Type} (dec : α → D) (I : List α → Env → Prop) (hs : ∀ a as ρ, I (a :: as) ρ → okB cf gl b (setV ρ x (dec a)) (n.wl (I as) n.nx)) (he : ∀ ρ, I [] ρ → n.nx ρ) {l : List α} (h : I l ρ) : okFor cf gl x b (l.map dec) ρ n := by
  refine okFor_ind (I := fun ds ρ => ∃ as, ds = as.map dec ∧ I as ρ) (fun d ds ρ ⟨as, e, i⟩ => ?_) (fun ρ ⟨as, e, i⟩ => ?_) ⟨l, rfl, h⟩
  · cases as with
    | nil => cases e
    | cons a as =>
      simp only [List.map_cons, List.cons.injEq] at e
      obtain ⟨rfl, rfl⟩ := e
      exact okB_mono (hs a as ρ i) (fun _ h => ⟨as, rfl, h⟩) (fun _ h => h) (fun _ h => h) (fun _ h => ⟨as, rfl, h⟩) fun _ _ h => h
  · cases as with
    | nil => exact he ρ i
    | cons a as => cases e
theorem okFor_rng {lo : Int} {m : Nat} (I : Nat → Env → Prop) (h0 : I 0 ρ) (hs : ∀ k, k < m → ∀ ρ, I k ρ → okB cf gl b (setV ρ x (.int (lo + (k : Int)))) (n.wl (I (k + 1)) n.nx)) (he : ∀ ρ, I m ρ → n.nx ρ) : okFor cf gl x b (rng lo m) ρ n := by
  refine okFor_at I h0 (fun k d ρ hd i => ?_) fun ρ h => he ρ (by rw [rng_len] at h; exact h)
  obtain ⟨h1, rfl⟩ := rng_get lo m k d hd
  exact hs k h1 ρ i
theorem okFor_rng0 {m : Nat} (I : Nat → Env → Prop) (h0 : I 0 ρ) (hs : ∀ k, k < m → ∀ ρ, I k ρ → okB cf gl b (setV ρ x (.int (k : Int))) (n.wl (I (k + 1)) n.nx)) (he : ∀ ρ, I m ρ → n.nx ρ) : okFor cf gl x b (rng 0 m) ρ n :=
  okFor_rng I h0 (fun k hk ρ i => by rw [Int.zero_add]; exact hs k hk ρ i) he
theorem rng_map (m : Nat) : rng 0 m = (List.range m).map eN := by
  unfold rng
  exact List.map_congr_left fun k _ => by rw [Int.zero_add]
end
/-! ### slices -/
theorem cut_take {α : Type} (xs : List α) (k : Nat) : cut xs none (some (k : Int)) = xs.take k := by
  unfold cut
  rw [HT.sIx_nat]
  show (xs.drop 0).take (min k xs.length - 0) = _
  simp [List.take_eq_take_iff]
theorem cut_drop {α : Type} (xs : List α) (k : Nat) : cut xs (some (k : Int)) none = xs.drop k := by
  unfold cut
  rw [HT.sIx_nat]
  show (xs.drop (min k xs.length)).take (xs.length - min k xs.length) = _
  by_cases h : k ≤ xs.length
  · rw [Nat.min_eq_left h, List.take_of_length_le (by simp)]
  · rw [Nat.min_eq_right (by omega), List.drop_eq_nil_of_le (show xs.length ≤ k by omega)]
    simp
theorem cut_takeI {α : Type} (xs : List α) {i : Int} (h : 0 ≤ i) : cut xs none (some i) = xs.take i.toNat := by
  have e : i = ((i.toNat : Nat) : Int) := by omega
  rw [e, cut_take]; rfl
theorem cut_dropI {α : Type} (xs : List α) {i : Int} (h : 0 ≤ i) : cut xs (some i) none = xs.drop i.toNat := by
  have e : i = ((i.toNat : Nat) : Int) := by omega
  rw [e, cut_drop]; rfl
/-! ### numbers in lists -/
/-- an item of a list of encoded things, by a place that is a number -/
theorem o_ixlm {α : Type} {dec : α → D} {P : D → Prop} {xs : List α} {i : Int} (h0 : 0 ≤ i) (h1 : i < xs.length) (p : ∀ a, xs[i.toNat]? = some a → P (dec a)) : okO (opIx (.lst (xs.map dec)) (.int i)) P :=
  o_ixl' h0 (by simpa using h1) fun d hd => by
    simp only [List.getElem?_map, Option.map_eq_some_iff] at hd
    obtain ⟨a, h2, rfl⟩ := hd
    exact p a h2
theorem o_ixs_mod {P : D → Prop} {s : List Nat} {i : Int} (h : 0 < s.length) (p : ∀ c, c ∈ s → P (.str [c])) : okO (opIx (.str s) (.int (i % (s.length : Int)))) P :=
  o_ixs' (Int.emod_nonneg _ (by omega)) (Int.emod_lt_of_pos _ (by omega)) fun c hc => p c (List.mem_of_getElem? hc)
theorem sum_ones : ∀ l : List (List Nat), (∀ p ∈ l, p.length = 1) → (l.map List.length).sum = l.length
  | [], _ => rfl
  | p :: l, h => by
    have := sum_ones l fun q hq => h q (List.mem_cons_of_mem _ hq)
    have := h p (List.mem_cons_self ..)
    simp only [List.map_cons, List.sum_cons, List.length_cons]
    omega
/-! ### cells -/
section
variable {T : Nat → Option FD} {gl : Nat → Option D}
theorem cell_at_ok [Fn T 9 c_law_cell_at] {n : Nat} (hn : 1 ≤ n) (s : List Int) (k : Int) (hk : 0 ≤ k) : callF T gl n 9 [.lst (s.map .int), .int k] = .ok (.int (s.getD k.toNat 0)) := by
  refine eq_of_okR (okR_call (k := 0) hn rfl fun n hn => ?_)
  (repeat' ((try (conv => whnf)) <;> first | with_reducible refine stepE ?_ | with_reducible refine stepEs ?_ | with_reducible refine stepB ?_ | with_reducible refine stepS ?_ | refine okO_of (o := getSh _ _) rfl ?_ | with_reducible refine okT_dec (fun hT => ?_) (fun hT => ?_) | refine okO_of (o := opC _ (.int _) (.int _)) rfl ?_ | refine okO_of (o := opF _ _) rfl ?_)) <;> (try (conv => whnf))
  · exact o_ixi hk (by simpa using hT) rfl
  · have : s.length ≤ k.toNat := by simp at hT; omega
    simp [this]
/-- a number from nought, below 2 ^ 31 -/
def num31 (d : D) : Prop := ∃ m : Int, d = .int m ∧ 0 ≤ m ∧ m < 2147483648
theorem mixed_ok [Fn T 10 c_law_mixed] {n : Nat} (hn : 1 ≤ n) (s : List Int) (k : Int) : okR (callF T gl n 10 [.lst (s.map .int), .int k]) noX num31 := by
  refine okR_call (k := 0) hn rfl fun n hn => ?_
  (repeat' ((try (conv => whnf)) <;> first | with_reducible refine stepE ?_ | with_reducible refine stepEs ?_ | with_reducible refine stepB ?_ | with_reducible refine stepS ?_ | refine okO_of (o := getSh _ _) rfl ?_ | with_reducible refine okT_dec (fun hT => ?_) (fun hT => ?_) | with_reducible refine o_addi ?_ | with_reducible refine o_mod (by first | decide | omega | (simp only [List.length_map, List.length_range, List.length_cons, List.length_nil, List.length_append]; omega)) ?_ | with_reducible refine o_mul (by first | (exact Or.inl (by decide)) | (exact Or.inr (by decide)) | omega) ?_ | refine okO_of (o := opC _ (.int _) (.int _)) rfl ?_ | refine okO_of (o := opF _ _) rfl ?_)) <;> (try (conv => whnf))
  · have hl : 0 < (s.length : Int) := by simpa using hT
    have h0 : 0 ≤ k % (s.length : Int) := Int.emod_nonneg _ (by omega)
    have h1 : k % (s.length : Int) < s.length := Int.emod_lt_of_pos _ hl
    simp only [List.length_map]
    refine o_ixi h0 h1 ?_
    (repeat' ((try (conv => whnf)) <;> first | with_reducible refine stepE ?_ | with_reducible refine stepB ?_ | with_reducible refine stepS ?_ | refine okO_of (o := getSh _ _) rfl ?_ | with_reducible refine o_addi ?_ | with_reducible refine o_mod (by first | decide | omega | (simp only [List.length_map, List.length_range, List.length_cons, List.length_nil, List.length_append]; omega)) ?_ | with_reducible refine o_mul (by first | (exact Or.inl (by decide)) | (exact Or.inr (by decide)) | omega) ?_)) <;> (try (conv => whnf))
    exact ⟨_, rfl, by omega, by omega⟩
  · exact ⟨_, rfl, by omega, by omega⟩
end
end Ev

/-! Names, letters, words. -/
namespace Ev
abbrev small : List Nat := 97 :: 98 :: 99 :: 100 :: 101 :: 102 :: 103 :: 104 :: 105 :: 106 :: 107 :: 108 :: 109 :: 110 :: 111 :: 112 :: 113 :: 114 :: 115 :: 116 :: 117 :: 118 :: 119 :: 120 :: 121 :: 122 :: []
abbrev great : List Nat := 65 :: 66 :: 67 :: 68 :: 69 :: 70 :: 71 :: 72 :: 73 :: 74 :: 75 :: 76 :: 77 :: 78 :: 79 :: 80 :: 81 :: 82 :: 83 :: 84 :: 85 :: 86 :: 87 :: 88 :: 89 :: 90 :: []
abbrev figs : List Nat := [48, 49, 50, 51, 52, 53, 54, 55, 56, 57]
abbrev kept : List (List Nat) := [[110, 111, 116], [97, 110, 100], [111, 114], [116, 104, 101, 110], [97, 108, 108], [115, 111, 109, 101], [102, 97, 108, 115, 101]]
def tailOk (t : List Nat) : Bool := t.all fun c => small.contains c || figs.contains c
def builtS (t fs : List Nat) : Bool := decide (1 ≤ t.length) && decide (t.length ≤ 8) && fs.contains (t.getD 0 0) && tailOk (t.drop 1)
def nameS (t : List Nat) : Bool := builtS t small && !kept.contains t
def letterS (t : List Nat) : Bool := builtS t great
theorem isIn_strs (t : List Nat) : ∀ l : List (List Nat), isIn (.str t) (l.map .str) = l.contains t
  | [] => rfl
  | x :: l => by rw [List.map_cons, isIn_cons', eqv_str, isIn_strs t l, List.contains_cons]
theorem great_kept {t : List Nat} (h : builtS t great = true) : kept.contains t = false := by
  unfold builtS at h
  simp only [Bool.and_eq_true, decide_eq_true_eq] at h
  obtain ⟨⟨⟨h1, h2⟩, h3⟩, h4⟩ := h
  rw [← Bool.not_eq_true]
  intro hk
  have : t ∈ kept := by simpa using hk
  revert h3
  clear h1 h2 h4 hk
  revert t
  decide
section
variable {T : Nat → Option FD} {gl : Nat → Option D}
theorem built_ok [Gl gl 0 (.str small)] [Gl gl 2 (.str figs)] [Gl gl 4 (.int 8)] [Fn T 5 c_built] {n : Nat} (hn : 1 ≤ n) (t fs : List Nat) : callF T gl n 5 [.str t, .str fs] = .ok (.bl (builtS t fs)) := by
  refine eq_of_okR (okR_call (k := 0) hn rfl fun n hn => ?_)
  (repeat' ((try (conv => whnf)) <;> first | with_reducible refine stepE ?_ | with_reducible refine stepEs ?_ | with_reducible refine stepB ?_ | with_reducible refine stepS ?_ | refine okO_of (o := getSh _ _) rfl ?_ | with_reducible refine okK_bl ?_ | with_reducible refine okT_tt ?_ | with_reducible refine okT_nff ?_ | with_reducible refine okT_dec (fun hT => ?_) (fun hT => ?_) | with_reducible refine okT_bl (fun hT => ?_) (fun hT => ?_) | refine okO_of (o := opC _ (.int _) (.int _)) rfl ?_ | refine okO_of (o := opF _ _) rfl ?_ | with_reducible refine okO_of glob_eq ?_)) <;> (try (conv => whnf))
  · have h : ¬ t.length ≤ 8 := by simp at hT; omega
    simp [builtS, h]
  · refine o_ixs' (by omega) (by omega) fun c hc => ?_
    have hc : t[0]? = some c := by simpa using hc
    have h1 : 1 ≤ t.length := by omega
    have h8 : t.length ≤ 8 := by simp at *; omega
    have hg : t.getD 0 0 = c := by simp [hc]
    (repeat' ((try (conv => whnf)) <;> first | with_reducible refine stepE ?_ | with_reducible refine stepB ?_ | with_reducible refine stepS ?_ | refine okO_of (o := getSh _ _) rfl ?_ | with_reducible refine okK_bl ?_ | with_reducible refine okT_bl (fun hT => ?_) (fun hT => ?_) | with_reducible refine o_nins ?_ | with_reducible refine o_sls fun tS hS hL => ?_ | refine okO_of (o := ixPart _ _) rfl ?_ | with_reducible refine stepIt ?_ | refine okO_of (o := txtOf _) rfl ?_)) <;> (try (conv => whnf))
    · have hf : fs.contains c = false := by simpa using hT
      have eb : builtS t fs = false := by
        unfold builtS
        rw [hg, hf, Bool.and_false, Bool.false_and]
      rw [eb]
    · have hf : fs.contains c = true := by simpa using hT
      have htl : tS = cut t (some ((1 : Nat) : Int)) none := hS
      rw [cut_drop] at htl
      have eb : builtS t fs = tailOk tS := by
        unfold builtS
        rw [hg, hf, htl]
        simp [h1, h8]
      rw [eb]
      refine okFor_map (dec := fun c => D.str [c]) (I := fun cs ρ => (∃ v2, ρ = [some (.sh, .str t), some (.sh, .str fs), v2]) ∧ tailOk tS = tailOk cs) (fun c cs ρ ⟨⟨v2, hρ⟩, e⟩ => ?_) (fun ρ ⟨⟨v2, hρ⟩, e⟩ => ?_) ⟨⟨_, rfl⟩, rfl⟩
      · subst hρ
        have e2 : tailOk (c :: cs) = ((small.contains c || figs.contains c) && tailOk cs) := by simp only [tailOk, List.all_cons]
        rw [e2] at e
        rw [e]
        clear e e2
        generalize hs : small.contains c = a
        generalize hf2 : figs.contains c = a2
        (repeat' ((try (conv => whnf)) <;> first | with_reducible refine stepE ?_ | with_reducible refine stepB ?_ | with_reducible refine stepS ?_ | refine okO_of (o := getSh _ _) rfl ?_ | with_reducible refine okK_bl ?_ | with_reducible refine okT_ff ?_ | with_reducible refine okT_bl (fun hT => ?_) (fun hT => ?_) | with_reducible refine o_nins ?_ | with_reducible refine okO_of glob_eq ?_)) <;> (try (conv => whnf))
        all_goals first
          | (simp only [Bool.not_eq_true', Bool.not_eq_false', hs, hf2] at *
             simp only [*, Bool.or_false, Bool.false_or, Bool.true_or, Bool.false_and, Bool.true_and]
             done)
          | (refine ⟨⟨_, rfl⟩, ?_⟩
             simp only [Bool.not_eq_true', Bool.not_eq_false', hs, hf2] at *
             simp only [*, Bool.or_false, Bool.false_or, Bool.true_or, Bool.or_true, Bool.false_and, Bool.true_and])
      · subst hρ
        (repeat' ((try (conv => whnf)) <;> first | with_reducible refine stepE ?_ | with_reducible refine stepB ?_ | with_reducible refine stepS ?_)) <;> (try (conv => whnf))
        rw [e]
        rfl
  · have h : ¬ 1 ≤ t.length := by omega
    simp [builtS, h]
theorem is_name_ok [Gl gl 0 (.str small)] [Gl gl 2 (.str figs)] [Gl gl 3 (.tup (kept.map .str))] [Gl gl 4 (.int 8)] [Fn T 5 c_built] [Fn T 6 c_is_name] {n : Nat} (hn : 2 ≤ n) (t : List Nat) : callF T gl n 6 [.str t] = .ok (.bl (nameS t)) := by
  refine eq_of_okR (okR_call (k := 1) hn rfl fun n hn => ?_)
  (repeat' ((try (conv => whnf)) <;> first | refine okR_of (built_ok (by omega) _ _) ?_ | with_reducible refine stepE ?_ | with_reducible refine stepEs ?_ | with_reducible refine stepB ?_ | with_reducible refine stepS ?_ | refine okO_of (o := getSh _ _) rfl ?_ | with_reducible refine okK_bl ?_ | with_reducible refine okT_bl (fun hT => ?_) (fun hT => ?_) | with_reducible refine o_nints ?_ | with_reducible refine okO_of glob_eq ?_)) <;> (try (conv => whnf))
  · rw [isIn_strs]
    unfold nameS
    rw [hT, Bool.true_and]
  · unfold nameS
    rw [hT, Bool.false_and]
theorem is_letter_ok [Gl gl 0 (.str small)] [Gl gl 1 (.str great)] [Gl gl 2 (.str figs)] [Gl gl 4 (.int 8)] [Fn T 5 c_built] [Fn T 7 c_is_letter] {n : Nat} (hn : 2 ≤ n) (t : List Nat) : callF T gl n 7 [.str t] = .ok (.bl (letterS t)) := by
  refine eq_of_okR (okR_call (k := 1) hn rfl fun n hn => ?_)
  (repeat' ((try (conv => whnf)) <;> first | refine okR_of (built_ok (by omega) _ _) ?_ | with_reducible refine stepE ?_ | with_reducible refine stepEs ?_ | with_reducible refine stepB ?_ | with_reducible refine stepS ?_ | refine okO_of (o := getSh _ _) rfl ?_ | with_reducible refine okO_of glob_eq ?_)) <;> (try (conv => whnf))
  rfl
theorem is_word_ok [Gl gl 0 (.str small)] [Gl gl 2 (.str figs)] [Gl gl 3 (.tup (kept.map .str))] [Gl gl 4 (.int 8)] [Fn T 5 c_built] [Fn T 6 c_is_name] [Fn T 8 c_is_word] {n : Nat} (hn : 3 ≤ n) (t : List Nat) : callF T gl n 8 [.str t] = .ok (.bl (nameS t)) := by
  refine eq_of_okR (okR_call (k := 2) hn rfl fun n hn => ?_)
  (repeat' ((try (conv => whnf)) <;> first | refine okR_of (is_name_ok (by omega) _) ?_ | with_reducible refine stepE ?_ | with_reducible refine stepEs ?_ | with_reducible refine stepB ?_ | with_reducible refine stepS ?_ | refine okO_of (o := getSh _ _) rfl ?_)) <;> (try (conv => whnf))
end
end Ev

/-! Statements, and how the laws draw them. -/
namespace Ev
inductive Op where | and | or | thn
  deriving DecidableEq
inductive Stm where
  | is (w : List Nat) (ts : List (List Nat)) | fls | not (a : Stm) | bin (o : Op) (a b : Stm) | qu (q : Bool) (x : List Nat) (a : Stm)
  deriving DecidableEq
def Op.s : Op → List Nat
  | .and => [97, 110, 100]
  | .or => [111, 114]
  | .thn => [116, 104, 101, 110]
def quS (q : Bool) : List Nat := if q then [97, 108, 108] else [115, 111, 109, 101]
def Stm.enc : Stm → D
  | .is w ts => .tup [.str [105, 115], .str w, .tup (ts.map .str)]
  | .fls => .tup [.str [102, 97, 108, 115, 101]]
  | .not a => .tup [.str [110, 111, 116], a.enc]
  | .bin o a b => .tup [.str o.s, a.enc, b.enc]
  | .qu q x a => .tup [.str (quS q), .str x, a.enc]
def Stm.dp : Stm → Nat
  | .is _ _ => 1
  | .fls => 1
  | .not a => a.dp + 1
  | .bin _ a b => max a.dp b.dp + 1
  | .qu _ _ a => a.dp + 1
def Stm.sz : Stm → Nat
  | .is _ _ => 1
  | .fls => 1
  | .not a => a.sz + 1
  | .bin _ a b => a.sz + b.sz + 1
  | .qu _ _ a => a.sz + 1
def termOk (t : List Nat) : Bool := nameS t || letterS t
def Stm.wf : Stm → Prop
  | .is w ts => nameS w = true ∧ ts.length ≤ 3 ∧ ∀ t ∈ ts, termOk t = true
  | .fls => True
  | .not a => a.wf
  | .bin _ a b => a.wf ∧ b.wf
  | .qu _ x a => letterS x = true ∧ a.wf
theorem joined_single : ∀ r : List Nat, joined [] (r.map fun c => [c]) = r
  | [] => rfl
  | [c] => rfl
  | c :: d :: r => by
    have ih := joined_single (d :: r)
    simp only [List.map_cons] at ih ⊢
    simp only [joined, List.nil_append] at ih ⊢
    rw [ih]
    rfl
theorem o_setI {xs : List D} {i : Int} {d : D} {Q : List D → Prop} (h0 : 0 ≤ i) (h1 : i < xs.length) (p : Q (xs.set i.toNat d)) : okO (setL xs (.int i) d) Q := okO_of (by
  show (ixN xs.length i).map (fun n => xs.set n d) = _
  rw [ixN_int h0 h1]
  rfl) p
theorem o_setIm {α : Type} {f : α → D} {r : List α} {i : Int} {a : α} {Q : List D → Prop} (h0 : 0 ≤ i) (h1 : i < r.length) (p : Q ((r.set i.toNat a).map f)) : okO (setL (r.map f) (.int i) (f a)) Q :=
  o_setI h0 (by simpa using h1) (by rw [List.map_set] at p; exact p)
/-- what the signs of a name are -/
structure SignsOk (fs : List Nat) (t : List Nat) (k : Nat) : Prop where
  len : t.length = k
  first : 0 < k → t.getD 0 0 ∈ fs
  rest : ∀ i c, 0 < i → t[i]? = some c → c ∈ small ++ figs
theorem signs_built {fs t : List Nat} {k : Nat} (h : SignsOk fs t k) (h1 : 1 ≤ k) (h8 : k ≤ 8) : builtS t fs = true := by
  unfold builtS
  have hl := h.len
  have hf := h.first (by omega)
  have ht : tailOk (t.drop 1) = true := by
    unfold tailOk
    rw [List.all_eq_true]
    intro c hc
    obtain ⟨i, hi⟩ := List.mem_iff_getElem?.mp hc
    rw [List.getElem?_drop] at hi
    have := h.rest (1 + i) c (by omega) hi
    rw [← List.contains_append]
    simpa using this
  rw [ht]
  simp only [Bool.and_true, Bool.and_eq_true, decide_eq_true_eq]
  exact ⟨⟨by omega, by omega⟩, by simpa using hf⟩
section
variable {T : Nat → Option FD} {gl : Nat → Option D}
theorem sign_by_ok [Fn T 18 c_law_sign_by] {n : Nat} (hn : 1 ≤ n) (i : Int) (fs : List Nat) (hf : 0 < fs.length) : okR (callF T gl n 18 [.int i, .str fs]) noX fun d => ∃ c, d = .str [c] ∧ c ∈ fs := by
  refine okR_call (k := 0) hn rfl fun n hn => ?_
  (repeat' ((try (conv => whnf)) <;> first | with_reducible refine stepE ?_ | with_reducible refine stepEs ?_ | with_reducible refine stepB ?_ | with_reducible refine stepS ?_ | refine okO_of (o := getSh _ _) rfl ?_ | with_reducible refine o_mod (by first | decide | omega | (simp only [List.length_map, List.length_range, List.length_cons, List.length_nil, List.length_append]; omega)) ?_ | refine okO_of (o := opF _ _) rfl ?_)) <;> (try (conv => whnf))
  exact o_ixs_mod hf fun c hc => ⟨c, rfl, hc⟩
theorem signs_set {fs t : List Nat} {k i c : Nat} (h : SignsOk fs t k) (hi : i < k) (h0 : i = 0 → c ∈ fs) (h1 : 0 < i → c ∈ small ++ figs) : SignsOk fs (t.set i c) k := by
  have hl := h.len
  refine ⟨by simp [hl], fun hk => ?_, fun j d hj e => ?_⟩
  · by_cases q : i = 0
    · subst q
      have : 0 < t.length := by omega
      simp [this, h0 rfl]
    · have := h.first hk
      rw [List.getD_eq_getElem?_getD] at this ⊢
      rw [List.getElem?_set_ne q]
      exact this
  · by_cases q : i = j
    · subst q
      rw [List.getElem?_set_self (by omega)] at e
      cases e
      exact h1 hj
    · rw [List.getElem?_set_ne q] at e
      exact h.rest j d hj e
theorem kept_built {t : List Nat} (h : t ∈ kept) : 2 ≤ t.length ∧ t.length ≤ 5 ∧ builtS t small = true := by
  revert h
  revert t
  decide
/-- a kept word and more, cut to eight signs -/
theorem kept_more {w t : List Nat} (hw : w ∈ kept) (ht : builtS t small = true) : builtS ((w ++ t).take 8) small = true ∧ kept.contains ((w ++ t).take 8) = false := by
  obtain ⟨w2, w5, wb⟩ := kept_built hw
  unfold builtS at ht wb ⊢
  simp only [Bool.and_eq_true, decide_eq_true_eq] at ht wb ⊢
  obtain ⟨⟨⟨t1, t8⟩, t0⟩, tt⟩ := ht
  obtain ⟨⟨⟨_, _⟩, w0⟩, wt⟩ := wb
  have e : (w ++ t).take 8 = w ++ t.take (8 - w.length) := by
    rw [List.take_append, List.take_of_length_le (by omega)]
  rw [e]
  have hl : 1 ≤ (t.take (8 - w.length)).length := by rw [List.length_take]; omega
  refine ⟨⟨⟨⟨by rw [List.length_append]; omega, by rw [List.length_append, List.length_take]; omega⟩, ?_⟩, ?_⟩, ?_⟩
  · rw [List.getD_eq_getElem?_getD, List.getElem?_append_left (by omega), ← List.getD_eq_getElem?_getD]
    exact w0
  · rw [List.drop_append, show 1 - w.length = 0 by omega, List.drop_zero]
    unfold tailOk at wt tt ⊢
    rw [List.all_append, wt, Bool.true_and, List.all_eq_true]
    intro c hc
    have hc := List.mem_of_mem_take hc
    rw [List.all_eq_true] at tt
    cases t with
    | nil => cases hc
    | cons a t =>
      rcases List.mem_cons.mp hc with rfl | hc
      · simp only [List.getD_cons_zero] at t0
        rw [t0, Bool.true_or]
      · exact tt c hc
  · rw [← Bool.not_eq_true]
    intro h
    have h : w ++ t.take (8 - w.length) ∈ kept := by simpa using h
    have : ∀ u ∈ kept, ∀ v ∈ kept, u <+: v → v = u := by decide
    have := this w hw _ h (List.prefix_append ..)
    have := congrArg List.length this
    rw [List.length_append] at this
    omega
theorem kept_nought {t : List Nat} (h : t ∈ kept) : builtS (t ++ [48]) small = true ∧ kept.contains (t ++ [48]) = false := by
  revert h
  revert t
  decide
theorem tail19 [Fn T 18 c_law_sign_by] [Fn T 19 c_law_name_by] {n : Nat} {ρ : Env} {a3 a4 a5 a7 a8 a9 : Option (Fl × D)} {fs r : List Nat} {i : Int} {k : Nat} {a2 : Option (Fl × D)} (hf : fs = small ∨ fs = great) (k1 : 1 ≤ k) (k8 : k ≤ 8)
    (hs : SignsOk fs r k) (hρ : ρ = [some (.sh, .int i), some (.sh, .str fs), a2, a3, a4, a5, some (.own, .lst (r.map fun c => .str [c])), a7, a8, a9]) :
    okB (callF T gl n) gl (c_law_name_by.body.tail 6) ρ (.fn (fun d => ∃ t, d = .str t ∧ builtS t fs = true ∧ kept.contains t = false) noX) := by
  subst hρ
  have lv := line_val
  have hl := hs.len
  have h9 : r.length ≤ 8 := by omega
  have hb := signs_built hs k1 k8
  have hj := joined_single r
  (repeat' ((try (conv => whnf)) <;> first | with_reducible refine stepE ?_ | with_reducible refine stepEs ?_ | with_reducible refine stepB ?_ | with_reducible refine stepS ?_ | refine okO_of (o := getAny _ _) rfl ?_ | refine okO_of (o := recv _) rfl ?_)) <;> (try (conv => whnf))
  rw [show (r.map fun c => D.str [c]) = (r.map fun c => [c]).map D.str by simp]
  have h1 : ((r.map fun c => [c]).map List.length).sum = r.length := by
    rw [sum_ones _ (by simp), List.length_map]
  refine o_join (by rw [h1, List.length_map]; simp only [List.length_nil]; omega) ?_
  rw [hj]
  rcases hf with rfl | rfl
  · (repeat' ((try (conv => whnf)) <;> first | with_reducible refine stepE ?_ | with_reducible refine stepEs ?_ | with_reducible refine stepB ?_ | with_reducible refine stepS ?_ | refine okO_of (o := getSh _ _) rfl ?_ | with_reducible refine okK_bl ?_ | with_reducible refine okT_ct (by decide) ?_ | with_reducible refine okT_dec (fun hT => ?_) (fun hT => ?_) | with_reducible refine okT_bl (fun hT => ?_) (fun hT => ?_) | with_reducible refine o_mod (by first | decide | omega | (simp only [List.length_map, List.length_range, List.length_cons, List.length_nil, List.length_append]; omega)) ?_ | with_reducible refine o_fdiv (by first | decide | omega | (simp only [List.length_map, List.length_range, List.length_cons, List.length_nil, List.length_append]; omega)) (by first | decide | omega | (simp only [List.length_map, List.length_range, List.length_cons, List.length_nil, List.length_append]; omega)) ?_ | with_reducible refine o_eqi ?_ | with_reducible refine o_eqs ?_ | with_reducible refine o_inls ?_ | refine okO_of (o := opIx (.str (_ :: _)) _) rfl ?_ | with_reducible refine o_adds (by (simp only [List.length_append, List.length_cons, List.length_nil, List.length_map, line_val]; omega)) ?_)) <;> (try (conv => whnf))
    · refine o_ixl' (by omega) (by simp only [List.length_cons, List.length_nil]; omega) fun d hd => ?_
      obtain ⟨w, hw, hd⟩ : ∃ w ∈ kept, D.str w = d := by
        have := List.mem_of_getElem? hd
        exact List.mem_map.mp (show d ∈ kept.map D.str from this)
      subst hd
      have := (kept_built hw).2.1
      (repeat' ((try (conv => whnf)) <;> first | with_reducible refine stepE ?_ | refine okO_of (o := getSh _ _) rfl ?_ | with_reducible refine o_adds (by (simp only [List.length_append, List.length_cons, List.length_nil, List.length_map, line_val]; omega)) ?_ | with_reducible refine o_sls fun tS hS hL => ?_ | refine okO_of (o := ixPart _ _) rfl ?_)) <;> (try (conv => whnf))
      have e : cut (w ++ r) none (some ((8 : Nat) : Int)) = (w ++ r).take 8 := cut_take _ 8
      obtain ⟨b1, b2⟩ := kept_more hw hb
      exact ⟨_, rfl, by rw [hS]; exact e ▸ b1, by rw [hS]; exact e ▸ b2⟩
    all_goals
      rw [show [D.str [110, 111, 116], D.str [97, 110, 100], D.str [111, 114], D.str [116, 104, 101, 110], D.str [97, 108, 108], D.str [115, 111, 109, 101], D.str [102, 97, 108, 115, 101]] = kept.map D.str from rfl, isIn_strs] at hT
      first
        | exact ⟨_, rfl, hb, hT⟩
        | (have hm : r ∈ kept := by simpa using hT
           obtain ⟨b1, b2⟩ := kept_nought hm
           exact ⟨_, rfl, b1, b2⟩)
  · have gk := great_kept hb
    (repeat' ((try (conv => whnf)) <;> first | with_reducible refine stepE ?_ | with_reducible refine stepEs ?_ | with_reducible refine stepB ?_ | with_reducible refine stepS ?_ | refine okO_of (o := getSh _ _) rfl ?_ | with_reducible refine okT_ff ?_ | with_reducible refine okT_cf (by decide) ?_ | with_reducible refine okT_bl (fun hT => ?_) (fun hT => ?_) | with_reducible refine o_eqs ?_ | with_reducible refine o_inls ?_ | refine okO_of (o := opIx (.str (_ :: _)) _) rfl ?_ | with_reducible refine o_adds (by (simp only [List.length_append, List.length_cons, List.length_nil, List.length_map, line_val]; omega)) ?_)) <;> (try (conv => whnf))
    all_goals first
      | exact ⟨_, rfl, hb, gk⟩
      | (exfalso
         revert hT
         rw [show [D.str [110, 111, 116], D.str [97, 110, 100], D.str [111, 114], D.str [116, 104, 101, 110], D.str [97, 108, 108], D.str [115, 111, 109, 101], D.str [102, 97, 108, 115, 101]] = kept.map D.str from rfl, isIn_strs, gk]
         decide)
      | simp_all
theorem name_by_ok [Fn T 18 c_law_sign_by] [Fn T 19 c_law_name_by] {n : Nat} (hn : 2 ≤ n) (i j : Int) (fs : List Nat) (hf : fs = small ∨ fs = great) :
    okR (callF T gl n 19 [.int i, .str fs, .int j]) noX fun d => ∃ t, d = .str t ∧ builtS t fs = true ∧ kept.contains t = false := by
  refine okR_call (k := 1) hn rfl fun n hn => ?_
  have lv := line_val
  have hfl : fs.length = 26 := by rcases hf with rfl | rfl <;> rfl
  (repeat' ((try (conv => whnf)) <;> first | with_reducible refine stepE ?_ | with_reducible refine stepB ?_ | with_reducible refine stepS ?_ | refine okO_of (o := getSh _ _) rfl ?_ | with_reducible refine o_addi ?_ | with_reducible refine o_mod (by first | decide | omega | (simp only [List.length_map, List.length_range, List.length_cons, List.length_nil, List.length_append]; omega)) ?_ | with_reducible refine o_fdiv (by first | decide | omega | (simp only [List.length_map, List.length_range, List.length_cons, List.length_nil, List.length_append]; omega)) (by first | decide | omega | (simp only [List.length_map, List.length_range, List.length_cons, List.length_nil, List.length_append]; omega)) ?_ | with_reducible refine stepIt ?_)) <;> (try (conv => whnf))
  refine o_rng1 (by omega) (by omega) ?_
  rw [rng_map]
  generalize hk : (1 + i % 8).toNat = k
  have k1 : 1 ≤ k := by omega
  have k8 : k ≤ 8 := by omega
  have ek : 1 + i % 8 = (k : Int) := by omega
  rw [ek]
  refine okComp_each eN (fun c : Nat => D.str [c]) (fun _ c => c ∈ small ++ figs) (fun x _ => ?_) fun r hr hp => ?_
  · (repeat' ((try (conv => whnf)) <;> first | with_reducible refine stepE ?_ | with_reducible refine stepEs ?_ | refine okO_of (o := getSh _ _) rfl ?_ | with_reducible refine o_addi ?_ | with_reducible refine o_fdiv (by first | decide | omega | (simp only [List.length_map, List.length_range, List.length_cons, List.length_nil, List.length_append]; omega)) (by first | decide | omega | (simp only [List.length_map, List.length_range, List.length_cons, List.length_nil, List.length_append]; omega)) ?_ | with_reducible refine o_mul (by first | (exact Or.inl (by decide)) | (exact Or.inr (by decide)) | omega) ?_)) <;> (try (conv => whnf))
    exact okR_then (sign_by_ok (by omega) _ _ (by simp)) fun d ⟨c, hc, hm⟩ => ⟨c, hc, hm⟩
  have hr : r.length = k := by simpa using hr
  have hp : ∀ i c, r[i]? = some c → c ∈ small ++ figs := fun i c h => hp i i c (List.getElem?_range (by
    have := (List.getElem?_eq_some_iff.mp h).1
    omega)) h
  (repeat' ((try (conv => whnf)) <;> first | with_reducible refine stepE ?_ | with_reducible refine stepEs ?_ | with_reducible refine stepB ?_ | with_reducible refine stepS ?_ | refine okO_of (o := getSh _ _) rfl ?_ | with_reducible refine o_fdiv (by first | decide | omega | (simp only [List.length_map, List.length_range, List.length_cons, List.length_nil, List.length_append]; omega)) (by first | decide | omega | (simp only [List.length_map, List.length_range, List.length_cons, List.length_nil, List.length_append]; omega)) ?_ | refine okO_of (o := getOwn _ _) rfl ?_ | refine okO_of (o := listOf _) rfl ?_)) <;> (try (conv => whnf))
  refine okR_then (sign_by_ok (by omega) _ _ (by omega)) fun d ⟨c0, hd, m0⟩ => ?_
  subst hd
  (repeat' ((try (conv => whnf)) <;> (with_reducible refine stepE ?_))) <;> (try (conv => whnf))
  refine o_setIm (f := fun c : Nat => D.str [c]) (by omega) (by omega) ?_
  have s0 : SignsOk fs (r.set 0 c0) k := ⟨by simp [hr], fun _ => by
    have : 0 < r.length := by omega
    simp [this, m0], fun i c hi h => by
    rw [List.getElem?_set_ne (by omega)] at h
    exact hp i c h⟩
  have em0 := Int.emod_nonneg (i / 8) (show (k : Int) ≠ 0 by omega)
  have em1 := Int.emod_lt_of_pos (i / 8) (show 0 < (k : Int) by omega)
  (repeat' ((try (conv => whnf)) <;> first | with_reducible refine stepE ?_ | with_reducible refine stepEs ?_ | with_reducible refine stepB ?_ | with_reducible refine stepS ?_ | refine okO_of (o := getSh _ _) rfl ?_ | with_reducible refine okT_dec (fun hT => ?_) (fun hT => ?_) | with_reducible refine o_addi ?_ | with_reducible refine o_fdiv (by first | decide | omega | (simp only [List.length_map, List.length_range, List.length_cons, List.length_nil, List.length_append]; omega)) (by first | decide | omega | (simp only [List.length_map, List.length_range, List.length_cons, List.length_nil, List.length_append]; omega)) ?_ | with_reducible refine o_mul (by first | (exact Or.inl (by decide)) | (exact Or.inr (by decide)) | omega) ?_ | with_reducible refine o_eqi ?_ | refine okO_of (o := getOwn _ _) rfl ?_)) <;> (try (conv => whnf))
  · refine okR_then (sign_by_ok (by omega) _ _ (by omega)) fun d ⟨c, hd, m⟩ => ?_
    subst hd
    (repeat' ((try (conv => whnf)) <;> (with_reducible refine stepE ?_))) <;> (try (conv => whnf))
    refine o_setIm (f := fun c : Nat => D.str [c]) (by omega) (by simp; omega) ?_
    (repeat' ((try (conv => whnf)) <;> first | refine tail19 hf k1 k8 (signs_set s0 (by omega) (fun _ => m) (fun h => absurd h (by decide))) rfl | with_reducible refine stepB ?_)) <;> (try (conv => whnf))
  · refine okR_then (sign_by_ok (by omega) _ _ (by simp)) fun d ⟨c, hd, m⟩ => ?_
    subst hd
    (repeat' ((try (conv => whnf)) <;> first | with_reducible refine stepE ?_ | refine okO_of (o := getSh _ _) rfl ?_)) <;> (try (conv => whnf))
    refine o_setIm (f := fun c : Nat => D.str [c]) (by omega) (by simp; omega) ?_
    (repeat' ((try (conv => whnf)) <;> first | refine tail19 hf k1 k8 (signs_set s0 (by omega) (fun h => by omega) (fun _ => m)) rfl | with_reducible refine stepB ?_)) <;> (try (conv => whnf))
theorem name_ok [Fn T 18 c_law_sign_by] [Fn T 19 c_law_name_by] {n : Nat} (hn : 2 ≤ n) (i j : Int) : okR (callF T gl n 19 [.int i, .str small, .int j]) noX fun d => ∃ t, d = .str t ∧ nameS t = true :=
  okR_then (name_by_ok hn i j small (.inl rfl)) fun d ⟨t, hd, h1, h2⟩ => ⟨t, hd, by unfold nameS; rw [h1, h2]; rfl⟩
theorem letter_ok [Fn T 18 c_law_sign_by] [Fn T 19 c_law_name_by] {n : Nat} (hn : 2 ≤ n) (i j : Int) : okR (callF T gl n 19 [.int i, .str great, .int j]) noX fun d => ∃ t, d = .str t ∧ letterS t = true :=
  okR_then (name_by_ok hn i j great (.inr rfl)) fun d ⟨t, hd, h1, h2⟩ => ⟨t, hd, h1⟩
/-- a drawn statement -/
def drawn (k z : Nat) (d : D) : Prop := ∃ A : Stm, d = A.enc ∧ A.wf ∧ A.dp ≤ k ∧ A.sz ≤ z
theorem small_by_ok {f : Nat} [Fn T 18 c_law_sign_by] [Fn T 19 c_law_name_by] [Fn T f c_law_small_by] {n : Nat} (hn : 3 ≤ n) (i j : Int) (hi : 0 ≤ i) : okR (callF T gl n f [.int i, .int j]) noX (drawn 1 1) := by
  refine okR_call (k := 2) hn rfl fun n hn => ?_
  have lv := line_val
  (repeat' ((try (conv => whnf)) <;> first | with_reducible refine stepE ?_ | with_reducible refine stepEs ?_ | with_reducible refine stepB ?_ | with_reducible refine stepS ?_ | refine okO_of (o := getSh _ _) rfl ?_ | with_reducible refine okT_dec (fun hT => ?_) (fun hT => ?_) | with_reducible refine o_mod (by first | decide | omega | (simp only [List.length_map, List.length_range, List.length_cons, List.length_nil, List.length_append]; omega)) ?_ | with_reducible refine o_fdiv (by first | decide | omega | (simp only [List.length_map, List.length_range, List.length_cons, List.length_nil, List.length_append]; omega)) (by first | decide | omega | (simp only [List.length_map, List.length_range, List.length_cons, List.length_nil, List.length_append]; omega)) ?_ | with_reducible refine o_eqi ?_ | with_reducible refine stepIt ?_ | refine okO_of (o := listOf _) rfl ?_)) <;> (try (conv => whnf))
  · exact ⟨.fls, rfl, trivial, Nat.le_refl _, Nat.le_refl _⟩
  refine o_rng1 (by omega) (by omega) ?_
  refine okFor_rng0 (I := fun k ρ => ∃ ts : List (List Nat), ∃ v3 v4 v5, ts.length = k ∧ (∀ t ∈ ts, termOk t = true) ∧ ρ = [some (.sh, .int i), some (.sh, .int j), some (.own, .lst (ts.map .str)), v3, v4, v5]) ⟨[], _, _, _, rfl, (fun t h => absurd h (by simp)), rfl⟩ ?_ ?_
  · intro k hk ρ ⟨ts, v3, v4, v5, hl, ht, hρ⟩
    subst hρ
    (repeat' ((try (conv => whnf)) <;> first | with_reducible refine stepE ?_ | with_reducible refine stepEs ?_ | with_reducible refine stepB ?_ | with_reducible refine stepS ?_ | refine okO_of (o := getSh _ _) rfl ?_ | with_reducible refine o_fdiv (by first | decide | omega | (simp only [List.length_map, List.length_range, List.length_cons, List.length_nil, List.length_append]; omega)) (by first | decide | omega | (simp only [List.length_map, List.length_range, List.length_cons, List.length_nil, List.length_append]; omega)) ?_)) <;> (try (conv => whnf))
    refine o_ixl' (by omega) (by simp only [List.length_cons, List.length_nil]; omega) fun d hd => ?_
    obtain ⟨q, hq, q0, q1⟩ : ∃ q : Int, d = .int q ∧ 0 < q ∧ q < 1073741824 := by
      have := List.mem_of_getElem? hd
      simp only [List.mem_cons, List.not_mem_nil, or_false] at this
      rcases this with h | h | h <;> exact ⟨_, h, by decide, by decide⟩
    subst hq
    (repeat' ((try (conv => whnf)) <;> first | with_reducible refine stepE ?_ | with_reducible refine stepEs ?_ | with_reducible refine stepB ?_ | with_reducible refine stepS ?_ | refine okO_of (o := getSh _ _) rfl ?_ | with_reducible refine okT_dec (fun hT => ?_) (fun hT => ?_) | with_reducible refine o_mod (by first | decide | omega | (simp only [List.length_map, List.length_range, List.length_cons, List.length_nil, List.length_append]; omega)) ?_ | with_reducible refine o_fdiv (by first | decide | omega | (simp only [List.length_map, List.length_range, List.length_cons, List.length_nil, List.length_append]; omega)) (by first | decide | omega | (simp only [List.length_map, List.length_range, List.length_cons, List.length_nil, List.length_append]; omega)) ?_ | with_reducible refine o_eqi ?_ | refine okO_of (o := getOwn _ _) rfl ?_)) <;> (try (conv => whnf))
    · refine okR_then (letter_ok (by omega) _ _) fun d ⟨t, hd, h1⟩ => ?_
      subst hd
      (try (conv => whnf)) <;> (try (conv => whnf))
      refine o_app (by simp; omega) ?_
      (repeat' ((try (conv => whnf)) <;> (with_reducible refine stepB ?_))) <;> (try (conv => whnf))
      refine ⟨ts ++ [t], _, _, _, by simp [hl], fun u hu => ?_, by simp; rfl⟩
      rcases List.mem_append.mp hu with hu | hu
      · exact ht u hu
      · simp at hu
        subst hu
        unfold termOk
        rw [h1, Bool.or_true]
    · refine o_ixl' (by omega) (by simp only [List.length_cons, List.length_nil]; omega) fun d hd => ?_
      obtain ⟨q, hq, q0, q1⟩ : ∃ q : Int, d = .int q ∧ 0 < q ∧ q < 1073741824 := by
        have := List.mem_of_getElem? hd
        simp only [List.mem_cons, List.not_mem_nil, or_false] at this
        rcases this with h | h <;> exact ⟨_, h, by decide, by decide⟩
      subst hq
      (repeat' ((try (conv => whnf)) <;> first | with_reducible refine stepE ?_ | with_reducible refine stepEs ?_ | refine okO_of (o := getSh _ _) rfl ?_ | with_reducible refine o_fdiv (by first | decide | omega | (simp only [List.length_map, List.length_range, List.length_cons, List.length_nil, List.length_append]; omega)) (by first | decide | omega | (simp only [List.length_map, List.length_range, List.length_cons, List.length_nil, List.length_append]; omega)) ?_)) <;> (try (conv => whnf))
      refine okR_then (name_ok (by omega) _ _) fun d ⟨t, hd, h1⟩ => ?_
      subst hd
      (try (conv => whnf)) <;> (try (conv => whnf))
      refine o_app (by simp; omega) ?_
      (repeat' ((try (conv => whnf)) <;> (with_reducible refine stepB ?_))) <;> (try (conv => whnf))
      refine ⟨ts ++ [t], _, _, _, by simp [hl], fun u hu => ?_, by simp; rfl⟩
      rcases List.mem_append.mp hu with hu | hu
      · exact ht u hu
      · simp at hu
        subst hu
        unfold termOk
        rw [h1, Bool.true_or]
  · intro ρ ⟨ts, v3, v4, v5, hl, ht, hρ⟩
    subst hρ
    (repeat' ((try (conv => whnf)) <;> first | with_reducible refine stepE ?_ | with_reducible refine stepEs ?_ | with_reducible refine stepB ?_ | with_reducible refine stepS ?_ | refine okO_of (o := getSh _ _) rfl ?_ | with_reducible refine o_mod (by first | decide | omega | (simp only [List.length_map, List.length_range, List.length_cons, List.length_nil, List.length_append]; omega)) ?_ | with_reducible refine o_fdiv (by first | decide | omega | (simp only [List.length_map, List.length_range, List.length_cons, List.length_nil, List.length_append]; omega)) (by first | decide | omega | (simp only [List.length_map, List.length_range, List.length_cons, List.length_nil, List.length_append]; omega)) ?_)) <;> (try (conv => whnf))
    refine okR_then (name_ok (by omega) _ _) fun d ⟨t, hd, h1⟩ => ?_
    subst hd
    (repeat' ((try (conv => whnf)) <;> first | with_reducible refine stepE ?_ | with_reducible refine stepEs ?_ | with_reducible refine stepB ?_ | with_reducible refine stepS ?_ | refine okO_of (o := getSh _ _) rfl ?_ | refine okO_of (o := opF _ _) rfl ?_ | refine okO_of (o := getAny _ _) rfl ?_)) <;> (try (conv => whnf))
    exact ⟨.is t ts, rfl, ⟨h1, by omega, ht⟩, Nat.le_refl _, Nat.le_refl _⟩
theorem wrapped_ok [Fn T 18 c_law_sign_by] [Fn T 19 c_law_name_by] [Fn T 21 c_law_wrapped] {n : Nat} (hn : 3 ≤ n) (A B : Stm) (i j : Int) {k za zb : Nat} (ha : A.wf) (hb : B.wf) (da : A.dp ≤ k) (db : B.dp ≤ k) (sa : A.sz ≤ za) (sb : B.sz ≤ zb) :
    okR (callF T gl n 21 [A.enc, .int i, B.enc, .int j]) noX (drawn (k + 1) (za + zb + 1)) := by
  refine okR_call (k := 2) hn rfl fun n hn => ?_
  (repeat' ((try (conv => whnf)) <;> first | with_reducible refine stepE ?_ | with_reducible refine stepEs ?_ | with_reducible refine stepB ?_ | with_reducible refine stepS ?_ | refine okO_of (o := getSh _ _) rfl ?_ | with_reducible refine okT_dec (fun hT => ?_) (fun hT => ?_) | with_reducible refine o_subi ?_ | with_reducible refine o_mod (by first | decide | omega | (simp only [List.length_map, List.length_range, List.length_cons, List.length_nil, List.length_append]; omega)) ?_ | with_reducible refine o_fdiv (by first | decide | omega | (simp only [List.length_map, List.length_range, List.length_cons, List.length_nil, List.length_append]; omega)) (by first | decide | omega | (simp only [List.length_map, List.length_range, List.length_cons, List.length_nil, List.length_append]; omega)) ?_ | refine okO_of (o := opC _ (.int _) (.int _)) rfl ?_)) <;> (try (conv => whnf))
  · exact ⟨.not A, rfl, ha, by simp only [Stm.dp]; omega, by simp only [Stm.sz]; omega⟩
  · refine o_ixl' (by omega) (by simp only [List.length_cons, List.length_nil]; omega) fun d hd => ?_
    obtain ⟨o, rfl⟩ : ∃ o : Op, d = .str o.s := by
      have := List.mem_of_getElem? hd
      simp only [List.mem_cons, List.not_mem_nil, or_false] at this
      rcases this with h | h | h
      · exact ⟨.and, h⟩
      · exact ⟨.or, h⟩
      · exact ⟨.thn, h⟩
    (repeat' ((try (conv => whnf)) <;> first | with_reducible refine stepE ?_ | with_reducible refine stepEs ?_ | with_reducible refine stepB ?_ | with_reducible refine stepS ?_ | refine okO_of (o := getSh _ _) rfl ?_ | with_reducible refine okT_dec (fun hT => ?_) (fun hT => ?_) | with_reducible refine o_mod (by first | decide | omega | (simp only [List.length_map, List.length_range, List.length_cons, List.length_nil, List.length_append]; omega)) ?_ | with_reducible refine o_fdiv (by first | decide | omega | (simp only [List.length_map, List.length_range, List.length_cons, List.length_nil, List.length_append]; omega)) (by first | decide | omega | (simp only [List.length_map, List.length_range, List.length_cons, List.length_nil, List.length_append]; omega)) ?_ | with_reducible refine o_eqi ?_)) <;> (try (conv => whnf))
    · exact ⟨.bin o B A, rfl, ⟨hb, ha⟩, by simp only [Stm.dp]; omega, by simp only [Stm.sz]; omega⟩
    · exact ⟨.bin o A B, rfl, ⟨ha, hb⟩, by simp only [Stm.dp]; omega, by simp only [Stm.sz]; omega⟩
  · refine okR_then (letter_ok (by omega) _ _) fun d ⟨t, hd, h1⟩ => ?_
    subst hd
    (repeat' ((try (conv => whnf)) <;> first | with_reducible refine stepE ?_ | with_reducible refine stepEs ?_ | with_reducible refine stepB ?_ | with_reducible refine stepS ?_ | refine okO_of (o := getSh _ _) rfl ?_ | with_reducible refine o_mod (by first | decide | omega | (simp only [List.length_map, List.length_range, List.length_cons, List.length_nil, List.length_append]; omega)) ?_)) <;> (try (conv => whnf))
    refine o_ixl' (by omega) (by simp only [List.length_cons, List.length_nil]; omega) fun d hd => ?_
    obtain ⟨q, rfl⟩ : ∃ q : Bool, d = .str (quS q) := by
      have := List.mem_of_getElem? hd
      simp only [List.mem_cons, List.not_mem_nil, or_false] at this
      rcases this with h | h
      · exact ⟨true, h⟩
      · exact ⟨false, h⟩
    (repeat' ((try (conv => whnf)) <;> first | with_reducible refine stepE ?_ | with_reducible refine stepEs ?_ | refine okO_of (o := getSh _ _) rfl ?_)) <;> (try (conv => whnf))
    exact ⟨.qu q t A, rfl, ⟨h1, ha⟩, by simp only [Stm.dp]; omega, by simp only [Stm.sz]; omega⟩
end
end Ev

/-! Statements drawn. -/
namespace Ev
def baseDp (m : Int) : Nat := if m < 30 then 6 else 1
section
variable {T : Nat → Option FD} {gl : Nat → Option D}
theorem statement_by_ok [Fn T 10 c_law_mixed] [Fn T 18 c_law_sign_by] [Fn T 19 c_law_name_by] [Fn T 20 c_law_small_by] [Fn T 21 c_law_wrapped] [Fn T 22 c_law_statement_by] {n : Nat} (hn : 4 ≤ n) (s : List Int) (a m : Int) (hm : 0 ≤ m) (hm2 : m ≤ 39) :
    okR (callF T gl n 22 [.lst (s.map .int), .int a, .int m]) noX (drawn (baseDp m + m.toNat) (1 + 12 * m.toNat)) := by
  refine okR_call (k := 3) hn rfl fun n hn => ?_
  have lv := line_val
  have hb : 1 ≤ baseDp m := by unfold baseDp; split <;> omega
  (repeat' ((try (conv => whnf)) <;> first | with_reducible refine stepE ?_ | with_reducible refine stepEs ?_ | with_reducible refine stepB ?_ | with_reducible refine stepS ?_ | refine okO_of (o := getSh _ _) rfl ?_)) <;> (try (conv => whnf))
  refine okR_then (mixed_ok (by omega) s _) fun d ⟨b, hd, _, _⟩ => ?_
  subst hd
  (repeat' ((try (conv => whnf)) <;> first | with_reducible refine stepE ?_ | with_reducible refine stepEs ?_ | with_reducible refine stepB ?_ | with_reducible refine stepS ?_ | refine okO_of (o := getSh _ _) rfl ?_ | with_reducible refine o_addi ?_)) <;> (try (conv => whnf))
  refine okR_then (mixed_ok (by omega) s _) fun d ⟨q, hd, q0, _⟩ => ?_
  subst hd
  (repeat' ((try (conv => whnf)) <;> first | with_reducible refine stepE ?_ | with_reducible refine stepEs ?_ | refine okO_of (o := getSh _ _) rfl ?_)) <;> (try (conv => whnf))
  refine okR_then (small_by_ok (by omega) _ _ q0) fun d ⟨A, hd, wA, dA, sA⟩ => ?_
  subst hd
  (repeat' ((try (conv => whnf)) <;> first | with_reducible refine stepE ?_ | with_reducible refine stepB ?_ | with_reducible refine stepS ?_ | refine okO_of (o := getSh _ _) rfl ?_ | with_reducible refine stepIt ?_)) <;> (try (conv => whnf))
  refine o_rng1 (by omega) (by omega) ?_
  refine okFor_rng0 (I := fun k ρ => ∃ A : Stm, ∃ v5 v6 v7 v8 v9, A.wf ∧ A.dp ≤ baseDp m + k ∧ A.sz ≤ 1 + 12 * k ∧ ρ = [some (.sh, .lst (s.map .int)), some (.sh, .int a), some (.sh, .int m), some (.sh, .int b), some (.sh, A.enc), v5, v6, v7, v8, v9])
    ⟨A, _, _, _, _, _, wA, by omega, by omega, rfl⟩ ?_ ?_
  · intro k hk ρ ⟨A, v5, v6, v7, v8, v9, wA, dA, sA, hρ⟩
    subst hρ
    (repeat' ((try (conv => whnf)) <;> first | with_reducible refine stepE ?_ | with_reducible refine stepEs ?_ | with_reducible refine stepB ?_ | with_reducible refine stepS ?_ | refine okO_of (o := getSh _ _) rfl ?_ | with_reducible refine o_addi ?_ | with_reducible refine o_mul (by first | (exact Or.inl (by decide)) | (exact Or.inr (by decide)) | omega) ?_)) <;> (try (conv => whnf))
    refine okR_then (mixed_ok (by omega) s _) fun d ⟨q, hd, q0, _⟩ => ?_
    subst hd
    (repeat' ((try (conv => whnf)) <;> first | with_reducible refine stepE ?_ | with_reducible refine stepEs ?_ | with_reducible refine stepB ?_ | with_reducible refine stepS ?_ | refine okO_of (o := getSh _ _) rfl ?_ | with_reducible refine o_addi ?_ | with_reducible refine o_mul (by first | (exact Or.inl (by decide)) | (exact Or.inr (by decide)) | omega) ?_)) <;> (try (conv => whnf))
    refine okR_then (mixed_ok (by omega) s _) fun d ⟨q2, hd, q20, _⟩ => ?_
    subst hd
    (repeat' ((try (conv => whnf)) <;> first | with_reducible refine stepE ?_ | with_reducible refine stepEs ?_ | refine okO_of (o := getSh _ _) rfl ?_)) <;> (try (conv => whnf))
    refine okR_then (small_by_ok (by omega) _ _ q20) fun d ⟨O, hd, wO, dO, sO⟩ => ?_
    subst hd
    (repeat' ((try (conv => whnf)) <;> first | with_reducible refine stepE ?_ | with_reducible refine stepEs ?_ | with_reducible refine stepB ?_ | with_reducible refine stepS ?_ | refine okO_of (o := getSh _ _) rfl ?_ | with_reducible refine o_mod (by first | decide | omega | (simp only [List.length_map, List.length_range, List.length_cons, List.length_nil, List.length_append]; omega)) ?_ | with_reducible refine o_fdiv (by first | decide | omega | (simp only [List.length_map, List.length_range, List.length_cons, List.length_nil, List.length_append]; omega)) (by first | decide | omega | (simp only [List.length_map, List.length_range, List.length_cons, List.length_nil, List.length_append]; omega)) ?_ | with_reducible refine o_mul (by first | (exact Or.inl (by decide)) | (exact Or.inr (by decide)) | omega) ?_ | refine okO_of (o := opC _ (.int _) (.int _)) rfl ?_ | refine okO_of (o := opF _ _) rfl ?_ | with_reducible refine stepIt ?_)) <;> (try (conv => whnf))
    refine o_ixl' (by omega) (by simp only [List.length_cons, List.length_nil]; omega) fun d hd => ?_
    obtain ⟨v, rfl, v0, v1⟩ : ∃ v : Nat, d = .int (v : Int) ∧ v + 1 ≤ baseDp m ∧ v ≤ 5 := by
      have := List.mem_of_getElem? hd
      simp only [List.mem_cons, List.not_mem_nil, or_false] at this
      unfold baseDp
      rcases this with h | h | h | h
      · exact ⟨0, h, by split <;> omega, by omega⟩
      · by_cases c : m < 30
        · exact ⟨1, by simpa [c] using h, by rw [if_pos c]; omega, by omega⟩
        · exact ⟨0, by simpa [c] using h, by split <;> omega, by omega⟩
      · exact ⟨0, h, by split <;> omega, by omega⟩
      · by_cases c : m < 30
        · exact ⟨5, by simpa [c] using h, by rw [if_pos c]; omega, by omega⟩
        · exact ⟨0, by simpa [c] using h, by split <;> omega, by omega⟩
    refine o_rng1 (by omega) (by omega) ?_
    refine okFor_rng0 (I := fun j ρ => ∃ O : Stm, ∃ v8 v9, O.wf ∧ O.dp ≤ j + 1 ∧ O.sz ≤ 1 + 2 * j ∧ ρ = [some (.sh, .lst (s.map .int)), some (.sh, .int a), some (.sh, .int m), some (.sh, .int b), some (.sh, A.enc), some (.sh, eN k), some (.sh, .int q), some (.sh, O.enc), v8, v9])
      ⟨O, _, _, wO, by omega, by omega, rfl⟩ ?_ ?_
    · intro j hj ρ ⟨O, v8, v9, wO, dO, sO, hρ⟩
      subst hρ
      (repeat' ((try (conv => whnf)) <;> first | with_reducible refine stepE ?_ | with_reducible refine stepEs ?_ | with_reducible refine stepB ?_ | with_reducible refine stepS ?_ | refine okO_of (o := getSh _ _) rfl ?_ | with_reducible refine o_addi ?_ | with_reducible refine o_mul (by first | (exact Or.inl (by decide)) | (exact Or.inr (by decide)) | omega) ?_)) <;> (try (conv => whnf))
      refine okR_then (mixed_ok (by omega) s _) fun d ⟨q2, hd, q20, _⟩ => ?_
      subst hd
      (repeat' ((try (conv => whnf)) <;> first | with_reducible refine stepE ?_ | with_reducible refine stepEs ?_ | refine okO_of (o := getSh _ _) rfl ?_)) <;> (try (conv => whnf))
      refine okR_then (small_by_ok (by omega) _ _ q20) fun d ⟨P, hd, wP, dP, sP⟩ => ?_
      subst hd
      (repeat' ((try (conv => whnf)) <;> first | with_reducible refine stepE ?_ | with_reducible refine stepEs ?_ | with_reducible refine stepB ?_ | with_reducible refine stepS ?_ | refine okO_of (o := getSh _ _) rfl ?_ | with_reducible refine o_addi ?_ | with_reducible refine o_mul (by first | (exact Or.inl (by decide)) | (exact Or.inr (by decide)) | omega) ?_)) <;> (try (conv => whnf))
      refine okR_then (mixed_ok (by omega) s _) fun d ⟨q3, hd, q30, _⟩ => ?_
      subst hd
      (repeat' ((try (conv => whnf)) <;> first | with_reducible refine stepE ?_ | with_reducible refine stepEs ?_ | refine okO_of (o := getSh _ _) rfl ?_)) <;> (try (conv => whnf))
      refine okR_then (wrapped_ok (k := j + 1) (by omega) O P _ _ wO wP dO (by omega) sO sP) fun d ⟨O2, hd, wO2, dO2, sO2⟩ => ?_
      subst hd
      (repeat' ((try (conv => whnf)) <;> (with_reducible refine stepB ?_))) <;> (try (conv => whnf))
      exact ⟨O2, _, _, wO2, dO2, by omega, rfl⟩
    · intro ρ ⟨O, v8, v9, wO, dO, sO, hρ⟩
      subst hρ
      (repeat' ((try (conv => whnf)) <;> first | with_reducible refine stepE ?_ | with_reducible refine stepEs ?_ | with_reducible refine stepB ?_ | with_reducible refine stepS ?_ | refine okO_of (o := getSh _ _) rfl ?_)) <;> (try (conv => whnf))
      refine okR_then (wrapped_ok (k := baseDp m + k) (by omega) A O _ _ wA wO dA (by omega) sA sO) fun d ⟨A2, hd, wA2, dA2, sA2⟩ => ?_
      subst hd
      (repeat' ((try (conv => whnf)) <;> (with_reducible refine stepB ?_))) <;> (try (conv => whnf))
      exact ⟨A2, _, _, _, _, _, wA2, dA2, by omega, rfl⟩
  · intro ρ ⟨A, v5, v6, v7, v8, v9, wA, dA, sA, hρ⟩
    subst hρ
    (repeat' ((try (conv => whnf)) <;> first | with_reducible refine stepE ?_ | with_reducible refine stepB ?_ | with_reducible refine stepS ?_ | refine okO_of (o := getSh _ _) rfl ?_)) <;> (try (conv => whnf))
    exact ⟨A, rfl, wA, dA, sA⟩
theorem many_by_ok [Fn T 23 c_law_many_by] {n : Nat} (hn : 1 ≤ n) (i : Int) : okR (callF T gl n 23 [.int i]) noX fun d => ∃ m : Int, d = .int m ∧ 0 ≤ m ∧ (m ≤ 6 ∨ m = 39) := by
  refine okR_call (k := 0) hn rfl fun n hn => ?_
  (repeat' ((try (conv => whnf)) <;> first | with_reducible refine stepE ?_ | with_reducible refine stepB ?_ | with_reducible refine stepS ?_ | refine okO_of (o := getSh _ _) rfl ?_ | with_reducible refine okT_dec (fun hT => ?_) (fun hT => ?_) | with_reducible refine o_mod (by first | decide | omega | (simp only [List.length_map, List.length_range, List.length_cons, List.length_nil, List.length_append]; omega)) ?_ | with_reducible refine o_eqi ?_)) <;> (try (conv => whnf))
  · exact ⟨_, rfl, by omega, by omega⟩
  · exact ⟨_, rfl, by omega, by omega⟩
/-- the law's statement: at most forty deep -/
theorem the_statement [Fn T 9 c_law_cell_at] [Fn T 10 c_law_mixed] [Fn T 18 c_law_sign_by] [Fn T 19 c_law_name_by] [Fn T 20 c_law_small_by] [Fn T 21 c_law_wrapped] [Fn T 22 c_law_statement_by] {n : Nat} (hn : 4 ≤ n) (s : List Int) (a m : Int) (h0 : 0 ≤ m) (h1 : m ≤ 6 ∨ m = 39) :
    okR (callF T gl n 22 [.lst (s.map .int), .int a, .int m]) noX (drawn 40 469) :=
  okR_then (statement_by_ok hn s a m h0 (by omega)) fun d ⟨A, hd, wA, dA, sA⟩ => ⟨A, hd, wA, by
    unfold baseDp at dA
    split at dA <;> omega, by omega⟩
end
end Ev

/-! A statement's parts. -/
namespace Ev
def Stm.parts : Stm → List Stm
  | .is _ _ => []
  | .fls => []
  | .not a => [a]
  | .bin _ a b => [a, b]
  | .qu _ _ a => [a]
section
variable {T : Nat → Option FD} {gl : Nat → Option D}
theorem law_parts_ok [Fn T 24 c_law_parts] {n : Nat} (hn : 1 ≤ n) (A : Stm) : callF T gl n 24 [A.enc] = .ok (.lst (A.parts.map Stm.enc)) := by
  refine eq_of_okR (okR_call (k := 0) hn rfl fun n hn => ?_)
  cases A with
  | is w ts =>
    unfold Stm.enc
    (repeat' ((try (conv => whnf)) <;> first | with_reducible refine stepE ?_ | with_reducible refine stepEs ?_ | with_reducible refine stepB ?_ | with_reducible refine stepS ?_ | refine okO_of (o := getSh _ _) rfl ?_ | with_reducible refine okT_tt ?_ | with_reducible refine okT_ct (by decide) ?_ | with_reducible refine o_eqs ?_ | refine okO_of (o := opIx (.tup (_ :: _)) _) rfl ?_)) <;> (try (conv => whnf))
    rfl
  | fls =>
    unfold Stm.enc
    (repeat' ((try (conv => whnf)) <;> first | with_reducible refine stepE ?_ | with_reducible refine stepEs ?_ | with_reducible refine stepB ?_ | with_reducible refine stepS ?_ | refine okO_of (o := getSh _ _) rfl ?_ | with_reducible refine okK_bl ?_ | with_reducible refine okT_ct (by decide) ?_ | with_reducible refine okT_cf (by decide) ?_ | with_reducible refine o_eqs ?_ | refine okO_of (o := opIx (.tup (_ :: _)) _) rfl ?_)) <;> (try (conv => whnf))
    rfl
  | not a =>
    unfold Stm.enc
    (repeat' ((try (conv => whnf)) <;> first | with_reducible refine stepE ?_ | with_reducible refine stepEs ?_ | with_reducible refine stepB ?_ | with_reducible refine stepS ?_ | refine okO_of (o := getSh _ _) rfl ?_ | with_reducible refine okK_bl ?_ | with_reducible refine okT_ct (by decide) ?_ | with_reducible refine okT_cf (by decide) ?_ | with_reducible refine o_eqs ?_ | refine okO_of (o := opIx (.tup (_ :: _)) _) rfl ?_)) <;> (try (conv => whnf))
    rfl
  | bin o a b =>
    unfold Stm.enc
    cases o
    all_goals
      (repeat' ((try (conv => whnf)) <;> first | with_reducible refine stepE ?_ | with_reducible refine stepEs ?_ | with_reducible refine stepB ?_ | with_reducible refine stepS ?_ | refine okO_of (o := getSh _ _) rfl ?_ | with_reducible refine okK_bl ?_ | with_reducible refine okT_cf (by decide) ?_ | with_reducible refine o_eqs ?_ | refine okO_of (o := opIx (.tup (_ :: _)) _) rfl ?_)) <;> (try (conv => whnf))
      rfl
  | qu q x a =>
    unfold Stm.enc
    cases q
    all_goals
      (repeat' ((try (conv => whnf)) <;> first | with_reducible refine stepE ?_ | with_reducible refine stepEs ?_ | with_reducible refine stepB ?_ | with_reducible refine stepS ?_ | refine okO_of (o := getSh _ _) rfl ?_ | with_reducible refine okK_bl ?_ | with_reducible refine okT_tt ?_ | with_reducible refine okT_ct (by decide) ?_ | with_reducible refine okT_cf (by decide) ?_ | with_reducible refine o_eqs ?_ | refine okO_of (o := opIx (.tup (_ :: _)) _) rfl ?_)) <;> (try (conv => whnf))
      rfl
end
end Ev

/-! Statements written. -/
namespace Ev
def Stm.wr : Stm → List Nat
  | .is w ts => if ts.length = 0 then w else w ++ [40] ++ joined [44, 32] ts ++ [41]
  | .fls => [102, 97, 108, 115, 101]
  | .not a => [110, 111, 116, 32] ++ a.wr
  | .bin o a b => [40] ++ a.wr ++ [32] ++ o.s ++ [32] ++ b.wr ++ [41]
  | .qu q x a => quS q ++ [32] ++ x ++ [32] ++ a.wr
theorem built_len {t fs : List Nat} (h : builtS t fs = true) : 1 ≤ t.length ∧ t.length ≤ 8 := by
  unfold builtS at h
  simp only [Bool.and_eq_true, decide_eq_true_eq] at h
  exact ⟨h.1.1.1, h.1.1.2⟩
theorem name_len {t : List Nat} (h : nameS t = true) : 1 ≤ t.length ∧ t.length ≤ 8 := by
  unfold nameS at h
  rw [Bool.and_eq_true] at h
  exact built_len h.1
theorem letter_len {t : List Nat} (h : letterS t = true) : 1 ≤ t.length ∧ t.length ≤ 8 := built_len h
theorem term_len {t : List Nat} (h : termOk t = true) : 1 ≤ t.length ∧ t.length ≤ 8 := by
  unfold termOk at h
  rw [Bool.or_eq_true] at h
  rcases h with h | h
  · exact name_len h
  · exact letter_len h
theorem op_len (o : Op) : o.s.length ≤ 4 := by cases o <;> decide
theorem qu_len (q : Bool) : (quS q).length ≤ 4 := by cases q <;> decide
theorem sum_le_of {l : List (List Nat)} (h : ∀ t ∈ l, t.length ≤ 8) : (l.map List.length).sum ≤ 8 * l.length := by
  induction l with
  | nil => simp
  | cons a l ih =>
    have := ih fun t ht => h t (List.mem_cons_of_mem _ ht)
    have := h a (List.mem_cons_self ..)
    simp only [List.map_cons, List.sum_cons, List.length_cons]
    omega
theorem is_join {ts : List (List Nat)} (h3 : ts.length ≤ 3) (h : ∀ t ∈ ts, termOk t = true) : (ts.map List.length).sum + ts.length * 2 ≤ 30 ∧ (joined [44, 32] ts).length ≤ 30 := by
  have h1 := sum_le_of fun t ht => (term_len (h t ht)).2
  have h2 := joined_len [44, 32] ts
  simp only [List.length_cons, List.length_nil] at h2
  omega
theorem wr_len : ∀ {A : Stm}, A.wf → A.wr.length ≤ 40 * A.sz
  | .is w ts, h => by
    have := name_len h.1
    have := (is_join h.2.1 h.2.2).2
    simp only [Stm.wr, Stm.sz]
    split
    · omega
    · simp only [List.length_append, List.length_cons, List.length_nil]; omega
  | .fls, h => by simp [Stm.wr, Stm.sz]
  | .not a, h => by
    have := wr_len (A := a) h
    simp only [Stm.wr, Stm.sz, List.length_append, List.length_cons, List.length_nil]; omega
  | .bin o a b, h => by
    have := wr_len (A := a) h.1
    have := wr_len (A := b) h.2
    have := op_len o
    simp only [Stm.wr, Stm.sz, List.length_append, List.length_cons, List.length_nil]; omega
  | .qu q x a, h => by
    have := wr_len (A := a) h.2
    have := letter_len h.1
    have := qu_len q
    simp only [Stm.wr, Stm.sz, List.length_append, List.length_cons, List.length_nil]; omega
section
variable {T : Nat → Option FD} {gl : Nat → Option D}
theorem law_written_ok [Fn T 39 c_law_written] : ∀ (A : Stm) {n : Nat}, A.dp + 1 ≤ n → A.wf → A.sz ≤ 300000 → callF T gl n 39 [A.enc] = .ok (.str A.wr)
  | .is w ts, n, hn, wf, hs => by
    refine eq_of_okR (okR_call (k := 1) hn rfl fun n hn => ?_)
    obtain ⟨j1, j2⟩ := is_join wf.2.1 wf.2.2
    have l1 := name_len wf.1
    unfold Stm.enc
    (repeat' ((try (conv => whnf)) <;> first | with_reducible refine stepE ?_ | with_reducible refine stepEs ?_ | with_reducible refine stepB ?_ | with_reducible refine stepS ?_ | refine okO_of (o := getSh _ _) rfl ?_ | with_reducible refine okK_bl ?_ | with_reducible refine okT_ct (by decide) ?_ | with_reducible refine okT_dec (fun hT => ?_) (fun hT => ?_) | with_reducible refine o_eqs ?_ | refine okO_of (o := opC _ (.int _) (.int _)) rfl ?_ | refine okO_of (o := opIx (.tup (_ :: _)) _) rfl ?_ | refine okO_of (o := opF _ _) rfl ?_ | with_reducible refine o_adds (by (simp only [List.length_append, List.length_cons, List.length_nil, List.length_map, line_val]; omega)) ?_ | refine okO_of (o := recv _) rfl ?_)) <;> (try (conv => whnf))
    · have e : ¬ ts.length = 0 := by simp at hT; intro z; simp_all
      refine o_joint (l := ts) (sep := [44, 32]) (by rw [line_val]; show (ts.map List.length).sum + ts.length * 2 ≤ _; omega) ?_
      (repeat' ((try (conv => whnf)) <;> first | with_reducible refine stepE ?_ | with_reducible refine o_adds (by (simp only [List.length_append, List.length_cons, List.length_nil, List.length_map, line_val]; omega)) ?_)) <;> (try (conv => whnf))
      simp only [Stm.wr, if_neg e]
    · have e : ts.length = 0 := by simp at hT; simp [hT]
      simp only [Stm.wr, if_pos e]
  | .fls, n, hn, wf, hs => by
    refine eq_of_okR (okR_call (k := 1) hn rfl fun n hn => ?_)
    unfold Stm.enc
    (repeat' ((try (conv => whnf)) <;> first | with_reducible refine stepE ?_ | with_reducible refine stepB ?_ | with_reducible refine stepS ?_ | refine okO_of (o := getSh _ _) rfl ?_ | with_reducible refine okK_bl ?_ | with_reducible refine okT_ff ?_ | with_reducible refine okT_ct (by decide) ?_ | with_reducible refine okT_cf (by decide) ?_ | with_reducible refine o_eqs ?_ | refine okO_of (o := opIx (.tup (_ :: _)) _) rfl ?_)) <;> (try (conv => whnf))
    rfl
  | .not a, n, hn, wf, hs => by
    refine eq_of_okR (okR_call (k := a.dp + 1) hn rfl fun n hn => ?_)
    have l1 := wr_len (A := a) wf
    simp only [Stm.sz] at hs
    have ih := fun h => law_written_ok a (n := n) h wf (by omega)
    unfold Stm.enc
    (repeat' ((try (conv => whnf)) <;> first | refine okR_of (ih (by omega)) ?_ | with_reducible refine stepE ?_ | with_reducible refine stepEs ?_ | with_reducible refine stepB ?_ | with_reducible refine stepS ?_ | refine okO_of (o := getSh _ _) rfl ?_ | with_reducible refine okT_ff ?_ | with_reducible refine okT_ct (by decide) ?_ | with_reducible refine okT_cf (by decide) ?_ | with_reducible refine o_eqs ?_ | refine okO_of (o := opIx (.tup (_ :: _)) _) rfl ?_ | with_reducible refine o_adds (by (simp only [List.length_append, List.length_cons, List.length_nil, List.length_map, line_val]; omega)) ?_)) <;> (try (conv => whnf))
    rfl
  | .bin o a b, n, hn, wf, hs => by
    refine eq_of_okR (okR_call (k := max a.dp b.dp + 1) hn rfl fun n hn => ?_)
    have l1 := wr_len (A := a) wf.1
    have l2 := wr_len (A := b) wf.2
    simp only [Stm.sz] at hs
    have ih1 := fun h => law_written_ok a (n := n) h wf.1 (by omega)
    have ih2 := fun h => law_written_ok b (n := n) h wf.2 (by omega)
    unfold Stm.enc
    cases o
    all_goals
      have l3 := op_len .and
      have l4 := op_len .or
      have l5 := op_len .thn
      (repeat' ((try (conv => whnf)) <;> first | refine okR_of (ih1 (by omega)) ?_ | refine okR_of (ih2 (by omega)) ?_ | with_reducible refine stepE ?_ | with_reducible refine stepEs ?_ | with_reducible refine stepB ?_ | with_reducible refine stepS ?_ | refine okO_of (o := getSh _ _) rfl ?_ | with_reducible refine okK_bl ?_ | with_reducible refine okT_ff ?_ | with_reducible refine okT_cf (by decide) ?_ | with_reducible refine o_eqs ?_ | refine okO_of (o := opIx (.tup (_ :: _)) _) rfl ?_ | with_reducible refine o_adds (by (simp only [List.length_append, List.length_cons, List.length_nil, List.length_map, line_val]; omega)) ?_)) <;> (try (conv => whnf))
      rfl
  | .qu q x a, n, hn, wf, hs => by
    refine eq_of_okR (okR_call (k := a.dp + 1) hn rfl fun n hn => ?_)
    have l1 := wr_len (A := a) wf.2
    have l2 := letter_len wf.1
    simp only [Stm.sz] at hs
    have ih := fun h => law_written_ok a (n := n) h wf.2 (by omega)
    unfold Stm.enc
    cases q
    all_goals
      have l3 := qu_len true
      have l4 := qu_len false
      (repeat' ((try (conv => whnf)) <;> first | refine okR_of (ih (by omega)) ?_ | with_reducible refine stepE ?_ | with_reducible refine stepEs ?_ | with_reducible refine stepB ?_ | with_reducible refine stepS ?_ | refine okO_of (o := getSh _ _) rfl ?_ | with_reducible refine okK_bl ?_ | with_reducible refine okT_tt ?_ | with_reducible refine okT_ff ?_ | with_reducible refine okT_ct (by decide) ?_ | with_reducible refine okT_cf (by decide) ?_ | with_reducible refine o_eqs ?_ | refine okO_of (o := opIx (.tup (_ :: _)) _) rfl ?_ | with_reducible refine o_adds (by (simp only [List.length_append, List.length_cons, List.length_nil, List.length_map, line_val]; omega)) ?_)) <;> (try (conv => whnf))
      rfl
end
end Ev

/-! Statements read: tokens to a statement. -/
namespace Ev
def tkT : List (List Nat) → List (List Nat)
  | [] => []
  | [t] => [t, [41]]
  | t :: u :: r => t :: [44] :: tkT (u :: r)
/-- a statement's tokens -/
def Stm.tk : Stm → List (List Nat)
  | .is w ts => if ts.length = 0 then [w] else w :: [40] :: tkT ts
  | .fls => [[102, 97, 108, 115, 101]]
  | .not a => [110, 111, 116] :: a.tk
  | .bin o a b => [40] :: (a.tk ++ (o.s :: (b.tk ++ [[41]])))
  | .qu q x a => quS q :: x :: a.tk
theorem tkT_len : ∀ ts : List (List Nat), (tkT ts).length = 2 * ts.length
  | [] => rfl
  | [t] => rfl
  | t :: u :: r => by
    have := tkT_len (u :: r)
    simp only [tkT, List.length_cons] at this ⊢
    omega
theorem drop_at {K r : List (List Nat)} {k : Nat} {t : List Nat} (h : K.drop k = t :: r) : K.getD k [] = t ∧ k < K.length ∧ K.drop (k + 1) = r := by
  have hk : k < K.length := by
    rcases Nat.lt_or_ge k K.length with c | c
    · exact c
    · rw [List.drop_of_length_le c] at h
      cases h
  rw [List.drop_eq_getElem_cons hk] at h
  injection h with h1 h2
  exact ⟨by rw [List.getD_eq_getElem?_getD, List.getElem?_eq_getElem hk]; exact h1, hk, h2⟩
theorem drop_head {K r : List (List Nat)} {k : Nat} (h : K.drop k = r) : K.getD k [] = r.headD [] := by
  cases r with
  | nil =>
    have : K.length ≤ k := by
      have := congrArg List.length h
      simp at this
      omega
    rw [List.getD_eq_getElem?_getD, List.getElem?_eq_none this]
    rfl
  | cons t r => exact (drop_at h).1
section
variable {T : Nat → Option FD} {gl : Nat → Option D}
theorem sure_ok [Fn T 47 c_sure] {n : Nat} (hn : 1 ≤ n) {b : Bool} (hb : b = true) : callF T gl n 47 [.bl b] = .ok .non := by
  subst hb
  refine eq_of_okR (okR_call (k := 0) hn rfl fun n hn => ?_)
  (repeat' ((try (conv => whnf)) <;> first | with_reducible refine stepE ?_ | with_reducible refine stepB ?_ | with_reducible refine stepS ?_ | refine okO_of (o := getSh _ _) rfl ?_ | with_reducible refine okK_bl ?_ | with_reducible refine okT_ntt ?_)) <;> (try (conv => whnf))
theorem token_ok [Fn T 48 c_token_at] {n : Nat} (hn : 1 ≤ n) (K : List (List Nat)) {i : Int} (k : Nat) (e : i = (k : Int)) {t : List Nat} (h : K.getD k [] = t) : callF T gl n 48 [.lst (K.map .str), .int i] = .ok (.str t) := by
  subst e
  refine eq_of_okR (okR_call (k := 0) hn rfl fun n hn => ?_)
  (repeat' ((try (conv => whnf)) <;> first | with_reducible refine stepE ?_ | with_reducible refine stepEs ?_ | with_reducible refine stepB ?_ | with_reducible refine stepS ?_ | refine okO_of (o := getSh _ _) rfl ?_ | with_reducible refine okT_dec (fun hT => ?_) (fun hT => ?_) | refine okO_of (o := opC _ (.int _) (.int _)) rfl ?_ | refine okO_of (o := opF _ _) rfl ?_)) <;> (try (conv => whnf))
  · have hk : k < K.length := by simpa using hT
    refine o_ixl (k := k) (d := .str t) (by rw [List.getElem?_map, List.getElem?_eq_getElem hk, ← h, List.getD_eq_getElem?_getD, List.getElem?_eq_getElem hk]; rfl) ?_
    (try (conv => whnf)) <;> (try (conv => whnf))
  · have hk : K.length ≤ k := by simpa using hT
    rw [← h, List.getD_eq_getElem?_getD, List.getElem?_eq_none hk]
    rfl
theorem okT_rf {b : Bool} {P Q : Prop} (h : b = false) (p : Q) : okT (.bl b) P Q := by subst h; exact okT_ff p
theorem okT_rt {b : Bool} {P Q : Prop} (h : b = true) (p : P) : okT (.bl b) P Q := by subst h; exact okT_tt p
end
end Ev

/-! Texts to tokens. -/
namespace Ev
def isW (c : Nat) : Bool := small.contains c || (great.contains c || figs.contains c)
def alph (c : Nat) : Bool := isW c || [32, 40, 41, 44].contains c
def flsh (run : List Nat) : List (List Nat) := if run = [] then [] else [run]
def tk2 : List Nat → List Nat → List (List Nat)
  | run, [] => flsh run
  | run, c :: r => if isW c then tk2 (run ++ [c]) r else flsh run ++ (if c = 32 then [] else [[c]]) ++ tk2 [] r
def toks (s : List Nat) : List (List Nat) := tk2 [] s
def headNW (s : List Nat) : Prop := ∀ c, s.head? = some c → isW c = false
theorem tk2_run : ∀ (w run r : List Nat), w.all isW = true → tk2 run (w ++ r) = tk2 (run ++ w) r
  | [], run, r, _ => by simp
  | c :: w, run, r, h => by
    simp only [List.all_cons, Bool.and_eq_true] at h
    show tk2 run (c :: (w ++ r)) = _
    rw [tk2, if_pos h.1, tk2_run w (run ++ [c]) r h.2, List.append_assoc]
    rfl
theorem tk2_end {run r : List Nat} (h : headNW r) : tk2 run r = flsh run ++ toks r := by
  cases r with
  | nil => simp [tk2, toks, flsh]
  | cons c r =>
    have := h c rfl
    simp [tk2, toks, this, flsh]
theorem toks_word {w r : List Nat} (h : w.all isW = true) (h0 : w ≠ []) (hr : headNW r) : toks (w ++ r) = w :: toks r := by
  unfold toks
  rw [tk2_run w [] r h, List.nil_append, tk2_end hr]
  simp [flsh, h0]
  rfl
theorem toks_sign {c : Nat} {r : List Nat} (h : isW c = false) : toks (c :: r) = (if c = 32 then [] else [[c]]) ++ toks r := by
  simp [toks, tk2, h, flsh]
theorem toks_blank (r : List Nat) : toks (32 :: r) = toks r := by rw [toks_sign (by decide)]; simp
theorem alnum_isW {c : Nat} (h : alph c = true) : c < 128 ∧ ((Nat.ble 97 c && Nat.ble c 122) || (Nat.ble 65 c && Nat.ble c 90) || (Nat.ble 48 c && Nat.ble c 57)) = isW c := by
  have key : ∀ c ∈ small ++ (great ++ (figs ++ [32, 40, 41, 44])), c < 128 ∧ ((Nat.ble 97 c && Nat.ble c 122) || (Nat.ble 65 c && Nat.ble c 90) || (Nat.ble 48 c && Nat.ble c 57)) = isW c := by decide
  refine key c ?_
  unfold alph isW at h
  simp only [Bool.or_eq_true, List.contains_iff_mem] at h
  simp only [List.mem_append]
  rcases h with (h | h | h) | h
  · exact .inl h
  · exact .inr (.inl h)
  · exact .inr (.inr (.inl h))
  · exact .inr (.inr (.inr h))
theorem cut_mid {α : Type} (xs : List α) (a e : Nat) (h : a ≤ e) (he : e ≤ xs.length) : cut xs (some (a : Int)) (some (e : Int)) = (xs.drop a).take (e - a) := by
  unfold cut
  rw [HT.sIx_nat, HT.sIx_nat, Nat.min_eq_left he, Nat.min_eq_left (by omega)]
theorem drop_cons' {s r : List Nat} {a c : Nat} (h : s.drop a = c :: r) : s[a]? = some c ∧ a < s.length ∧ s.drop (a + 1) = r := by
  have hk : a < s.length := by
    rcases Nat.lt_or_ge a s.length with q | q
    · exact q
    · rw [List.drop_of_length_le q] at h
      cases h
  rw [List.drop_eq_getElem_cons hk] at h
  injection h with h1 h2
  exact ⟨by rw [List.getElem?_eq_getElem hk, h1], hk, h2⟩
theorem drop_get {s : List Nat} {a : Nat} (h : a < s.length) : ∃ c r, s.drop a = c :: r := ⟨_, _, List.drop_eq_getElem_cons h⟩
theorem word_fin {s tS : List Nat} {a e : Nat} {found : List (List Nat)} (h1 : a + 1 ≤ e) (h2 : e ≤ s.length) (hall : ((s.drop a).take (e - a)).all isW = true) (hnw : headNW (s.drop e)) (ht : found ++ toks (s.drop a) = toks s)
    (hS : tS = cut s (some (a : Int)) (some (e : Int))) : (found ++ [tS]) ++ toks (s.drop e) = toks s := by
  rw [cut_mid s a e (by omega) h2] at hS
  have e1 : s.drop a = tS ++ s.drop e := by
    rw [hS]
    have := List.take_append_drop (e - a) (s.drop a)
    rw [List.drop_drop, show a + (e - a) = e by omega] at this
    exact this.symm
  have hne : tS ≠ [] := by
    intro h
    rw [hS] at h
    have := congrArg List.length h
    simp at this
    omega
  rw [e1, toks_word (by rw [hS]; exact hall) hne hnw] at ht
  rw [List.append_assoc]
  exact ht
section
variable {T : Nat → Option FD} {gl : Nat → Option D}
theorem within_ok [Gl gl 0 (.str small)] [Gl gl 1 (.str great)] [Gl gl 2 (.str figs)] [Fn T 45 c_within_words] {n : Nat} (hn : 1 ≤ n) (c : Nat) : callF T gl n 45 [.str [c]] = .ok (.bl (isW c)) := by
  refine eq_of_okR (okR_call (k := 0) hn rfl fun n hn => ?_)
  unfold isW
  generalize hs : small.contains c = a
  generalize hg : great.contains c = b
  generalize hf : figs.contains c = d
  (repeat' ((try (conv => whnf)) <;> first | with_reducible refine stepE ?_ | with_reducible refine stepB ?_ | with_reducible refine stepS ?_ | refine okO_of (o := getSh _ _) rfl ?_ | with_reducible refine okK_bl ?_ | with_reducible refine okT_bl (fun hT => ?_) (fun hT => ?_) | with_reducible refine o_ins ?_ | with_reducible refine okO_of glob_eq ?_)) <;> (try (conv => whnf))
  all_goals simp_all
theorem tokens_of_ok [Gl gl 0 (.str small)] [Gl gl 1 (.str great)] [Gl gl 2 (.str figs)] [Fn T 45 c_within_words] [Fn T 46 c_tokens_of] {n : Nat} (hn : 2 ≤ n) (s : List Nat) (hl : s.length ≤ 1000000) (ha : ∀ c ∈ s, alph c = true) :
    callF T gl n 46 [.str s] = .ok (.lst ((toks s).map .str)) := by
  refine eq_of_okR (okR_call (k := 1) hn rfl fun n hn => ?_)
  have lv := line_val
  (repeat' ((try (conv => whnf)) <;> first | with_reducible refine stepE ?_ | with_reducible refine stepEs ?_ | with_reducible refine stepB ?_ | with_reducible refine stepS ?_ | refine okO_of (o := listOf _) rfl ?_)) <;> (try (conv => whnf))
  refine okWh_ind (I := fun m ρ => ∃ (a : Nat) (found : List (List Nat)) (v3 : Option (Fl × D)), m = s.length - a ∧ a ≤ s.length ∧ found.length ≤ a ∧ found ++ toks (s.drop a) = toks s ∧ ρ = [some (.sh, .str s), some (.own, .lst (found.map .str)), some (.sh, .int (a : Int)), v3])
    ?_ _ s.length _ (by unfold turns; omega) ⟨0, [], _, rfl, Nat.zero_le _, Nat.le_refl _, rfl, rfl⟩
  rintro m ρ ⟨a, found, v3, hm, ha1, hf, ht, rfl⟩
  (repeat' ((try (conv => whnf)) <;> first | with_reducible refine stepE ?_ | with_reducible refine stepEs ?_ | with_reducible refine stepB ?_ | with_reducible refine stepS ?_ | refine okO_of (o := getSh _ _) rfl ?_ | with_reducible refine okT_dec (fun hT => ?_) (fun hT => ?_) | with_reducible refine o_addi ?_ | refine okO_of (o := opC _ (.int _) (.int _)) rfl ?_ | refine okO_of (o := opF _ _) rfl ?_ | refine okO_of (o := getOwn _ _) rfl ?_)) <;> (try (conv => whnf))
  · have hlt : a < s.length := by simpa using hT
    obtain ⟨c, r, hd⟩ := drop_get hlt
    obtain ⟨g1, _, hd2⟩ := drop_cons' hd
    have hc : alph c = true := ha c (List.mem_of_getElem? g1)
    (repeat' ((try (conv => whnf)) <;> first | refine o_ixs (k := a) g1 ?_ | refine okR_of (within_ok (by omega) c) ?_ | with_reducible refine stepE ?_ | with_reducible refine stepEs ?_ | with_reducible refine stepB ?_ | with_reducible refine stepS ?_ | refine okO_of (o := getSh _ _) rfl ?_ | with_reducible refine okT_bl (fun hT => ?_) (fun hT => ?_) | with_reducible refine o_nes ?_ | with_reducible refine o_nins ?_ | with_reducible refine o_sls fun tS hS hL => ?_ | refine okO_of (o := ixPart _ _) rfl ?_ | refine okO_of (o := getOwn _ _) rfl ?_)) <;> (try (conv => whnf))
    · have hcw : isW c = true := hT
      have hc32 : ([c] == [32]) = false := by
        rw [beq_eq_false_iff_ne]
        intro h
        injection h with h
        subst h
        revert hcw
        decide
      refine okWh_ind (I := fun m2 ρ => ∃ e : Nat, m2 = s.length - e ∧ a + 1 ≤ e ∧ e ≤ s.length ∧ ((s.drop a).take (e - a)).all isW = true ∧ ρ = [some (.sh, .str s), some (.own, .lst (found.map .str)), some (.sh, .int (a : Int)), some (.sh, .int (e : Int))])
        ?_ _ (s.length - (a + 1)) _ (by unfold turns; omega) ⟨a + 1, rfl, Nat.le_refl _, hlt, by rw [hd, show a + 1 - a = 1 by omega]; simp [hcw], rfl⟩
      rintro m2 ρ ⟨e, hm2, he1, he2, hall, rfl⟩
      (repeat' ((try (conv => whnf)) <;> first | refine okT_rt (b := !(_ == _)) (by rw [hc32]; rfl) ?_ | refine o_ixs (k := a) g1 ?_ | refine o_ixs' (by omega) (by omega) (fun c2 g2 => ?_) | refine o_app (by simp; omega) ?_ | refine okR_of (within_ok (by omega) _) ?_ | with_reducible refine stepE ?_ | with_reducible refine stepEs ?_ | with_reducible refine stepB ?_ | with_reducible refine stepS ?_ | refine okO_of (o := getSh _ _) rfl ?_ | with_reducible refine okK_bl ?_ | with_reducible refine okT_ff ?_ | with_reducible refine okT_dec (fun hT => ?_) (fun hT => ?_) | with_reducible refine okT_bl (fun hT => ?_) (fun hT => ?_) | with_reducible refine o_addi ?_ | with_reducible refine o_nes ?_ | refine okO_of (o := opC _ (.int _) (.int _)) rfl ?_ | refine okO_of (o := opF _ _) rfl ?_ | with_reducible refine o_sls fun tS hS hL => ?_ | refine okO_of (o := ixPart _ _) rfl ?_ | refine okO_of (o := getOwn _ _) rfl ?_)) <;> (try (conv => whnf))
      · have he3 : e < s.length := by omega
        have g2' : s[e]? = some c2 := by simpa using g2
        refine ⟨s.length - (e + 1), by omega, e + 1, rfl, by omega, he3, ?_, by simp [setV]⟩
        have e1 : e + 1 - a = (e - a) + 1 := by omega
        rw [e1, List.take_add_one, List.all_append, hall, List.getElem?_drop, show a + (e - a) = e by omega, g2']
        simp [hT]
      · have g2' : s[e]? = some c2 := by simpa using g2
        refine ⟨s.length - e, by omega, e, found ++ [tS], _, rfl, he2, by simp; omega, ?_, by simp [setV, setOwn]; rfl⟩
        refine word_fin he1 he2 hall (fun c' h => ?_) ht hS
        rw [List.head?_drop, g2'] at h
        cases h
        exact hT
      · have he3 : e = s.length := by omega
        refine ⟨s.length - e, by omega, e, found ++ [tS], _, rfl, he2, by simp; omega, ?_, by simp [setV, setOwn]; rfl⟩
        refine word_fin he1 he2 hall (fun c' h => ?_) ht hS
        rw [List.drop_of_length_le (by omega)] at h
        cases h
    · exfalso
      rename_i h1
      unfold alph at hc
      simp_all
    · have e2 : tS = [c] := by
        rw [hS, show ((a : Int) + 1) = ((a + 1 : Nat) : Int) by omega, cut_mid s a (a + 1) (by omega) hlt, hd, show a + 1 - a = 1 by omega]
        rfl
      refine o_app (by simp; omega) ?_
      (repeat' ((try (conv => whnf)) <;> first | with_reducible refine stepE ?_ | with_reducible refine stepB ?_ | with_reducible refine stepS ?_ | refine okO_of (o := getSh _ _) rfl ?_)) <;> (try (conv => whnf))
      have hc32 : ¬ c = 32 := by
        rintro rfl
        simp at hT
      refine ⟨s.length - (a + 1), by omega, a + 1, found ++ [tS], _, rfl, hlt, by simp; omega, ?_, by simp [setV, setOwn]; rfl⟩
      rw [hd, toks_sign (by assumption)] at ht
      rw [hd2, ← ht, e2, if_neg hc32]
      simp
    · have hc32 : c = 32 := by
        simp at hT
        exact hT
      refine ⟨s.length - (a + 1), by omega, a + 1, found, _, rfl, hlt, by omega, ?_, by simp [setV]; rfl⟩
      rw [hd, hc32, toks_blank] at ht
      rw [hd2]
      exact ht
  · have he : a = s.length := by
      have : ¬ (a : Int) < s.length := by simpa using hT
      omega
    rw [List.drop_of_length_le (by omega)] at ht
    have e0 : toks [] = [] := rfl
    rw [e0, List.append_nil] at ht
    rw [ht]
theorem o_aln {c : Nat} {P : D → Prop} (h : alph c = true) (p : P (.bl (isW c))) : okO (opM .isalnum (.str [c]) []) P := okO_of (by
  obtain ⟨h1, h2⟩ := alnum_isW h
  show (if c < 128 then some (D.bl _) else none) = _
  rw [if_pos h1, h2]) p
theorem law_tokens_ok [Fn T 54 c_law_tokens] {n : Nat} (hn : 1 ≤ n) (s : List Nat) (hl : s.length ≤ 4000000) (ha : ∀ c ∈ s, alph c = true) :
    callF T gl n 54 [.str s] = .ok (.lst ((toks s).map .str)) := by
  refine eq_of_okR (okR_call (k := 0) hn rfl fun n hn => ?_)
  have lv := line_val
  (repeat' ((try (conv => whnf)) <;> first | with_reducible refine stepE ?_ | with_reducible refine stepEs ?_ | with_reducible refine stepB ?_ | with_reducible refine stepS ?_ | refine okO_of (o := getSh _ _) rfl ?_ | with_reducible refine stepIt ?_ | refine okO_of (o := itemsOf _) rfl ?_)) <;> (try (conv => whnf))
  refine okFor_map (dec := fun c => D.str [c]) (I := fun us ρ => ∃ (vs : List Nat) (found : List (List Nat)) (run : List Nat) (v3 v4 : Option (Fl × D)), vs ++ us = s ∧ found.length + run.length ≤ 2 * vs.length ∧ run.length ≤ vs.length ∧ run.all isW = true ∧ found ++ tk2 run us = toks s ∧ ρ = [some (.sh, .str s), some (.sh, .lst (found.map .str)), some (.sh, .str run), v3, v4])
    (fun u us ρ ⟨vs, found, run, v3, v4, hv, hf, hr, hw, ht, hρ⟩ => ?_) (fun ρ ⟨vs, found, run, v3, v4, hv, hf, hr, hw, ht, hρ⟩ => ?_) ⟨[], [], [], _, _, rfl, by simp, by simp, rfl, rfl, rfl⟩
  · subst hρ
    have hu : alph u = true := ha u (by rw [← hv]; simp)
    have hvl : vs.length < s.length := by
      have := congrArg List.length hv
      simp at this
      omega
    have hr32 : (run == [32]) = false := by
      rw [beq_eq_false_iff_ne]
      rintro rfl
      revert hw
      decide
    have hu0 : ([u] == []) = false := rfl
    (repeat' ((try (conv => whnf)) <;> first | refine okT_rt (b := !(run == [32])) (by rw [hr32]; rfl) ?_ | refine okT_rt (b := !([u] == [])) rfl ?_ | refine o_aln hu ?_ | refine o_adds (by simp; omega) ?_ | refine o_addl (by simp; omega) ?_ | with_reducible refine stepE ?_ | with_reducible refine stepEs ?_ | with_reducible refine stepB ?_ | with_reducible refine stepS ?_ | refine okO_of (o := getSh _ _) rfl ?_ | with_reducible refine okK_bl ?_ | with_reducible refine okT_ff ?_ | with_reducible refine okT_bl (fun hT => ?_) (fun hT => ?_) | with_reducible refine o_nes ?_ | with_reducible refine stepIt ?_ | refine okO_of (o := recv _) rfl ?_ | refine okO_of (o := itemsOf _) rfl ?_ | with_reducible refine okComp_cons ?_ | with_reducible refine okComp_nil ?_)) <;> (try (conv => whnf))
    · refine ⟨vs ++ [u], found, run ++ [u], some (.sh, .str [u]), v4, by simp [hv], by simp; omega, by simp; omega, by rw [List.all_append, hw]; simp [hT], ?_, by simp [setV]⟩
      rw [tk2, if_pos hT] at ht
      exact ht
    all_goals
      have hW : isW u = false := by assumption
      rw [tk2, if_neg (by rw [hW]; decide)] at ht
    · have h1 : ¬ u = 32 := by
        rintro rfl
        simp at hT
      have h2 : ¬ run = [] := by simp_all
      rw [if_neg h1] at ht
      refine ⟨vs ++ [u], found ++ [run, [u]], [], some (.sh, .str [u]), v4, by simp [hv], by simp; omega, by simp, rfl, ?_, by simp [setV]⟩
      simpa [flsh, h2] using ht
    · have h1 : u = 32 := by simpa using hT
      have h2 : ¬ run = [] := by simp_all
      rw [if_pos h1] at ht
      refine ⟨vs ++ [u], found ++ [run], [], some (.sh, .str [u]), v4, by simp [hv], by simp; omega, by simp, rfl, ?_, by simp [setV]⟩
      simpa [flsh, h2] using ht
    · have h1 : ¬ u = 32 := by
        rintro rfl
        simp at hT
      have h2 : run = [] := by simp_all
      subst h2
      rw [if_neg h1] at ht
      refine ⟨vs ++ [u], found ++ [[u]], [], some (.sh, .str [u]), v4, by simp [hv], by simp; omega, by simp, rfl, ?_, by simp [setV]⟩
      simpa [flsh] using ht
    · have h1 : u = 32 := by simpa using hT
      have h2 : run = [] := by simp_all
      subst h2
      rw [if_pos h1] at ht
      refine ⟨vs ++ [u], found, [], some (.sh, .str [u]), v4, by simp [hv], by simp; omega, by simp, rfl, ?_, by simp [setV]⟩
      simpa [flsh] using ht
  · subst hρ
    have hvl : vs.length = s.length := by rw [← hv]; simp
    (repeat' ((try (conv => whnf)) <;> first | refine o_addl (by simp; omega) ?_ | with_reducible refine stepE ?_ | with_reducible refine stepEs ?_ | with_reducible refine stepB ?_ | with_reducible refine stepS ?_ | refine okO_of (o := getSh _ _) rfl ?_ | with_reducible refine okT_bl (fun hT => ?_) (fun hT => ?_) | with_reducible refine o_nes ?_ | with_reducible refine stepIt ?_ | refine okO_of (o := itemsOf _) rfl ?_ | with_reducible refine okComp_cons ?_ | with_reducible refine okComp_nil ?_)) <;> (try (conv => whnf))
    all_goals
      rw [← ht]
      simp_all [tk2, flsh]
end
end Ev

/-! A statement's text, its tokens; blanks between. -/
namespace Ev
theorem built_word {t fs : List Nat} (hf : fs = small ∨ fs = great) (h : builtS t fs = true) : t.all isW = true ∧ t ≠ [] ∧ t.length ≤ 8 := by
  have hl := built_len h
  unfold builtS at h
  simp only [Bool.and_eq_true, decide_eq_true_eq] at h
  obtain ⟨⟨⟨h1, h2⟩, h3⟩, h4⟩ := h
  cases t with
  | nil => simp at h1
  | cons c r =>
    refine ⟨?_, by simp, hl.2⟩
    simp only [List.all_cons, Bool.and_eq_true]
    constructor
    · have h3 : fs.contains c = true := h3
      unfold isW
      rcases hf with rfl | rfl
      · rw [h3]; rfl
      · rw [h3]; simp
    · unfold tailOk at h4
      have h4 : r.all (fun c => small.contains c || figs.contains c) = true := h4
      rw [List.all_eq_true] at h4 ⊢
      intro x hx
      have := h4 x hx
      rw [Bool.or_eq_true] at this
      unfold isW
      rcases this with h | h
      · rw [h]; rfl
      · rw [h]; simp
theorem name_word {t : List Nat} (h : nameS t = true) : t.all isW = true ∧ t ≠ [] ∧ t.length ≤ 8 := by
  unfold nameS at h
  rw [Bool.and_eq_true] at h
  exact built_word (.inl rfl) h.1
theorem letter_word {t : List Nat} (h : letterS t = true) : t.all isW = true ∧ t ≠ [] ∧ t.length ≤ 8 := built_word (.inr rfl) h
theorem term_word {t : List Nat} (h : termOk t = true) : t.all isW = true ∧ t ≠ [] ∧ t.length ≤ 8 := by
  unfold termOk at h
  rw [Bool.or_eq_true] at h
  exact h.elim name_word letter_word
def tokOk (t : List Nat) : Prop := (t.all isW = true ∧ t ≠ [] ∨ ∃ c, t = [c] ∧ isW c = false ∧ c ≠ 32 ∧ alph c = true) ∧ t.length ≤ 8
theorem tok_word {t : List Nat} (h : t.all isW = true ∧ t ≠ [] ∧ t.length ≤ 8) : tokOk t := ⟨.inl ⟨h.1, h.2.1⟩, h.2.2⟩
theorem op_word (o : Op) : o.s.all isW = true ∧ o.s ≠ [] ∧ o.s.length ≤ 8 := by cases o <;> decide
theorem qu_word (q : Bool) : (quS q).all isW = true ∧ quS q ≠ [] ∧ (quS q).length ≤ 8 := by cases q <;> decide
theorem sign_tok (c : Nat) (h : isW c = false ∧ c ≠ 32 ∧ alph c = true) : tokOk [c] := ⟨.inr ⟨c, rfl, h⟩, by simp⟩
theorem tkT_ok : ∀ ts : List (List Nat), (∀ t ∈ ts, termOk t = true) → ∀ t ∈ tkT ts, tokOk t
  | [], _, t, h => by cases h
  | [u], hu, t, h => by
    simp only [tkT, List.mem_cons, List.not_mem_nil, or_false] at h
    rcases h with rfl | rfl
    · exact tok_word (term_word (hu _ (by simp)))
    · exact sign_tok 41 (by decide)
  | u :: v :: r, hu, t, h => by
    simp only [tkT, List.mem_cons] at h
    rcases h with rfl | rfl | h
    · exact tok_word (term_word (hu _ (by simp)))
    · exact sign_tok 44 (by decide)
    · exact tkT_ok (v :: r) (fun x hx => hu x (List.mem_cons_of_mem _ hx)) t h
theorem tk_ok : ∀ (A : Stm), A.wf → ∀ t ∈ A.tk, tokOk t
  | .is w ts, wf, t, h => by
    unfold Stm.tk at h
    split at h
    · rw [List.mem_singleton] at h
      subst h
      exact tok_word (name_word wf.1)
    · simp only [List.mem_cons] at h
      rcases h with rfl | rfl | h
      · exact tok_word (name_word wf.1)
      · exact sign_tok 40 (by decide)
      · exact tkT_ok ts wf.2.2 t h
  | .fls, wf, t, h => by
    simp only [Stm.tk, List.mem_singleton] at h
    subst h
    exact tok_word (by decide)
  | .not a, wf, t, h => by
    simp only [Stm.tk, List.mem_cons] at h
    rcases h with rfl | h
    · exact tok_word (by decide)
    · exact tk_ok a wf t h
  | .bin o a b, wf, t, h => by
    simp only [Stm.tk, List.mem_cons, List.mem_append, List.not_mem_nil, or_false] at h
    rcases h with rfl | h | rfl | h | rfl
    · exact sign_tok 40 (by decide)
    · exact tk_ok a wf.1 t h
    · exact tok_word (op_word o)
    · exact tk_ok b wf.2 t h
    · exact sign_tok 41 (by decide)
  | .qu q x a, wf, t, h => by
    simp only [Stm.tk, List.mem_cons] at h
    rcases h with rfl | rfl | h
    · exact tok_word (qu_word q)
    · exact tok_word (letter_word wf.1)
    · exact tk_ok a wf.2 t h
theorem headNW_sign {c : Nat} {r : List Nat} (h : isW c = false) : headNW (c :: r) := fun d e => by
  cases e
  exact h
theorem toks_join : ∀ (ts : List (List Nat)) (rest : List Nat), 0 < ts.length → (∀ t ∈ ts, termOk t = true) → toks (joined [44, 32] ts ++ (41 :: rest)) = tkT ts ++ toks rest
  | [], _, h, _ => by cases h
  | [t], rest, _, ht => by
    have hw := term_word (ht t (by simp))
    show toks (t ++ (41 :: rest)) = _
    rw [toks_word hw.1 hw.2.1 (headNW_sign (by decide)), toks_sign (by decide)]
    rfl
  | t :: u :: r, rest, _, ht => by
    have hw := term_word (ht t (by simp))
    have ih := toks_join (u :: r) rest (by simp) fun x hx => ht x (List.mem_cons_of_mem _ hx)
    show toks ((t ++ ([44, 32] ++ joined [44, 32] (u :: r))) ++ (41 :: rest)) = _
    have e : (t ++ ([44, 32] ++ joined [44, 32] (u :: r))) ++ (41 :: rest) = t ++ (44 :: 32 :: (joined [44, 32] (u :: r) ++ (41 :: rest))) := by simp
    rw [e, toks_word hw.1 hw.2.1 (headNW_sign (by decide)), toks_sign (by decide), toks_blank, ih]
    rfl
theorem toks_wr : ∀ (A : Stm) (rest : List Nat), A.wf → headNW rest → toks (A.wr ++ rest) = A.tk ++ toks rest
  | .is w ts, rest, wf, hr => by
    have hw := name_word wf.1
    unfold Stm.wr Stm.tk
    by_cases h : ts.length = 0
    · rw [if_pos h, if_pos h, toks_word hw.1 hw.2.1 hr]
      rfl
    · rw [if_neg h, if_neg h]
      have e : w ++ [40] ++ joined [44, 32] ts ++ [41] ++ rest = w ++ (40 :: (joined [44, 32] ts ++ (41 :: rest))) := by simp
      rw [e, toks_word hw.1 hw.2.1 (headNW_sign (by decide)), toks_sign (by decide), toks_join ts rest (by omega) wf.2.2]
      rfl
  | .fls, rest, wf, hr => by
    show toks ([102, 97, 108, 115, 101] ++ rest) = _
    rw [toks_word (by decide) (by decide) hr]
    rfl
  | .not a, rest, wf, hr => by
    have e : (Stm.not a).wr ++ rest = [110, 111, 116] ++ (32 :: (a.wr ++ rest)) := rfl
    rw [e, toks_word (by decide) (by decide) (headNW_sign (by decide)), toks_blank, toks_wr a rest wf hr]
    rfl
  | .bin o a b, rest, wf, hr => by
    have ho := op_word o
    have e : (Stm.bin o a b).wr ++ rest = 40 :: (a.wr ++ (32 :: (o.s ++ (32 :: (b.wr ++ (41 :: rest)))))) := by simp [Stm.wr]
    rw [e, toks_sign (by decide), toks_wr a _ wf.1 (headNW_sign (by decide)), toks_blank, toks_word ho.1 ho.2.1 (headNW_sign (by decide)), toks_blank, toks_wr b _ wf.2 (headNW_sign (by decide)), toks_sign (by decide)]
    simp [Stm.tk]
  | .qu q x a, rest, wf, hr => by
    have hq := qu_word q
    have hx := letter_word wf.1
    have e : (Stm.qu q x a).wr ++ rest = quS q ++ (32 :: (x ++ (32 :: (a.wr ++ rest)))) := by simp [Stm.wr]
    rw [e, toks_word hq.1 hq.2.1 (headNW_sign (by decide)), toks_blank, toks_word hx.1 hx.2.1 (headNW_sign (by decide)), toks_blank, toks_wr a rest wf.2 hr]
    rfl
theorem toks_wr0 {A : Stm} (wf : A.wf) : toks A.wr = A.tk := by
  have := toks_wr A [] wf (fun c h => by cases h)
  rw [List.append_nil] at this
  rw [this]
  show A.tk ++ [] = _
  rw [List.append_nil]
theorem word_alph {t : List Nat} (h : t.all isW = true) : t.all alph = true := by
  rw [List.all_eq_true] at h ⊢
  intro x hx
  unfold alph
  rw [h x hx]
  rfl
theorem join_alph : ∀ ts : List (List Nat), (∀ t ∈ ts, termOk t = true) → (joined [44, 32] ts).all alph = true
  | [], _ => rfl
  | [t], ht => word_alph (term_word (ht t (by simp))).1
  | t :: u :: r, ht => by
    have ih := join_alph (u :: r) fun x hx => ht x (List.mem_cons_of_mem _ hx)
    show (t ++ ([44, 32] ++ joined [44, 32] (u :: r))).all alph = true
    rw [List.all_append, List.all_append, ih, word_alph (term_word (ht t (by simp))).1]
    decide
theorem wr_alph : ∀ A : Stm, A.wf → A.wr.all alph = true
  | .is w ts, wf => by
    have hw := word_alph (name_word wf.1).1
    have hj := join_alph ts wf.2.2
    unfold Stm.wr
    split
    · exact hw
    · simp only [List.all_append, hw, hj]
      decide
  | .fls, wf => by decide
  | .not a, wf => by
    have := wr_alph a wf
    simp only [Stm.wr, List.all_append, this]
    decide
  | .bin o a b, wf => by
    have h1 := wr_alph a wf.1
    have h2 := wr_alph b wf.2
    have h3 := word_alph (op_word o).1
    simp only [Stm.wr, List.all_append, h1, h2, h3]
    decide
  | .qu q x a, wf => by
    have h1 := wr_alph a wf.2
    have h2 := word_alph (qu_word q).1
    have h3 := word_alph (letter_word wf.1).1
    simp only [Stm.wr, List.all_append, h1, h2, h3]
    decide
theorem tk_len : ∀ A : Stm, A.wf → A.tk.length ≤ 10 * A.sz
  | .is w ts, wf => by
    have h1 := tkT_len ts
    have h2 := wf.2.1
    unfold Stm.tk Stm.sz
    split
    · simp
    · simp only [List.length_cons]
      omega
  | .fls, wf => by simp [Stm.tk, Stm.sz]
  | .not a, wf => by
    have := tk_len a wf
    simp only [Stm.tk, Stm.sz, List.length_cons]
    omega
  | .bin o a b, wf => by
    have h1 := tk_len a wf.1
    have h2 := tk_len b wf.2
    simp only [Stm.tk, Stm.sz, List.length_cons, List.length_append, List.length_nil]
    omega
  | .qu q x a, wf => by
    have := tk_len a wf.2
    simp only [Stm.tk, Stm.sz, List.length_cons]
    omega
/-- two texts may stand together -/
def fits (x y : List Nat) : Prop := x = [] ∨ headNW y ∨ ∃ c, x.getLast? = some c ∧ isW c = false
theorem tok_alph {t : List Nat} (h : tokOk t) : t.all alph = true := by
  rcases h.1 with ⟨h1, h2⟩ | ⟨c, rfl, h1, h2, h3⟩
  · exact word_alph h1
  · simp [h3]
theorem tok_cons {t : List Nat} (h : tokOk t) : ∃ c r, t = c :: r := by
  rcases h.1 with ⟨h1, h2⟩ | ⟨c, rfl, h1, h2, h3⟩
  · cases t with
    | nil => exact absurd rfl h2
    | cons c r => exact ⟨c, r, rfl⟩
  · exact ⟨c, [], rfl⟩
end Ev

/-! Statements read, as the texts with lines have it. -/
namespace Ev
section
variable {T : Nat → Option FD} {gl : Nat → Option D}
end
end Ev

/-! Any text read: a statement, or it is refused. -/
namespace Ev
/-- the terms of a word: up to r of them, then a bracket -/
def trm : Nat → List (List Nat) → Option (List (List Nat) × List (List Nat))
  | 0, _ => none
  | r + 1, ts => if termOk (ts.headD []) = true then (if (ts.drop 1).headD [] = [41] then some ([ts.headD []], ts.drop 2) else if (ts.drop 1).headD [] = [44] then (trm r (ts.drop 2)).map (fun p => (ts.headD [] :: p.1, p.2)) else none) else none
def opOf (t : List Nat) : Option Op := if t = Op.and.s then some .and else if t = Op.or.s then some .or else if t = Op.thn.s then some .thn else none
def isP (ts : List (List Nat)) : Option (Stm × List (List Nat)) := if nameS (ts.headD []) = true then (if (ts.drop 1).headD [] = [40] then (trm 3 (ts.drop 2)).map (fun p => (.is (ts.headD []) p.1, p.2)) else some (.is (ts.headD []) [], ts.drop 1)) else none
/-- a statement of tokens, and what is left -/
def prs : Nat → List (List Nat) → Option (Stm × List (List Nat))
  | 0, _ => none
  | r + 1, ts =>
    if ts.headD [] = [102, 97, 108, 115, 101] then some (.fls, ts.drop 1)
    else if ts.headD [] = [110, 111, 116] then (prs r (ts.drop 1)).map fun p => (.not p.1, p.2)
    else if ts.headD [] = [97, 108, 108] ∨ ts.headD [] = [115, 111, 109, 101] then (if letterS ((ts.drop 1).headD []) = true then (prs r (ts.drop 2)).map (fun p => (.qu (decide (ts.headD [] = [97, 108, 108])) ((ts.drop 1).headD []) p.1, p.2)) else none)
    else if ts.headD [] = [40] then (prs r (ts.drop 1)).bind fun p => (opOf (p.2.headD [])).bind fun o => (prs r (p.2.drop 1)).bind fun q => if q.2.headD [] = [41] then some (.bin o p.1 q.1, q.2.drop 1) else none
    else isP ts
/-- a text read -/
def rdAny (s : List Nat) : Option Stm := if s.all alph = true then (prs 40 (toks s)).bind fun p => if p.2 = [] then some p.1 else none else none
theorem drop_pos {K : List (List Nat)} {k : Nat} (h : (K.drop k).headD [] ≠ []) : k < K.length := by
  by_cases q : k < K.length
  · exact q
  · rw [List.drop_of_length_le (by omega)] at h
    exact absurd rfl h
section
variable {T : Nat → Option FD} {gl : Nat → Option D}
theorem sure_x [Fn T 47 c_sure] {n : Nat} (hn : 1 ≤ n) {b : Bool} {X : Nat → Prop} {P : D → Prop} (h1 : b = true → P .non) (h0 : b = false → X 43) : okR (callF T gl n 47 [.bl b]) X P := by
  refine okR_call (k := 0) hn rfl fun n hn => ?_
  cases b with
  | true =>
    (repeat' ((try (conv => whnf)) <;> first | with_reducible refine stepE ?_ | with_reducible refine stepB ?_ | with_reducible refine stepS ?_ | refine okO_of (o := getSh _ _) rfl ?_ | with_reducible refine okK_bl ?_ | with_reducible refine okT_ntt ?_)) <;> (try (conv => whnf))
    exact h1 rfl
  | false =>
    (repeat' ((try (conv => whnf)) <;> first | with_reducible refine stepE ?_ | with_reducible refine stepB ?_ | with_reducible refine stepS ?_ | refine okO_of (o := getSh _ _) rfl ?_ | with_reducible refine okK_bl ?_ | with_reducible refine okT_nff ?_)) <;> (try (conv => whnf))
    exact h0 rfl
theorem token_x [Fn T 48 c_token_at] {n : Nat} (hn : 1 ≤ n) (K : List (List Nat)) {i : Int} (k : Nat) (e : i = (k : Int)) : callF T gl n 48 [.lst (K.map .str), .int i] = .ok (.str ((K.drop k).headD [])) := token_ok hn K k e (drop_head rfl)
theorem tokens_any [Gl gl 0 (.str small)] [Gl gl 1 (.str great)] [Gl gl 2 (.str figs)] [Fn T 45 c_within_words] [Fn T 46 c_tokens_of] {n : Nat} (hn : 2 ≤ n) (s : List Nat) (hl : s.length ≤ 1000000) :
    okR (callF T gl n 46 [.str s]) (fun c => c = 43 ∧ s.all alph = false) fun d => d = .lst ((toks s).map .str) ∧ s.all alph = true := by
  by_cases ha : s.all alph = true
  · exact okR_of (tokens_of_ok hn s hl fun c hc => List.all_eq_true.mp ha c hc) ⟨rfl, ha⟩
  have ha : s.all alph = false := by simpa using ha
  refine okR_mono (P := fun _ => False) (X := fun c => c = 43) ?_ (fun _ h => h.elim) (fun c h => ⟨h, ha⟩)
  refine okR_call (k := 1) hn rfl fun n hn => ?_
  have lv := line_val
  (repeat' ((try (conv => whnf)) <;> first | with_reducible refine stepE ?_ | with_reducible refine stepEs ?_ | with_reducible refine stepB ?_ | with_reducible refine stepS ?_ | refine okO_of (o := listOf _) rfl ?_)) <;> (try (conv => whnf))
  refine okWh_ind (I := fun m ρ => ∃ (a : Nat) (found : List (List Nat)) (v3 : Option (Fl × D)), m = s.length - a ∧ a ≤ s.length ∧ found.length ≤ a ∧ (s.take a).all alph = true ∧ ρ = [some (.sh, .str s), some (.own, .lst (found.map .str)), some (.sh, .int (a : Int)), v3])
    ?_ _ s.length _ (by unfold turns; omega) ⟨0, [], _, rfl, Nat.zero_le _, Nat.le_refl _, rfl, rfl⟩
  rintro m ρ ⟨a, found, v3, hm, ha1, hf, ht, rfl⟩
  (repeat' ((try (conv => whnf)) <;> first | with_reducible refine stepE ?_ | with_reducible refine stepEs ?_ | with_reducible refine stepB ?_ | with_reducible refine stepS ?_ | refine okO_of (o := getSh _ _) rfl ?_ | with_reducible refine okT_dec (fun hT => ?_) (fun hT => ?_) | with_reducible refine o_addi ?_ | refine okO_of (o := opC _ (.int _) (.int _)) rfl ?_ | refine okO_of (o := opF _ _) rfl ?_ | refine okO_of (o := getOwn _ _) rfl ?_)) <;> (try (conv => whnf))
  · have hlt : a < s.length := by simpa using hT
    obtain ⟨c, r, hd⟩ := drop_get hlt
    obtain ⟨g1, _, hd2⟩ := drop_cons' hd
    have tk : ∀ e, a + 1 ≤ e → e ≤ s.length → alph c = true → ((s.drop (a + 1)).take (e - (a + 1))).all isW = true → (s.take e).all alph = true := fun e h1 h2 hc hw => by
      obtain ⟨j, rfl⟩ : ∃ j, e = a + 1 + j := ⟨e - (a + 1), by omega⟩
      rw [show a + 1 + j - (a + 1) = j by omega, hd2] at hw
      have e1 : s.take (a + 1 + j) = s.take a ++ (c :: r.take j) := by
        rw [show a + 1 + j = a + (j + 1) by omega, List.take_add, hd, List.take_succ_cons]
      rw [e1, List.all_append, ht, List.all_cons, hc]
      simp only [Bool.true_and]
      rw [List.all_eq_true] at hw ⊢
      intro x hx
      have := hw x hx
      unfold alph
      rw [this]; rfl
    (repeat' ((try (conv => whnf)) <;> first | refine o_ixs (k := a) g1 ?_ | refine okR_of (within_ok (by omega) c) ?_ | with_reducible refine stepE ?_ | with_reducible refine stepEs ?_ | with_reducible refine stepB ?_ | with_reducible refine stepS ?_ | refine okO_of (o := getSh _ _) rfl ?_ | with_reducible refine okT_bl (fun hT => ?_) (fun hT => ?_) | with_reducible refine o_nes ?_ | with_reducible refine o_nins ?_ | with_reducible refine o_sls fun tS hS hL => ?_ | refine okO_of (o := ixPart _ _) rfl ?_ | refine okO_of (o := getOwn _ _) rfl ?_)) <;> (try (conv => whnf))
    · have hcw : isW c = true := hT
      have hc : alph c = true := by unfold alph; rw [hcw]; rfl
      have hc32 : ([c] == [32]) = false := by
        rw [beq_eq_false_iff_ne]
        intro h
        injection h with h
        subst h
        revert hcw
        decide
      refine okWh_ind (I := fun m2 ρ => ∃ e : Nat, m2 = s.length - e ∧ a + 1 ≤ e ∧ e ≤ s.length ∧ ((s.drop (a + 1)).take (e - (a + 1))).all isW = true ∧ ρ = [some (.sh, .str s), some (.own, .lst (found.map .str)), some (.sh, .int (a : Int)), some (.sh, .int (e : Int))])
        ?_ _ (s.length - (a + 1)) _ (by unfold turns; omega) ⟨a + 1, rfl, Nat.le_refl _, hlt, by simp, rfl⟩
      rintro m2 ρ ⟨e, hm2, he1, he2, hall, rfl⟩
      (repeat' ((try (conv => whnf)) <;> first | refine okT_rt (b := !(_ == _)) (by rw [hc32]; rfl) ?_ | refine o_ixs (k := a) g1 ?_ | refine o_ixs' (by omega) (by omega) (fun c2 g2 => ?_) | refine o_app (by simp; omega) ?_ | refine okR_of (within_ok (by omega) _) ?_ | with_reducible refine stepE ?_ | with_reducible refine stepEs ?_ | with_reducible refine stepB ?_ | with_reducible refine stepS ?_ | refine okO_of (o := getSh _ _) rfl ?_ | with_reducible refine okK_bl ?_ | with_reducible refine okT_ff ?_ | with_reducible refine okT_dec (fun hT => ?_) (fun hT => ?_) | with_reducible refine okT_bl (fun hT => ?_) (fun hT => ?_) | with_reducible refine o_addi ?_ | with_reducible refine o_nes ?_ | refine okO_of (o := opC _ (.int _) (.int _)) rfl ?_ | refine okO_of (o := opF _ _) rfl ?_ | with_reducible refine o_sls fun tS hS hL => ?_ | refine okO_of (o := ixPart _ _) rfl ?_ | refine okO_of (o := getOwn _ _) rfl ?_)) <;> (try (conv => whnf))
      · have he3 : e < s.length := by omega
        have g2' : s[e]? = some c2 := by simpa using g2
        refine ⟨s.length - (e + 1), by omega, e + 1, rfl, by omega, he3, ?_, by simp [setV]⟩
        have e1 : e + 1 - (a + 1) = (e - (a + 1)) + 1 := by omega
        rw [e1, List.take_add_one, List.all_append, hall, List.getElem?_drop, show a + 1 + (e - (a + 1)) = e by omega, g2']
        simp [hT]
      · exact ⟨s.length - e, by omega, e, found ++ [tS], _, rfl, he2, by simp; omega, tk e he1 he2 hc hall, by simp [setV, setOwn]; rfl⟩
      · exact ⟨s.length - e, by omega, e, found ++ [tS], _, rfl, he2, by simp; omega, tk e he1 he2 hc hall, by simp [setV, setOwn]; rfl⟩
    · have hc : alph c = true := by
        have h4 : [32, 40, 41, 44].contains c = true := by
          rename_i h9
          cases q : [32, 40, 41, 44].contains c with
          | true => rfl
          | false => rw [q] at h9; cases h9
        unfold alph
        rw [h4, Bool.or_true]
      refine o_app (by simp; omega) ?_
      (repeat' ((try (conv => whnf)) <;> first | with_reducible refine stepE ?_ | with_reducible refine stepB ?_ | with_reducible refine stepS ?_ | refine okO_of (o := getSh _ _) rfl ?_)) <;> (try (conv => whnf))
      refine ⟨s.length - (a + 1), by omega, a + 1, found ++ [tS], _, rfl, hlt, by simp; omega, tk (a + 1) (Nat.le_refl _) hlt hc (by simp), by simp [setV, setOwn]; rfl⟩
    · have hc32 : c = 32 := by
        simp at hT
        exact hT
      refine ⟨s.length - (a + 1), by omega, a + 1, found, _, rfl, hlt, by omega, tk (a + 1) (Nat.le_refl _) hlt (by rw [hc32]; decide) (by simp), by simp [setV]; rfl⟩
  · have he : a = s.length := by
      have : ¬ (a : Int) < s.length := by simpa using hT
      omega
    rw [he, List.take_length, ha] at ht
    cases ht
theorem read_terms_any [Gl gl 0 (.str small)] [Gl gl 1 (.str great)] [Gl gl 2 (.str figs)] [Gl gl 3 (.tup (kept.map .str))] [Gl gl 4 (.int 8)] [Fn T 5 c_built] [Fn T 6 c_is_name] [Fn T 7 c_is_letter] [Fn T 47 c_sure] [Fn T 48 c_token_at] [Fn T 49 c_read_terms]
    {n : Nat} (hn : 5 ≤ n) (K : List (List Nat)) (k : Nat) {i : Int} (e : i = (k : Int)) :
    okR (callF T gl n 49 [.lst (K.map .str), .int i]) (fun c => c = 43 ∧ trm 3 (K.drop k) = none) fun d => ∃ (l : List (List Nat)) (j : Nat), d = .tup [.tup (l.map .str), .int (j : Int)] ∧ j ≤ K.length ∧ trm 3 (K.drop k) = some (l, K.drop j) := by
  subst e
  refine okR_call (k := 4) hn rfl fun n hn => ?_
  have lv := line_val
  (repeat' ((try (conv => whnf)) <;> first | with_reducible refine stepE ?_ | with_reducible refine stepEs ?_ | with_reducible refine stepB ?_ | with_reducible refine stepS ?_ | refine okO_of (o := listOf _) rfl ?_)) <;> (try (conv => whnf))
  refine okWh_ind (I := fun m ρ => ∃ (l : List (List Nat)) (p : Nat) (v3 v4 : Option (Fl × D)), l.length + m = 4 ∧ l.length ≤ 3 ∧ trm 3 (K.drop k) = (trm (3 - l.length) (K.drop p)).map (fun r => (l ++ r.1, r.2)) ∧ ρ = [some (.sh, .lst (K.map .str)), some (.sh, .int (p : Int)), some (.own, .lst (l.map .str)), v3, v4])
    ?_ _ 4 _ (by unfold turns; omega) ⟨[], k, _, _, rfl, by simp, by simp, rfl⟩
  rintro m ρ ⟨l, p, v3, v4, hm, h3, hl, rfl⟩
  obtain ⟨t, ht⟩ : ∃ t, (K.drop p).headD [] = t := ⟨_, rfl⟩
  obtain ⟨u, hu⟩ : ∃ u, (K.drop (p + 1)).headD [] = u := ⟨_, rfl⟩
  have tk1 := token_x (T := T) (gl := gl) (n := n) (by omega) K p (i := (p : Int)) rfl
  have tk2 := token_x (T := T) (gl := gl) (n := n) (by omega) K (p + 1) (i := (p : Int) + 1) (by omega)
  rw [ht] at tk1
  rw [hu] at tk2
  have bad : (termOk t && decide (l.length < 3)) = false → trm 3 (K.drop k) = none := fun h => by
    rw [hl]
    by_cases q : l.length < 3
    · obtain ⟨r, hr⟩ : ∃ r, 3 - l.length = r + 1 := ⟨2 - l.length, by omega⟩
      rw [hr]
      have : termOk t = false := by simpa [q] using h
      simp only [trm, ht, this, Bool.false_eq_true, if_false]
      rfl
    · rw [show 3 - l.length = 0 by omega]
      rfl
  have bad2 : termOk t = true → l.length < 3 → u ≠ [44] → u ≠ [41] → trm 3 (K.drop k) = none := fun h q h1 h2 => by
    rw [hl]
    obtain ⟨r, hr⟩ : ∃ r, 3 - l.length = r + 1 := ⟨2 - l.length, by omega⟩
    rw [hr]
    simp only [trm, ht, h, List.drop_drop, hu, if_true, if_neg h1, if_neg h2]
    rfl
  have fin : termOk t = true → l.length < 3 → u = [41] → ∃ (l' : List (List Nat)) (j : Nat), D.tup [.tup ((l ++ [t]).map .str), .int ((p : Int) + 2)] = .tup [.tup (l'.map .str), .int (j : Int)] ∧ j ≤ K.length ∧ trm 3 (K.drop k) = some (l', K.drop j) := fun h q h1 => by
    have hk := drop_pos (K := K) (k := p + 1) (by rw [hu, h1]; simp)
    refine ⟨l ++ [t], p + 2, rfl, hk, ?_⟩
    rw [hl]
    obtain ⟨r, hr⟩ : ∃ r, 3 - l.length = r + 1 := ⟨2 - l.length, by omega⟩
    rw [hr]
    simp only [trm, ht, h, List.drop_drop, hu, h1, if_true]
    rfl
  have step : termOk t = true → l.length < 3 → u = [44] → trm 3 (K.drop k) = (trm (3 - (l ++ [t]).length) (K.drop (p + 2))).map (fun r => ((l ++ [t]) ++ r.1, r.2)) := fun h q h1 => by
    rw [hl]
    rw [show 3 - l.length = (3 - (l ++ [t]).length) + 1 by simp; omega]
    simp only [trm, ht, h, List.drop_drop, hu, h1, if_true, if_neg (show ¬ ([44] : List Nat) = [41] by decide)]
    generalize trm (3 - (l ++ [t]).length) (K.drop (p + 2)) = z
    cases z <;> simp
  have tO : nameS t = true ∨ letterS t = true → termOk t = true := fun h => by unfold termOk; rcases h with h | h <;> rw [h] <;> simp
  have lO : decide (((l.map D.str).length : Int) < 3) = true → l.length < 3 := fun h => by simp at h; omega
  have lN : decide (((l.map D.str).length : Int) < 3) = false → ¬ l.length < 3 := fun h => by simp at h; omega
  have F1 : (nameS t = true ∨ letterS t = true) → decide (((l.map D.str).length : Int) < 3) = true → (u == [41]) = true → ∃ (l' : List (List Nat)) (j : Nat), D.tup [.tup (l.map .str ++ [.str t]), .int ((p : Int) + 2)] = .tup [.tup (l'.map .str), .int (j : Int)] ∧ j ≤ K.length ∧ trm 3 (K.drop k) = some (l', K.drop j) := fun h1 h2 h3 => by
    have := fin (tO h1) (lO h2) (eq_of_beq h3)
    rw [List.map_append] at this
    exact this
  have F2 : (nameS t = true ∨ letterS t = true) → decide (((l.map D.str).length : Int) < 3) = true → (u == [44]) = true → l.length + 1 ≤ 3 ∧ trm 3 (K.drop k) = (trm (3 - (l ++ [t]).length) (K.drop (p + 2))).map (fun r => ((l ++ [t]) ++ r.1, r.2)) := fun h1 h2 h3 => ⟨lO h2, step (tO h1) (lO h2) (eq_of_beq h3)⟩
  have F3 : nameS t = false → letterS t = false → trm 3 (K.drop k) = none := fun h1 h2 => bad (by unfold termOk; rw [h1, h2]; rfl)
  have F4 : decide (((l.map D.str).length : Int) < 3) = false → trm 3 (K.drop k) = none := fun h => bad (by simp [lN h])
  have F5 : (nameS t = true ∨ letterS t = true) → decide (((l.map D.str).length : Int) < 3) = true → (u == [44]) = false → (u == [41]) = false → trm 3 (K.drop k) = none := fun h1 h2 h3 h4 => bad2 (tO h1) (lO h2) (ne_of_beq_false h3) (ne_of_beq_false h4)
  have F6 : (u == [41]) = true → (u == [44]) = true → False := fun h1 h2 => by rw [eq_of_beq h1] at h2; exact absurd h2 (by decide)
  (repeat' ((try (conv => whnf)) <;> first | refine sure_x (by omega) (fun hB => ?_) (fun hB => ?_) | refine o_app (by simp; omega) ?_ | refine okR_of (tk1) ?_ | refine okR_of (tk2) ?_ | refine okR_of (is_name_ok (by omega) t) ?_ | refine okR_of (is_letter_ok (by omega) t) ?_ | with_reducible refine stepE ?_ | with_reducible refine stepEs ?_ | with_reducible refine stepB ?_ | with_reducible refine stepS ?_ | refine okO_of (o := getSh _ _) rfl ?_ | with_reducible refine okK_bl ?_ | with_reducible refine okT_tt ?_ | with_reducible refine okT_bl (fun hT => ?_) (fun hT => ?_) | with_reducible refine o_addi ?_ | with_reducible refine o_eqs ?_ | refine okO_of (o := opC _ (.int _) (.int _)) rfl ?_ | refine okO_of (o := opF _ _) rfl ?_ | refine okO_of (o := getAny _ _) rfl ?_ | refine okO_of (o := getOwn _ _) rfl ?_)) <;> (try (conv => whnf))
  all_goals first
    | contradiction
    | exact absurd ((‹(u == [41]) = true›).symm.trans ‹(u == [41]) = false›) (by decide)
    | exact absurd ((‹(u == [44]) = true›).symm.trans ‹(u == [44]) = false›) (by decide)
    | exact F1 (.inl (by assumption)) (by assumption) (by assumption)
    | exact F1 (.inr (by assumption)) (by assumption) (by assumption)
    | exact ⟨rfl, F3 (by assumption) (by assumption)⟩
    | exact ⟨rfl, F4 (by assumption)⟩
    | exact ⟨rfl, F5 (.inl (by assumption)) (by assumption) (by assumption) (by assumption)⟩
    | exact ⟨rfl, F5 (.inr (by assumption)) (by assumption) (by assumption) (by assumption)⟩
    | exact (F2 (.inl (by assumption)) (by assumption) (by assumption)).elim fun g1 g2 => ⟨m - 1, by omega, l ++ [t], p + 2, _, _, by simp; omega, by simp; omega, g2, by simp; rfl⟩
    | exact (F2 (.inr (by assumption)) (by assumption) (by assumption)).elim fun g1 g2 => ⟨m - 1, by omega, l ++ [t], p + 2, _, _, by simp; omega, by simp; omega, g2, by simp; rfl⟩
    | trace_state
end
end Ev

/-! Any text read: a statement, or it is refused (the reader). -/
namespace Ev
theorem opOf_in {t : List Nat} : isIn (.str t) [.str [97, 110, 100], .str [111, 114], .str [116, 104, 101, 110]] = (opOf t).isSome := by
  rw [show [D.str [97, 110, 100], .str [111, 114], .str [116, 104, 101, 110]] = [Op.and.s, Op.or.s, Op.thn.s].map .str from rfl, isIn_strs]
  unfold opOf
  by_cases h1 : t = Op.and.s
  · subst h1; rfl
  by_cases h2 : t = Op.or.s
  · subst h2; rfl
  by_cases h3 : t = Op.thn.s
  · subst h3; rfl
  rw [if_neg h1, if_neg h2, if_neg h3]
  simp [h1, h2, h3]
theorem opOf_get {t : List Nat} {o : Op} (h : opOf t = some o) : t = o.s := by
  unfold opOf at h
  split at h
  · cases h; assumption
  · split at h
    · cases h; assumption
    · split at h
      · cases h; assumption
      · cases h
section
variable {T : Nat → Option FD} {gl : Nat → Option D}
theorem read_is_any [Gl gl 0 (.str small)] [Gl gl 1 (.str great)] [Gl gl 2 (.str figs)] [Gl gl 3 (.tup (kept.map .str))] [Gl gl 4 (.int 8)] [Fn T 5 c_built] [Fn T 6 c_is_name] [Fn T 7 c_is_letter] [Fn T 8 c_is_word] [Fn T 47 c_sure] [Fn T 48 c_token_at] [Fn T 49 c_read_terms] [Fn T 50 c_read_is]
    {n : Nat} (hn : 6 ≤ n) (K : List (List Nat)) (k : Nat) {i : Int} (e : i = (k : Int)) :
    okR (callF T gl n 50 [.lst (K.map .str), .int i]) (fun c => c = 43 ∧ isP (K.drop k) = none) fun d => ∃ (A : Stm) (j : Nat), d = .tup [A.enc, .int (j : Int)] ∧ j ≤ K.length ∧ isP (K.drop k) = some (A, K.drop j) := by
  subst e
  refine okR_call (k := 5) hn rfl fun n hn => ?_
  obtain ⟨t, ht⟩ : ∃ t, (K.drop k).headD [] = t := ⟨_, rfl⟩
  obtain ⟨u, hu⟩ : ∃ u, (K.drop (k + 1)).headD [] = u := ⟨_, rfl⟩
  have tk1 := token_x (T := T) (gl := gl) (n := n) (by omega) K k (i := (k : Int)) rfl
  have tk2 := token_x (T := T) (gl := gl) (n := n) (by omega) K (k + 1) (i := (k : Int) + 1) (by omega)
  rw [ht] at tk1
  rw [hu] at tk2
  have e0 : isP (K.drop k) = if nameS t = true then (if u = [40] then (trm 3 (K.drop (k + 2))).map (fun p => (.is t p.1, p.2)) else some (.is t [], K.drop (k + 1))) else none := by
    unfold isP
    simp only [ht, List.drop_drop, hu]
  (repeat' ((try (conv => whnf)) <;> first | refine sure_x (by omega) (fun hB => ?_) (fun hB => ?_) | refine okR_of (tk1) ?_ | refine okR_of (tk2) ?_ | refine okR_of (is_word_ok (by omega) t) ?_ | with_reducible refine stepE ?_ | with_reducible refine stepEs ?_ | with_reducible refine stepB ?_ | with_reducible refine stepS ?_ | refine okO_of (o := getSh _ _) rfl ?_ | with_reducible refine okT_bl (fun hT => ?_) (fun hT => ?_) | with_reducible refine o_addi ?_ | with_reducible refine o_nes ?_)) <;> (try (conv => whnf))
  · have hk := drop_pos (K := K) (k := k) (by rw [ht]; rintro rfl; revert hB; decide)
    have hu0 : u ≠ [40] := ne_of_beq_false (by simpa using hT)
    exact ⟨.is t [], k + 1, rfl, hk, by rw [e0, if_pos hB, if_neg hu0]⟩
  · have hu0 : u = [40] := by
      have : (u == [40]) = true := by simpa using hT
      exact eq_of_beq this
    refine okR_mono (read_terms_any (by omega) K (k + 2) (by omega)) (fun d ⟨l, j, hd, hj, hp⟩ => ?_) (fun c ⟨hc, hp⟩ => ?_)
    · subst hd
      (repeat' ((try (conv => whnf)) <;> first | with_reducible refine stepE ?_ | with_reducible refine stepEs ?_ | with_reducible refine stepB ?_ | with_reducible refine stepS ?_ | refine okO_of (o := getSh _ _) rfl ?_ | refine okO_of (o := opIx (.tup (_ :: _)) _) rfl ?_)) <;> (try (conv => whnf))
      exact ⟨.is t l, j, rfl, hj, by rw [e0, if_pos hB, if_pos hu0, hp]; rfl⟩
    · exact ⟨hc, by rw [e0, if_pos hB, if_pos hu0, hp]; rfl⟩
  · exact ⟨rfl, by rw [e0, if_neg (by rw [hB]; simp)]⟩
end
end Ev

/-! k06: any text read (ids 51 to 53). -/
namespace Ev
section
variable {T : Nat → Option FD} {gl : Nat → Option D}
theorem read_from_any6 [Gl gl 0 (.str small)] [Gl gl 1 (.str great)] [Gl gl 2 (.str figs)] [Gl gl 3 (.tup (kept.map .str))] [Gl gl 4 (.int 8)] [Fn T 5 c_built] [Fn T 6 c_is_name] [Fn T 7 c_is_letter] [Fn T 8 c_is_word] [Fn T 47 c_sure] [Fn T 48 c_token_at] [Fn T 49 c_read_terms] [Fn T 50 c_read_is] [Fn T 51 c_read_two] [Fn T 52 c_read_from] :
    ∀ (r : Nat) {n : Nat} (K : List (List Nat)) (k : Nat) {i room : Int}, i = (k : Int) → room = (r : Int) → 2 * r + 8 ≤ n →
    okR (callF T gl n 52 [.lst (K.map .str), .int i, .int room]) (fun c => c = 43 ∧ prs r (K.drop k) = none) fun d => ∃ (A : Stm) (j : Nat), d = .tup [A.enc, .int (j : Int)] ∧ j ≤ K.length ∧ prs r (K.drop k) = some (A, K.drop j)
  | 0, n, K, k, i, room, e, e2, hn => by
    subst e e2
    refine okR_call (k := 7) hn rfl fun n hn => ?_
    (repeat' ((try (conv => whnf)) <;> first | refine sure_x (by omega) (fun hB => ?_) (fun hB => ?_) | with_reducible refine stepE ?_ | with_reducible refine stepEs ?_ | with_reducible refine stepB ?_ | with_reducible refine stepS ?_ | refine okO_of (o := getSh _ _) rfl ?_ | refine okO_of (o := opC _ (.int _) (.int _)) rfl ?_)) <;> (try (conv => whnf))
    · exact absurd hB (by decide)
    · exact ⟨rfl, rfl⟩
  | r + 1, n, K, k, i, room, e, e2, hn => by
    subst e e2
    refine okR_call (k := 2 * r + 9) hn rfl fun n hn => ?_
    have ih := fun {n : Nat} (p : Nat) {i room : Int} => read_from_any6 r (n := n) K p (i := i) (room := room)
    obtain ⟨t, ht⟩ : ∃ t, (K.drop k).headD [] = t := ⟨_, rfl⟩
    obtain ⟨u, hu⟩ : ∃ u, (K.drop (k + 1)).headD [] = u := ⟨_, rfl⟩
    have tk1 := token_x (T := T) (gl := gl) (n := n) (by omega) K k (i := (k : Int)) rfl
    have tk2 := token_x (T := T) (gl := gl) (n := n) (by omega) K (k + 1) (i := (k : Int) + 1) (by omega)
    rw [ht] at tk1
    rw [hu] at tk2
    have e0 : prs (r + 1) (K.drop k) = if t = [102, 97, 108, 115, 101] then some (.fls, K.drop (k + 1)) else if t = [110, 111, 116] then (prs r (K.drop (k + 1))).map (fun p => (.not p.1, p.2)) else if t = [97, 108, 108] ∨ t = [115, 111, 109, 101] then (if letterS u = true then (prs r (K.drop (k + 2))).map (fun p => (.qu (decide (t = [97, 108, 108])) u p.1, p.2)) else none) else if t = [40] then (prs r (K.drop (k + 1))).bind (fun p => (opOf (p.2.headD [])).bind fun o => (prs r (p.2.drop 1)).bind fun q => if q.2.headD [] = [41] then some (.bin o p.1 q.1, q.2.drop 1) else none) else isP (K.drop k) := by
      rw [prs]
      simp only [ht, List.drop_drop, hu]
    cases h1 : t == [102, 97, 108, 115, 101]
    case true =>
      have h1 := eq_of_beq h1
      subst h1
      have hk := drop_pos (K := K) (k := k) (by rw [ht]; simp)
      (repeat' ((try (conv => whnf)) <;> first | refine okR_of (tk1) ?_ | refine okR_of (sure_ok (by omega) (by (first | rfl | assumption | (simp_all [termOk]; done) | (simp; omega) | omega))) ?_ | with_reducible refine stepE ?_ | with_reducible refine stepEs ?_ | with_reducible refine stepB ?_ | with_reducible refine stepS ?_ | refine okO_of (o := getSh _ _) rfl ?_ | with_reducible refine okT_ct (by decide) ?_ | with_reducible refine o_addi ?_ | with_reducible refine o_eqs ?_ | refine okO_of (o := opC _ (.int _) (.int _)) rfl ?_)) <;> (try (conv => whnf))
      exact ⟨.fls, k + 1, rfl, hk, by rw [e0, if_pos rfl]⟩
    have g1 := ne_of_beq_false h1
    rw [if_neg g1] at e0
    cases h2 : t == [110, 111, 116]
    case true =>
      have h2 := eq_of_beq h2
      subst h2
      rw [if_pos rfl] at e0
      (repeat' ((try (conv => whnf)) <;> first | refine okR_of (tk1) ?_ | refine okR_of (sure_ok (by omega) (by (first | rfl | assumption | (simp_all [termOk]; done) | (simp; omega) | omega))) ?_ | with_reducible refine stepE ?_ | with_reducible refine stepEs ?_ | with_reducible refine stepB ?_ | with_reducible refine stepS ?_ | refine okO_of (o := getSh _ _) rfl ?_ | with_reducible refine okT_ct (by decide) ?_ | with_reducible refine okT_cf (by decide) ?_ | with_reducible refine o_addi ?_ | with_reducible refine o_subi ?_ | with_reducible refine o_eqs ?_ | refine okO_of (o := opC _ (.int _) (.int _)) rfl ?_)) <;> (try (conv => whnf))
      refine okR_mono (ih (k + 1) (by omega) (by omega) (by omega)) (fun d ⟨A, j, hd, hj, hp⟩ => ?_) (fun c ⟨hc, hp⟩ => ?_)
      · subst hd
        (repeat' ((try (conv => whnf)) <;> first | with_reducible refine stepE ?_ | with_reducible refine stepEs ?_ | with_reducible refine stepB ?_ | with_reducible refine stepS ?_ | refine okO_of (o := getSh _ _) rfl ?_ | refine okO_of (o := opIx (.tup (_ :: _)) _) rfl ?_)) <;> (try (conv => whnf))
        exact ⟨.not A, j, rfl, hj, by rw [e0, hp]; rfl⟩
      · exact ⟨hc, by rw [e0, hp]; rfl⟩
    have g2 := ne_of_beq_false h2
    rw [if_neg g2] at e0
    by_cases h3 : t = [97, 108, 108] ∨ t = [115, 111, 109, 101]
    · rw [if_pos h3] at e0
      rcases h3 with h3 | h3 <;> subst h3
      all_goals
        (repeat' ((try (conv => whnf)) <;> first | refine sure_x (by omega) (fun hB => ?_) (fun hB => ?_) | refine okR_of (tk1) ?_ | refine okR_of (tk2) ?_ | refine okR_of (is_letter_ok (by omega) u) ?_ | with_reducible refine stepE ?_ | with_reducible refine stepEs ?_ | with_reducible refine stepB ?_ | with_reducible refine stepS ?_ | refine okO_of (o := getSh _ _) rfl ?_ | with_reducible refine okK_bl ?_ | with_reducible refine okT_tt ?_ | with_reducible refine okT_ct (by decide) ?_ | with_reducible refine okT_cf (by decide) ?_ | with_reducible refine o_addi ?_ | with_reducible refine o_subi ?_ | with_reducible refine o_eqs ?_ | refine okO_of (o := opC _ (.int _) (.int _)) rfl ?_)) <;> (try (conv => whnf))
        · rename_i hB0 _
          rw [if_pos hB] at e0
          refine okR_mono (ih (k + 2) (by omega) (by omega) (by omega)) (fun d ⟨A, j, hd, hj, hp⟩ => ?_) (fun c ⟨hc, hp⟩ => ?_)
          · subst hd
            (repeat' ((try (conv => whnf)) <;> first | with_reducible refine stepE ?_ | with_reducible refine stepEs ?_ | with_reducible refine stepB ?_ | with_reducible refine stepS ?_ | refine okO_of (o := getSh _ _) rfl ?_ | refine okO_of (o := opIx (.tup (_ :: _)) _) rfl ?_)) <;> (try (conv => whnf))
            first
              | exact ⟨.qu true u A, j, rfl, hj, by rw [e0, hp]; rfl⟩
              | exact ⟨.qu false u A, j, rfl, hj, by rw [e0, hp]; rfl⟩
          · exact ⟨hc, by rw [e0, hp]; rfl⟩
        · exact ⟨rfl, by rw [e0, if_neg (by rw [hB]; simp)]⟩
        · exact absurd hB (by simp)
    rw [if_neg h3] at e0
    have h31 : (t == [97, 108, 108]) = false := beq_eq_false_iff_ne.mpr fun e => h3 (.inl e)
    have h32 : (t == [115, 111, 109, 101]) = false := beq_eq_false_iff_ne.mpr fun e => h3 (.inr e)
    cases h4 : t == [40]
    case true =>
      have h4 := eq_of_beq h4
      subst h4
      rw [if_pos rfl] at e0
      (repeat' ((try (conv => whnf)) <;> first | refine okR_of (tk1) ?_ | refine okR_of (sure_ok (by omega) (by (first | rfl | assumption | (simp_all [termOk]; done) | (simp; omega) | omega))) ?_ | with_reducible refine stepE ?_ | with_reducible refine stepEs ?_ | with_reducible refine stepB ?_ | with_reducible refine stepS ?_ | refine okO_of (o := getSh _ _) rfl ?_ | with_reducible refine okK_bl ?_ | with_reducible refine okT_ct (by decide) ?_ | with_reducible refine okT_cf (by decide) ?_ | with_reducible refine o_addi ?_ | with_reducible refine o_subi ?_ | with_reducible refine o_eqs ?_ | refine okO_of (o := opC _ (.int _) (.int _)) rfl ?_)) <;> (try (conv => whnf))
      refine okR_call (k := 2 * r + 8) hn rfl fun n hn => ?_
      have tkj := fun (j : Nat) {i : Int} (h : i = (j : Int)) => token_x (T := T) (gl := gl) (n := n) (by omega) K j (i := i) h
      (repeat' ((try (conv => whnf)) <;> first | with_reducible refine stepE ?_ | with_reducible refine stepEs ?_ | with_reducible refine stepB ?_ | with_reducible refine stepS ?_ | refine okO_of (o := getSh _ _) rfl ?_)) <;> (try (conv => whnf))
      refine okR_mono (ih (k + 1) (by omega) (by omega) (by omega)) (fun d ⟨A, j, hd, hj, hp⟩ => ?_) (fun c ⟨hc, hp⟩ => ?_)
      · subst hd
        rw [hp] at e0
        have e0 : prs (r + 1) (K.drop k) = (opOf ((K.drop j).headD [])).bind fun o => (prs r (K.drop (j + 1))).bind fun q => if q.2.headD [] = [41] then some (.bin o A q.1, q.2.drop 1) else none := by
          rw [e0]
          simp only [Option.bind_some, List.drop_drop]
        (repeat' ((try (conv => whnf)) <;> first | refine sure_x (by omega) (fun hB => ?_) (fun hB => ?_) | refine okR_of (tkj j rfl) ?_ | with_reducible refine stepE ?_ | with_reducible refine stepEs ?_ | with_reducible refine stepB ?_ | with_reducible refine stepS ?_ | refine okO_of (o := getSh _ _) rfl ?_ | with_reducible refine o_addi ?_ | with_reducible refine o_ints ?_ | refine okO_of (o := opIx (.tup (_ :: _)) _) rfl ?_)) <;> (try (conv => whnf))
        · rw [opOf_in] at hB
          obtain ⟨o, ho⟩ := Option.isSome_iff_exists.mp hB
          have hs := opOf_get ho
          rw [ho] at e0
          simp only [Option.bind_some] at e0
          refine okR_mono (ih (j + 1) (by omega) (by omega) (by omega)) (fun d ⟨B, j2, hd, hj2, hp2⟩ => ?_) (fun c ⟨hc, hp2⟩ => ?_)
          · subst hd
            rw [hp2] at e0
            simp only [Option.bind_some, List.drop_drop] at e0
            (repeat' ((try (conv => whnf)) <;> first | refine sure_x (by omega) (fun hB => ?_) (fun hB => ?_) | refine okR_of (tkj j2 rfl) ?_ | with_reducible refine stepE ?_ | with_reducible refine stepEs ?_ | with_reducible refine stepB ?_ | with_reducible refine stepS ?_ | refine okO_of (o := getSh _ _) rfl ?_ | with_reducible refine o_addi ?_ | with_reducible refine o_eqs ?_ | refine okO_of (o := opIx (.tup (_ :: _)) _) rfl ?_)) <;> (try (conv => whnf))
            · have hB := eq_of_beq hB
              have hk := drop_pos (K := K) (k := j2) (by rw [hB]; simp)
              rw [hs]
              exact ⟨.bin o A B, j2 + 1, rfl, hk, by rw [e0, if_pos hB]⟩
            · exact ⟨rfl, by rw [e0, if_neg (ne_of_beq_false hB)]⟩
          · exact ⟨hc, by rw [e0, hp2]; rfl⟩
        · rw [opOf_in] at hB
          have hn : opOf ((K.drop j).headD []) = none := by
            cases q : opOf ((K.drop j).headD []) with
            | none => rfl
            | some o => rw [q] at hB; cases hB
          exact ⟨rfl, by rw [e0, hn]; rfl⟩
      · exact ⟨hc, by rw [e0, hp]; rfl⟩
    have g4 := ne_of_beq_false h4
    rw [if_neg g4] at e0
    (repeat' ((try (conv => whnf)) <;> first | refine okT_rf h1 ?_ | refine okT_rf h2 ?_ | refine okT_rf h31 ?_ | refine okT_rf h32 ?_ | refine okT_rf h4 ?_ | refine okR_of (tk1) ?_ | refine okR_of (sure_ok (by omega) (by (first | rfl | assumption | (simp_all [termOk]; done) | (simp; omega) | omega))) ?_ | with_reducible refine stepE ?_ | with_reducible refine stepEs ?_ | with_reducible refine stepB ?_ | with_reducible refine stepS ?_ | refine okO_of (o := getSh _ _) rfl ?_ | with_reducible refine okK_bl ?_ | with_reducible refine o_eqs ?_ | refine okO_of (o := opC _ (.int _) (.int _)) rfl ?_)) <;> (try (conv => whnf))
    rw [e0]
    exact read_is_any (by omega) K k rfl
theorem read_any6 [Gl gl 0 (.str small)] [Gl gl 1 (.str great)] [Gl gl 2 (.str figs)] [Gl gl 3 (.tup (kept.map .str))] [Gl gl 4 (.int 8)] [Gl gl 41 (.int 40)] [Fn T 5 c_built] [Fn T 6 c_is_name] [Fn T 7 c_is_letter] [Fn T 8 c_is_word] [Fn T 45 c_within_words] [Fn T 46 c_tokens_of] [Fn T 47 c_sure] [Fn T 48 c_token_at] [Fn T 49 c_read_terms] [Fn T 50 c_read_is] [Fn T 51 c_read_two] [Fn T 52 c_read_from] [Fn T 53 c_read]
    {n : Nat} (hn : 90 ≤ n) (s : List Nat) (hl : s.length ≤ 1000000) : okR (callF T gl n 53 [.str s]) (fun c => c = 43 ∧ rdAny s = none) fun d => ∃ A : Stm, d = A.enc ∧ rdAny s = some A := by
  refine okR_call (k := 89) hn rfl fun n hn => ?_
  (repeat' ((try (conv => whnf)) <;> first | with_reducible refine stepE ?_ | with_reducible refine stepEs ?_ | with_reducible refine stepB ?_ | with_reducible refine stepS ?_ | refine okO_of (o := getSh _ _) rfl ?_)) <;> (try (conv => whnf))
  refine okR_mono (tokens_any (by omega) s hl) (fun d ⟨hd, ha⟩ => ?_) (fun c ⟨hc, ha⟩ => ?_)
  · subst hd
    have e0 : rdAny s = (prs 40 (toks s)).bind fun p => if p.2 = [] then some p.1 else none := by unfold rdAny; rw [if_pos ha]
    (repeat' ((try (conv => whnf)) <;> first | with_reducible refine stepE ?_ | with_reducible refine stepEs ?_ | with_reducible refine stepB ?_ | with_reducible refine stepS ?_ | refine okO_of (o := getSh _ _) rfl ?_ | with_reducible refine okO_of glob_eq ?_)) <;> (try (conv => whnf))
    refine okR_mono (read_from_any6 40 (toks s) 0 rfl rfl (by omega)) (fun d ⟨A, j, hd, hj, hp⟩ => ?_) (fun c ⟨hc, hp⟩ => ?_)
    · subst hd
      rw [List.drop_zero] at hp
      rw [hp] at e0
      simp only [Option.bind_some] at e0
      (repeat' ((try (conv => whnf)) <;> first | refine sure_x (by omega) (fun hB => ?_) (fun hB => ?_) | with_reducible refine stepE ?_ | with_reducible refine stepEs ?_ | with_reducible refine stepB ?_ | with_reducible refine stepS ?_ | refine okO_of (o := getSh _ _) rfl ?_ | with_reducible refine o_eqi ?_ | refine okO_of (o := opIx (.tup (_ :: _)) _) rfl ?_ | refine okO_of (o := opF _ _) rfl ?_)) <;> (try (conv => whnf))
      · have hjl : j = (toks s).length := by simp at hB; omega
        exact ⟨A, rfl, by rw [e0, hjl, List.drop_length, if_pos rfl]⟩
      · have hjl : j ≠ (toks s).length := by simp at hB; omega
        have hne : ¬ (toks s).drop j = [] := fun h => by
          have := congrArg List.length h
          simp at this
          omega
        exact ⟨rfl, by rw [e0, if_neg hne]⟩
    · rw [List.drop_zero] at hp
      exact ⟨hc, by rw [e0, hp]; rfl⟩
  · exact ⟨hc, by unfold rdAny; rw [if_neg (by rw [ha]; simp)]⟩
end
end Ev

/-! k06: what is read is a statement, and all of the tokens. -/
namespace Ev
theorem head_cons {l : List (List Nat)} {t : List Nat} (h : l.headD [] = t) (n : t ≠ []) : l = t :: l.drop 1 := by
  cases l with
  | nil => exact absurd h.symm n
  | cons x r => subst h; rfl
theorem term_ne {t : List Nat} (h : termOk t = true) : t ≠ [] := by rintro rfl; revert h; decide
theorem name_ne0 {t : List Nat} (h : nameS t = true) : t ≠ [] := by rintro rfl; revert h; decide
theorem letter_ne0 {t : List Nat} (h : letterS t = true) : t ≠ [] := by rintro rfl; revert h; decide
theorem trm_all : ∀ (r : Nat) (ts : List (List Nat)) {l q : List (List Nat)}, trm r ts = some (l, q) → tkT l ++ q = ts ∧ l ≠ [] ∧ l.length ≤ r ∧ ∀ t ∈ l, termOk t = true
  | 0, ts, l, q, h => by cases h
  | r + 1, ts, l, q, h => by
    unfold trm at h
    by_cases ho : termOk (ts.headD []) = true
    case neg => rw [if_neg ho] at h; cases h
    rw [if_pos ho] at h
    have e1 := head_cons (l := ts) rfl (term_ne ho)
    by_cases hc : (ts.drop 1).headD [] = [41]
    · rw [if_pos hc] at h
      have e2 := head_cons hc (by decide)
      rw [List.drop_drop] at e2
      cases h
      refine ⟨?_, by simp, by simp, fun t ht => ?_⟩
      · show [ts.headD [], [41]] ++ ts.drop 2 = ts
        conv => rhs; rw [e1, e2]
        rfl
      · rw [List.mem_singleton.mp ht]; exact ho
    · rw [if_neg hc] at h
      by_cases hk : (ts.drop 1).headD [] = [44]
      case neg => rw [if_neg hk] at h; cases h
      rw [if_pos hk] at h
      have e2 := head_cons hk (by decide)
      rw [List.drop_drop] at e2
      cases e : trm r (ts.drop 2) with
      | none => rw [e] at h; cases h
      | some p =>
        rw [e] at h
        cases h
        obtain ⟨i1, i2, i3, i4⟩ := trm_all r _ e
        refine ⟨?_, by simp, by simp only [List.length_cons]; omega, fun t ht => ?_⟩
        · cases hp : p.1 with
          | nil => exact absurd hp i2
          | cons u v =>
            rw [hp] at i1
            show ts.headD [] :: [44] :: (tkT (u :: v) ++ p.2) = ts
            rw [i1]
            conv => rhs; rw [e1, e2]
        · rcases List.mem_cons.mp ht with rfl | ht
          · exact ho
          · exact i4 t ht
theorem prs_all : ∀ (r : Nat) (ts : List (List Nat)) {A : Stm} {q : List (List Nat)}, prs r ts = some (A, q) → A.tk ++ q = ts ∧ A.wf ∧ A.dp ≤ r
  | 0, ts, A, q, h => by cases h
  | r + 1, ts, A, q, h => by
    rw [prs] at h
    by_cases c1 : ts.headD [] = [102, 97, 108, 115, 101]
    · rw [if_pos c1] at h
      have e1 := head_cons c1 (by decide)
      cases h
      exact ⟨e1.symm, trivial, by simp [Stm.dp]⟩
    rw [if_neg c1] at h
    by_cases c2 : ts.headD [] = [110, 111, 116]
    · rw [if_pos c2] at h
      have e1 := head_cons c2 (by decide)
      cases e : prs r (ts.drop 1) with
      | none => rw [e] at h; cases h
      | some p =>
        rw [e] at h
        cases h
        obtain ⟨i1, i2, i3⟩ := prs_all r _ e
        refine ⟨?_, i2, by simp only [Stm.dp]; omega⟩
        show [110, 111, 116] :: (p.1.tk ++ p.2) = ts
        rw [i1]
        exact e1.symm
    rw [if_neg c2] at h
    by_cases c3 : ts.headD [] = [97, 108, 108] ∨ ts.headD [] = [115, 111, 109, 101]
    · rw [if_pos c3] at h
      by_cases hl : letterS ((ts.drop 1).headD []) = true
      case neg => rw [if_neg hl] at h; cases h
      rw [if_pos hl] at h
      have e2 := head_cons (l := ts.drop 1) rfl (letter_ne0 hl)
      rw [List.drop_drop] at e2
      cases e : prs r (ts.drop 2) with
      | none => rw [e] at h; cases h
      | some p =>
        rw [e] at h
        cases h
        obtain ⟨i1, i2, i3⟩ := prs_all r _ e
        refine ⟨?_, ⟨hl, i2⟩, by simp only [Stm.dp]; omega⟩
        show quS _ :: (ts.drop 1).headD [] :: (p.1.tk ++ p.2) = ts
        rw [i1]
        rcases c3 with c3 | c3
        · have e1 := head_cons c3 (by decide)
          conv => rhs; rw [e1, e2]
          rw [c3]
          rfl
        · have e1 := head_cons c3 (by decide)
          conv => rhs; rw [e1, e2]
          rw [c3]
          rfl
    rw [if_neg c3] at h
    by_cases c4 : ts.headD [] = [40]
    · rw [if_pos c4] at h
      have e1 := head_cons c4 (by decide)
      cases e : prs r (ts.drop 1) with
      | none => rw [e] at h; cases h
      | some p =>
        rw [e, Option.bind_some] at h
        obtain ⟨i1, i2, i3⟩ := prs_all r _ e
        cases eo : opOf (p.2.headD []) with
        | none => rw [eo] at h; cases h
        | some o =>
          rw [eo, Option.bind_some] at h
          have es := opOf_get eo
          have e2 := head_cons es (by cases o <;> decide)
          cases ep : prs r (p.2.drop 1) with
          | none => rw [ep] at h; cases h
          | some p3 =>
            rw [ep, Option.bind_some] at h
            obtain ⟨j1, j2, j3⟩ := prs_all r _ ep
            by_cases c5 : p3.2.headD [] = [41]
            case neg => rw [if_neg c5] at h; cases h
            rw [if_pos c5] at h
            have e3 := head_cons c5 (by decide)
            cases h
            refine ⟨?_, ⟨i2, j2⟩, by simp only [Stm.dp]; omega⟩
            show ([40] :: (p.1.tk ++ (o.s :: (p3.1.tk ++ [[41]])))) ++ p3.2.drop 1 = ts
            have : ([40] :: (p.1.tk ++ (o.s :: (p3.1.tk ++ [[41]])))) ++ p3.2.drop 1 = [40] :: (p.1.tk ++ (o.s :: (p3.1.tk ++ ([41] :: p3.2.drop 1)))) := by simp
            rw [this, ← e3, j1, ← e2, i1]
            exact e1.symm
    rw [if_neg c4] at h
    unfold isP at h
    by_cases hn : nameS (ts.headD []) = true
    case neg => rw [if_neg hn] at h; cases h
    rw [if_pos hn] at h
    have e1 := head_cons (l := ts) rfl (name_ne0 hn)
    by_cases c5 : (ts.drop 1).headD [] = [40]
    · rw [if_pos c5] at h
      have e2 := head_cons c5 (by decide)
      rw [List.drop_drop] at e2
      cases e : trm 3 (ts.drop 2) with
      | none => rw [e] at h; cases h
      | some p =>
        rw [e] at h
        cases h
        obtain ⟨i1, i2, i3, i4⟩ := trm_all 3 _ e
        refine ⟨?_, ⟨hn, i3, i4⟩, by simp [Stm.dp]⟩
        have hl : ¬ p.1.length = 0 := fun z => i2 (List.length_eq_zero_iff.mp z)
        show (if p.1.length = 0 then [ts.headD []] else ts.headD [] :: [40] :: tkT p.1) ++ p.2 = ts
        rw [if_neg hl]
        show ts.headD [] :: [40] :: (tkT p.1 ++ p.2) = ts
        rw [i1]
        conv => rhs; rw [e1, e2]
    · rw [if_neg c5] at h
      cases h
      refine ⟨?_, ⟨hn, by simp, fun t ht => by cases ht⟩, by simp [Stm.dp]⟩
      show [ts.headD []] ++ ts.drop 1 = ts
      exact e1.symm
/-- a text that is read -/
theorem rd_all {s : List Nat} {A : Stm} (h : rdAny s = some A) : s.all alph = true ∧ A.wf ∧ A.dp ≤ 40 ∧ toks s = A.tk := by
  unfold rdAny at h
  by_cases ha : s.all alph = true
  case neg => rw [if_neg ha] at h; cases h
  rw [if_pos ha] at h
  cases e : prs 40 (toks s) with
  | none => rw [e] at h; cases h
  | some p =>
    rw [e, Option.bind_some] at h
    by_cases hp : p.2 = []
    case neg => rw [if_neg hp] at h; cases h
    rw [if_pos hp] at h
    cases h
    obtain ⟨i1, i2, i3⟩ := prs_all 40 _ e
    rw [hp, List.append_nil] at i1
    exact ⟨ha, i2, i3, i1.symm⟩
end Ev

/-! k06: the law's own look at a statement. -/
namespace Ev
abbrev s36a : List Nat := 97 :: 98 :: 99 :: 100 :: 101 :: 102 :: 103 :: 104 :: 105 :: 106 :: 107 :: 108 :: 109 :: 110 :: 111 :: 112 :: 113 :: 114 :: 115 :: 116 :: 117 :: 118 :: 119 :: 120 :: 121 :: 122 :: 48 :: 49 :: 50 :: 51 :: 52 :: 53 :: 54 :: 55 :: 56 :: 57 :: []
theorem tail36 (c : Nat) : s36a.contains c = (small.contains c || figs.contains c) := by
  rw [show s36a = small ++ figs from rfl, ← List.contains_append]
section
variable {T : Nat → Option FD} {gl : Nat → Option D}
theorem is_built_ok [Fn T 55 c_law_is_built] {n : Nat} (hn : 1 ≤ n) (t fs : List Nat) : callF T gl n 55 [.str t, .str fs] = .ok (.bl (builtS t fs && !kept.contains t)) := by
  refine eq_of_okR (okR_call (k := 0) hn rfl fun n hn => ?_)
  cases t with
  | nil =>
    have e : (builtS [] fs && !kept.contains []) = false := rfl
    rw [e]
    (repeat' ((try (conv => whnf)) <;> first | with_reducible refine stepE ?_ | with_reducible refine stepEs ?_ | with_reducible refine stepB ?_ | with_reducible refine stepS ?_ | refine okO_of (o := getSh _ _) rfl ?_ | with_reducible refine okK_bl ?_ | with_reducible refine okT_tt ?_ | with_reducible refine okT_ntt ?_ | with_reducible refine okT_ct (by decide) ?_ | with_reducible refine o_eqs ?_ | with_reducible refine o_isS ?_)) <;> (try (conv => whnf))
  | cons c t' =>
    by_cases h8 : (c :: t').length ≤ 8
    · have e : (builtS (c :: t') fs && !kept.contains (c :: t')) = (fs.contains c && (tailOk t' && !kept.contains (c :: t'))) := by
        unfold builtS
        have hb : (decide (1 ≤ (c :: t').length) && decide ((c :: t').length ≤ 8)) = true := by simp; simpa using h8
        rw [hb]
        simp only [List.getD_cons_zero, List.drop_succ_cons, List.drop_zero, Bool.true_and, Bool.and_assoc]
      rw [e]
      have h8' : ¬ ((c :: t').length : Int) > 8 := by omega
      generalize hf : fs.contains c = fc
      (repeat' ((try (conv => whnf)) <;> first | refine o_ixs (k := 0) (c := c) rfl ?_ | refine okT_cf (show ((c :: t') == []) = false from rfl) ?_ | refine okT_cf (by simp only [gt_iff_lt, decide_eq_false_iff_not]; omega) ?_ | with_reducible refine stepE ?_ | with_reducible refine stepEs ?_ | with_reducible refine stepB ?_ | with_reducible refine stepS ?_ | refine okO_of (o := getSh _ _) rfl ?_ | with_reducible refine okK_bl ?_ | with_reducible refine okT_bl (fun hT => ?_) (fun hT => ?_) | with_reducible refine o_eqs ?_ | refine okO_of (o := opC _ (.int _) (.int _)) rfl ?_ | with_reducible refine o_nins ?_ | with_reducible refine o_isS ?_ | refine okO_of (o := opF _ _) rfl ?_ | with_reducible refine o_sls fun tS hS hL => ?_ | refine okO_of (o := ixPart _ _) rfl ?_ | with_reducible refine stepIt ?_ | refine okO_of (o := itemsOf _) rfl ?_)) <;> (try (conv => whnf))
      · have hf0 : fc = false := by rw [← hf]; simpa using hT
        rw [hf0]; rfl
      · have hf1 : fc = true := by rw [← hf]; simpa using hT
        rw [hf1, Bool.true_and]
        have htl : tS = cut (c :: t') (some ((1 : Nat) : Int)) none := hS
        rw [cut_drop] at htl
        have htl : tS = t' := htl
        subst htl
        refine okFor_map (dec := fun c => D.str [c]) (I := fun cs ρ => (∃ v2, ρ = [some (.sh, .str (c :: tS)), some (.sh, .str fs), v2]) ∧ tailOk tS = tailOk cs) (fun d cs ρ ⟨⟨v2, hρ⟩, e⟩ => ?_) (fun ρ ⟨⟨v2, hρ⟩, e⟩ => ?_) ⟨⟨_, rfl⟩, rfl⟩
        · subst hρ
          have e2 : tailOk (d :: cs) = (s36a.contains d && tailOk cs) := by rw [tail36]; simp only [tailOk, List.all_cons]
          rw [e2] at e
          cases hs : s36a.contains d
          · rw [hs, Bool.false_and] at e
            rw [e]
            (repeat' ((try (conv => whnf)) <;> first | refine okT_ct (show (!s36a.contains d) = true by rw [hs]; rfl) ?_ | with_reducible refine stepE ?_ | with_reducible refine stepB ?_ | with_reducible refine stepS ?_ | refine okO_of (o := getSh _ _) rfl ?_ | with_reducible refine o_nins ?_)) <;> (try (conv => whnf))
            rfl
          · rw [hs, Bool.true_and] at e
            (repeat' ((try (conv => whnf)) <;> first | refine okT_cf (show (!s36a.contains d) = false by rw [hs]; rfl) ?_ | with_reducible refine stepE ?_ | with_reducible refine stepB ?_ | with_reducible refine stepS ?_ | refine okO_of (o := getSh _ _) rfl ?_ | with_reducible refine o_nins ?_)) <;> (try (conv => whnf))
            exact ⟨⟨_, rfl⟩, e⟩
        · subst hρ
          rw [e]
          (repeat' ((try (conv => whnf)) <;> first | with_reducible refine stepE ?_ | with_reducible refine stepEs ?_ | with_reducible refine stepB ?_ | with_reducible refine stepS ?_ | refine okO_of (o := getSh _ _) rfl ?_ | with_reducible refine o_ninls ?_)) <;> (try (conv => whnf))
          rw [show ([D.str [110, 111, 116], D.str [97, 110, 100], D.str [111, 114], D.str [116, 104, 101, 110], D.str [97, 108, 108], D.str [115, 111, 109, 101], D.str [102, 97, 108, 115, 101]] : List D) = kept.map D.str from rfl, isIn_strs]
          rfl
    · have e : (builtS (c :: t') fs && !kept.contains (c :: t')) = false := by
        unfold builtS
        simp only [h8, decide_false, Bool.and_false, Bool.false_and]
      rw [e]
      (repeat' ((try (conv => whnf)) <;> first | refine okT_cf (show ((c :: t') == []) = false from rfl) ?_ | refine okT_ct (by simp only [gt_iff_lt, decide_eq_true_eq]; omega) ?_ | with_reducible refine stepE ?_ | with_reducible refine stepEs ?_ | with_reducible refine stepB ?_ | with_reducible refine stepS ?_ | refine okO_of (o := getSh _ _) rfl ?_ | with_reducible refine okK_bl ?_ | with_reducible refine okT_tt ?_ | with_reducible refine o_eqs ?_ | refine okO_of (o := opC _ (.int _) (.int _)) rfl ?_ | with_reducible refine o_isS ?_ | refine okO_of (o := opF _ _) rfl ?_)) <;> (try (conv => whnf))
theorem is_right_ok [Fn T 55 c_law_is_built] [Fn T 56 c_law_is_right] {n : Nat} (hn : 2 ≤ n) (w : List Nat) (ts : List (List Nat)) (h : (Stm.is w ts).wf) : callF T gl n 56 [(Stm.is w ts).enc] = .ok (.bl true) := by
  refine eq_of_okR (okR_call (k := 1) hn rfl fun n hn => ?_)
  obtain ⟨h1, h2, h3⟩ := h
  have hw : (builtS w small && !kept.contains w) = true := h1
  unfold Stm.enc
  (repeat' ((try (conv => whnf)) <;> first | refine okT_cf rfl ?_ | refine okT_cf (by simp only [List.length_map, gt_iff_lt, decide_eq_false_iff_not]; omega) ?_ | with_reducible refine stepE ?_ | with_reducible refine stepEs ?_ | with_reducible refine stepB ?_ | with_reducible refine stepS ?_ | refine okO_of (o := getSh _ _) rfl ?_ | with_reducible refine okK_bl ?_ | with_reducible refine o_nei ?_ | refine okO_of (o := opC _ (.int _) (.int _)) rfl ?_ | refine okO_of (o := opIx (.tup (_ :: _)) _) rfl ?_ | with_reducible refine o_isT ?_ | refine okO_of (o := opF _ _) rfl ?_ | with_reducible refine stepIt ?_ | refine okO_of (o := itemsOf _) rfl ?_)) <;> (try (conv => whnf))
  refine okFor_map (dec := D.str) (I := fun us ρ => (∀ t ∈ us, t ∈ ts) ∧ ∃ v1 v2, ρ = [some (.sh, .tup [.str [105, 115], .str w, .tup (ts.map .str)]), v1, v2]) (fun u us ρ ⟨hu, v1, v2, hρ⟩ => ?_) (fun ρ ⟨hu, v1, v2, hρ⟩ => ?_) ⟨fun t ht => ht, _, _, rfl⟩
  · subst hρ
    have ht := h3 u (hu u (List.mem_cons_self ..))
    have b1 := is_built_ok (T := T) (gl := gl) (n := n) (by omega) u great
    have b2 := is_built_ok (T := T) (gl := gl) (n := n) (by omega) u small
    have hor : (builtS u great && !kept.contains u) = true ∨ (builtS u small && !kept.contains u) = true := by
      unfold termOk at ht
      rcases Bool.or_eq_true _ _ ▸ ht with q | q
      · exact .inr q
      · refine .inl ?_
        have q : builtS u great = true := q
        rw [q, great_kept q]
        rfl
    generalize (builtS u great && !kept.contains u) = b at b1 hor
    generalize (builtS u small && !kept.contains u) = c at b2 hor
    cases b
    · have hc : c = true := by simpa using hor
      subst hc
      (repeat' ((try (conv => whnf)) <;> first | refine okR_of (b1) ?_ | refine okR_of (b2) ?_ | with_reducible refine stepE ?_ | with_reducible refine stepEs ?_ | with_reducible refine stepB ?_ | with_reducible refine stepS ?_ | refine okO_of (o := getSh _ _) rfl ?_ | with_reducible refine okK_bl ?_ | with_reducible refine okT_ntt ?_ | with_reducible refine okT_nff ?_)) <;> (try (conv => whnf))
      exact ⟨fun t ht => hu t (List.mem_cons_of_mem _ ht), _, _, rfl⟩
    · (repeat' ((try (conv => whnf)) <;> first | refine okR_of (b1) ?_ | with_reducible refine stepE ?_ | with_reducible refine stepEs ?_ | with_reducible refine stepB ?_ | with_reducible refine stepS ?_ | refine okO_of (o := getSh _ _) rfl ?_ | with_reducible refine okK_bl ?_ | with_reducible refine okT_ff ?_ | with_reducible refine okT_ntt ?_)) <;> (try (conv => whnf))
      exact ⟨fun t ht => hu t (List.mem_cons_of_mem _ ht), _, _, rfl⟩
  · subst hρ
    have b2 := is_built_ok (T := T) (gl := gl) (n := n) (by omega) w small
    rw [hw] at b2
    (repeat' ((try (conv => whnf)) <;> first | refine okR_of (b2) ?_ | with_reducible refine stepE ?_ | with_reducible refine stepEs ?_ | with_reducible refine stepB ?_ | with_reducible refine stepS ?_ | refine okO_of (o := getSh _ _) rfl ?_ | refine okO_of (o := opIx (.tup (_ :: _)) _) rfl ?_)) <;> (try (conv => whnf))
theorem fit_ok [Fn T 24 c_law_parts] [Fn T 55 c_law_is_built] [Fn T 56 c_law_is_right] [Fn T 57 c_law_fit] : ∀ (A : Stm) {n : Nat} {r : Int}, A.wf → A.dp + 3 ≤ n → (A.dp : Int) ≤ r → callF T gl n 57 [A.enc, .int r] = .ok (.bl true)
  | .is w ts, n, r, h, hn, hr => by
    refine eq_of_okR (okR_call (k := 3) (by simpa [Stm.dp] using hn) rfl fun n hn => ?_)
    have hr0 : (r == 0) = false := by simp [Stm.dp] at hr ⊢; omega
    have b := is_right_ok (T := T) (gl := gl) (n := n) (by omega) w ts h
    unfold Stm.enc at b ⊢
    (repeat' ((try (conv => whnf)) <;> first | refine okT_cf hr0 ?_ | refine okT_cf rfl ?_ | refine okT_ct rfl ?_ | refine okR_of (b) ?_ | with_reducible refine stepE ?_ | with_reducible refine stepEs ?_ | with_reducible refine stepB ?_ | with_reducible refine stepS ?_ | refine okO_of (o := getSh _ _) rfl ?_ | with_reducible refine okK_bl ?_ | with_reducible refine o_eqi ?_ | with_reducible refine o_eqs ?_ | refine okO_of (o := opIx (.tup (_ :: _)) _) rfl ?_ | with_reducible refine o_isS ?_ | with_reducible refine o_isT ?_ | refine okO_of (o := opF _ _) rfl ?_)) <;> (try (conv => whnf))
  | .fls, n, r, h, hn, hr => by
    refine eq_of_okR (okR_call (k := 3) (by simpa [Stm.dp] using hn) rfl fun n hn => ?_)
    have hr0 : (r == 0) = false := by simp [Stm.dp] at hr ⊢; omega
    have b := law_parts_ok (T := T) (gl := gl) (n := n) (by omega) .fls
    simp only [Stm.parts, List.map_cons, List.map_nil] at b
    unfold Stm.enc at b ⊢
    (repeat' ((try (conv => whnf)) <;> first | refine okT_cf hr0 ?_ | refine okT_cf rfl ?_ | refine okO_of (o := opLix _ _) rfl ?_ | refine okR_of (b) ?_ | with_reducible refine stepE ?_ | with_reducible refine stepEs ?_ | with_reducible refine stepB ?_ | with_reducible refine stepS ?_ | refine okO_of (o := getSh _ _) rfl ?_ | with_reducible refine okK_bl ?_ | with_reducible refine o_eqi ?_ | with_reducible refine o_nei ?_ | with_reducible refine o_eqs ?_ | with_reducible refine o_inls ?_ | with_reducible refine o_ninls ?_ | refine okO_of (o := opIx (.tup (_ :: _)) _) rfl ?_ | refine okO_of (o := opIx (.lst (_ :: _)) _) rfl ?_ | with_reducible refine o_isS ?_ | with_reducible refine o_isT ?_ | refine okO_of (o := opF _ _) rfl ?_ | with_reducible refine stepIt ?_ | refine okO_of (o := listOf _) rfl ?_ | refine okO_of (o := itemsOf _) rfl ?_ | with_reducible refine okFor_nil ?_)) <;> (try (conv => whnf))
  | .not a, n, r, h, hn, hr => by
    refine eq_of_okR (okR_call (k := a.dp + 3) (by simpa [Stm.dp] using hn) rfl fun n hn => ?_)
    have hr0 : (r == 0) = false := by simp [Stm.dp] at hr ⊢; omega
    have b := law_parts_ok (T := T) (gl := gl) (n := n) (by omega) (.not a)
    simp only [Stm.parts, List.map_cons, List.map_nil] at b
    have ih := fit_ok a (n := n) (r := r - 1) h (by omega) (by simp [Stm.dp] at hr; omega)
    rw [show (Stm.not a).enc = .tup [.str [110, 111, 116], a.enc] from rfl] at b ⊢
    (repeat' ((try (conv => whnf)) <;> first | refine okT_cf hr0 ?_ | refine okT_cf rfl ?_ | refine okO_of (o := opLix _ _) rfl ?_ | refine okR_of (b) ?_ | refine okR_of (ih) ?_ | with_reducible refine stepE ?_ | with_reducible refine stepEs ?_ | with_reducible refine stepB ?_ | with_reducible refine stepS ?_ | refine okO_of (o := getSh _ _) rfl ?_ | with_reducible refine okK_bl ?_ | with_reducible refine o_subi ?_ | with_reducible refine o_eqi ?_ | with_reducible refine o_nei ?_ | with_reducible refine o_eqs ?_ | with_reducible refine o_inls ?_ | with_reducible refine o_ninls ?_ | refine okO_of (o := opIx (.tup (_ :: _)) _) rfl ?_ | refine okO_of (o := opIx (.lst (_ :: _)) _) rfl ?_ | with_reducible refine o_isS ?_ | with_reducible refine o_isT ?_ | refine okO_of (o := opF _ _) rfl ?_ | with_reducible refine stepIt ?_ | refine okO_of (o := listOf _) rfl ?_ | refine okO_of (o := itemsOf _) rfl ?_ | with_reducible refine okFor_cons ?_ | with_reducible refine okFor_nil ?_)) <;> (try (conv => whnf))
  | .bin o a c, n, r, h, hn, hr => by
    refine eq_of_okR (okR_call (k := max a.dp c.dp + 3) (by simpa [Stm.dp] using hn) rfl fun n hn => ?_)
    have hr0 : (r == 0) = false := by simp [Stm.dp] at hr ⊢; omega
    have b := law_parts_ok (T := T) (gl := gl) (n := n) (by omega) (.bin o a c)
    simp only [Stm.parts, List.map_cons, List.map_nil] at b
    have ih1 := fit_ok a (n := n) (r := r - 1) h.1 (by omega) (by simp [Stm.dp] at hr; omega)
    have ih2 := fit_ok c (n := n) (r := r - 1) h.2 (by omega) (by simp [Stm.dp] at hr; omega)
    rw [show (Stm.bin o a c).enc = .tup [.str o.s, a.enc, c.enc] from rfl] at b ⊢
    cases o
    all_goals
      unfold Op.s at b ⊢
      (repeat' ((try (conv => whnf)) <;> first | refine okT_cf hr0 ?_ | refine okT_cf rfl ?_ | refine okO_of (o := opLix _ _) rfl ?_ | refine okR_of (b) ?_ | refine okR_of (ih1) ?_ | refine okR_of (ih2) ?_ | with_reducible refine stepE ?_ | with_reducible refine stepEs ?_ | with_reducible refine stepB ?_ | with_reducible refine stepS ?_ | refine okO_of (o := getSh _ _) rfl ?_ | with_reducible refine okK_bl ?_ | with_reducible refine o_subi ?_ | with_reducible refine o_eqi ?_ | with_reducible refine o_nei ?_ | with_reducible refine o_eqs ?_ | with_reducible refine o_inls ?_ | with_reducible refine o_ninls ?_ | refine okO_of (o := opIx (.tup (_ :: _)) _) rfl ?_ | refine okO_of (o := opIx (.lst (_ :: _)) _) rfl ?_ | with_reducible refine o_isS ?_ | with_reducible refine o_isT ?_ | refine okO_of (o := opF _ _) rfl ?_ | with_reducible refine stepIt ?_ | refine okO_of (o := listOf _) rfl ?_ | refine okO_of (o := itemsOf _) rfl ?_ | with_reducible refine okFor_cons ?_ | with_reducible refine okFor_nil ?_)) <;> (try (conv => whnf))
  | .qu q x a, n, r, h, hn, hr => by
    refine eq_of_okR (okR_call (k := a.dp + 3) (by simpa [Stm.dp] using hn) rfl fun n hn => ?_)
    have hr0 : (r == 0) = false := by simp [Stm.dp] at hr ⊢; omega
    have b := law_parts_ok (T := T) (gl := gl) (n := n) (by omega) (.qu q x a)
    simp only [Stm.parts, List.map_cons, List.map_nil] at b
    have ih := fit_ok a (n := n) (r := r - 1) h.2 (by omega) (by simp [Stm.dp] at hr; omega)
    have hx : (builtS x great && !kept.contains x) = true := by
      have q : builtS x great = true := h.1
      rw [q, great_kept q]
      rfl
    have b1 := is_built_ok (T := T) (gl := gl) (n := n) (by omega) x great
    rw [hx] at b1
    rw [show (Stm.qu q x a).enc = .tup [.str (quS q), .str x, a.enc] from rfl] at b ⊢
    cases q
    all_goals
      unfold quS at b ⊢
      (repeat' ((try (conv => whnf)) <;> first | refine okT_cf hr0 ?_ | refine okT_cf rfl ?_ | refine okT_ct rfl ?_ | refine okO_of (o := opLix _ _) rfl ?_ | refine okR_of (b) ?_ | refine okR_of (ih) ?_ | refine okR_of (b1) ?_ | with_reducible refine stepE ?_ | with_reducible refine stepEs ?_ | with_reducible refine stepB ?_ | with_reducible refine stepS ?_ | refine okO_of (o := getSh _ _) rfl ?_ | with_reducible refine okK_bl ?_ | with_reducible refine o_subi ?_ | with_reducible refine o_eqi ?_ | with_reducible refine o_nei ?_ | with_reducible refine o_eqs ?_ | with_reducible refine o_inls ?_ | with_reducible refine o_ninls ?_ | refine okO_of (o := opIx (.tup (_ :: _)) _) rfl ?_ | refine okO_of (o := opIx (.lst (_ :: _)) _) rfl ?_ | with_reducible refine o_isS ?_ | with_reducible refine o_isT ?_ | refine okO_of (o := opF _ _) rfl ?_ | with_reducible refine stepIt ?_ | refine okO_of (o := listOf _) rfl ?_ | refine okO_of (o := itemsOf _) rfl ?_ | with_reducible refine okFor_cons ?_ | with_reducible refine okFor_nil ?_)) <;> (try (conv => whnf))
end
end Ev

/-! Whole texts. -/
namespace Ev
theorem o_muls {i : Int} {P : D → Prop} (h0 : 0 ≤ i) (h1 : i ≤ 1000) (p : P (.str (List.replicate i.toNat 32))) : okO (opB .mul (.str [32]) (.int i)) P := okO_of (by
  have lv := line_val
  show (if -(line : Int) ≤ i ∧ i ≤ line ∧ [32].length * i.toNat ≤ line then some (D.str (List.replicate i.toNat [32]).flatten) else none) = _
  rw [if_pos ⟨by omega, by omega, by simp; omega⟩]
  have e : ∀ n : Nat, (List.replicate n [32]).flatten = List.replicate n 32 := fun n => by
    induction n with
    | zero => rfl
    | succ n ih => rw [List.replicate_succ, List.flatten_cons, ih, List.replicate_succ]; rfl
  rw [e]) p
theorem o_last {s : List Nat} {c : Nat} {P : D → Prop} (h : s.getLast? = some c) (p : P (.str [c])) : okO (opIx (.str s) (.int (-1))) P := by
  have hl : 0 < s.length := by
    cases s with
    | nil => cases h
    | cons _ _ => simp
  refine okO_of (a := .str [c]) ?_ p
  show (((ixN s.length (-1)).bind fun j => s[j]?).map fun c => D.str [c]) = _
  have e : ixN s.length (-1) = some (s.length - 1) := by
    show (if (0 : Int) ≤ -1 then _ else if -(s.length : Int) ≤ -1 then some ((-1 : Int) + s.length).toNat else none) = _
    rw [if_neg (by omega), if_pos (by omega)]
    congr 1
    omega
  rw [e]
  show (s[s.length - 1]?).map _ = _
  rw [← List.getLast?_eq_getElem?, h]
  rfl
theorem rep_alph (k : Nat) : (List.replicate k 32).all alph = true := by
  rw [List.all_eq_true]
  intro x hx
  rw [(List.mem_replicate.mp hx).2]
  decide
section
variable {T : Nat → Option FD} {gl : Nat → Option D}
end
end Ev

/-! k06: tokens, spoilt or not. -/
namespace Ev
/-- a token, spoilt or not -/
def tkG (t : List Nat) : Prop := t ≠ [] ∧ t.length ≤ 9 ∧ t.all alph = true
def TokD (d : D) : Prop := ∃ t, d = .str t ∧ tkG t
/-- tokens, so many at most -/
def TL (n : Nat) (xs : List D) : Prop := (∀ d ∈ xs, TokD d) ∧ xs.length ≤ n
theorem tkG_of {t : List Nat} (h : tokOk t) : tkG t := ⟨by obtain ⟨c, r, e⟩ := tok_cons h; rw [e]; simp, by have := h.2; omega, tok_alph h⟩
theorem TL.app {a b : Nat} {xs ys : List D} (h : TL a xs) (g : TL b ys) : TL (a + b) (xs ++ ys) := ⟨fun d hd => (List.mem_append.mp hd).elim (h.1 d) (g.1 d), by rw [List.length_append]; have := h.2; have := g.2; omega⟩
theorem TL.cut {a : Nat} {xs ys : List D} {l u : Option Int} (h : TL a xs) (e : ys = Ev.cut xs l u) : TL a ys := by
  subst e
  exact ⟨fun d hd => h.1 d ((List.mem_of_mem_drop (List.mem_of_mem_take hd))), by have q := cut_length xs l u; have := h.2; omega⟩
theorem TL.one {d : D} (h : TokD d) : TL 1 [d] := ⟨fun e he => by rw [List.mem_singleton.mp he]; exact h, by simp⟩
theorem TL.two {d e : D} (h : TokD d) (g : TokD e) : TL 2 [d, e] := ⟨fun x hx => by
  rcases List.mem_cons.mp hx with rfl | hx
  · exact h
  · rw [List.mem_singleton.mp hx]; exact g, by simp⟩
theorem TL.mono {a b : Nat} {xs : List D} (h : TL a xs) (k : a ≤ b) : TL b xs := ⟨h.1, by have := h.2; omega⟩
theorem TL.rep {a n : Nat} {d : D} (h : TokD d) (k : n ≤ a) : TL a (List.replicate n [d]).flatten := by
  have e : (List.replicate n [d]).flatten = List.replicate n d := by
    induction n with
    | zero => rfl
    | succ n ih => rw [List.replicate_succ, List.flatten_cons, ih (by omega), List.replicate_succ]; rfl
  rw [e]
  exact ⟨fun x hx => by rw [(List.mem_replicate.mp hx).2]; exact h, by rw [List.length_replicate]; exact k⟩
theorem o_ixT {P : D → Prop} {xs : List D} {i : Int} (h : ∀ d ∈ xs, TokD d) (h0 : 0 ≤ i) (h1 : i < xs.length) (p : ∀ t, tkG t → P (.str t)) : okO (opIx (.lst xs) (.int i)) P := o_ixl' h0 h1 fun d hd => by
  obtain ⟨t, rfl, ht⟩ := h d (List.mem_of_getElem? hd)
  exact p t ht
theorem o_ix2 {P : D → Prop} {a b : D} {i : Int} (h0 : 0 ≤ i) (h1 : i < 2) (p : P a) (q : P b) : okO (opIx (.lst [a, b]) (.int i)) P := o_ixl' h0 (by simpa using h1) fun d hd => by
  have : d ∈ [a, b] := List.mem_of_getElem? hd
  rcases List.mem_cons.mp this with rfl | this
  · exact p
  · rw [List.mem_singleton.mp this]; exact q
theorem o_ix4 {P : D → Prop} {a b c e : List D} {i : Int} (h0 : 0 ≤ i) (h1 : i < 4) (p : ∀ ys, P (.lst ys)) : okO (opIx (.lst [.lst a, .lst b, .lst c, .lst e]) (.int i)) P := o_ixl' h0 (by simpa using h1) fun d hd => by
  have : d ∈ [D.lst a, .lst b, .lst c, .lst e] := List.mem_of_getElem? hd
  simp only [List.mem_cons, List.not_mem_nil, or_false] at this
  rcases this with rfl | rfl | rfl | rfl <;> exact p _
theorem o_mulL {P : D → Prop} {d : D} {i : Int} (h : TokD d) (h0 : 0 ≤ i) (h1 : i ≤ 41) (p : ∀ xs : List D, xs.length ≤ 41 → TL 41 xs → P (.lst xs)) : okO (opB .mul (.lst [d]) (.int i)) P := okO_of (by
  have lv := line_val
  show (if -(line : Int) ≤ i ∧ i ≤ line ∧ [d].length * i.toNat ≤ line then some (D.lst (List.replicate i.toNat [d]).flatten) else none) = _
  rw [if_pos ⟨by omega, by omega, by simp; omega⟩]) (p _ (TL.rep h (by omega)).2 (TL.rep h (by omega)))
def some14 (w : List Nat) : List D := [.str [40], .str [41], .str [44], .str [110, 111, 116], .str [97, 110, 100], .str [111, 114], .str [116, 104, 101, 110], .str [97, 108, 108], .str [115, 111, 109, 101], .str [102, 97, 108, 115, 101], .str w, .str [88], .str [120, 121, 122, 120, 121, 122, 120, 121, 122], .str [55]]
theorem some_tok {w : List Nat} (h : tkG w) : ∀ d ∈ some14 w, TokD d := by
  intro d hd
  have a : ∀ t : List Nat, (decide (t ≠ []) && decide (t.length ≤ 9) && t.all alph) = true → TokD (.str t) := fun t h => by
    simp only [Bool.and_eq_true, decide_eq_true_eq] at h
    exact ⟨t, rfl, h.1.1, h.1.2, h.2⟩
  unfold some14 at hd
  simp only [List.mem_cons, List.not_mem_nil, or_false] at hd
  rcases hd with rfl | rfl | rfl | rfl | rfl | rfl | rfl | rfl | rfl | rfl | rfl | rfl | rfl | rfl
  all_goals first
    | exact ⟨w, rfl, h⟩
    | exact a _ (by decide)
end Ev

/-! k06: tokens spoilt. -/
namespace Ev
def B.tl6 : Nat → B → B
  | 0, b => b
  | k + 1, .cons _ b => B.tl6 k b
  | _ + 1, b => b
section
variable {T : Nat → Option FD} {gl : Nat → Option D}
theorem spoilt_rest {n m : Nat} {xs : List D} (hx : TL m xs) (h0 : 0 < xs.length) (hm : m ≤ 100000) (c q0 : Int) (w t : List Nat) (hw : tkG w) (ht : tkG t) (ms : List D) (v7 v8 : Option (Fl × D)) :
    okB (callF T gl n) gl (B.tl6 9 c_law_spoilt.body) [some (.sh, .lst xs), some (.sh, .int c), some (.sh, .str w), some (.sh, .int q0), some (.sh, .lst (some14 w)), some (.sh, .str t), some (.sh, .lst ms), v7, v8] (.fn (fun d => ∃ ys, d = .lst ys ∧ TL (3 * m + 50) ys) noX) := by
  have lv := line_val
  have hs := some_tok hw
  have hl := hx.2
  (repeat' ((try (conv => whnf)) <;> first | with_reducible refine stepE ?_ | with_reducible refine stepEs ?_ | with_reducible refine stepB ?_ | with_reducible refine stepS ?_ | refine okO_of (o := getSh _ _) rfl ?_ | refine okO_of (o := opF _ _) rfl ?_ | with_reducible refine stepIt ?_)) <;> (try (conv => whnf))
  refine o_rng1 (by omega) (by omega) ?_
  rw [show ((xs.length : Int)).toNat = xs.length from rfl, rng_map]
  refine okComp_filter eN (fun k => isIn (xs.getD k .non) ms) eN (fun k hk => ?_) (fun k hk ht => ?_) ?_
  · have hk : k < xs.length := List.mem_range.mp hk
    have hg : xs[k]? = some xs[k] := List.getElem?_eq_getElem hk
    obtain ⟨t2, e2, _⟩ := hx.1 xs[k] (List.getElem_mem hk)
    rw [e2] at hg
    have hd : xs.getD k .non = .str t2 := by rw [List.getD_eq_getElem?_getD, hg]; rfl
    (repeat' ((try (conv => whnf)) <;> first | refine o_ixl (k := k) hg ?_ | with_reducible refine stepE ?_ | refine okO_of (o := getSh _ _) rfl ?_ | with_reducible refine o_inls ?_)) <;> (try (conv => whnf))
    rw [hd]
  · (repeat' ((try (conv => whnf)) <;> first | with_reducible refine stepE ?_ | refine okO_of (o := getSh _ _) rfl ?_)) <;> (try (conv => whnf))
  · obtain ⟨ps, hps⟩ : ∃ ps, (List.range xs.length).filter (fun k => isIn (xs.getD k .non) ms) = ps := ⟨_, rfl⟩
    have hp : ∀ k ∈ ps, k < xs.length := fun k hk => by
      rw [← hps] at hk
      exact List.mem_range.mp (List.mem_filter.mp hk).1
    rw [hps]
    clear hps
    (repeat' ((try (conv => whnf)) <;> first | refine o_modL (by simp -failIfUnchanged only [List.length_map] at *; omega) fun q hq0 hq1 hq2 => ?_ | refine o_ixT hs (by omega) (by show _ < ((14 : Nat) : Int); omega) fun t ht => ?_ | refine o_ixlm (dec := eN) (by omega) (by simp only [List.length_map] at *; omega) (fun k hk => ?_) | refine o_sll fun tS hS hL => ?_ | refine o_addl (by simp -failIfUnchanged only [List.length_cons, List.length_nil, List.length_append]; omega) ?_ | with_reducible refine stepE ?_ | with_reducible refine stepEs ?_ | with_reducible refine stepB ?_ | with_reducible refine stepS ?_ | refine okO_of (o := getSh _ _) rfl ?_ | with_reducible refine okT_dec (fun hT => ?_) (fun hT => ?_) | with_reducible refine o_addi ?_ | with_reducible refine o_fdiv (by first | decide | omega | (simp only [List.length_map, List.length_range, List.length_cons, List.length_nil, List.length_append]; omega)) (by first | decide | omega | (simp only [List.length_map, List.length_range, List.length_cons, List.length_nil, List.length_append]; omega)) ?_ | with_reducible refine o_mul (by first | (exact Or.inl (by decide)) | (exact Or.inr (by decide)) | omega) ?_ | with_reducible refine o_eqi ?_ | refine okO_of (o := opF _ _) rfl ?_ | refine okO_of (o := ixPart _ _) rfl ?_ | refine okO_of (o := getOwn _ _) rfl ?_ | refine okO_of (o := listOf _) rfl ?_)) <;> (try (conv => whnf))
    all_goals first
      | exact ⟨_, rfl, (hx.app (TL.one ⟨_, rfl, by assumption⟩)).mono (by omega)⟩
      | exact ⟨_, rfl, (((TL.cut hx (by assumption)).app (TL.one ⟨_, rfl, by assumption⟩)).app (TL.cut hx (by assumption))).mono (by omega)⟩
      | trace_state
theorem spoilt_ok [Fn T 58 c_law_spoilt] {n : Nat} (hn : 1 ≤ n) {m : Nat} {xs : List D} (hx : TL m xs) (h0 : 0 < xs.length) (hm : m ≤ 100000) (c : Int) (w : List Nat) (hw : tkG w) :
    okR (callF T gl n 58 [.lst xs, .int c, .str w]) noX fun d => ∃ ys, d = .lst ys ∧ TL (3 * m + 50) ys := by
  refine okR_call (k := 0) hn rfl fun n hn => ?_
  have lv := line_val
  have hs := some_tok hw
  have hl := hx.2
  have a : ∀ t : List Nat, (decide (t ≠ []) && decide (t.length ≤ 9) && t.all alph) = true → TokD (.str t) := fun t h => by
    simp only [Bool.and_eq_true, decide_eq_true_eq] at h
    exact ⟨t, rfl, h.1.1, h.1.2, h.2⟩
  (repeat' ((try (conv => whnf)) <;> first | exact spoilt_rest hx h0 hm _ _ _ _ hw (by assumption) _ _ _ | refine o_modL (by omega) fun q hq0 hq1 hq2 => ?_ | refine o_ixT hs (by omega) (by show _ < ((14 : Nat) : Int); omega) fun t ht => ?_ | refine o_ix2 (by omega) (by omega) ?_ ?_ | refine o_ix4 (by omega) (by omega) fun ms => ?_ | refine o_mulL (a _ (by decide)) (by omega) (by omega) fun rs hr1 hr => ?_ | refine o_sll fun tS hS hL => ?_ | refine o_addl (by simp -failIfUnchanged only [List.length_cons, List.length_nil, List.length_append]; omega) ?_ | with_reducible refine stepE ?_ | with_reducible refine stepEs ?_ | with_reducible refine stepB ?_ | with_reducible refine stepS ?_ | refine okO_of (o := getSh _ _) rfl ?_ | with_reducible refine okT_dec (fun hT => ?_) (fun hT => ?_) | with_reducible refine o_addi ?_ | with_reducible refine o_subi ?_ | with_reducible refine o_fdiv (by first | decide | omega | (simp only [List.length_map, List.length_range, List.length_cons, List.length_nil, List.length_append]; omega)) (by first | decide | omega | (simp only [List.length_map, List.length_range, List.length_cons, List.length_nil, List.length_append]; omega)) ?_ | with_reducible refine o_mul (by first | (exact Or.inl (by decide)) | (exact Or.inr (by decide)) | omega) ?_ | with_reducible refine o_eqi ?_ | refine okO_of (o := opF _ _) rfl ?_ | refine okO_of (o := ixPart _ _) rfl ?_)) <;> (try (conv => whnf))
  all_goals first
    | exact ⟨_, rfl, ((TL.cut hx (by assumption)).app (TL.cut hx (by assumption))).mono (by omega)⟩
    | exact ⟨_, rfl, (((TL.cut hx (by assumption)).app (TL.one ⟨_, rfl, by assumption⟩)).app (TL.cut hx (by assumption))).mono (by omega)⟩
    | exact ⟨_, rfl, (((TL.cut hx (by assumption)).app (TL.two (a _ (by decide)) (a _ (by decide)))).app (TL.cut hx (by assumption))).mono (by omega)⟩
    | exact ⟨_, rfl, (((TL.cut hx (by assumption)).app (TL.two (a _ (by decide)) ⟨_, rfl, hw⟩)).app (TL.cut hx (by assumption))).mono (by omega)⟩
    | exact ⟨_, rfl, (hx.app (TL.one ⟨_, rfl, by assumption⟩)).mono (by omega)⟩
    | exact ⟨_, rfl, (TL.cut hx (by assumption)).mono (by omega)⟩
    | exact ⟨_, rfl, (hr.app hx).mono (by omega)⟩
    | exact ⟨_, rfl, (((TL.cut hx (by assumption)).app (TL.cut hx (by assumption))).app (TL.cut hx (by assumption))).mono (by omega)⟩
    | skip
end
end Ev

/-! k06: tokens put together. -/
namespace Ev
section
variable {T : Nat → Option FD} {gl : Nat → Option D}
theorem joined_ok [Fn T 10 c_law_mixed] [Fn T 59 c_law_joined] {n : Nat} (hn : 2 ≤ n) {m : Nat} {xs : List D} (hx : TL m xs) (hm : m ≤ 20000) (s : List Int) (b : Bool) :
    okR (callF T gl n 59 [.lst xs, .lst (s.map .int), .bl b]) noX fun d => ∃ t, d = .str t ∧ t.length ≤ 20 * m ∧ t.all alph = true := by
  refine okR_call (k := 1) hn rfl fun n hn => ?_
  have lv := line_val
  have hl := hx.2
  (repeat' ((try (conv => whnf)) <;> first | with_reducible refine stepE ?_ | with_reducible refine stepEs ?_ | with_reducible refine stepB ?_ | with_reducible refine stepS ?_ | refine okO_of (o := getSh _ _) rfl ?_ | refine okO_of (o := opF _ _) rfl ?_ | with_reducible refine stepIt ?_)) <;> (try (conv => whnf))
  refine o_rng1 (by omega) (by omega) ?_
  refine okFor_rng0 (I := fun k ρ => ∃ (x : List Nat) (v4 v5 : Option (Fl × D)), x.all alph = true ∧ x.length ≤ 20 * k ∧ ρ = [some (.sh, .lst xs), some (.sh, .lst (s.map .int)), some (.sh, .bl b), some (.sh, .str x), v4, v5])
    ⟨[], _, _, rfl, by simp, rfl⟩ ?_ ?_
  · intro k hk ρ ⟨x, v4, v5, hxa, hxl, hρ⟩
    subst hρ
    have hk : k < xs.length := by simpa using hk
    have hgetm : xs[k]? = some xs[k] := List.getElem?_eq_getElem hk
    obtain ⟨t, e2, t0, t9, ta⟩ := hx.1 xs[k] (List.getElem_mem hk)
    rw [e2] at hgetm
    obtain ⟨c2, r2, e2⟩ : ∃ c r, t = c :: r := by
      cases t with
      | nil => exact absurd rfl t0
      | cons c r => exact ⟨c, r, rfl⟩
    have hc2 : alph c2 = true := by
      rw [e2, List.all_cons, Bool.and_eq_true] at ta
      exact ta.1
    have fin : ∀ (f : Nat) (v4 v5 : Option (Fl × D)), f ≤ 2 → ∃ (x' : List Nat) (w4 w5 : Option (Fl × D)), x'.all alph = true ∧ x'.length ≤ 20 * (k + 1) ∧
        [some (Fl.sh, D.lst xs), some (.sh, .lst (s.map .int)), some (.sh, .bl b), some (.sh, .str ((x ++ List.replicate f 32) ++ t)), v4, v5] = [some (.sh, .lst xs), some (.sh, .lst (s.map .int)), some (.sh, .bl b), some (.sh, .str x'), w4, w5] := fun f v4 v5 hf =>
      ⟨_, v4, v5, by rw [List.all_append, List.all_append, hxa, rep_alph, ta]; rfl, by simp only [List.length_append, List.length_replicate]; omega, rfl⟩
    (repeat' ((try (conv => whnf)) <;> first | with_reducible refine stepE ?_ | with_reducible refine stepEs ?_ | with_reducible refine stepB ?_ | with_reducible refine stepS ?_ | refine okO_of (o := getSh _ _) rfl ?_ | with_reducible refine o_addi ?_)) <;> (try (conv => whnf))
    refine okR_then (mixed_ok (by omega) s _) fun d ⟨b9, hd, b0, _⟩ => ?_
    subst hd
    (repeat' ((try (conv => whnf)) <;> first | refine o_muls (by omega) (by omega) ?_ | refine o_adds (by simp; omega) ?_ | refine o_ixl (k := k) hgetm ?_ | with_reducible refine stepE ?_ | with_reducible refine stepB ?_ | with_reducible refine stepS ?_ | refine okO_of (o := getSh _ _) rfl ?_ | with_reducible refine okK_bl ?_ | with_reducible refine okT_ff ?_ | with_reducible refine okT_dec (fun hT => ?_) (fun hT => ?_) | with_reducible refine okT_bl (fun hT => ?_) (fun hT => ?_) | with_reducible refine o_mod (by first | decide | omega | (simp only [List.length_map, List.length_range, List.length_cons, List.length_nil, List.length_append]; omega)) ?_ | with_reducible refine o_eqi ?_ | with_reducible refine o_nes ?_ | refine okO_of (o := opNeg _) rfl ?_)) <;> (try (conv => whnf))
    all_goals first
      | exact fin (b9 % 3).toNat _ _ (by omega)
      | skip
    all_goals
      have hx0 : x ≠ [] := by
        rintro rfl
        simp at *
      obtain ⟨c, hc⟩ : ∃ c, x.getLast? = some c := ⟨_, List.getLast?_eq_some_getLast hx0⟩
      have hca : alph c = true := by
        rw [List.all_eq_true] at hxa
        exact hxa c (List.mem_of_getLast? hc)
      refine o_last hc ?_
      (repeat' ((try (conv => whnf)) <;> first | refine o_aln hca ?_ | refine o_aln hc2 ?_ | refine o_ixs (k := 0) (c := c2) (by rw [e2]; rfl) ?_ | refine o_muls (by omega) (by omega) ?_ | refine o_adds (by simp; omega) ?_ | refine o_ixl (k := k) hgetm ?_ | with_reducible refine stepE ?_ | with_reducible refine stepEs ?_ | with_reducible refine stepB ?_ | with_reducible refine stepS ?_ | refine okO_of (o := getSh _ _) rfl ?_ | with_reducible refine okK_bl ?_ | with_reducible refine okT_ff ?_ | with_reducible refine okT_bl (fun hT => ?_) (fun hT => ?_) | refine okO_of (o := recv _) rfl ?_)) <;> (try (conv => whnf))
      all_goals first
        | exact fin (Int.toNat 1) _ _ (by decide)
        | exact fin (b9 % 3).toNat _ _ (by omega)
  · intro ρ ⟨x, v4, v5, hxa, hxl, hρ⟩
    subst hρ
    (repeat' ((try (conv => whnf)) <;> first | with_reducible refine stepE ?_ | with_reducible refine stepB ?_ | with_reducible refine stepS ?_ | refine okO_of (o := getSh _ _) rfl ?_)) <;> (try (conv => whnf))
    exact ⟨x, rfl, by simp at hxl; omega, hxa⟩
end
end Ev

/-! k06: the law. -/
namespace Ev
theorem okR_excs6 {r : Res D} {c : Nat} {X : Nat → Prop} {P : D → Prop} (h : okR r X P) (hp : ∀ d, ¬ P d) (hx : ∀ z, X z → z = c) : r = .exc c := by
  unfold okR at h
  cases r with
  | ok d => exact absurd h (hp d)
  | exc z => rw [hx z h]
  | fail => exact h.elim
theorem okR_val6 {r : Res D} {X : Nat → Prop} {P : D → Prop} {e : D} (h : okR r X P) (hx : ∀ z, ¬ X z) (hp : ∀ d, P d → d = e) : r = .ok e := by
  unfold okR at h
  cases r with
  | ok d => rw [hp d h]
  | exc z => exact absurd h (hx z)
  | fail => exact h.elim
theorem tkT_sz : ∀ l : List (List Nat), (∀ t ∈ l, termOk t = true) → (joined [44, 32] l).length ≤ 10 * l.length
  | [], _ => by simp [joined]
  | [t], h => by
    have := (term_word (h t (by simp))).2.2
    simp only [joined, List.length_cons, List.length_nil]
    omega
  | t :: u :: r, h => by
    have h1 := (term_word (h t (by simp))).2.2
    have ih := tkT_sz (u :: r) fun x hx => h x (List.mem_cons_of_mem _ hx)
    simp only [joined, List.length_append, List.length_cons, List.length_nil] at ih ⊢
    omega
theorem sz_tk : ∀ A : Stm, A.sz ≤ A.tk.length
  | .is w ts => by
    simp only [Stm.sz, Stm.tk]
    split <;> simp
  | .fls => by simp [Stm.sz, Stm.tk]
  | .not a => by
    have := sz_tk a
    simp only [Stm.sz, Stm.tk, List.length_cons]; omega
  | .bin o a b => by
    have := sz_tk a
    have := sz_tk b
    simp only [Stm.sz, Stm.tk, List.length_cons, List.length_append, List.length_nil]; omega
  | .qu q x a => by
    have := sz_tk a
    simp only [Stm.sz, Stm.tk, List.length_cons]; omega
theorem wr_tk : ∀ A : Stm, A.wf → A.wr.length ≤ 10 * A.tk.length
  | .is w ts, h => by
    have h1 := (name_word h.1).2.2
    have h2 := tkT_sz ts h.2.2
    have h3 := tkT_len ts
    simp only [Stm.wr, Stm.tk]
    split
    · simp only [List.length_cons, List.length_nil]; omega
    · simp only [List.length_cons, List.length_nil, List.length_append]; omega
  | .fls, _ => by simp [Stm.wr, Stm.tk]
  | .not a, h => by
    have := wr_tk a h
    simp only [Stm.wr, Stm.tk, List.length_cons, List.length_append, List.length_nil]; omega
  | .bin o a b, h => by
    have := wr_tk a h.1
    have := wr_tk b h.2
    have := (op_word o).2.2
    simp only [Stm.wr, Stm.tk, List.length_cons, List.length_append, List.length_nil]; omega
  | .qu q x a, h => by
    have := wr_tk a h.2
    have := (qu_word q).2.2
    have := (letter_word h.1).2.2
    simp only [Stm.wr, Stm.tk, List.length_cons, List.length_append, List.length_nil]; omega
theorem tk2_len : ∀ (s run : List Nat), (tk2 run s).length ≤ s.length + (if run = [] then 0 else 1)
  | [], run => by
    unfold tk2 flsh
    split <;> simp_all
  | c :: s, run => by
    have i1 := tk2_len s (run ++ [c])
    have i2 := tk2_len s []
    unfold tk2
    simp only [if_true] at i2
    rw [if_neg (by simp)] at i1
    have i3 : (flsh run).length = if run = [] then 0 else 1 := by unfold flsh; split <;> rfl
    by_cases hw : isW c = true
    · rw [if_pos hw]
      by_cases hr : run = []
      · rw [if_pos hr]; simp only [List.length_cons]; omega
      · rw [if_neg hr]; simp only [List.length_cons]; omega
    · rw [if_neg hw, List.length_append, List.length_append, i3, List.length_cons]
      by_cases hc : c = 32
      · rw [if_pos hc]; simp only [List.length_nil]; omega
      · rw [if_neg hc]; simp only [List.length_cons, List.length_nil]; omega
theorem toks_len (s : List Nat) : (toks s).length ≤ s.length := by
  have := tk2_len s []
  simpa [toks] using this
theorem strs_depth6 : ∀ l : List (List Nat), D.depthL (l.map .str) ≤ 1
  | [] => by simp [D.depthL]
  | t :: l => by
    have := strs_depth6 l
    simp only [List.map_cons, D.depthL, D.depth]; omega
theorem o_eqL6 {l : List (List Nat)} {P : Bool → Prop} (p : P true) : okO (opC .eq (.lst (l.map .str)) (.lst (l.map .str))) P := by
  refine o_eq ?_ ?_
  · have := strs_depth6 l
    simp only [D.depth]
    unfold eqDeep
    omega
  · rw [eqv_refl]; exact p
theorem o_slA6 {s : List Nat} {k : Int} {P : D → Prop} (h : 0 ≤ k) (p : ∀ t : List Nat, t.length ≤ k.toNat → P (.str t)) : okO (opSl (.str s) none (some k)) P := okO_of rfl (p _ (by
  rw [cut_takeI _ h, List.length_take]; omega))
theorem o_slB6 {s : List Nat} {k : Int} {P : D → Prop} (h : 0 ≤ k) (p : ∀ t : List Nat, t.length = s.length - k.toNat → P (.str t)) : okO (opSl (.str s) (some k) none) P := okO_of rfl (p _ (by
  rw [cut_dropI _ h, List.length_drop]))
section
variable {T : Nat → Option FD} {gl : Nat → Option D}
theorem refused06_ok [Gl gl 0 (.str small)] [Gl gl 1 (.str great)] [Gl gl 2 (.str figs)] [Gl gl 3 (.tup (kept.map .str))] [Gl gl 4 (.int 8)] [Gl gl 41 (.int 40)] [Fn T 5 c_built] [Fn T 6 c_is_name] [Fn T 7 c_is_letter] [Fn T 8 c_is_word] [Fn T 45 c_within_words] [Fn T 46 c_tokens_of] [Fn T 47 c_sure] [Fn T 48 c_token_at] [Fn T 49 c_read_terms] [Fn T 50 c_read_is] [Fn T 51 c_read_two] [Fn T 52 c_read_from] [Fn T 53 c_read] [Fn T 60 c_law_refused_right]
    {n : Nat} (hn : 91 ≤ n) (u : List Nat) (hl : u.length ≤ 1000000) (h : rdAny u = none) : callF T gl n 60 [.str u] = .ok (.bl true) := by
  refine eq_of_okR (okR_call (k := 90) hn rfl fun n hn => ?_)
  have e := okR_excs6 (read_any6 (T := T) (gl := gl) (n := n) (by omega) u hl) (fun d ⟨A, _, hA⟩ => by rw [h] at hA; cases hA) (fun z hz => hz.1)
  (repeat' ((try (conv => whnf)) <;> first | refine okR_exc e ?_ | (refine Or.inl ⟨rfl, ?_⟩) | with_reducible refine stepE ?_ | with_reducible refine stepEs ?_ | with_reducible refine stepB ?_ | with_reducible refine stepS ?_ | refine okO_of (o := getSh _ _) rfl ?_)) <;> (try (conv => whnf))
  exact ⟨by decide, rfl⟩
theorem law_plain_06 [Gl gl 0 (.str small)] [Gl gl 1 (.str great)] [Gl gl 2 (.str figs)] [Gl gl 3 (.tup (kept.map .str))] [Gl gl 4 (.int 8)] [Gl gl 41 (.int 40)] [Fn T 5 c_built] [Fn T 6 c_is_name] [Fn T 7 c_is_letter] [Fn T 8 c_is_word] [Fn T 45 c_within_words] [Fn T 46 c_tokens_of] [Fn T 47 c_sure] [Fn T 48 c_token_at] [Fn T 49 c_read_terms] [Fn T 50 c_read_is] [Fn T 51 c_read_two] [Fn T 52 c_read_from] [Fn T 53 c_read] [Fn T 60 c_law_refused_right]
    [Fn T 9 c_law_cell_at] [Fn T 10 c_law_mixed] [Fn T 18 c_law_sign_by] [Fn T 19 c_law_name_by] [Fn T 20 c_law_small_by] [Fn T 21 c_law_wrapped] [Fn T 22 c_law_statement_by] [Fn T 23 c_law_many_by] [Fn T 39 c_law_written] [Fn T 54 c_law_tokens] [Fn T 24 c_law_parts] [Fn T 55 c_law_is_built] [Fn T 56 c_law_is_right] [Fn T 57 c_law_fit] [Fn T 58 c_law_spoilt] [Fn T 59 c_law_joined] [Fn T 61 c_law_v5]
    {s : List Int} (_ : s.length ≤ 63) : callF T gl depthMost 61 [.lst (s.map .int)] = .ok (.bl true) := by
  refine eq_of_okR (okR_call (k := 219) (by decide) rfl fun n hn => ?_)
  have lv := line_val
  have q150 : eqDeep = 150 := rfl
  have finB : ∀ {t : List Nat} {ρ : Env} {v1 v2 v3 v4 v6 v7 v8 : Option (Fl × D)}, t.length ≤ 290000 → ρ = [some (.sh, .lst (s.map .int)), v1, v2, v3, v4, some (.sh, .str t), v6, v7, v8] →
      okB (callF T gl n) gl (B.tl6 7 c_law_v5.body) ρ (.fn (fun y => y = .bl true) noX) := by
    rintro t ρ v1 v2 v3 v4 v6 v7 v8 ht hρ
    subst hρ
    have rd := read_any6 (T := T) (gl := gl) (n := n) (by omega) t (by omega)
    cases q : rdAny t with
    | none =>
      have e := okR_excs6 rd (fun d ⟨A, _, hA⟩ => by rw [q] at hA; cases hA) (fun z hz => hz.1)
      have e2 := refused06_ok (T := T) (gl := gl) (n := n) (by omega) t (by omega) q
      (repeat' ((try (conv => whnf)) <;> first | refine okR_exc e ?_ | (refine Or.inl ⟨rfl, ?_⟩) | refine okR_of (e2) ?_ | with_reducible refine stepE ?_ | with_reducible refine stepEs ?_ | with_reducible refine stepB ?_ | with_reducible refine stepS ?_ | refine okO_of (o := getSh _ _) rfl ?_)) <;> (try (conv => whnf))
    | some A =>
      have e : callF T gl n 53 [.str t] = .ok A.enc := by
        refine okR_val6 rd (fun c hc => by rw [q] at hc; cases hc.2) fun d hd => ?_
        obtain ⟨A2, h1, h2⟩ := hd
        rw [q] at h2
        cases h2
        exact h1
      obtain ⟨ha, wf, dp, tk⟩ := rd_all q
      have hwa := wr_alph A wf
      have e3 := fit_ok (T := T) (gl := gl) A (n := n) (r := 40) wf (by omega) (by omega)
      have e5 := law_tokens_ok (T := T) (gl := gl) (n := n) (by omega) t (by omega) (by simpa [List.all_eq_true] using ha)
      rw [tk] at e5
      have z1 := sz_tk A
      have z2 := wr_tk A wf
      have z3 := toks_len t
      rw [tk] at z3
      have e6 := law_tokens_ok (T := T) (gl := gl) (n := n) (by omega) A.wr (by omega) (by simpa [List.all_eq_true] using hwa)
      rw [toks_wr0 wf] at e6
      have e7 := law_written_ok (T := T) (gl := gl) A (n := n) (by omega) wf (by omega)
      (repeat' ((try (conv => whnf)) <;> first | refine o_eqL6 ?_ | refine okR_of (e) ?_ | refine okR_of (e3) ?_ | refine okR_of (e7) ?_ | refine okR_of (e6) ?_ | refine okR_of (e5) ?_ | with_reducible refine stepE ?_ | with_reducible refine stepEs ?_ | with_reducible refine stepB ?_ | with_reducible refine stepS ?_ | refine okO_of (o := getSh _ _) rfl ?_ | with_reducible refine okK_bl ?_ | with_reducible refine okT_tt ?_)) <;> (try (conv => whnf))
  have finA : ∀ {xs : List D} {b : Bool} {ρ : Env} {v1 v2 v5 v6 v7 v8 : Option (Fl × D)}, TL 14120 xs → ρ = [some (.sh, .lst (s.map .int)), v1, v2, some (.sh, .bl b), some (.sh, .lst xs), v5, v6, v7, v8] →
      okB (callF T gl n) gl (B.tl6 5 c_law_v5.body) ρ (.fn (fun y => y = .bl true) noX) := by
    rintro xs b ρ v1 v2 v5 v6 v7 v8 hx hρ
    subst hρ
    (repeat' ((try (conv => whnf)) <;> first | with_reducible refine stepE ?_ | with_reducible refine stepEs ?_ | with_reducible refine stepB ?_ | with_reducible refine stepS ?_ | refine okO_of (o := getSh _ _) rfl ?_)) <;> (try (conv => whnf))
    refine okR_then (joined_ok (by omega) hx (by omega) s b) fun d ⟨t, hd, ht, _⟩ => ?_
    subst hd
    (repeat' ((try (conv => whnf)) <;> first | exact finB (by omega) rfl | refine o_modL (by omega) fun q hq0 hq1 hq2 => ?_ | refine okR_of (cell_at_ok (by omega) s _ (by decide)) ?_ | with_reducible refine stepE ?_ | with_reducible refine stepEs ?_ | with_reducible refine stepB ?_ | with_reducible refine stepS ?_ | refine okO_of (o := getSh _ _) rfl ?_ | with_reducible refine okT_dec (fun hT => ?_) (fun hT => ?_) | with_reducible refine o_addi ?_ | with_reducible refine o_fdiv (by first | decide | omega | (simp only [List.length_map, List.length_range, List.length_cons, List.length_nil, List.length_append]; omega)) (by first | decide | omega | (simp only [List.length_map, List.length_range, List.length_cons, List.length_nil, List.length_append]; omega)) ?_ | with_reducible refine o_eqi ?_ | refine okO_of (o := opF _ _) rfl ?_)) <;> (try (conv => whnf))
    refine okR_then (mixed_ok (by omega) s _) fun d ⟨b9, hd, b0, _⟩ => ?_
    subst hd
    (repeat' ((try (conv => whnf)) <;> first | exact finB (by simp only [List.length_append, List.length_cons, List.length_nil]; omega) rfl | refine o_ixs' (by omega) (by show _ < ((30 : Nat) : Int); omega) (fun c2 g2 => ?_) | refine o_slA6 (by omega) fun tA hA => ?_ | refine o_slB6 (by omega) fun tB hB => ?_ | refine o_adds (by simp only [List.length_append, List.length_cons, List.length_nil]; omega) ?_ | with_reducible refine stepE ?_ | with_reducible refine stepB ?_ | with_reducible refine stepS ?_ | refine okO_of (o := getSh _ _) rfl ?_ | with_reducible refine o_mod (by first | decide | omega | (simp only [List.length_map, List.length_range, List.length_cons, List.length_nil, List.length_append]; omega)) ?_ | refine okO_of (o := ixPart _ _) rfl ?_)) <;> (try (conv => whnf))
  (repeat' ((try (conv => whnf)) <;> first | refine okR_of (cell_at_ok (by omega) s _ (by decide)) ?_ | with_reducible refine stepE ?_ | with_reducible refine stepEs ?_ | with_reducible refine stepB ?_ | with_reducible refine stepS ?_ | refine okO_of (o := getSh _ _) rfl ?_)) <;> (try (conv => whnf))
  refine okR_then (many_by_ok (by omega) _) fun d ⟨m, hd, m0, m1⟩ => ?_
  subst hd
  (repeat' ((try (conv => whnf)) <;> (with_reducible refine stepEs ?_))) <;> (try (conv => whnf))
  refine okR_then (the_statement (by omega) s _ m m0 m1) fun d ⟨A, hd, wA, dA, sA⟩ => ?_
  subst hd
  have hwl := wr_len wA
  have hwa := wr_alph A wA
  have htl := tk_len A wA
  have htk := tk_ok A wA
  have lt := law_tokens_ok (T := T) (gl := gl) (n := n) (by omega) A.wr (by omega) (by simpa [List.all_eq_true] using hwa)
  rw [toks_wr0 wA] at lt
  have hx : TL 4690 (A.tk.map .str) := ⟨fun d hd => by
    obtain ⟨t, ht, rfl⟩ := List.mem_map.mp hd
    exact ⟨t, rfl, tkG_of (htk t ht)⟩, by rw [List.length_map]; omega⟩
  have h0 : 0 < (A.tk.map D.str).length := by
    have := sz_tk A
    have : 0 < A.sz := by cases A <;> simp [Stm.sz]
    rw [List.length_map]; omega
  (repeat' ((try (conv => whnf)) <;> first | with_reducible refine stepE ?_ | with_reducible refine stepEs ?_ | with_reducible refine stepB ?_ | with_reducible refine stepS ?_ | refine okO_of (o := getSh _ _) rfl ?_)) <;> (try (conv => whnf))
  refine okR_then (mixed_ok (by omega) s _) fun d ⟨b9, hd, b0, _⟩ => ?_
  subst hd
  (repeat' ((try (conv => whnf)) <;> first | with_reducible refine stepE ?_ | with_reducible refine stepEs ?_ | with_reducible refine o_fdiv (by first | decide | omega | (simp only [List.length_map, List.length_range, List.length_cons, List.length_nil, List.length_append]; omega)) (by first | decide | omega | (simp only [List.length_map, List.length_range, List.length_cons, List.length_nil, List.length_append]; omega)) ?_)) <;> (try (conv => whnf))
  refine okR_then (name_by_ok (by omega) _ _ small (.inl rfl)) fun d ⟨w, hd, hw, _⟩ => ?_
  subst hd
  have hwG : tkG w := tkG_of (tok_word (built_word (.inl rfl) hw))
  have sp := fun c => spoilt_ok (T := T) (gl := gl) (n := n) (by omega) hx h0 (by omega) c w hwG
  generalize A.tk.map D.str = xs at lt hx h0 sp
  (repeat' ((try (conv => whnf)) <;> first | exact finA (hx.mono (by decide)) rfl | refine okR_of (cell_at_ok (by omega) s _ (by decide)) ?_ | refine okR_of (law_written_ok A (by omega) wA (by omega)) ?_ | refine okR_of (lt) ?_ | with_reducible refine stepE ?_ | with_reducible refine stepEs ?_ | with_reducible refine stepB ?_ | with_reducible refine stepS ?_ | refine okO_of (o := getSh _ _) rfl ?_ | with_reducible refine okK_bl ?_ | with_reducible refine okT_ff ?_ | with_reducible refine okT_dec (fun hT => ?_) (fun hT => ?_) | with_reducible refine okT_bl (fun hT => ?_) (fun hT => ?_) | with_reducible refine o_mod (by first | decide | omega | (simp only [List.length_map, List.length_range, List.length_cons, List.length_nil, List.length_append]; omega)) ?_ | with_reducible refine o_eqi ?_ | refine okO_of (o := opC _ (.int _) (.int _)) rfl ?_)) <;> (try (conv => whnf))
  refine okR_then (sp _) fun d ⟨ys, hd, hy⟩ => ?_
  subst hd
  (repeat' ((try (conv => whnf)) <;> first | exact finA hy rfl | with_reducible refine stepB ?_)) <;> (try (conv => whnf))
end
end Ev

namespace LawEnd
open PySem PySem.Spec Ev
open PyProof.Rows hiding St
theorem plain (ns : List Int) (h : ns.length ≤ 63) : callF tx.T tx.gl depthMost 61 [.lst (ns.map .int)] = .ok (.bl true) := law_plain_06 h
end LawEnd
open PySem PySem.W PySem.Calls PyProof.Rows Ev
theorem PySem.Challenge.cw_boxproof_k06_what_is_read_holds : PySem.Challenge.rw_boxproof_k06_what_is_read.Holds := by
  exact LawEnd.holds_of LawEnd.plain

