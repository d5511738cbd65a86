import PyProof.Rows.All
import Wide.All
import OpenK.AllK
import Wide.FinOn
import PySem.Str
import HandS.ForMost
import KE.KStateDown
import Lean
import HandS.Head0
import HandS.Head1
import HandS.Head2
import HandS.HeadEnd
import HandS.HeadHook1
import HandS.HeadHook2
import PyProof.TableCode
import KE.GoesEnum
import HandS.TupMul
import HandS.Rev
import HandS.More
import HandS.Strs
import HandS.Conv
import HandS.IsInst
import HandS.TupAny
import HandS.RevRange
import HandS.StrMore
import HandS.DictComp
import HandS.Codes
import HandS.Flow
import HandS.Small
import KE.DataEq
import PySem.Challenge.RW_ownglass_k56_whole_own_text_across
set_option Elab.async false
set_option linter.all false
set_option maxRecDepth 100000
/-! OgVal: values, expressions, programs of the first language, machine programs; the translation; what they compute; the translation computes the same. Plain Lean. -/
namespace Og
open PySem

inductive Val where
  | w (s : Str)
  | l (xs : List Val)

mutual
def Val.beq : Val → Val → Bool
  | .w s, .w t => decide (s = t)
  | .l xs, .l ys => Val.beqs xs ys
  | _, _ => false
def Val.beqs : List Val → List Val → Bool
  | [], [] => true
  | x :: xs, y :: ys => Val.beq x y && Val.beqs xs ys
  | _, _ => false
end
mutual
theorem Val.beq_iff : ∀ (a b : Val), Val.beq a b = true ↔ a = b
  | .w s, .w t => by simp [Val.beq]
  | .w s, .l ys => by simp [Val.beq]
  | .l xs, .w t => by simp [Val.beq]
  | .l xs, .l ys => by simp only [Val.beq, Val.l.injEq]; exact Val.beqs_iff xs ys
theorem Val.beqs_iff : ∀ (a b : List Val), Val.beqs a b = true ↔ a = b
  | [], [] => by simp [Val.beqs]
  | [], _ :: _ => by simp [Val.beqs]
  | _ :: _, [] => by simp [Val.beqs]
  | x :: xs, y :: ys => by simp only [Val.beqs, Bool.and_eq_true, List.cons.injEq, Val.beq_iff x y, Val.beqs_iff xs ys]
end
instance : DecidableEq Val := fun a b => decidable_of_iff _ (Val.beq_iff a b)

abbrev nil : Val := .l []
abbrev yes : Val := .w "yes"

mutual
def Val.size : Val → Nat
  | .w _ => 1
  | .l xs => 1 + Val.sizes xs
def Val.sizes : List Val → Nat
  | [] => 0
  | x :: xs => Val.size x + Val.sizes xs
end
mutual
def Val.depth : Val → Nat
  | .w _ => 0
  | .l xs => Val.depths xs
/-- of a list of these items -/
def Val.depths : List Val → Nat
  | [] => 1
  | x :: xs => max (Val.depth x + 1) (Val.depths xs)
end

/-! ### expressions, programs -/
inductive Pr where
  | same | word | head | tail | join
  deriving DecidableEq
def Pr.str : Pr → Str
  | .same => "same" | .word => "word" | .head => "head" | .tail => "tail" | .join => "join"
def Pr.ar : Pr → Nat
  | .same => 2 | .word => 1 | .head => 1 | .tail => 1 | .join => 2
inductive Hd where
  | pr (p : Pr)
  | fn (f : Str)
  deriving DecidableEq
def Hd.str : Hd → Str
  | .pr p => p.str
  | .fn f => f
inductive Ex where
  | var (x : Str)
  | quo (v : Val)
  | ite (a b c : Ex)
  | app (h : Hd) (as : List Ex)
mutual
def Ex.val : Ex → Val
  | .var x => .w x
  | .quo v => .l [.w "quote", v]
  | .ite a b c => .l [.w "if", a.val, b.val, c.val]
  | .app h as => .l (.w h.str :: Ex.vals as)
def Ex.vals : List Ex → List Val
  | [] => []
  | e :: es => e.val :: Ex.vals es
end
theorem Ex.vals_eq (es : List Ex) : Ex.vals es = es.map Ex.val := by
  induction es with
  | nil => rfl
  | cons e r ih => simp [Ex.vals, ih]
structure Fn where
  name : Str
  ps : List Str
  body : Ex
abbrev Prog := List Fn
def Fn.val (f : Fn) : Val := .l [.w f.name, .l (f.ps.map .w), f.body.val]
def Prog.val (p : Prog) : Val := .l (p.map Fn.val)
def find : Prog → Str → Option Fn
  | [], _ => none
  | f :: r, x => if f.name = x then some f else find r x

/-! ### what an expression computes, with the machine's steps -/
def vhead : Val → Val
  | .l (x :: _) => x
  | _ => nil
def vtail : Val → Val
  | .l (_ :: xs) => .l xs
  | _ => nil
def vitems : Val → List Val
  | .l xs => xs
  | .w _ => []
def vword : Val → Val
  | .w _ => yes
  | .l _ => nil
def vjoin (a b : Val) : Val := .l (a :: vitems b)
def vsame (a b : Val) : Val := if a = b then yes else nil
def prim : Pr → List Val → Option Val
  | .same, [a, b] => some (vsame a b)
  | .word, [a] => some (vword a)
  | .head, [a] => some (vhead a)
  | .tail, [a] => some (vtail a)
  | .join, [a, b] => some (vjoin a b)
  | _, _ => none
def look : List Str → List Val → Str → Option Val
  | p :: ps, v :: vs, x => if p = x then some v else look ps vs x
  | _, _, _ => none

mutual
inductive Ev (p : Prog) : List Str → List Val → Ex → Val → Nat → Prop where
  | var {ps vs x v} : look ps vs x = some v → Ev p ps vs (.var x) v 1
  | quo {ps vs v} : Ev p ps vs (.quo v) v 1
  | iteT {ps vs a b c t v n m} : Ev p ps vs a t n → t ≠ nil → Ev p ps vs b v m → Ev p ps vs (.ite a b c) v (n + m + 1)
  | iteF {ps vs a b c v n m} : Ev p ps vs a nil n → Ev p ps vs c v m → Ev p ps vs (.ite a b c) v (n + m + 1)
  | pr {ps vs o as ws v n} : EvL p ps vs as ws n → prim o ws = some v → Ev p ps vs (.app (.pr o) as) v (n + 1)
  | fn {ps vs f as ws v n m d} : EvL p ps vs as ws n → find p f = some d → d.ps.length = ws.length → Ev p d.ps ws d.body v m → Ev p ps vs (.app (.fn f) as) v (n + m + 2)
inductive EvL (p : Prog) : List Str → List Val → List Ex → List Val → Nat → Prop where
  | nil {ps vs} : EvL p ps vs [] [] 0
  | cons {ps vs e es v ws n m} : Ev p ps vs e v n → EvL p ps vs es ws m → EvL p ps vs (e :: es) (v :: ws) (n + m)
end

/-! ### machine programs -/
inductive Ins where
  | push (v : Val)
  | copy (ns : List Val)
  | slide (ns : List Val)
  | pr (p : Pr)
  | call (nm : Val)
  | cond (a b : Val)
def Ins.val : Ins → Val
  | .push v => .l [.w "push", v]
  | .copy ns => .l [.w "copy", .l ns]
  | .slide ns => .l [.w "slide", .l ns]
  | .pr p => .l [.w p.str]
  | .call nm => .l [.w "call", nm]
  | .cond a b => .l [.w "if", a, b]
structure Rt where
  name : Val
  code : List Ins
def Rt.val (r : Rt) : Val := .l (r.name :: r.code.map Ins.val)
abbrev Mac := List Rt
def Mac.val (m : Mac) : Val := .l (m.map Rt.val)
def findR : Mac → Val → Option (List Ins)
  | [], _ => none
  | r :: m, x => if r.name = x then some r.code else findR m x

/-- the machine from (todo, stack) comes to (todo', stack') in n steps, k turns -/
inductive Reach (m : Mac) : List (List Ins) → List Val → Nat → Nat → List (List Ins) → List Val → Prop where
  | refl {td st} : Reach m td st 0 0 td st
  | pop {td st n k td' st'} : Reach m td st n k td' st' → Reach m ([] :: td) st n (k + 1) td' st'
  | push {v is td st n k td' st'} : Reach m (is :: td) (v :: st) n k td' st' → Reach m ((.push v :: is) :: td) st (n + 1) (k + 1) td' st'
  | copy {ns v is td st n k td' st'} : st[ns.length]? = some v → Reach m (is :: td) (v :: st) n k td' st' → Reach m ((.copy ns :: is) :: td) st (n + 1) (k + 1) td' st'
  | slide {ns v tmp is td st n k td' st'} : tmp.length = ns.length → Reach m (is :: td) (v :: st) n k td' st' → Reach m ((.slide ns :: is) :: td) (v :: (tmp ++ st)) (n + 1) (k + 1) td' st'
  | pr {o ws v is td st n k td' st'} : prim o ws = some v → Reach m (is :: td) (v :: st) n k td' st' → Reach m ((.pr o :: is) :: td) (ws.reverse ++ st) (n + 1) (k + 1) td' st'
  | call {nm code is td st n k td' st'} : findR m nm = some code → Reach m (code :: is :: td) st n k td' st' → Reach m ((.call nm :: is) :: td) st (n + 1) (k + 1) td' st'
  | cond {a b c code is td st n k td' st'} : findR m (if c = nil then b else a) = some code → Reach m (code :: is :: td) st n k td' st' → Reach m ((.cond a b :: is) :: td) (c :: st) (n + 1) (k + 1) td' st'
theorem Reach.trans {m : Mac} {td td1 td2 : List (List Ins)} {st st1 st2 : List Val} {n k n' k' : Nat} (h : Reach m td st n k td1 st1) : Reach m td1 st1 n' k' td2 st2 → Reach m td st (n + n') (k + k') td2 st2 := by
  intro g
  induction h with
  | refl => simpa using g
  | pop _ ih => have := (ih g).pop; rwa [Nat.add_right_comm] at this
  | push _ ih => have := (ih g).push; rwa [Nat.add_right_comm _ n', Nat.add_right_comm _ k'] at this
  | copy e _ ih => have := (ih g).copy e; rwa [Nat.add_right_comm _ n', Nat.add_right_comm _ k'] at this
  | slide e _ ih => have := (ih g).slide e; rwa [Nat.add_right_comm _ n', Nat.add_right_comm _ k'] at this
  | pr e _ ih => have := (ih g).pr e; rwa [Nat.add_right_comm _ n', Nat.add_right_comm _ k'] at this
  | call e _ ih => have := (ih g).call e; rwa [Nat.add_right_comm _ n', Nat.add_right_comm _ k'] at this
  | cond e _ ih => have := (ih g).cond e; rwa [Nat.add_right_comm _ n', Nat.add_right_comm _ k'] at this

/-! ### the translation -/
/-- c and a number, as a text -/
def made (c : String) (i : Nat) : Str := Str.ofString c ++ Str.ofString (toString (i : Int))
/-- p1, p2, .. -/
def pW (i : Nat) : Val := .w (made "p" i)
def aW : Val := .w "a"
/-- the parameters behind x -/
def after : List Str → Str → List Str
  | [], _ => []
  | p :: ps, x => if p = x then ps else after ps x
def Hd.ins : Hd → Ins
  | .pr p => .pr p
  | .fn f => .call (.w f)
mutual
def ops (ps : List Str) : Ex → List Val → List Val → List Ins
  | .var x, d, _ => [.copy ((after ps x).map .w ++ d)]
  | .quo v, _, _ => [.push v]
  | .ite a _ _, d, w => ops ps a d (pW 1 :: w) ++ [.cond (.l (pW 2 :: w)) (.l (pW 3 :: w))]
  | .app h as, d, w => opsL ps as d w 1 ++ [h.ins]
def opsL (ps : List Str) : List Ex → List Val → List Val → Nat → List Ins
  | [], _, _, _ => []
  | e :: es, d, w, i => ops ps e d (pW i :: w) ++ opsL ps es (aW :: d) w (i + 1)
end
mutual
def routs (ps : List Str) : Ex → List Val → List Val → List Rt
  | .var _, _, _ => []
  | .quo _, _, _ => []
  | .ite a b c, d, w => routs ps a d (pW 1 :: w) ++ (⟨.l (pW 2 :: w), ops ps b d (pW 2 :: w)⟩ :: routs ps b d (pW 2 :: w) ++ (⟨.l (pW 3 :: w), ops ps c d (pW 3 :: w)⟩ :: routs ps c d (pW 3 :: w)))
  | .app _ as, d, w => routsL ps as d w 1
def routsL (ps : List Str) : List Ex → List Val → List Val → Nat → List Rt
  | [], _, _, _ => []
  | e :: es, d, w, i => routs ps e d (pW i :: w) ++ routsL ps es (aW :: d) w (i + 1)
end
def Fn.code (f : Fn) : List Ins := ops f.ps f.body [] [.w f.name] ++ [.slide (f.ps.map .w)]
def Fn.toM (f : Fn) : Mac := ⟨.w f.name, f.code⟩ :: routs f.ps f.body [] [.w f.name]
def toM : Prog → Mac
  | [] => []
  | f :: r => f.toM ++ toM r

/-! ### the translation computes the same -/
theorem look_at : ∀ {ps : List Str} {vs : List Val} {x : Str} {v : Val}, look ps vs x = some v → ps.length = vs.length → vs.reverse[(after ps x).length]? = some v
  | [], _, _, _, h, _ => by simp [look] at h
  | _ :: _, [], _, _, h, _ => by simp [look] at h
  | p :: ps, u :: vs, x, v, h, hl => by
    simp only [look] at h
    have hl' : ps.length = vs.length := by simpa using hl
    simp only [after, List.reverse_cons]
    split at h
    · rename_i e
      rw [if_pos e, hl', List.getElem?_append_right (by simp)]
      simpa using h
    · rename_i e
      have h2 := look_at h hl'
      rw [if_neg e, List.getElem?_append_left]
      · exact h2
      · have := (List.getElem?_eq_some_iff.mp h2).1
        exact this
/-- the table holds the routines of each function -/
structure Holds (m : Mac) (p : Prog) : Prop where
  fn : ∀ f d, find p f = some d → findR m (.w f) = some d.code ∧ ∀ r ∈ routs d.ps d.body [] [.w d.name], findR m r.name = some r.code
theorem comp {m : Mac} {p : Prog} (hm : Holds m p) {ps : List Str} {vs : List Val} {e : Ex} {v : Val} {n : Nat} (h : Ev p ps vs e v n) :
    ps.length = vs.length → ∀ (d w tmp : List Val) (is : List Ins) (td : List (List Ins)) (st : List Val), (∀ r ∈ routs ps e d w, findR m r.name = some r.code) → tmp.length = d.length →
      ∃ k, Reach m ((ops ps e d w ++ is) :: td) (tmp ++ (vs.reverse ++ st)) n k (is :: td) (v :: (tmp ++ (vs.reverse ++ st))) := by
  refine Ev.rec (p := p)
    (motive_1 := fun ps vs e v n _ => ps.length = vs.length → ∀ (d w tmp : List Val) (is : List Ins) (td : List (List Ins)) (st : List Val), (∀ r ∈ routs ps e d w, findR m r.name = some r.code) → tmp.length = d.length →
      ∃ k, Reach m ((ops ps e d w ++ is) :: td) (tmp ++ (vs.reverse ++ st)) n k (is :: td) (v :: (tmp ++ (vs.reverse ++ st))))
    (motive_2 := fun ps vs es ws n _ => ps.length = vs.length → ∀ (d w tmp : List Val) (i : Nat) (is : List Ins) (td : List (List Ins)) (st : List Val), (∀ r ∈ routsL ps es d w i, findR m r.name = some r.code) → tmp.length = d.length →
      ∃ k, Reach m ((opsL ps es d w i ++ is) :: td) (tmp ++ (vs.reverse ++ st)) n k (is :: td) (ws.reverse ++ (tmp ++ (vs.reverse ++ st))))
    ?var ?quo ?iteT ?iteF ?pr ?fn ?nil ?cons h
  case var =>
    intro ps vs x v hx hl d w tmp is td st _ ht
    refine ⟨_, .copy ?_ .refl⟩
    have e := look_at hx hl
    have e1 := (List.getElem?_eq_some_iff.mp e).1
    rw [List.length_append, List.length_map, Nat.add_comm, ← ht, List.getElem?_append_right (by omega), Nat.add_sub_cancel_left, List.getElem?_append_left e1]
    exact e
  case quo =>
    intro ps vs v _ d w tmp is td st _ _
    exact ⟨_, .push .refl⟩
  case iteT =>
    intro ps vs a b c t v n m' ha hne hb iha ihb hl d w tmp is td st hr ht
    simp only [routs, List.mem_append, List.mem_cons] at hr
    obtain ⟨k1, r1⟩ := iha hl d (pW 1 :: w) tmp (.cond (.l (pW 2 :: w)) (.l (pW 3 :: w)) :: is) td st (fun r h => hr r (.inl h)) ht
    obtain ⟨k2, r2⟩ := ihb hl d (pW 2 :: w) tmp [] (is :: td) st (fun r h => hr r (.inr (.inl (.inr h)))) ht
    have c := hr ⟨.l (pW 2 :: w), ops ps b d (pW 2 :: w)⟩ (.inr (.inl (.inl rfl)))
    have r3 := r1.trans (.cond (by rw [if_neg hne]; exact c) (by
      have r4 := r2.trans (.pop .refl)
      simpa using r4))
    simp only [ops, List.append_assoc, List.singleton_append]
    have e : n + m' + 1 = n + (m' + 1) := by omega
    rw [e]
    exact ⟨_, r3⟩
  case iteF =>
    intro ps vs a b c v n m' ha hb iha ihb hl d w tmp is td st hr ht
    simp only [routs, List.mem_append, List.mem_cons] at hr
    obtain ⟨k1, r1⟩ := iha hl d (pW 1 :: w) tmp (.cond (.l (pW 2 :: w)) (.l (pW 3 :: w)) :: is) td st (fun r h => hr r (.inl h)) ht
    obtain ⟨k2, r2⟩ := ihb hl d (pW 3 :: w) tmp [] (is :: td) st (fun r h => hr r (.inr (.inr (.inr h)))) ht
    have c := hr ⟨.l (pW 3 :: w), ops ps c d (pW 3 :: w)⟩ (.inr (.inr (.inl rfl)))
    have r3 := r1.trans (.cond (by rw [if_pos rfl]; exact c) (by
      have r4 := r2.trans (.pop .refl)
      simpa using r4))
    simp only [ops, List.append_assoc, List.singleton_append]
    have e : n + m' + 1 = n + (m' + 1) := by omega
    rw [e]
    exact ⟨_, r3⟩
  case pr =>
    intro ps vs o as ws v n ha hv ih hl d w tmp is td st hr ht
    obtain ⟨k1, r1⟩ := ih hl d w tmp 1 (.pr o :: is) td st hr ht
    simp only [ops, Hd.ins, List.append_assoc, List.singleton_append]
    exact ⟨_, r1.trans (.pr hv .refl)⟩
  case fn =>
    intro ps vs f as ws v n m' fd ha hf hpl hb iha ihb hl d w tmp is td st hr ht
    obtain ⟨k1, r1⟩ := iha hl d w tmp 1 (.call (.w f) :: is) td st hr ht
    obtain ⟨c1, c2⟩ := hm.fn f fd hf
    obtain ⟨k2, r2⟩ := ihb hpl [] [.w fd.name] [] [.slide (fd.ps.map .w)] (is :: td) (tmp ++ (vs.reverse ++ st)) c2 rfl
    simp only [ops, Hd.ins, List.append_assoc, List.singleton_append]
    refine ⟨k1 + (k2 + 2 + 1), ?_⟩
    have e : n + m' + 2 = n + (m' + 1 + 1) := by omega
    rw [e]
    refine r1.trans (.call c1 ?_)
    have r3 : Reach m ([.slide (fd.ps.map .w)] :: is :: td) (v :: (ws.reverse ++ (tmp ++ (vs.reverse ++ st)))) 1 2 (is :: td) (v :: (tmp ++ (vs.reverse ++ st))) := .slide (by simp [hpl]) (.pop .refl)
    exact r2.trans r3
  case nil =>
    intro ps vs _ d w tmp i is td st _ _
    exact ⟨_, .refl⟩
  case cons =>
    intro ps vs e es v ws n m' he hes ihe ihes hl d w tmp i is td st hr ht
    simp only [routsL, List.mem_append] at hr
    obtain ⟨k1, r1⟩ := ihe hl d (pW i :: w) tmp (opsL ps es (aW :: d) w (i + 1) ++ is) td st (fun r h => hr r (.inl h)) ht
    obtain ⟨k2, r2⟩ := ihes hl (aW :: d) w (v :: tmp) (i + 1) is td st (fun r h => hr r (.inr h)) (by simp [ht])
    simp only [opsL, List.append_assoc, List.reverse_cons, List.singleton_append]
    exact ⟨_, r1.trans r2⟩
end Og

set_option Elab.async false
set_option linter.all false
set_option maxRecDepth 100000
set_option maxHeartbeats 1000000
/-! OgTr: the translator, run as a program, gives the translation; with a bound of its steps. Plain Lean. -/
namespace Og
open PySem

def fN (i : Nat) : Str := made "f" i
/-- the translator -/
def TR1 : Fn := ⟨"main", ["p"], .ite (.var "p") (.app (.fn "app") [.app (.fn "func") [.app (.pr .head) [.var "p"]], .app (.fn "main") [.app (.pr .tail) [.var "p"]]]) (.quo (.l []))⟩
def TR2 : Fn := ⟨"func", ["f"], .app (.fn "fun") [.app (.pr .head) [.var "f"], .app (.pr .head) [.app (.pr .tail) [.var "f"]], .app (.pr .head) [.app (.pr .tail) [.app (.pr .tail) [.var "f"]]]]⟩
def TR3 : Fn := ⟨"fun", ["n", "ps", "b"], .app (.pr .join) [.app (.pr .join) [.var "n", .app (.fn "app") [.app (.fn "ops") [.var "b", .var "ps", .quo (.l []), .app (.fn "one") [.var "n"]], .app (.fn "one") [.app (.pr .join) [.quo (.w "slide"), .app (.fn "one") [.var "ps"]]]]], .app (.fn "routs") [.var "b", .var "ps", .quo (.l []), .app (.fn "one") [.var "n"]]]⟩
def TR4 : Fn := ⟨"one", ["x"], .app (.pr .join) [.var "x", .quo (.l [])]⟩
def TR5 : Fn := ⟨"app", ["x", "y"], .ite (.var "x") (.app (.pr .join) [.app (.pr .head) [.var "x"], .app (.fn "app") [.app (.pr .tail) [.var "x"], .var "y"]]) (.var "y")⟩
def TR6 : Fn := ⟨"after", ["e", "ps"], .ite (.app (.pr .same) [.var "e", .app (.pr .head) [.var "ps"]]) (.app (.pr .tail) [.var "ps"]) (.app (.fn "after") [.var "e", .app (.pr .tail) [.var "ps"]])⟩
def TR7 : Fn := ⟨"ops", ["e", "ps", "d", "w"], .ite (.app (.pr .word) [.var "e"]) (.app (.fn "one") [.app (.pr .join) [.quo (.w "copy"), .app (.fn "one") [.app (.fn "app") [.app (.fn "after") [.var "e", .var "ps"], .var "d"]]]]) (.app (.fn "oplist") [.app (.pr .head) [.var "e"], .var "e", .var "ps", .var "d", .var "w"])⟩
def TR8 : Fn := ⟨"oplist", ["k", "e", "ps", "d", "w"], .ite (.app (.pr .same) [.var "k", .quo (.w "quote")]) (.app (.fn "one") [.app (.pr .join) [.quo (.w "push"), .app (.pr .tail) [.var "e"]]]) (.ite (.app (.pr .same) [.var "k", .quo (.w "if")]) (.app (.fn "app") [.app (.fn "ops") [.app (.pr .head) [.app (.pr .tail) [.var "e"]], .var "ps", .var "d", .app (.pr .join) [.quo (.w "p1"), .var "w"]], .app (.fn "one") [.app (.pr .join) [.quo (.w "if"), .app (.pr .join) [.app (.pr .join) [.quo (.w "p2"), .var "w"], .app (.fn "one") [.app (.pr .join) [.quo (.w "p3"), .var "w"]]]]]]) (.app (.fn "app") [.app (.fn "args") [.app (.pr .tail) [.var "e"], .var "ps", .var "d", .var "w", .quo (.l [.w "p1", .w "p2", .w "p3", .w "p4", .w "p5", .w "p6", .w "p7", .w "p8", .w "p9", .w "p10", .w "p11", .w "p12"])], .app (.fn "one") [.app (.fn "lastop") [.var "k", .quo (.l [.w "same", .w "word", .w "head", .w "tail", .w "join"])]]]))⟩
def TR9 : Fn := ⟨"lastop", ["k", "l"], .ite (.var "l") (.ite (.app (.pr .same) [.var "k", .app (.pr .head) [.var "l"]]) (.app (.fn "one") [.var "k"]) (.app (.fn "lastop") [.var "k", .app (.pr .tail) [.var "l"]])) (.app (.pr .join) [.quo (.w "call"), .app (.fn "one") [.var "k"]])⟩
def TR10 : Fn := ⟨"args", ["es", "ps", "d", "w", "is"], .ite (.var "es") (.app (.fn "app") [.app (.fn "ops") [.app (.pr .head) [.var "es"], .var "ps", .var "d", .app (.pr .join) [.app (.pr .head) [.var "is"], .var "w"]], .app (.fn "args") [.app (.pr .tail) [.var "es"], .var "ps", .app (.pr .join) [.quo (.w "a"), .var "d"], .var "w", .app (.pr .tail) [.var "is"]]]) (.quo (.l []))⟩
def TR11 : Fn := ⟨"routs", ["e", "ps", "d", "w"], .ite (.app (.pr .word) [.var "e"]) (.quo (.l [])) (.app (.fn "routlist") [.app (.pr .head) [.var "e"], .app (.pr .tail) [.var "e"], .var "ps", .var "d", .var "w"])⟩
def TR12 : Fn := ⟨"routlist", ["k", "es", "ps", "d", "w"], .ite (.app (.pr .same) [.var "k", .quo (.w "quote")]) (.quo (.l [])) (.ite (.app (.pr .same) [.var "k", .quo (.w "if")]) (.app (.fn "app") [.app (.fn "routs") [.app (.pr .head) [.var "es"], .var "ps", .var "d", .app (.pr .join) [.quo (.w "p1"), .var "w"]], .app (.fn "app") [.app (.fn "branch") [.app (.pr .head) [.app (.pr .tail) [.var "es"]], .var "ps", .var "d", .app (.pr .join) [.quo (.w "p2"), .var "w"]], .app (.fn "branch") [.app (.pr .head) [.app (.pr .tail) [.app (.pr .tail) [.var "es"]]], .var "ps", .var "d", .app (.pr .join) [.quo (.w "p3"), .var "w"]]]]) (.app (.fn "routargs") [.var "es", .var "ps", .var "d", .var "w", .quo (.l [.w "p1", .w "p2", .w "p3", .w "p4", .w "p5", .w "p6", .w "p7", .w "p8", .w "p9", .w "p10", .w "p11", .w "p12"])]))⟩
def TR13 : Fn := ⟨"branch", ["e", "ps", "d", "w"], .app (.pr .join) [.app (.pr .join) [.var "w", .app (.fn "ops") [.var "e", .var "ps", .var "d", .var "w"]], .app (.fn "routs") [.var "e", .var "ps", .var "d", .var "w"]]⟩
def TR14 : Fn := ⟨"routargs", ["es", "ps", "d", "w", "is"], .ite (.var "es") (.app (.fn "app") [.app (.fn "routs") [.app (.pr .head) [.var "es"], .var "ps", .var "d", .app (.pr .join) [.app (.pr .head) [.var "is"], .var "w"]], .app (.fn "routargs") [.app (.pr .tail) [.var "es"], .var "ps", .app (.pr .join) [.quo (.w "a"), .var "d"], .var "w", .app (.pr .tail) [.var "is"]]]) (.quo (.l []))⟩
def TR : Prog := [TR1, TR2, TR3, TR4, TR5, TR6, TR7, TR8, TR9, TR10, TR11, TR12, TR13, TR14]
/-- .. as it stands in what is made of it -/
def tr1 : Fn := ⟨(fN 1), ["p"], .ite (.var "p") (.app (.fn (fN 5)) [.app (.fn (fN 2)) [.app (.pr .head) [.var "p"]], .app (.fn (fN 1)) [.app (.pr .tail) [.var "p"]]]) (.quo (.l []))⟩
def tr2 : Fn := ⟨(fN 2), ["f"], .app (.fn (fN 3)) [.app (.pr .head) [.var "f"], .app (.pr .head) [.app (.pr .tail) [.var "f"]], .app (.pr .head) [.app (.pr .tail) [.app (.pr .tail) [.var "f"]]]]⟩
def tr3 : Fn := ⟨(fN 3), ["n", "ps", "b"], .app (.pr .join) [.app (.pr .join) [.var "n", .app (.fn (fN 5)) [.app (.fn (fN 7)) [.var "b", .var "ps", .quo (.l []), .app (.fn (fN 4)) [.var "n"]], .app (.fn (fN 4)) [.app (.pr .join) [.quo (.w "slide"), .app (.fn (fN 4)) [.var "ps"]]]]], .app (.fn (fN 11)) [.var "b", .var "ps", .quo (.l []), .app (.fn (fN 4)) [.var "n"]]]⟩
def tr4 : Fn := ⟨(fN 4), ["x"], .app (.pr .join) [.var "x", .quo (.l [])]⟩
def tr5 : Fn := ⟨(fN 5), ["x", "y"], .ite (.var "x") (.app (.pr .join) [.app (.pr .head) [.var "x"], .app (.fn (fN 5)) [.app (.pr .tail) [.var "x"], .var "y"]]) (.var "y")⟩
def tr6 : Fn := ⟨(fN 6), ["e", "ps"], .ite (.app (.pr .same) [.var "e", .app (.pr .head) [.var "ps"]]) (.app (.pr .tail) [.var "ps"]) (.app (.fn (fN 6)) [.var "e", .app (.pr .tail) [.var "ps"]])⟩
def tr7 : Fn := ⟨(fN 7), ["e", "ps", "d", "w"], .ite (.app (.pr .word) [.var "e"]) (.app (.fn (fN 4)) [.app (.pr .join) [.quo (.w "copy"), .app (.fn (fN 4)) [.app (.fn (fN 5)) [.app (.fn (fN 6)) [.var "e", .var "ps"], .var "d"]]]]) (.app (.fn (fN 8)) [.app (.pr .head) [.var "e"], .var "e", .var "ps", .var "d", .var "w"])⟩
def tr8 : Fn := ⟨(fN 8), ["k", "e", "ps", "d", "w"], .ite (.app (.pr .same) [.var "k", .quo (.w "quote")]) (.app (.fn (fN 4)) [.app (.pr .join) [.quo (.w "push"), .app (.pr .tail) [.var "e"]]]) (.ite (.app (.pr .same) [.var "k", .quo (.w "if")]) (.app (.fn (fN 5)) [.app (.fn (fN 7)) [.app (.pr .head) [.app (.pr .tail) [.var "e"]], .var "ps", .var "d", .app (.pr .join) [.quo (.w "p1"), .var "w"]], .app (.fn (fN 4)) [.app (.pr .join) [.quo (.w "if"), .app (.pr .join) [.app (.pr .join) [.quo (.w "p2"), .var "w"], .app (.fn (fN 4)) [.app (.pr .join) [.quo (.w "p3"), .var "w"]]]]]]) (.app (.fn (fN 5)) [.app (.fn (fN 10)) [.app (.pr .tail) [.var "e"], .var "ps", .var "d", .var "w", .quo (.l [.w "p1", .w "p2", .w "p3", .w "p4", .w "p5", .w "p6", .w "p7", .w "p8", .w "p9", .w "p10", .w "p11", .w "p12"])], .app (.fn (fN 4)) [.app (.fn (fN 9)) [.var "k", .quo (.l [.w "same", .w "word", .w "head", .w "tail", .w "join"])]]]))⟩
def tr9 : Fn := ⟨(fN 9), ["k", "l"], .ite (.var "l") (.ite (.app (.pr .same) [.var "k", .app (.pr .head) [.var "l"]]) (.app (.fn (fN 4)) [.var "k"]) (.app (.fn (fN 9)) [.var "k", .app (.pr .tail) [.var "l"]])) (.app (.pr .join) [.quo (.w "call"), .app (.fn (fN 4)) [.var "k"]])⟩
def tr10 : Fn := ⟨(fN 10), ["es", "ps", "d", "w", "is"], .ite (.var "es") (.app (.fn (fN 5)) [.app (.fn (fN 7)) [.app (.pr .head) [.var "es"], .var "ps", .var "d", .app (.pr .join) [.app (.pr .head) [.var "is"], .var "w"]], .app (.fn (fN 10)) [.app (.pr .tail) [.var "es"], .var "ps", .app (.pr .join) [.quo (.w "a"), .var "d"], .var "w", .app (.pr .tail) [.var "is"]]]) (.quo (.l []))⟩
def tr11 : Fn := ⟨(fN 11), ["e", "ps", "d", "w"], .ite (.app (.pr .word) [.var "e"]) (.quo (.l [])) (.app (.fn (fN 12)) [.app (.pr .head) [.var "e"], .app (.pr .tail) [.var "e"], .var "ps", .var "d", .var "w"])⟩
def tr12 : Fn := ⟨(fN 12), ["k", "es", "ps", "d", "w"], .ite (.app (.pr .same) [.var "k", .quo (.w "quote")]) (.quo (.l [])) (.ite (.app (.pr .same) [.var "k", .quo (.w "if")]) (.app (.fn (fN 5)) [.app (.fn (fN 11)) [.app (.pr .head) [.var "es"], .var "ps", .var "d", .app (.pr .join) [.quo (.w "p1"), .var "w"]], .app (.fn (fN 5)) [.app (.fn (fN 13)) [.app (.pr .head) [.app (.pr .tail) [.var "es"]], .var "ps", .var "d", .app (.pr .join) [.quo (.w "p2"), .var "w"]], .app (.fn (fN 13)) [.app (.pr .head) [.app (.pr .tail) [.app (.pr .tail) [.var "es"]]], .var "ps", .var "d", .app (.pr .join) [.quo (.w "p3"), .var "w"]]]]) (.app (.fn (fN 14)) [.var "es", .var "ps", .var "d", .var "w", .quo (.l [.w "p1", .w "p2", .w "p3", .w "p4", .w "p5", .w "p6", .w "p7", .w "p8", .w "p9", .w "p10", .w "p11", .w "p12"])]))⟩
def tr13 : Fn := ⟨(fN 13), ["e", "ps", "d", "w"], .app (.pr .join) [.app (.pr .join) [.var "w", .app (.fn (fN 7)) [.var "e", .var "ps", .var "d", .var "w"]], .app (.fn (fN 11)) [.var "e", .var "ps", .var "d", .var "w"]]⟩
def tr14 : Fn := ⟨(fN 14), ["es", "ps", "d", "w", "is"], .ite (.var "es") (.app (.fn (fN 5)) [.app (.fn (fN 11)) [.app (.pr .head) [.var "es"], .var "ps", .var "d", .app (.pr .join) [.app (.pr .head) [.var "is"], .var "w"]], .app (.fn (fN 14)) [.app (.pr .tail) [.var "es"], .var "ps", .app (.pr .join) [.quo (.w "a"), .var "d"], .var "w", .app (.pr .tail) [.var "is"]]]) (.quo (.l []))⟩
def tr : Prog := [tr1, tr2, tr3, tr4, tr5, tr6, tr7, tr8, tr9, tr10, tr11, tr12, tr13, tr14]

/-! ### runs with a bound -/
def EvB (p : Prog) (ps : List Str) (vs : List Val) (e : Ex) (v : Val) (b : Nat) : Prop := ∃ n, n ≤ b ∧ Ev p ps vs e v n
def EvBL (p : Prog) (ps : List Str) (vs : List Val) (es : List Ex) (ws : List Val) (b : Nat) : Prop := ∃ n, n ≤ b ∧ EvL p ps vs es ws n
/-- a call, its slide and the call itself among its steps -/
def Cl (p : Prog) (f : Str) (ws : List Val) (v : Val) (b : Nat) : Prop := ∃ d, find p f = some d ∧ d.ps.length = ws.length ∧ ∃ n, n + 2 ≤ b ∧ Ev p d.ps ws d.body v n
section
variable {p : Prog} {ps : List Str} {vs : List Val}
theorem EvB.mono {e v b b'} (h : EvB p ps vs e v b) (l : b ≤ b') : EvB p ps vs e v b' := let ⟨n, a, c⟩ := h; ⟨n, Nat.le_trans a l, c⟩
theorem EvB.var {x v} (h : look ps vs x = some v) : EvB p ps vs (.var x) v 1 := ⟨1, Nat.le_refl _, .var h⟩
theorem EvB.quo {v} : EvB p ps vs (.quo v) v 1 := ⟨1, Nat.le_refl _, .quo⟩
theorem EvB.iteT {a b c t v n m} (h : EvB p ps vs a t n) (hne : t ≠ nil) (h' : EvB p ps vs b v m) : EvB p ps vs (.ite a b c) v (n + m + 1) :=
  let ⟨k, l, r⟩ := h; let ⟨k', l', r'⟩ := h'; ⟨k + k' + 1, by omega, .iteT r hne r'⟩
theorem EvB.iteF {a b c v n m} (h : EvB p ps vs a nil n) (h' : EvB p ps vs c v m) : EvB p ps vs (.ite a b c) v (n + m + 1) :=
  let ⟨k, l, r⟩ := h; let ⟨k', l', r'⟩ := h'; ⟨k + k' + 1, by omega, .iteF r r'⟩
theorem EvBL.nil : EvBL p ps vs [] [] 0 := ⟨0, Nat.le_refl _, .nil⟩
theorem EvBL.cons {e v es ws n m} (h : EvB p ps vs e v n) (h' : EvBL p ps vs es ws m) : EvBL p ps vs (e :: es) (v :: ws) (n + m) :=
  let ⟨k, l, r⟩ := h; let ⟨k', l', r'⟩ := h'; ⟨k + k', by omega, .cons r r'⟩
theorem EvB.hd {a u n} (h : EvB p ps vs a u n) : EvB p ps vs (.app (.pr .head) [a]) (vhead u) (n + 1) :=
  let ⟨k, l, r⟩ := h; ⟨k + 0 + 1, by omega, .pr (.cons r .nil) rfl⟩
theorem EvB.tl {a u n} (h : EvB p ps vs a u n) : EvB p ps vs (.app (.pr .tail) [a]) (vtail u) (n + 1) :=
  let ⟨k, l, r⟩ := h; ⟨k + 0 + 1, by omega, .pr (.cons r .nil) rfl⟩
theorem EvB.wd {a u n} (h : EvB p ps vs a u n) : EvB p ps vs (.app (.pr .word) [a]) (vword u) (n + 1) :=
  let ⟨k, l, r⟩ := h; ⟨k + 0 + 1, by omega, .pr (.cons r .nil) rfl⟩
theorem EvB.jn {a b u v n m} (h : EvB p ps vs a u n) (h' : EvB p ps vs b v m) : EvB p ps vs (.app (.pr .join) [a, b]) (vjoin u v) (n + m + 1) :=
  let ⟨k, l, r⟩ := h; let ⟨k', l', r'⟩ := h'; ⟨k + (k' + 0) + 1, by omega, .pr (.cons r (.cons r' .nil)) rfl⟩
theorem EvB.sm {a b u v n m} (h : EvB p ps vs a u n) (h' : EvB p ps vs b v m) : EvB p ps vs (.app (.pr .same) [a, b]) (vsame u v) (n + m + 1) :=
  let ⟨k, l, r⟩ := h; let ⟨k', l', r'⟩ := h'; ⟨k + (k' + 0) + 1, by omega, .pr (.cons r (.cons r' .nil)) rfl⟩
theorem EvB.smT {a b u v n m} (h : EvB p ps vs a u n) (h' : EvB p ps vs b v m) (e : u = v) : EvB p ps vs (.app (.pr .same) [a, b]) yes (n + m + 1) := by
  have := h.sm h'
  rwa [vsame, if_pos e] at this
theorem EvB.smF {a b u v n m} (h : EvB p ps vs a u n) (h' : EvB p ps vs b v m) (e : u ≠ v) : EvB p ps vs (.app (.pr .same) [a, b]) nil (n + m + 1) := by
  have := h.sm h'
  rwa [vsame, if_neg e] at this
theorem EvB.fn {f as ws v n m} (h : EvBL p ps vs as ws n) (h' : Cl p f ws v m) : EvB p ps vs (.app (.fn f) as) v (n + m) := by
  obtain ⟨k, l, r⟩ := h
  obtain ⟨d, e, hl, k', l', r'⟩ := h'
  exact ⟨k + k' + 2, by omega, .fn r e hl r'⟩
theorem Cl.mk {f ws v b b'} {d : Fn} (e : find p f = some d) (hl : d.ps.length = ws.length) (h : EvB p d.ps ws d.body v b) (l : b + 2 ≤ b') : Cl p f ws v b' :=
  let ⟨n, a, r⟩ := h; ⟨d, e, hl, n, by omega, r⟩
theorem Cl.mono {f ws v b b'} (h : Cl p f ws v b) (l : b ≤ b') : Cl p f ws v b' := let ⟨d, e, hl, n, a, r⟩ := h; ⟨d, e, hl, n, by omega, r⟩
end
/-- the program holds the translator's functions -/
def HasT (p : Prog) : Prop := ∀ d ∈ tr, find p d.name = some d
section
variable {p : Prog}
theorem HasT.at (h : HasT p) (d : Fn) (hd : d ∈ tr := by simp [tr]) : find p d.name = some d := h d hd
abbrev wl (ps : List Str) : Val := .l (ps.map .w)

theorem cl_one (h : HasT p) (x : Val) : Cl p (fN 4) [x] (.l [x]) 5 :=
  .mk (h.at tr4) rfl (v := .l [x]) (.jn (.var rfl) .quo) (by omega)
theorem cl_app (h : HasT p) (ys : List Val) : ∀ xs : List Val, Cl p (fN 5) [.l xs, .l ys] (.l (xs ++ ys)) (10 * xs.length + 5)
  | [] => .mk (h.at tr5) rfl (.iteF (.var rfl) (.var rfl)) (by simp)
  | x :: xs => .mk (h.at tr5) rfl (v := .l (x :: (xs ++ ys))) (.iteT (t := .l (x :: xs)) (.var rfl) nofun
      (.jn (u := x) (v := .l (xs ++ ys)) (.hd (u := .l (x :: xs)) (.var rfl)) (.fn (.cons (.tl (u := .l (x :: xs)) (.var rfl)) (.cons (.var rfl) .nil)) (cl_app h ys xs)))) (by simp only [List.length_cons]; omega)
theorem cl_after (h : HasT p) (x : Str) : ∀ ps : List Str, x ∈ ps → Cl p (fN 6) [.w x, wl ps] (wl (after ps x)) (10 * ps.length + 9)
  | [], hx => by simp at hx
  | q :: ps, hx => by
    by_cases e : q = x
    · rw [after, if_pos e]
      refine .mk (h.at tr6) rfl (v := vtail (wl (q :: ps))) (.iteT (t := yes) (.smT (.var rfl) (.hd (u := wl (q :: ps)) (.var rfl)) ?_) nofun (.tl (.var rfl))) ?_
      · subst e; rfl
      · simp only [List.length_cons]; omega
    · have hx' : x ∈ ps := by
        rcases List.mem_cons.mp hx with r | r
        · exact absurd r.symm e
        · exact r
      have ih := cl_after h x ps hx'
      rw [after, if_neg e]
      refine .mk (h.at tr6) rfl (.iteF (.smF (.var rfl) (.hd (u := wl (q :: ps)) (.var rfl)) ?_) (.fn (.cons (.var rfl) (.cons (.tl (u := wl (q :: ps)) (.var rfl)) .nil)) ih)) ?_
      · intro z
        simp only [List.map_cons, vhead] at z
        injection z with z
        exact e z.symm
      · simp only [List.length_cons]; omega

theorem cl_lastop_pr (h : HasT p) (o : Pr) : Cl p (fN 9) [.w o.str, .l [.w "same", .w "word", .w "head", .w "tail", .w "join"]] (Hd.pr o).ins.val 70 := by
  have one := cl_one h (.w o.str)
  have go : ∀ (l : List Val) (b : Nat), (∀ r, l = .w o.str :: r → True) → l.length = b → (.w o.str) ∈ l → Cl p (fN 9) [.w o.str, .l l] (.l [.w o.str]) (13 * b + 5) := by
    intro l
    induction l with
    | nil => intro b _ _ hm; simp at hm
    | cons x l ih =>
      intro b _ hb hm
      by_cases e : Val.w o.str = x
      · refine .mk (h.at tr9) rfl (.iteT (t := .l (x :: l)) (.var rfl) nofun (.iteT (t := yes) (.smT (.var rfl) (.hd (u := .l (x :: l)) (.var rfl)) e) nofun (.fn (.cons (.var rfl) .nil) one))) ?_
        simp only [List.length_cons] at hb; omega
      · have hm' : Val.w o.str ∈ l := by
          rcases List.mem_cons.mp hm with r | r
          · exact absurd r e
          · exact r
        refine .mk (h.at tr9) rfl (.iteT (t := .l (x :: l)) (.var rfl) nofun (.iteF (.smF (.var rfl) (.hd (u := .l (x :: l)) (.var rfl)) e) (.fn (.cons (.var rfl) (.cons (.tl (u := .l (x :: l)) (.var rfl)) .nil)) (ih (b - 1) (fun _ _ => trivial) (by simp only [List.length_cons] at hb; omega) hm')))) ?_
        simp only [List.length_cons] at hb; omega
  have hm : Val.w o.str ∈ [Val.w "same", .w "word", .w "head", .w "tail", .w "join"] := by cases o <;> simp [Pr.str]
  exact go _ 5 (fun _ _ => trivial) rfl hm
theorem cl_lastop_fn (h : HasT p) (f : Str) : ∀ (l : List Val), (Val.w f) ∉ l → Cl p (fN 9) [.w f, .l l] (.l [.w "call", .w f]) (13 * l.length + 12)
  | [], _ => .mk (h.at tr9) rfl (v := vjoin (.w "call") (.l [.w f])) (.iteF (.var rfl) (.jn .quo (.fn (.cons (.var rfl) .nil) (cl_one h (.w f))))) (by simp)
  | x :: l, hm => by
    have e : Val.w f ≠ x := fun z => hm (by rw [z]; exact List.mem_cons_self)
    have ih := cl_lastop_fn h f l (fun z => hm (List.mem_cons_of_mem _ z))
    refine .mk (h.at tr9) rfl (.iteT (t := .l (x :: l)) (.var rfl) nofun (.iteF (.smF (.var rfl) (.hd (u := .l (x :: l)) (.var rfl)) e) (.fn (.cons (.var rfl) (.cons (.tl (u := .l (x :: l)) (.var rfl)) .nil)) ih))) ?_
    simp only [List.length_cons]; omega
end

/-! ### expressions that the translator is handed -/
def prN : List Val := [.w "same", .w "word", .w "head", .w "tail", .w "join"]
mutual
def Ex.ok (ps : List Str) : Ex → Prop
  | .var x => x ∈ ps
  | .quo _ => True
  | .ite a b c => a.ok ps ∧ b.ok ps ∧ c.ok ps
  | .app (.pr _) as => as.length ≤ 12 ∧ Ex.oks ps as
  | .app (.fn f) as => as.length ≤ 12 ∧ Ex.oks ps as ∧ Val.w f ∉ prN ∧ f ≠ "quote" ∧ f ≠ "if"
def Ex.oks (ps : List Str) : List Ex → Prop
  | [] => True
  | e :: es => e.ok ps ∧ Ex.oks ps es
end
mutual
/-- how many instructions -/
def nO : Ex → Nat
  | .var _ => 1
  | .quo _ => 1
  | .ite a _ _ => nO a + 1
  | .app _ as => nOs as + 1
def nOs : List Ex → Nat
  | [] => 0
  | e :: es => nO e + nOs es
end
mutual
/-- how many routines -/
def nR : Ex → Nat
  | .var _ => 0
  | .quo _ => 0
  | .ite a b c => nR a + (nR b + 1) + (nR c + 1)
  | .app _ as => nRs as
def nRs : List Ex → Nat
  | [] => 0
  | e :: es => nR e + nRs es
end
mutual
theorem ops_len (ps : List Str) : ∀ (e : Ex) (d w : List Val), (ops ps e d w).length = nO e
  | .var _, _, _ => rfl
  | .quo _, _, _ => rfl
  | .ite a _ _, d, w => by simp [ops, nO, ops_len ps a]
  | .app _ as, d, w => by simp [ops, nO, opsL_len ps as]
theorem opsL_len (ps : List Str) : ∀ (es : List Ex) (d w : List Val) (i : Nat), (opsL ps es d w i).length = nOs es
  | [], _, _, _ => rfl
  | e :: es, d, w, i => by simp [opsL, nOs, ops_len ps e, opsL_len ps es]
end
mutual
theorem routs_len (ps : List Str) : ∀ (e : Ex) (d w : List Val), (routs ps e d w).length = nR e
  | .var _, _, _ => rfl
  | .quo _, _, _ => rfl
  | .ite a b c, d, w => by simp [routs, nR, routs_len ps a, routs_len ps b, routs_len ps c]; omega
  | .app _ as, d, w => by simp [routs, nR, routsL_len ps as]
theorem routsL_len (ps : List Str) : ∀ (es : List Ex) (d w : List Val) (i : Nat), (routsL ps es d w i).length = nRs es
  | [], _, _, _ => rfl
  | e :: es, d, w, i => by simp [routsL, nRs, routs_len ps e, routsL_len ps es]
end
mutual
def cO (k : Nat) : Ex → Nat
  | .var _ => 20 * k + 60
  | .quo _ => 60
  | .ite a _ _ => cO k a + 10 * nO a + 100
  | .app _ as => cOs k as + 10 * nOs as + 200
def cOs (k : Nat) : List Ex → Nat
  | [] => 20
  | e :: es => cO k e + 10 * nO e + cOs k es + 50
end
mutual
def cR (k : Nat) : Ex → Nat
  | .var _ => 30
  | .quo _ => 60
  | .ite a b c => cR k a + cR k b + cR k c + cO k b + cO k c + 10 * (nR a + nR b + nR c) + 300
  | .app _ as => cRs k as + 60
def cRs (k : Nat) : List Ex → Nat
  | [] => 20
  | e :: es => cR k e + 10 * nR e + cRs k es + 50
end
/-- the words from pi on to p12 -/
def pws (i : Nat) : List Val := (List.range' i (13 - i)).map pW
theorem pws_1 : pws 1 = [.w "p1", .w "p2", .w "p3", .w "p4", .w "p5", .w "p6", .w "p7", .w "p8", .w "p9", .w "p10", .w "p11", .w "p12"] := by decide +kernel
theorem pws_cons {i : Nat} (h : i ≤ 12) : pws i = pW i :: pws (i + 1) := by
  unfold pws
  have e : 13 - i = (13 - (i + 1)) + 1 := by omega
  rw [e, List.range'_succ, List.map_cons]
theorem pW1 : pW 1 = .w "p1" := by decide +kernel
theorem pW2 : pW 2 = .w "p2" := by decide +kernel
theorem pW3 : pW 3 = .w "p3" := by decide +kernel
abbrev insL (is : List Ins) : Val := .l (is.map Ins.val)
theorem quote_ne_if : (("quote" : Str)) ≠ "if" := by decide +kernel
section
variable {p : Prog}
mutual
theorem cl_ops (h : HasT p) (ps : List Str) : ∀ (e : Ex) (d w : List Val), e.ok ps → Cl p (fN 7) [e.val, wl ps, .l d, .l w] (insL (ops ps e d w)) (cO ps.length e)
  | .var x, d, w, hx => by
    have ca := cl_after h x ps hx
    have cb := cl_app h d ((after ps x).map .w)
    have c1 := cl_one h (.l ((after ps x).map .w ++ d))
    have c2 := cl_one h (.l [.w "copy", .l ((after ps x).map .w ++ d)])
    have la : (after ps x).length ≤ ps.length := by
      clear ca cb c1 c2 hx
      induction ps with
      | nil => simp [after]
      | cons q r ih => unfold after; split <;> simp only [List.length_cons] <;> omega
    refine .mk (h.at tr7) rfl (v := .l [.l [.w "copy", .l ((after ps x).map .w ++ d)]]) (.iteT (t := yes) (.wd (u := .w x) (.var rfl)) nofun (.fn (.cons (.jn (u := .w "copy") (v := .l [.l ((after ps x).map Val.w ++ d)]) .quo
      (.fn (.cons (.fn (.cons (.fn (.cons (.var rfl) (.cons (.var rfl) .nil)) ca) (.cons (.var rfl) .nil)) cb) .nil) c1)) .nil) c2)) ?_
    simp only [cO, List.length_map]
    omega
  | .quo v, d, w, _ => by
    have c1 := cl_one h (.l [.w "push", v])
    have c8 : Cl p (fN 8) [.w "quote", .l [.w "quote", v], wl ps, .l d, .l w] (insL (ops ps (.quo v) d w)) 30 :=
      .mk (h.at tr8) rfl (v := .l [.l [.w "push", v]]) (.iteT (t := yes) (.smT (.var rfl) .quo rfl) nofun (.fn (.cons (.jn (u := .w "push") (v := .l [v]) .quo (.tl (u := .l [.w "quote", v]) (.var rfl))) .nil) c1)) (by omega)
    refine .mk (h.at tr7) rfl (.iteF (.wd (u := .l [.w "quote", v]) (.var rfl)) (.fn (.cons (.hd (u := .l [.w "quote", v]) (.var rfl)) (.cons (.var rfl) (.cons (.var rfl) (.cons (.var rfl) (.cons (.var rfl) .nil))))) c8)) ?_
    simp only [cO]
    omega
  | .ite a b c, d, w, hk => by
    have ih := cl_ops h ps a d (pW 1 :: w) hk.1
    have ca := cl_app h [(Ins.cond (.l (pW 2 :: w)) (.l (pW 3 :: w))).val] ((ops ps a d (pW 1 :: w)).map Ins.val)
    have c1 := cl_one h (.l (pW 3 :: w))
    have c2 := cl_one h (Ins.cond (.l (pW 2 :: w)) (.l (pW 3 :: w))).val
    have E : Ex.val (.ite a b c) = .l [.w "if", a.val, b.val, c.val] := rfl
    rw [pW1] at ih
    rw [pW2, pW3] at c2 ca
    rw [pW3] at c1
    have c8 : Cl p (fN 8) [.w "if", .l [.w "if", a.val, b.val, c.val], wl ps, .l d, .l w] (insL (ops ps (.ite a b c) d w)) (cO ps.length a + 10 * nO a + 70) := by
      refine .mk (b := cO ps.length a + 10 * nO a + 68) (h.at tr8) rfl ?_ (by omega)
      simp only [ops, pW1, pW2, pW3, insL, List.map_append]
      refine .mono (.iteF (.smF (.var rfl) .quo (fun z => by injection z with z; exact quote_ne_if z.symm)) (.iteT (t := yes) (.smT (.var rfl) .quo rfl) nofun (.fn (.cons (.fn (.cons (.hd (u := .l [a.val, b.val, c.val]) (.tl (u := .l [.w "if", a.val, b.val, c.val]) (.var rfl))) (.cons (.var rfl) (.cons (.var rfl) (.cons (.jn (u := .w "p1") (v := .l w) .quo (.var rfl)) .nil)))) ih)
        (.cons (.fn (.cons (.jn (u := .w "if") (v := .l [.l (.w "p2" :: w), .l (.w "p3" :: w)]) .quo (.jn (u := .l (.w "p2" :: w)) (v := .l [.l (.w "p3" :: w)]) (.jn (u := .w "p2") (v := .l w) .quo (.var rfl)) (.fn (.cons (.jn (u := .w "p3") (v := .l w) .quo (.var rfl)) .nil) c1))) .nil) c2) .nil)) ca))) ?_
      rw [List.length_map, ops_len]
      omega
    refine .mk (h.at tr7) rfl (.iteF (.wd (u := .l [.w "if", a.val, b.val, c.val]) (.var rfl)) (.fn (.cons (.hd (u := .l [.w "if", a.val, b.val, c.val]) (.var rfl)) (.cons (.var rfl) (.cons (.var rfl) (.cons (.var rfl) (.cons (.var rfl) .nil))))) c8)) ?_
    simp only [cO]
    omega
  | .app hd as, d, w, hk => by
    have hh : as.length ≤ 12 ∧ Ex.oks ps as ∧ hd.str ≠ "quote" ∧ hd.str ≠ "if" ∧ Cl p (fN 9) [.w hd.str, .l prN] hd.ins.val 80 := by
      cases hd with
      | pr o => exact ⟨hk.1, hk.2, by cases o <;> decide +kernel, by cases o <;> decide +kernel, (cl_lastop_pr h o).mono (by omega)⟩
      | fn f => exact ⟨hk.1, hk.2.1, hk.2.2.2.1, hk.2.2.2.2, (cl_lastop_fn h f prN hk.2.2.1).mono (b' := 80) (by decide)⟩
    obtain ⟨h12, hok, hq, hi, hl⟩ := hh
    have ih := cl_args h ps as d w 1 hok (by omega)
    rw [pws_1] at ih
    have c1 := cl_one h hd.ins.val
    have ca := cl_app h [hd.ins.val] ((opsL ps as d w 1).map Ins.val)
    have c8 : Cl p (fN 8) [.w hd.str, .l (.w hd.str :: Ex.vals as), wl ps, .l d, .l w] (insL (ops ps (.app hd as) d w)) (cOs ps.length as + 10 * nOs as + 150) := by
      refine .mk (b := cOs ps.length as + 10 * nOs as + 148) (h.at tr8) rfl ?_ (by omega)
      simp only [ops, insL, List.map_append]
      refine .mono (.iteF (.smF (.var rfl) .quo (fun z => hq (by injection z))) (.iteF (.smF (.var rfl) .quo (fun z => hi (by injection z)))
        (.fn (.cons (.fn (.cons (.tl (u := .l (.w hd.str :: Ex.vals as)) (.var rfl)) (.cons (.var rfl) (.cons (.var rfl) (.cons (.var rfl) (.cons .quo .nil))))) ih) (.cons (.fn (.cons (.fn (.cons (.var rfl) (.cons .quo .nil)) hl) .nil) c1) .nil)) ca))) ?_
      rw [List.length_map, opsL_len]
      omega
    refine .mk (h.at tr7) rfl (.iteF (.wd (u := .l (.w hd.str :: Ex.vals as)) (.var rfl)) (.fn (.cons (.hd (u := .l (.w hd.str :: Ex.vals as)) (.var rfl)) (.cons (.var rfl) (.cons (.var rfl) (.cons (.var rfl) (.cons (.var rfl) .nil))))) c8)) ?_
    simp only [cO]
    omega
theorem cl_args (h : HasT p) (ps : List Str) : ∀ (es : List Ex) (d w : List Val) (i : Nat), Ex.oks ps es → i + es.length ≤ 13 → Cl p (fN 10) [.l (Ex.vals es), wl ps, .l d, .l w, .l (pws i)] (insL (opsL ps es d w i)) (cOs ps.length es)
  | [], d, w, i, _, _ => .mk (h.at tr10) rfl (.iteF (.var rfl) .quo) (by simp [cOs])
  | e :: es, d, w, i, hk, hi => by
    have hi' : i ≤ 12 := by simp only [List.length_cons] at hi; omega
    have ih1 := cl_ops h ps e d (pW i :: w) hk.1
    have ih2 := cl_args h ps es (aW :: d) w (i + 1) hk.2 (by simp only [List.length_cons] at hi; omega)
    have ca := cl_app h ((opsL ps es (aW :: d) w (i + 1)).map Ins.val) ((ops ps e d (pW i :: w)).map Ins.val)
    rw [pws_cons hi']
    refine .mk (b := cOs ps.length (e :: es) - 2) (h.at tr10) rfl ?_ (by simp only [cOs]; omega)
    simp only [opsL, insL, List.map_append]
    refine .mono (.iteT (t := .l (e.val :: Ex.vals es)) (.var rfl) nofun (.fn (.cons (.fn (.cons (.hd (u := .l (e.val :: Ex.vals es)) (.var rfl)) (.cons (.var rfl) (.cons (.var rfl) (.cons (.jn (u := pW i) (v := .l w) (.hd (u := .l (pW i :: pws (i + 1))) (.var rfl)) (.var rfl)) .nil)))) ih1)
      (.cons (.fn (.cons (.tl (u := .l (e.val :: Ex.vals es)) (.var rfl)) (.cons (.var rfl) (.cons (.jn (u := aW) (v := .l d) .quo (.var rfl)) (.cons (.var rfl) (.cons (.tl (u := .l (pW i :: pws (i + 1))) (.var rfl)) .nil))))) ih2) .nil)) ca)) ?_
    rw [List.length_map, ops_len]
    simp only [cOs]
    omega
end

abbrev rtL (rs : List Rt) : Val := .l (rs.map Rt.val)
theorem cl_branch (h : HasT p) {ps : List Str} {e : Ex} {d w : List Val} {b b' : Nat} (ho : Cl p (fN 7) [e.val, wl ps, .l d, .l w] (insL (ops ps e d w)) b) (hr : Cl p (fN 11) [e.val, wl ps, .l d, .l w] (rtL (routs ps e d w)) b') :
    Cl p (fN 13) [e.val, wl ps, .l d, .l w] (rtL (⟨.l w, ops ps e d w⟩ :: routs ps e d w)) (b + b' + 15) :=
  .mk (h.at tr13) rfl (.jn (u := .l (.l w :: (ops ps e d w).map Ins.val)) (v := rtL (routs ps e d w)) (.jn (u := .l w) (v := insL (ops ps e d w)) (.var rfl) (.fn (.cons (.var rfl) (.cons (.var rfl) (.cons (.var rfl) (.cons (.var rfl) .nil)))) ho)) (.fn (.cons (.var rfl) (.cons (.var rfl) (.cons (.var rfl) (.cons (.var rfl) .nil)))) hr)) (by omega)
mutual
theorem cl_routs (h : HasT p) (ps : List Str) : ∀ (e : Ex) (d w : List Val), e.ok ps → Cl p (fN 11) [e.val, wl ps, .l d, .l w] (rtL (routs ps e d w)) (cR ps.length e)
  | .var x, d, w, hx => .mk (h.at tr11) rfl (.iteT (t := yes) (.wd (u := .w x) (.var rfl)) nofun .quo) (by simp [cR])
  | .quo v, d, w, _ => by
    have c12 : Cl p (fN 12) [.w "quote", .l [v], wl ps, .l d, .l w] nil 20 :=
      .mk (h.at tr12) rfl (.iteT (t := yes) (.smT (.var rfl) .quo rfl) nofun .quo) (by omega)
    refine .mk (h.at tr11) rfl (v := nil) (.iteF (.wd (u := .l [.w "quote", v]) (.var rfl)) (.fn (.cons (.hd (u := .l [.w "quote", v]) (.var rfl)) (.cons (.tl (u := .l [.w "quote", v]) (.var rfl)) (.cons (.var rfl) (.cons (.var rfl) (.cons (.var rfl) .nil))))) c12)) ?_
    simp only [cR]
    omega
  | .ite a b c, d, w, hk => by
    have ia := cl_routs h ps a d (pW 1 :: w) hk.1
    have ib := cl_branch h (cl_ops h ps b d (pW 2 :: w) hk.2.1) (cl_routs h ps b d (pW 2 :: w) hk.2.1)
    have ic := cl_branch h (cl_ops h ps c d (pW 3 :: w) hk.2.2) (cl_routs h ps c d (pW 3 :: w) hk.2.2)
    have a1 := cl_app h ((⟨.l (pW 3 :: w), ops ps c d (pW 3 :: w)⟩ :: routs ps c d (pW 3 :: w)).map Rt.val) ((⟨.l (pW 2 :: w), ops ps b d (pW 2 :: w)⟩ :: routs ps b d (pW 2 :: w)).map Rt.val)
    have a2 := cl_app h ((⟨.l (pW 2 :: w), ops ps b d (pW 2 :: w)⟩ :: routs ps b d (pW 2 :: w)).map Rt.val ++ (⟨.l (pW 3 :: w), ops ps c d (pW 3 :: w)⟩ :: routs ps c d (pW 3 :: w)).map Rt.val) ((routs ps a d (pW 1 :: w)).map Rt.val)
    simp only [List.length_map, routs_len, List.length_cons] at a1 a2
    have c12 : Cl p (fN 12) [.w "if", .l [a.val, b.val, c.val], wl ps, .l d, .l w] (rtL (routs ps (.ite a b c) d w)) (cR ps.length (.ite a b c) - 40) := by
      refine .mk (b := cR ps.length (.ite a b c) - 42) (h.at tr12) rfl ?_ (by simp only [cR]; omega)
      have E : rtL (routs ps (.ite a b c) d w) = .l ((routs ps a d (pW 1 :: w)).map Rt.val ++ ((⟨.l (pW 2 :: w), ops ps b d (pW 2 :: w)⟩ :: routs ps b d (pW 2 :: w)).map Rt.val ++ (⟨.l (pW 3 :: w), ops ps c d (pW 3 :: w)⟩ :: routs ps c d (pW 3 :: w)).map Rt.val)) := by
        simp only [rtL, routs, List.map_append, List.map_cons, List.cons_append]
      rw [E]
      have q1 : Val.l (.w "p1" :: w) = .l (pW 1 :: w) := by rw [pW1]
      have q2 : Val.l (.w "p2" :: w) = .l (pW 2 :: w) := by rw [pW2]
      have q3 : Val.l (.w "p3" :: w) = .l (pW 3 :: w) := by rw [pW3]
      rw [← q1] at ia
      rw [← q2] at ib
      rw [← q3] at ic
      refine .mono (.iteF (.smF (.var rfl) .quo (fun z => by injection z with z; exact quote_ne_if z.symm)) (.iteT (t := yes) (.smT (.var rfl) .quo rfl) nofun (.fn (.cons (.fn (.cons (.hd (u := .l [a.val, b.val, c.val]) (.var rfl)) (.cons (.var rfl) (.cons (.var rfl) (.cons (.jn (u := .w "p1") (v := .l w) .quo (.var rfl)) .nil)))) ia)
        (.cons (.fn (.cons (.fn (.cons (.hd (u := .l [b.val, c.val]) (.tl (u := .l [a.val, b.val, c.val]) (.var rfl))) (.cons (.var rfl) (.cons (.var rfl) (.cons (.jn (u := .w "p2") (v := .l w) .quo (.var rfl)) .nil)))) ib)
          (.cons (.fn (.cons (.hd (u := .l [c.val]) (.tl (u := .l [b.val, c.val]) (.tl (u := .l [a.val, b.val, c.val]) (.var rfl)))) (.cons (.var rfl) (.cons (.var rfl) (.cons (.jn (u := .w "p3") (v := .l w) .quo (.var rfl)) .nil)))) ic) .nil)) a1) .nil)) a2))) ?_
      simp only [cR]
      omega
    refine .mk (h.at tr11) rfl (.iteF (.wd (u := .l [.w "if", a.val, b.val, c.val]) (.var rfl)) (.fn (.cons (.hd (u := .l [.w "if", a.val, b.val, c.val]) (.var rfl)) (.cons (.tl (u := .l [.w "if", a.val, b.val, c.val]) (.var rfl)) (.cons (.var rfl) (.cons (.var rfl) (.cons (.var rfl) .nil))))) c12)) ?_
    simp only [cR]
    omega
  | .app hd as, d, w, hk => by
    have hh : as.length ≤ 12 ∧ Ex.oks ps as ∧ hd.str ≠ "quote" ∧ hd.str ≠ "if" := by
      cases hd with
      | pr o => exact ⟨hk.1, hk.2, by cases o <;> decide +kernel, by cases o <;> decide +kernel⟩
      | fn f => exact ⟨hk.1, hk.2.1, hk.2.2.2.1, hk.2.2.2.2⟩
    obtain ⟨h12, hok, hq, hi⟩ := hh
    have ih := cl_routargs h ps as d w 1 hok (by omega)
    rw [pws_1] at ih
    have c12 : Cl p (fN 12) [.w hd.str, .l (Ex.vals as), wl ps, .l d, .l w] (rtL (routs ps (.app hd as) d w)) (cRs ps.length as + 30) :=
      .mk (h.at tr12) rfl (.iteF (.smF (.var rfl) .quo (fun z => hq (by injection z))) (.iteF (.smF (.var rfl) .quo (fun z => hi (by injection z)))
        (.fn (.cons (.var rfl) (.cons (.var rfl) (.cons (.var rfl) (.cons (.var rfl) (.cons .quo .nil))))) ih))) (by omega)
    refine .mk (h.at tr11) rfl (.iteF (.wd (u := .l (.w hd.str :: Ex.vals as)) (.var rfl)) (.fn (.cons (.hd (u := .l (.w hd.str :: Ex.vals as)) (.var rfl)) (.cons (.tl (u := .l (.w hd.str :: Ex.vals as)) (.var rfl)) (.cons (.var rfl) (.cons (.var rfl) (.cons (.var rfl) .nil))))) c12)) ?_
    simp only [cR]
    omega
theorem cl_routargs (h : HasT p) (ps : List Str) : ∀ (es : List Ex) (d w : List Val) (i : Nat), Ex.oks ps es → i + es.length ≤ 13 → Cl p (fN 14) [.l (Ex.vals es), wl ps, .l d, .l w, .l (pws i)] (rtL (routsL ps es d w i)) (cRs ps.length es)
  | [], d, w, i, _, _ => .mk (h.at tr14) rfl (.iteF (.var rfl) .quo) (by simp [cRs])
  | e :: es, d, w, i, hk, hi => by
    have hi' : i ≤ 12 := by simp only [List.length_cons] at hi; omega
    have ih1 := cl_routs h ps e d (pW i :: w) hk.1
    have ih2 := cl_routargs h ps es (aW :: d) w (i + 1) hk.2 (by simp only [List.length_cons] at hi; omega)
    have ca := cl_app h ((routsL ps es (aW :: d) w (i + 1)).map Rt.val) ((routs ps e d (pW i :: w)).map Rt.val)
    rw [pws_cons hi']
    refine .mk (b := cRs ps.length (e :: es) - 2) (h.at tr14) rfl ?_ (by simp only [cRs]; omega)
    simp only [routsL, rtL, List.map_append]
    refine .mono (.iteT (t := .l (e.val :: Ex.vals es)) (.var rfl) nofun (.fn (.cons (.fn (.cons (.hd (u := .l (e.val :: Ex.vals es)) (.var rfl)) (.cons (.var rfl) (.cons (.var rfl) (.cons (.jn (u := pW i) (v := .l w) (.hd (u := .l (pW i :: pws (i + 1))) (.var rfl)) (.var rfl)) .nil)))) ih1)
      (.cons (.fn (.cons (.tl (u := .l (e.val :: Ex.vals es)) (.var rfl)) (.cons (.var rfl) (.cons (.jn (u := aW) (v := .l d) .quo (.var rfl)) (.cons (.var rfl) (.cons (.tl (u := .l (pW i :: pws (i + 1))) (.var rfl)) .nil))))) ih2) .nil)) ca)) ?_
    rw [List.length_map, routs_len]
    simp only [cRs]
    omega
end
/-! ### functions, programs -/
def cF (f : Fn) : Nat := cO f.ps.length f.body + cR f.ps.length f.body + 10 * nO f.body + 110
theorem cl_func (h : HasT p) (f : Fn) (hk : f.body.ok f.ps) : Cl p (fN 2) [f.val] (rtL f.toM) (cF f) := by
  have io := cl_ops h f.ps f.body [] [.w f.name] hk
  have ir := cl_routs h f.ps f.body [] [.w f.name] hk
  have n1 := cl_one h (.w f.name)
  have n2 := cl_one h (wl f.ps)
  have n3 := cl_one h (Ins.slide (f.ps.map .w)).val
  have ca := cl_app h [(Ins.slide (f.ps.map .w)).val] ((ops f.ps f.body [] [.w f.name]).map Ins.val)
  have c3 : Cl p (fN 3) [.w f.name, wl f.ps, f.body.val] (rtL f.toM) (cF f - 20) := by
    refine .mk (b := cF f - 22) (h.at tr3) rfl ?_ (by simp only [cF]; omega)
    have E : rtL f.toM = vjoin (vjoin (.w f.name) (.l ((ops f.ps f.body [] [.w f.name]).map Ins.val ++ [(Ins.slide (f.ps.map .w)).val]))) (rtL (routs f.ps f.body [] [.w f.name])) := by
      simp only [rtL, Fn.toM, Fn.code, List.map_cons, Rt.val, List.map_append, vjoin, vitems, List.map_nil]
    rw [E]
    refine .mono (.jn (.jn (.var rfl) (.fn (.cons (.fn (.cons (.var rfl) (.cons (.var rfl) (.cons .quo (.cons (.fn (.cons (.var rfl) .nil) n1) .nil)))) io) (.cons (.fn (.cons (.jn (u := .w "slide") (v := .l [wl f.ps]) .quo (.fn (.cons (.var rfl) .nil) n2)) .nil) n3) .nil)) ca))
      (.fn (.cons (.var rfl) (.cons (.var rfl) (.cons .quo (.cons (.fn (.cons (.var rfl) .nil) n1) .nil)))) ir)) ?_
    rw [List.length_map, ops_len]
    simp only [cF]
    omega
  refine .mk (h.at tr2) rfl (.fn (.cons (.hd (u := f.val) (.var rfl)) (.cons (.hd (u := .l [wl f.ps, f.body.val]) (.tl (u := f.val) (.var rfl))) (.cons (.hd (u := .l [f.body.val]) (.tl (u := .l [wl f.ps, f.body.val]) (.tl (u := f.val) (.var rfl)))) .nil))) c3) ?_
  simp only [cF]
  omega
def nF (f : Fn) : Nat := 1 + nR f.body
def cP : Prog → Nat
  | [] => 10
  | f :: r => cF f + 10 * nF f + cP r + 30
theorem toM_len (f : Fn) : f.toM.length = nF f := by simp [Fn.toM, nF, routs_len]; omega
theorem cl_main (h : HasT p) : ∀ q : Prog, (∀ f ∈ q, f.body.ok f.ps) → Cl p (fN 1) [q.val] (rtL (toM q)) (cP q)
  | [], _ => .mk (h.at tr1) rfl (.iteF (.var rfl) .quo) (by simp [cP])
  | f :: r, hk => by
    have i1 := cl_func h f (hk f List.mem_cons_self)
    have i2 := cl_main h r (fun g hg => hk g (List.mem_cons_of_mem _ hg))
    have ca := cl_app h ((toM r).map Rt.val) (f.toM.map Rt.val)
    refine .mk (b := cP (f :: r) - 2) (h.at tr1) rfl ?_ (by simp only [cP]; omega)
    simp only [toM, rtL, List.map_append]
    refine .mono (.iteT (t := .l (f.val :: r.map Fn.val)) (.var rfl) nofun (.fn (.cons (.fn (.cons (.hd (u := .l (f.val :: r.map Fn.val)) (.var rfl)) .nil) i1) (.cons (.fn (.cons (.tl (u := .l (f.val :: r.map Fn.val)) (.var rfl)) .nil) i2) .nil)) ca)) ?_
    rw [List.length_map, toM_len]
    simp only [cP]
    omega
end
end Og

set_option Elab.async false
set_option linter.all false
set_option maxRecDepth 100000
set_option maxHeartbeats 4000000
/-! OgPlaces: the text by places; the tables. -/
namespace Og
open PySem PySem.Spec PyProof.Rows L2
/-! the text by places (printed by gen_head.py) -/
def top (i : Nat) : Stmt := PySem.Challenge.pw_ownglass_k56_whole_own_text_across.main.body.getD i (.Pass ⟨0, 0, 0, 0⟩)
abbrev s_is_word : Stmt := top 8
abbrev s_has_head : Stmt := top 9
abbrev s_counts_of : Stmt := top 10
abbrev s_name_fits : Stmt := top 11
abbrev s_parameters_fit : Stmt := top 12
abbrev s_body_fits : Stmt := top 13
abbrev s_check_program : Stmt := top 14
abbrev s_inputs_of : Stmt := top 15
abbrev s_made_name : Stmt := top 19
abbrev s_made_parameters : Stmt := top 20
abbrev s_renamed_expression : Stmt := top 21
abbrev s_renamed : Stmt := top 22
abbrev s_joined : Stmt := top 23
abbrev s_with_main : Stmt := top 24
abbrev s_fill_function : Stmt := top 25
abbrev s_fill : Stmt := top 26
abbrev s_quoted : Stmt := top 28
abbrev s_listed : Stmt := top 29
abbrev s_filled_tree : Stmt := top 30
abbrev s_know_own : Stmt := top 31
abbrev s_Store_init : Stmt := inClass (top 36) 0
abbrev s_Store_number_of : Stmt := inClass (top 36) 1
abbrev s_Store_is_word : Stmt := inClass (top 36) 2
abbrev s_Store_first : Stmt := inClass (top 36) 3
abbrev s_Store_rest : Stmt := inClass (top 36) 4
abbrev s_Store_pair_up : Stmt := inClass (top 36) 5
abbrev s_Store_put : Stmt := inClass (top 36) 6
abbrev s_Store_items_of : Stmt := inClass (top 36) 7
abbrev s_Store_value_of : Stmt := inClass (top 36) 8
abbrev s_Run_init : Stmt := inClass (top 38) 0
abbrev s_is_instruction : Stmt := top 41
abbrev s_Names_init : Stmt := inClass (top 42) 0
abbrev s_Names_is_right : Stmt := inClass (top 42) 1
abbrev s_check_machine : Stmt := top 43
abbrev s_StackMachine_init : Stmt := inClass (top 44) 0
abbrev s_StackMachine_made : Stmt := inClass (top 44) 1
abbrev s_StackMachine_pop : Stmt := inClass (top 44) 2
abbrev s_StackMachine_go_on : Stmt := inClass (top 44) 3
abbrev s_StackMachine_carry_out : Stmt := inClass (top 44) 4
abbrev s_StackMachine_found : Stmt := inClass (top 44) 5
abbrev s_run_machine : Stmt := top 45
abbrev s_part_path : Stmt := top 47
abbrev s_parts_of : Stmt := top 48
abbrev s_instructions_of : Stmt := top 49
abbrev s_routines_of : Stmt := top 50
abbrev s_to_machine : Stmt := top 51
abbrev s_translator : Stmt := top 54
abbrev s_knowing_machine : Stmt := top 56
abbrev s_know_own_machine : Stmt := top 57
abbrev s_law_draws : Stmt := top 59
abbrev s_law_take : Stmt := top 60
abbrev s_law_value : Stmt := top 61
abbrev s_law_expression : Stmt := top 62
abbrev s_law_do : Stmt := top 63
abbrev s_law_run : Stmt := top 64
abbrev s_law_small : Stmt := top 65
abbrev s_law : Stmt := top 66
def SWt : List (Str × Int) := [("quote", 1), ("if", 3), ("same", 2), ("word", 1), ("head", 1), ("tail", 1), ("join", 2)]
def SPL : List Str := ["quote", "if", "same", "word", "head", "tail", "join"]
def LEN : List (Str × Int) := [("push", 2), ("copy", 2), ("slide", 2), ("same", 1), ("word", 1), ("head", 1), ("tail", 1), ("join", 1), ("call", 2), ("if", 3)]
end Og

set_option Elab.async false
set_option linter.all false
set_option maxRecDepth 100000
set_option maxHeartbeats 0
/-! OgHead0: the head: what is looked at, and the run. -/
namespace Og
open PySem PySem.Spec PyProof.Rows L2
/-! the head: facts by names, the run (printed by gen_head.py) -/
def d_is_word : He.DefD := ⟨("is_word", none), "is_word", "is_word", defArgs s_is_word, defBody s_is_word, defScope s_is_word, [], []⟩
def d_has_head : He.DefD := ⟨("has_head", none), "has_head", "has_head", defArgs s_has_head, defBody s_has_head, defScope s_has_head, [], []⟩
def d_counts_of : He.DefD := ⟨("counts_of", none), "counts_of", "counts_of", defArgs s_counts_of, defBody s_counts_of, defScope s_counts_of, [], []⟩
def d_name_fits : He.DefD := ⟨("name_fits", none), "name_fits", "name_fits", defArgs s_name_fits, defBody s_name_fits, defScope s_name_fits, [], []⟩
def d_parameters_fit : He.DefD := ⟨("parameters_fit", none), "parameters_fit", "parameters_fit", defArgs s_parameters_fit, defBody s_parameters_fit, defScope s_parameters_fit, [], []⟩
def d_body_fits : He.DefD := ⟨("body_fits", none), "body_fits", "body_fits", defArgs s_body_fits, defBody s_body_fits, defScope s_body_fits, [], []⟩
def d_check_program : He.DefD := ⟨("check_program", none), "check_program", "check_program", defArgs s_check_program, defBody s_check_program, defScope s_check_program, [], []⟩
def d_inputs_of : He.DefD := ⟨("inputs_of", none), "inputs_of", "inputs_of", defArgs s_inputs_of, defBody s_inputs_of, defScope s_inputs_of, [], []⟩
def d_made_name : He.DefD := ⟨("made_name", none), "made_name", "made_name", defArgs s_made_name, defBody s_made_name, defScope s_made_name, [], []⟩
def d_made_parameters : He.DefD := ⟨("made_parameters", none), "made_parameters", "made_parameters", defArgs s_made_parameters, defBody s_made_parameters, defScope s_made_parameters, [], []⟩
def d_renamed_expression : He.DefD := ⟨("renamed_expression", none), "renamed_expression", "renamed_expression", defArgs s_renamed_expression, defBody s_renamed_expression, defScope s_renamed_expression, [], []⟩
def d_renamed : He.DefD := ⟨("renamed", none), "renamed", "renamed", defArgs s_renamed, defBody s_renamed, defScope s_renamed, [], []⟩
def d_joined : He.DefD := ⟨("joined", none), "joined", "joined", defArgs s_joined, defBody s_joined, defScope s_joined, [], []⟩
def d_with_main : He.DefD := ⟨("with_main", none), "with_main", "with_main", defArgs s_with_main, defBody s_with_main, defScope s_with_main, [], []⟩
def d_fill_function : He.DefD := ⟨("fill_function", none), "fill_function", "fill_function", defArgs s_fill_function, defBody s_fill_function, defScope s_fill_function, [], []⟩
def d_fill : He.DefD := ⟨("fill", none), "fill", "fill", defArgs s_fill, defBody s_fill, defScope s_fill, [], []⟩
def d_quoted : He.DefD := ⟨("quoted", none), "quoted", "quoted", defArgs s_quoted, defBody s_quoted, defScope s_quoted, [], []⟩
def d_listed : He.DefD := ⟨("listed", none), "listed", "listed", defArgs s_listed, defBody s_listed, defScope s_listed, [], []⟩
def d_filled_tree : He.DefD := ⟨("filled_tree", none), "filled_tree", "filled_tree", defArgs s_filled_tree, defBody s_filled_tree, defScope s_filled_tree, [], []⟩
def d_know_own : He.DefD := ⟨("know_own", none), "know_own", "know_own", defArgs s_know_own, defBody s_know_own, defScope s_know_own, [], []⟩
def d_Store_init : He.DefD := ⟨("Store", some "__init__"), "__init__", "Store.__init__", defArgs s_Store_init, defBody s_Store_init, defScope s_Store_init, [], []⟩
def d_Store_number_of : He.DefD := ⟨("Store", some "number_of"), "number_of", "Store.number_of", defArgs s_Store_number_of, defBody s_Store_number_of, defScope s_Store_number_of, [], []⟩
def d_Store_is_word : He.DefD := ⟨("Store", some "is_word"), "is_word", "Store.is_word", defArgs s_Store_is_word, defBody s_Store_is_word, defScope s_Store_is_word, [], []⟩
def d_Store_first : He.DefD := ⟨("Store", some "first"), "first", "Store.first", defArgs s_Store_first, defBody s_Store_first, defScope s_Store_first, [], []⟩
def d_Store_rest : He.DefD := ⟨("Store", some "rest"), "rest", "Store.rest", defArgs s_Store_rest, defBody s_Store_rest, defScope s_Store_rest, [], []⟩
def d_Store_pair_up : He.DefD := ⟨("Store", some "pair_up"), "pair_up", "Store.pair_up", defArgs s_Store_pair_up, defBody s_Store_pair_up, defScope s_Store_pair_up, [], []⟩
def d_Store_put : He.DefD := ⟨("Store", some "put"), "put", "Store.put", defArgs s_Store_put, defBody s_Store_put, defScope s_Store_put, [], []⟩
def d_Store_items_of : He.DefD := ⟨("Store", some "items_of"), "items_of", "Store.items_of", defArgs s_Store_items_of, defBody s_Store_items_of, defScope s_Store_items_of, [], []⟩
def d_Store_value_of : He.DefD := ⟨("Store", some "value_of"), "value_of", "Store.value_of", defArgs s_Store_value_of, defBody s_Store_value_of, defScope s_Store_value_of, [], []⟩
def d_Run_init : He.DefD := ⟨("Run", some "__init__"), "__init__", "Run.__init__", defArgs s_Run_init, defBody s_Run_init, defScope s_Run_init, [], []⟩
def d_is_instruction : He.DefD := ⟨("is_instruction", none), "is_instruction", "is_instruction", defArgs s_is_instruction, defBody s_is_instruction, defScope s_is_instruction, [], []⟩
def d_Names_init : He.DefD := ⟨("Names", some "__init__"), "__init__", "Names.__init__", defArgs s_Names_init, defBody s_Names_init, defScope s_Names_init, [], []⟩
def d_Names_is_right : He.DefD := ⟨("Names", some "is_right"), "is_right", "Names.is_right", defArgs s_Names_is_right, defBody s_Names_is_right, defScope s_Names_is_right, [], []⟩
def d_check_machine : He.DefD := ⟨("check_machine", none), "check_machine", "check_machine", defArgs s_check_machine, defBody s_check_machine, defScope s_check_machine, [], []⟩
def d_StackMachine_init : He.DefD := ⟨("StackMachine", some "__init__"), "__init__", "StackMachine.__init__", defArgs s_StackMachine_init, defBody s_StackMachine_init, defScope s_StackMachine_init, [], []⟩
def d_StackMachine_made : He.DefD := ⟨("StackMachine", some "made"), "made", "StackMachine.made", defArgs s_StackMachine_made, defBody s_StackMachine_made, defScope s_StackMachine_made, [], []⟩
def d_StackMachine_pop : He.DefD := ⟨("StackMachine", some "pop"), "pop", "StackMachine.pop", defArgs s_StackMachine_pop, defBody s_StackMachine_pop, defScope s_StackMachine_pop, [], []⟩
def d_StackMachine_go_on : He.DefD := ⟨("StackMachine", some "go_on"), "go_on", "StackMachine.go_on", defArgs s_StackMachine_go_on, defBody s_StackMachine_go_on, defScope s_StackMachine_go_on, [], []⟩
def d_StackMachine_carry_out : He.DefD := ⟨("StackMachine", some "carry_out"), "carry_out", "StackMachine.carry_out", defArgs s_StackMachine_carry_out, defBody s_StackMachine_carry_out, defScope s_StackMachine_carry_out, [], []⟩
def d_StackMachine_found : He.DefD := ⟨("StackMachine", some "found"), "found", "StackMachine.found", defArgs s_StackMachine_found, defBody s_StackMachine_found, defScope s_StackMachine_found, [], []⟩
def d_run_machine : He.DefD := ⟨("run_machine", none), "run_machine", "run_machine", defArgs s_run_machine, defBody s_run_machine, defScope s_run_machine, [], []⟩
def d_part_path : He.DefD := ⟨("part_path", none), "part_path", "part_path", defArgs s_part_path, defBody s_part_path, defScope s_part_path, [], []⟩
def d_parts_of : He.DefD := ⟨("parts_of", none), "parts_of", "parts_of", defArgs s_parts_of, defBody s_parts_of, defScope s_parts_of, [], []⟩
def d_instructions_of : He.DefD := ⟨("instructions_of", none), "instructions_of", "instructions_of", defArgs s_instructions_of, defBody s_instructions_of, defScope s_instructions_of, [], []⟩
def d_routines_of : He.DefD := ⟨("routines_of", none), "routines_of", "routines_of", defArgs s_routines_of, defBody s_routines_of, defScope s_routines_of, [], []⟩
def d_to_machine : He.DefD := ⟨("to_machine", none), "to_machine", "to_machine", defArgs s_to_machine, defBody s_to_machine, defScope s_to_machine, [], []⟩
def d_translator : He.DefD := ⟨("translator", none), "translator", "translator", defArgs s_translator, defBody s_translator, defScope s_translator, [], []⟩
def d_knowing_machine : He.DefD := ⟨("knowing_machine", none), "knowing_machine", "knowing_machine", defArgs s_knowing_machine, defBody s_knowing_machine, defScope s_knowing_machine, [], []⟩
def d_know_own_machine : He.DefD := ⟨("know_own_machine", none), "know_own_machine", "know_own_machine", defArgs s_know_own_machine, defBody s_know_own_machine, defScope s_know_own_machine, [], []⟩
def d_law_draws : He.DefD := ⟨("_law_draws", none), "_law_draws", "_law_draws", defArgs s_law_draws, defBody s_law_draws, defScope s_law_draws, [], []⟩
def d_law_take : He.DefD := ⟨("_law_take", none), "_law_take", "_law_take", defArgs s_law_take, defBody s_law_take, defScope s_law_take, [], []⟩
def d_law_value : He.DefD := ⟨("_law_value", none), "_law_value", "_law_value", defArgs s_law_value, defBody s_law_value, defScope s_law_value, [], []⟩
def d_law_expression : He.DefD := ⟨("_law_expression", none), "_law_expression", "_law_expression", defArgs s_law_expression, defBody s_law_expression, defScope s_law_expression, [], []⟩
def d_law_do : He.DefD := ⟨("_law_do", none), "_law_do", "_law_do", defArgs s_law_do, defBody s_law_do, defScope s_law_do, [], []⟩
def d_law_run : He.DefD := ⟨("_law_run", none), "_law_run", "_law_run", defArgs s_law_run, defBody s_law_run, defScope s_law_run, [], []⟩
def d_law_small : He.DefD := ⟨("_law_small", none), "_law_small", "_law_small", defArgs s_law_small, defBody s_law_small, defScope s_law_small, [], []⟩
def d_law : He.DefD := ⟨("law", none), "law", "law", defArgs s_law, defBody s_law, defScope s_law, [], []⟩
def fn0 : List He.DefD := [d_is_word, d_has_head, d_counts_of, d_name_fits, d_parameters_fit, d_body_fits, d_check_program, d_inputs_of, d_made_name, d_made_parameters, d_renamed_expression, d_renamed, d_joined, d_with_main, d_fill_function, d_fill, d_quoted, d_listed, d_filled_tree, d_know_own, d_Store_init, d_Store_number_of, d_Store_is_word, d_Store_first, d_Store_rest, d_Store_pair_up, d_Store_put, d_Store_items_of, d_Store_value_of, d_Run_init]
def fn1 : List He.DefD := [d_is_instruction, d_Names_init, d_Names_is_right, d_check_machine, d_StackMachine_init, d_StackMachine_made, d_StackMachine_pop, d_StackMachine_go_on, d_StackMachine_carry_out, d_StackMachine_found, d_run_machine, d_part_path, d_parts_of, d_instructions_of, d_routines_of, d_to_machine, d_translator, d_knowing_machine, d_know_own_machine, d_law_draws, d_law_take, d_law_value, d_law_expression, d_law_do, d_law_run, d_law_small, d_law]
def fn : List He.DefD := fn0 ++ fn1
def fa0 : List He.Fa := [.glo "SPECIAL_WORDS", .glo "is_word", .glo "has_head", .glo "counts_of", .glo "name_fits", .glo "parameters_fit", .glo "body_fits", .glo "check_program", .glo "inputs_of", .glo "SPECIAL", .glo "made_name", .glo "made_parameters", .glo "renamed_expression", .glo "renamed", .glo "joined", .glo "with_main", .glo "fill_function", .glo "fill", .glo "quoted", .glo "listed", .glo "filled_tree", .glo "know_own", .glo "Store", .glo "Run", .glo "LENGTHS", .glo "is_instruction", .glo "Names", .glo "check_machine", .glo "StackMachine", .glo "run_machine"]
def fa1 : List He.Fa := [.glo "part_path", .glo "parts_of", .glo "instructions_of", .glo "routines_of", .glo "to_machine", .glo "TRANSLATOR", .glo "translator", .glo "knowing_machine", .glo "know_own_machine", .glo "_law_draws", .glo "_law_take", .glo "_law_value", .glo "_law_expression", .glo "_law_do", .glo "_law_run", .glo "_law_small", .glo "law", .int "EMPTY" 0, .int "MOST_PARTS" 200000, .int "MOST_DEPTH" 200, .int "MOST_INPUTS" 8, .int "MOST_PARAMETERS" 12, .str "FIGURES" "0123456789", .free "isinstance", .free "len", .free "dict", .free "str", .free "enumerate", .free "int", .free "tuple"]
def fa2 : List He.Fa := [.free "range", .free "min", .free "max", .free "reversed", .free "list", .free "abs", .cls "Store", .mkr "Store", .noat "Store" "entries", .noat "Store" "numbers", .noat "Store" "sizes", .noat "Store" "depths", .meth "Store" "number_of", .meth "Store" "is_word", .meth "Store" "first", .meth "Store" "rest", .meth "Store" "pair_up", .meth "Store" "put", .meth "Store" "items_of", .meth "Store" "value_of", .cls "Run", .mkr "Run", .noat "Run" "kind", .noat "Run" "value", .noat "Run" "steps", .cls "Names", .mkr "Names", .noat "Names" "store", .noat "Names" "kept", .noat "Names" "known"]
def fa3 : List He.Fa := [.meth "Names" "is_right", .cls "StackMachine", .mkr "StackMachine", .noat "StackMachine" "store", .noat "StackMachine" "yes", .noat "StackMachine" "routines", .noat "StackMachine" "stack", .noat "StackMachine" "todo", .noat "StackMachine" "steps", .meth "StackMachine" "made", .meth "StackMachine" "pop", .meth "StackMachine" "go_on", .meth "StackMachine" "carry_out", .meth "StackMachine" "found"]
def fa : List He.Fa := fa0 ++ fa1 ++ fa2 ++ fa3
def loose0 : List Str := ["GlassError", "BadProgram", "BadInputs", "SPECIAL_WORDS", "FIGURES", "MOST_PARAMETERS", "is_word", "has_head", "counts_of", "name_fits", "parameters_fit", "body_fits", "check_program", "inputs_of", "MOST_INPUTS", "SPECIAL", "made_name", "made_parameters", "renamed_expression", "renamed", "joined", "with_main", "fill_function", "fill", "quoted", "listed", "filled_tree", "know_own", "EMPTY", "MOST_PARTS"]
def loose1 : List Str := ["MOST_DEPTH", "Store", "Run", "LENGTHS", "is_instruction", "Names", "check_machine", "StackMachine", "run_machine", "part_path", "parts_of", "instructions_of", "routines_of", "to_machine", "TRANSLATOR", "translator", "knowing_machine", "know_own_machine", "_law_draws", "_law_take", "_law_value", "_law_expression", "_law_do", "_law_run", "_law_small"]
def loose : List Str := loose0 ++ loose1

/-! ### a part of the heap that holds each address below a bound -/
def upF : Nat → Nat → List Addr
  | 0, _ => []
  | n + 1, a => a :: upF n (a + 1)
def lim : Nat := 100000
/-- what an object names; the items of a list, of a tuple not -/
def refsS (o : Obj) : List Addr := match o.data with
  | .seq _ _ => []
  | _ => He.refsD o
def growS (g : Addr → Option Obj) (as : List Addr) : List Addr := (as ++ as.flatMap fun a => match g a with
  | some o => refsS o
  | none => []).eraseDups
def asS (g : Addr → Option Obj) : Nat → List Addr
  | 0 => [mainGlobals]
  | n + 1 => growS g (asS g n)
def asO (g : Addr → Option Obj) : List Addr := asS g 4 ++ upF lim 0
def frO (g : Addr → Option Obj) : PySem.W.Frag := He.frG g (asO g)
/-! ### a written value, read -/
inductive Rd where
  | w (s : Str)
  | l (c : String) (small : Bool) (xs : List Rd)
  | bad
mutual
def Val.rd : Val → Rd
  | .w s => .w s
  | .l xs => .l "tuple" true (Val.rds xs)
def Val.rds : List Val → List Rd
  | [] => []
  | x :: xs => Val.rd x :: Val.rds xs
end
def rdV (g : Addr → Option Obj) : Nat → Value → Rd
  | 0, _ => .bad
  | n + 1, u => match u with
    | .str x _ => .w x
    | .ref a => (match Nat.blt a lim with
      | true => (match g a with
        | some ⟨.type c, none, .seq its _, _⟩ => .l c (Nat.ble its.size sizeLine) (its.toList.map (rdV g n))
        | _ => .bad)
      | false => .bad)
    | _ => .bad
/-! ### a written table -/
def entO (e : DictEntry) : Option (Str × Int × Int) := match e.key with
  | .str x _ => (match e.val with
    | .int i _ => some (x, e.hash, i)
    | _ => none)
  | _ => none
def tabO (K : PySem.W.Frag) (a : Addr) : Option (List (Option (Str × Int × Int))) := match K.lookup a with
  | some ⟨.type c, none, .dict es _, sl⟩ => (match decide (c = "dict") && (sl.isEmpty && !(a == sysModules)) with
    | true => some (es.toList.map entO)
    | false => none)
  | _ => none
def tabV (w : World) (kvs : List (Str × Int)) : List (Option (Str × Int × Int)) := kvs.map fun p => some (p.1, PyData.keyHash w.params p.1, p.2)
abbrev AlO : Type := He.AlD × (Rd × Rd) × List (Option (List (Option (Str × Int × Int))))
def obsO (g : Addr → Option Obj) : AlO :=
  (He.obsD fa fn (frO g), (rdV g 60 (.ref (He.ga (frO g) "TRANSLATOR")), rdV g 60 (.ref (He.ga (frO g) "SPECIAL"))), [tabO (frO g) (He.ga (frO g) "SPECIAL_WORDS"), tabO (frO g) (He.ga (frO g) "LENGTHS")])
def valO (w : World) : AlO := (He.valD fn, ((Prog.val TR).rd, (Val.l (SPL.map .w)).rd), [some (tabV w SWt), some (tabV w LEN)])
abbrev RR : PySem.W.OpenRow := PySem.W.OpenLaw.row PySem.Challenge.rw_ownglass_k56_whole_own_text_across
def obO (s : PySem.W.SharedT) : AlO := obsO (HandSHeadRun.getT s)
/-- what is looked at, with nothing said of it -/
def hook0 : PySem.W.Hook where
  α := AlO
  obs := fun s => obsO s.heap.get?
  val := valO
  says := fun _ _ => True
  of := fun _ _ _ => trivial
  keeps := fun _ _ _ _ _ => trivial
theorem runF (w : World) : HandSHeadRun.RunEq RR (PySem.W.view RR.prog [66]) hook0 obO 6000 loose (w.withFollow "special-get-raises" false) := by
  intro os
  kernel_rfl
theorem runT (w : World) : HandSHeadRun.RunEq RR (PySem.W.view RR.prog [66]) hook0 obO 6000 loose (w.withFollow "special-get-raises" true) := by
  intro os
  kernel_rfl
theorem run0 (w : World) : HandSHeadRun.RunEq RR (PySem.W.view RR.prog [66]) hook0 obO 6000 loose w := PySem.W.byRow2 "special-get-raises" runF runT w
end Og

set_option Elab.async false
set_option linter.all false
set_option maxRecDepth 100000
set_option maxHeartbeats 1000000
/-! OgPlan: the programs that the law makes, and what they compute. Plain Lean. -/
namespace Og
open PySem

/-! ### making programs -/
mutual
def renE (nm : Str → Str) : Ex → Ex
  | .var x => .var x
  | .quo v => .quo v
  | .ite a b c => .ite (renE nm a) (renE nm b) (renE nm c)
  | .app (.pr o) as => .app (.pr o) (renEs nm as)
  | .app (.fn f) as => .app (.fn (nm f)) (renEs nm as)
def renEs (nm : Str → Str) : List Ex → List Ex
  | [] => []
  | e :: es => renE nm e :: renEs nm es
end
def nmF : Prog → Nat → Str → Str
  | [], _, x => x
  | f :: r, s, x => if f.name = x then fN s else nmF r (s + 1) x
def renL (nm : Str → Str) : Prog → Nat → Prog
  | [], _ => []
  | f :: r, s => ⟨fN s, f.ps, renE nm f.body⟩ :: renL nm r (s + 1)
def renP (p : Prog) (s : Nat) : Prog := renL (nmF p s) p s
/-- x1 to xk -/
def xs (k : Nat) : List Str := (List.range k).map fun i => made "x" (i + 1)
def withMain (fs : Prog) (ps : List Str) (b : Ex) : Prog := ⟨fN fs.length, ps, b⟩ :: fs
def fillF (main : Str) (n : Nat) (v : Val) (k : Nat) : Fn := ⟨fN n, xs k, .app (.fn main) (.quo v :: (xs k).map .var)⟩
def jn (a b : Ex) : Ex := .app (.pr .join) [a, b]
def listed : List Ex → Ex
  | [] => .quo nil
  | e :: es => jn e (listed es)
def tree (main : Str) (n k : Nat) : Ex :=
  jn (listed [.quo (.w (fN n)), .quo (wl (xs k)), jn (.quo (.w main)) (jn (listed [.quo (.w "quote"), .var "s"]) (.quo (wl (xs k))))]) (.var "s")
def knowsOwn (p : Prog) (k : Nat) : Prog := withMain (renP p 0) ("s" :: xs k) (.app (.fn (fN 0)) (tree (fN p.length) (p.length + 1) k :: (xs k).map .var))
def fill (p : Prog) (v : Val) (k : Nat) : Prog := fillF (fN (p.length - 1)) p.length v k :: p
def knowOwn (p : Prog) (k : Nat) : Prog := fill (knowsOwn p k) (Prog.val (knowsOwn p k)) k
def hand (P : Prog) (k : Nat) : Prog := withMain (renP TR 0 ++ renP P 14) ("s" :: xs k) (.app (.fn (fN 14)) (.app (.fn (fN 0)) [.var "s"] :: (xs k).map .var))
def knowing (P : Prog) (k : Nat) : Prog := knowOwn (hand P k) k

/-! ### the law's programs -/
def pk (k : Nat) : List Str := (["s", "x", "y"] : List Str).take (k + 1)
def two : Fn := ⟨"two", ["a", "b"], jn (.var "a") (jn (.var "b") (.quo nil))⟩
def PP (k : Nat) : Bool → Ex → Prog
  | false, B => [⟨"main", pk k, B⟩]
  | true, B => [⟨"main", pk k, .app (.fn "two") [B, .var "s"]⟩, two]
mutual
/-- no call in it, the numbers of parts right -/
def Ex.cf : Ex → Prop
  | .var _ => True
  | .quo _ => True
  | .ite a b c => a.cf ∧ b.cf ∧ c.cf
  | .app (.pr o) as => as.length = o.ar ∧ Ex.cfs as
  | .app (.fn _) _ => False
def Ex.cfs : List Ex → Prop
  | [] => True
  | e :: es => e.cf ∧ Ex.cfs es
end
mutual
theorem renE_cf (nm : Str → Str) : ∀ e : Ex, e.cf → renE nm e = e
  | .var _, _ => rfl
  | .quo _, _ => rfl
  | .ite a b c, h => by simp only [renE, renE_cf nm a h.1, renE_cf nm b h.2.1, renE_cf nm c h.2.2]
  | .app (.pr o) as, h => by simp only [renE, renEs_cf nm as h.2]
  | .app (.fn f) as, h => h.elim
theorem renEs_cf (nm : Str → Str) : ∀ es : List Ex, Ex.cfs es → renEs nm es = es
  | [], _ => rfl
  | e :: es, h => by simp only [renEs, renE_cf nm e h.1, renEs_cf nm es h.2]
end
def b2 (t : Bool) : Nat := if t then 1 else 0
def P15 (k : Nat) : Bool → Ex → Prog
  | false, B => [⟨fN 15, pk k, B⟩]
  | true, B => [⟨fN 15, pk k, .app (.fn (fN 16)) [B, .var "s"]⟩, ⟨fN 16, ["a", "b"], two.body⟩]
def G0 (k : Nat) : Fn := ⟨fN 0, "s" :: xs k, .app (.fn (fN 15)) (.app (.fn (fN 1)) [.var "s"] :: (xs k).map .var)⟩
def rr (k : Nat) (t : Bool) (B : Ex) : Prog := ⟨fN (16 + b2 t), "s" :: xs k, .app (.fn (fN 0)) (tree (fN (16 + b2 t)) (17 + b2 t) k :: (xs k).map .var)⟩ :: G0 k :: (tr ++ P15 k t B)
def qq (k : Nat) (t : Bool) (B : Ex) : Prog := fillF (fN (16 + b2 t)) (17 + b2 t) (Prog.val (rr k t B)) k :: rr k t B
mutual
theorem renE_ext {nm nm' : Str → Str} (h : ∀ x, nm x = nm' x) : ∀ e : Ex, renE nm e = renE nm' e
  | .var _ => rfl
  | .quo _ => rfl
  | .ite a b c => by simp only [renE, renE_ext h a, renE_ext h b, renE_ext h c]
  | .app (.pr o) as => by simp only [renE, renEs_ext h as]
  | .app (.fn f) as => by simp only [renE, renEs_ext h as, h]
theorem renEs_ext {nm nm' : Str → Str} (h : ∀ x, nm x = nm' x) : ∀ es : List Ex, renEs nm es = renEs nm' es
  | [] => rfl
  | e :: es => by simp only [renEs, renE_ext h e, renEs_ext h es]
end
theorem tr_eqF (k : Nat) (B : Ex) : renL (nmF (hand (PP k false B) k) 0) (renP TR 0) 1 = tr := by kernel_rfl
theorem tr_eqT (k : Nat) (B : Ex) : renL (nmF (hand (PP k true B) k) 0) (renP TR 0) 1 = tr := by kernel_rfl
theorem renL_append (nm : Str → Str) : ∀ (a b : Prog) (s : Nat), renL nm (a ++ b) s = renL nm a s ++ renL nm b (s + a.length)
  | [], b, s => by simp [renL]
  | f :: a, b, s => by
    simp only [List.cons_append, renL, renL_append nm a b, List.length_cons]
    rw [Nat.add_assoc, Nat.add_comm 1]
theorem renEs_var (nm : Str → Str) (l : List Str) : renEs nm (l.map .var) = l.map .var := by
  induction l with
  | nil => rfl
  | cons x l ih => simp only [List.map_cons, renEs, renE, ih]
theorem renTR_len : (renP TR 0).length = 14 := by kernel_rfl
theorem hand_ren (k : Nat) (t : Bool) (B : Ex) (hB : B.cf) : renP (hand (PP k t B) k) 0 = G0 k :: (tr ++ P15 k t B) := by
  cases t with
  | false =>
    have e1 : renP (PP k false B) 14 = [⟨fN 14, pk k, B⟩] := by
      simp only [renP, PP, renL, renE_cf _ B hB]
    have a1 : nmF (hand (PP k false B) k) 0 (fN 14) = fN 15 := by kernel_rfl
    have a2 : nmF (hand (PP k false B) k) 0 (fN 0) = fN 1 := by kernel_rfl
    have tq := tr_eqF k B
    generalize hnm : nmF (hand (PP k false B) k) 0 = nm at a1 a2 tq
    simp only [renP]
    rw [hnm]
    simp only [hand, withMain, renL, renE, renEs, renEs_var, a1, a2, e1, renL_append, renE_cf nm B hB, renTR_len]
    rw [tq]
    rfl
  | true =>
    have c1 : nmF (PP k true B) 14 "two" = fN 15 := by kernel_rfl
    have e1 : renP (PP k true B) 14 = [⟨fN 14, pk k, .app (.fn (fN 15)) [B, .var "s"]⟩, ⟨fN 15, ["a", "b"], two.body⟩] := by
      simp only [renP]
      generalize nmF (PP k true B) 14 = nm at c1
      simp only [PP, two, renL, renE, renEs, jn, c1, renE_cf _ B hB]
    have a1 : nmF (hand (PP k true B) k) 0 (fN 14) = fN 15 := by kernel_rfl
    have a2 : nmF (hand (PP k true B) k) 0 (fN 0) = fN 1 := by kernel_rfl
    have a3 : nmF (hand (PP k true B) k) 0 (fN 15) = fN 16 := by kernel_rfl
    have tq := tr_eqT k B
    generalize hnm : nmF (hand (PP k true B) k) 0 = nm at a1 a2 a3 tq
    simp only [renP]
    rw [hnm]
    simp only [hand, withMain, renL, renE, renEs, renEs_var, a1, a2, a3, e1, renL_append, renE_cf nm B hB, renTR_len, two, jn]
    rw [tq]
    rfl
theorem hand_len (k : Nat) (t : Bool) (B : Ex) : (hand (PP k t B) k).length = 16 + b2 t := by
  cases t <;> kernel_rfl
theorem rr_eq (k : Nat) (t : Bool) (B : Ex) (hB : B.cf) : knowsOwn (hand (PP k t B) k) k = rr k t B := by
  have hl : (G0 k :: (tr ++ P15 k t B)).length = 16 + b2 t := by
    rw [← hand_ren k t B hB, ← hand_len k t B]
    unfold renP
    generalize nmF (hand (PP k t B) k) 0 = nm
    generalize 0 = s
    generalize hand (PP k t B) k = p
    induction p generalizing s with
    | nil => rfl
    | cons f r ih => simp [renL, ih]
  unfold knowsOwn rr withMain
  rw [hand_ren k t B hB, hl, hand_len]
  have e : 16 + b2 t + 1 = 17 + b2 t := by omega
  rw [e]
theorem rr_len (k : Nat) (t : Bool) (B : Ex) : (rr k t B).length = 17 + b2 t := by cases t <;> rfl
theorem qq_eq (k : Nat) (t : Bool) (B : Ex) (hB : B.cf) : knowing (PP k t B) k = qq k t B := by
  unfold knowing knowOwn fill qq
  rw [rr_eq k t B hB, rr_len]
  have e : 17 + b2 t - 1 = 16 + b2 t := by omega
  rw [e]

/-! ### where the functions stand -/
theorem find_tr (k : Nat) (t : Bool) (B : Ex) : HasT (qq k t B) := by
  intro d hd
  simp only [tr, List.mem_cons, List.not_mem_nil, or_false] at hd
  cases t <;> rcases hd with rfl | rfl | rfl | rfl | rfl | rfl | rfl | rfl | rfl | rfl | rfl | rfl | rfl | rfl <;> kernel_rfl
theorem find_0 (k : Nat) (t : Bool) (B : Ex) : find (qq k t B) (fN 0) = some (G0 k) := by cases t <;> kernel_rfl
theorem find_r (k : Nat) (t : Bool) (B : Ex) : find (qq k t B) (fN (16 + b2 t)) = (rr k t B).head? := by cases t <;> kernel_rfl
theorem find_15F (k : Nat) (B : Ex) : find (qq k false B) (fN 15) = some ⟨fN 15, pk k, B⟩ := by kernel_rfl
theorem find_15T (k : Nat) (B : Ex) : find (qq k true B) (fN 15) = some ⟨fN 15, pk k, .app (.fn (fN 16)) [B, .var "s"]⟩ := by kernel_rfl
theorem find_16T (k : Nat) (B : Ex) : find (qq k true B) (fN 16) = some ⟨fN 16, ["a", "b"], two.body⟩ := by kernel_rfl
theorem find_q (k : Nat) (t : Bool) (B : Ex) : find (qq k t B) (fN (17 + b2 t)) = (qq k t B).head? := by cases t <;> kernel_rfl
end Og

set_option Elab.async false
set_option linter.all false
set_option maxRecDepth 100000
set_option maxHeartbeats 1000000
/-! OgRun: the machine program that is made, run on inputs. Plain Lean. -/
namespace Og
open PySem

/-! ### an expression without calls has a value -/
mutual
def evE (env : Str → Val) : Ex → Val
  | .var x => env x
  | .quo v => v
  | .ite a b c => if evE env a = nil then evE env c else evE env b
  | .app (.pr o) as => (prim o (evEs env as)).getD nil
  | .app (.fn _) _ => nil
def evEs (env : Str → Val) : List Ex → List Val
  | [] => []
  | e :: es => evE env e :: evEs env es
end
mutual
def nN : Ex → Nat
  | .var _ => 1
  | .quo _ => 1
  | .ite a b c => nN a + nN b + nN c + 1
  | .app _ as => nNs as + 1
def nNs : List Ex → Nat
  | [] => 0
  | e :: es => nN e + nNs es
end
theorem evEs_len (env : Str → Val) (es : List Ex) : (evEs env es).length = es.length := by
  induction es with
  | nil => rfl
  | cons e es ih => simp [evEs, ih]
def envOf (ps : List Str) (vs : List Val) (x : Str) : Val := (look ps vs x).getD nil
theorem look_some : ∀ {ps : List Str} {vs : List Val} {x : Str}, x ∈ ps → ps.length = vs.length → look ps vs x = some (envOf ps vs x)
  | [], _, _, h, _ => by simp at h
  | _ :: _, [], _, _, h => by simp at h
  | p :: ps, v :: vs, x, h, hl => by
    unfold envOf
    simp only [look]
    split
    · rfl
    · rename_i e
      have h' : x ∈ ps := by
        rcases List.mem_cons.mp h with r | r
        · exact absurd r.symm e
        · exact r
      have := look_some h' (vs := vs) (by simpa using hl)
      rw [this]
      rfl
theorem prim_some : ∀ {o : Pr} {ws : List Val}, ws.length = o.ar → prim o ws = some ((prim o ws).getD nil)
  | .same, [_, _], _ => rfl
  | .word, [_], _ => rfl
  | .head, [_], _ => rfl
  | .tail, [_], _ => rfl
  | .join, [_, _], _ => rfl
section
variable {p : Prog} {ps : List Str} {vs : List Val}
mutual
theorem evB_cf (hl : ps.length = vs.length) : ∀ e : Ex, e.cf → e.ok ps → EvB p ps vs e (evE (envOf ps vs) e) (nN e)
  | .var x, _, hx => .var (look_some hx hl)
  | .quo v, _, _ => .quo
  | .ite a b c, h, k => by
    have ia := evB_cf hl a h.1 k.1
    simp only [evE]
    split
    · rename_i e
      rw [e] at ia
      exact (EvB.iteF ia (evB_cf hl c h.2.2 k.2.2)).mono (by simp only [nN]; omega)
    · rename_i e
      exact (EvB.iteT ia e (evB_cf hl b h.2.1 k.2.1)).mono (by simp only [nN]; omega)
  | .app (.pr o) as, h, k => by
    obtain ⟨n, l, r⟩ := evBs_cf hl as h.2 k.2
    have e := prim_some (o := o) (ws := evEs (envOf ps vs) as) (by rw [evEs_len]; exact h.1)
    exact ⟨n + 1, by simp only [nN]; omega, .pr r e⟩
  | .app (.fn _) _, h, _ => h.elim
theorem evBs_cf (hl : ps.length = vs.length) : ∀ es : List Ex, Ex.cfs es → Ex.oks ps es → EvBL p ps vs es (evEs (envOf ps vs) es) (nNs es)
  | [], _, _ => .nil
  | e :: es, h, k => .cons (evB_cf hl e h.1 k.1) (evBs_cf hl es h.2 k.2)
end
end
/-- what the law's program gives -/
def pval (k : Nat) (t : Bool) (B : Ex) (vs : List Val) : Val :=
  if t then .l [evE (envOf (pk k) vs) B, envOf (pk k) vs "s"] else evE (envOf (pk k) vs) B
theorem cl_P (k : Nat) (t : Bool) (B : Ex) (hB : B.cf) (ok : B.ok (pk k)) (vs : List Val) (hl : (pk k).length = vs.length) : Cl (qq k t B) (fN 15) vs (pval k t B vs) (nN B + 20) := by
  have ib := evB_cf (p := qq k t B) hl B hB ok
  cases t with
  | false => exact .mk (find_15F k B) hl ib (by omega)
  | true =>
    have s0 : look (pk k) vs "s" = some (envOf (pk k) vs "s") := look_some (by simp [pk]) hl
    have c16 : Cl (qq k true B) (fN 16) [evE (envOf (pk k) vs) B, envOf (pk k) vs "s"] (.l [evE (envOf (pk k) vs) B, envOf (pk k) vs "s"]) 10 :=
      .mk (find_16T k B) rfl (v := vjoin (evE (envOf (pk k) vs) B) (vjoin (envOf (pk k) vs "s") nil)) (.jn (.var rfl) (.jn (.var rfl) .quo)) (by omega)
    exact .mk (find_15T k B) hl (.fn (.cons ib (.cons (.var s0) .nil)) c16) (by omega)

/-! ### the whole run -/
theorem evs_xs {p : Prog} {k : Nat} (h : k ≤ 2) (ws : List Val) (hl : ws.length = k) : EvBL p (xs k) ws ((xs k).map .var) ws 2 := by
  match k, ws, hl with
  | 0, [], _ => exact ⟨0, by omega, .nil⟩
  | 1, [a], _ => exact ⟨1 + 0, by omega, .cons (.var rfl) .nil⟩
  | 2, [a, b], _ => exact ⟨1 + (1 + 0), by omega, .cons (.var rfl) (.cons (.var (by kernel_rfl)) .nil)⟩
theorem evs_sxs {p : Prog} {k : Nat} (h : k ≤ 2) (v : Val) (ws : List Val) (hl : ws.length = k) : EvBL p ("s" :: xs k) (v :: ws) ((xs k).map .var) ws 2 := by
  match k, ws, hl with
  | 0, [], _ => exact ⟨0, by omega, .nil⟩
  | 1, [a], _ => exact ⟨1 + 0, by omega, .cons (.var (by kernel_rfl)) .nil⟩
  | 2, [a, b], _ => exact ⟨1 + (1 + 0), by omega, .cons (.var (by kernel_rfl)) (.cons (.var (by kernel_rfl)) .nil)⟩
theorem xs_len (k : Nat) : (xs k).length = k := by simp [xs]
theorem vals_map (l : List Str) : Ex.vals (l.map .var) = l.map .w := by
  rw [Ex.vals_eq, List.map_map]
  rfl
theorem tree_ev (p : Prog) (k : Nat) (main : Str) (n : Nat) (rv : List Val) (ws : List Val) :
    EvB p ("s" :: xs k) (.l rv :: ws) (tree main n k) (.l ((fillF main n (.l rv) k).val :: rv)) 40 := by
  have E : (fillF main n (.l rv) k).val = .l [.w (fN n), wl (xs k), .l (.w main :: .l [.w "quote", .l rv] :: (xs k).map .w)] := by
    show Val.l [.w (fN n), .l ((xs k).map .w), .l (.w main :: .l [.w "quote", .l rv] :: Ex.vals ((xs k).map .var))] = _
    rw [vals_map]
  rw [E]
  refine (EvB.jn (u := .l [.w (fN n), wl (xs k), .l (.w main :: .l [.w "quote", .l rv] :: (xs k).map .w)]) (v := .l rv)
    (.jn (u := .w (fN n)) (v := .l [wl (xs k), .l (.w main :: .l [.w "quote", .l rv] :: (xs k).map .w)]) .quo (.jn (u := wl (xs k)) (v := .l [.l (.w main :: .l [.w "quote", .l rv] :: (xs k).map .w)]) .quo
      (.jn (u := .l (.w main :: .l [.w "quote", .l rv] :: (xs k).map .w)) (v := nil) (.jn (u := .w main) (v := .l (.l [.w "quote", .l rv] :: (xs k).map .w)) .quo (.jn (u := .l [.w "quote", .l rv]) (v := wl (xs k)) (.jn (u := .w "quote") (v := .l [.l rv]) .quo (.jn (u := .l rv) (v := nil) (.var rfl) .quo)) .quo)) .quo))) (.var rfl)).mono (by omega)
theorem run_ev (k : Nat) (hk : k ≤ 2) (t : Bool) (B : Ex) (hB : B.cf) (ok : B.ok (pk k)) (okq : ∀ f ∈ qq k t B, f.body.ok f.ps) (ws : List Val) (hl : ws.length = k) :
    EvB (qq k t B) (xs k) ws (fillF (fN (16 + b2 t)) (17 + b2 t) (Prog.val (rr k t B)) k).body (pval k t B ((toM (qq k t B)).val :: ws)) (cP (qq k t B) + nN B + 100) := by
  have hpk : (pk k).length = ((toM (qq k t B)).val :: ws).length := by
    simp only [pk, List.length_take, List.length_cons, hl]
    simp only [List.length_nil]
    omega
  have c15 := cl_P k t B hB ok ((toM (qq k t B)).val :: ws) hpk
  have c1 := cl_main (find_tr k t B) (qq k t B) okq
  have c0 : Cl (qq k t B) (fN 0) ((qq k t B).val :: ws) (pval k t B ((toM (qq k t B)).val :: ws)) (cP (qq k t B) + nN B + 30) := by
    refine .mk (find_0 k t B) (by simp [G0, xs_len, hl]) (.fn (.cons (.fn (.cons (.var rfl) .nil) c1) (evs_sxs hk _ ws hl)) c15) (by omega)
  have cr : Cl (qq k t B) (fN (16 + b2 t)) ((rr k t B).val :: ws) (pval k t B ((toM (qq k t B)).val :: ws)) (cP (qq k t B) + nN B + 80) := by
    refine .mk (find_r k t B) (by simp [xs_len, hl]) (.fn (.cons (tree_ev _ k _ _ _ ws) (evs_sxs hk _ ws hl)) c0) (by omega)
  exact (EvB.fn (.cons .quo (evs_xs hk ws hl)) cr).mono (by omega)
end Og

set_option Elab.async false
set_option linter.all false
set_option maxRecDepth 100000
set_option maxHeartbeats 1000000
/-! OgNames: the routines' names differ; the table holds each routine. Plain Lean. -/
namespace Og
open PySem

theorem pW_inj : ∀ i < 14, ∀ j < 14, pW i = pW j → i = j := by decide +kernel
theorem path_ne {u u' w : List Val} {i j : Nat} (hi : i < 14) (hj : j < 14) (h : i ≠ j) : Val.l (u ++ pW i :: w) ≠ Val.l (u' ++ pW j :: w) := by
  intro e
  injection e with e
  have e2 : (u ++ [pW i]) ++ w = (u' ++ [pW j]) ++ w := by simpa using e
  have e3 := List.append_cancel_right e2
  have e4 := (List.append_inj' e3 rfl).2
  injection e4 with e5
  exact h (pW_inj i hi j hj e5)
theorem path_longer {u w : List Val} (h : u ≠ []) : Val.l (u ++ w) ≠ Val.l w := by
  intro e
  injection e with e
  have := congrArg List.length e
  simp at this
  exact h this
/-- the names of the routines, all behind w -/
def NmOk (rs : List Rt) (w : List Val) : Prop := (rs.map Rt.name).Nodup ∧ ∀ r ∈ rs, ∃ u, u ≠ [] ∧ r.name = .l (u ++ w)
/-- .. behind pj and w for a j from i on -/
def NmOkL (rs : List Rt) (w : List Val) (i : Nat) : Prop := (rs.map Rt.name).Nodup ∧ ∀ r ∈ rs, ∃ u j, i ≤ j ∧ j < 14 ∧ r.name = .l (u ++ pW j :: w)
theorem nm_join {as bs : List Rt} (ha : (as.map Rt.name).Nodup) (hb : (bs.map Rt.name).Nodup) (h : ∀ a ∈ as, ∀ b ∈ bs, a.name ≠ b.name) : ((as ++ bs).map Rt.name).Nodup := by
  rw [List.map_append, List.nodup_append]
  refine ⟨ha, hb, fun x hx y hy => ?_⟩
  obtain ⟨a, ha, rfl⟩ := List.mem_map.mp hx
  obtain ⟨b, hb, rfl⟩ := List.mem_map.mp hy
  exact h a ha b hb
theorem nm_branch {rs : List Rt} {w : List Val} {is : List Ins} (h : NmOk rs w) : ((⟨.l w, is⟩ :: rs : List Rt).map Rt.name).Nodup := by
  rw [List.map_cons, List.nodup_cons]
  refine ⟨fun hm => ?_, h.1⟩
  obtain ⟨r, hr, e⟩ := List.mem_map.mp hm
  obtain ⟨u, hu, e2⟩ := h.2 r hr
  exact path_longer hu (e2.symm.trans e)
mutual
theorem nm_routs (ps : List Str) : ∀ (e : Ex) (d w : List Val), e.ok ps → NmOk (routs ps e d w) w
  | .var _, _, _, _ => ⟨List.nodup_nil, fun r h => nomatch h⟩
  | .quo _, _, _, _ => ⟨List.nodup_nil, fun r h => nomatch h⟩
  | .ite a b c, d, w, h => by
    have ha := nm_routs ps a d (pW 1 :: w) h.1
    have hb := nm_routs ps b d (pW 2 :: w) h.2.1
    have hc := nm_routs ps c d (pW 3 :: w) h.2.2
    have nb := nm_branch (is := ops ps b d (pW 2 :: w)) hb
    have nc := nm_branch (is := ops ps c d (pW 3 :: w)) hc
    have at1 : ∀ r ∈ routs ps a d (pW 1 :: w), ∃ u, r.name = .l (u ++ pW 1 :: w) := fun r hr => let ⟨u, _, e⟩ := ha.2 r hr; ⟨u, e⟩
    have at2 : ∀ r ∈ (⟨.l (pW 2 :: w), ops ps b d (pW 2 :: w)⟩ :: routs ps b d (pW 2 :: w) : List Rt), ∃ u, r.name = .l (u ++ pW 2 :: w) := fun r hr => by
      rcases List.mem_cons.mp hr with rfl | hr
      · exact ⟨[], rfl⟩
      · obtain ⟨u, _, e⟩ := hb.2 r hr
        exact ⟨u, e⟩
    have at3 : ∀ r ∈ (⟨.l (pW 3 :: w), ops ps c d (pW 3 :: w)⟩ :: routs ps c d (pW 3 :: w) : List Rt), ∃ u, r.name = .l (u ++ pW 3 :: w) := fun r hr => by
      rcases List.mem_cons.mp hr with rfl | hr
      · exact ⟨[], rfl⟩
      · obtain ⟨u, _, e⟩ := hc.2 r hr
        exact ⟨u, e⟩
    constructor
    · refine nm_join ha.1 (nm_join nb nc fun r hr q hq => ?_) fun r hr q hq => ?_
      · obtain ⟨u, e⟩ := at2 r hr
        obtain ⟨v, e'⟩ := at3 q hq
        rw [e, e']
        exact path_ne (by decide) (by decide) (by decide)
      · obtain ⟨u, e⟩ := at1 r hr
        rcases List.mem_append.mp hq with hq | hq
        · obtain ⟨v, e'⟩ := at2 q hq
          rw [e, e']
          exact path_ne (by decide) (by decide) (by decide)
        · obtain ⟨v, e'⟩ := at3 q hq
          rw [e, e']
          exact path_ne (by decide) (by decide) (by decide)
    · intro r hr
      have go : ∃ u j, r.name = .l (u ++ pW j :: w) := by
        rcases List.mem_append.mp hr with hr | hr
        · obtain ⟨u, e⟩ := at1 r hr
          exact ⟨u, 1, e⟩
        · rcases List.mem_append.mp hr with hr | hr
          · obtain ⟨u, e⟩ := at2 r hr
            exact ⟨u, 2, e⟩
          · obtain ⟨u, e⟩ := at3 r hr
            exact ⟨u, 3, e⟩
      obtain ⟨u, j, e⟩ := go
      exact ⟨u ++ [pW j], by simp, by rw [e]; simp⟩
  | .app (.pr o) as, d, w, h => by
    obtain ⟨n, a⟩ := nm_routsL ps as d w 1 h.2 (by have := h.1; omega)
    exact ⟨n, fun r hr => let ⟨u, j, _, _, e⟩ := a r hr; ⟨u ++ [pW j], by simp, by rw [e]; simp⟩⟩
  | .app (.fn f) as, d, w, h => by
    obtain ⟨n, a⟩ := nm_routsL ps as d w 1 h.2.1 (by have := h.1; omega)
    exact ⟨n, fun r hr => let ⟨u, j, _, _, e⟩ := a r hr; ⟨u ++ [pW j], by simp, by rw [e]; simp⟩⟩
theorem nm_routsL (ps : List Str) : ∀ (es : List Ex) (d w : List Val) (i : Nat), Ex.oks ps es → i + es.length ≤ 13 → NmOkL (routsL ps es d w i) w i
  | [], _, _, _, _, _ => ⟨List.nodup_nil, fun r h => nomatch h⟩
  | e :: es, d, w, i, h, hi => by
    simp only [List.length_cons] at hi
    have h1 := nm_routs ps e d (pW i :: w) h.1
    have h2 := nm_routsL ps es (aW :: d) w (i + 1) h.2 (by omega)
    refine ⟨nm_join h1.1 h2.1 fun r hr q hq => ?_, fun r hr => ?_⟩
    · obtain ⟨u, _, e1⟩ := h1.2 r hr
      obtain ⟨v, j, hj, hj2, e2⟩ := h2.2 q hq
      rw [e1, e2]
      exact path_ne (by omega) hj2 (by omega)
    · rcases List.mem_append.mp hr with hr | hr
      · obtain ⟨u, _, e1⟩ := h1.2 r hr
        exact ⟨u, i, Nat.le_refl _, by omega, e1⟩
      · obtain ⟨v, j, hj, hj2, e2⟩ := h2.2 r hr
        exact ⟨v, j, by omega, hj2, e2⟩
end
theorem nm_toM : ∀ q : Prog, (∀ f ∈ q, f.body.ok f.ps) → (q.map Fn.name).Nodup → ((toM q).map Rt.name).Nodup ∧ ∀ r ∈ toM q, ∃ f ∈ q, r.name = .w f.name ∨ ∃ u, r.name = .l (u ++ [.w f.name])
  | [], _, _ => ⟨List.nodup_nil, fun r h => nomatch h⟩
  | f :: q, ok, nd => by
    rw [List.map_cons, List.nodup_cons] at nd
    have ih := nm_toM q (fun g hg => ok g (List.mem_cons_of_mem _ hg)) nd.2
    have hf := nm_routs f.ps f.body [] [.w f.name] (ok f List.mem_cons_self)
    have at1 : ∀ r ∈ f.toM, r.name = .w f.name ∨ ∃ u, r.name = .l (u ++ [.w f.name]) := fun r hr => by
      rcases List.mem_cons.mp hr with rfl | hr
      · exact .inl rfl
      · obtain ⟨u, _, e⟩ := hf.2 r hr
        exact .inr ⟨u, e⟩
    have n1 : (f.toM.map Rt.name).Nodup := by
      unfold Fn.toM
      rw [List.map_cons, List.nodup_cons]
      refine ⟨fun hm => ?_, hf.1⟩
      obtain ⟨r, hr, e⟩ := List.mem_map.mp hm
      obtain ⟨u, _, e2⟩ := hf.2 r hr
      rw [e2] at e
      cases e
    refine ⟨nm_join n1 ih.1 fun r hr s hs e => ?_, fun r hr => ?_⟩
    · obtain ⟨g, hg, e2⟩ := ih.2 s hs
      have ne : f.name ≠ g.name := fun z => nd.1 (by rw [z]; exact List.mem_map.mpr ⟨g, hg, rfl⟩)
      rcases at1 r hr with e1 | ⟨u, e1⟩ <;> rcases e2 with e2 | ⟨v, e2⟩ <;> rw [e1, e2] at e
      · injection e with e
        exact ne e
      · cases e
      · cases e
      · injection e with e
        have e4 := (List.append_inj' e rfl).2
        injection e4 with e5
        injection e5 with e6
        exact ne e6
    · rcases List.mem_append.mp hr with hr | hr
      · exact ⟨f, List.mem_cons_self, at1 r hr⟩
      · obtain ⟨g, hg, e⟩ := ih.2 r hr
        exact ⟨g, List.mem_cons_of_mem _ hg, e⟩
theorem findR_mem : ∀ {m : Mac}, (m.map Rt.name).Nodup → ∀ r ∈ m, findR m r.name = some r.code
  | [], _, r, h => nomatch h
  | q :: m, nd, r, h => by
    rw [List.map_cons, List.nodup_cons] at nd
    unfold findR
    rcases List.mem_cons.mp h with rfl | h
    · rw [if_pos rfl]
    · rw [if_neg fun z => nd.1 (by rw [z]; exact List.mem_map.mpr ⟨r, h, rfl⟩)]
      exact findR_mem nd.2 r h
theorem find_mem : ∀ {q : Prog} {x : Str} {d : Fn}, find q x = some d → d ∈ q ∧ d.name = x
  | [], _, _, h => nomatch h
  | f :: q, x, d, h => by
    unfold find at h
    split at h
    · rename_i e
      cases h
      exact ⟨List.mem_cons_self, e⟩
    · obtain ⟨a, b⟩ := find_mem h
      exact ⟨List.mem_cons_of_mem _ a, b⟩
theorem mem_toM : ∀ {q : Prog} {f : Fn}, f ∈ q → ∀ r ∈ f.toM, r ∈ toM q
  | [], _, h, _, _ => nomatch h
  | g :: q, f, h, r, hr => by
    unfold toM
    rcases List.mem_cons.mp h with rfl | h
    · exact List.mem_append_left _ hr
    · exact List.mem_append_right _ (mem_toM h r hr)
theorem holds_toM {q : Prog} (ok : ∀ f ∈ q, f.body.ok f.ps) (nd : (q.map Fn.name).Nodup) : Holds (toM q) q where
  fn := fun f d h => by
    obtain ⟨hm, hn⟩ := find_mem h
    have n := (nm_toM q ok nd).1
    refine ⟨?_, fun r hr => findR_mem n r (mem_toM hm r (List.mem_cons_of_mem _ hr))⟩
    have := findR_mem n ⟨.w d.name, d.code⟩ (mem_toM hm _ List.mem_cons_self)
    rw [← hn]
    exact this
/-- the run from the first function on -/
theorem run_first {q : Prog} {f : Fn} {ws : List Val} {v : Val} {n : Nat} (ok : ∀ g ∈ q, g.body.ok g.ps) (nd : (q.map Fn.name).Nodup) (hf : f ∈ q) (hl : f.ps.length = ws.length) (h : Ev q f.ps ws f.body v n) :
    ∃ k, Reach (toM q) [f.code] ws.reverse (n + 1) k [] [v] := by
  have H := holds_toM ok nd
  have nn := (nm_toM q ok nd).1
  obtain ⟨k, r⟩ := comp H h hl [] [.w f.name] [] [.slide (f.ps.map .w)] [] [] (fun r hr => findR_mem nn r (mem_toM hf r (List.mem_cons_of_mem _ hr))) rfl
  have r2 : Reach (toM q) [[.slide (f.ps.map .w)]] (v :: (ws.reverse ++ [])) 1 2 [] [v] := .slide (by simp [hl]) (.pop .refl)
  have r3 := r.trans r2
  simp only [List.nil_append, List.append_nil] at r3
  exact ⟨_, r3⟩
end Og

set_option Elab.async false
set_option linter.all false
set_option maxRecDepth 100000
set_option maxHeartbeats 1000000
/-! OgGood: the programs are good; the steps, the depth have a bound. Plain Lean. -/
namespace Og
open PySem

mutual
def Ex.okb (ps : List Str) : Ex → Bool
  | .var x => decide (x ∈ ps)
  | .quo _ => true
  | .ite a b c => a.okb ps && (b.okb ps && c.okb ps)
  | .app (.pr _) as => decide (as.length ≤ 12) && Ex.okbs ps as
  | .app (.fn f) as => decide (as.length ≤ 12) && (Ex.okbs ps as && (decide (Val.w f ∉ prN) && (decide (f ≠ "quote") && decide (f ≠ "if"))))
def Ex.okbs (ps : List Str) : List Ex → Bool
  | [] => true
  | e :: es => e.okb ps && Ex.okbs ps es
end
mutual
theorem okb_ok (ps : List Str) : ∀ e : Ex, e.okb ps = true → e.ok ps
  | .var x, h => by simpa [Ex.okb, Ex.ok] using h
  | .quo _, _ => trivial
  | .ite a b c, h => by
    simp only [Ex.okb, Bool.and_eq_true] at h
    exact ⟨okb_ok ps a h.1, okb_ok ps b h.2.1, okb_ok ps c h.2.2⟩
  | .app (.pr _) as, h => by
    simp only [Ex.okb, Bool.and_eq_true, decide_eq_true_eq] at h
    exact ⟨h.1, okbs_ok ps as h.2⟩
  | .app (.fn f) as, h => by
    simp only [Ex.okb, Bool.and_eq_true, decide_eq_true_eq] at h
    exact ⟨h.1, okbs_ok ps as h.2.1, h.2.2.1, h.2.2.2.1, h.2.2.2.2⟩
theorem okbs_ok (ps : List Str) : ∀ es : List Ex, Ex.okbs ps es = true → Ex.oks ps es
  | [], _ => trivial
  | e :: es, h => by
    simp only [Ex.okbs, Bool.and_eq_true] at h
    exact ⟨okb_ok ps e h.1, okbs_ok ps es h.2⟩
end
theorem tr_ok : ∀ f ∈ tr, f.body.ok f.ps := by
  have h : (tr.all fun f => f.body.okb f.ps) = true := by decide +kernel
  intro f hf
  exact okb_ok _ _ (List.all_eq_true.mp h f hf)
theorem oks_var {ps l : List Str} (h : ∀ x ∈ l, x ∈ ps) : Ex.oks ps (l.map .var) := by
  induction l with
  | nil => trivial
  | cons x l ih => exact ⟨h x List.mem_cons_self, ih fun y hy => h y (List.mem_cons_of_mem _ hy)⟩
/-- a made name is no special word -/
theorem fN_ok : ∀ i < 20, Val.w (fN i) ∉ prN ∧ fN i ≠ "quote" ∧ fN i ≠ "if" := by decide +kernel
theorem b2_le (t : Bool) : b2 t ≤ 1 := by cases t <;> decide
theorem qq_ok (k : Nat) (hk : k ≤ 2) (t : Bool) (B : Ex) (ok : B.ok (pk k)) : ∀ f ∈ qq k t B, f.body.ok f.ps := by
  intro f hf
  have hb := b2_le t
  have lx : ((xs k).map Ex.var).length ≤ 2 := by rw [List.length_map, xs_len]; exact hk
  simp only [qq, rr, List.mem_cons, List.mem_append] at hf
  rcases hf with rfl | rfl | rfl | hf | hf
  · obtain ⟨n1, n2, n3⟩ := fN_ok (16 + b2 t) (by omega)
    exact ⟨by simp only [List.length_cons]; omega, ⟨trivial, oks_var fun x hx => hx⟩, n1, n2, n3⟩
  · obtain ⟨n1, n2, n3⟩ := fN_ok 0 (by omega)
    refine ⟨by simp only [List.length_cons]; omega, ⟨?_, oks_var fun x hx => List.mem_cons_of_mem _ hx⟩, n1, n2, n3⟩
    simp [tree, jn, listed, Ex.ok, Ex.oks]
  · obtain ⟨n1, n2, n3⟩ := fN_ok 15 (by omega)
    obtain ⟨m1, m2, m3⟩ := fN_ok 1 (by omega)
    refine ⟨by simp only [List.length_cons]; omega, ⟨⟨by simp, by simp [Ex.oks, Ex.ok, G0], m1, m2, m3⟩, oks_var fun x hx => List.mem_cons_of_mem _ hx⟩, n1, n2, n3⟩
  · exact tr_ok f hf
  · cases t with
    | false =>
      simp only [P15, List.mem_singleton] at hf
      subst hf
      exact ok
    | true =>
      simp only [P15, List.mem_cons, List.not_mem_nil, or_false] at hf
      rcases hf with rfl | rfl
      · obtain ⟨n1, n2, n3⟩ := fN_ok 16 (by omega)
        exact ⟨by simp, ⟨ok, by simp [pk, Ex.ok], trivial⟩, n1, n2, n3⟩
      · exact okb_ok _ _ (by decide +kernel)
theorem qq_names (k : Nat) (t : Bool) (B : Ex) : (qq k t B).map Fn.name = fN (17 + b2 t) :: fN (16 + b2 t) :: (List.range (16 + b2 t)).map fN := by cases t <;> kernel_rfl
theorem qq_nodup (k : Nat) (t : Bool) (B : Ex) : ((qq k t B).map Fn.name).Nodup := by
  rw [qq_names]
  cases t <;> decide +kernel

/-! ### the steps -/
def cTr : Nat := cP tr
theorem cP_append : ∀ (a b : Prog), cP (a ++ b) + 10 = cP a + cP b
  | [], b => by simp [cP]; omega
  | f :: a, b => by
    have := cP_append a b
    simp only [List.cons_append, cP]
    omega
theorem cTr_le : cP tr ≤ 120000 := by decide +kernel
mutual
/-- costs grow with the number of parameters -/
theorem cO_le {k k' : Nat} (h : k ≤ k') : ∀ e : Ex, cO k e ≤ cO k' e
  | .var _ => by simp only [cO]; omega
  | .quo _ => Nat.le_refl _
  | .ite a _ _ => by have := cO_le h a; simp only [cO]; omega
  | .app _ as => by have := cOs_le h as; simp only [cO]; omega
theorem cOs_le {k k' : Nat} (h : k ≤ k') : ∀ es : List Ex, cOs k es ≤ cOs k' es
  | [] => Nat.le_refl _
  | e :: es => by have := cO_le h e; have := cOs_le h es; simp only [cOs]; omega
end
mutual
theorem cR_le {k k' : Nat} (h : k ≤ k') : ∀ e : Ex, cR k e ≤ cR k' e
  | .var _ => Nat.le_refl _
  | .quo _ => Nat.le_refl _
  | .ite a b c => by have := cR_le h a; have := cR_le h b; have := cR_le h c; have := cO_le h b; have := cO_le h c; simp only [cR]; omega
  | .app _ as => by have := cRs_le h as; simp only [cR]; omega
theorem cRs_le {k k' : Nat} (h : k ≤ k') : ∀ es : List Ex, cRs k es ≤ cRs k' es
  | [] => Nat.le_refl _
  | e :: es => by have := cR_le h e; have := cRs_le h es; simp only [cRs]; omega
end
/-- an expression of so many ifs and parts at most, one in another -/
structure Small (b : Nat) (e : Ex) : Prop where
  n : nN e ≤ b
  o : nO e ≤ b
  r : nR e ≤ b
  cO : cO 3 e ≤ 1000 * b
  cR : cR 3 e ≤ 3000 * b
theorem small_le {b c : Nat} {e : Ex} (h : Small b e) (l : b ≤ c) : Small c e := ⟨by have := h.n; omega, by have := h.o; omega, by have := h.r; omega, by have := h.cO; omega, by have := h.cR; omega⟩
theorem small_var (x : Str) : Small 1 (.var x) := ⟨by simp [nN], by simp [nO], by simp [nR], by simp [Og.cO], by simp [Og.cR]⟩
theorem small_quo (v : Val) : Small 1 (.quo v) := ⟨by simp [nN], by simp [nO], by simp [nR], by simp [Og.cO], by simp [Og.cR]⟩
theorem small_ite {b : Nat} {x y z : Ex} (hx : Small b x) (hy : Small b y) (hz : Small b z) (h : 1 ≤ b) : Small (4 * b + 2) (.ite x y z) := by
  obtain ⟨a1, a2, a3, a4, a5⟩ := hx
  obtain ⟨b1, b2, b3, b4, b5⟩ := hy
  obtain ⟨c1, c2, c3, c4, c5⟩ := hz
  constructor <;> simp only [nN, nO, nR, Og.cO, Og.cR] <;> omega
theorem small_1 {b : Nat} {h : Hd} {x : Ex} (hx : Small b x) (h1 : 1 ≤ b) : Small (4 * b + 2) (.app h [x]) := by
  obtain ⟨a1, a2, a3, a4, a5⟩ := hx
  constructor <;> simp only [nN, nNs, nO, nOs, nR, nRs, Og.cO, cOs, Og.cR, cRs] <;> omega
theorem small_2 {b : Nat} {h : Hd} {x y : Ex} (hx : Small b x) (hy : Small b y) (h1 : 1 ≤ b) : Small (4 * b + 2) (.app h [x, y]) := by
  obtain ⟨a1, a2, a3, a4, a5⟩ := hx
  obtain ⟨b1, b2, b3, b4, b5⟩ := hy
  constructor <;> simp only [nN, nNs, nO, nOs, nR, nRs, Og.cO, cOs, Og.cR, cRs] <;> omega
theorem cF_le {k : Nat} {f : Fn} (h : f.ps.length ≤ k) : cF f ≤ cO k f.body + cR k f.body + 10 * nO f.body + 110 := by
  have := cO_le h f.body
  have := cR_le h f.body
  unfold cF
  omega
theorem cP_P15 (k : Nat) (hk : k ≤ 2) (t : Bool) (B : Ex) (h : Small 26 B) : cP (P15 k t B) ≤ 200000 := by
  have lp : (pk k).length ≤ 3 := by simp [pk]; omega
  obtain ⟨h1, h2, h3, h4, h5⟩ := h
  cases t with
  | false =>
    have c1 := cF_le (f := ⟨fN 15, pk k, B⟩) lp
    simp only [P15, cP, nF]
    simp only at c1
    omega
  | true =>
    have c1 := cF_le (f := ⟨fN 15, pk k, .app (.fn (fN 16)) [B, .var "s"]⟩) lp
    have c2 : cF ⟨fN 16, ["a", "b"], two.body⟩ ≤ 5000 := by decide +kernel
    simp only [P15, cP, nF]
    simp only [nO, nOs, nR, nRs, Og.cO, cOs, Og.cR, cRs] at c1 ⊢
    have c3 : nR two.body = 0 := by decide +kernel
    omega
theorem vars_cost (j : Nat) (l : List Str) : cOs j (l.map .var) = l.length * (20 * j + 120) + 20 ∧ nOs (l.map Ex.var) = l.length ∧ cRs j (l.map .var) = l.length * 80 + 20 ∧ nRs (l.map Ex.var) = 0 := by
  induction l with
  | nil => exact ⟨by simp [cOs], rfl, by simp [cRs], rfl⟩
  | cons x l ih =>
    obtain ⟨h1, h2, h3, h4⟩ := ih
    simp only [List.map_cons, cOs, nOs, cRs, nRs, cO, nO, cR, nR, h1, h2, h3, h4, List.length_cons]
    have e1 : (l.length + 1) * (20 * j + 120) = l.length * (20 * j + 120) + (20 * j + 120) := Nat.succ_mul _ _
    have e2 : (l.length + 1) * 80 = l.length * 80 + 80 := Nat.succ_mul _ _
    rw [e1, e2]
    refine ⟨by omega, by omega, by omega, trivial⟩
theorem cP_head (k : Nat) (hk : k ≤ 2) (t : Bool) (B : Ex) : cP (qq k t B) ≤ cP tr + cP (P15 k t B) + 100000 := by
  have e1 := cP_append tr (P15 k t B)
  obtain ⟨v1, v2, v3, v4⟩ := vars_cost 3 (xs k)
  rw [xs_len] at v1 v2 v3
  have lx := xs_len k
  have ls : (("s" : Str) :: xs k).length ≤ 3 := by rw [List.length_cons, lx]; omega
  have v1' : cOs 3 ((xs k).map .var) ≤ 400 := by rw [v1]; omega
  have f1 := cF_le (k := 3) (f := fillF (fN (16 + b2 t)) (17 + b2 t) (Prog.val (rr k t B)) k) (by show (xs k).length ≤ 3; omega)
  have f2 := cF_le (k := 3) (f := ⟨fN (16 + b2 t), "s" :: xs k, .app (.fn (fN 0)) (tree (fN (16 + b2 t)) (17 + b2 t) k :: (xs k).map .var)⟩) ls
  have f3 := cF_le (k := 3) (f := G0 k) ls
  simp only [fillF, cO, cOs, cR, cRs, nO, nOs, nR, nRs] at f1
  simp only [cO, cOs, cR, cRs, nO, nOs, tree, listed, jn, nR, nRs] at f2
  simp only [G0, cO, cOs, cR, cRs, nO, nOs, nR, nRs] at f3
  have E : cP (qq k t B) = cF (fillF (fN (16 + b2 t)) (17 + b2 t) (Prog.val (rr k t B)) k) + 10 * nF (fillF (fN (16 + b2 t)) (17 + b2 t) (Prog.val (rr k t B)) k) +
      (cF ⟨fN (16 + b2 t), "s" :: xs k, .app (.fn (fN 0)) (tree (fN (16 + b2 t)) (17 + b2 t) k :: (xs k).map .var)⟩ + 10 * nF ⟨fN (16 + b2 t), "s" :: xs k, .app (.fn (fN 0)) (tree (fN (16 + b2 t)) (17 + b2 t) k :: (xs k).map .var)⟩ +
        (cF (G0 k) + 10 * nF (G0 k) + cP (tr ++ P15 k t B) + 30) + 30) + 30 := rfl
  have g1 : nF (fillF (fN (16 + b2 t)) (17 + b2 t) (Prog.val (rr k t B)) k) = 1 := by simp only [nF, fillF, nR, nRs, v4]
  have g2 : nF ⟨fN (16 + b2 t), "s" :: xs k, .app (.fn (fN 0)) (tree (fN (16 + b2 t)) (17 + b2 t) k :: (xs k).map .var)⟩ = 1 := by simp only [nF, tree, listed, jn, nR, nRs, v4]
  have g3 : nF (G0 k) = 1 := by simp only [nF, G0, nR, nRs, v4]
  rw [E, g1, g2, g3]
  have h1 : cF (fillF (fN (16 + b2 t)) (17 + b2 t) (Prog.val (rr k t B)) k) ≤ 20000 := by
    simp only [fillF]
    omega
  have h2 : cF ⟨fN (16 + b2 t), "s" :: xs k, .app (.fn (fN 0)) (tree (fN (16 + b2 t)) (17 + b2 t) k :: (xs k).map .var)⟩ ≤ 20000 := by
    simp only [tree, listed, jn]
    omega
  have h3 : cF (G0 k) ≤ 20000 := by
    simp only [G0]
    omega
  omega
/-- the run of what is made: at most 1,000,000 steps -/
theorem run_qq (k : Nat) (hk : k ≤ 2) (t : Bool) (B : Ex) (hB : B.cf) (ok : B.ok (pk k)) (sm : Small 26 B) (ws : List Val) (hl : ws.length = k) :
    ∃ n j f, (qq k t B).head? = some f ∧ n ≤ 1000000 ∧ Reach (toM (qq k t B)) [f.code] ws.reverse n j [] [pval k t B ((toM (qq k t B)).val :: ws)] := by
  have okq := qq_ok k hk t B ok
  obtain ⟨n, hn, e⟩ := run_ev k hk t B hB ok okq ws hl
  obtain ⟨j, r⟩ := run_first okq (qq_nodup k t B) (f := fillF (fN (16 + b2 t)) (17 + b2 t) (Prog.val (rr k t B)) k) List.mem_cons_self (by simp [fillF, xs_len, hl]) e
  refine ⟨n + 1, j, _, rfl, ?_, r⟩
  have c1 := cP_head k hk t B
  have c2 := cP_P15 k hk t B sm
  have c3 := cTr_le
  have c4 := sm.n
  omega
end Og

set_option Elab.async false
set_option linter.all false
set_option maxRecDepth 100000
set_option maxHeartbeats 4000000
/-! OgDict: a dict whose keys are texts and pairs of ints, both in one (the library's rules take one kind of key alone). -/
namespace Og
open PySem PySem.Spec PyProof.Rows

/-- a key: a text, or a pair of ints -/
abbrev MK := Sum Str (Int × Int)
section
variable (P : Program) (w : World)
def isM (h : Heap) : MK → Value → Prop
  | .inl x, v => ∃ t, v = .str x t
  | .inr p, v => ∃ a, v = .ref a ∧ IsTupleKey (intKind P w) h [p.1, p.2] a
def hashM : MK → Int
  | .inl x => hashStr w x
  | .inr p => tupleKeyHash (intKind P w) [p.1, p.2]
def drawsM : MK → Nat
  | .inl _ => 1
  | .inr _ => 3
def entM (x : MK × Value × Value) : DictEntry := ⟨hashM P w x.1, x.2.1, x.2.2⟩
/-- at d a dict of these entries -/
def DictM (h : Heap) (d : Addr) (xs : List (MK × Value × Value)) : Prop :=
  ∃ o es ep, h.get? d = some o ∧ o.ExactDict ∧ o.data = .dict es ep ∧ es.toList = xs.map (entM P w) ∧ (∀ x ∈ xs, isM P w h x.1 x.2.1) ∧ (xs.map (·.1)).Nodup
end
section
variable {P : Program} {w : World} {A : Around} {E : Value → Shared → Prop} {s : Shared} {h h' : Heap} {k k' : MK} {u v : Value}
theorem isM_inj (a : isM P w h k v) (b : isM P w h k' v) : k = k' := by
  cases k with
  | inl x =>
    obtain ⟨t, rfl⟩ := a
    cases k' with
    | inl y =>
      obtain ⟨t', e⟩ := b
      injection e with e _
      rw [e]
    | inr q =>
      obtain ⟨_, e, _⟩ := b
      cases e
  | inr p =>
    obtain ⟨a, rfl, ha⟩ := a
    cases k' with
    | inl y =>
      obtain ⟨_, e⟩ := b
      cases e
    | inr q =>
      obtain ⟨a', e, hb⟩ := b
      injection e with e
      subst e
      have z := ha.inj hb
      injection z with z1 z2
      injection z2 with z2 _
      rw [Sum.inr.injEq, Prod.ext_iff]
      exact ⟨z1, z2⟩
theorem isM_kept (a : isM P w h k v) (g : ∀ b o vs n, h.get? b = some o → o.data = .seq vs n → h'.get? b = some o) : isM P w h' k v := by
  cases k with
  | inl x => exact a
  | inr p =>
    obtain ⟨b, rfl, o, its, n, e, c, dt, r⟩ := a
    exact ⟨b, rfl, o, its, n, g b o its n e dt, c, dt, r⟩
theorem isM_tuple {p : Int × Int} (a : isM P w h (.inr p) v) : ∃ b, v = .ref b ∧ IsTupleKey (intKind P w) h [p.1, p.2] b ∧ ∃ its, h.IsTuple b its := by
  obtain ⟨b, e, o, its, n, e1, c, dt, r⟩ := a
  exact ⟨b, e, ⟨o, its, n, e1, c, dt, r⟩, its, o, e1, c, n, dt⟩
theorem hash_m {Q : Int → Shared → Prop} (hu : A.units < cLine) (a : isM P w s.heap k v) (q : Q (hashM P w k) { s with toks := s.toks + drawsM k }) : wpAny (model P w) A (pyHash v) Q E s := by
  cases k with
  | inl x =>
    obtain ⟨t, rfl⟩ := a
    exact wpAny_pyHash_str q
  | inr p =>
    obtain ⟨b, rfl, hb⟩ := a
    exact wpAny_pyHash_tuple hu hb q
theorem eq_m {Q : Bool → Shared → Prop} (hu : A.units < cLine) (a : isM P w s.heap k u) (b : isM P w s.heap k' v) (q : Q (decide (k = k')) s) : wpAny (model P w) A (eqBool u v) Q E s := by
  cases k with
  | inl x =>
    obtain ⟨t, rfl⟩ := a
    cases k' with
    | inl y =>
      obtain ⟨t', rfl⟩ := b
      refine wpAny_eqBool_str ?_
      have e : decide ((Sum.inl x : MK) = .inl y) = decide (x = y) := decide_eq_decide.mpr (by simp)
      rw [← e]
      exact q
    | inr p =>
      obtain ⟨c, rfl, _, its, hc⟩ := isM_tuple b
      have e : decide ((Sum.inl x : MK) = .inr p) = false := decide_eq_false (fun z => nomatch z)
      rw [e] at q
      exact SeqAt.EqAt.str_tuple x t hc hu _ _ _ _ q
  | inr p =>
    cases k' with
    | inl y =>
      obtain ⟨t', rfl⟩ := b
      obtain ⟨c, rfl, _, its, hc⟩ := isM_tuple a
      have e : decide ((Sum.inr p : MK) = .inl y) = false := decide_eq_false (fun z => nomatch z)
      rw [e] at q
      exact SeqAt.EqAt.tuple_str y t' hc hu _ _ _ _ q
    | inr p' =>
      obtain ⟨c, rfl, hc⟩ := a
      obtain ⟨c', rfl, hc'⟩ := b
      refine wpAny_eqBool_tuple hu hc hc' ?_
      have e : decide ((Sum.inr p : MK) = .inr p') = decide ([p.1, p.2] = [p'.1, p'.2]) := decide_eq_decide.mpr (by simp [Prod.ext_iff])
      rw [← e]
      exact q
theorem quiet_m {Q : Bool → Shared → Prop} (a : isM P w s.heap k v) (q : Q true s) : wpAny (model P w) A (eqIsQuiet 8 v) Q E s := by
  cases k with
  | inl x =>
    obtain ⟨t, rfl⟩ := a
    exact wpAny_of_eq (eqIsQuiet_byValue 8 rfl) q
  | inr p =>
    obtain ⟨b, rfl, hb⟩ := a
    exact wpAny_eqIsQuiet_tuple hb q
theorem tells_m {st : List Value} {Q : Bool → Shared → Prop} (a : isM P w s.heap k v) (hs : ∀ x ∈ st, ∃ k', isM P w s.heap k' x) (q : Q false s) : wpAny (model P w) A (tableMayTell v st) Q E s := by
  unfold tableMayTell
  split
  · exact wpAny_pure q
  refine wpAny_bind (quiet_m a ?_)
  simp only [Bool.not_true, Bool.false_eq_true, if_false]
  refine wpAny_bind ?_
  refine wpAny_forIn_list _ (fun more r s' => s' = s ∧ r = (none, ()) ∧ ∀ x ∈ more, ∃ k', isM P w s.heap k' x) _ ?_ ?_ _ _ ⟨rfl, rfl, hs⟩
  · rintro x more r s' ⟨rfl, rfl, hr⟩
    obtain ⟨k', hx⟩ := hr x List.mem_cons_self
    refine wpAny_bind (quiet_m hx ?_)
    simp only [Bool.not_true, Bool.false_eq_true, if_false]
    exact wpAny_pure ⟨rfl, rfl, fun y hy => hr y (List.mem_cons_of_mem _ hy)⟩
  · rintro r s' ⟨rfl, rfl, _⟩
    exact wpAny_pure q
end

/-! ### a look for a key -/
section
variable {P : Program} {w : World} {A : Around} {E : Value → Shared → Prop} {s : Shared} {d : Addr} {o : Obj} {es : Array DictEntry} {ep : Nat} {xs : List (MK × Value × Value)} {k : MK} {key : Value}
/-- not among the first i -/
def Miss (xs : List (MK × Value × Value)) (k : MK) (i : Nat) : Prop := ∀ (j : Nat) (p : Value × Value), j < i → xs[j]? ≠ some (k, p)
theorem ent_at (he : es.toList = xs.map (entM P w)) (j : Nat) : es[j]? = (xs[j]?).map (entM P w) := by
  rw [← Array.getElem?_toList, he, List.getElem?_map]
theorem ent_size (he : es.toList = xs.map (entM P w)) : es.size = xs.length := by
  rw [← Array.length_toList, he, List.length_map]
/-- a place that is passed over holds another key -/
theorem miss_skip (he : es.toList = xs.map (entM P w)) {i j : Nat} (m : Miss xs k i) (hij : i ≤ j) (sk : ∀ l, i ≤ l → l < j → ((es[l]?.map (·.hash)) == some (hashM P w k)) = false) : Miss xs k j := by
  intro l p hl e
  rcases Nat.lt_or_ge l i with h | h
  · exact m l p h e
  · have := sk l h hl
    rw [ent_at he l, e] at this
    simp [entM] at this
theorem miss_next {k' : MK} {q : Value × Value} {i : Nat} (m : Miss xs k i) (e : xs[i]? = some (k', q)) (hne : ¬ k' = k) : Miss xs k (i + 1) := by
  intro l p hl e'
  rcases Nat.lt_or_ge l i with h | h
  · exact m l p h e'
  · have : l = i := by omega
    subst this
    rw [e] at e'
    injection e' with e'
    injection e' with e'
    exact hne e'
theorem miss_end (he : es.toList = xs.map (entM P w)) (m : Miss xs k es.size) : k ∉ xs.map (·.1) := by
  intro hm
  obtain ⟨x, hx, rfl⟩ := List.mem_map.mp hm
  obtain ⟨j, hj⟩ := List.mem_iff_getElem?.mp hx
  have hl := (List.getElem?_eq_some_iff.mp hj).1
  exact m j x.2 (by rw [ent_size he]; exact hl) hj
theorem one_place (hn : (xs.map (·.1)).Nodup) {i j : Nat} {p q : Value × Value} (hi : xs[i]? = some (k, p)) (hj : xs[j]? = some (k, q)) : i = j := by
  have hi' : (xs.map (·.1))[i]? = some k := by rw [List.getElem?_map, hi]; rfl
  have hj' : (xs.map (·.1))[j]? = some k := by rw [List.getElem?_map, hj]; rfl
  exact (List.getElem?_inj (List.getElem?_eq_some_iff.mp hi').1 hn).mp (hi'.trans hj'.symm)
theorem find_m {Q : Option Nat → Shared → Prop} (hu : A.units < cLine) (hkey : isM P w s.heap k key) (ho : s.heap.get? d = some o) (hd : o.data = .dict es ep) (he : es.toList = xs.map (entM P w))
    (his : ∀ x ∈ xs, isM P w s.heap x.1 x.2.1) (hn : (xs.map (·.1)).Nodup) (hnone : k ∉ xs.map (·.1) → Q none s) (hsome : ∀ (j : Nat) (p : Value × Value), xs[j]? = some (k, p) → Q (some j) s) :
    wpAny (model P w) A (dictFind d key (hashM P w k)) Q E s := by
  have hsz := ent_size he
  have hent : ∀ j, j < es.size → ∃ k' b v, xs[j]? = some (k', b, v) ∧ es[j]? = some ⟨hashM P w k', b, v⟩ ∧ isM P w s.heap k' b := fun j hj => by
    obtain ⟨⟨k', b, v⟩, e⟩ : ∃ y, xs[j]? = some y := ⟨xs[j]'(by rw [← hsz]; exact hj), List.getElem?_eq_getElem _⟩
    exact ⟨k', b, v, e, by rw [ent_at he j, e]; rfl, his _ (List.mem_of_getElem? e)⟩
  have hof : ∀ e ∈ es, ∃ k', isM P w s.heap k' e.key ∧ e.hash = hashM P w k' := fun e hin => by
    have hx : e ∈ xs.map (entM P w) := he ▸ Array.mem_toList_iff.mpr hin
    obtain ⟨x, hm, rfl⟩ := List.mem_map.mp hx
    exact ⟨x.1, his x hm, rfl⟩
  have hst : ∀ v ∈ (placesWithHash es.size (fun i => es[i]?.map (·.hash)) (hashM P w k)).filterMap (fun i => es[i]?.map (·.key)), ∃ k', isM P w s.heap k' v := fun v hv => by
    obtain ⟨i, _, hi⟩ := List.mem_filterMap.mp hv
    cases hei : es[i]? with
    | none => rw [hei] at hi; cases hi
    | some e =>
      rw [hei] at hi
      have ek : e.key = v := by simpa using hi
      obtain ⟨k', hk', _⟩ := hof e (Array.mem_of_getElem? hei)
      exact ⟨k', ek ▸ hk'⟩
  have places0 : placesWithHash es.size (fun i => es[i]?.map (·.hash)) (hashM P w k) = (List.range' 0 (es.size - 0)).filter (fun i => (es[i]?.map (·.hash)) == some (hashM P w k)) := by
    rw [placesWithHash, List.range_eq_range', Nat.sub_zero]
  -- a walk over the places, without a table's word
  have plain : wpAny (model P w) A (dictWalkPlain d key (hashM P w k) es (placesWithHash es.size (fun i => es[i]?.map (·.hash)) (hashM P w k))) Q E s := by
    refine wpAny_bind ?_
    refine wpAny_forIn_list _ (fun more b s' => s' = s ∧ b = (none, ()) ∧ ∃ i, more = (List.range' i (es.size - i)).filter (fun i => (es[i]?.map (·.hash)) == some (hashM P w k)) ∧ i ≤ es.size ∧ Miss xs k i) _ ?_ ?_ _ _
      ⟨rfl, rfl, 0, places0, Nat.zero_le _, fun _ _ z => absurd z (Nat.not_lt_zero _)⟩
    · rintro x more b s' ⟨rfl, rfl, i, hr, hi, hm⟩
      obtain ⟨hix, hxn, hpx, hskip, hmore⟩ := filter_range'_cons _ _ _ _ _ hr.symm
      have hlt : x < es.size := by omega
      have hmore' : more = (List.range' (x + 1) (es.size - (x + 1))).filter (fun i => (es[i]?.map (·.hash)) == some (hashM P w k)) := by rw [hmore]; congr 2; omega
      obtain ⟨k', b, v, hx, hex, hib⟩ := hent x hlt
      have hm' := miss_skip he hm hix hskip
      rw [hex]
      dsimp only
      by_cases hh : (hashM P w k' == hashM P w k) = true
      · rw [if_pos hh]
        refine wpAny_bind (wpAny_dictEpoch ho hd (wpAny_bind (eq_m (k := k') (k' := k) hu hib hkey (wpAny_bind (wpAny_dictEpoch ho hd ?_)))))
        show wpAny _ _ (if (ep != ep) = true then _ else _) _ E _
        rw [if_neg (by simp)]
        by_cases hkk : k' = k
        · rw [decide_eq_true hkk]
          subst hkk
          exact wpAny_bind (wpAny_rule (wpAny_pure (wpAny_pure (hsome x _ hx))))
        · rw [decide_eq_false hkk]
          exact wpAny_bind (wpAny_rule (wpAny_pure ⟨rfl, rfl, x + 1, hmore', hlt, miss_next hm' hx hkk⟩))
      · rw [if_neg hh]
        refine wpAny_pure ⟨rfl, rfl, x + 1, hmore', hlt, miss_next hm' hx fun hkk => ?_⟩
        rw [hkk] at hh; simp at hh
    · rintro b s' ⟨rfl, rfl, i, hr, hi, hm⟩
      have hall : ∀ j, i ≤ j → j < es.size → ((es[j]?.map (·.hash)) == some (hashM P w k)) = false := fun j h1 h2 => by
        have := List.filter_eq_nil_iff.mp hr.symm j (List.mem_range'_1.mpr ⟨h1, by omega⟩)
        simpa using this
      exact wpAny_pure (hnone (miss_end he (miss_skip he hm hi hall)))
  unfold dictFind
  try with_reducible refine wpAny_holding ?_
  refine wpAny_bind (wpAny_dictEntries ho hd ?_)
  -- a text among texts
  have texts : ∀ y t, key = .str y t → (es.all fun e => isExactStrKey e.key) = true → wpAny (model P w) A (foundByValue d key es y) Q E s := by
    rintro y t rfl hstr
    have ek : k = .inl y := isM_inj hkey (k' := .inl y) ⟨t, rfl⟩
    subst ek
    unfold foundByValue
    cases hf : es.findIdx? (fun e => e.key.isStr y) with
    | none =>
      refine wpAny_pure (hnone (miss_end he fun j p hj e => ?_))
      have z := Array.findIdx?_eq_none_iff.mp hf _ (Array.mem_of_getElem? (show es[j]? = some (entM P w (.inl y, p)) by rw [ent_at he j, e]; rfl))
      obtain ⟨t', e2⟩ := his _ (List.mem_of_getElem? e)
      have e3 : (entM P w (.inl y, p)).key = .str y t' := e2
      rw [e3] at z
      simp [Value.isStr] at z
    | some i =>
      obtain ⟨hlt, hi, _⟩ := Array.findIdx?_eq_some_iff_getElem.mp hf
      obtain ⟨k', b, v, hx, hex, hib⟩ := hent i hlt
      have eb : es[i] = ⟨hashM P w k', b, v⟩ := by
        have := Array.getElem?_eq_getElem hlt
        rw [this] at hex
        exact Option.some.inj hex
      have hkk : k' = .inl y := by
        rw [eb] at hi
        refine isM_inj hib (k' := .inl y) ?_
        have hi' : b.isStr y = true := hi
        cases b <;> simp [Value.isStr] at hi'
        exact ⟨_, by rw [hi']⟩
      subst hkk
      simp only [hex]
      refine wpAny_bind (wpAny_dictEpoch ho hd (wpAny_bind (eq_m (k := .inl y) (k' := .inl y) hu hib hkey (wpAny_bind (wpAny_dictEpoch ho hd ?_)))))
      show wpAny _ _ (if (ep != ep) = true then _ else _) _ E _
      rw [if_neg (by simp), decide_eq_true rfl]
      exact wpAny_bind (wpAny_rule (wpAny_pure (hsome i _ hx)))
  have never : ∀ a, key = .ref a → ¬ (es.any fun e => e.key == Value.ref a && e.hash != hashM P w k) = true := by
    rintro a rfl hc
    rw [← Array.any_toList, List.any_eq_true] at hc
    obtain ⟨e, hin, hc⟩ := hc
    obtain ⟨k', hk', eh⟩ := hof e (Array.mem_toList_iff.mp hin)
    simp only [Bool.and_eq_true, beq_iff_eq, bne_iff_ne, ne_eq] at hc
    rw [hc.1] at hk'
    rw [eh, isM_inj hk' hkey] at hc
    exact hc.2 rfl
  have split1 : (∃ y t, key = .str y t) ∨ ∃ a, key = .ref a := by
    cases k with
    | inl y =>
      obtain ⟨t, e⟩ := id hkey
      exact .inl ⟨y, t, e⟩
    | inr p =>
      obtain ⟨a, e, _⟩ := id hkey
      exact .inr ⟨a, e⟩
  rcases split1 with ⟨y, t, rfl⟩ | ⟨a, rfl⟩
  · dsimp only
    by_cases hstr : (es.all fun e => isExactStrKey e.key) = true
    · rw [if_pos hstr]
      exact texts y t rfl hstr
    rw [if_neg hstr]
    by_cases hall : ((Value.str y t :: (placesWithHash es.size (fun i => es[i]?.map (·.hash)) (hashM P w k)).filterMap (fun i => es[i]?.map (·.key))).all carriedByValue) = true
    · rw [if_pos hall]
      exact plain
    rw [if_neg hall]
    by_cases hone : (((placesWithHash es.size (fun i => es[i]?.map (·.hash)) (hashM P w k)).filterMap (fun i => es[i]?.map (·.key))) == [Value.str y t]) = true <;>
    (first | rw [if_pos hone] | rw [if_neg hone]) <;> (first | refine wpAny_bind (wpAny_pure ?_) | refine wpAny_bind (tells_m hkey hst ?_)) <;> (
    rw [if_neg (by simp)]
    refine wpAny_bind ?_
    refine wpAny_forIn_list _ (fun more b s' => s' = s ∧ ∃ i hit, b = (none, hit) ∧ more = (List.range' i (es.size - i)).filter (fun i => (es[i]?.map (·.hash)) == some (hashM P w k)) ∧ i ≤ es.size ∧
        ((hit = none ∧ Miss xs k i) ∨ ∃ j p, hit = some j ∧ j < i ∧ xs[j]? = some (k, p))) _ ?_ ?_ _ _
      ⟨rfl, 0, none, rfl, places0, Nat.zero_le _, .inl ⟨rfl, fun _ _ z => absurd z (Nat.not_lt_zero _)⟩⟩
    · rintro x more b s' ⟨rfl, i, hit, rfl, hr, hi, hH⟩
      obtain ⟨hix, hxn, hpx, hskip, hmore⟩ := filter_range'_cons _ _ _ _ _ hr.symm
      have hlt : x < es.size := by omega
      have hmore' : more = (List.range' (x + 1) (es.size - (x + 1))).filter (fun i => (es[i]?.map (·.hash)) == some (hashM P w k)) := by rw [hmore]; congr 2; omega
      obtain ⟨k', b, v, hx, hex, hib⟩ := hent x hlt
      have stay : ¬ k' = k → ((hit = none ∧ Miss xs k (x + 1)) ∨ ∃ j p, hit = some j ∧ j < x + 1 ∧ xs[j]? = some (k, p)) := fun hne => by
        rcases hH with ⟨h0, hm⟩ | ⟨j, p, h1, hji, hj⟩
        · exact .inl ⟨h0, miss_next (miss_skip he hm hix hskip) hx hne⟩
        · exact .inr ⟨j, p, h1, by omega, hj⟩
      rw [hex]
      dsimp only
      by_cases hh : (hashM P w k' == hashM P w k) = true
      · rw [if_pos hh]
        refine wpAny_bind (wpAny_dictEpoch ho hd (wpAny_bind (eq_m (k := k') (k' := k) hu hib hkey (wpAny_bind (wpAny_dictEpoch ho hd ?_)))))
        show wpAny _ _ (if (ep != ep) = true then _ else _) _ E _
        rw [if_neg (by simp)]
        by_cases hkk : k' = k
        · rw [decide_eq_true hkk]
          subst hkk
          rcases hH with ⟨rfl, _⟩ | ⟨j, p, _, hjx, hj⟩
          · first | rw [if_pos rfl] | skip
            simp only [Option.isSome_none, Bool.false_eq_true, if_false]
            first | refine wpAny_bind (wpAny_pure ?_) | skip
            refine wpAny_bind (wpAny_rule ?_)
            split
            · exact wpAny_pure (wpAny_pure (hsome x _ hx))
            · exact wpAny_pure ⟨rfl, x + 1, some x, rfl, hmore', hlt, .inr ⟨x, _, rfl, Nat.lt_succ_self x, hx⟩⟩
          · exact absurd (one_place hn hj hx) (by omega)
        · rw [decide_eq_false hkk]
          simp only [Bool.false_eq_true, if_false]
          refine wpAny_bind (wpAny_rule ?_)
          first | rw [if_neg (by simp)] | skip
          first
            | exact wpAny_pure ⟨rfl, x + 1, hit, rfl, hmore', hlt, stay hkk⟩
            | exact wpAny_bind (wpAny_pure (wpAny_pure ⟨rfl, x + 1, hit, rfl, hmore', hlt, stay hkk⟩))
      · rw [if_neg hh]
        refine wpAny_pure ⟨rfl, x + 1, hit, rfl, hmore', hlt, stay fun hkk => ?_⟩
        rw [hkk] at hh; simp at hh
    · rintro b s' ⟨rfl, i, hit, rfl, hr, hi, hH⟩
      have hall : ∀ j, i ≤ j → j < es.size → ((es[j]?.map (·.hash)) == some (hashM P w k)) = false := fun j h1 h2 => by
        have := List.filter_eq_nil_iff.mp hr.symm j (List.mem_range'_1.mpr ⟨h1, by omega⟩)
        simpa using this
      rcases hH with ⟨rfl, hm⟩ | ⟨j, p, rfl, _, hj⟩
      · exact wpAny_pure (hnone (miss_end he (miss_skip he hm hi hall)))
      · exact wpAny_pure (hsome j p hj)
    )
  · dsimp only
    rw [if_neg (show ¬ ((Value.ref a :: (placesWithHash es.size (fun i => es[i]?.map (·.hash)) (hashM P w k)).filterMap (fun i => es[i]?.map (·.key))).all carriedByValue) = true by simp [carriedByValue])]
    rw [if_neg (never a rfl)]
    by_cases hone : (((placesWithHash es.size (fun i => es[i]?.map (·.hash)) (hashM P w k)).filterMap (fun i => es[i]?.map (·.key))) == [Value.ref a]) = true <;>
    (first | rw [if_pos hone] | rw [if_neg hone]) <;> (first | refine wpAny_bind (wpAny_pure ?_) | refine wpAny_bind (tells_m hkey hst ?_)) <;> (
    rw [if_neg (by simp)]
    refine wpAny_bind ?_
    refine wpAny_forIn_list _ (fun more b s' => s' = s ∧ ∃ i hit, b = (none, hit) ∧ more = (List.range' i (es.size - i)).filter (fun i => (es[i]?.map (·.hash)) == some (hashM P w k)) ∧ i ≤ es.size ∧
        ((hit = none ∧ Miss xs k i) ∨ ∃ j p, hit = some j ∧ j < i ∧ xs[j]? = some (k, p))) _ ?_ ?_ _ _
      ⟨rfl, 0, none, rfl, places0, Nat.zero_le _, .inl ⟨rfl, fun _ _ z => absurd z (Nat.not_lt_zero _)⟩⟩
    · rintro x more b s' ⟨rfl, i, hit, rfl, hr, hi, hH⟩
      obtain ⟨hix, hxn, hpx, hskip, hmore⟩ := filter_range'_cons _ _ _ _ _ hr.symm
      have hlt : x < es.size := by omega
      have hmore' : more = (List.range' (x + 1) (es.size - (x + 1))).filter (fun i => (es[i]?.map (·.hash)) == some (hashM P w k)) := by rw [hmore]; congr 2; omega
      obtain ⟨k', b, v, hx, hex, hib⟩ := hent x hlt
      have stay : ¬ k' = k → ((hit = none ∧ Miss xs k (x + 1)) ∨ ∃ j p, hit = some j ∧ j < x + 1 ∧ xs[j]? = some (k, p)) := fun hne => by
        rcases hH with ⟨h0, hm⟩ | ⟨j, p, h1, hji, hj⟩
        · exact .inl ⟨h0, miss_next (miss_skip he hm hix hskip) hx hne⟩
        · exact .inr ⟨j, p, h1, by omega, hj⟩
      rw [hex]
      dsimp only
      by_cases hh : (hashM P w k' == hashM P w k) = true
      · rw [if_pos hh]
        refine wpAny_bind (wpAny_dictEpoch ho hd (wpAny_bind (eq_m (k := k') (k' := k) hu hib hkey (wpAny_bind (wpAny_dictEpoch ho hd ?_)))))
        show wpAny _ _ (if (ep != ep) = true then _ else _) _ E _
        rw [if_neg (by simp)]
        by_cases hkk : k' = k
        · rw [decide_eq_true hkk]
          subst hkk
          rcases hH with ⟨rfl, _⟩ | ⟨j, p, _, hjx, hj⟩
          · first | rw [if_pos rfl] | skip
            simp only [Option.isSome_none, Bool.false_eq_true, if_false]
            first | refine wpAny_bind (wpAny_pure ?_) | skip
            refine wpAny_bind (wpAny_rule ?_)
            split
            · exact wpAny_pure (wpAny_pure (hsome x _ hx))
            · exact wpAny_pure ⟨rfl, x + 1, some x, rfl, hmore', hlt, .inr ⟨x, _, rfl, Nat.lt_succ_self x, hx⟩⟩
          · exact absurd (one_place hn hj hx) (by omega)
        · rw [decide_eq_false hkk]
          simp only [Bool.false_eq_true, if_false]
          refine wpAny_bind (wpAny_rule ?_)
          first | rw [if_neg (by simp)] | skip
          first
            | exact wpAny_pure ⟨rfl, x + 1, hit, rfl, hmore', hlt, stay hkk⟩
            | exact wpAny_bind (wpAny_pure (wpAny_pure ⟨rfl, x + 1, hit, rfl, hmore', hlt, stay hkk⟩))
      · rw [if_neg hh]
        refine wpAny_pure ⟨rfl, x + 1, hit, rfl, hmore', hlt, stay fun hkk => ?_⟩
        rw [hkk] at hh; simp at hh
    · rintro b s' ⟨rfl, i, hit, rfl, hr, hi, hH⟩
      have hall : ∀ j, i ≤ j → j < es.size → ((es[j]?.map (·.hash)) == some (hashM P w k)) = false := fun j h1 h2 => by
        have := List.filter_eq_nil_iff.mp hr.symm j (List.mem_range'_1.mpr ⟨h1, by omega⟩)
        simpa using this
      rcases hH with ⟨rfl, hm⟩ | ⟨j, p, rfl, _, hj⟩
      · exact wpAny_pure (hnone (miss_end he (miss_skip he hm hi hall)))
      · exact wpAny_pure (hsome j p hj)
    )
end

/-! ### the operations -/
section
variable {P : Program} {w : World} {A : Around} {E : Value → Shared → Prop} {s : Shared} {d : Addr} {xs : List (MK × Value × Value)} {k : MK} {key : Value}
theorem DictM.typeIs (m : DictM P w s.heap d xs) : s.TypeIs (.ref d) "dict" := let ⟨o, _, _, ho, hc, _⟩ := m; ⟨o, ho, hc.1⟩
def foundM (xs : List (MK × Value × Value)) (k : MK) : Option Value := (xs.find? fun x => decide (x.1 = k)).map (·.2.2)
theorem found_none (h : k ∉ xs.map (·.1)) : foundM xs k = none := by
  unfold foundM
  rw [List.find?_eq_none.mpr]
  · rfl
  · intro x hx e
    exact h (List.mem_map.mpr ⟨x, hx, of_decide_eq_true e⟩)
theorem found_some : ∀ {xs : List (MK × Value × Value)} {j : Nat} {p : Value × Value}, (xs.map (·.1)).Nodup → xs[j]? = some (k, p) → foundM xs k = some p.2
  | [], j, p, _, e => by simp at e
  | x :: xs, 0, p, _, e => by
    simp only [List.getElem?_cons_zero, Option.some.injEq] at e
    subst e
    simp [foundM]
  | x :: xs, j + 1, p, hn, e => by
    rw [List.map_cons, List.nodup_cons] at hn
    simp only [List.getElem?_cons_succ] at e
    have ne : ¬ x.1 = k := fun z => hn.1 (by rw [z]; exact List.mem_map.mpr ⟨_, List.mem_of_getElem? e, rfl⟩)
    have := found_some hn.2 e
    simpa [foundM, List.find?_cons, ne] using this
theorem get_m {Q : Option Value → Shared → Prop} (hu : A.units < cLine) (hk : isM P w s.heap k key) (m : DictM P w s.heap d xs) (q : Q (foundM xs k) { s with toks := s.toks + drawsM k }) : wpAny (model P w) A (dictGet d key) Q E s := by
  obtain ⟨o, es, ep, ho, _, hd, he, his, hn⟩ := m
  unfold dictGet
  try with_reducible refine wpAny_holding ?_
  refine wpAny_bind (hash_m hu hk (wpAny_bind (find_m (s := { s with toks := s.toks + drawsM k }) hu hk ho hd he his hn ?_ ?_)))
  · intro no
    rw [found_none no] at q
    exact wpAny_pure q
  · intro j p hj
    rw [found_some hn hj] at q
    refine wpAny_bind (wpAny_dictEntries (s := { s with toks := s.toks + drawsM k }) ho hd ?_)
    rw [ent_at he j, hj]
    exact wpAny_pure q
theorem contains_m {Q : Bool → Shared → Prop} (hu : A.units + 1 < cLine) (hk : isM P w s.heap k key) (hs : (d == sysModules) = false) (m : DictM P w s.heap d xs) (q : Q (foundM xs k).isSome { s with toks := s.toks + drawsM k }) :
    wpAny (model P w) A (contains (.ref d) key) Q E s := by
  refine wpAny_contains_slot m.typeIs F.slot_dict_contains ?_
  refine call_meetsIn F.slot_dict_contains m.typeIs F.entry_dict_contains (F.args_dict_contains_2 _ _) (S := fun A' R s' => A' = A ∧ s' = s ∧ R (.ok (.ret (.bool (foundM xs k).isSome))) { s with toks := s.toks + drawsM k }) (fun A' R s' hS => ?_) ⟨rfl, rfl, wpAny_truthy_bool q⟩
  obtain ⟨rfl, rfl, hq⟩ := hS
  show wpAny _ _ (dictGet d key >>= _) _ _ _
  refine wpAny_bind (get_m (show A'.in1.units < cLine from hu) hk m ?_)
  cases hf : foundM xs k with
  | some p =>
    rw [hf] at hq
    show wpAny _ _ (ret (.bool true)) _ _ _
    exact wpAny_pure hq
  | none =>
    rw [hf] at hq
    show wpAny _ _ (Builtin.Dict.pendingKey? d key >>= _) _ _ _
    exact wpAny_bind (wpAny_pendingKey_other hs (wpAny_pure hq))
theorem getItem_m {v : Value} {Q : Value → Shared → Prop} (hu : A.units + 1 < cLine) (hk : isM P w s.heap k key) (m : DictM P w s.heap d xs) (hv : foundM xs k = some v) (q : Q v { s with toks := s.toks + drawsM k }) :
    wpAny (model P w) A (getItem (.ref d) key) Q E s := by
  unfold getItem
  try with_reducible refine wpAny_holding ?_
  refine wpAny_bind (wpAny_sequenceKey m.typeIs (by decide) ?_)
  refine wpAny_bind (wpAny_callSpecial?_slot (name := Str.ofString "__getitem__") m.typeIs slot_dict_getitem (wpAny_call_entry slot_dict_getitem m.typeIs entry_dict_getitem ?_ (args_dict_getitem _ _)))
  show wpAny _ _ (dictGet d key >>= _) _ _ s
  refine wpAny_bind (get_m (show A.in1.units < cLine from hu) hk m ?_)
  rw [hv]
  exact wpAny_pure ⟨v, rfl, wpAny_pure q⟩
/-- d[key] = v, the key new -/
theorem set_m {v : Value} {Q : Unit → Shared → Prop} (hu : A.units < cLine) (hk : isM P w s.heap k key) (m : DictM P w s.heap d xs) (no : k ∉ xs.map (·.1)) (hz : xs.length ≤ sizeLine)
    (q : ∀ h', DictM P w h' d (xs ++ [(k, key, v)]) → Heap.SameBut d s.heap h' → Q () { s with heap := h', toks := s.toks + drawsM k }) : wpAny (model P w) A (dictSet d key v) Q E s := by
  obtain ⟨o, es, ep, ho, hc, hd, he, his, hn⟩ := m
  unfold dictSet
  try with_reducible refine wpAny_holding ?_
  refine wpAny_bind (hash_m hu hk ?_)
  unfold dictSetHashed
  try with_reducible refine wpAny_holding ?_
  refine wpAny_bind (find_m (s := { s with toks := s.toks + drawsM k }) hu hk ho hd he his hn ?_ ?_)
  · intro _
    have kept : ∀ {k' : MK} {u : Value}, isM P w s.heap k' u → isM P w (s.heap.update d (Obj.mapDictKeys fun es => es.push ⟨hashM P w k, key, v⟩)) k' u := fun a =>
      isM_kept a fun b ob vs n e dt => ((Heap.SameBut.update ..).2 b (fun z => by
        subst z
        rw [ho] at e
        cases e
        rw [hd] at dt
        cases dt)).trans e
    refine wpAny_bind (wpAny_rule (wpAny_updateDictKeys (hz := by have e := ent_size he; omega) (s := { s with toks := s.toks + drawsM k }) ho hd (q _ ⟨_, _, ep + 1, Heap.get?_update_self _ ho (Obj.isFreed_of_dict (Obj.data_mapDictKeys hd _)),
      hc.mapDictKeys _, Obj.data_mapDictKeys hd _, ?_, ?_, ?_⟩ (Heap.SameBut.update ..))))
    · simp [he, entM]
    · intro x hx
      rcases List.mem_append.mp hx with hx | hx
      · exact kept (his x hx)
      · simp only [List.mem_singleton] at hx
        subst hx
        exact kept hk
    · rw [List.map_append, List.nodup_append]
      refine ⟨hn, by simp, fun x hx y hy z => ?_⟩
      simp only [List.map_cons, List.map_nil, List.mem_singleton] at hy
      exact no (by rw [← hy, ← z]; exact hx)
  · intro j p hj
    exact absurd (List.mem_map.mpr ⟨_, List.mem_of_getElem? hj, rfl⟩) no
theorem setItem_m {v : Value} {Q : Unit → Shared → Prop} (hu : A.units + 1 < cLine) (hk : isM P w s.heap k key) (m : DictM P w s.heap d xs) (no : k ∉ xs.map (·.1)) (hz : xs.length ≤ sizeLine)
    (q : ∀ h', DictM P w h' d (xs ++ [(k, key, v)]) → Heap.SameBut d s.heap h' → Q () { s with heap := h', toks := s.toks + drawsM k }) : wpAny (model P w) A (setItem (.ref d) key v) Q E s := by
  unfold setItem
  try with_reducible refine wpAny_holding ?_
  refine wpAny_bind (wpAny_sequenceKey m.typeIs (by decide) ?_)
  refine wpAny_bind (wpAny_callSpecial?_slot (name := Str.ofString "__setitem__") m.typeIs slot_dict_setitem (wpAny_call_entry slot_dict_setitem m.typeIs entry_dict_setitem ?_ (args_dict_setitem _ _ _)))
  show wpAny _ _ (Builtin.Dict.notOrdered "__setitem__" ⟨[.ref d, key, v], []⟩ >>= _) _ _ s
  refine wpAny_bind (wpAny_notOrdered_dict m.typeIs ?_)
  show wpAny _ _ (dictSet d key v >>= _) _ _ s
  exact wpAny_bind (set_m (show A.in1.units < cLine from hu) hk m no hz fun h' m' hs' => wpAny_pure ⟨.none, rfl, wpAny_pure (q h' m' hs')⟩)
end

/-! ### over the layer -/
open L2
/-- a key as it lies in the heap: a text, or the pair at an address -/
abbrev MA := Sum Str (Addr × Int × Int)
def MA.key : MA → MK
  | .inl x => .inl x
  | .inr p => .inr (p.2.1, p.2.2)
def MA.v : MA → V
  | .inl x => .str x
  | .inr p => .ref p.1
/-- an entry, raw -/
def EntR (P : Program) (w : World) (p : MA × V) (e : DictEntry) : Prop := e.hash = hashM P w p.1.key ∧ RelV p.1.v e.key ∧ RelV p.2 e.val
def phiM (P : Program) (w : World) (d : Addr) (kvs : List (MA × V)) (h : Heap) : Prop :=
  (d == sysModules) = false ∧ kvs.length ≤ sizeLine ∧ (kvs.map (·.1.key)).Nodup ∧ ∃ o es ep, h.get? d = some o ∧ o.ExactDict ∧ o.data = .dict es ep ∧ Paired (EntR P w) kvs es.toList
def MO (P : Program) (w : World) (d : Addr) (kvs : List (MA × V)) : HO := .ext (phiM P w d kvs)
/-- the pairs stand -/
def Pairs2 (H : Hp) (kvs : List (MA × V)) : Prop := ∀ b i j v, (Sum.inr (b, i, j), v) ∈ kvs → H b = some (.tup [.int i, .int j])
structure NumD (P : Program) (w : World) (H : Hp) (d : Addr) (kvs : List (MA × V)) : Prop where
  at_ : H d = some (MO P w d kvs)
  two : Pairs2 H kvs
/-- a key that may be asked for -/
def KeyAt (H : Hp) (a : MA) : Prop := ∀ p, a = .inr p → H p.1 = some (.tup [.int p.2.1, .int p.2.2])
section
variable {X : Cx} {pins : List (Addr × Obj)} {σ : L2.St} {H : Hp} {s : Shared} {d : Addr} {kvs : List (MA × V)} {a : MA} {u v : Value} {y : V} {A : Around} {E : Value → Shared → Prop}
theorem key_m (I : L2.Inv X pins σ H s) (k : KeyAt H a) (r : RelV a.v u) : isM X.prog X.w s.heap a.key u := by
  cases a with
  | inl x => exact r
  | inr p =>
    obtain ⟨b, i, j⟩ := p
    cases (show u = Value.ref b from r)
    refine ⟨b, rfl, ?_⟩
    obtain ⟨_, its, rv, o, h1, h2, n, h3⟩ := (show ObjOk X.prog X.w H s.heap b (.tup [.int i, .int j]) from I.hok b _ (k _ rfl))
    refine ⟨o, its.toArray, n, h1, h2, h3, ?_⟩
    cases rv with
    | cons r1 rv =>
      cases rv with
      | cons r2 rv =>
        cases rv
        obtain ⟨t1, rfl⟩ := r1
        obtain ⟨t2, rfl⟩ := r2
        exact .cons (by simp [intKind, Value.isInt]) (.cons (by simp [intKind, Value.isInt]) .nil)
/-- the entries as values -/
theorem raw_m : ∀ {kvs : List (MA × V)} {es : List DictEntry}, Paired (EntR X.prog X.w) kvs es → (∀ p ∈ kvs, KeyAt H p.1) → L2.Inv X pins σ H s →
    ∃ xs : List (MK × Value × Value), es = xs.map (entM X.prog X.w) ∧ xs.map (·.1) = kvs.map (·.1.key) ∧ (∀ x ∈ xs, isM X.prog X.w s.heap x.1 x.2.1) ∧ Paired (fun (p : MA × V) x => RelV p.2 x.2.2) kvs xs
  | [], _, .nil, _, _ => ⟨[], rfl, rfl, (fun _ h => nomatch h), .nil⟩
  | p :: kvs, _, .cons (b := e) ⟨r1, r2, r3⟩ t, hk, I => by
    obtain ⟨xs, e1, e2, e3, e4⟩ := raw_m t (fun q hq => hk q (List.mem_cons_of_mem _ hq)) I
    refine ⟨(p.1.key, e.key, e.val) :: xs, ?_, ?_, ?_, .cons r3 e4⟩
    · rw [List.map_cons, ← e1]
      obtain ⟨h, k, v⟩ := e
      simp only at r1
      rw [r1]
      rfl
    · rw [List.map_cons, List.map_cons, e2]
    · intro x hx
      rcases List.mem_cons.mp hx with rfl | hx
      · exact key_m I (hk p List.mem_cons_self) r2
      · exact e3 x hx
theorem dict_m (I : L2.Inv X pins σ H s) (D : NumD X.prog X.w H d kvs) : (d == sysModules) = false ∧ kvs.length ≤ sizeLine ∧
    ∃ xs : List (MK × Value × Value), DictM X.prog X.w s.heap d xs ∧ xs.map (·.1) = kvs.map (·.1.key) ∧ Paired (fun (p : MA × V) x => RelV p.2 x.2.2) kvs xs := by
  obtain ⟨⟨h1, h2, h3, o, es, ep, e1, e2, e3, e4⟩, _⟩ := (show ObjOk X.prog X.w H s.heap d (MO X.prog X.w d kvs) from I.hok d _ D.at_)
  obtain ⟨xs, f1, f2, f3, f4⟩ := raw_m e4 (fun p hp q eq => by
    obtain ⟨ka, v⟩ := p
    simp only at eq
    subst eq
    obtain ⟨b, i, j⟩ := q
    exact D.two b i j v hp) I
  exact ⟨h1, h2, xs, ⟨o, es, ep, e1, e2, e3, f1, f3, by rw [f2]; exact h3⟩, f2, f4⟩
/-- the value at a key -/
def valM (kvs : List (MA × V)) (k : MK) : Option V := (kvs.find? fun p => decide (p.1.key = k)).map (·.2)
theorem val_m {k : MK} : ∀ {kvs : List (MA × V)} {xs : List (MK × Value × Value)}, xs.map (·.1) = kvs.map (·.1.key) → Paired (fun (p : MA × V) x => RelV p.2 x.2.2) kvs xs → RelO (valM kvs k) (foundM xs k)
  | [], [], _, _ => trivial
  | p :: kvs, x :: xs, e, .cons r t => by
    rw [List.map_cons, List.map_cons] at e
    injection e with e1 e2
    have ih := val_m (k := k) e2 t
    by_cases c : p.1.key = k
    · have c' : x.1 = k := e1.trans c
      have z1 : valM (p :: kvs) k = some p.2 := by simp [valM, c]
      have z2 : ∀ xs, foundM (x :: xs) k = some x.2.2 := fun xs => by simp [foundM, c']
      rw [z1, z2]
      exact r
    · have c' : ¬ x.1 = k := fun z => c (e1.symm.trans z)
      have z1 : valM (p :: kvs) k = valM kvs k := by simp [valM, c]
      have z2 : ∀ xs, foundM (x :: xs) k = foundM xs k := fun xs => by simp [foundM, c']
      rw [z1, z2]
      exact ih
theorem valM_none {k : MK} (h : k ∉ kvs.map (·.1.key)) : valM kvs k = none := by
  unfold valM
  rw [List.find?_eq_none.mpr]
  · rfl
  · intro x hx e
    exact h (List.mem_map.mpr ⟨x, hx, of_decide_eq_true e⟩)
theorem m_in {Q : Value → Shared → Prop} (hu : A.units + 1 < cLine) (I : L2.Inv X pins σ H s) (D : NumD X.prog X.w H d kvs) (k : KeyAt H a) (r : RelV a.v u) (q : ∀ s', L2.Inv X pins σ H s' → Q (.bool (!(valM kvs a.key).isSome)) s') :
    wpAny (model X.prog X.w) A (compareOp .NotIn u (.ref d)) Q E s := by
  obtain ⟨h1, h2, xs, m, e1, e2⟩ := dict_m I D
  show wpAny _ _ (do return .bool (!(← contains (.ref d) u))) Q E s
  refine wpAny_bind (contains_m hu (key_m I k r) h1 m (wpAny_pure ?_))
  have z := (val_m (k := a.key) e1 e2).isSome_eq
  rw [← z]
  exact q _ (I.tok _)
theorem m_get {Q : Value → Shared → Prop} (hu : A.units + 1 < cLine) (I : L2.Inv X pins σ H s) (D : NumD X.prog X.w H d kvs) (k : KeyAt H a) (r : RelV a.v u) (hv : valM kvs a.key = some y) (q : ∀ w' s', L2.Inv X pins σ H s' → RelV y w' → Q w' s') :
    wpAny (model X.prog X.w) A (getItem (.ref d) u) Q E s := by
  obtain ⟨h1, h2, xs, m, e1, e2⟩ := dict_m I D
  have z := val_m (k := a.key) e1 e2
  rw [hv] at z
  cases hf : foundM xs a.key with
  | none => rw [hf] at z; exact z.elim
  | some w' =>
    rw [hf] at z
    exact getItem_m hu (key_m I k r) m hf (q w' _ (I.tok _) z)
theorem m_set {y : V} {Q : Unit → Shared → Prop} (hu : A.units + 1 < cLine) (I : L2.Inv X pins σ H s) (D : NumD X.prog X.w H d kvs) (k : KeyAt H a) (r : RelV a.v u) (ry : RelV y v) (no : a.key ∉ kvs.map (·.1.key)) (hz : kvs.length < sizeLine)
    (q : ∀ s', L2.Inv X pins σ (upd H d (MO X.prog X.w d (kvs ++ [(a, y)]))) s' → Q () s') : wpAny (model X.prog X.w) A (setItem (.ref d) u v) Q E s := by
  obtain ⟨⟨h1, h2, h3, o, es, ep, e1, e2, e3, e4⟩, _⟩ := (show ObjOk X.prog X.w H s.heap d (MO X.prog X.w d kvs) from I.hok d _ D.at_)
  obtain ⟨_, _, xs, m, f1, f2⟩ := dict_m I D
  have hl : xs.length = kvs.length := by
    have := congrArg List.length f1
    simpa using this
  refine setItem_m hu (key_m I k r) m (by rw [f1]; exact no) (by rw [hl]; exact h2) fun h' m' sb => q _ ?_
  obtain ⟨o', es', ep', g1, g2, g3, g4, g5, g6⟩ := m'
  obtain ⟨oo, eso, epo, k1, k2, k3, k4, k5, k6⟩ := m
  rw [e1] at k1
  cases k1
  rw [e3] at k3
  cases k3
  have pr : Paired (EntR X.prog X.w) (kvs ++ [(a, y)]) es'.toList := by
    rw [g4, List.map_append, ← k4]
    exact Paired.snoc e4 ⟨rfl, r, ry⟩
  have nd : ((kvs ++ [(a, y)]).map (·.1.key)).Nodup := by
    rw [List.map_append, List.nodup_append]
    refine ⟨h3, by simp, fun x hx z hz e => ?_⟩
    simp only [List.map_cons, List.map_nil, List.mem_singleton] at hz
    exact no (by rw [← hz, ← e]; exact hx)
  refine d_write I (by rw [D.at_]; exact True.intro) sb ⟨o', g1⟩ ?_
  have ph : phiM X.prog X.w d (kvs ++ [(a, y)]) h' := ⟨h1, by rw [List.length_append]; exact hz, nd, o', es', ep', g1, g2, g3, pr⟩
  refine ⟨ph, ⟨o', g1⟩, fun x1 x2 p1 p2 => ?_⟩
  obtain ⟨c1, c2, c3, c4, c5, c6, c7, c8⟩ := p1
  exact ⟨c1, c2, c3, c4, c5, c6, p2 _ c7, c8⟩
end
section
variable {X : Cx} {o i value : Expr} {pos pos' : Pos} {td ty tv : TE}
def tMNotIn (P : Program) (w : World) (ty td : TE) : TE := fun σ H Q => ty σ H fun y H1 => td σ H1 fun x H2 => ∃ d kvs a, x = .ref d ∧ NumD P w H2 d kvs ∧ KeyAt H2 a ∧ y = a.v ∧ Q (.bl (!(valM kvs a.key).isSome)) H2
def tMGet (P : Program) (w : World) (td ty : TE) : TE := fun σ H Q => td σ H fun x H1 => ty σ H1 fun y H2 => ∃ d kvs a v, x = .ref d ∧ NumD P w H2 d kvs ∧ KeyAt H2 a ∧ y = a.v ∧ valM kvs a.key = some v ∧ Q v H2
def sMPut (P : Program) (w : World) (td ty tv : TE) : TS := fun D σ H => tv σ H fun v H1 => td σ H1 fun x H2 => ty σ H2 fun y H3 => ∃ d kvs a, x = .ref d ∧ NumD P w H3 d kvs ∧ KeyAt H3 a ∧ y = a.v ∧ a.key ∉ kvs.map (·.1.key) ∧ kvs.length < sizeLine ∧ D.nx σ (upd H3 d (MO P w d (kvs ++ [(a, v)])))
theorem pc_mnotin (hu : X.A.units + 1 < cLine) (hi : PE X i ty) (ho : PE X o td) : PC X .NotIn i o (tMNotIn X.prog X.w ty td) := by
  refine ⟨fun pins s σ H Q I h => ?_⟩
  refine thn (hi.run pins s σ H _ I h) fun iv s1 ⟨y, H1, I1, ry, q1⟩ => thn (ho.run pins s1 σ H1 _ I1 q1) fun u s2 ⟨x, H2, I2, rx, d, kvs, a, ex, D, k, ey, q2⟩ => ?_
  subst ex ey
  obtain rfl : u = Value.ref d := rx
  exact m_in hu I2 D k ry fun s3 I3 => ⟨.bl _, H2, I3, rfl, q2⟩
theorem pe_mget (hu : X.A.units + 1 < cLine) (ho : PE X o td) (hi : PE X i ty) (hs : NoSl i) : PE X (.Subscript o i pos) (tMGet X.prog X.w td ty) := by
  refine ⟨fun pins s σ H Q I h => ?_⟩
  refine subD_of PySem.F.slot_dict_getitem.lookup hs (thn (ho.run pins s σ H _ I h) fun u s1 ⟨x, H1, I1, rx, q1⟩ => thn (hi.run pins s1 σ H1 _ I1 q1) fun iv s2 ⟨y, H2, I2, ry, d, kvs, a, v, ex, D, k, ey, hv, q2⟩ => ?_)
  subst ex ey
  obtain rfl : u = Value.ref d := rx
  obtain ⟨_, _, xs, m, _⟩ := dict_m I2 D
  exact ⟨m.typeIs, m_get hu I2 D k ry hv fun w' s3 I3 rw' => ⟨v, H2, I3, rw', q2⟩⟩
theorem ps_mput (hu : X.A.units + 1 < cLine) (ho : PE X o td) (hi : PE X i ty) (hv : PE X value tv) (hs : swapsWith value (some (.Subscript o i pos')) pos.line X.env = pure false) :
    PS X (.Assign [.Subscript o i pos'] value pos) (sMPut X.prog X.w td ty tv) := by
  refine ⟨fun pins s σ H D I h => ?_⟩
  refine wpAny_Assign_Subscript (thn (hv.run pins s σ H _ I h) fun r s1 ⟨v, H1, I1, rv, q1⟩ => thn (ho.run pins s1 σ H1 _ I1 q1) fun u s2 ⟨x, H2, I2, rx, q2⟩ => thn (hi.run pins s2 σ H2 _ I2 q2) fun iv s3 ⟨y, H3, I3, ry, d, kvs, a, ex, M, k, ey, no, hz, q3⟩ => ?_) hs
  subst ex ey
  obtain rfl : u = Value.ref d := rx
  exact m_set hu I3 M k ry rv no hz fun s4 I4 => ⟨σ, _, I4, q3⟩
/-- {} that will hold such keys -/
def tMNew (P : Program) (w : World) : TE := fun _ H Q => ∀ p, H p = none → Q (.ref p) (upd H p (MO P w p []))
theorem pe_mnew : PE X (.Dict [] [] pos) (tMNew X.prog X.w) := ⟨fun pins s σ H Q I h =>
  wpAny_Dict_empty ⟨.ref s.heap.objs.size, _, I.laid (a := s.heap.objs.size) (o := MO X.prog X.w s.heap.objs.size []) (t' := s.toks) (fun _ _ q => Heap.get?_push_of_some _ q) (Nat.le_refl _) (by
    have ph : ∀ o, (s.heap.push { cls := .type "dict", data := .dict #[] }).get? s.heap.objs.size = some o → phiM X.prog X.w s.heap.objs.size [] (s.heap.push { cls := .type "dict", data := .dict #[] }) := fun o e =>
      ⟨beq_eq_false_iff_ne.mpr (Ne.symm (Nat.ne_of_lt I.big)), Nat.zero_le _, List.nodup_nil, _, #[], 0, Heap.get?_push_size _ rfl, ⟨rfl, rfl, rfl⟩, rfl, .nil⟩
    refine ⟨ph _ (Heap.get?_push_size _ rfl), ⟨_, Heap.get?_push_size _ rfl⟩, fun x1 x2 p1 p2 => ?_⟩
    obtain ⟨c1, c2, c3, c4, c5, c6, c7, c8⟩ := p1
    exact ⟨c1, c2, c3, c4, c5, c6, p2 _ c7, c8⟩), rfl, h _ (I.hok.fresh (Nat.le_refl _))⟩⟩
end
end Og

set_option Elab.async false
set_option linter.all false
set_option maxRecDepth 100000
set_option maxHeartbeats 4000000
/-! OgRules: rules that the layer lacks: a tuple times a small number, enumerate of a tuple, list(reversed(a list)), dict(a written dict). -/
namespace Og
open PySem PySem.Spec PyProof.Rows L2

/-! ### tuple * k, k from 0 on -/
theorem tmul_one (l : Addr) (items : Array Value) (n : Nat) (dd : Option Addr) (sl : Array (Option Value)) (u : Tok) :
    Meets (Builtin.«tuple.__mul__» ⟨[.ref l, .int 1 u], []⟩) (fun _ R s => s.heap.get? l = some { cls := .type "tuple", dict := dd, data := .seq items n, slots := sl } ∧ R (.ok (.ret (Value.ref l))) s) :=
  .of_wp fun prog w A R s h => by
    obtain ⟨hp, g, d, tk, os⟩ := s
    obtain ⟨hl, h⟩ := h
    have f1 := AutoSeq1.idx_int
    have hT : Shared.TypeIs (⟨hp, g, d, tk, os⟩ : Shared) (.ref l) "tuple" := ⟨_, hl, rfl⟩
    wp_walk using AutoSeq1.wpAny_loadPart' hl
    repeat (first
      | (refine wpAny_ite_false (by decide) ?_; wp_walk using AutoSeq1.wpAny_loadPart' hl)
      | (refine wpAny_ite_true (by simp) ?_; wp_walk using AutoSeq1.wpAny_loadPart' hl, wpAny_typeOf hT))
    exact ⟨_, rfl, h⟩
theorem tmul_zero (l : Addr) (items : Array Value) (n : Nat) (dd : Option Addr) (sl : Array (Option Value)) (u : Tok) (hne : items.isEmpty = false) :
    Meets (Builtin.«tuple.__mul__» ⟨[.ref l, .int 0 u], []⟩) (fun _ R s => s.heap.get? l = some { cls := .type "tuple", dict := dd, data := .seq items n, slots := sl } ∧
      R (.ok (.ret (Value.ref s.heap.objs.size))) { s with heap := s.heap.push { cls := Value.type "tuple", data := Data.seq #[] }, toks := s.toks }) :=
  .of_wp fun prog w A R s h => by
    obtain ⟨hp, g, d, tk, os⟩ := s
    obtain ⟨hl, h⟩ := h
    have f1 := AutoSeq1.idx_int
    have c1 : ¬ (items.isEmpty || (0 : Int) == 1) = true := by rw [hne]; decide
    wp_walk using AutoSeq1.wpAny_loadPart' hl
    repeat (first
      | (refine wpAny_ite_false c1 ?_; wp_walk using AutoSeq1.wpAny_loadPart' hl)
      | (refine wpAny_ite_false (by decide) ?_; wp_walk using AutoSeq1.wpAny_loadPart' hl)
      | (refine wpAny_ite_true (by simp) ?_; wp_walk using AutoSeq1.wpAny_loadPart' hl))
    exact ⟨_, rfl, h⟩
def rRepS (K : PySem.W.Frag) : R2 := fun x y H Q => ∃ (l : Addr) (k : Nat) (xs : List V), x = .ref l ∧ y = .int k ∧ SqT K H l xs ∧ xs ≠ [] ∧ k ≤ 1000 ∧ xs.length ≤ 1000 ∧
  (k = 1 → Q (.ref l) H) ∧ (k ≠ 1 → ∀ p, H p = none → Q (.ref p) (upd H p (.tup (List.replicate k xs).flatten)))
section
variable {X : Cx}
theorem op_repS : OpR X (binaryOp .Mult) (rRepS X.K) := by
  intro pins s σ H x y v u Q I rx ry h
  obtain ⟨l, k, xs, rfl, rfl, hT, hne, h2, hz, q1, q2⟩ := h
  match k, q1, q2 with
  | k + 2, _, q2 =>
    exact op_repT pins s σ H _ _ v u Q I rx ry ⟨l, ((k + 2 : Nat) : Int), xs, rfl, rfl, hT, hne, by omega, by omega, hz, fun p hp => q2 (by omega) p hp⟩
  | 1, q1, _ =>
    cases rx
    obtain ⟨t, rfl⟩ := ry
    obtain ⟨its, r, ⟨⟨cls, dd, data, sl⟩, ho, hc, n, hd⟩, hs⟩ := I.tuple hT
    simp only at hc hd
    subst hc hd
    exact wpAny_binaryOp_repeat_ref (T := "tuple") (U := "int") (by decide) ⟨_, ho, rfl⟩ (fun s' => typeIs_int s' _ t) noFill_tuple_mul F.fills_int_mul F.slot_int_rmul repeat_tuple F.slot_int_index.lookup
      (call_meets F.slot_int_rmul (typeIs_int s _ t) F.entry_int_rmul (F.args_int_rmul_2 _ _) (int_rmul_tuple _ t l its.toArray n dd sl)
        ⟨ho, rfl, ⟨_, ho, rfl⟩, call_meets F.slot_tuple_mul ⟨_, ho, rfl⟩ F.entry_tuple_mul (F.args_tuple_mul_2 _ _) (tmul_one l its.toArray n dd sl t) ⟨ho, ⟨.ref l, H, I, rfl, q1 rfl⟩⟩⟩)
  | 0, _, q2 =>
    cases rx
    obtain ⟨t, rfl⟩ := ry
    obtain ⟨its, r, ⟨⟨cls, dd, data, sl⟩, ho, hc, n, hd⟩, hs⟩ := I.tuple hT
    simp only at hc hd
    subst hc hd
    have hi : its.toArray.isEmpty = false := by
      cases r with
      | nil => exact absurd rfl hne
      | cons _ _ => rfl
    refine wpAny_binaryOp_repeat_ref (T := "tuple") (U := "int") (by decide) ⟨_, ho, rfl⟩ (fun s' => typeIs_int s' _ t) noFill_tuple_mul F.fills_int_mul F.slot_int_rmul repeat_tuple F.slot_int_index.lookup
      (call_meets F.slot_int_rmul (typeIs_int s _ t) F.entry_int_rmul (F.args_int_rmul_2 _ _) (int_rmul_tuple _ t l its.toArray n dd sl)
        ⟨ho, rfl, ⟨_, ho, rfl⟩, call_meets F.slot_tuple_mul ⟨_, ho, rfl⟩ F.entry_tuple_mul (F.args_tuple_mul_2 _ _) (tmul_zero l its.toArray n dd sl t hi) ⟨ho, ?_⟩⟩)
    refine ⟨.ref s.heap.objs.size, _, I.laid (t' := s.toks) (o := .tup []) (fun b ob q => Heap.get?_push_of_some _ q) (Nat.le_refl _) ?_, rfl, q2 (by decide) _ (I.hok.fresh (Nat.le_refl _))⟩
    exact ⟨Nat.zero_le _, [], .nil, IsTup.new _ _⟩
end

/-! ### enumerate(a tuple) -/
theorem meets_enumT (l : Addr) (items : Array Value) (n : Nat) (dct : Option Addr) (sl : Array (Option Value)) :
    Meets (Builtin.«enumerate.__new__» ⟨[.type "enumerate", .ref l], []⟩) (fun _ R s => s.heap.get? l = some { cls := .type "tuple", dict := dct, data := .seq items n, slots := sl } ∧
      R (.ok (.ret (.ref (s.heap.push { cls := .type "tuple_iterator", data := .fields #[.ref l, .int 0 0] }).objs.size)))
        { s with heap := (s.heap.push { cls := .type "tuple_iterator", data := .fields #[.ref l, .int 0 0] }).push { cls := .type "enumerate", data := .fields #[.none, .bool false, .ref s.heap.objs.size, rawInt 0, .none, .none] } }) :=
  .of_wp fun prog w A R s h => by
    obtain ⟨hp, g, d, tk, os⟩ := s
    obtain ⟨hl, h⟩ := h
    have hsub := sub_enumerate
    have hL : Heap.IsTuple (Shared.heap ⟨hp, g, d, tk, os⟩) l items := ⟨_, hl, rfl, n, rfl⟩
    wp_walk using AutoSeq1.wpAny_loadPart' hl
    refine wpAny_stack_any fun st => wpAny_pure ?_
    split
    · rename_i c _ _ _ _ _
      cases (c == Value.type "enumerate") <;> (wp_walk using AutoSeq1.wpAny_loadPart' hl, wpAny_pyIter_tuple hL; exact ⟨_, rfl, h⟩)
    · wp_walk using AutoSeq1.wpAny_loadPart' hl, wpAny_pyIter_tuple hL
      exact ⟨_, rfl, h⟩
section
variable {prog : Program} {w : World} {A : Around} {E : Value → Shared → Prop} {s : Shared}
theorem call_enumT {l : Addr} {items : Array Value} {Q : Value → Shared → Prop} (hL : s.heap.IsTuple l items)
    (h : ∀ h', IsEnum h' (s.heap.objs.size + 1) s.heap.objs.size 0 .none → h'.IsTupleIter s.heap.objs.size l 0 → (∀ b o, s.heap.get? b = some o → h'.get? b = some o) → Q (.ref (s.heap.objs.size + 1)) { s with heap := h' }) :
    wpAny (model prog w) A (call (.type "enumerate") [.ref l]) Q E s := by
  obtain ⟨⟨c, dct, dt, sl⟩, hl, hc, n, hd⟩ := hL
  simp only at hc hd
  subst hc hd
  refine callType_new F.called_enumerate (by decide) (F.typeCall_enumerate_1 _) (F.newCall_enumerate_1 _) (fun obj => F.args_object_init_2 obj _) F.entry_enumerate_new (meets_enumT l items n dct sl) ⟨hl, ?_⟩
  have hz : (s.heap.push { cls := .type "tuple_iterator", data := .fields #[.ref l, .int 0 0] }).objs.size = s.heap.objs.size + 1 := Heap.size_push ..
  show _ ∧ _
  rw [hz]
  have he : IsEnum ((s.heap.push { cls := .type "tuple_iterator", data := .fields #[.ref l, .int 0 0] }).push { cls := .type "enumerate", data := .fields #[.none, .bool false, .ref s.heap.objs.size, rawInt 0, .none, .none] }) (s.heap.objs.size + 1) s.heap.objs.size 0 .none := by
    have z := Heap.get?_push_size (s.heap.push { cls := .type "tuple_iterator", data := .fields #[.ref l, .int 0 0] }) (o := { cls := .type "enumerate", data := .fields #[.none, .bool false, .ref s.heap.objs.size, rawInt 0, .none, .none] }) rfl
    rw [hz] at z
    exact z
  exact ⟨⟨_, he, rfl⟩, h _ he ⟨_, Heap.get?_push_of_some _ (Heap.get?_push_size _ rfl), rfl, rfl⟩ fun b o x => Heap.get?_push_of_some _ (Heap.get?_push_of_some _ x)⟩
end
/-- the tuple at a, each item in a new pair with its place -/
def IteT (K : PySem.W.Frag) (a : Addr) (n : Nat) : It :=
  ⟨fun i H => i < n ∧ ∃ (xs : List V), SqT K H a xs ∧ xs.length = n, fun i H v H' => ∃ T x, v = .ref T ∧ H T = none ∧ H' = upd H T (.tup [.int (i : Nat), x]) ∧ ∀ xs, SqT K H a xs → xs[i]? = some x,
    fun i H => i = n ∧ ∃ xs : List V, SqT K H a xs ∧ xs.length = n⟩
theorem isTup_tuple {h : Heap} {a : Addr} {its : Array Value} (p : IsTup h a its) : h.IsTuple a its := p
theorem turn_enumT {P : Program} {w : World} {K : PySem.W.Frag} {elts : List Expr} {kk : Nat} {tpos : Pos} (a e it : Addr) (n : Nat) (hae : a ≠ it) :
    Turn P w K (.Tuple elts kk tpos) (IteT K a n) [e, it] e (fun i h => (∃ old, IsEnum h e it ((i : Nat) : Int) old) ∧ h.IsTupleIter it a i ∧ e ≠ it) where
  mem := by simp
  obj := fun i h st b hb => by
    obtain ⟨⟨old, he⟩, ⟨o, ho, hc, hd⟩, _⟩ := st
    have e' : b = e ∨ b = it := by simpa using hb
    rcases e' with z | z
    · rw [z]; exact ⟨_, he, fun v q => nomatch q⟩
    · rw [z]; exact ⟨o, ho, fun v q => by rw [hd] at q; cases q⟩
  keep := fun i h h' st k => let ⟨⟨old, he⟩, ⟨o, ho, r⟩, hne⟩ := st; ⟨⟨old, k e (by simp) _ he⟩, ⟨o, k it (by simp) o ho, r⟩, hne⟩
  item := by
    intro X hP hw hK hc i pins s σ H E I hf st hg
    subst hP hw hK
    obtain ⟨⟨old, he⟩, hit, hne⟩ := st
    obtain ⟨hi, xs, hq, hl⟩ := hg
    obtain ⟨its, rv, p, hz⟩ := I.tuple hq
    have hlen : its.length = n := by rw [← rv.length]; exact hl
    have hel : e < s.heap.objs.size := Heap.lt_size he
    have hil : it < s.heap.objs.size := by obtain ⟨_, q, _⟩ := hit; exact Heap.lt_size q
    refine wpAny_pyNext_enum_itemC (Draws.tuple (A := X.A.in1) (I.ok.hd hc) it a hae its.toArray) he ⟨hit, isTup_tuple p⟩ (by simp [hlen, hi]) hne (fun z => ?_) fun u h' tk hu ho hst' hT hsz hk => ?_
    · have z' : e = it ∨ e = a := by simpa using z
      rcases z' with z' | z'
      · exact hne z'
      · obtain ⟨o, ho, hc', _⟩ := p
        have he' : s.heap.get? e = some _ := he
        rw [z', ho] at he'
        cases he'
        injection hc' with q
        exact absurd q (by decide)
    · obtain ⟨x, hx, ru⟩ : ∃ x, xs[i]? = some x ∧ RelV x u := by
        have hix : i < xs.length := by omega
        obtain ⟨u', hu', ru⟩ := rv.get (List.getElem?_eq_getElem hix)
        have e2 : u' = u := by
          have hu2 : its.toArray[i]? = some u := hu
          rw [List.getElem?_toArray, hu'] at hu2
          exact Option.some.inj hu2
        exact ⟨_, List.getElem?_eq_getElem hix, e2 ▸ ru⟩
      refine ⟨_, rfl, wpAny_letOwnedTupleGo_enum (s := { s with heap := h', toks := tk + 1 }) ho fun h'' he' sb => ?_⟩
      have hT2 : h''.get? s.heap.objs.size = some { cls := .type "tuple", data := .seq #[.int i tk, u] } := (sb.2 _ (Nat.ne_of_gt hel)).trans hT
      have new : ObjOk X.prog X.w (upd H s.heap.objs.size (.tup [.int (i : Nat), x])) h'' s.heap.objs.size (.tup [.int (i : Nat), x]) :=
        ⟨by show 2 ≤ sizeLine; decide, [.int i tk, u], .cons ⟨_, rfl⟩ (.cons ru .nil), ⟨_, hT2, rfl, _, rfl⟩⟩
      have I1 : L2.Inv X pins σ (upd H s.heap.objs.size (.tup [.int (i : Nat), x])) { s with heap := h'', toks := tk + 1 } :=
        I.turnedNew (ch := [e, it]) (fun b ob hb q => (sb.2 b (fun z => hb (by simp [z]))).trans (hk b ob (fun z => hb (by simp [z])) (fun z => hb (by simp [z])) q)) hf (Nat.le_refl _) new
      refine ⟨.ref s.heap.objs.size, _, I1, rfl, ⟨_, x, rfl, I.hok.fresh (Nat.le_refl _), rfl, fun ys hy => by rw [I.tuple_inj hy hq]; exact hx⟩, ⟨⟨u, ?_⟩, ?_, hne⟩, fun b hb => ?_⟩
      · have e1 : ((i + 1 : Nat) : Int) = (i : Int) + 1 := by omega
        rw [e1]; exact he'
      · obtain ⟨⟨o, q, r⟩, _⟩ := hst'
        exact ⟨o, (sb.2 it (Ne.symm hne)).trans q, r⟩
      · have hb' : b < s.heap.objs.size := by
          have e' : b = e ∨ b = it := by simpa using hb
          rcases e' with z | z
          · rw [z]; exact hel
          · rw [z]; exact hil
        rw [upd_ne (Nat.ne_of_lt hb')]
        exact (hf b hb).1
  done := by
    intro X hP hw hK hc i pins s σ H E I hf st hg
    subst hP hw hK
    obtain ⟨⟨old, he⟩, hit, hne⟩ := st
    obtain ⟨rfl, xs, hq, hl⟩ := hg
    obtain ⟨its, rv, p, hz⟩ := I.tuple hq
    have hlen : its.length = i := by rw [← rv.length]; exact hl
    have D := Draws.tuple (prog := X.prog) (w := X.w) (A := X.A.in1) (I.ok.hd hc) it a hae its.toArray
    have hn : its.toArray.size = i := by simp [hlen]
    rw [hn] at D
    obtain ⟨f0, f1, f2, f3, f4, f5⟩ := hf it (by simp)
    exact wpAny_pyNext_enum_endD D he ⟨hit, isTup_tuple p⟩ fun h' eb => ⟨rfl, I.turned (t' := s.toks) (fun b o hb q => eb b o hb q) f0 f1 f3 f4 f5⟩
  self := fun A i s Q E st h => let ⟨⟨_, he⟩, _⟩ := st; wpAny_pyIter_enum he h
def iEnumT (K : PySem.W.Frag) (ta : TA) : TI := fun σ H R => ta σ H fun vs H1 => ∃ a xs, vs = [.ref a] ∧ SqT K H1 a xs ∧ R (IteT K a xs.length) H1
theorem pi_enumT {X : Cx} {e : Expr} {ta : TA} {p pos tpos : Pos} {elts : List Expr} {kk : Nat} (hg : Gl X "enumerate") (hm : X.mg "enumerate" = none) (ha : PA X [e] ta) (hs : starEach [e] X.env = [(false, eval e X.env)] := by rfl) :
    PI X (.Tuple elts kk tpos) (.Call (.Name "enumerate" p) [e] [] pos) (iEnumT X.K ta) := by
  refine ⟨fun pins s σ H R I h => ?_⟩
  refine Call_ (ld_blt I hg hm boot_enumerate (PyProof.Rows.callWith_type1 (thn (ha.run pos pins s σ H _ I h) fun us s1 ⟨vs, H1, I1, r1, q1⟩ => ?_) hs rfl))
  obtain ⟨a, xs, ex, hq, q⟩ := q1
  subst ex
  cases r1 with
  | cons r rr =>
    cases rr
    cases r
    obtain ⟨its, rv, p', hz⟩ := I1.tuple hq
    refine call_enumT (isTup_tuple p') fun h' he hit hk => wpAny_pyIter_enum he ?_
    have I2 : L2.Inv X pins σ H1 { s1 with heap := h' } := I1.kept (t' := s1.toks) hk
    refine ⟨s1.heap.objs.size + 1, [s1.heap.objs.size + 1, s1.heap.objs.size], _, _, H1, rfl, I2, turn_enumT a (s1.heap.objs.size + 1) s1.heap.objs.size xs.length (Nat.ne_of_lt p'.lt), ⟨⟨.none, he⟩, hit, Nat.succ_ne_self _⟩, fun b hb => ?_, q⟩
    have e' : b = s1.heap.objs.size + 1 ∨ b = s1.heap.objs.size := by simpa using hb
    have hle : s1.heap.objs.size ≤ b := by
      rcases e' with z | z
      · rw [z]; exact Nat.le_add_right _ _
      · rw [z]; exact Nat.le_refl _
    exact I1.fpOk hle (I1.hok.fresh hle)

/-! ### list(reversed(a list)) -/
section
variable {prog : Program} {w : World} {A : Around} {E : Value → Shared → Prop} {s : Shared}
theorem init_rev {R : Result → Shared → Prop} {it l : Addr} {items : Array Value} (hh : A.handled = none) (hit : s.heap.IsRevIter it l ((items.size : Int) - 1)) (hl : s.heap.IsList l items) (hne : l ≠ it) (hn : items.size ≤ sizeLine) (S : Addr) (hSi : S ≠ it) (hSl : S ≠ l)
    (hS : s.heap.get? S = some { cls := .type "list", data := .seq #[] })
    (hR : ∀ h' tk acc c, (∀ b o, b ≠ S → b ≠ it → s.heap.get? b = some o → h'.get? b = some o) → h'.get? S = some { cls := .type "list", dict := none, data := .seq acc c, slots := #[] } → ItemsOf (fun i v => items[items.size - 1 - i]? = some v) acc items.size →
      R (.ok (.ret .none)) { s with heap := h', toks := tk }) :
    wpAny (model prog w) A.in1 (Builtin.«list.__init__» ⟨[.ref S, .ref it], []⟩)
      (fun fin s' => match fin with | .done f => R (.ok f) s' | .again c' => c'.quiet = true ∧ codeAny (model prog w) A c' R s') (fun e s' => R (.error e) s') s := by
  have W := (Walks.listRev (prog := prog) (w := w) (A := A.in1) hh it l hne items).toS
  have hSf : S ∉ [it, l] := by simp only [List.mem_cons, List.not_mem_nil, or_false, not_or]; exact ⟨hSi, hSl⟩
  show wpAny _ _ (Builtin.List.listItems (.ref S) >>= fun old => Builtin.List.listUpdate (.ref S) (fun _ => #[]) >>= fun _ => letGo old.toList.reverse >>= fun _ => Builtin.List.listExtendWith (.ref S) (.ref it) .none) _ _ s
  refine wpAny_bind ?_
  unfold Builtin.List.listItems
  refine wpAny_bind (wpAny_seqItems hS rfl (wpAny_pure ?_))
  show wpAny _ _ (updateSeq S (fun _ => #[]) >>= fun _ => letGo (#[] : Array Value).toList.reverse >>= fun _ => Builtin.List.listExtendWith (.ref S) (.ref it) .none) _ _ s
  refine wpAny_bind (wpAny_updateSeq hS rfl ?_)
  have hS2 := Heap.get?_update_self (Obj.mapSeq (fun _ => (#[] : Array Value))) hS rfl
  have oth : ∀ b o, b ≠ S → s.heap.get? b = some o → (s.heap.update S (Obj.mapSeq (fun _ => (#[] : Array Value)))).get? b = some o := fun b o hb e => (Heap.get?_update_other _ _ (Ne.symm hb)).trans e
  have hit1 : (s.heap.update S (Obj.mapSeq (fun _ => (#[] : Array Value)))).IsRevIter it l ((items.size : Int) - 1) := hit.at fun o e => oth it o (Ne.symm hSi) e
  have hl1 : (s.heap.update S (Obj.mapSeq (fun _ => (#[] : Array Value)))).IsList l items := by
    obtain ⟨o, e, r⟩ := hl
    exact ⟨o, oth l o (Ne.symm hSl) e, r⟩
  have hT : ({ s with heap := s.heap.update S (Obj.mapSeq (fun _ => (#[] : Array Value))) } : Shared).TypeIs (.ref it) "list_reverseiterator" := Heap.IsRevIter.typeIs (s := { s with heap := s.heap.update S (Obj.mapSeq (fun _ => (#[] : Array Value))) }) hit1
  refine wpAny_bind (wpAny_letGo ?_)
  have h1 : Builtin.List.listSameRef (.ref S) (.ref it) = false := by simp [Builtin.List.listSameRef, hSi]
  unfold Builtin.List.listExtendWith
  refine wpAny_bind (wpAny_typeOf hT ?_)
  rw [if_neg (by rw [h1]; decide)]
  refine wpAny_bind (wpAny_pyIter_revIter (s := { s with heap := s.heap.update S (Obj.mapSeq (fun _ => (#[] : Array Value))) }) hit1 ?_)
  refine wpAny_bind (wpAny_holding ?_)
  unfold Builtin.List.listLengthHint
  refine wpAny_bind (wpAny_specialOf hT RT.nolen_lri ?_)
  show wpAny _ A.in1 (specialOf (Value.ref it) (Str.ofString "__length_hint__") >>= _) _ _ _
  refine wpAny_bind (wpAny_specialOf hT RT.hint_lri ?_)
  generalize hid : ("list_reverseiterator.__length_hint__" : String) = id0
  wp_delta
  rw [show splitId id0 = some ("list_reverseiterator", "__length_hint__") from by subst hid; decide +kernel]
  subst hid
  refine wpAny_bind (wpAny_isInstance (b := true) hT (by rw [isSubtype_type]; kernel_rfl) ?_)
  refine wpAny_pure ?_
  rw [if_neg (by decide)]
  have e0 : ((items.size : Nat) : Int) - 1 - ((0 : Nat) : Int) = (items.size : Int) - 1 := by omega
  refine wpAny_pure ⟨plainId_quiet F.plain_extend_loop _, codeAny_extend_loopS W hn _ hSf _ items.size 0 _ _ _ rfl (Nat.zero_le _) ⟨Nat.zero_le _, by rw [e0]; exact hit1, hl1⟩ hS2 (ItemsOf.nil _) fun s' acc' c' hm hS' hacc => ?_⟩
  rw [Moved.eq_with hm]
  refine hR s'.heap s'.toks acc' c' (fun b o hb hb2 e => hm.heap b o (fun hmem => ?_) (oth b o hb e)) hS' hacc
  rcases List.mem_cons.mp hmem with e' | hmem
  · exact hb e'
  · exact hb2 (List.mem_singleton.mp hmem)
theorem call_list_rev {it l : Addr} {items : Array Value} {Q : Value → Shared → Prop} (hh : A.handled = none) (hit : s.heap.IsRevIter it l ((items.size : Int) - 1)) (hl : s.heap.IsList l items) (hne : l ≠ it) (hn : items.size ≤ sizeLine)
    (hQ : ∀ h' tk acc c, (∀ b o, b ≠ it → s.heap.get? b = some o → h'.get? b = some o) → h'.get? s.heap.objs.size = some { cls := .type "list", dict := none, data := .seq acc c, slots := #[] } → ItemsOf (fun i v => items[items.size - 1 - i]? = some v) acc items.size →
      Q (.ref s.heap.objs.size) { s with heap := h', toks := tk }) :
    wpAny (model prog w) A (call (.type "list") [.ref it]) Q E s := by
  refine callType_codes (Q₁ := fun obj s₁ => obj = .ref s.heap.objs.size ∧ s₁ = { s with heap := s.heap.push { cls := .type "list", data := .seq #[] } }) F.called_list (F.typeCall_list_1 _) F.entry_list_init (code_list_new _ ⟨rfl, rfl⟩) fun obj s₁ h₁ => ?_
  obtain ⟨rfl, rfl⟩ := h₁
  have hS : (s.heap.push { cls := .type "list", data := .seq #[] }).get? s.heap.objs.size = some { cls := .type "list", data := .seq #[] } := Heap.get?_push_size _ rfl
  obtain ⟨oi, hoi, _⟩ := id hit
  obtain ⟨ol, hol, _⟩ := id hl
  refine ⟨⟨_, hS, rfl⟩, F.args_list_init_2 _ _, init_rev (A := A.in1) hh (hit.at fun o e => Heap.get?_push_of_some _ e) (hl.push _) hne hn _ (Nat.ne_of_gt (Heap.lt_size hoi)) (Nat.ne_of_gt (Heap.lt_size hol)) hS fun h' tk acc c hk hS' hacc => ?_⟩
  exact ⟨rfl, hQ h' tk acc c (fun b o hb e => hk b o (Nat.ne_of_lt (Heap.lt_size e)) hb (Heap.get?_push_of_some _ e)) hS' hacc⟩
end
def tLstRev (K : PySem.W.Frag) (te : TE) : TE := fun σ H Q => te σ H fun v H1 => ∃ (a : Addr) (xs : List V), v = .ref a ∧ SqL K H1 a xs ∧ ∀ q, H1 q = none → Q (.ref q) (upd H1 q (.lst xs.reverse))
section
variable {X : Cx}
theorem pe_lstRev {e : Expr} {te : TE} {p p2 pos pos2 : Pos} (hc : X.calm = true) (hg : Gl X "list") (hm : X.mg "list" = none) (hg2 : Gl X "reversed") (hm2 : X.mg "reversed" = none) (he : PE X e te)
    (hs : starEach [e] X.env = (false, eval e X.env) :: starEach [] X.env := by rfl)
    (hs2 : starEach [.Call (.Name "reversed" p2) [e] [] pos2] X.env = (false, eval (.Call (.Name "reversed" p2) [e] [] pos2) X.env) :: starEach [] X.env := by rfl) :
    PE X (.Call (.Name "list" p) [.Call (.Name "reversed" p2) [e] [] pos2] [] pos) (tLstRev X.K te) := by
  refine ⟨fun pins s σ H Q I h => ?_⟩
  refine Call_ (ld_blt I hg hm boot_list (PyProof.Rows.callWith_type1 (args_cons (Call_ (ld_blt I hg2 hm2 PyProof.Rows.boot_reversed (PyProof.Rows.callWith_type1 (args_cons (thn (he.run pins s σ H _ I h) fun u s1 ⟨v, H1, I1, r1, q1⟩ => args_nil ?_) hs) hs rfl))) hs2) hs2 rfl))
  obtain ⟨a, xs, ev, hq, q⟩ := q1
  subst ev
  obtain rfl : u = Value.ref a := r1
  obtain ⟨its, rv, p', hz⟩ := I1.list hq
  refine call_reversed_list p'.isList (args_nil ?_)
  have k0 : ∀ b o, s1.heap.get? b = some o → (s1.heap.push (revObj a ((its.toArray.size : Int) - 1))).get? b = some o := fun b o e => Heap.get?_push_of_some _ e
  have I2 : L2.Inv X pins σ H1 { s1 with heap := s1.heap.push (revObj a ((its.toArray.size : Int) - 1)) } := I1.kept (t' := s1.toks) k0
  obtain ⟨f0, f1, f2, f3, f4, f5⟩ := I1.fpOk (H' := H1) (b := s1.heap.objs.size) (Nat.le_refl _) (I1.hok.fresh (Nat.le_refl _))
  have hl := p'.isList
  obtain ⟨ol, hol, _⟩ := id hl
  have hne : a ≠ s1.heap.objs.size := Nat.ne_of_lt (Heap.lt_size hol)
  have hn : its.toArray.size ≤ sizeLine := by rw [List.size_toArray, ← rv.length]; exact hz
  have hz2 : (s1.heap.push (revObj a ((its.toArray.size : Int) - 1))).objs.size = s1.heap.objs.size + 1 := Heap.size_push ..
  refine call_list_rev (s := { s1 with heap := s1.heap.push (revObj a ((its.toArray.size : Int) - 1)) }) (I1.ok.hd hc) ⟨_, Heap.get?_push_size _ rfl, rfl, rfl⟩ (hl.push _) hne hn fun h' tk acc c hk hS hi => ?_
  have new : ObjOk X.prog X.w (upd H1 (s1.heap.objs.size + 1) (.lst xs.reverse)) h' (s1.heap.objs.size + 1) (.lst xs.reverse) := by
    refine ⟨by rw [List.length_reverse]; exact hz, acc.toList, c, RT.vals_rev rv hi, ?_⟩
    rw [Array.toArray_toList]
    have e2 := hS
    simp only [hz2] at e2
    exact e2
  have fr : H1 (s1.heap.objs.size + 1) = none := I1.hok.fresh (Nat.le_succ _)
  have I3 : L2.Inv X pins σ (upd H1 (s1.heap.objs.size + 1) (.lst xs.reverse)) { s1 with heap := h', toks := tk } :=
    I2.turnedNew (ch := [s1.heap.objs.size]) (fun b o hb e => hk b o (by simpa using hb) e) (fun b hb => by
      have e : b = s1.heap.objs.size := by simpa using hb
      subst e
      exact ⟨f0, f1, f2, f3, f4, f5⟩) (by simp only [hz2]; exact Nat.le_refl _) new
  simp only [hz2]
  exact ⟨.ref (s1.heap.objs.size + 1), _, I3, rfl, q _ fr⟩
end
end Og

set_option Elab.async false
set_option linter.all false
set_option maxRecDepth 100000
set_option maxHeartbeats 4000000
/-! OgTab: a written dict from texts to ints: in, not in, [], dict(..). -/
namespace Og
open PySem PySem.Spec PyProof.Rows L2

def entT (w : World) (p : Str × Int) (e : DictEntry) : Prop := (∃ t, e.key = .str p.1 t) ∧ e.hash = PyData.keyHash w.params p.1 ∧ ∃ t, e.val = .int p.2 t
/-- at d the written dict kvs -/
structure KTab (K : PySem.W.Frag) (w : World) (d : Addr) (kvs : List (Str × Int)) : Prop where
  low : (d == sysModules) = false
  nd : (kvs.map (·.1)).Nodup
  ex : ∃ es n, K.lookup d = some ⟨.type "dict", none, .dict es n, #[]⟩ ∧ Paired (entT w) kvs es.toList
theorem tab_lit {w : World} : ∀ {kvs : List (Str × Int)} {l : List DictEntry}, Paired (entT w) kvs l → PySem.W.KeysLit w.params l
  | [], [], _ => trivial
  | p :: kvs, e :: l, .cons ⟨⟨t, h1⟩, h2, _⟩ r => ⟨⟨p.1, t, h1, h2⟩, tab_lit r⟩
theorem KTab.kd {K w d kvs} (T : KTab K w d kvs) : ∃ es n, KDict K w d es n ∧ Paired (entT w) kvs es.toList := let ⟨es, n, l, p⟩ := T.ex; ⟨es, n, ⟨l, tab_lit p, T.low⟩, p⟩
theorem tab_find {w : World} (z : Str) : ∀ {kvs : List (Str × Int)} {l : List DictEntry}, Paired (entT w) kvs l → match l.find? (·.key.isStr z) with
    | some e => ∃ i t, kvs.lookup z = some i ∧ e.val = .int i t
    | none => kvs.lookup z = none
  | [], [], _ => rfl
  | p :: kvs, e :: l, .cons ⟨⟨t, h1⟩, h2, t2, h3⟩ r => by
    have ih := tab_find z r
    by_cases c : p.1 = z
    · have e1 : e.key.isStr z = true := by rw [h1, ← c]; simp [Value.isStr]
      rw [List.find?_cons, e1]
      exact ⟨p.2, t2, by simp [List.lookup, c], h3⟩
    · have e1 : e.key.isStr z = false := by rw [h1]; simp [Value.isStr, c]
      have e2 : (p :: kvs).lookup z = kvs.lookup z := by
        have e3 : (z == p.1) = false := beq_eq_false_iff_ne.mpr fun q => c q.symm
        show (match z == p.1 with | true => some p.2 | false => kvs.lookup z) = _
        rw [e3]
      rw [List.find?_cons, e1, e2]
      exact ih
theorem tab_ref {w : World} : ∀ {kvs : List (Str × Int)} {l : List DictEntry}, Paired (entT w) kvs l → l.any (·.refKey) = false
  | [], [], _ => rfl
  | p :: kvs, e :: l, .cons ⟨⟨t, h1⟩, _⟩ r => by
    obtain ⟨h, k, v⟩ := e
    simp only at h1
    subst h1
    rw [List.any_cons, tab_ref r]
    rfl
theorem KTab.ns {K w d kvs} (T : KTab K w d kvs) (z : Str) : (∃ i t, kvs.lookup z = some i ∧ PySem.W.nsIn K d z = some (some (.int i t))) ∨ (kvs.lookup z = none ∧ PySem.W.nsIn K d z = some none) := by
  obtain ⟨es, n, l, p⟩ := T.ex
  have f := tab_find z p
  have r := tab_ref p
  unfold PySem.W.nsIn
  rw [l]
  dsimp only
  cases q : es.toList.find? (·.key.isStr z) with
  | some e =>
    rw [q] at f
    obtain ⟨i, t, h1, h2⟩ := f
    exact .inl ⟨i, t, h1, by dsimp only; rw [h2]⟩
  | none =>
    rw [q] at f
    exact .inr ⟨f, by dsimp only; rw [if_neg (by rw [r]; exact Bool.false_ne_true)]⟩
section
variable {X : Cx} {d : Addr} {kvs : List (Str × Int)}
theorem op_in_tab (T : KTab X.K X.w d kvs) : OpR X (compareOp .In) (fun x y H Q => ∃ z : Str, x = .str z ∧ y = .ref d ∧ Q (.bl (kvs.lookup z).isSome) H) := by
  intro pins s σ H x y v u Q I rx ry h
  obtain ⟨z, rfl, rfl, q⟩ := h
  obtain ⟨es, n, D, _⟩ := T.kd
  rcases T.ns z with ⟨i, t, h1, h2⟩ | ⟨h1, h2⟩ <;> (rw [h1] at q; exact op_in_kd D pins s σ H _ _ v u Q I rx ry ⟨z, _, rfl, rfl, h2, q⟩)
theorem op_notIn_tab (T : KTab X.K X.w d kvs) : OpR X (compareOp .NotIn) (fun x y H Q => ∃ z : Str, x = .str z ∧ y = .ref d ∧ Q (.bl (!(kvs.lookup z).isSome)) H) := by
  intro pins s σ H x y v u Q I rx ry h
  obtain ⟨z, rfl, rfl, q⟩ := h
  obtain ⟨es, n, D, _⟩ := T.kd
  rcases T.ns z with ⟨i, t, h1, h2⟩ | ⟨h1, h2⟩ <;> (rw [h1] at q; exact op_notIn_kd D pins s σ H _ _ v u Q I rx ry ⟨z, _, rfl, rfl, h2, q⟩)
/-- D[key] of the module's written dict D -/
def tTabGet (d : Addr) (kvs : List (Str × Int)) (td ty : TE) : TE := fun σ H Q => td σ H fun x H1 => ty σ H1 fun y H2 => ∃ (z : Str) (i : Int), x = .ref d ∧ y = .str z ∧ kvs.lookup z = some i ∧ Q (.int i) H2
theorem pe_tab {o i : Expr} {pos : Pos} {td ty : TE} (T : KTab X.K X.w d kvs) (ho : PE X o td) (hi : PE X i ty) (hs : NoSl i) : PE X (.Subscript o i pos) (tTabGet d kvs td ty) := by
  refine ⟨fun pins s σ H Q I h => ?_⟩
  obtain ⟨es, n, D, _⟩ := T.kd
  refine subD_of PySem.F.slot_dict_getitem.lookup hs (thn (ho.run pins s σ H _ I h) fun u s1 ⟨x, H1, I1, rx, q1⟩ => thn (hi.run pins s1 σ H1 _ I1 q1) fun iv s2 ⟨y, H2, I2, ry, z, j, ex, ey, hl, q2⟩ => ?_)
  subst ex ey
  have hn : ∃ t, PySem.W.nsIn X.K d z = some (some (.int j t)) := by
    rcases T.ns z with ⟨i, t, h1, h2⟩ | ⟨h1, _⟩
    · rw [h1] at hl
      cases hl
      exact ⟨t, h2⟩
    · rw [h1] at hl
      cases hl
  obtain ⟨t, hn⟩ := hn
  obtain rfl : u = Value.ref d := rx
  exact ⟨kd_type D I2, op_item_kd D pins s2 σ H2 (.ref d) (.str z) _ _ _ I2 (show RelV (.ref d) (Value.ref d) from rfl) ry ⟨z, _, .int j, rfl, rfl, hn, ⟨t, rfl⟩, q2⟩⟩
theorem tab_pairs {prog : Program} {w : World} : ∀ {kvs : List (Str × Int)} {l : List DictEntry}, Paired (entT w) kvs l →
    ∃ vs : List (Key × Value), Pairs (mixKind prog w) l vs ∧ vs.map (·.1) = kvs.map (fun p => Sum.inr p.1) ∧ KV (kvs.map fun p => ((Sum.inr p.1 : Key), V.int p.2)) vs
  | [], [], _ => ⟨[], .nil, rfl, .nil⟩
  | p :: kvs, e :: l, .cons ⟨⟨t, h1⟩, _, t2, h3⟩ r => by
    obtain ⟨vs, h4, h5, h6⟩ := tab_pairs (prog := prog) r
    refine ⟨(.inr p.1, e.val) :: vs, .cons ?_ rfl h4, by rw [List.map_cons, List.map_cons, h5], .cons ⟨rfl, t2, h3⟩ h6⟩
    rw [mixKind_is, h1]
    exact keyIs_str _ _
theorem call_dict_tab (T : KTab X.K X.w d kvs) (hz : kvs.length ≤ sizeLine) : CallR X (.type "dict") (fun xs H Q => xs = [.ref d] ∧ ∀ p, H p = none → Q (.ref p) (upd H p (.dK (kvs.map fun p => ((Sum.inr p.1 : Key), V.int p.2))))) := by
  intro pins s σ H xs us Q I r h
  obtain ⟨rfl, q⟩ := h
  obtain ⟨u, rfl, rx⟩ := vals1 r
  cases rx
  obtain ⟨es, n, l, p⟩ := T.ex
  obtain ⟨vs, h4, h5, h6⟩ := tab_pairs (prog := X.prog) p
  have hl : vs.length = kvs.length := by
    have := congrArg List.length h5
    simpa using this
  have nd : (vs.map (·.1)).Nodup := by
    rw [h5]
    have : kvs.map (fun p => (Sum.inr p.1 : Key)) = (kvs.map (·.1)).map Sum.inr := by rw [List.map_map]; rfl
    rw [this]
    exact List.Pairwise.map _ (fun a b (h : a ≠ b) z => h (Sum.inr.inj z)) T.nd
  have D : s.heap.DictOf (mixKind X.prog X.w) d vs := ⟨_, es, n, I.kIn _ _ l, ⟨rfl, rfl, rfl⟩, rfl, fun e he => by
    obtain ⟨x, t, e1, e2⟩ := (tab_lit p).all e (Array.mem_toList_iff.mpr he)
    exact ⟨.inr x, by rw [e1]; exact mixKind_str _ _ x t, e2⟩, h4, nd⟩
  refine kt_call_dict T.low D (by rw [hl]; exact hz) fun h' d' hs => ?_
  have hm : (s.heap.objs.size == sysModules) = false := beq_eq_false_iff_ne.mpr (Nat.ne_of_gt I.big)
  exact ⟨.ref s.heap.objs.size, _, I.laid (t' := s.toks) (o := .dK _) (fun b u e => (hs.2 b (Nat.ne_of_lt (Heap.lt_size e))).trans (Heap.get?_push_of_some _ e)) (Nat.le_refl _)
    ⟨by rw [List.length_map]; exact hz, hm, vs, h6, d'⟩, rfl, q _ (I.hok.fresh (Nat.le_refl _))⟩
end
end Og

set_option Elab.async false
set_option linter.all false
set_option maxRecDepth 100000
set_option maxHeartbeats 4000000
/-! OgBase: the text by places; a def of the program as a callee; what of the heap stays; values of the language in the heap. -/
namespace Og
open PySem PySem.Spec PyProof.Rows L2
/-! ### callees -/
abbrev MG := Str → Option Value
/-- a def of the module that keeps its promise -/
structure Df (P : Program) (w : World) (K : PySem.W.Frag) (mg : MG) (base : Heap) (x : Str) (ps : List Str) (k : Nat) (sp : Sp) : Prop where
  ex : ∃ f fd, FnOk P w K mg base CX0 k f fd ps sp ∧ mg x = some (.ref f) ∧ PySem.W.keepIn K (.ref f) = true ∧ Binds K fd ps []
/-- a method that keeps its promise -/
structure Dm (P : Program) (w : World) (K : PySem.W.Frag) (mg : MG) (base : Heap) (C : Addr) (m : Str) (ps : List Str) (k : Nat) (sp : Sp) : Prop where
  ex : ∃ f fd, FnOk P w K mg base CX0 k f fd ps sp ∧ Meth K C m f ∧ Binds K fd ps []
/-- a class whose __init__ keeps its promise -/
structure Dk (P : Program) (w : World) (K : PySem.W.Frag) (mg : MG) (base : Heap) (x : Str) (C : Addr) (ps : List Str) (k : Nat) (sp : Sp) : Prop where
  ex : ∃ f fd, FnOk P w K mg base CX0 k f fd ps sp ∧ Mk K C f ∧ Binds K fd ps [] ∧ mg x = some (.ref C)
section
variable {P : Program} {w : World} {K : PySem.W.Frag} {mg : MG} {base : Heap}
theorem Df.mono {x ps j k sp} (D : Df P w K mg base x ps j sp) (h : j ≤ k) : Df P w K mg base x ps k sp := let ⟨f, fd, F, r⟩ := D.ex; ⟨f, fd, F.mono h, r⟩
theorem Dm.mono {C m ps j k sp} (D : Dm P w K mg base C m ps j sp) (h : j ≤ k) : Dm P w K mg base C m ps k sp := let ⟨f, fd, F, r⟩ := D.ex; ⟨f, fd, F.mono h, r⟩
theorem Dk.mono {x C ps j k sp} (D : Dk P w K mg base x C ps j sp) (h : j ≤ k) : Dk P w K mg base x C ps k sp := let ⟨f, fd, F, r⟩ := D.ex; ⟨f, fd, F.mono h, r⟩
theorem Df.imp {x ps k sp sp'} (D : Df P w K mg base x ps k sp) (h : ∀ vs H Q E, sp' vs H Q E → sp vs H Q E) : Df P w K mg base x ps k sp' := let ⟨f, fd, F, r⟩ := D.ex; ⟨f, fd, F.imp h, r⟩
theorem Dm.imp {C m ps k sp sp'} (D : Dm P w K mg base C m ps k sp) (h : ∀ vs H Q E, sp' vs H Q E → sp vs H Q E) : Dm P w K mg base C m ps k sp' := let ⟨f, fd, F, r⟩ := D.ex; ⟨f, fd, F.imp h, r⟩
/-- where the def stands -/
structure Fg (K : PySem.W.Frag) (mg : MG) (x : Str) (st : Stmt) : Prop where
  ex : ∃ f fd, Fun K x x st f fd ∧ mg x = some (.ref f)
structure Fm (K : PySem.W.Frag) (C : Addr) (m q : Str) (st : Stmt) : Prop where
  ex : ∃ f fd, Fun K m q st f fd ∧ Meth K C m f
structure Fk (K : PySem.W.Frag) (mg : MG) (x : Str) (C : Addr) (q : Str) (st : Stmt) : Prop where
  ex : ∃ f fd, Fun K "__init__" q st f fd ∧ Mk K C f ∧ mg x = some (.ref C)
/-- the body's goal -/
abbrev Body (P : Program) (w : World) (K : PySem.W.Frag) (mg : MG) (base : Heap) (N : List Str) (q : Str) (st : Stmt) (k : Nat) (sp : Sp) : Prop :=
  ∀ (f : Addr) (cdv : Value) (A : Around) (outer : List Env) (s : Shared) (H : Hp) (vs : List V) (Q : VK) (E : XK), Room k (A.deeper (envOfC q (defScope st) s.heap.objs.size f cdv)) → sp vs H Q E →
      ∃ t, PSs (cxOf CX0 P w K mg base N q (defScope st) f cdv A outer s H E).nox (defBody st) t ∧ t { nx := fun _ H' => Q .non H', rt := Q } (start N vs) H
abbrev BindsOk (x q : Str) (st : Stmt) (ps : List Str) : Prop := ∀ (kV doc pm : Value) (an : Option Addr) (cdv ct : Value) (us : List Value), us.length = ps.length → bindArgs (PySem.W.fnOf x q (defArgs st) (defBody st) (defScope st) .none kV doc pm an cdv ct) ⟨us, []⟩ = pure (ps.zip us)
theorem Df.of {x : Str} {st : Stmt} {N ps : List Str} {k : Nat} {sp : Sp} (F : Fg K mg x st) (S : FnScope N ps (defScope st)) (hb : BindsOk x x st ps) (len : ∀ vs H Q E, sp vs H Q E → vs.length = ps.length)
    (body : Body P w K mg base N x st k sp) : Df P w K mg base x ps (k + 1) sp := by
  obtain ⟨f, fd, F, m⟩ := F.ex
  exact ⟨f, fd, F.ok S len (body f), m, F.kp, F.binds hb⟩
theorem Dm.of {C : Addr} {m q : Str} {st : Stmt} {N ps : List Str} {k : Nat} {sp : Sp} (F : Fm K C m q st) (S : FnScope N ps (defScope st)) (hb : BindsOk m q st ps) (len : ∀ vs H Q E, sp vs H Q E → vs.length = ps.length)
    (body : Body P w K mg base N q st k sp) : Dm P w K mg base C m ps (k + 1) sp := by
  obtain ⟨f, fd, F, m⟩ := F.ex
  exact ⟨f, fd, F.ok S len (body f), m, F.binds hb⟩
theorem Dk.of {C : Addr} {x q : Str} {st : Stmt} {N ps : List Str} {k : Nat} {sp : Sp} (F : Fk K mg x C q st) (S : FnScope N ps (defScope st)) (hb : BindsOk "__init__" q st ps) (len : ∀ vs H Q E, sp vs H Q E → vs.length = ps.length)
    (body : Body P w K mg base N q st k sp) : Dk P w K mg base x C ps (k + 1) sp := by
  obtain ⟨f, fd, F, m, g⟩ := F.ex
  exact ⟨f, fd, F.ok S len (body f), m, F.binds hb, g⟩
end
section
variable {X : Cx} {x m : Str} {ps : List Str} {k : Nat} {sp : Sp} {C : Addr} {e o : Expr} {es : List Expr} {p pos apos : Pos} {t : TA} {ta : TE}
theorem pe_cf (D : Df X.prog X.w X.K X.mg X.base x ps k sp) (hr : Room k X.A) (ha : PA X (e :: es) t) (hg : Gl X x := by rfl) (hdb : (x == ("__debug__" : Str)) = false := by decide)
    (he : starEach (e :: es) X.env = (false, eval e X.env) :: starEach es X.env := by rfl) (hpl : (backTo pos (starEach es X.env)).any (·.1) = false := by rfl) : PE X (.Call (.Name x p) (e :: es) [] pos) (tCall sp [] E0 t) := by
  obtain ⟨f, fd, F, m, kp, b⟩ := D.ex
  exact pe_call F hr hg m kp b .nil pass0 ha hdb he hpl
theorem pe_cf0 (D : Df X.prog X.w X.K X.mg X.base x ps k sp) (hr : Room k X.A) (hg : Gl X x := by rfl) (hdb : (x == ("__debug__" : Str)) = false := by decide) : PE X (.Call (.Name x p) [] [] pos) (tCall sp [] E0 tNil) := by
  obtain ⟨f, fd, F, m, kp, b⟩ := D.ex
  exact pe_call0 F hr hg m kp b .nil pass0 hdb
theorem pe_cm {pl : Sem Bool} (D : Dm X.prog X.w X.K X.mg X.base C m ps k sp) (c : Cls X.K C) (hr : Room k X.A) (he : PE X o ta) (ha : PA X (e :: es) t)
    (hst : starEach (e :: es) X.env = (false, eval e X.env) :: starEach es X.env := by rfl) (hpl : (backTo pos (starEach es X.env)).any (·.1) = false := by rfl)
    (ht : eval (.Call (.Attribute o m apos) (e :: es) [] pos) X.env = (do
      let ov ← eval o X.env
      standAt apos.atName
      let (f, first) ← holding [ov] (getMethod ov m pl)
      callWith pos f first (backTo pos (starEach (e :: es) X.env)) (backToKw pos (keywordEach [] X.env))) := by rfl) :
    PE X (.Call (.Attribute o m apos) (e :: es) [] pos) (tMeth C m sp [] E0 ta t) := by
  obtain ⟨f, fd, F, hm, b⟩ := D.ex
  exact pe_meth he c hm F hr b .nil pass0 ha hst hpl ht
theorem pe_cm0 {pl : Sem Bool} (D : Dm X.prog X.w X.K X.mg X.base C m ps k sp) (c : Cls X.K C) (hr : Room k X.A) (he : PE X o ta)
    (ht : eval (.Call (.Attribute o m apos) [] [] pos) X.env = (do
      let ov ← eval o X.env
      standAt apos.atName
      let (f, first) ← holding [ov] (getMethod ov m pl)
      callWith pos f first (backTo pos (starEach [] X.env)) (backToKw pos (keywordEach [] X.env))) := by rfl) :
    PE X (.Call (.Attribute o m apos) [] [] pos) (tMeth C m sp [] E0 ta tNil) := by
  obtain ⟨f, fd, F, hm, b⟩ := D.ex
  exact pe_meth0 he c hm F hr b .nil pass0 ht
theorem pe_ck (D : Dk X.prog X.w X.K X.mg X.base x C ps k sp) (hr : Room (k + 1) X.A) (ha : PA X (e :: es) t) (hg : Gl X x := by rfl) (hdb : (x == ("__debug__" : Str)) = false := by decide)
    (he : starEach (e :: es) X.env = (false, eval e X.env) :: starEach es X.env := by rfl) (hpl : (backTo pos (starEach es X.env)).any (·.1) = false := by rfl) : PE X (.Call (.Name x p) (e :: es) [] pos) (tMake C sp [] E0 t) := by
  obtain ⟨f, fd, F, M, b, m⟩ := D.ex
  exact pe_make M F hr hg m b .nil pass0 ha hdb he hpl
theorem pe_ck0 (D : Dk X.prog X.w X.K X.mg X.base x C ps k sp) (hr : Room (k + 1) X.A) (hg : Gl X x := by rfl) (hdb : (x == ("__debug__" : Str)) = false := by decide) : PE X (.Call (.Name x p) [] [] pos) (tMake C sp [] E0 tNil) := by
  obtain ⟨f, fd, F, M, b, m⟩ := D.ex
  exact pe_make0 M F hr hg m b .nil pass0 hdb
end

/-! ### what of the heap stays: all but what stands at S; the tuples always -/
structure Fr (S : List Addr) (H H' : Hp) : Prop where
  tup : ∀ a xs, H a = some (.tup xs) → H' a = some (.tup xs)
  frz : ∀ a o u, H a = some (.frz o u) → H' a = some (.frz o u)
  keep : ∀ a o, a ∉ S → H a = some o → H' a = some o
theorem Fr.refl (S : List Addr) (H : Hp) : Fr S H H := ⟨fun _ _ h => h, fun _ _ _ h => h, fun _ _ _ h => h⟩
theorem Fr.trans {S : List Addr} {H H1 H2 : Hp} (a : Fr S H H1) (b : Fr S H1 H2) : Fr S H H2 := ⟨fun c xs h => b.tup c xs (a.tup c xs h), fun c o u h => b.frz c o u (a.frz c o u h), fun c o n h => b.keep c o n (a.keep c o n h)⟩
theorem Fr.mono {S T : List Addr} {H H' : Hp} (a : Fr S H H') (h : ∀ x ∈ S, x ∈ T) : Fr T H H' := ⟨a.tup, a.frz, fun c o n => a.keep c o fun z => n (h c z)⟩
theorem Fr.new {S : List Addr} {H : Hp} {p : Addr} (h : H p = none) (o : HO) : Fr S H (upd H p o) :=
  ⟨fun a xs e => by rw [upd_ne (ne_of_none e h)]; exact e, fun a _ _ e => by rw [upd_ne (ne_of_none e h)]; exact e, fun a u _ e => by rw [upd_ne (ne_of_none e h)]; exact e⟩
theorem Fr.set {S : List Addr} {H : Hp} {p : Addr} {u : HO} (hp : p ∈ S) (h : H p = some u) (nt : ∀ xs, u ≠ .tup xs) (o : HO) (nf : ∀ b x, u ≠ .frz b x := by intro _ _ z; cases z) : Fr S H (upd H p o) :=
  ⟨fun a xs e => by rw [upd_ne fun z => nt xs (Option.some.inj (by rw [← h, ← z, e]))]; exact e, fun a b x e => by rw [upd_ne fun z => nf b x (Option.some.inj (by rw [← h, ← z, e]))]; exact e, fun a v n e => by rw [upd_ne fun z : a = p => n (by rw [z]; exact hp)]; exact e⟩
/-- what was not there may change unseen -/
theorem Fr.drop {S T : List Addr} {H H1 H2 : Hp} (a : Fr S H H1) (b : Fr T H1 H2) (h : ∀ x ∈ T, x ∈ S ∨ H x = none) : Fr S H H2 :=
  ⟨fun c xs e => b.tup c xs (a.tup c xs e), fun c o u e => b.frz c o u (a.frz c o u e), fun c o n e => b.keep c o (fun z => (h c z).elim n fun r => by rw [r] at e; cases e) (a.keep c o n e)⟩
theorem Fr.over {S : List Addr} {H H1 : Hp} {p : Addr} (f : Fr S H H1) (n : H p = none) (o : HO) : Fr S H (upd H1 p o) :=
  ⟨fun a xs e => by rw [upd_ne (ne_of_none e n)]; exact f.tup a xs e, fun a b x e => by rw [upd_ne (ne_of_none e n)]; exact f.frz a b x e, fun a u hn e => by rw [upd_ne (ne_of_none e n)]; exact f.keep a u hn e⟩
theorem Fr.free {S : List Addr} {H H' : Hp} (a : Fr S H H') {p : Addr} (n : p ∉ S) (h : H' p = none) : H p = none := by
  cases q : H p with
  | none => rfl
  | some o => rw [a.keep p o n q] at h; cases h
theorem Fr.same {H H' : Hp} (a : Fr [] H H') : Same H H' := fun b o h => a.keep b o (by simp) h

/-! ### values of the language in the heap -/
/-- a tuple of vs, made or written -/
def TupAt (K : PySem.W.Frag) (H : Hp) (a : Addr) (vs : List V) : Prop :=
  (H a = some (.tup vs) ∨ ∃ o, H a = some (.frz o (.tup vs))) ∨ ∃ (o : Obj) (its : Array Value) (n : Nat), K.lookup a = some o ∧ o.cls = .type "tuple" ∧ o.data = .seq its n ∧ its.size ≤ sizeLine ∧ Vals vs its.toList
theorem TupAt.sq {K H a vs} (h : TupAt K H a vs) : SqT K H a vs := h
theorem TupAt.fr {K S H H' a vs} (f : Fr S H H') (h : TupAt K H a vs) : TupAt K H' a vs := h.elim (fun h => .inl (h.elim (fun h => .inl (f.tup _ _ h)) fun ⟨o, h⟩ => .inr ⟨o, f.frz _ _ _ h⟩)) .inr
theorem TupAt.of {K} {H : Hp} {a vs} (h : H a = some (.tup vs)) : TupAt K H a vs := .inl (.inl h)
theorem TupAt.ty {K H a vs} (h : TupAt K H a vs) : TyX K H (.ref a) (.type "tuple") := by
  rcases h with (h | ⟨o, h⟩) | ⟨o, its, n, h1, h2, _⟩
  · exact .base (.tup h)
  · exact .fTuple h
  · exact .kTuple h1 h2
mutual
def IsV (K : PySem.W.Frag) (H : Hp) : Val → V → Prop
  | .w s, v => v = .str s
  | .l xs, v => ∃ a vs, v = .ref a ∧ TupAt K H a vs ∧ IsVs K H xs vs
def IsVs (K : PySem.W.Frag) (H : Hp) : List Val → List V → Prop
  | [], vs => vs = []
  | x :: xs, vs => ∃ v r, vs = v :: r ∧ IsV K H x v ∧ IsVs K H xs r
end
mutual
theorem IsV.fr {K S H H'} (f : Fr S H H') : ∀ {x : Val} {v : V}, IsV K H x v → IsV K H' x v
  | .w s, v, h => h
  | .l xs, v, ⟨a, vs, e, t, r⟩ => ⟨a, vs, e, t.fr f, IsVs.fr f r⟩
theorem IsVs.fr {K S H H'} (f : Fr S H H') : ∀ {xs : List Val} {vs : List V}, IsVs K H xs vs → IsVs K H' xs vs
  | [], vs, h => h
  | x :: xs, vs, ⟨v, r, e, h, t⟩ => ⟨v, r, e, IsV.fr f h, IsVs.fr f t⟩
end
theorem IsVs.len {K H} : ∀ {xs : List Val} {vs : List V}, IsVs K H xs vs → vs.length = xs.length
  | [], _, h => by rw [h]; rfl
  | x :: xs, _, ⟨v, r, e, _, t⟩ => by rw [e, List.length_cons, List.length_cons, t.len]
theorem IsVs.get {K H} : ∀ {xs : List Val} {vs : List V} {i : Nat} {x : Val}, IsVs K H xs vs → xs[i]? = some x → ∃ v, vs[i]? = some v ∧ IsV K H x v
  | [], _, _, _, _, e => by simp at e
  | x :: xs, _, 0, y, ⟨v, r, e, h, t⟩, q => by
    simp at q
    subst q e
    exact ⟨v, rfl, h⟩
  | x :: xs, _, i + 1, y, ⟨v, r, e, h, t⟩, q => by
    subst e
    exact IsVs.get (i := i) t (by simpa using q)
theorem IsVs.app {K H} : ∀ {xs ys : List Val} {vs ws : List V}, IsVs K H xs vs → IsVs K H ys ws → IsVs K H (xs ++ ys) (vs ++ ws)
  | [], _, _, _, h, g => by rw [h]; exact g
  | x :: xs, _, _, _, ⟨v, r, e, h, t⟩, g => by rw [e]; exact ⟨v, _, rfl, h, IsVs.app t g⟩
theorem IsVs.cons {K H x xs v vs} (h : IsV K H x v) (t : IsVs K H xs vs) : IsVs K H (x :: xs) (v :: vs) := ⟨v, vs, rfl, h, t⟩
theorem IsVs.nil {K H} : IsVs K H [] [] := rfl
theorem IsVs.drop {K H} : ∀ {xs : List Val} {vs : List V} (n : Nat), IsVs K H xs vs → IsVs K H (xs.drop n) (vs.drop n)
  | _, _, 0, h => h
  | [], _, n + 1, h => by rw [h]; rfl
  | x :: xs, _, n + 1, ⟨v, r, e, _, t⟩ => by rw [e]; exact IsVs.drop n t
theorem IsVs.take {K H} : ∀ {xs : List Val} {vs : List V} (n : Nat), IsVs K H xs vs → IsVs K H (xs.take n) (vs.take n)
  | _, _, 0, h => rfl
  | [], _, n + 1, h => by rw [h]; rfl
  | x :: xs, _, n + 1, ⟨v, r, e, h, t⟩ => by rw [e]; exact ⟨v, _, rfl, h, IsVs.take n t⟩
theorem isV_w {K H s} : IsV K H (.w s) (.str s) := rfl
theorem isV_l {K H a vs xs} (t : TupAt K H a vs) (h : IsVs K H xs vs) : IsV K H (.l xs) (.ref a) := ⟨a, vs, rfl, t, h⟩
theorem isV_ws {K H} : ∀ {l : List Str}, IsVs K H (l.map .w) (l.map .str)
  | [] => rfl
  | s :: l => ⟨_, _, rfl, rfl, isV_ws⟩
theorem isVs_ws {K H} : ∀ {l : List Str} {vs : List V}, IsVs K H (l.map .w) vs → vs = l.map .str
  | [], _, h => h
  | s :: l, _, ⟨v, r, e, h, t⟩ => by rw [e, isVs_ws t, show v = .str s from h]; rfl

/-! ### the built-in names that the text leaves alone -/
structure Bn (mg : MG) : Prop where
  isinstance : mg "isinstance" = none
  len : mg "len" = none
  dict : mg "dict" = none
  str : mg "str" = none
  enumerate : mg "enumerate" = none
  int : mg "int" = none
  tuple : mg "tuple" = none
  range : mg "range" = none
  min : mg "min" = none
  max : mg "max" = none
  reversed : mg "reversed" = none
  list : mg "list" = none
  abs : mg "abs" = none
def isW : Val → Bool
  | .w _ => true
  | .l _ => false
theorem bIsi : bootBuiltins "isinstance" = some (.builtin "isinstance") := by decide +kernel
theorem bStr : bootBuiltins "str" = some (.type "str") := by decide +kernel
theorem bTup : bootBuiltins "tuple" = some (.type "tuple") := by decide +kernel
theorem bLen : bootBuiltins "len" = some (.builtin "len") := by decide +kernel
theorem bInt : bootBuiltins "int" = some (.type "int") := by decide +kernel
theorem bDict : bootBuiltins "dict" = some (.type "dict") := by decide +kernel
theorem bMin : bootBuiltins "min" = some (.builtin "min") := by decide +kernel
theorem bMax : bootBuiltins "max" = some (.builtin "max") := by decide +kernel
theorem bAbs : bootBuiltins "abs" = some (.builtin "abs") := by decide +kernel
theorem k_ss {K} : PySem.W.kitOne K (.type "str") (.type "str") = some true := kit_ty (by decide +kernel)
theorem k_ts {K} : PySem.W.kitOne K (.type "tuple") (.type "str") = some false := kit_ty (by decide +kernel)
theorem k_st {K} : PySem.W.kitOne K (.type "str") (.type "tuple") = some false := kit_ty (by decide +kernel)
theorem k_tt {K} : PySem.W.kitOne K (.type "tuple") (.type "tuple") = some true := kit_ty (by decide +kernel)
section
variable {X : Cx} {e : Expr} {te : TE} {p p2 pos : Pos}
/-- isinstance(e, str) | isinstance(e, tuple), e a value of the language -/
def tIsi (K : PySem.W.Frag) (c : String) (te : TE) : TE := tCB (rIsi K) (tCons te (tCons (tC (.ty c)) tNil))
theorem pe_isS (B : Bn X.mg) (he : PE X e te) (hg : Gl X "isinstance" := by rfl) (hg2 : Gl X "str" := by rfl) (h1 : starEach [e, .Name "str" p2] X.env = (false, eval e X.env) :: starEach [.Name "str" p2] X.env := by rfl) (h2 : (backTo pos (starEach [.Name "str" p2] X.env)).any (·.1) = false := by rfl) :
    PE X (.Call (.Name "isinstance" p) [e, .Name "str" p2] [] pos) (tIsi X.K "str" te) :=
  pe_callB call_isi hg B.isinstance bIsi (pa_cons he (pa_cons (pe_bltn (v := .ty "str") hg2 B.str bStr rfl) pa_nil) h1) (he := h1)
theorem pe_isT (B : Bn X.mg) (he : PE X e te) (hg : Gl X "isinstance" := by rfl) (hg2 : Gl X "tuple" := by rfl) (h1 : starEach [e, .Name "tuple" p2] X.env = (false, eval e X.env) :: starEach [.Name "tuple" p2] X.env := by rfl) :
    PE X (.Call (.Name "isinstance" p) [e, .Name "tuple" p2] [] pos) (tIsi X.K "tuple" te) :=
  pe_callB call_isi hg B.isinstance bIsi (pa_cons he (pa_cons (pe_bltn (v := .ty "tuple") hg2 B.tuple bTup rfl) pa_nil) h1) (he := h1)
theorem isiS {K : PySem.W.Frag} {H : Hp} {v : V} {x : Val} {Q : VK} (h : IsV K H x v) (q : Q (.bl (isW x)) H) : rIsi K [v, .ty "str"] H Q := by
  cases x with
  | w s => exact ⟨v, _, _, _, true, rfl, .ty _, by rw [show v = .str s from h]; exact .base (.str s), k_ss, q⟩
  | l xs =>
    obtain ⟨a, vs, rfl, t, _⟩ := h
    exact ⟨_, _, _, _, false, rfl, .ty _, t.ty, k_ts, q⟩
theorem isiT {K : PySem.W.Frag} {H : Hp} {v : V} {x : Val} {Q : VK} (h : IsV K H x v) (q : Q (.bl (!isW x)) H) : rIsi K [v, .ty "tuple"] H Q := by
  cases x with
  | w s => exact ⟨v, _, _, _, false, rfl, .ty _, by rw [show v = .str s from h]; exact .base (.str s), k_st, q⟩
  | l xs =>
    obtain ⟨a, vs, rfl, t, _⟩ := h
    exact ⟨_, _, _, _, true, rfl, .ty _, t.ty, k_tt, q⟩
end

theorem smallB {n : Nat} (h : n ≤ 10000000) : n < sizeLine := by rw [sizeLine_eq]; omega
/-! ### loops -/
section
variable {K : PySem.W.Frag} {a : Addr} {xs : List V} {g : TG} {tb : TS} {D : Ends} {σ : L2.St} {H : Hp}
theorem for_enumT (Pv : Nat → L2.St → Hp → Prop) (h0 : Pv 0 σ H) (hl : ∀ i σ H, i ≤ xs.length → Pv i σ H → SqT K H a xs)
    (hs : ∀ i x T σ H, xs[i]? = some x → H T = none → Pv i σ H → g (.ref T) σ (upd H T (.tup [.int (i : Nat), x])) fun σ2 H2 => tb { D with nx := Pv (i + 1), ct := Pv (i + 1), bk := D.nx } σ2 H2) (hd : ∀ σ H, Pv xs.length σ H → D.nx σ H) :
    ∃ W : Nat → Nat → L2.St → Hp → Prop, (∃ m, W 0 m σ H) ∧ ∀ i m σ H, W i m σ H →
      ((IteT K a xs.length).stop i H ∧ D.nx σ H) ∨ ((IteT K a xs.length).go i H ∧ ∃ N : L2.St → Hp → Prop, (∀ σ' H', N σ' H' → ∃ m', m' < m ∧ W (i + 1) m' σ' H') ∧ ∀ x H', (IteT K a xs.length).yld i H x H' → g x σ H' fun σ2 H2 => tb { D with nx := N, ct := N, bk := D.nx } σ2 H2) := by
  refine ⟨fun i m σ H => m = xs.length - i ∧ i ≤ xs.length ∧ Pv i σ H, ⟨xs.length, rfl, Nat.zero_le _, h0⟩, ?_⟩
  rintro i m σ H ⟨rfl, hi, p⟩
  have q := hl i σ H hi p
  by_cases hlt : i < xs.length
  · refine .inr ⟨⟨hlt, xs, q, rfl⟩, Pv (i + 1), fun σ' H' p' => ⟨xs.length - (i + 1), by omega, rfl, hlt, p'⟩, fun v H' y => ?_⟩
    obtain ⟨T, x, rfl, n, rfl, hx⟩ := y
    exact hs i x T σ H (hx xs q) n p
  · have e : i = xs.length := by omega
    subst e
    exact .inl ⟨⟨rfl, xs, q, rfl⟩, hd σ H p⟩
end
end Og

set_option Elab.async false
set_option linter.all false
set_option maxRecDepth 100000
set_option maxHeartbeats 4000000
/-! Og1: the defs of the module programs. -/
namespace Og
open PySem PySem.Spec PyProof.Rows L2
section
variable {P : Program} {w : World} {K : PySem.W.Frag} {mg : MG} {base : Heap}

/-! ### is_word -/
def spIsWord (K : PySem.W.Frag) : Sp := fun vs H Q _ => ∃ x v, vs = [v] ∧ IsV K H x v ∧ Q (.bl (isW x)) H
theorem sc_is_word : FnScope ["value"] ["value"] (defScope s_is_word) := ⟨rfl, rfl, rfl, by decide +kernel, rfl, by decide +kernel, by decide +kernel⟩
theorem ok_is_word (F : Fg K mg "is_word" s_is_word) (B : Bn mg) : Df P w K mg base "is_word" ["value"] 1 (spIsWord K) := by
  refine Df.of F sc_is_word (fun _ _ _ _ _ _ us hl => match us, hl with | [_], _ => rfl) (fun vs H Q E h => ?_) (fun f cdv A outer s H vs Q E hr h => ?_)
  · obtain ⟨x, v, rfl, _⟩ := h
    rfl
  obtain ⟨x, v, rfl, hv, q⟩ := h
  refine ⟨_, pss_one (ps_ret (pe_isS B (pv 0))), ?_⟩
  exact ⟨_, rfl, isiS hv q⟩

/-! ### has_head: of a function -/
def spHasHead (K : PySem.W.Frag) : Sp := fun vs H Q _ => ∃ (f : Fn) (v : V), vs = [v] ∧ IsV K H f.val v ∧ Q (.bl true) H
theorem sc_has_head : FnScope ["function"] ["function"] (defScope s_has_head) := ⟨rfl, rfl, rfl, by decide +kernel, rfl, by decide +kernel, by decide +kernel⟩
/-- a function's value taken apart -/
theorem fn_parts {H : Hp} {f : Fn} {v : V} (h : IsV K H f.val v) : ∃ a v1 v2 b c, v = .ref a ∧ TupAt K H a [.str f.name, .ref b, c] ∧ v1 = V.str f.name ∧ v2 = V.ref b ∧ TupAt K H b (f.ps.map .str) ∧ IsV K H f.body.val c := by
  obtain ⟨a, vs, rfl, t, v1, r1, e1, h1, v2, r2, e2, h2, v3, r3, e3, h3, e4⟩ := h
  obtain ⟨b, vs2, e5, t2, h5⟩ := h2
  have e6 : v1 = .str f.name := h1
  rw [isVs_ws h5] at t2
  subst e1 e2 e3 e5 e6
  rw [show r3 = [] from e4] at t
  exact ⟨a, _, _, b, v3, rfl, t, rfl, rfl, t2, h3⟩
theorem ok_has_head (F : Fg K mg "has_head" s_has_head) (B : Bn mg) (D : Df P w K mg base "is_word" ["value"] 1 (spIsWord K)) : Df P w K mg base "has_head" ["function"] 2 (spHasHead K) := by
  refine Df.of F sc_has_head (fun _ _ _ _ _ _ us hl => match us, hl with | [_], _ => rfl) (fun vs H Q E h => ?_) (fun f cdv A outer s H vs Q E hr h => ?_)
  · obtain ⟨x, v, rfl, _⟩ := h
    rfl
  obtain ⟨f, v, rfl, hv, q⟩ := h
  refine ⟨_, pss_one (ps_ret (pe_and (pe_not (pe_cf D hr (pa_cons (pv 0) pa_nil))) (pe_and (pe_cmpR op_eq (pe_callB call_len_seq (by rfl) B.len bLen (pa_cons (pv 0) pa_nil)) pe_int (nomark _))
    (pe_and (pe_cf D hr (pa_cons (pe_ix ix_tup (pv 0) pe_int (fun _ _ => rfl)) pa_nil)) (pe_one (pe_not (pe_cf D hr (pa_cons (pe_ix ix_tup (pv 0) pe_int (fun _ _ => rfl)) pa_nil)))))))), ?_⟩
  obtain ⟨a, _, _, b, c, rfl, t, _, _, t2, hb⟩ := fn_parts hv
  refine ⟨_, rfl, f.val, _, rfl, hv, _, rfl, true, rfl, ?_⟩
  refine iteT ?_
  refine ⟨_, rfl, a, _, rfl, .inr t.sq, rfl, true, rfl, ?_⟩
  refine iteT ?_
  refine ⟨_, rfl, a, _, _, _, rfl, rfl, t.sq, rfl, .w f.name, _, rfl, rfl, true, rfl, ?_⟩
  refine iteT ?_
  exact ⟨_, rfl, a, _, _, _, rfl, rfl, t.sq, rfl, .l (f.ps.map .w), _, rfl, isV_l t2 isV_ws, _, rfl, q⟩

/-! ### counts_of -/
def sigs (p : Prog) : List (Str × Int) := p.map fun f => (f.name, (f.ps.length : Int))
/-- how many parts belong to a first word -/
def ar (p : Prog) (x : Str) : Option Int := (SWt ++ sigs p).lookup x
theorem lookup_snoc (l : List (Str × Int)) (k : Str) (v : Int) (x : Str) : (l ++ [(k, v)]).lookup x = (l.lookup x).or (if k = x then some v else none) := by
  induction l with
  | nil =>
    show (match x == k with | true => some v | false => none) = _
    by_cases e : k = x
    · rw [if_pos e, beq_iff_eq.mpr e.symm]; rfl
    · rw [if_neg e, beq_eq_false_iff_ne.mpr (Ne.symm e)]; rfl
  | cons q l ih =>
    show (match x == q.1 with | true => some q.2 | false => (l ++ [(k, v)]).lookup x) = (match x == q.1 with | true => some q.2 | false => l.lookup x).or _
    cases x == q.1
    · exact ih
    · rfl
theorem ar_succ (p : Prog) (i : Nat) (f : Fn) (h : p[i]? = some f) (x : Str) : ar (p.take (i + 1)) x = (ar (p.take i) x).or (if f.name = x then some (f.ps.length : Int) else none) := by
  have e : p.take (i + 1) = p.take i ++ [f] := by rw [List.take_add_one, h]; rfl
  rw [e]
  unfold ar sigs
  rw [List.map_append, ← List.append_assoc]
  exact lookup_snoc _ _ _ _
def kSW : List (Key × V) := SWt.map fun p => ((Sum.inr p.1 : Key), V.int p.2)
theorem kSW_val (x : Str) : valV kSW (Sum.inr x) = (ar [] x).map V.int := by
  have go : ∀ l : List (Str × Int), valV (l.map fun p => ((Sum.inr p.1 : Key), V.int p.2)) (Sum.inr x) = (l.lookup x).map V.int := fun l => by
    induction l with
    | nil => rfl
    | cons q l ih =>
      show valV (((Sum.inr q.1 : Key), V.int q.2) :: _) (Sum.inr x) = (match x == q.1 with | true => some q.2 | false => l.lookup x).map V.int
      by_cases e : q.1 = x
      · rw [valV_pos (by rw [e]), beq_iff_eq.mpr e.symm]; rfl
      · rw [valV_neg (fun z => e (Sum.inr.inj z)), beq_eq_false_iff_ne.mpr (Ne.symm e)]
        exact ih
  simp only [ar, sigs, List.map_nil, List.append_nil]
  exact go SWt
/-- the module's written dict x -/
def GTab (K : PySem.W.Frag) (w : World) (mg : MG) (x : Str) (kvs : List (Str × Int)) : Prop := ∃ d, mg x = some (.ref d) ∧ KTab K w d kvs
/-- a program's value -/
theorem prog_parts {H : Hp} {p : Prog} {v : V} (h : IsV K H p.val v) : ∃ a vs, v = .ref a ∧ TupAt K H a vs ∧ IsVs K H (p.map Fn.val) vs ∧ vs.length = p.length := by
  obtain ⟨a, vs, e, t, r⟩ := h
  exact ⟨a, vs, e, t, r, by rw [r.len, List.length_map]⟩
theorem prog_get {H : Hp} {p : Prog} {vs : List V} {i : Nat} {x : V} (r : IsVs K H (p.map Fn.val) vs) (h : vs[i]? = some x) : ∃ f, p[i]? = some f ∧ IsV K H f.val x := by
  have hi : i < vs.length := (List.getElem?_eq_some_iff.mp h).1
  have hl := r.len
  rw [List.length_map] at hl
  have e : (p.map Fn.val)[i]? = some p[i].val := by rw [List.getElem?_map, List.getElem?_eq_getElem (by omega)]; rfl
  obtain ⟨v, h2, h3⟩ := r.get e
  rw [h] at h2
  cases h2
  exact ⟨p[i], List.getElem?_eq_getElem (by omega), h3⟩
def spCounts (K : PySem.W.Frag) : Sp := fun vs H Q _ => ∃ (p : Prog) (v : V), vs = [v] ∧ IsV K H p.val v ∧ p.length ≤ 1000 ∧
  ∀ H' d kvs, Fr [] H H' → H d = none → H' d = some (.dK kvs) → (∀ x, valV kvs (.inr x) = (ar p x).map V.int) → Q (.ref d) H'
theorem sc_counts_of : FnScope ["program", "counts", "function"] ["program"] (defScope s_counts_of) := ⟨rfl, rfl, rfl, by decide +kernel, rfl, by decide +kernel, by decide +kernel⟩
theorem ok_counts_of (F : Fg K mg "counts_of" s_counts_of) (B : Bn mg) (D : Df P w K mg base "has_head" ["function"] 2 (spHasHead K)) (G : GTab K w mg "SPECIAL_WORDS" SWt) : Df P w K mg base "counts_of" ["program"] 3 (spCounts K) := by
  refine Df.of F sc_counts_of (fun _ _ _ _ _ _ us hl => match us, hl with | [_], _ => rfl) (fun vs H Q E h => ?_) (fun f cdv A outer s H vs Q E hr h => ?_)
  · obtain ⟨x, v, rfl, _⟩ := h
    rfl
  obtain ⟨p, v, rfl, hv, hz, q⟩ := h
  obtain ⟨d0, m0, T⟩ := G
  have hu := hu_of hr
  refine ⟨_, pss_cons (ps_set (i := 1) sc_counts_of.nd rfl (.inl rfl) (pe_callTy (call_dict_tab T (by decide)) (by rfl) B.dict bDict (pa_cons (pe_glob (v := .ref d0) rfl m0 rfl) pa_nil)))
    (pss_cons (ps_for PassesOwn.never rfl (pi_tup (pv 0)) (pg_name (i := 2) sc_counts_of.nd rfl (.inl rfl))
      (pss_one (ps_if (PW.pt (pw_and (pt_val (pe_cf D hr (pa_cons (pv 2) pa_nil))) (pw_and1 (pt_cmp (pc_dnotin hu (pe_ix ix_tup (pv 2) pe_int (fun _ _ => rfl)) (pv 1))))))
        (pss_one (ps_dput hu (pv 1) (pe_ix ix_tup (pv 2) pe_int (fun _ _ => rfl)) (pe_callB call_len_seq (by rfl) B.len bLen (pa_cons (pe_ix ix_tup (pv 2) pe_int (fun _ _ => rfl)) pa_nil)) rfl)) pss_nil)))
    (pss_one (ps_ret (pv 1)))), ?_⟩
  obtain ⟨a, us, rfl, t, r, hl⟩ := prog_parts hv
  refine ⟨rfl, fun d hd => ?_⟩
  refine ⟨_, rfl, a, rfl, ⟨_, (t.fr (Fr.new (S := []) hd _)).sq⟩, for_tup (K := K) (a := a) (xs := us) (fun i σ H' => ∃ x kvs, σ = [some (.ref a), some (.ref d), x] ∧ Fr [] H H' ∧ H' d = some (.dK kvs) ∧ kvs.length ≤ 7 + i ∧ ∀ x, valV kvs (.inr x) = (ar (p.take i) x).map V.int)
    ⟨none, kSW, rfl, Fr.new hd _, upd_same, by decide, fun x => kSW_val x⟩ (fun i σ H' _ ⟨_, _, _, f, _⟩ => (t.fr f).sq) ?_ ?_⟩
  · rintro i x σ H' hx ⟨x0, kvs, rfl, f, e, hlen, hval⟩
    have hi : i < us.length := (List.getElem?_eq_some_iff.mp hx).1
    obtain ⟨fn, hfn, hfv⟩ := prog_get r hx
    have hfv' := hfv.fr f
    obtain ⟨b, _, _, c, bd, rfl, t1, _, _, t2, _⟩ := fn_parts hfv'
    refine ⟨_, rfl, fn, _, rfl, hfv', true, rfl, ?_⟩
    refine iteT ?_
    refine ⟨_, rfl, b, _, _, _, rfl, rfl, t1.sq, rfl, _, rfl, d, _, rfl, DGet.k (k := Sum.inr fn.name) e, _, rfl, ?_⟩
    rw [hval fn.name]
    have hs := ar_succ p i fn hfn
    cases hc : ar (p.take i) fn.name with
    | some n =>
      refine iteF ?_
      refine ⟨_, kvs, rfl, f, e, by omega, fun x => ?_⟩
      rw [hs x, hval x]
      by_cases ex : fn.name = x
      · rw [← ex, hc]; rfl
      · rw [if_neg ex, Option.or_none]
    | none =>
      refine iteT ?_
      refine ⟨_, rfl, b, _, _, _, rfl, rfl, t1.sq, rfl, c, _, rfl, .inr t2.sq, _, rfl, _, rfl, b, _, _, _, rfl, rfl, t1.sq, rfl, d, _, rfl, DPut.k (k := Sum.inr fn.name) e (smallB (by omega)), ?_⟩
      have nd : H d = none := hd
      refine ⟨_, _, rfl, f.over nd _, upd_same, ?_, fun x => ?_⟩
      · have := length_putK kvs (Sum.inr fn.name : Key) (V.int ((fn.ps.map V.str).length : Nat))
        omega
      · rw [valV_put, hs x]
        by_cases ex : fn.name = x
        · rw [if_pos (by rw [ex]), if_pos ex, ← ex, hc, List.length_map]; rfl
        · rw [if_neg (fun z => ex (Sum.inr.inj z).symm), if_neg ex, Option.or_none]
          exact hval x
  · rintro σ H' ⟨x0, kvs, rfl, f, e, hlen, hval⟩
    refine ⟨_, rfl, ?_⟩
    rw [hl, List.take_length] at hval
    exact q H' d kvs f hd e hval
end
end Og

set_option Elab.async false
set_option linter.all false
set_option maxRecDepth 100000
set_option maxHeartbeats 4000000
/-! Og1b: names and parameters. -/
namespace Og
open PySem PySem.Spec PyProof.Rows L2

/-! ### name_fits -/
def figs (x : Str) : Str := cutS x (some 1) none
def strp (x : Str) : Str := Txt.stripChars x "0123456789"
/-- a name that may stand among m functions -/
def NameOk (x : Str) (m : Int) : Prop := ∃ c, atI x.cps.toList 0 = some c ∧ x.length ≤ 600 ∧ (figs x).length ≤ 600 ∧ ((!decide (V.str ⟨#[c]⟩ = V.str "f")) = true ∨ (decide (V.str (figs x) = V.str "")) = true ∨ (!decide (V.str (strp (figs x)) = V.str "")) = true ∨
  ∃ e n, atI (figs x).cps.toList 0 = some e ∧ PySem.intText? (figs x) = some n ∧ n < m ∧ ((decide (V.str (figs x) = V.str "0")) = true ∨ (!decide (V.str ⟨#[e]⟩ = V.str "0")) = true))
def nameB (x : Str) (m : Int) : Bool := match atI x.cps.toList 0 with
  | none => false
  | some c => decide (x.length ≤ 600) && (decide ((figs x).length ≤ 600) && ((!decide (V.str ⟨#[c]⟩ = V.str "f")) || (decide (V.str (figs x) = V.str "") || ((!decide (V.str (strp (figs x)) = V.str "")) || (match atI (figs x).cps.toList 0, PySem.intText? (figs x) with
    | some e, some n => decide (n < m) && (decide (V.str (figs x) = V.str "0") || (!decide (V.str ⟨#[e]⟩ = V.str "0")))
    | _, _ => false)))))
theorem nameB_ok {x : Str} {m : Int} (h : nameB x m = true) : NameOk x m := by
  unfold nameB at h
  cases e : atI x.cps.toList 0 with
  | none => rw [e] at h; cases h
  | some c =>
    rw [e] at h
    simp only [Bool.and_eq_true, Bool.or_eq_true, decide_eq_true_eq] at h
    obtain ⟨h1, h2, h3⟩ := h
    refine ⟨c, e, h1, h2, ?_⟩
    rcases h3 with h3 | h3 | h3 | h3
    · exact .inl h3
    · exact .inr (.inl (decide_eq_true h3))
    · exact .inr (.inr (.inl h3))
    · refine .inr (.inr (.inr ?_))
      cases e2 : atI (figs x).cps.toList 0 with
      | none => rw [e2] at h3; cases h3
      | some d =>
        cases e3 : PySem.intText? (figs x) with
        | none => rw [e2, e3] at h3; cases h3
        | some n =>
          rw [e2, e3] at h3
          simp only [Bool.and_eq_true, Bool.or_eq_true, decide_eq_true_eq] at h3
          exact ⟨d, n, rfl, rfl, h3.1, h3.2.elim (fun z => .inl (decide_eq_true z)) .inr⟩
theorem names_ok : ∀ i < 19, ∀ m < 20, i < m → nameB (fN i) (m : Nat) = true := by decide +kernel
section
variable {P : Program} {w : World} {K : PySem.W.Frag} {mg : MG} {base : Heap}
def spName : Sp := fun vs H Q _ => ∃ (x : Str) (d : Addr) (kvs : List (Key × V)) (m : Int), vs = [.str x, .ref d, .int m] ∧ H d = some (.dK kvs) ∧ SWt.lookup x = none ∧ valV kvs (.inr x) = none ∧ NameOk x m ∧ Q (.bl true) H
theorem sc_name_fits : FnScope ["name", "names", "many", "figures"] ["name", "names", "many"] (defScope s_name_fits) := ⟨rfl, rfl, rfl, by decide +kernel, rfl, by decide +kernel, by decide +kernel⟩
theorem ok_name_fits (F : Fg K mg "name_fits" s_name_fits) (B : Bn mg) (G : GTab K w mg "SPECIAL_WORDS" SWt) (gF : ∃ t, mg "FIGURES" = some (.str "0123456789" t)) : Df P w K mg base "name_fits" ["name", "names", "many"] 1 spName := by
  refine Df.of F sc_name_fits (fun _ _ _ _ _ _ us hl => match us, hl with | [_, _, _], _ => rfl) (fun vs H Q E h => ?_) (fun f cdv A outer s H vs Q E hr h => ?_)
  · obtain ⟨x, d, kvs, m, rfl, _⟩ := h
    rfl
  obtain ⟨x, d, kvs, m, rfl, hd, h1, h2, h3, q⟩ := h
  obtain ⟨d0, m0, T⟩ := G
  obtain ⟨tf, gf⟩ := gF
  have hu := hu_of hr
  refine ⟨_, pss_cons (ps_if (PW.pt (pw_or (pt_cmpR (op_in_tab T) (pv 0) (pe_glob (v := .ref d0) rfl m0 rfl) (by rfl)) (pw_or1 (pt_cmp (pc_din hu (pv 0) (pv 1)))))) (pss_one (ps_ret pe_bl)) pss_nil)
    (pss_cons (ps_set (i := 3) sc_name_fits.nd rfl (.inl rfl) (pe_slice sl_str (pv 0) (po_some pe_int) po_none))
    (pss_cons (ps_if (PW.pt (pw_or (pt_cmpR op_ne (pe_ix ix_str (pv 0) pe_int (fun _ _ => rfl)) pe_str (nomark _)) (pw_or (pt_cmpR op_eq (pv 3) pe_str (nomark _)) (pw_or1 (pt_cmpR op_ne (pe_m1 PySem.F.slot_str_strip PySem.F.type_str_strip mt_stripChars (pv 3) (pe_glob (v := .str "0123456789") rfl gf ⟨_, rfl⟩)) pe_str (nomark _))))))
      (pss_one (ps_ret pe_bl)) pss_nil)
    (pss_one (ps_ret (pe_and (pe_or (pe_cmpR op_eq (pv 3) pe_str (nomark _)) (pe_one (pe_cmpR op_ne (pe_ix ix_str (pv 3) pe_int (fun _ _ => rfl)) pe_str (nomark _)))) (pe_one (pe_cmpR op_lt (pe_callTy call_int_str (by rfl) B.int bInt (pa_cons (pv 3) pa_nil)) (pv 2) (nomark _)))))))), ?_⟩
  obtain ⟨c, e0, l0, l1, h4⟩ := h3
  have z0 : x.length ≤ sizeLine := Nat.le_of_lt (smallB (by omega))
  have z1 : (figs x).length ≤ sizeLine := Nat.le_of_lt (smallB (by omega))
  refine ⟨_, rfl, x, rfl, rfl, _, rfl, ?_⟩
  rw [h1]
  refine iteF ?_
  refine ⟨_, rfl, _, rfl, d, _, rfl, DGet.k (k := Sum.inr x) hd, _, rfl, ?_⟩
  rw [h2]
  refine iteF ?_
  refine ⟨_, rfl, 1, rfl, x, rfl, z0, ?_⟩
  refine ⟨_, rfl, x, 0, c, rfl, rfl, z0, e0, rfl, _, rfl, ?_⟩
  refine ite2 (fun b1 => iteT q) (fun b1 => ?_)
  refine ⟨_, rfl, rfl, _, rfl, ?_⟩
  refine ite2 (fun b2 => iteT q) (fun b2 => ?_)
  refine ⟨_, rfl, ⟨_, rfl⟩, figs x, "0123456789", rfl, rfl, z1, rfl, _, rfl, ?_⟩
  refine ite2 (fun b3 => q) (fun b3 => ?_)
  have h5 : ∃ e n, atI (figs x).cps.toList 0 = some e ∧ PySem.intText? (figs x) = some n ∧ n < m ∧ ((decide (V.str (figs x) = V.str "0")) = true ∨ (!decide (V.str ⟨#[e]⟩ = V.str "0")) = true) := by
    rcases h4 with h4 | h4 | h4 | h4
    · exact absurd h4 b1
    · exact absurd h4 b2
    · exact absurd h4 b3
    · exact h4
  obtain ⟨e, n, g1, g2, g3, g4⟩ := h5
  have last : ∀ R : VK, R (.bl true) H → ∀ k : V, k = .bl true → R k H := fun R r k z => by rw [z]; exact r
  refine ⟨_, rfl, rfl, _, rfl, ?_⟩
  have fin : Q (.bl (decide (n < m))) H := by rw [decide_eq_true g3]; exact q
  refine ite2 (fun b4 => ?_) (fun b4 => ?_)
  · refine ⟨true, rfl, iteT ?_⟩
    exact ⟨_, rfl, figs x, n, rfl, g2, Nat.le_trans l1 (by decide), _, rfl, n, m, rfl, rfl, fin⟩
  · have b5 : (!decide (V.str ⟨#[e]⟩ = V.str "0")) = true := by
      rcases g4 with g4 | g4
      · exact absurd g4 b4
      · exact g4
    refine ⟨_, rfl, figs x, 0, e, rfl, rfl, z1, g1, rfl, _, rfl, ?_⟩
    rw [b5]
    refine iteT ?_
    exact ⟨_, rfl, figs x, n, rfl, g2, Nat.le_trans l1 (by decide), _, rfl, n, m, rfl, rfl, fin⟩
end
end Og

set_option Elab.async false
set_option linter.all false
set_option maxRecDepth 100000
set_option maxHeartbeats 4000000
/-! OgRules2: xs.extend(a tuple). -/
namespace Og
open PySem PySem.Spec PyProof.Rows L2
theorem ext_tuple (l : Addr) (items : Array Value) (n : Nat) (b : Addr) (items2 : Array Value) (n2 : Nat) (dd : Option Addr) (sl : Array (Option Value)) (hs0 : ¬(!items.isEmpty && Builtin.List.listTooLong (items.size + items2.size)) = true) (hs1 : items.size ≤ sizeLine) (hs2 : items.size + items2.size ≤ sizeLine + 1) :
    Meets (Builtin.«list.extend» ⟨[.ref l, .ref b], []⟩) (fun _ R s => s.heap.get? l = some { cls := .type "list", dict := none, data := .seq items n, slots := #[] } ∧ s.heap.get? b = some { cls := .type "tuple", dict := dd, data := .seq items2 n2, slots := sl } ∧ R (.ok (.ret Value.none)) { s with heap := s.heap.update l (Obj.mapSeq fun x => x ++ items2), toks := s.toks }) :=
  .of_wp fun prog w A R s h => by
    obtain ⟨hp, g, d, tk, os⟩ := s; obtain ⟨hl, hb, h⟩ := h
    have f1 := AutoSeq1.idx_int; have f2 := AutoSeq1.sub_tuple_tuple; have f3 := AutoSeq1.sub_list_list; have f4 := AutoSeq1.sub_tuple_list; have f5 := AutoSeq1.sub_list_tuple
    have hz' : (items ++ items2).size ≤ sizeLine + 1 := by rw [Array.size_append]; exact hs2
    wp_walk using (wpAny_updateSeq hl rfl (hz := hs1) (_hz' := hz')), AutoSeq1.wpAny_loadPart' hl, AutoSeq1.wpAny_loadPart' hb; exact ⟨_, rfl, h⟩
def rExtT (K : PySem.W.Frag) : V → List V → Hp → VK → Prop := fun x vs H Q => ∃ l b xs zs, x = .ref l ∧ vs = [.ref b] ∧ H l = some (.lst xs) ∧ SqT K H b zs ∧ xs.length + zs.length ≤ sizeLine ∧ Q .non (upd H l (.lst (xs ++ zs)))
section
variable {X : Cx}
theorem mt_extendT : MtM X "list.extend" (rExtT X.K) := by
  intro pins s σ H x vs v us Q I rx rv h
  obtain ⟨l, b, xs, zs, rfl, rfl, hH, hB, hz, q⟩ := h
  cases rx
  obtain ⟨u, rfl, ru⟩ := rv.one
  cases ru
  obtain ⟨z, its, n, r, hl, e⟩ := I.lstM hH
  obtain ⟨its2, r2, ⟨⟨cls, dd, data, sl⟩, ho, hc, n2, hd⟩, hs⟩ := I.tuple hB
  simp only at hc hd
  subst hc hd
  have hl2 : zs.length = its2.length := r2.length
  have hsz : its.toArray.size + its2.toArray.size ≤ sizeLine := by rw [List.size_toArray, List.size_toArray]; omega
  have hlong : ¬ (!its.toArray.isEmpty && Builtin.List.listTooLong (its.toArray.size + its2.toArray.size)) = true := by
    rw [notLongL hsz, Bool.and_false]
    exact Bool.false_ne_true
  refine call_meets F.slot_list_extend ⟨_, e, rfl⟩ F.entry_list_extend (F.args_list_extend_2 _ _)
    (ext_tuple l its.toArray n b its2.toArray n2 dd sl hlong (by rw [List.size_toArray]; omega) (by omega)) ⟨e, ho, ?_⟩
  refine ⟨.non, _, I.lset (its' := its ++ its2) hH e (by simp) (r.append r2) ?_, rfl, q⟩
  rw [List.length_append]
  omega
end
/-! ### slices of tuples -/
theorem cut_drop (xs : List V) (k : Nat) : cutV xs (some (k : Int)) none = xs.drop k := by
  unfold cutV
  rw [HT.sIx_nat, HT.sIx_none]
  rcases Nat.le_total k xs.length with h | h
  · rw [Nat.min_eq_left h, List.take_of_length_le (by rw [List.length_drop]; omega)]
  · rw [Nat.min_eq_right h, List.drop_eq_nil_of_le h, List.drop_eq_nil_of_le (Nat.le_refl _), List.take_nil]
theorem cut_take (xs : List V) (k : Nat) : cutV xs none (some (k : Int)) = xs.take k := by
  unfold cutV
  rw [HT.sIx_nat, HT.sIx_none, List.drop_zero, Nat.sub_zero]
  rcases Nat.le_total k xs.length with h | h
  · rw [Nat.min_eq_left h]
  · rw [Nat.min_eq_right h, List.take_length, List.take_of_length_le h]
/-- t[1:] of a tuple that is not empty -/
theorem sl_tail {K : PySem.W.Frag} {H : Hp} {a : Addr} {xs : List V} {Q : VK} (t : TupAt K H a xs) (ne : xs ≠ []) (q : ∀ p, H p = none → Q (.ref p) (upd H p (.tup (xs.drop 1)))) : rSlT K (.ref a) (some 1) none H Q := by
  have hl : 0 < xs.length := List.length_pos_iff.mpr ne
  refine ⟨a, xs, rfl, t.sq, fun h => ?_, fun p hp => ?_⟩
  · have h1 := h.1
    rw [show (some 1 : Option Int) = some ((1 : Nat) : Int) from rfl, HT.sIx_nat] at h1
    omega
  · rw [show (some 1 : Option Int) = some ((1 : Nat) : Int) from rfl, cut_drop]
    exact q p hp
/-- t[:k], k below its length -/
theorem sl_take {K : PySem.W.Frag} {H : Hp} {a : Addr} {xs : List V} {Q : VK} {k : Nat} (t : TupAt K H a xs) (lt : k < xs.length) (q : ∀ p, H p = none → Q (.ref p) (upd H p (.tup (xs.take k)))) : rSlT K (.ref a) none (some (k : Int)) H Q := by
  refine ⟨a, xs, rfl, t.sq, fun h => ?_, fun p hp => ?_⟩
  · have h1 := h.2
    rw [HT.sIx_nat] at h1
    omega
  · rw [cut_take]
    exact q p hp
/-! ### a while by a ghost -/
theorem while_g {c : TT} {tb : TS} {D : Ends} {σ : L2.St} {H : Hp} {G : Type} (Pv : G → L2.St → Hp → Prop) (mu : G → Nat) (g0 : G) (h0 : Pv g0 σ H)
    (hs : ∀ g σ H, Pv g σ H → c σ H fun b H1 => if b = true then ∃ N : L2.St → Hp → Prop, (∀ σ' H', N σ' H' → ∃ m', m' < mu g ∧ ∃ g', m' = mu g' ∧ Pv g' σ' H') ∧ tb { D with nx := N, ct := N, bk := D.nx } σ H1 else D.nx σ H1) : tWhile c tb D σ H := by
  refine ⟨fun m σ H => ∃ g, m = mu g ∧ Pv g σ H, ⟨_, g0, rfl, h0⟩, ?_⟩
  rintro m σ H ⟨g, rfl, p⟩
  exact hs g σ H p
theorem while_n {G : Type} {Pv : G → L2.St → Hp → Prop} {mu : G → Nat} {g : G} : ∀ σ' H', (∃ g', mu g' < mu g ∧ Pv g' σ' H') → ∃ m', m' < mu g ∧ ∃ g', m' = mu g' ∧ Pv g' σ' H' := fun σ' H' ⟨g', l, p⟩ => ⟨_, l, g', rfl, p⟩
theorem at0 {α : Type} {x : α} {r : List α} : atI (x :: r) 0 = some x := atI_nat (j := 0) rfl
theorem snoc_cases {α : Type} (l : List α) : l = [] ∨ ∃ a x, l = a ++ [x] := by
  rcases List.eq_nil_or_concat l with h | ⟨a, x, h⟩
  · exact .inl h
  · exact .inr ⟨a, x, by rw [h, List.concat_eq_append]⟩
theorem pop_at {α : Type} (xs : List α) (x : α) : (xs ++ [x])[(xs ++ [x]).length - 1]? = some x := by
  rw [List.length_append, List.length_singleton, Nat.add_sub_cancel, List.getElem?_append_right (Nat.le_refl _), Nat.sub_self]; rfl
theorem IsVs.split {K : PySem.W.Frag} {H : Hp} : ∀ {xs ys : List Val} {vs : List V}, IsVs K H (xs ++ ys) vs → ∃ a b, vs = a ++ b ∧ IsVs K H xs a ∧ IsVs K H ys b
  | [], _, vs, h => ⟨[], vs, rfl, rfl, h⟩
  | x :: xs, ys, _, ⟨v, r, e, h, t⟩ => let ⟨a, b, e2, h2, h3⟩ := IsVs.split t; ⟨v :: a, b, by rw [e, e2]; rfl, ⟨v, a, rfl, h, h2⟩, h3⟩
theorem IsVs.one {K : PySem.W.Frag} {H : Hp} {x : Val} {v : V} (h : IsV K H x v) : IsVs K H [x] [v] := ⟨v, [], rfl, h, rfl⟩
theorem IsVs.one_inv {K : PySem.W.Frag} {H : Hp} {x : Val} {vs : List V} (h : IsVs K H [x] vs) : ∃ v, vs = [v] ∧ IsV K H x v := let ⟨v, r, e, h, t⟩ := h; ⟨v, by rw [e, show r = [] from t], h⟩
/-! ### texts in lists of texts -/
theorem inV_str (x : Str) (l : List Str) : inV (.str x) (l.map .str) = decide (x ∈ l) := by
  unfold inV
  induction l with
  | nil => rfl
  | cons y l ih =>
    rw [List.map_cons, List.any_cons, ih]
    show ((y == x) || decide (x ∈ l)) = _
    by_cases e : y = x
    · subst e
      rw [beq_self_eq_true, Bool.true_or, decide_eq_true (List.mem_cons_self ..)]
    · rw [beq_eq_false_iff_ne.mpr e, Bool.false_or]
      by_cases m : x ∈ l
      · rw [decide_eq_true m, decide_eq_true (List.mem_cons_of_mem _ m)]
      · rw [decide_eq_false m, decide_eq_false fun z => by rcases List.mem_cons.mp z with z | z; exact e z.symm; exact m z]
theorem flat_strs (l : List Str) : (l.map V.str).all flatV = true := by
  induction l with
  | nil => rfl
  | cons y l ih => rw [List.map_cons, List.all_cons, ih]; rfl
/-! ### t[1:] -/
def rTail (K : PySem.W.Frag) : V → Option Int → Option Int → Hp → VK → Prop := fun x lo hi H Q => lo = some 1 ∧ hi = none ∧ ∃ a xs, x = .ref a ∧ TupAt K H a xs ∧ xs ≠ [] ∧ ∀ p, H p = none → Q (.ref p) (upd H p (.tup (xs.drop 1)))
theorem sl_tailR {X : Cx} : SlR X (rTail X.K) := by
  intro pins s σ H x v vl vu lo hi sl Q I rx hs pl pu h
  obtain ⟨rfl, rfl, a, xs, rfl, t, ne, q⟩ := h
  exact sl_tup pins s σ H _ v vl vu _ _ sl Q I rx hs pl pu (sl_tail t ne q)
/-! ### t + u, any tuples -/
def rCatS (K : PySem.W.Frag) : R2 := fun x y H Q => ∃ a b xs ys, x = .ref a ∧ y = .ref b ∧ TupAt K H a xs ∧ TupAt K H b ys ∧ xs.length + ys.length ≤ sizeLine ∧ ∀ p H', Fr [] H H' → TupAt K H' p (xs ++ ys) → Q (.ref p) H'
theorem op_catS {X : Cx} : OpR X (binaryOp .Add) (rCatS X.K) := by
  intro pins s σ H x y v u Q I rx ry h
  obtain ⟨a, b, xs, ys, rfl, rfl, ha, hb, hz, q⟩ := h
  refine op_catA pins s σ H _ _ v u Q I rx ry ⟨a, b, xs, ys, rfl, rfl, ha.sq, hb.sq, hz, fun e => ?_, fun _ e => ?_, fun _ _ p hp => ?_⟩
  · subst e
    exact q b H (Fr.refl _ _) hb
  · subst e
    exact q a H (Fr.refl _ _) (by rw [List.append_nil]; exact ha)
  · exact q p _ (Fr.new hp _) (.of upd_same)
/-! ### two lists side by side -/
def All2 {G : Type} (R : G → V → Prop) : List G → List V → Prop
  | [], vs => vs = []
  | x :: xs, vs => ∃ v r, vs = v :: r ∧ R x v ∧ All2 R xs r
section
variable {G : Type} {R S : G → V → Prop}
theorem All2.imp (h : ∀ x v, R x v → S x v) : ∀ {xs : List G} {vs : List V}, All2 R xs vs → All2 S xs vs
  | [], _, e => e
  | x :: xs, _, ⟨v, r, e, a, t⟩ => ⟨v, r, e, h x v a, All2.imp h t⟩
theorem All2.len : ∀ {xs : List G} {vs : List V}, All2 R xs vs → vs.length = xs.length
  | [], _, h => by rw [h]; rfl
  | x :: xs, _, ⟨v, r, e, _, t⟩ => by rw [e, List.length_cons, List.length_cons, All2.len t]
theorem All2.app : ∀ {xs ys : List G} {vs ws : List V}, All2 R xs vs → All2 R ys ws → All2 R (xs ++ ys) (vs ++ ws)
  | [], _, _, _, h, g => by rw [h]; exact g
  | x :: xs, _, _, _, ⟨v, r, e, h, t⟩, g => by rw [e]; exact ⟨v, _, rfl, h, All2.app t g⟩
theorem All2.split : ∀ {xs ys : List G} {vs : List V}, All2 R (xs ++ ys) vs → ∃ a b, vs = a ++ b ∧ All2 R xs a ∧ All2 R ys b
  | [], _, vs, h => ⟨[], vs, rfl, rfl, h⟩
  | x :: xs, ys, _, ⟨v, r, e, h, t⟩ => let ⟨a, b, e2, h2, h3⟩ := All2.split t; ⟨v :: a, b, by rw [e, e2]; rfl, ⟨v, a, rfl, h, h2⟩, h3⟩
theorem All2.one {x : G} {v : V} (h : R x v) : All2 R [x] [v] := ⟨v, [], rfl, h, rfl⟩
theorem All2.one_inv {x : G} {vs : List V} (h : All2 R [x] vs) : ∃ v, vs = [v] ∧ R x v := let ⟨v, r, e, h, t⟩ := h; ⟨v, by rw [e, show r = [] from t], h⟩
theorem All2.get : ∀ {xs : List G} {vs : List V} {i : Nat} {x : G}, All2 R xs vs → xs[i]? = some x → ∃ v, vs[i]? = some v ∧ R x v
  | [], _, _, _, _, e => by simp at e
  | x :: xs, _, 0, y, ⟨v, r, e, h, t⟩, q => by
    simp at q
    subst q e
    exact ⟨v, rfl, h⟩
  | x :: xs, _, i + 1, y, ⟨v, r, e, h, t⟩, q => by
    subst e
    exact All2.get (i := i) t (by simpa using q)
theorem All2.get' {xs : List G} {vs : List V} {i : Nat} {v : V} (h : All2 R xs vs) (e : vs[i]? = some v) : ∃ x, xs[i]? = some x ∧ R x v := by
  have hi : i < vs.length := (List.getElem?_eq_some_iff.mp e).1
  have hl := h.len
  obtain ⟨u, e2, r⟩ := h.get (List.getElem?_eq_getElem (l := xs) (i := i) (by omega))
  rw [e] at e2
  cases e2
  exact ⟨_, List.getElem?_eq_getElem (by omega), r⟩
/-- the last one -/
theorem All2.last {xs : List G} {x : G} {vs : List V} (h : All2 R (xs ++ [x]) vs) : ∃ us v, vs = us ++ [v] ∧ All2 R xs us ∧ R x v := by
  obtain ⟨a, b, e, h1, h2⟩ := h.split
  obtain ⟨v, rfl, r⟩ := h2.one_inv
  exact ⟨a, v, e, h1, r⟩
end
theorem IsVs.last {K : PySem.W.Frag} {H : Hp} {xs : List Val} {x : Val} {vs : List V} (h : IsVs K H (xs ++ [x]) vs) : ∃ us v, vs = us ++ [v] ∧ IsVs K H xs us ∧ IsV K H x v := by
  obtain ⟨a, b, e, h1, h2⟩ := h.split
  obtain ⟨v, rfl, r⟩ := h2.one_inv
  exact ⟨a, v, e, h1, r⟩
theorem IsVs.get' {K : PySem.W.Frag} {H : Hp} {xs : List Val} {vs : List V} {i : Nat} {v : V} (h : IsVs K H xs vs) (e : vs[i]? = some v) : ∃ x, xs[i]? = some x ∧ IsV K H x v := by
  have hi : i < vs.length := (List.getElem?_eq_some_iff.mp e).1
  have hl := h.len
  obtain ⟨u, e2, r⟩ := h.get (List.getElem?_eq_getElem (l := xs) (i := i) (by omega))
  rw [e] at e2
  cases e2
  exact ⟨_, List.getElem?_eq_getElem (by omega), r⟩
/-! ### isinstance(x, str), isinstance(x, tuple): x a value of the language -/
section
variable {X : Cx} {e : Expr} {te : TE} {p p2 pos : Pos}
theorem call_isS : CallR X (.builtin "isinstance") (fun vs H Q => ∃ v x, vs = [v, .ty "str"] ∧ IsV X.K H x v ∧ Q (.bl (isW x)) H) :=
  fun pins s σ H xs us Q I r ⟨v, x, e, h, q⟩ => call_isi pins s σ H xs us Q I r (by rw [e]; exact isiS h q)
theorem call_isT : CallR X (.builtin "isinstance") (fun vs H Q => ∃ v x, vs = [v, .ty "tuple"] ∧ IsV X.K H x v ∧ Q (.bl (!isW x)) H) :=
  fun pins s σ H xs us Q I r ⟨v, x, e, h, q⟩ => call_isi pins s σ H xs us Q I r (by rw [e]; exact isiT h q)
theorem pe_isS2 (B : Bn X.mg) (he : PE X e te) (hg : Gl X "isinstance" := by rfl) (hg2 : Gl X "str" := by rfl) (h1 : starEach [e, .Name "str" p2] X.env = (false, eval e X.env) :: starEach [.Name "str" p2] X.env := by rfl) :
    PE X (.Call (.Name "isinstance" p) [e, .Name "str" p2] [] pos) (tCB (fun vs H Q => ∃ v x, vs = [v, .ty "str"] ∧ IsV X.K H x v ∧ Q (.bl (isW x)) H) (tCons te (tCons (tC (.ty "str")) tNil))) :=
  pe_callB call_isS hg B.isinstance bIsi (pa_cons he (pa_cons (pe_bltn (v := .ty "str") hg2 B.str bStr rfl) pa_nil) h1) (he := h1)
theorem pe_isT2 (B : Bn X.mg) (he : PE X e te) (hg : Gl X "isinstance" := by rfl) (hg2 : Gl X "tuple" := by rfl) (h1 : starEach [e, .Name "tuple" p2] X.env = (false, eval e X.env) :: starEach [.Name "tuple" p2] X.env := by rfl) :
    PE X (.Call (.Name "isinstance" p) [e, .Name "tuple" p2] [] pos) (tCB (fun vs H Q => ∃ v x, vs = [v, .ty "tuple"] ∧ IsV X.K H x v ∧ Q (.bl (!isW x)) H) (tCons te (tCons (tC (.ty "tuple")) tNil))) :=
  pe_callB call_isT hg B.isinstance bIsi (pa_cons he (pa_cons (pe_bltn (v := .ty "tuple") hg2 B.tuple bTup rfl) pa_nil) h1) (he := h1)
end
end Og

set_option Elab.async false
set_option linter.all false
set_option maxRecDepth 100000
set_option maxHeartbeats 4000000
/-! Og1c: parameters_fit, body_fits, check_program, inputs_of. -/
namespace Og
open PySem PySem.Spec PyProof.Rows L2
def ParsOk (l : List Str) : Prop := l.length ≤ 12 ∧ (∀ x ∈ l, SWt.lookup x = none) ∧ l.Nodup
/-- a module's whole number -/
def GInt (mg : MG) (x : Str) (n : Int) : Prop := ∃ t, mg x = some (.int n t)
theorem pe_gint {X : Cx} {x : Str} {n : Int} {p : Pos} (G : GInt X.mg x n) (hg : Gl X x := by rfl) (hd : (x == ("__debug__" : Str)) = false := by decide) : PE X (.Name x p) (tC (.int n)) := let ⟨t, g⟩ := G; pe_glob (v := .int n) hg g ⟨t, rfl⟩ hd
theorem pe_gtab {X : Cx} {x : Str} {d : Addr} {p : Pos} (g : X.mg x = some (.ref d)) (hg : Gl X x := by rfl) (hd : (x == ("__debug__" : Str)) = false := by decide) : PE X (.Name x p) (tC (.ref d)) := pe_glob (v := .ref d) hg g rfl hd
section
variable {P : Program} {w : World} {K : PySem.W.Frag} {mg : MG} {base : Heap}
def spPars (K : PySem.W.Frag) : Sp := fun vs H Q _ => ∃ (l : List Str) (a : Addr), vs = [.ref a] ∧ TupAt K H a (l.map .str) ∧ ParsOk l ∧ ∀ H', Fr [] H H' → Q (.bl true) H'
theorem sc_pars : FnScope ["parameters", "at", "parameter"] ["parameters"] (defScope s_parameters_fit) := ⟨rfl, rfl, rfl, by decide +kernel, rfl, by decide +kernel, by decide +kernel⟩
theorem ok_pars (F : Fg K mg "parameters_fit" s_parameters_fit) (B : Bn mg) (D : Df P w K mg base "is_word" ["value"] 1 (spIsWord K)) (G : GTab K w mg "SPECIAL_WORDS" SWt) (gM : GInt mg "MOST_PARAMETERS" 12) :
    Df P w K mg base "parameters_fit" ["parameters"] 2 (spPars K) := by
  refine Df.of F sc_pars (fun _ _ _ _ _ _ us hl => match us, hl with | [_], _ => rfl) (fun vs H Q E h => ?_) (fun f cdv A outer s H vs Q E hr h => ?_)
  · obtain ⟨x, v, rfl, _⟩ := h
    rfl
  obtain ⟨l, a, rfl, t, ⟨h12, hsw, hnd⟩, q⟩ := h
  obtain ⟨d0, m0, T⟩ := G
  have hu := hu_of hr
  have nd := sc_pars.nd
  refine ⟨_, pss_cons (ps_if (pt_cmpR op_gt (pe_callB call_len_seq (by rfl) B.len bLen (pa_cons (pv 0) pa_nil)) (pe_gint gM) (nomark _)) (pss_one (ps_ret pe_bl)) pss_nil)
    (pss_cons (ps_for PassesOwn.never rfl (pi_enumT (by rfl) B.enumerate (pa_cons (pv 0) pa_nil)) (pg_tup rfl (pgs_cons (pg_name (i := 1) nd rfl (.inl rfl)) (pgs_cons (pg_name (i := 2) nd rfl (.inl rfl)) pgs_nil)))
      (pss_one (ps_if (PW.pt (pw_or (pt_not (pt_val (pe_cf D hr (pa_cons (pv 2) pa_nil)))) (pw_or (pt_cmpR (op_in_tab T) (pv 2) (pe_gtab m0) (by rfl))
        (pw_or1 (pt_cmpR op_in_seq (pv 2) (pe_slice sl_tup (pv 0) po_none (po_some (pv 1))) (by rfl)))))) (pss_one (ps_ret pe_bl)) pss_nil)))
    (pss_one (ps_ret pe_bl))), ?_⟩
  refine ⟨_, rfl, a, _, rfl, .inr t.sq, _, _, rfl, rfl, _, rfl, ?_⟩
  rw [decide_eq_false (by rw [List.length_map]; omega)]
  refine iteF ?_
  refine ⟨_, rfl, a, _, rfl, t.sq, for_enumT (fun i σ H' => ∃ x y, σ = [some (.ref a), x, y] ∧ Fr [] H H') ⟨none, none, rfl, Fr.refl _ _⟩ (fun i σ H' _ ⟨_, _, _, f⟩ => (t.fr f).sq) ?_ ?_⟩
  · rintro i x T0 σ H' hx hT ⟨x0, y0, rfl, f⟩
    rw [List.getElem?_map] at hx
    obtain ⟨y, hy, rfl⟩ := Option.map_eq_some_iff.mp hx
    have hi : i < l.length := (List.getElem?_eq_some_iff.mp hy).1
    have f2 : Fr [] H (upd H' T0 (.tup [.int (i : Nat), .str y])) := f.trans (Fr.new hT _)
    refine ⟨T0, _, rfl, .of upd_same, rfl, _, _, rfl, _, _, rfl, rfl, ?_⟩
    refine ⟨_, rfl, .w y, _, rfl, rfl, true, rfl, ?_⟩
    refine iteF ?_
    refine ⟨_, rfl, y, rfl, rfl, _, rfl, ?_⟩
    rw [hsw y (List.mem_of_getElem? hy)]
    refine iteF ?_
    refine ⟨_, rfl, _, rfl, _, rfl, (i : Nat), rfl, ?_⟩
    refine sl_take (t.fr f2) (by rw [List.length_map]; exact hi) fun p hp => ?_
    rw [← List.map_take]
    refine ⟨p, _, rfl, .inr (TupAt.of upd_same).sq, rfl, flat_strs _, _, rfl, ?_⟩
    show if inV (.str y) _ = true then _ else _
    rw [inV_str, decide_eq_false (fun m => by
      obtain ⟨j, hj, e⟩ := List.mem_iff_getElem.mp m
      rw [List.length_take] at hj
      rw [List.getElem_take] at e
      exact List.pairwise_iff_getElem.mp hnd j i (by omega) hi (by omega) (by rw [e, (List.getElem?_eq_some_iff.mp hy).2]))]
    exact iteF ⟨_, _, rfl, f2.trans (Fr.new hp _)⟩
  · rintro σ H' ⟨x0, y0, rfl, f⟩
    exact q H' f

/-! ### body_fits -/

mutual
def Ex.fits (a : Str → Option Int) (ps : List Str) : Ex → Prop
  | .var x => x ∈ ps
  | .quo _ => a "quote" = some 1
  | .ite c x y => a "if" = some 3 ∧ c.fits a ps ∧ x.fits a ps ∧ y.fits a ps
  | .app h es => a h.str = some (es.length : Int) ∧ h.str ≠ "quote" ∧ fitsL a ps es
def fitsL (a : Str → Option Int) (ps : List Str) : List Ex → Prop
  | [] => True
  | e :: es => e.fits a ps ∧ fitsL a ps es
end
mutual
def Ex.nodes : Ex → Nat
  | .var _ => 1
  | .quo _ => 1
  | .ite c x y => 1 + (c.nodes + (x.nodes + y.nodes))
  | .app _ es => 1 + nodesL es
def nodesL : List Ex → Nat
  | [] => 0
  | e :: es => e.nodes + nodesL es
end
theorem nodesL_app : ∀ a b, nodesL (a ++ b) = nodesL a + nodesL b
  | [], b => by rw [List.nil_append]; simp only [nodesL, Nat.zero_add]
  | e :: a, b => by rw [List.cons_append]; simp only [nodesL]; rw [nodesL_app a b]; omega
theorem nodes_pos : ∀ e : Ex, 0 < e.nodes := fun e => by cases e <;> (simp only [Ex.nodes]; omega)
theorem len_nodesL : ∀ es, es.length ≤ nodesL es
  | [] => Nat.le_refl _
  | e :: es => by simp only [nodesL, List.length_cons]; have := nodes_pos e; have := len_nodesL es; omega
theorem fitsL_app {a ps} : ∀ {x y}, fitsL a ps (x ++ y) ↔ fitsL a ps x ∧ fitsL a ps y
  | [], y => by rw [List.nil_append]; exact ⟨fun h => ⟨trivial, h⟩, fun h => h.2⟩
  | e :: x, y => by rw [List.cons_append]; simp only [fitsL]; rw [fitsL_app (x := x), and_assoc]
theorem vals_eq : ∀ es : List Ex, Ex.vals es = es.map Ex.val
  | [] => by simp only [Ex.vals, List.map_nil]
  | e :: es => by simp only [Ex.vals, List.map_cons]; rw [vals_eq es]
theorem fits_shape {a : Str → Option Int} {ps : List Str} {e : Ex} (h : e.fits a ps) : (∃ x, e = .var x) ∨ (∃ v, e = .quo v) ∨ ∃ hw ds, e.val = .l (.w hw :: ds.map Ex.val) ∧ hw ≠ "quote" ∧ a hw = some (ds.length : Int) ∧ fitsL a ps ds ∧ nodesL ds < e.nodes := by
  cases e with
  | var x => exact .inl ⟨x, rfl⟩
  | quo v => exact .inr (.inl ⟨v, rfl⟩)
  | ite c x y => exact .inr (.inr ⟨"if", [c, x, y], by simp only [Ex.val]; rfl, by decide, h.1, ⟨h.2.1, h.2.2.1, h.2.2.2, trivial⟩, by simp only [Ex.nodes, nodesL]; omega⟩)
  | app g es => exact .inr (.inr ⟨g.str, es, by simp only [Ex.val]; rw [vals_eq], h.2.1, h.1, h.2.2, by simp only [Ex.nodes]; omega⟩)
def spBody (K : PySem.W.Frag) : Sp := fun vs H Q _ => ∃ (e : Ex) (v : V) (ps : List Str) (a d : Addr) (kvs : List (Key × V)) (ar : Str → Option Int), vs = [v, .ref a, .ref d] ∧ IsV K H e.val v ∧ TupAt K H a (ps.map .str) ∧ H d = some (.dK kvs) ∧ (∀ x, valV kvs (.inr x) = (ar x).map V.int) ∧
  e.fits ar ps ∧ e.nodes ≤ 10000000 ∧ ∀ H', Fr [] H H' → Q (.bl true) H'
theorem sc_body : FnScope ["body", "parameters", "counts", "waiting", "expression"] ["body", "parameters", "counts"] (defScope s_body_fits) := ⟨rfl, rfl, rfl, by decide +kernel, rfl, by decide +kernel, by decide +kernel⟩
theorem ok_body (F : Fg K mg "body_fits" s_body_fits) (B : Bn mg) (D : Df P w K mg base "is_word" ["value"] 1 (spIsWord K)) : Df P w K mg base "body_fits" ["body", "parameters", "counts"] 2 (spBody K) := by
  refine Df.of F sc_body (fun _ _ _ _ _ _ us hl => match us, hl with | [_, _, _], _ => rfl) (fun vs H Q E h => ?_) (fun f cdv A outer s H vs Q E hr h => ?_)
  · obtain ⟨e, v, ps, a, d, kvs, ar, rfl, _⟩ := h
    rfl
  obtain ⟨e, v, ps, a, d, kvs, ar, rfl, hv, ha, hd, hval, hfit, hz, q⟩ := h
  have hu := hu_of hr
  have nd := sc_body.nd
  refine ⟨_, pss_cons (ps_set (i := 3) nd rfl (.inl rfl) (pe_lst (pa_cons (pv 0) pa_nil)))
    (pss_cons (ps_while PassesOwn.never (pt_cmpR op_gt (pe_callB call_len_seq (by rfl) B.len bLen (pa_cons (pv 3) pa_nil)) pe_int (nomark _))
      (pss_cons (ps_set (i := 4) nd rfl (.inl rfl) (pe_bm0 PySem.F.plainAttrs_list PySem.F.slot_list_pop PySem.F.type_list_pop mt_pop (pv 3)))
      (pss_one (ps_if (pt_val (pe_cf D hr (pa_cons (pv 4) pa_nil)))
        (pss_one (ps_if (pt_cmpR op_notIn_seq (pv 4) (pv 1) (by rfl)) (pss_one (ps_ret pe_bl)) pss_nil))
        (pss_one (ps_if (PW.pt (pw_or (pt_cmpR op_eq (pe_callB call_len_seq (by rfl) B.len bLen (pa_cons (pv 4) pa_nil)) pe_int (nomark _)) (pw_or1 (pt_not (pt_val (pe_cf D hr (pa_cons (pe_ix ix_tup (pv 4) pe_int (fun _ _ => rfl)) pa_nil))))))) (pss_one (ps_ret pe_bl))
        (pss_one (ps_if (pt_cmpR op_ne (pe_dget1 hu (pv 2) (pe_ix ix_tup (pv 4) pe_int (fun _ _ => rfl)) ⟨rfl, rfl, rfl, rfl⟩) (pe_op op_sub (pe_callB call_len_seq (by rfl) B.len bLen (pa_cons (pv 4) pa_nil)) pe_int) (nomark _)) (pss_one (ps_ret pe_bl))
        (pss_one (ps_if (pt_cmpR op_ne (pe_ix ix_tup (pv 4) pe_int (fun _ _ => rfl)) pe_str (nomark _))
          (pss_one (ps_expr (pe_bm PySem.F.plainAttrs_list PySem.F.slot_list_extend PySem.F.type_list_extend mt_extendT (pv 3) (pa_cons (pe_slice sl_tailR (pv 4) (po_some pe_int) po_none) pa_nil)))) pss_nil))))))))))
    (pss_one (ps_ret pe_bl))), ?_⟩
  refine ⟨_, rfl, (by show 1 ≤ sizeLine; decide), fun l hl => ?_⟩
  refine while_g (G := List Ex) (fun es σ H' => ∃ x us, σ = [some v, some (.ref a), some (.ref d), some (.ref l), x] ∧ Fr [] H H' ∧ H' l = some (.lst us) ∧ IsVs K H' (es.map Ex.val) us ∧ fitsL ar ps es ∧ nodesL es ≤ 10000000) nodesL [e]
    ⟨none, [v], rfl, Fr.new hl _, upd_same, IsVs.one (hv.fr (Fr.new (S := []) hl _)), ⟨hfit, trivial⟩, by simp only [nodesL]; omega⟩ ?_
  rintro es σ H' ⟨x, us, rfl, f, hw, hus, hf, hn⟩
  have hlen := hus.len
  rw [List.length_map] at hlen
  refine ⟨_, rfl, l, _, rfl, .inl (.of hw), _, _, rfl, rfl, _, rfl, ?_⟩
  rcases snoc_cases es with rfl | ⟨es, e, rfl⟩
  · rw [decide_eq_false (by rw [hlen]; decide)]
    exact iteF (q H' f)
  rw [decide_eq_true (by rw [hlen, List.length_append]; show (0 : Int) < ((es.length + 1 : Nat) : Int); omega)]
  refine iteT ?_
  refine ⟨_, while_n, ?_⟩
  rw [List.map_append] at hus
  obtain ⟨us, r, rfl, h1, h2⟩ := hus.split
  obtain ⟨y, rfl, hy⟩ := IsVs.one_inv h2
  obtain ⟨g1, g2⟩ := fitsL_app.mp hf
  rw [nodesL_app] at hn ⊢
  have f2 : Fr [] H (upd H' l (.lst us)) := f.over hl _
  have f3 : Fr [l] H' (upd H' l (.lst us)) := Fr.set (List.mem_singleton.mpr rfl) hw (fun _ z => by cases z) _
  refine ⟨_, rfl, .inl ⟨rfl, _, .of hw⟩, l, _, _, rfl, rfl, hw, pop_at _ _, ?_⟩
  rw [List.dropLast_concat]
  have hy3 := hy.fr f3
  have h13 := h1.fr f3
  refine ⟨_, rfl, e.val, _, rfl, hy3, _, rfl, ?_⟩
  have step : ∀ H2, Fr [] H H2 → H2 l = some (.lst us) → IsVs K H2 (es.map Ex.val) us → ∃ g', nodesL g' < nodesL es + nodesL [e] ∧ ∃ x us, [some v, some (.ref a), some (.ref d), some (.ref l), some y] = [some v, some (.ref a), some (.ref d), some (.ref l), x] ∧ Fr [] H H2 ∧ H2 l = some (.lst us) ∧ IsVs K H2 (g'.map Ex.val) us ∧ fitsL ar ps g' ∧ nodesL g' ≤ 10000000 :=
    fun H2 z1 z2 z3 => ⟨es, by have := nodes_pos e; simp only [nodesL]; omega, _, us, rfl, z1, z2, z3, g1, by omega⟩
  rcases fits_shape g2.1 with ⟨x, rfl⟩ | ⟨z, rfl⟩ | ⟨hw', ds, ev, hq, ha', hf', hn'⟩
  · refine iteT ?_
    obtain rfl : y = .str x := hy
    refine ⟨_, rfl, _, rfl, a, _, rfl, .inr (ha.fr f2).sq, rfl, flat_strs _, _, rfl, ?_⟩
    show if (!inV (.str x) _) = true then _ else _
    rw [inV_str, decide_eq_true (show x ∈ ps from g2.1)]
    exact iteF (step _ f2 upd_same h13)
  · refine iteF ?_
    obtain ⟨b, vs, rfl, t, v1, r1, rfl, e1, v2, r2, rfl, h2, rfl⟩ := hy3
    obtain rfl : v1 = .str "quote" := e1
    refine ⟨_, rfl, b, _, rfl, .inr t.sq, rfl, _, rfl, ?_⟩
    refine iteF ?_
    refine ⟨_, rfl, b, _, _, _, rfl, rfl, t.sq, rfl, .w "quote", _, rfl, rfl, _, rfl, ?_⟩
    refine iteF ?_
    refine ⟨_, rfl, d, rfl, (.inl ⟨kvs, .inl (f2.keep d _ (by simp) hd)⟩), _, rfl, b, _, _, _, rfl, rfl, t.sq, rfl, _, DGet.k (k := Sum.inr "quote") (f2.keep d _ (by simp) hd), ?_⟩
    rw [hval "quote", show ar "quote" = some 1 from g2.1]
    refine ⟨_, rfl, b, _, rfl, .inr t.sq, _, _, rfl, rfl, rfl, _, rfl, ?_⟩
    refine iteF ?_
    refine ⟨_, rfl, b, _, _, _, rfl, rfl, t.sq, rfl, rfl, _, rfl, ?_⟩
    exact iteF (step _ f2 upd_same h13)
  · rw [ev] at hy3 ⊢
    refine iteF ?_
    obtain ⟨b, vs, rfl, t, v1, r1, rfl, e1, hr1⟩ := hy3
    obtain rfl : v1 = .str hw' := e1
    have hl1 := hr1.len
    rw [List.length_map] at hl1
    refine ⟨_, rfl, b, _, rfl, .inr t.sq, rfl, _, rfl, ?_⟩
    rw [decide_eq_false (by rw [List.length_cons]; intro z; injection z with z; omega)]
    refine iteF ?_
    refine ⟨_, rfl, b, _, _, _, rfl, rfl, t.sq, at0, .w hw', _, rfl, rfl, _, rfl, ?_⟩
    refine iteF ?_
    refine ⟨_, rfl, d, rfl, (.inl ⟨kvs, .inl (f2.keep d _ (by simp) hd)⟩), _, rfl, b, _, _, _, rfl, rfl, t.sq, at0, _, DGet.k (k := Sum.inr hw') (f2.keep d _ (by simp) hd), ?_⟩
    rw [hval hw', ha']
    refine ⟨_, rfl, b, _, rfl, .inr t.sq, _, _, rfl, rfl, rfl, _, rfl, ?_⟩
    have e9 : V.int (ds.length : Int) = V.int (((V.str hw' :: r1).length : Int) - 1) := by rw [List.length_cons, hl1]; congr 1; omega
    refine ite2 (fun z => ?_) (fun _ => ?_)
    · rw [Bool.not_eq_true', decide_eq_false_iff_not] at z
      exact absurd e9 z
    refine ⟨_, rfl, b, _, _, _, rfl, rfl, t.sq, at0, rfl, _, rfl, ?_⟩
    rw [decide_eq_false (show ¬ V.str hw' = V.str "quote" from fun z => hq (V.str.inj z))]
    refine iteT ?_
    refine ⟨_, rfl, .inl ⟨rfl, _, .of upd_same⟩, _, rfl, 1, rfl, rfl, rfl, b, _, rfl, t, List.cons_ne_nil _ _, fun p hp => ?_⟩
    have h5 := len_nodesL ds
    have h6 := len_nodesL es
    have h7 := h1.len
    rw [List.length_map] at h7
    simp only [nodesL] at hn
    have pl : p ≠ l := fun z => by rw [z, upd_same] at hp; cases hp
    have hlp : upd (upd H' l (.lst us)) p (.tup (List.drop 1 (.str hw' :: r1))) l = some (.lst us) := by rw [upd_ne (Ne.symm pl)]; exact upd_same
    refine ⟨l, p, us, r1, rfl, rfl, hlp, .of upd_same, Nat.le_of_lt (smallB (by omega)), ?_⟩
    have f4 : Fr [] H (upd (upd H' l (.lst us)) p (.tup (List.drop 1 (.str hw' :: r1)))) := f2.trans (Fr.new hp _)
    refine ⟨es ++ ds, ?_, _, us ++ r1, rfl, f4.over hl _, upd_same, ?_, fitsL_app.mpr ⟨g1, hf'⟩, ?_⟩
    · rw [nodesL_app]; simp only [nodesL]; omega
    · rw [List.map_append]
      have fz : Fr [l] (upd H' l (.lst us)) (upd (upd (upd H' l (.lst us)) p (.tup (List.drop 1 (.str hw' :: r1)))) l (.lst (us ++ r1))) := ((Fr.new (S := []) hp _).mono (by simp)).trans (Fr.set (List.mem_singleton.mpr rfl) hlp (fun _ z => by cases z) _)
      exact (h13.fr fz).app (hr1.fr fz)
    · rw [nodesL_app]; omega
end
end Og

set_option Elab.async false
set_option linter.all false
set_option maxRecDepth 100000
set_option maxHeartbeats 4000000
/-! Og1d: check_program, inputs_of. -/
namespace Og
open PySem PySem.Spec PyProof.Rows L2
structure Good (p : Prog) : Prop where
  ne : p ≠ []
  len : p.length ≤ 1000
  nodes : ∀ f ∈ p, f.body.nodes ≤ 10000000
  fn : ∀ i f, p[i]? = some f → SWt.lookup f.name = none ∧ NameOk f.name p.length ∧ (∀ g ∈ p.take i, g.name ≠ f.name) ∧ ParsOk f.ps ∧ f.body.fits (ar p) f.ps
section
variable {P : Program} {w : World} {K : PySem.W.Frag} {mg : MG} {base : Heap}
def spCheck (K : PySem.W.Frag) : Sp := fun vs H Q _ => ∃ (p : Prog) (v : V), vs = [v] ∧ IsV K H p.val v ∧ Good p ∧ ∀ H', Fr [] H H' → Q .non H'
theorem sc_check : FnScope ["value", "counts", "names", "number", "function", "name", "parameters", "body"] ["value"] (defScope s_check_program) := ⟨rfl, rfl, rfl, by decide +kernel, rfl, by decide +kernel, by decide +kernel⟩
theorem ok_check (F : Fg K mg "check_program" s_check_program) (B : Bn mg) (D1 : Df P w K mg base "is_word" ["value"] 1 (spIsWord K)) (D2 : Df P w K mg base "has_head" ["function"] 2 (spHasHead K))
    (D3 : Df P w K mg base "counts_of" ["program"] 3 (spCounts K)) (D4 : Df P w K mg base "name_fits" ["name", "names", "many"] 1 spName) (D5 : Df P w K mg base "parameters_fit" ["parameters"] 2 (spPars K))
    (D6 : Df P w K mg base "body_fits" ["body", "parameters", "counts"] 2 (spBody K)) : Df P w K mg base "check_program" ["value"] 4 (spCheck K) := by
  refine Df.of F sc_check (fun _ _ _ _ _ _ us hl => match us, hl with | [_], _ => rfl) (fun vs H Q E h => ?_) (fun f cdv A outer s H vs Q E hr h => ?_)
  · obtain ⟨p, v, rfl, _⟩ := h
    rfl
  obtain ⟨p, v, rfl, hv, g, q⟩ := h
  have hu := hu_of hr
  have nd := sc_check.nd
  have hr1 := hr.mono (j := 1) (by decide)
  have hr2 := hr.mono (j := 2) (by decide)
  refine ⟨_, pss_cons (ps_if (PW.pt (pw_or (pt_val (pe_cf D1 hr1 (pa_cons (pv 0) pa_nil))) (pw_or1 (pt_cmpR op_eq (pe_callB call_len_seq (by rfl) B.len bLen (pa_cons (pv 0) pa_nil)) pe_int (nomark _))))) (pss_one ps_never) pss_nil)
    (pss_cons (ps_set (i := 1) nd rfl (.inl rfl) (pe_cf D3 hr (pa_cons (pv 0) pa_nil)))
    (pss_cons (ps_set (i := 2) nd rfl (.inl rfl) pe_dnewK)
    (pss_one (ps_for PassesOwn.never rfl (pi_enumT (by rfl) B.enumerate (pa_cons (pv 0) pa_nil)) (pg_tup rfl (pgs_cons (pg_name (i := 3) nd rfl (.inl rfl)) (pgs_cons (pg_name (i := 4) nd rfl (.inl rfl)) pgs_nil)))
      (pss_cons (ps_if (pt_not (pt_val (pe_cf D2 hr2 (pa_cons (pv 4) pa_nil)))) (pss_one ps_never) pss_nil)
      (pss_cons (ps_asg (pv 4) (pg_tup rfl (pgs_cons (pg_name (i := 5) nd rfl (.inl rfl)) (pgs_cons (pg_name (i := 6) nd rfl (.inl rfl)) (pgs_cons (pg_name (i := 7) nd rfl (.inl rfl)) pgs_nil)))))
      (pss_cons (ps_if (PW.pt (pw_or (pt_not (pt_val (pe_cf D4 hr1 (pa_cons (pv 5) (pa_cons (pv 2) (pa_cons (pe_callB call_len_seq (by rfl) B.len bLen (pa_cons (pv 0) pa_nil)) pa_nil))))))
        (pw_or1 (pt_not (pt_val (pe_cf D5 hr2 (pa_cons (pv 6) pa_nil))))))) (pss_one ps_never) pss_nil)
      (pss_cons (ps_if (pt_not (pt_val (pe_cf D6 hr2 (pa_cons (pv 7) (pa_cons (pv 6) (pa_cons (pv 1) pa_nil)))))) (pss_one ps_never) pss_nil)
      (pss_one (ps_dput hu (pv 2) (pv 5) pe_bl rfl)))))))))), ?_⟩
  have hpos : 0 < p.length := List.length_pos_iff.mpr g.ne
  have glen := g.len
  have hv' := hv
  obtain ⟨a, us, rfl, t, r, hl⟩ := prog_parts hv
  refine ⟨_, rfl, p.val, _, rfl, hv', false, rfl, ?_⟩
  refine iteF ?_
  refine ⟨_, rfl, a, _, rfl, .inr t.sq, rfl, _, rfl, ?_⟩
  rw [decide_eq_false (by intro z; injection z with z; omega)]
  refine iteF ?_
  refine ⟨_, rfl, p, _, rfl, hv', g.len, fun H1 dc kc f1 hdc hkc hval => ?_⟩
  refine fun dn hdn => ?_
  have f2 : Fr [] H (upd H1 dn (.dK [])) := f1.trans (Fr.new hdn _)
  have ncd : dc ≠ dn := fun z => by rw [← z, hkc] at hdn; cases hdn
  have kc2 : upd H1 dn (.dK []) dc = some (.dK kc) := by rw [upd_ne ncd]; exact hkc
  have hn0 : H dn = none := f1.free (by simp) hdn
  refine ⟨_, rfl, a, _, rfl, (t.fr f2).sq, for_enumT (fun i σ H' => ∃ x1 x2 x3 x4 x5 kn, σ = [some (.ref a), some (.ref dc), some (.ref dn), x1, x2, x3, x4, x5] ∧ Fr [] H H' ∧ H' dc = some (.dK kc) ∧ H' dn = some (.dK kn) ∧ kn.length ≤ i ∧
      ∀ x, (∀ g ∈ p.take i, g.name ≠ x) → valV kn (.inr x) = none)
    ⟨none, none, none, none, none, [], rfl, f2, kc2, upd_same, Nat.le_refl _, fun x _ => rfl⟩ (fun i σ H' _ ⟨_, _, _, _, _, _, _, f, _⟩ => (t.fr f).sq) ?_ ?_⟩
  · rintro i x T σ H' hx hT ⟨x1, x2, x3, x4, x5, kn, rfl, f, e1, e2, e3, e4⟩
    have hi : i < us.length := (List.getElem?_eq_some_iff.mp hx).1
    obtain ⟨fn, hfn, hfv⟩ := prog_get r hx
    have f' : Fr [] H' (upd H' T (.tup [.int (i : Nat), x])) := Fr.new hT _
    have hfv2 := (hfv.fr f).fr f'
    have e1' := f'.keep dc _ (by simp) e1
    have e2' := f'.keep dn _ (by simp) e2
    refine ⟨T, _, rfl, .of upd_same, rfl, _, _, rfl, _, _, rfl, rfl, ?_⟩
    generalize upd H' T (.tup [.int (i : Nat), x]) = H2 at *
    obtain ⟨g1, g2, g3, g4, g5⟩ := g.fn i fn hfn
    refine ⟨_, rfl, fn, _, rfl, hfv2, true, rfl, ?_⟩
    refine iteF ?_
    obtain ⟨b, _, _, c, bd, rfl, t1, _, _, t2, hb⟩ := fn_parts hfv2
    refine ⟨_, rfl, b, _, rfl, t1.sq, rfl, _, _, rfl, _, _, rfl, _, _, rfl, rfl, ?_⟩
    have fz := f.trans f'
    refine ⟨_, rfl, _, rfl, _, rfl, a, _, rfl, .inr (t.fr fz).sq, fn.name, dn, kn, (us.length : Nat), rfl, e2', g1, e4 _ g3, by rw [hl]; exact g2, true, rfl, ?_⟩
    refine iteF ?_
    refine ⟨_, rfl, fn.ps, c, rfl, t2, g4, fun H3 f3 => ⟨true, rfl, ?_⟩⟩
    refine iteF ?_
    refine ⟨_, rfl, _, rfl, _, rfl, fn.body, bd, fn.ps, c, dc, kc, ar p, rfl, hb.fr f3, t2.fr f3, f3.keep _ _ (by simp) e1', hval, g5, g.nodes fn (List.mem_of_getElem? hfn), fun H4 f4 => ⟨true, rfl, ?_⟩⟩
    refine iteF ?_
    have f5 := fz.trans (f3.trans f4)
    have e1z := f4.keep _ _ (by simp) (f3.keep _ _ (by simp) e1')
    have e2z := f4.keep _ _ (by simp) (f3.keep _ _ (by simp) e2')
    refine ⟨_, rfl, _, rfl, dn, _, rfl, DPut.k (k := Sum.inr fn.name) e2z (smallB (by omega)), ?_⟩
    refine ⟨_, _, _, _, _, _, rfl, f5.over hn0 _, by rw [upd_ne ncd]; exact e1z, upd_same, ?_, fun x hx => ?_⟩
    · have := length_putK kn (Sum.inr fn.name : Key) (V.bl true)
      omega
    · rw [List.take_add_one, hfn] at hx
      rw [valV_put, if_neg fun z => hx fn (by simp) (Sum.inr.inj z).symm]
      exact e4 x fun g hg => hx g (List.mem_append_left _ hg)
  · rintro σ H' ⟨x1, x2, x3, x4, x5, kn, rfl, f, _⟩
    exact q H' f
def spInputs (K : PySem.W.Frag) : Sp := fun vs H Q _ => ∃ (p : Prog) (f : Fn) (v : V), vs = [v] ∧ IsV K H p.val v ∧ Good p ∧ p.head? = some f ∧ ∀ H', Fr [] H H' → Q (.int f.ps.length) H'
theorem sc_inputs : FnScope ["program"] ["program"] (defScope s_inputs_of) := ⟨rfl, rfl, rfl, by decide +kernel, rfl, by decide +kernel, by decide +kernel⟩
theorem ok_inputs (F : Fg K mg "inputs_of" s_inputs_of) (B : Bn mg) (D : Df P w K mg base "check_program" ["value"] 4 (spCheck K)) : Df P w K mg base "inputs_of" ["program"] 5 (spInputs K) := by
  refine Df.of F sc_inputs (fun _ _ _ _ _ _ us hl => match us, hl with | [_], _ => rfl) (fun vs H Q E h => ?_) (fun f cdv A outer s H vs Q E hr h => ?_)
  · obtain ⟨p, fn, v, rfl, _⟩ := h
    rfl
  obtain ⟨p, fn, v, rfl, hv, g, hh, q⟩ := h
  refine ⟨_, pss_cons (ps_expr (pe_cf D hr (pa_cons (pv 0) pa_nil))) (pss_one (ps_ret (pe_callB call_len_seq (by rfl) B.len bLen (pa_cons (pe_ix ix_tup (pe_ix ix_tup (pv 0) pe_int (fun _ _ => rfl)) pe_int (fun _ _ => rfl)) pa_nil)))), ?_⟩
  refine ⟨_, rfl, p, _, rfl, hv, g, fun H' f => ?_⟩
  obtain ⟨a, us, rfl, t, r, hl⟩ := prog_parts (hv.fr f)
  cases p with
  | nil => cases hh
  | cons f0 p =>
    cases hh
    obtain ⟨v1, r1, rfl, h1, _⟩ := r
    obtain ⟨b, _, _, c, bd, rfl, t1, _, _, t2, hb⟩ := fn_parts h1
    refine ⟨_, rfl, a, _, _, _, rfl, rfl, t.sq, at0, b, _, _, _, rfl, rfl, t1.sq, rfl, c, _, rfl, .inr t2.sq, ?_⟩
    rw [List.length_map]
    exact q H' f
end
end Og

set_option Elab.async false
set_option linter.all false
set_option maxRecDepth 100000
set_option maxHeartbeats 4000000
/-! OgStr: tuples whose object is known (no dict of its own), for t.index. -/
namespace Og
open PySem PySem.Spec PyProof.Rows L2
/-- a tuple of texts, its object with no dict -/
def StrAt (K : PySem.W.Frag) (H : Hp) (a : Addr) (ps : List Str) : Prop :=
  (∃ o, o.dict = none ∧ H a = some (.frz o (.tup (ps.map .str)))) ∨ ∃ (o : Obj) (its : Array Value) (n : Nat), K.lookup a = some o ∧ o.dict = none ∧ o.cls = .type "tuple" ∧ o.data = .seq its n ∧ its.size ≤ sizeLine ∧ Vals (ps.map .str) its.toList
theorem StrAt.tup {K H a ps} (h : StrAt K H a ps) : TupAt K H a (ps.map .str) := h.elim (fun ⟨o, _, h⟩ => .inl (.inr ⟨o, h⟩)) fun ⟨o, its, n, h1, _, h2, h3, h4, h5⟩ => .inr ⟨o, its, n, h1, h2, h3, h4, h5⟩
theorem StrAt.fr {K S H H' a ps} (f : Fr S H H') (h : StrAt K H a ps) : StrAt K H' a ps := h.elim (fun ⟨o, d, h⟩ => .inl ⟨o, d, f.frz _ _ _ h⟩) .inr
theorem StrAt.new {K : PySem.W.Frag} {H : Hp} {a : Addr} {ps : List Str} {o : Obj} (d : o.dict = none) : StrAt K (upd H a (.frz o (.tup (ps.map .str)))) a ps := .inl ⟨o, d, upd_same⟩
def IsF (K : PySem.W.Frag) (H : Hp) (f : Fn) (v : V) : Prop := ∃ a b c, v = .ref a ∧ TupAt K H a [.str f.name, .ref b, c] ∧ StrAt K H b f.ps ∧ IsV K H f.body.val c
def IsP (K : PySem.W.Frag) (H : Hp) (p : Prog) (v : V) : Prop := ∃ a vs, v = .ref a ∧ TupAt K H a vs ∧ All2 (IsF K H) p vs
theorem IsF.fr {K S H H' p v} (f : Fr S H H') (h : IsF K H p v) : IsF K H' p v := let ⟨a, b, c, e, t, s, i⟩ := h; ⟨a, b, c, e, t.fr f, s.fr f, i.fr f⟩
theorem IsP.fr {K S H H' p v} (f : Fr S H H') (h : IsP K H p v) : IsP K H' p v := let ⟨a, vs, e, t, i⟩ := h; ⟨a, vs, e, t.fr f, i.imp fun _ _ x => x.fr f⟩
theorem IsF.v {K H f v} (h : IsF K H f v) : IsV K H f.val v := by
  obtain ⟨a, b, c, rfl, t, s, i⟩ := h
  exact isV_l t (IsVs.cons isV_w (IsVs.cons (isV_l s.tup isV_ws) (IsVs.one i)))
theorem isVs_of {K : PySem.W.Frag} {H : Hp} : ∀ {p : List Fn} {vs : List V}, All2 (IsF K H) p vs → IsVs K H (p.map Fn.val) vs
  | [], _, h => h
  | f :: p, _, ⟨v, r, e, h, t⟩ => ⟨v, r, e, h.v, isVs_of t⟩
theorem IsP.v {K H p v} (h : IsP K H p v) : IsV K H (Prog.val p) v := by
  obtain ⟨a, vs, rfl, t, i⟩ := h
  exact isV_l t (isVs_of i)
section
variable {X : Cx} {e : Expr} {te : TE}
/-! ### making such tuples -/
def tTupF (t : TA) : TE := fun σ H Q => t σ H fun xs H1 => xs.length ≤ sizeLine ∧ ∀ p o, H1 p = none → o.dict = none → Q (.ref p) (upd H1 p (.frz o (.tup xs)))
theorem pe_tupF {es : List Expr} {t : TA} {x1 : Nat} {pos : Pos} (h : PA X es t) : PE X (.Tuple es x1 pos) (tTupF t) :=
  ⟨fun pins s σ H Q I hq => by
    refine wpAny_Tuple_spliced (thn (h.run pos pins s σ H _ I hq) fun us s1 ⟨ys, H1, J, rv, zz, qq⟩ => ?_)
    refine ⟨by rw [← rv.length]; exact zz, ?_⟩
    have fresh : H1 s1.heap.objs.size = none := J.hok.fresh (Nat.le_refl _)
    have pu := Heap.get?_push_size s1.heap (o := { cls := .type "tuple", data := .seq us.toArray }) rfl
    refine ⟨.ref s1.heap.objs.size, _, ?_, rfl, qq _ { cls := .type "tuple", data := .seq us.toArray } fresh rfl⟩
    exact J.laid (t' := s1.toks) (fun b u ee => Heap.get?_push_of_some _ ee) (Nat.le_refl _) ⟨pu, zz, us, rv, ⟨_, pu, rfl, _, rfl⟩⟩⟩
def tTupOfF (K : PySem.W.Frag) (te : TE) : TE := fun σ H Q => te σ H fun x H1 => ∃ p xs, x = .ref p ∧ SqL K H1 p xs ∧ ∀ q o, H1 q = none → o.dict = none → Q (.ref q) (upd H1 q (.frz o (.tup xs)))
theorem pe_tupleOfF {p pos : Pos} (hg : Gl X "tuple") (hm : X.mg "tuple" = none) (ha : PE X e te) (na : starEach [e] X.env = (false, eval e X.env) :: starEach [] X.env := by rfl) :
    PE X (.Call (.Name "tuple" p) [e] [] pos) (tTupOfF X.K te) := by
  have base : PE X (.Call (.Name "tuple" p) [e] [] pos) (tThen te fun x H Q => ∃ p xs, x = .ref p ∧ SqL X.K H p xs ∧ ∀ q o, H q = none → o.dict = none → Q (.ref q) (upd H q (.frz o (.tup xs)))) :=
    ⟨fun pins s σ H Q I h => Call_ (ld_blt I hg hm boot_tuple (PyProof.Rows.callWith_type1 (one_arg ha I h (fun v s2 x H2 J r q => by
      obtain ⟨l, xs, rfl, hs, q⟩ := q
      cases r
      obtain ⟨its, rv, pl, hz⟩ := J.list hs
      refine call_tuple_list pl.isList (fun h' hk => ?_) (by rw [List.size_toArray, ← rv.length]; exact hz)
      have J1 : Inv X pins σ H2 { s2 with heap := h' } := J.kept (t' := s2.toks) hk
      have pu := Heap.get?_push_size h' (o := { cls := .type "tuple", data := .seq its.toArray }) rfl
      refine ⟨.ref h'.objs.size, _, ?_, rfl, q _ { cls := .type "tuple", data := .seq its.toArray } (J1.hok.fresh (Nat.le_refl _)) rfl⟩
      exact J1.laid (t' := s2.toks) (fun b o ee => Heap.get?_push_of_some _ ee) (Nat.le_refl _) ⟨pu, hz, its, rv, ⟨_, pu, rfl, _, rfl⟩⟩) na) na))⟩
  exact base
/-- t + u -/
def rCatF (K : PySem.W.Frag) : R2 := fun x y H Q => ∃ a b xs ys, x = .ref a ∧ y = .ref b ∧ TupAt K H a xs ∧ TupAt K H b ys ∧ xs ≠ [] ∧ xs.length + ys.length ≤ sizeLine ∧
  (ys = [] → Q (.ref a) H) ∧ (ys ≠ [] → ∀ p o, H p = none → o.dict = none → Q (.ref p) (upd H p (.frz o (.tup (xs ++ ys)))))
theorem op_catF : OpR X (binaryOp .Add) (rCatF X.K) := by
  rintro pins s σ H x y v u Q I rx ry ⟨a, b, xs, ys, rfl, rfl, ha, hb, hx, hz, q1, q2⟩
  cases rx; cases ry
  obtain ⟨i1, r1, p1, _⟩ := I.tuple ha.sq
  obtain ⟨i2, r2, p2, _⟩ := I.tuple hb.sq
  refine HT.cat_tup p1 p2 (fun z => hx (r1.nil_iff.mp z)) (fun z => ?_) (fun z => ?_) (by rw [← r1.length, ← r2.length]; exact hz)
  · exact ⟨.ref a, H, I, rfl, q1 (r2.nil_iff.mp z)⟩
  · have pu := Heap.get?_push_size s.heap (o := { cls := .type "tuple", data := .seq (i1 ++ i2).toArray }) rfl
    refine ⟨.ref s.heap.objs.size, _, ?_, rfl, q2 (fun w => z (r2.nil_iff.mpr w)) _ { cls := .type "tuple", data := .seq (i1 ++ i2).toArray } (I.hok.fresh (Nat.le_refl _)) rfl⟩
    exact I.laid (t' := s.toks) (fun b ob q => Heap.get?_push_of_some _ q) (Nat.le_refl _) ⟨pu, by rw [List.length_append]; exact hz, _, r1.append r2, ⟨_, pu, rfl, _, rfl⟩⟩
/-- t[lo:hi] -/
def rSlF (K : PySem.W.Frag) : V → Option Int → Option Int → Hp → VK → Prop := fun x lo hi H Q => ∃ a xs, x = .ref a ∧ TupAt K H a xs ∧
  (HT.sIx xs.length 0 lo = 0 ∧ HT.sIx xs.length xs.length hi = xs.length → Q (.ref a) H) ∧ (¬ (HT.sIx xs.length 0 lo = 0 ∧ HT.sIx xs.length xs.length hi = xs.length) → ∀ p o, H p = none → o.dict = none → Q (.ref p) (upd H p (.frz o (.tup (cutV xs lo hi)))))
theorem sl_tupF : SlR X (rSlF X.K) := by
  rintro pins s σ H x v vl vu lo hi sl Q I rx hs pl pu ⟨a, xs, rfl, hx, q1, q2⟩
  by_cases hw : HT.sIx xs.length 0 lo = 0 ∧ HT.sIx xs.length xs.length hi = xs.length
  · exact sl_tupA pins s σ H _ v vl vu lo hi sl Q I rx hs pl pu ⟨a, xs, rfl, hx.sq, q1, fun n => absurd hw n⟩
  cases rx
  obtain ⟨its, r, ht, hz⟩ := I.tuple hx.sq
  have hlen : its.toArray.size = xs.length := by rw [List.size_toArray]; exact r.length.symm
  refine ⟨"tuple", _, PyProof.Rows.slot_tuple_getitem.lookup, ht.typeIs, HT.getItem_tuple_cut ht hs pl pu (by rw [hlen]; exact hw) ?_ (by rw [hlen]; exact hz)⟩
  rw [hlen]
  have px := Heap.get?_push_size s.heap (o := { cls := .type "tuple", data := .seq ((its.toArray.toList.drop (HT.sIx xs.length 0 lo)).take (HT.sIx xs.length xs.length hi - HT.sIx xs.length 0 lo)).toArray }) rfl
  refine ⟨.ref s.heap.objs.size, _, ?_, rfl, q2 hw _ { cls := .type "tuple", data := .seq ((its.toArray.toList.drop (HT.sIx xs.length 0 lo)).take (HT.sIx xs.length xs.length hi - HT.sIx xs.length 0 lo)).toArray } (I.hok.fresh (Nat.le_refl _)) rfl⟩
  exact I.laid (t' := s.toks) (fun b ob q => Heap.get?_push_of_some _ q) (Nat.le_refl _) ⟨px, Nat.le_trans (cutV_length xs lo hi) hz, _, (r.drop (HT.sIx xs.length 0 lo)).take (HT.sIx xs.length xs.length hi - HT.sIx xs.length 0 lo), ⟨_, px, rfl, _, rfl⟩⟩
/-! ### t.index(x) -/
def tIdx (K : PySem.W.Frag) (to : TE) (ta : TA) : TE := fun σ H Q => to σ H fun v H1 => ∃ p ys, v = .ref p ∧ StrAt K H1 p ys ∧ ta σ H1 fun zs H2 => ∃ x j, zs = [.str x] ∧ StrAt K H2 p ys ∧ ys[j]? = some x ∧ (∀ m, m < j → ys[m]? ≠ some x) ∧ Q (.int (j : Nat)) H2
theorem pe_tidx {o : Expr} {to : TE} {ta : TA} {apos cpos : Pos} (ho : PE X o to) (ha : PA X [e] ta)
    (hbase : attributeBase o "index" X.env (eval o X.env) = eval o X.env := by rfl)
    (hfew : ((backTo cpos (starEach [e] X.env)).all (fun x => !x.1) && (backToKw cpos (keywordEach [] X.env)).all (fun x => x.1.isSome)
      && decide (([e] : List Expr).length + ([] : List Keyword).length + (if ([] : List Keyword).isEmpty then 0 else 1) < 30)) = true := by rfl)
    (hline : (apos.endLine == cpos.line) = true := by rfl) (hs : starEach [e] X.env = [(false, eval e X.env)] := by rfl) : PE X (.Call (.Attribute o "index" apos) [e] [] cpos) (tIdx X.K to ta) :=
  ⟨fun pins s σ H Q I h => by
    refine wpAny_Call_method_late hbase hfew hline rfl (thn (ho.run pins s σ H _ I h) fun v s1 ⟨x, H1, J, rx, p, ys, ex, sp, q1⟩ => ?_)
    subst ex
    cases rx
    obtain ⟨its, rv, ⟨ob, hob, hcl, nn, hda⟩, hz⟩ := J.tuple sp.tup.sq
    have hdn : ob.dict = none := by
      rcases sp with ⟨o2, d2, h2⟩ | ⟨o2, _, _, k2, d2, _⟩
      · have e2 : s1.heap.get? p = some o2 := (J.hok p _ h2).1
        rw [hob] at e2
        cases e2
        exact d2
      · have e2 := J.kIn p o2 k2
        rw [hob] at e2
        cases e2
        exact d2
    refine ⟨"tuple", "tuple.index", PySem.F.plainAttrs_tuple, PySem.F.slot_tuple_index, PySem.F.type_tuple_index, ⟨ob, hob, hcl⟩, fun a ea => ⟨ob, by cases ea; exact hob, hdn⟩, ?_⟩
    have hA := ha.run cpos pins s1 σ H1 _ J q1
    rw [hs] at hA ⊢
    refine Calls.callWith_builtin rfl (Calls.evalArgs_plain (thn hA fun us s2 ⟨vs, H2, J2, r2, q2⟩ => ?_))
    obtain ⟨x, j, rfl, sp2, hj, hm, q⟩ := q2
    exact mt_tup_index pins s2 σ H2 (.ref p) _ (.ref p) us Q J2 rfl r2 ⟨p, ys, x, j, rfl, rfl, sp2.tup.sq, hj, hm, q⟩⟩
end
end Og

set_option Elab.async false
set_option linter.all false
set_option maxRecDepth 100000
set_option maxHeartbeats 4000000
/-! Og2: made names and parameters. -/
namespace Og
open PySem PySem.Spec PyProof.Rows L2
/-- a module's written tuple of texts -/
def GTup (K : PySem.W.Frag) (mg : MG) (x : Str) (l : List Str) : Prop := ∃ a, mg x = some (.ref a) ∧ ∀ H, TupAt K H a (l.map .str)
theorem str_len (n : Nat) (h : n ≤ 99) : (Str.ofString (toString (n : Int))).length ≤ 3 := by
  have : ∀ m : Nat, m < 100 → (Str.ofString (toString (m : Int))).length ≤ 3 := by decide +kernel
  exact this n (by omega)
section
variable {P : Program} {w : World} {K : PySem.W.Frag} {mg : MG} {base : Heap}
def spMade : Sp := fun vs H Q _ => ∃ n : Nat, vs = [.int (n : Int)] ∧ n ≤ 99 ∧ Q (.str (fN n)) H
theorem sc_made : FnScope ["number"] ["number"] (defScope s_made_name) := ⟨rfl, rfl, rfl, by decide +kernel, rfl, by decide +kernel, by decide +kernel⟩
theorem len_pre (c : String) (h : (Str.ofString c).length ≤ 10) (n : Nat) (hn : n ≤ 99) : (Str.ofString c).length + (Str.ofString (toString (n : Int))).length ≤ sizeLine := by
  have := str_len n hn
  exact Nat.le_of_lt (smallB (by omega))
theorem log_small (n : Nat) (hn : n ≤ 99) : (n : Int).natAbs.log2 < 1920 := by
  have : ∀ m : Nat, m < 100 → ((m : Nat) : Int).natAbs.log2 < 1920 := by decide +kernel
  exact this n (by omega)
theorem ok_made (F : Fg K mg "made_name" s_made_name) (B : Bn mg) : Df P w K mg base "made_name" ["number"] 1 spMade := by
  refine Df.of F sc_made (fun _ _ _ _ _ _ us hl => match us, hl with | [_], _ => rfl) (fun vs H Q E h => ?_) (fun f cdv A outer s H vs Q E hr h => ?_)
  · obtain ⟨n, rfl, _⟩ := h
    rfl
  obtain ⟨n, rfl, hn, q⟩ := h
  refine ⟨_, pss_one (ps_ret (pe_op op_add_str pe_str (pe_callTy call_str_int (by rfl) B.str bStr (pa_cons (pv 0) pa_nil)))), ?_⟩
  exact ⟨_, rfl, _, rfl, log_small n hn, _, _, rfl, rfl, len_pre "f" (by decide) n hn, q⟩
def spParams (K : PySem.W.Frag) : Sp := fun vs H Q _ => ∃ n : Nat, vs = [.int (n : Int)] ∧ n ≤ 20 ∧ ∀ a H', Fr [] H H' → StrAt K H' a (xs n) → Q (.ref a) H'
theorem sc_params : FnScope ["many", "k"] ["many"] (defScope s_made_parameters) := ⟨rfl, rfl, rfl, by decide +kernel, rfl, by decide +kernel, by decide +kernel⟩
theorem ok_params (F : Fg K mg "made_parameters" s_made_parameters) (B : Bn mg) : Df P w K mg base "made_parameters" ["many"] 1 (spParams K) := by
  refine Df.of F sc_params (fun _ _ _ _ _ _ us hl => match us, hl with | [_], _ => rfl) (fun vs H Q E h => ?_) (fun f cdv A outer s H vs Q E hr h => ?_)
  · obtain ⟨n, rfl, _⟩ := h
    rfl
  obtain ⟨n, rfl, hn, q⟩ := h
  have nd := sc_params.nd
  refine ⟨_, pss_one (ps_ret (pe_tupleOfF (by rfl) B.tuple (pe_lc (own := [("k", 1)]) (g := gName 1) (tt := tYes) rfl nd (pi_range1 (by rfl) B.range (pa_cons (pv 0) pa_nil)) (blkOk_by (N := ["many", "k"]) (sc := defScope s_made_parameters) (by decide +kernel))
    (fun _ _ _ _ _ => pg_name (i := 1) nd rfl (.inl rfl)) (fun _ _ _ _ _ => pts_nil) (fun _ _ _ _ _ => pe_op op_add_str pe_str (pe_callTy call_str_int (by rfl) B.str bStr (pa_cons (pe_op op_add (pv 1) pe_int) pa_nil)))))), ?_⟩
  refine ⟨_, rfl, n, rfl, by omega, by omega, fun D hD => lc_range (lo := 0) (n := n) (fun i H' => Fr [] H H' ∧ H' D = some (.lst ((xs i).map .str))) ⟨Fr.new hD _, upd_same⟩ ?_ ?_⟩
  · rintro i H' hi ⟨f, e⟩
    refine ⟨rfl, _, rfl, 0 + (i : Int), 1, rfl, rfl, ?_⟩
    have e1 : (0 + (i : Int) + 1) = ((i + 1 : Nat) : Int) := by omega
    refine ⟨((i + 1 : Nat) : Int), by show [V.int (0 + (i : Int) + 1)] = _; rw [e1], log_small (i + 1) (by omega), _, _, rfl, rfl, len_pre "x" (by decide) (i + 1) (by omega), ?_⟩
    refine ⟨_, e, ?_, f.over hD _, ?_⟩
    · rw [List.length_map, xs, List.length_map, List.length_range]; exact smallB (by omega)
    · rw [upd_same]
      unfold xs
      rw [List.range_succ, List.map_append, List.map_append]
      rfl
  · rintro H' ⟨f, e⟩
    exact ⟨D, _, rfl, .of e, fun p o hp d => q p _ (f.trans (Fr.new hp _)) (.new d)⟩
end
end Og

set_option Elab.async false
set_option linter.all false
set_option maxRecDepth 100000
set_option maxHeartbeats 4000000
/-! Og2b: renamed_expression. -/
namespace Og
open PySem PySem.Spec PyProof.Rows L2
mutual
def Ex.calls (S : Str → Prop) : Ex → Prop
  | .var _ => True
  | .quo _ => True
  | .ite a b c => a.calls S ∧ b.calls S ∧ c.calls S
  | .app (.pr _) as => callsL S as
  | .app (.fn f) as => S f ∧ callsL S as
def callsL (S : Str → Prop) : List Ex → Prop
  | [] => True
  | e :: es => e.calls S ∧ callsL S es
end
def Ex.parts : Ex → List Ex
  | .ite a b c => [a, b, c]
  | .app _ as => as
  | _ => []
/-- the first word of what has parts -/
def Ex.hwd : Ex → Option Hd
  | .app h _ => some h
  | _ => none
def Ex.first : Ex → Str
  | .ite _ _ _ => "if"
  | .app h _ => h.str
  | _ => "quote"
def Ex.leaf : Ex → Bool
  | .var _ => true
  | .quo _ => true
  | _ => false
def Ex.firstR (nm : Str → Str) : Ex → Str
  | .app (.fn f) _ => nm f
  | e => e.first
theorem comp_val {e : Ex} (h : e.leaf = false) : e.val = .l (.w e.first :: e.parts.map Ex.val) := by
  cases e with
  | var x => cases h
  | quo v => cases h
  | ite a b c => simp only [Ex.val]; rfl
  | app g as => simp only [Ex.val]; rw [vals_eq]; rfl
theorem renEs_map (nm : Str → Str) : ∀ es, renEs nm es = es.map (renE nm)
  | [] => by simp only [renEs, List.map_nil]
  | e :: es => by simp only [renEs, List.map_cons]; rw [renEs_map nm es]
theorem ren_val {nm : Str → Str} {e : Ex} (h : e.leaf = false) : (renE nm e).val = .l (.w (e.firstR nm) :: e.parts.map fun x => (renE nm x).val) := by
  cases e with
  | var x => cases h
  | quo v => cases h
  | ite a b c => simp only [renE, Ex.val]; rfl
  | app g as =>
    cases g with
    | pr o => simp only [renE, Ex.val]; rw [vals_eq, renEs_map, List.map_map]; rfl
    | fn f => simp only [renE, Ex.val]; rw [vals_eq, renEs_map, List.map_map]; rfl
theorem parts_nodes {e : Ex} (h : e.leaf = false) : e.nodes = 1 + nodesL e.parts := by
  cases e with
  | var x => cases h
  | quo v => cases h
  | ite a b c => simp only [Ex.nodes, Ex.parts, nodesL]; omega
  | app g as => simp only [Ex.nodes, Ex.parts]
theorem parts_calls {S : Str → Prop} {e : Ex} (h : e.calls S) : callsL S e.parts := by
  cases e with
  | var x => trivial
  | quo v => trivial
  | ite a b c => exact ⟨h.1, h.2.1, h.2.2, trivial⟩
  | app g as =>
    cases g with
    | pr o => exact h
    | fn f => exact h.2
/-- what is still to do: the next thing first -/
def RunR (nm : Str → Str) (S : Str → Prop) (R : Val) : List (Ex × Bool) → List Val → Prop
  | [], ms => ms = [R]
  | (e, false) :: ts, ms => e.calls S ∧ RunR nm S R ts (ms ++ [(renE nm e).val])
  | (e, true) :: ts, ms => e.leaf = false ∧ e.calls S ∧ ∃ m0 rs, ms = m0 ++ rs.reverse ∧ rs.length = e.parts.length ∧ RunR nm S R ts (m0 ++ [.l (.w (e.firstR nm) :: rs)])
theorem run_parts {nm : Str → Str} {S : Str → Prop} {R : Val} : ∀ (es : List Ex) (ts : List (Ex × Bool)) (ms : List Val), callsL S es → RunR nm S R ts (ms ++ (es.map fun x => (renE nm x).val).reverse) → RunR nm S R ((es.map fun x => (x, false)).reverse ++ ts) ms
  | [], ts, ms, _, h => by simpa using h
  | e :: es, ts, ms, c, h => by
    rw [List.map_cons, List.reverse_cons, List.append_assoc]
    refine run_parts es _ ms c.2 ⟨c.1, ?_⟩
    rw [List.append_assoc]
    simpa using h
theorem run_open {nm : Str → Str} {S : Str → Prop} {R : Val} {e : Ex} {ts : List (Ex × Bool)} {ms : List Val} (h : RunR nm S R ((e, false) :: ts) ms) (hl : e.leaf = false) : RunR nm S R ((e.parts.map fun x => (x, false)).reverse ++ (e, true) :: ts) ms := by
  obtain ⟨c, h⟩ := h
  refine run_parts _ _ _ (parts_calls c) ⟨hl, c, ms, e.parts.map fun x => (renE nm x).val, rfl, by rw [List.length_map], ?_⟩
  rw [← ren_val hl]
  exact h
def muT : List (Ex × Bool) → Nat
  | [] => 0
  | (e, false) :: ts => 2 * e.nodes + muT ts
  | (_, true) :: ts => 1 + muT ts
theorem muT_parts : ∀ (es : List Ex) (ts : List (Ex × Bool)), muT ((es.map fun x => (x, false)).reverse ++ ts) = 2 * nodesL es + muT ts
  | [], ts => by simp [nodesL]
  | e :: es, ts => by
    rw [List.map_cons, List.reverse_cons, List.append_assoc, muT_parts es]
    simp only [List.cons_append, List.nil_append, muT, nodesL]
    omega
theorem muT_len : ∀ ts : List (Ex × Bool), ts.length ≤ muT ts
  | [] => Nat.le_refl _
  | (e, false) :: ts => by simp only [List.length_cons, muT]; have := nodes_pos e; have := muT_len ts; omega
  | (_, true) :: ts => by simp only [List.length_cons, muT]; have := muT_len ts; omega
def IsT (K : PySem.W.Frag) (H : Hp) (t : Ex × Bool) (v : V) : Prop := ∃ p x, v = .ref p ∧ H p = some (.tup [x, .bl t.2]) ∧ IsV K H t.1.val x
theorem IsT.fr {K S H H' t v} (f : Fr S H H') (h : IsT K H t v) : IsT K H' t v := let ⟨p, x, e, a, b⟩ := h; ⟨p, x, e, f.tup _ _ a, b.fr f⟩
theorem first_of {S : Str → Prop} {nm : Str → Str} {e : Ex} (h : e.leaf = false) (c : e.calls S) : (e.first ∈ SPL ∧ e.first ≠ "quote" ∧ e.firstR nm = e.first) ∨ (S e.first ∧ e.firstR nm = nm e.first) := by
  cases e with
  | var x => cases h
  | quo v => cases h
  | ite a b d => exact .inl ⟨(by decide : ("if" : Str) ∈ SPL), (by decide : ("if" : Str) ≠ "quote"), rfl⟩
  | app g as =>
    cases g with
    | pr o =>
      have h1 : o.str ∈ SPL ∧ o.str ≠ "quote" := by cases o <;> decide
      exact .inl ⟨h1.1, h1.2, rfl⟩
    | fn f => exact .inr ⟨c.1, rfl⟩
theorem leaf_ren {nm : Str → Str} {e : Ex} (h : e.leaf = true) : renE nm e = e := by
  cases e with
  | var x => rfl
  | quo v => rfl
  | ite a b d => cases h
  | app g as => cases h
def PvRen (K : PySem.W.Frag) (nm : Str → Str) (S : Str → Prop) (v : V) (d l m : Addr) (e0 : Ex) (H : Hp) (g : List (Ex × Bool) × List Val) (σ : L2.St) (H' : Hp) : Prop :=
  ∃ x4 x5 x6 x7 x8 us ws, σ = [some v, some (.ref d), some (.ref l), some (.ref m), x4, x5, x6, x7, x8] ∧ Fr [] H H' ∧ H' l = some (.lst us) ∧ H' m = some (.lst ws) ∧ All2 (IsT K H') g.1.reverse us ∧ IsVs K H' g.2 ws ∧
      RunR nm S (renE nm e0).val g.1 g.2 ∧ g.2.length + muT g.1 ≤ 2 * e0.nodes
section
variable {P : Program} {w : World} {K : PySem.W.Frag} {mg : MG} {base : Heap}
def spRenE (K : PySem.W.Frag) : Sp := fun vs H Q _ => ∃ (e : Ex) (v : V) (d : Addr) (kn : List (Key × V)) (nm : Str → Str), vs = [v, .ref d] ∧ IsV K H e.val v ∧ H d = some (.dK kn) ∧
  e.calls (fun f => f ∉ SPL ∧ valV kn (.inr f) = some (.str (nm f))) ∧ e.nodes ≤ 1000000 ∧ ∀ H' x, Fr [] H H' → IsV K H' (renE nm e).val x → Q x H'
theorem sc_renamed_expression : FnScope ["expression", "names", "waiting", "made", "one", "is_ready", "part", "word", "_"] ["expression", "names"] (defScope s_renamed_expression) := ⟨rfl, rfl, rfl, by decide +kernel, rfl, by decide +kernel, by decide +kernel⟩
theorem ok_renE (F : Fg K mg "renamed_expression" s_renamed_expression) (B : Bn mg) (G : GTup K mg "SPECIAL" SPL) : Df P w K mg base "renamed_expression" ["expression", "names"] 1 (spRenE K) := by
  refine Df.of F sc_renamed_expression (fun _ _ _ _ _ _ us hl => match us, hl with | [_, _], _ => rfl) (fun vs H Q E h => ?_) (fun f cdv A outer s H vs Q E hr h => ?_)
  · obtain ⟨e, v, d, kn, nm, rfl, _⟩ := h
    rfl
  obtain ⟨e0, v, d, kn, nm, rfl, hv, hd, hc, hz, q⟩ := h
  obtain ⟨gs, mgs, gT⟩ := G
  have hu := hu_of hr
  have nd := sc_renamed_expression.nd
  refine ⟨_, (pss_cons (ps_set (i := 2) nd rfl (.inl rfl) (pe_lst (pa_cons (pe_tup (pa_cons (pv 0) (pa_cons pe_bl pa_nil))) pa_nil)))
    (pss_cons (ps_set (i := 3) nd rfl (.inr rfl) (pe_lst pa_nil))
    (pss_cons (ps_while PassesOwn.never (pt_cmpR op_gt (pe_callB call_len_seq (by rfl) B.len bLen (pa_cons (pv 2) pa_nil)) pe_int (nomark _))
      (pss_cons (ps_asg (pe_bm0 PySem.F.plainAttrs_list PySem.F.slot_list_pop PySem.F.type_list_pop mt_pop (pv 2)) (pg_tup rfl (pgs_cons (pg_name (i := 4) nd rfl (.inl rfl)) (pgs_cons (pg_name (i := 5) nd rfl (.inl rfl)) pgs_nil))))
      (pss_one (ps_if (PW.pt (pw_or (pt_val (pe_isS2 B (pv 4))) (pw_or1 (pt_cmpR op_eq (pe_ix ix_tup (pv 4) pe_int (fun _ _ => rfl)) pe_str (nomark _)))))
        (pss_one (ps_expr (pe_bm PySem.F.plainAttrs_list PySem.F.slot_list_append PySem.F.type_list_append mt_append (pv 3) (pa_cons (pv 4) pa_nil))))
        (pss_one (ps_if (pt_not (pt_val (pv 5)))
          (pss_cons (ps_expr (pe_bm PySem.F.plainAttrs_list PySem.F.slot_list_append PySem.F.type_list_append mt_append (pv 2) (pa_cons (pe_tup (pa_cons (pv 4) (pa_cons pe_bl pa_nil))) pa_nil)))
          (pss_one (ps_expr (pe_bm PySem.F.plainAttrs_list PySem.F.slot_list_extend PySem.F.type_list_extend mt_extend (pv 2) (pa_cons (pe_lc (own := [("part", 6)]) (g := gName 6) (tt := tYes) rfl nd (pi_tup (pe_slice sl_tailR (pv 4) (po_some pe_int) po_none)) (blkOk_by (N := ["expression", "names", "waiting", "made", "one", "is_ready", "part", "word", "_"]) (sc := defScope s_renamed_expression) (by decide +kernel)) (fun _ _ _ _ _ => pg_name (i := 6) nd rfl (.inl rfl)) (fun _ _ _ _ _ => pts_nil) (fun _ _ _ _ _ => (pe_tup (pa_cons (pv 6) (pa_cons pe_bl pa_nil))))) pa_nil)))))
          (pss_cons (ps_set (i := 7) nd rfl (.inl rfl) (pe_ifExp (pt_cmpR op_in_seq (pe_ix ix_tup (pv 4) pe_int (fun _ _ => rfl)) (pe_gtab mgs) (by rfl)) (pe_ix ix_tup (pv 4) pe_int (fun _ _ => rfl)) (pe_dget hu (pv 1) (pe_ix ix_tup (pv 4) pe_int (fun _ _ => rfl)) (fun _ _ => rfl))))
          (pss_one (ps_expr (pe_bm PySem.F.plainAttrs_list PySem.F.slot_list_append PySem.F.type_list_append mt_append (pv 3) (pa_cons (pe_op op_catS (pe_tup (pa_cons (pv 7) pa_nil)) (pe_tupleOf (by rfl) B.tuple (pe_lc (own := [("_", 8)]) (g := gName 8) (te := tBM0 K "list" rPop (tVar 3)) (tt := tYes) rfl nd (pi_tup (pe_slice sl_tailR (pv 4) (po_some pe_int) po_none)) (blkOk_by (N := ["expression", "names", "waiting", "made", "one", "is_ready", "part", "word", "_"]) (sc := defScope s_renamed_expression) (by decide +kernel)) (fun _ _ _ _ _ => pg_name (i := 8) nd rfl (.inl rfl)) (fun _ _ _ _ _ => pts_nil) (fun _ _ _ _ _ => (pe_bm0 PySem.F.plainAttrs_list PySem.F.slot_list_pop PySem.F.type_list_pop mt_pop (pv 3)))))) pa_nil)))))))))))
    (pss_one (ps_ret (pe_ix ix_list (pv 3) pe_int (fun _ _ => rfl))))))), ?_⟩
  refine ⟨_, rfl, (by show 2 ≤ sizeLine; decide), fun t0 ht0 => ?_⟩
  refine ⟨(by show 1 ≤ sizeLine; decide), fun l hl => ?_⟩
  refine ⟨(by show 0 ≤ sizeLine; decide), fun m hm => ?_⟩
  have fa : Fr [] H (upd H t0 (.tup [v, .bl false])) := Fr.new ht0 _
  have hl0 : H l = none := fa.free (by simp) hl
  have fb := fa.trans (Fr.new (S := []) hl (.lst [V.ref t0]))
  have hm0 : H m = none := fb.free (by simp) hm
  have fc := fb.trans (Fr.new (S := []) hm (.lst []))
  have lm : l ≠ m := fun z => by rw [← z, upd_same] at hm; cases hm
  have t0l : t0 ≠ l := fun z => by rw [← z, upd_same] at hl; cases hl
  have t0m : t0 ≠ m := fun z => by rw [← z, upd_ne t0l, upd_same] at hm; cases hm
  refine while_g (G := List (Ex × Bool) × List Val) (PvRen K nm (fun f => f ∉ SPL ∧ valV kn (.inr f) = some (.str (nm f))) v d l m e0 H) (fun g => muT g.1) ([(e0, false)], [])
    ⟨none, none, none, none, none, _, _, rfl, fc, by rw [upd_ne lm]; exact upd_same, upd_same, All2.one ⟨t0, v, rfl, by rw [upd_ne t0m, upd_ne t0l]; exact upd_same, hv.fr fc⟩, rfl, ⟨hc, rfl⟩, by simp only [muT, List.length_nil]; omega⟩ ?_
  rintro ⟨ts, ms⟩ σ H' ⟨x4, x5, x6, x7, x8, us, ws, rfl, fr, hul, hwm, hus, hws, hrun, hmu⟩
  simp only at hus hws hrun hmu
  have hlen := hus.len
  have hwl := hws.len
  rw [List.length_reverse] at hlen
  refine ⟨_, rfl, l, _, rfl, .inl (.of hul), _, _, rfl, rfl, _, rfl, ?_⟩
  cases ts with
  | nil =>
    rw [decide_eq_false (by rw [hlen]; decide)]
    refine iteF ?_
    obtain rfl : ms = [(renE nm e0).val] := hrun
    obtain ⟨x, rfl, hx⟩ := hws.one_inv
    exact ⟨_, rfl, m, _, _, _, rfl, rfl, .of hwm, rfl, q H' x fr hx⟩
  | cons t ts =>
  rw [decide_eq_true (by rw [hlen, List.length_cons]; show (0 : Int) < ((ts.length + 1 : Nat) : Int); omega)]
  refine iteT ?_
  refine ⟨_, while_n (G := List (Ex × Bool) × List Val) (mu := fun g => muT g.1), ?_⟩
  rw [List.reverse_cons] at hus
  obtain ⟨us, u, rfl, husA, p, x, rfl, hp, hx⟩ := hus.last
  have f1 : Fr [l] H' (upd H' l (.lst us)) := Fr.set (List.mem_singleton.mpr rfl) hul (fun _ z => by cases z) _
  have fr1 : Fr [] H (upd H' l (.lst us)) := fr.over hl0 _
  refine ⟨_, rfl, .inl ⟨rfl, _, .of hul⟩, l, _, _, rfl, rfl, hul, pop_at _ _, ?_⟩
  rw [List.dropLast_concat]
  have hp1 := f1.tup _ _ hp
  have hx1 := hx.fr f1
  have hus1 : All2 (IsT K (upd H' l (.lst us))) ts.reverse us := husA.imp fun _ _ h => h.fr f1
  have hws1 := hws.fr f1
  have hul1 : upd H' l (.lst us) l = some (.lst us) := upd_same
  have hwm1 : upd H' l (.lst us) m = some (.lst ws) := by rw [upd_ne (Ne.symm lm)]; exact hwm
  refine ⟨p, _, rfl, .of hp1, rfl, _, _, rfl, _, _, rfl, rfl, ?_⟩
  obtain ⟨e, b⟩ := t
  have hml := muT_len ts
  rw [List.length_cons] at hlen
  simp only at hx1
  generalize upd H' l (.lst us) = H1 at *
  have hul2 : us.length = ts.length := by have := husA.len; rw [List.length_reverse] at this; exact this
  -- a leaf: moved over
  have leafy : e.leaf = true → b = false → ∃ l_1 xs y, V.ref m = .ref l_1 ∧ [x] = [y] ∧ H1 l_1 = some (.lst xs) ∧ xs.length < sizeLine ∧ ∃ g' : List (Ex × Bool) × List Val, muT g'.1 < muT ((e, b) :: ts) ∧ PvRen K nm (fun f => f ∉ SPL ∧ valV kn (.inr f) = some (.str (nm f))) v d l m e0 H g' [some v, some (.ref d), some (.ref l), some (.ref m), some x, some (.bl b), x6, x7, x8] (upd H1 l_1 (.lst (xs ++ [y]))) := fun le be => by
    subst be
    have f2 : Fr [m] H1 (upd H1 m (.lst (ws ++ [x]))) := Fr.set (List.mem_singleton.mpr rfl) hwm1 (fun _ z => by cases z) _
    simp only [muT] at hmu ⊢
    have := nodes_pos e
    refine ⟨m, ws, x, rfl, rfl, hwm1, smallB (by omega), (ts, ms ++ [e.val]), by simp only; omega, _, _, _, _, _, us, ws ++ [x], rfl, fr1.over hm0 _, by rw [upd_ne lm]; exact hul1, upd_same, hus1.imp fun _ _ h => h.fr f2, (hws1.fr f2).app (IsVs.one (hx1.fr f2)), ?_, ?_⟩
    · have := hrun.2
      rw [leaf_ren le] at this
      exact this
    · simp only [List.length_append, List.length_singleton]; omega
  by_cases le : e.leaf = true
  · have be : b = false := by
      cases b with
      | false => rfl
      | true => have := hrun.1; rw [le] at this; cases this
    have lf := leafy le be
    cases e with
    | var y =>
      obtain rfl : x = .str y := hx1
      refine ⟨_, rfl, _, .w y, rfl, rfl, true, rfl, ?_⟩
      refine iteT ?_
      refine iteT ?_
      exact ⟨_, rfl, .inl ⟨rfl, _, .of hwm1⟩, _, rfl, lf⟩
    | quo z =>
      refine ⟨_, rfl, _, _, rfl, hx1, false, rfl, ?_⟩
      refine iteF ?_
      have hx2 := hx1
      obtain ⟨c, vs, rfl, t, v1, r1, rfl, e1, h2⟩ := hx1
      obtain rfl : v1 = .str "quote" := e1
      refine ⟨_, rfl, c, _, _, _, rfl, rfl, t.sq, at0, rfl, _, rfl, ?_⟩
      rw [decide_eq_true rfl]
      refine iteT ?_
      exact ⟨_, rfl, .inl ⟨rfl, _, .of hwm1⟩, _, rfl, lf⟩
    | ite _ _ _ => cases le
    | app _ _ => cases le
  · have le' : e.leaf = false := by simpa using le
    have ec : e.calls (fun f => f ∉ SPL ∧ valV kn (.inr f) = some (.str (nm f))) := by
      cases b with
      | false => exact hrun.1
      | true => exact hrun.2.1
    have hx2 := hx1
    rw [comp_val le'] at hx1
    refine ⟨_, rfl, _, _, rfl, hx1, false, rfl, ?_⟩
    refine iteF ?_
    obtain ⟨c, vs, rfl, t, v1, r1, rfl, e1, h2⟩ := hx1
    obtain rfl : v1 = .str e.first := e1
    have fne : e.first ≠ "quote" := by
      rcases first_of (nm := nm) le' ec with h | h
      · exact h.2.1
      · exact fun z => h.1.1 (by rw [z]; decide)
    refine ⟨_, rfl, c, _, _, _, rfl, rfl, t.sq, at0, rfl, _, rfl, ?_⟩
    rw [decide_eq_false (fun z => fne (V.str.inj z))]
    refine iteF ?_
    have h2l := h2.len
    rw [List.length_map] at h2l
    have hln := len_nodesL e.parts
    have hpn := parts_nodes le'
    cases b with
    | false =>
      refine ⟨_, rfl, false, rfl, ?_⟩
      refine iteT ?_
      simp only [muT] at hmu ⊢
      refine ⟨_, rfl, .inl ⟨rfl, _, .of hul1⟩, _, rfl, (by show 2 ≤ sizeLine; decide), fun t1 ht1 => ?_⟩
      have n1 : t1 ≠ l := fun z => by rw [z, hul1] at ht1; cases ht1
      have n2 : t1 ≠ m := fun z => by rw [z, hwm1] at ht1; cases ht1
      have g1 : Fr [] H1 (upd H1 t1 (.tup [.ref c, .bl true])) := Fr.new ht1 _
      have gr1 := fr1.trans g1
      have hul3 := g1.keep l _ (by simp) hul1
      have hwm3 := g1.keep m _ (by simp) hwm1
      have hus3 : All2 (IsT K (upd H1 t1 (.tup [.ref c, .bl true]))) ts.reverse us := hus1.imp fun _ _ h => h.fr g1
      have hws3 := hws1.fr g1
      have t3 := t.fr g1
      have h23 := h2.fr g1
      have hx23 := hx2.fr g1
      have tt1 : upd H1 t1 (.tup [.ref c, .bl true]) t1 = some (.tup [.ref c, .bl true]) := upd_same
      generalize upd H1 t1 (.tup [.ref c, .bl true]) = H3 at *
      refine ⟨l, us, _, rfl, rfl, hul3, smallB (by omega), ?_⟩
      have g2 : Fr [l] H3 (upd H3 l (.lst (us ++ [.ref t1]))) := Fr.set (List.mem_singleton.mpr rfl) hul3 (fun _ z => by cases z) _
      have gr2 : Fr [] H (upd H3 l (.lst (us ++ [.ref t1]))) := gr1.over hl0 _
      have hul4 : upd H3 l (.lst (us ++ [.ref t1])) l = some (.lst (us ++ [.ref t1])) := upd_same
      have hwm4 : upd H3 l (.lst (us ++ [.ref t1])) m = some (.lst ws) := by rw [upd_ne (Ne.symm lm)]; exact hwm3
      have hus4 : All2 (IsT K (upd H3 l (.lst (us ++ [.ref t1])))) (ts.reverse ++ [(e, true)]) (us ++ [.ref t1]) := (hus3.imp fun _ _ h => h.fr g2).app (All2.one ⟨t1, _, rfl, g2.tup _ _ tt1, hx23.fr g2⟩)
      have hws4 := hws3.fr g2
      have t4 := t3.fr g2
      have h24 := h23.fr g2
      generalize upd H3 l (.lst (us ++ [.ref t1])) = H4 at *
      refine ⟨_, rfl, .inl ⟨rfl, _, .of hul4⟩, _, rfl, 1, rfl, rfl, rfl, c, _, rfl, t4, List.cons_ne_nil _ _, fun y hy => ?_⟩
      have g3 : Fr [] H4 (upd H4 y (.tup (List.drop 1 (.str e.first :: r1)))) := Fr.new hy _
      have ty : upd H4 y (.tup (List.drop 1 (.str e.first :: r1))) y = some (.tup r1) := upd_same
      have gr3 := gr2.trans g3
      have hul5 := g3.keep l _ (by simp) hul4
      have hwm5 := g3.keep m _ (by simp) hwm4
      have hus5 := hus4.imp fun _ _ h => IsT.fr g3 h
      have hws5 := hws4.fr g3
      have h25 := h24.fr g3
      generalize upd H4 y (.tup (List.drop 1 (.str e.first :: r1))) = H5 at *
      refine ⟨y, rfl, ⟨_, .of ty⟩, fun D hD => lc_tup (K := K) (a := y) (xs := r1) (fun i H' => ∃ acc, H' D = some (.lst acc) ∧ Fr [] H5 H' ∧ All2 (IsT K H') ((e.parts.take i).map fun x => (x, false)) acc)
        ⟨[], upd_same, Fr.new hD _, rfl⟩ (fun i H' _ ⟨acc, _, f, _⟩ => .of (f.tup _ _ ty)) ?_ ?_⟩
      · rintro i z H' hz ⟨acc, ha, f, hacc⟩
        obtain ⟨zx, hzx, hzv⟩ := h25.get' hz
        rw [List.getElem?_map] at hzx
        obtain ⟨pe, hpe, rfl⟩ := Option.map_eq_some_iff.mp hzx
        refine ⟨rfl, _, rfl, (by show 2 ≤ sizeLine; decide), fun T hT => ?_⟩
        have nT : T ≠ D := fun q => by rw [q, ha] at hT; cases hT
        have k1 : Fr [] H' (upd H' T (.tup [z, .bl false])) := Fr.new hT _
        have hal := hacc.len
        rw [List.length_map, List.length_take] at hal
        have ha2 := k1.keep D _ (by simp) ha
        have k2 : Fr [D] (upd H' T (.tup [z, .bl false])) (upd (upd H' T (.tup [z, .bl false])) D (.lst (acc ++ [.ref T]))) := Fr.set (List.mem_singleton.mpr rfl) ha2 (fun _ z => by cases z) _
        refine ⟨acc, ha2, smallB (by omega), _, upd_same, (f.trans k1).over hD _, ?_⟩
        rw [List.take_add_one, hpe, List.map_append]
        exact ((hacc.imp fun _ _ h => h.fr k1).imp fun _ _ h => h.fr k2).app (All2.one ⟨T, z, rfl, k2.tup _ _ upd_same, ((hzv.fr f).fr k1).fr k2⟩)
      · rintro H' ⟨acc, ha, f, hacc⟩
        rw [h2l, List.take_length] at hacc
        have hal := hacc.len
        rw [List.length_map] at hal
        have hul6 := f.keep l _ (by simp) hul5
        have hwm6 := f.keep m _ (by simp) hwm5
        have k2 : Fr [l] H' (upd H' l (.lst ((us ++ [.ref t1]) ++ acc))) := Fr.set (List.mem_singleton.mpr rfl) hul6 (fun _ z => by cases z) _
        refine ⟨l, D, _, acc, rfl, rfl, hul6, ha, Nat.le_of_lt (smallB (by rw [List.length_append, List.length_singleton]; omega)), ((e.parts.map fun x => (x, false)).reverse ++ (e, true) :: ts, ms), ?_, _, _, _, _, _, _, ws, rfl, (gr3.trans f).over hl0 _, upd_same, by rw [upd_ne (Ne.symm lm)]; exact hwm6, ?_, (hws5.fr f).fr k2, run_open hrun le', ?_⟩
        · simp only
          rw [muT_parts]; simp only [muT]; omega
        · simp only [List.reverse_append, List.reverse_reverse, List.reverse_cons]
          exact ((hus5.imp fun _ _ h => h.fr f).imp fun _ _ h => h.fr k2).app (hacc.imp fun _ _ h => h.fr k2)
        · simp only
          rw [muT_parts]; simp only [muT]; omega
    | true =>
      refine ⟨_, rfl, true, rfl, ?_⟩
      refine iteF ?_
      simp only [muT] at hmu ⊢
      obtain ⟨_, _, m0, rs, rfl, hrl, hrun⟩ := hrun
      simp only [List.length_append, List.length_reverse] at hmu
      rcases first_of (nm := nm) le' ec with h | h
      case' inl =>
        refine ⟨_, rfl, c, _, _, _, rfl, rfl, t.sq, at0, gs, _, rfl, .inr (gT H1).sq, rfl, flat_strs _, _, rfl, ?_⟩
        show if inV (.str e.first) _ = true then _ else _
        rw [inV_str, decide_eq_true h.1]
        refine iteT ?_
        refine ⟨_, rfl, c, _, _, _, rfl, rfl, t.sq, at0, ?_⟩
        rw [← h.2.2]
      case' inr =>
        refine ⟨_, rfl, c, _, _, _, rfl, rfl, t.sq, at0, gs, _, rfl, .inr (gT H1).sq, rfl, flat_strs _, _, rfl, ?_⟩
        show if inV (.str e.first) _ = true then _ else _
        rw [inV_str, decide_eq_false h.1.1]
        refine iteF ?_
        refine ⟨_, rfl, _, rfl, c, _, _, _, rfl, rfl, t.sq, at0, d, _, rfl, (by rw [← h.1.2]; exact DGet.k (k := Sum.inr e.first) (fr1.keep d _ (by simp) hd)), ?_⟩
        rw [← h.2]
      all_goals
        refine ⟨_, rfl, .inl ⟨rfl, _, .of hwm1⟩, _, rfl, (by show 1 ≤ sizeLine; decide), fun t1 ht1 => ?_⟩
        have n1 : t1 ≠ l := fun z => by rw [z, hul1] at ht1; cases ht1
        have n2 : t1 ≠ m := fun z => by rw [z, hwm1] at ht1; cases ht1
        have g1 : Fr [] H1 (upd H1 t1 (.tup [.str (e.firstR nm)])) := Fr.new ht1 _
        have gr1 := fr1.trans g1
        have hul3 := g1.keep l _ (by simp) hul1
        have hwm3 := g1.keep m _ (by simp) hwm1
        have hus3 : All2 (IsT K (upd H1 t1 (.tup [.str (e.firstR nm)]))) ts.reverse us := hus1.imp fun _ _ h => h.fr g1
        have hws3 := hws1.fr g1
        have t3 := t.fr g1
        have h23 := h2.fr g1
        have tt1 : upd H1 t1 (.tup [.str (e.firstR nm)]) t1 = some (.tup [.str (e.firstR nm)]) := upd_same
        generalize upd H1 t1 (.tup [.str (e.firstR nm)]) = H3 at *
        refine ⟨_, rfl, 1, rfl, rfl, rfl, c, _, rfl, t3, List.cons_ne_nil _ _, fun y hy => ?_⟩
        have g3 : Fr [] H3 (upd H3 y (.tup (List.drop 1 (.str e.first :: r1)))) := Fr.new hy _
        have ty : upd H3 y (.tup (List.drop 1 (.str e.first :: r1))) y = some (.tup r1) := upd_same
        have gr3 := gr1.trans g3
        have hul5 := g3.keep l _ (by simp) hul3
        have hwm5 := g3.keep m _ (by simp) hwm3
        have hus5 := hus3.imp fun _ _ h => IsT.fr g3 h
        have hws5 := hws3.fr g3
        have h25 := h23.fr g3
        have tt5 := g3.tup _ _ tt1
        generalize upd H3 y (.tup (List.drop 1 (.str e.first :: r1))) = H5 at *
        have hrl1 : r1.length = rs.length := by rw [h2l, hrl]
        refine ⟨y, rfl, ⟨_, .of ty⟩, fun D hD => lc_tup (K := K) (a := y) (xs := r1) (fun i H' => ∃ acc ws', H' D = some (.lst acc) ∧ H' m = some (.lst ws') ∧ Fr [m] H5 H' ∧ IsVs K H' (rs.take i) acc ∧ IsVs K H' (m0 ++ (rs.drop i).reverse) ws')
          ⟨[], ws, upd_same, by rw [upd_ne (ne_of_none hwm5 hD)]; exact hwm5, (Fr.new (S := []) hD _).mono (by simp), rfl, by rw [List.drop_zero]; exact hws5.fr (Fr.new (S := []) hD _)⟩ (fun i H' _ ⟨_, _, _, _, f, _⟩ => .of (f.tup _ _ ty)) ?_ ?_⟩
        · rintro i z H' hz ⟨acc, ws', ha, hm', f, hacc, hws'⟩
          have hi : i < rs.length := by have := (List.getElem?_eq_some_iff.mp hz).1; omega
          rw [List.drop_eq_getElem_cons hi, List.reverse_cons, ← List.append_assoc] at hws'
          obtain ⟨ws2, u2, rfl, hws2, hu2⟩ := hws'.last
          have hal := hacc.len
          rw [List.length_take] at hal
          have nD : D ≠ m := fun q => by rw [q, hwm5] at hD; cases hD
          have k1 : Fr [m] H' (upd H' m (.lst ws2)) := Fr.set (List.mem_singleton.mpr rfl) hm' (fun _ z => by cases z) _
          have ha2 : upd H' m (.lst ws2) D = some (.lst acc) := by rw [upd_ne nD]; exact ha
          refine ⟨rfl, _, rfl, .inl ⟨rfl, _, .of hm'⟩, m, _, _, rfl, rfl, hm', pop_at _ _, acc, by rw [List.dropLast_concat]; exact ha2, smallB (by omega), ?_⟩
          rw [List.dropLast_concat]
          have k2 : Fr [D] (upd H' m (.lst ws2)) (upd (upd H' m (.lst ws2)) D (.lst (acc ++ [u2]))) := Fr.set (List.mem_singleton.mpr rfl) ha2 (fun _ z => by cases z) _
          refine ⟨_, ws2, upd_same, by rw [upd_ne (Ne.symm nD)]; exact upd_same, (f.trans k1).over hD _, ?_, (hws2.fr k1).fr k2⟩
          rw [List.take_add_one, List.getElem?_eq_getElem hi]
          exact ((hacc.fr k1).fr k2).app (IsVs.one ((hu2.fr k1).fr k2))
        · rintro H' ⟨acc, ws', ha, hm', f, hacc, hws'⟩
          rw [hrl1, List.take_length] at hacc
          rw [hrl1, List.drop_length, List.reverse_nil, List.append_nil] at hws'
          have hal := hacc.len
          have hwl' := hws'.len
          have hul6 := f.keep l _ (by simp [lm]) hul5
          refine .inl ⟨D, _, rfl, .of ha, fun p2 hp2 => ?_⟩
          have k1 : Fr [] H' (upd H' p2 (.tup acc)) := Fr.new hp2 _
          refine ⟨t1, p2, _, acc, rfl, rfl, .of (k1.tup _ _ (f.tup _ _ tt5)), .of upd_same, Nat.le_of_lt (smallB (by simp only [List.length_cons, List.length_nil]; omega)), fun p3 H6 k2 t6 => ?_⟩
          have k := k1.trans k2
          have hm6 := k.keep m _ (by simp) hm'
          have hl6 := k.keep l _ (by simp) hul6
          have k3 : Fr [m] H6 (upd H6 m (.lst (ws' ++ [.ref p3]))) := Fr.set (List.mem_singleton.mpr rfl) hm6 (fun _ z => by cases z) _
          refine ⟨m, ws', _, rfl, rfl, hm6, smallB (by omega), (ts, m0 ++ [.l (.w (e.firstR nm) :: rs)]), by simp only; omega, _, _, _, _, _, us, _, rfl, ?_, by rw [upd_ne lm]; exact hl6, upd_same, ?_, ?_, hrun, ?_⟩
          · exact gr3.drop ((f.trans (k.mono (by simp))).trans k3) (fun x hx => .inr (by rw [List.mem_singleton.mp hx]; exact hm0))
          · exact (((hus5.imp fun _ _ h => h.fr f).imp fun _ _ h => h.fr k).imp fun _ _ h => h.fr k3)
          · exact ((hws'.fr k).fr k3).app (IsVs.one (isV_l (t6.fr k3) (IsVs.cons isV_w (((hacc.fr k).fr k3)))))
          · simp only [List.length_append, List.length_singleton]; omega
end
end Og

set_option Elab.async false
set_option linter.all false
set_option maxRecDepth 100000
set_option maxHeartbeats 4000000
/-! Og3: renamed, with_main, fill_function, fill. -/
namespace Og
open PySem PySem.Spec PyProof.Rows L2
structure RenOk (p : Prog) : Prop where
  good : Good p
  calls : ∀ f ∈ p, f.body.calls fun x => x ∉ SPL ∧ ∃ g ∈ p, g.name = x
  small : ∀ f ∈ p, f.body.nodes ≤ 1000000
mutual
theorem Ex.calls.imp {S T : Str → Prop} (h : ∀ x, S x → T x) : ∀ {e : Ex}, e.calls S → e.calls T
  | .var _, _ => trivial
  | .quo _, _ => trivial
  | .ite a b c, q => ⟨Ex.calls.imp h q.1, Ex.calls.imp h q.2.1, Ex.calls.imp h q.2.2⟩
  | .app (.pr _) as, q => callsL.imp h (es := as) q
  | .app (.fn f) as, q => ⟨h _ q.1, callsL.imp h (es := as) q.2⟩
theorem callsL.imp {S T : Str → Prop} (h : ∀ x, S x → T x) : ∀ {es : List Ex}, callsL S es → callsL T es
  | [], _ => trivial
  | e :: es, q => ⟨Ex.calls.imp h q.1, callsL.imp h q.2⟩
end
theorem nmF_at : ∀ (p : Prog) (s i : Nat) (f : Fn), p[i]? = some f → (∀ g ∈ p.take i, g.name ≠ f.name) → nmF p s f.name = fN (s + i)
  | [], _, _, _, e, _ => by simp at e
  | h :: p, s, 0, f, e, _ => by
    simp at e
    subst e
    simp [nmF]
  | h :: p, s, i + 1, f, e, d => by
    have n : h.name ≠ f.name := d h (by simp)
    rw [nmF, if_neg n, nmF_at p (s + 1) i f (by simpa using e) (fun g hg => d g (by simp [hg]))]
    rw [show s + 1 + i = s + (i + 1) by omega]
theorem renL_len (nm : Str → Str) : ∀ (p : Prog) (s : Nat), (renL nm p s).length = p.length
  | [], _ => rfl
  | f :: p, s => by simp [renL, renL_len nm p]
theorem renP_len (p : Prog) (s : Nat) : (renP p s).length = p.length := renL_len _ _ _
section
variable {P : Program} {w : World} {K : PySem.W.Frag} {mg : MG} {base : Heap}
theorem isV_fn {K : PySem.W.Frag} {H : Hp} {f : Fn} {a b : Addr} {c : V} (t : TupAt K H a [.str f.name, .ref b, c]) (t2 : TupAt K H b (f.ps.map .str)) (h : IsV K H f.body.val c) : IsV K H f.val (.ref a) :=
  isV_l t (IsVs.cons isV_w (IsVs.cons (isV_l t2 isV_ws) (IsVs.one h)))
def spRenamed (K : PySem.W.Frag) : Sp := fun vs H Q _ => ∃ (p : Prog) (s : Nat) (v : V), vs = [v, .int (s : Int)] ∧ IsP K H p v ∧ RenOk p ∧ s + p.length ≤ 99 ∧ ∀ H' x, Fr [] H H' → IsP K H' (renP p s) x → Q x H'
theorem sc_renamed : FnScope ["program", "start", "names", "number", "name", "parameters", "body"] ["program", "start"] (defScope s_renamed) := ⟨rfl, rfl, rfl, by decide +kernel, rfl, by decide +kernel, by decide +kernel⟩
theorem ok_renamed (F : Fg K mg "renamed" s_renamed) (B : Bn mg) (D_check_program : Df P w K mg base "check_program" ["value"] 4 (spCheck K)) (D_made_name : Df P w K mg base "made_name" ["number"] 1 spMade)
    (D_renamed_expression : Df P w K mg base "renamed_expression" ["expression", "names"] 1 (spRenE K)) : Df P w K mg base "renamed" ["program", "start"] 5 (spRenamed K) := by
  refine Df.of F sc_renamed (fun _ _ _ _ _ _ us hl => match us, hl with | [_, _], _ => rfl) (fun vs H Q E h => ?_) (fun f cdv A outer s H vs Q E hr h => ?_)
  · obtain ⟨p, n, v, rfl, _⟩ := h
    rfl
  obtain ⟨p, s0, v, rfl, hv, g, hz, q⟩ := h
  have hu := hu_of hr
  have nd := sc_renamed.nd
  refine ⟨_, (pss_cons (ps_expr (pe_cf D_check_program (hr.mono (by decide)) (pa_cons (pv 0) pa_nil)))
    (pss_cons (ps_set (i := 2) nd rfl (.inr rfl) pe_dnewK)
    (pss_cons (ps_for PassesOwn.never rfl (pi_enumT (by rfl) B.enumerate (pa_cons (pv 0) pa_nil)) (pg_tup rfl (pgs_cons (pg_name (i := 3) nd rfl (.inl rfl)) (pgs_cons (pg_tup rfl (pgs_cons (pg_name (i := 4) nd rfl (.inl rfl)) (pgs_cons (pg_name (i := 5) nd rfl (.inl rfl)) (pgs_cons (pg_name (i := 6) nd rfl (.inl rfl)) pgs_nil)))) pgs_nil)))
      (pss_one (ps_dput hu (pv 2) (pv 4) (pe_cf D_made_name (hr.mono (by decide)) (pa_cons (pe_op op_add (pv 1) (pv 3)) pa_nil)) rfl)))
    (pss_one (ps_ret (pe_tupleOf (by rfl) B.tuple (pe_lc (own := [("name", 4), ("parameters", 5), ("body", 6)]) (g := gTup K 3 (gCons (gName 4) (gCons (gName 5) (gCons (gName 6) gNil)))) (tt := tYes) rfl nd (pi_tup (pv 0)) (blkOk_by (N := ["program", "start", "names", "number", "name", "parameters", "body"]) (sc := defScope s_renamed) (by decide +kernel)) (fun _ _ _ _ _ => pg_tup rfl (pgs_cons (pg_name (i := 4) nd rfl (.inl rfl)) (pgs_cons (pg_name (i := 5) nd rfl (.inl rfl)) (pgs_cons (pg_name (i := 6) nd rfl (.inl rfl)) pgs_nil)))) (fun _ _ _ _ _ => pts_nil) (fun _ _ _ _ _ => (pe_tup (pa_cons (pe_dget hu (pv 2) (pv 4) (fun _ _ => rfl)) (pa_cons (pv 5) (pa_cons (pe_cf D_renamed_expression (hr.mono (by decide)) (pa_cons (pv 6) (pa_cons (pv 2) pa_nil))) pa_nil)))))))))))), ?_⟩
  have hv' := hv.v
  obtain ⟨a, us, rfl, t, r⟩ := hv
  have hl := r.len
  refine ⟨_, rfl, p, _, rfl, hv', g.good, fun H1 f1 => ?_⟩
  refine fun dn hdn => ?_
  have f2 : Fr [] H (upd H1 dn (.dK [])) := f1.trans (Fr.new hdn _)
  have hn0 : H dn = none := f1.free (by simp) hdn
  refine ⟨_, rfl, a, _, rfl, (t.fr f2).sq, for_enumT (fun i σ H' => ∃ x3 x4 x5 x6 kn, σ = [some (.ref a), some (.int (s0 : Int)), some (.ref dn), x3, x4, x5, x6] ∧ Fr [] H H' ∧ H' dn = some (.dK kn) ∧ kn.length ≤ i ∧
      ∀ x, (∃ g ∈ p.take i, g.name = x) → valV kn (.inr x) = some (.str (nmF p s0 x)))
    ⟨none, none, none, none, [], rfl, f2, upd_same, Nat.le_refl _, fun x ⟨g, hg, _⟩ => by simp at hg⟩ (fun i σ H' _ ⟨_, _, _, _, _, _, f, _⟩ => (t.fr f).sq) ?_ ?_⟩
  · rintro i x T σ H' hx hT ⟨x3, x4, x5, x6, kn, rfl, f, e2, e3, e4⟩
    have hi : i < us.length := (List.getElem?_eq_some_iff.mp hx).1
    obtain ⟨fn, hfn, hfv⟩ := r.get' hx
    have f' : Fr [] H' (upd H' T (.tup [.int (i : Nat), x])) := Fr.new hT _
    have hfv2 := (hfv.fr f).fr f'
    have e2' := f'.keep dn _ (by simp) e2
    obtain ⟨b, c, bd, rfl, t1, t2, hb⟩ := hfv2
    refine ⟨T, _, rfl, .of upd_same, rfl, _, _, rfl, _, _, rfl, b, _, rfl, t1.sq, rfl, _, _, rfl, _, _, rfl, _, _, rfl, rfl, rfl, ?_⟩
    obtain ⟨g1, g2, g3, g4, g5⟩ := g.good.fn i fn hfn
    refine ⟨_, rfl, _, rfl, (s0 : Int), (i : Int), rfl, rfl, s0 + i, by rw [Int.natCast_add]; rfl, by omega, _, rfl, _, rfl, dn, _, rfl, DPut.k (k := Sum.inr fn.name) e2' (smallB (by omega)), ?_⟩
    refine ⟨_, _, _, _, _, rfl, (f.trans f').over hn0 _, upd_same, ?_, fun x hx => ?_⟩
    · have := length_putK kn (Sum.inr fn.name : Key) (V.str (fN (s0 + i)))
      omega
    · rw [valV_put]
      by_cases ex : x = fn.name
      · rw [if_pos (by rw [ex]), ex, nmF_at p s0 i fn hfn g3]
      · rw [if_neg fun z => ex (Sum.inr.inj z)]
        obtain ⟨g', hg', e⟩ := hx
        rw [List.take_add_one, hfn] at hg'
        rcases List.mem_append.mp hg' with hg' | hg'
        · exact e4 x ⟨g', hg', e⟩
        · simp at hg'
          exact absurd (by rw [← e, hg']) ex
  · rintro σ H' ⟨x3, x4, x5, x6, kn, rfl, f, e2, e3, e4⟩
    rw [hl, List.take_length] at e4
    refine ⟨_, rfl, a, rfl, ⟨_, (t.fr f).sq⟩, fun D hD => lc_tup (K := K) (a := a) (xs := us) (fun i H' => ∃ acc, H' D = some (.lst acc) ∧ Fr [] H H' ∧ H' dn = some (.dK kn) ∧ All2 (IsF K H') (renL (nmF p s0) (p.take i) s0) acc)
      ⟨[], upd_same, f.trans (Fr.new hD _), (Fr.new (S := []) hD _).keep dn _ (by simp) e2, rfl⟩ (fun i H' _ ⟨_, _, f, _⟩ => (t.fr f).sq) ?_ ?_⟩
    · rintro i x H2 hx ⟨acc, ha, f3, e5, hacc⟩
      have hi : i < us.length := (List.getElem?_eq_some_iff.mp hx).1
      obtain ⟨fn, hfn, hfv⟩ := r.get' hx
      obtain ⟨b, c, bd, rfl, t1, t2, hb⟩ := hfv.fr f3
      have hmem := List.mem_of_getElem? hfn
      have hD0 : H D = none := f.free (by simp) hD
      have hal := hacc.len
      rw [renL_len, List.length_take] at hal
      refine ⟨b, _, rfl, t1.sq, rfl, _, _, rfl, _, _, rfl, _, _, rfl, rfl, rfl, ?_⟩
      refine ⟨_, rfl, _, rfl, dn, _, rfl, (by rw [← e4 fn.name ⟨fn, hmem, rfl⟩]; exact DGet.k (k := Sum.inr fn.name) e5), _, rfl, _, rfl, _, rfl, fn.body, bd, dn, kn, nmF p s0, rfl, hb, e5,
        (g.calls fn hmem).imp fun x hx => ⟨hx.1, e4 x hx.2⟩, g.small fn hmem, fun H3 y f4 hy => ?_⟩
      refine ⟨(by show 3 ≤ sizeLine; decide), fun T hT => ?_⟩
      have k1 : Fr [] H3 (upd H3 T (.tup [.str (nmF p s0 fn.name), .ref c, y])) := Fr.new hT _
      have k := f4.trans k1
      have ha2 := k.keep D _ (by simp) ha
      have k2 : Fr [D] (upd H3 T (.tup [.str (nmF p s0 fn.name), .ref c, y])) (upd (upd H3 T (.tup [.str (nmF p s0 fn.name), .ref c, y])) D (.lst (acc ++ [.ref T]))) := Fr.set (List.mem_singleton.mpr rfl) ha2 (fun _ z => by cases z) _
      have nD : D ≠ dn := fun z => by rw [z, e5] at ha; cases ha
      refine ⟨acc, ha2, smallB (by have := g.good.len; omega), _, upd_same, (f3.trans k).over hD0 _, by rw [upd_ne (Ne.symm nD)]; exact k.keep dn _ (by simp) e5, ?_⟩
      rw [List.take_add_one, hfn, renL_append]
      refine ((hacc.imp fun _ _ z => z.fr k).imp fun _ _ z => z.fr k2).app (All2.one ?_)
      have hmin : s0 + (List.take i p).length = s0 + i := by rw [List.length_take]; omega
      rw [hmin]
      refine ⟨T, c, y, rfl, TupAt.fr k2 (.of ?_), (t2.fr k).fr k2, (hy.fr k1).fr k2⟩
      rw [upd_same, nmF_at p s0 i fn hfn (g.good.fn i fn hfn).2.2.1]
    · rintro H2 ⟨acc, ha, f3, e5, hacc⟩
      rw [hl, List.take_length] at hacc
      refine .inl ⟨D, _, rfl, .of ha, fun T hT => ?_⟩
      have k1 : Fr [] H2 (upd H2 T (.tup acc)) := Fr.new hT _
      exact q _ _ (f3.trans k1) ⟨T, acc, rfl, .of upd_same, hacc.imp fun _ _ z => z.fr k1⟩
end
end Og

set_option Elab.async false
set_option linter.all false
set_option maxRecDepth 100000
set_option maxHeartbeats 4000000
/-! Og3b: with_main, fill_function, fill, joined. -/
namespace Og
open PySem PySem.Spec PyProof.Rows L2
section
variable {P : Program} {w : World} {K : PySem.W.Frag} {mg : MG} {base : Heap}
theorem vals_vars (l : List Str) : Ex.vals (l.map .var) = l.map .w := by
  rw [vals_eq, List.map_map]
  exact List.map_congr_left fun x _ => by simp only [Function.comp, Ex.val]
theorem isV_prog {K : PySem.W.Frag} {H : Hp} {p : Prog} {v : V} : IsV K H p.val v ↔ ∃ a vs, v = .ref a ∧ TupAt K H a vs ∧ IsVs K H (p.map Fn.val) vs := Iff.rfl
theorem isV_l_iff {K : PySem.W.Frag} {H : Hp} {xs : List Val} {v : V} : IsV K H (.l xs) v ↔ ∃ a vs, v = .ref a ∧ TupAt K H a vs ∧ IsVs K H xs vs := Iff.rfl
/-! ### with_main -/
def spWithMain (K : PySem.W.Frag) : Sp := fun vs H Q _ => ∃ (fs : Prog) (ps : List Str) (b : Ex) (v1 v3 : V) (c : Addr), vs = [v1, .ref c, v3] ∧ IsP K H fs v1 ∧ StrAt K H c ps ∧ IsV K H b.val v3 ∧ fs.length ≤ 98 ∧ ∀ H' x, Fr [] H H' → IsP K H' (withMain fs ps b) x → Q x H'
theorem sc_with_main : FnScope ["functions", "parameters", "body"] ["functions", "parameters", "body"] (defScope s_with_main) := ⟨rfl, rfl, rfl, by decide +kernel, rfl, by decide +kernel, by decide +kernel⟩
theorem ok_with_main (F : Fg K mg "with_main" s_with_main) (B : Bn mg) (D_made_name : Df P w K mg base "made_name" ["number"] 1 spMade) : Df P w K mg base "with_main" ["functions", "parameters", "body"] 2 (spWithMain K) := by
  refine Df.of F sc_with_main (fun _ _ _ _ _ _ us hl => match us, hl with | [_, _, _], _ => rfl) (fun vs H Q E h => ?_) (fun f cdv A outer s H vs Q E hr h => ?_)
  · obtain ⟨_, _, _, _, _, _, rfl, _⟩ := h
    rfl
  obtain ⟨fs, ps, b, v1, v3, cp, rfl, h1, h2, h3, hz, q⟩ := h
  have hu := hu_of hr
  have nd := sc_with_main.nd
  refine ⟨_, (pss_one (ps_ret (pe_op op_catS (pe_tup (pa_cons (pe_tup (pa_cons (pe_cf D_made_name (hr.mono (by decide)) (pa_cons (pe_callB call_len_seq (by rfl) B.len bLen (pa_cons (pv 0) pa_nil)) pa_nil)) (pa_cons (pv 1) (pa_cons (pv 2) pa_nil)))) pa_nil)) (pv 0)))), ?_⟩
  obtain ⟨a, us, rfl, t, r⟩ := h1
  have hl := r.len
  refine ⟨_, rfl, a, _, rfl, .inr t.sq, us.length, rfl, by omega, _, rfl, _, rfl, (by show 3 ≤ sizeLine; decide), fun T hT => ?_⟩
  have f1 : Fr [] H (upd H T (.tup [.str (fN us.length), .ref cp, v3])) := Fr.new hT _
  refine ⟨(by show 1 ≤ sizeLine; decide), fun U hU => ?_⟩
  have f2 : Fr [] (upd H T (.tup [.str (fN us.length), .ref cp, v3])) (upd (upd H T (.tup [.str (fN us.length), .ref cp, v3])) U (.tup [.ref T])) := Fr.new hU _
  have eT := f2.tup T _ upd_same
  refine ⟨_, rfl, U, a, _, us, rfl, rfl, .of upd_same, (t.fr f1).fr f2, Nat.le_of_lt (smallB (by simp only [List.length_cons, List.length_nil]; omega)), fun p H' f3 t3 => ?_⟩
  have f := (f1.trans f2).trans f3
  refine q H' _ f ⟨p, _, rfl, t3, .ref T, us, rfl, ⟨T, cp, v3, rfl, .of ?_, h2.fr f, h3.fr f⟩, r.imp fun _ _ z => z.fr f⟩
  show H' T = some (.tup [.str (fN fs.length), .ref cp, v3])
  rw [← hl]
  exact f3.tup T _ eT
/-! ### fill_function -/
def spFillF (K : PySem.W.Frag) : Sp := fun vs H Q _ => ∃ (main : Str) (n k : Nat) (x : Val) (v : V), vs = [.str main, .int (n : Int), v, .int (k : Int)] ∧ IsV K H x v ∧ n ≤ 99 ∧ k ≤ 20 ∧ ∀ H' y, Fr [] H H' → IsF K H' (fillF main n x k) y → Q y H'
theorem sc_fill_function : FnScope ["main", "number", "value", "many", "parameters"] ["main", "number", "value", "many"] (defScope s_fill_function) := ⟨rfl, rfl, rfl, by decide +kernel, rfl, by decide +kernel, by decide +kernel⟩
theorem ok_fill_function (F : Fg K mg "fill_function" s_fill_function) (B : Bn mg) (D_made_name : Df P w K mg base "made_name" ["number"] 1 spMade) (D_made_parameters : Df P w K mg base "made_parameters" ["many"] 1 (spParams K)) :
    Df P w K mg base "fill_function" ["main", "number", "value", "many"] 2 (spFillF K) := by
  refine Df.of F sc_fill_function (fun _ _ _ _ _ _ us hl => match us, hl with | [_, _, _, _], _ => rfl) (fun vs H Q E h => ?_) (fun f cdv A outer s H vs Q E hr h => ?_)
  · obtain ⟨_, _, _, _, _, rfl, _⟩ := h
    rfl
  obtain ⟨main, n, k, x, v, rfl, hx, hn, hk, q⟩ := h
  have hu := hu_of hr
  have nd := sc_fill_function.nd
  refine ⟨_, (pss_cons (ps_set (i := 4) nd rfl (.inl rfl) (pe_cf D_made_parameters (hr.mono (by decide)) (pa_cons (pv 3) pa_nil)))
    (pss_one (ps_ret (pe_tup (pa_cons (pe_cf D_made_name (hr.mono (by decide)) (pa_cons (pv 1) pa_nil)) (pa_cons (pv 4) (pa_cons (pe_op op_catS (pe_tup (pa_cons (pv 0) (pa_cons (pe_tup (pa_cons pe_str (pa_cons (pv 2) pa_nil))) pa_nil))) (pv 4)) pa_nil))))))), ?_⟩
  refine ⟨_, rfl, k, rfl, hk, fun a H1 f1 ea => ?_⟩
  refine ⟨_, rfl, n, rfl, hn, _, rfl, _, rfl, _, rfl, (by show 2 ≤ sizeLine; decide), fun T hT => ?_⟩
  have f2 : Fr [] H1 (upd H1 T (.tup [.str "quote", v])) := Fr.new hT _
  have eT : upd H1 T (.tup [.str "quote", v]) T = some (.tup [.str "quote", v]) := upd_same
  have ea2 := ea.fr f2
  generalize upd H1 T (.tup [.str "quote", v]) = H2 at *
  refine ⟨(by show 2 ≤ sizeLine; decide), fun U hU => ?_⟩
  have f3 : Fr [] H2 (upd H2 U (.tup [.str main, .ref T])) := Fr.new hU _
  have eU : upd H2 U (.tup [.str main, .ref T]) U = some (.tup [.str main, .ref T]) := upd_same
  have ea3 := ea2.fr f3
  have eT3 := f3.tup _ _ eT
  generalize upd H2 U (.tup [.str main, .ref T]) = H3 at *
  refine ⟨_, rfl, U, a, _, _, rfl, rfl, .of eU, ea3.tup, Nat.le_of_lt (smallB (by simp only [List.length_cons, List.length_nil, List.length_map, xs, List.length_range]; omega)), fun p H4 f4 t4 => ?_⟩
  refine ⟨(by show 3 ≤ sizeLine; decide), fun W hW => ?_⟩
  have f5 : Fr [] H4 (upd H4 W (.tup [.str (fN n), .ref a, .ref p])) := Fr.new hW _
  have f := (((f1.trans f2).trans f3).trans f4).trans f5
  refine q _ _ f ⟨W, a, .ref p, rfl, .of upd_same, (ea3.fr f4).fr f5, ?_⟩
  simp only [fillF, Ex.val, Ex.vals, vals_vars]
  exact isV_l (t4.fr f5) (IsVs.cons isV_w (IsVs.cons (isV_l (.of (f5.tup _ _ (f4.tup _ _ eT3))) (IsVs.cons isV_w (IsVs.one (hx.fr f)))) isV_ws))
/-! ### fill -/
def spFill (K : PySem.W.Frag) : Sp := fun vs H Q _ => ∃ (p : Prog) (f : Fn) (k : Nat) (x : Val) (v1 v2 : V), vs = [v1, v2] ∧ IsP K H p v1 ∧ IsV K H x v2 ∧ Good p ∧ p.head? = some f ∧ f.name = fN (p.length - 1) ∧ f.ps.length = k + 1 ∧ k ≤ 8 ∧ p.length ≤ 98 ∧
  ∀ H' y, Fr [] H H' → IsP K H' (Og.fill p x k) y → Q y H'
theorem sc_fill : FnScope ["program", "value", "many"] ["program", "value"] (defScope s_fill) := ⟨rfl, rfl, rfl, by decide +kernel, rfl, by decide +kernel, by decide +kernel⟩
theorem ok_fill (F : Fg K mg "fill" s_fill) (B : Bn mg) (D_check_program : Df P w K mg base "check_program" ["value"] 4 (spCheck K)) (D_inputs_of : Df P w K mg base "inputs_of" ["program"] 5 (spInputs K)) (D_fill_function : Df P w K mg base "fill_function" ["main", "number", "value", "many"] 2 (spFillF K)) (gMI : GInt mg "MOST_INPUTS" 8) :
    Df P w K mg base "fill" ["program", "value"] 6 (spFill K) := by
  refine Df.of F sc_fill (fun _ _ _ _ _ _ us hl => match us, hl with | [_, _], _ => rfl) (fun vs H Q E h => ?_) (fun f cdv A outer s H vs Q E hr h => ?_)
  · obtain ⟨_, _, _, _, _, _, rfl, _⟩ := h
    rfl
  obtain ⟨p, f0, k, x, v1, v2, rfl, h1, h2, g, hh, hn, hp, hk, hz, q⟩ := h
  have hu := hu_of hr
  have nd := sc_fill.nd
  refine ⟨_, (pss_cons (ps_expr (pe_cf D_check_program (hr.mono (by decide)) (pa_cons (pv 0) pa_nil)))
    (pss_cons (ps_set (i := 2) nd rfl (.inl rfl) (pe_cf D_inputs_of (hr.mono (by decide)) (pa_cons (pv 0) pa_nil)))
    (pss_cons (ps_if (PW.pt (pw_or (pt_cmpR op_eq (pv 2) pe_int (nomark _)) (pw_or1 (pt_cmpR op_gt (pv 2) (pe_op op_add (pe_gint gMI) pe_int) (nomark _)))))
      (pss_one ps_never)
      pss_nil)
    (pss_one (ps_ret (pe_op op_catS (pe_tup (pa_cons (pe_cf D_fill_function (hr.mono (by decide)) (pa_cons (pe_ix ix_tup (pe_ix ix_tup (pv 0) pe_int (fun _ _ => rfl)) pe_int (fun _ _ => rfl)) (pa_cons (pe_callB call_len_seq (by rfl) B.len bLen (pa_cons (pv 0) pa_nil)) (pa_cons (pv 1) (pa_cons (pe_op op_sub (pv 2) pe_int) pa_nil))))) pa_nil)) (pv 0))))))), ?_⟩
  refine ⟨_, rfl, p, _, rfl, h1.v, g, fun H1 f1 => ?_⟩
  refine ⟨_, rfl, p, f0, _, rfl, (h1.fr f1).v, g, hh, fun H2 f2 => ?_⟩
  rw [hp]
  refine ⟨_, rfl, rfl, _, rfl, ?_⟩
  rw [decide_eq_false (by intro z; injection z with z; omega)]
  refine iteF ?_
  refine ⟨_, rfl, 8, 1, rfl, rfl, _, _, rfl, rfl, _, rfl, ?_⟩
  rw [decide_eq_false (by omega)]
  refine iteF ?_
  obtain ⟨a, us, rfl, t, r⟩ := (h1.fr f1).fr f2
  have hl := r.len
  cases p with
  | nil => cases hh
  | cons f1' p =>
    cases hh
    obtain ⟨w1, r1, rfl, hw, hr1⟩ := r
    have hw' := hw
    obtain ⟨b, c, bd, rfl, t1, t2, hb⟩ := hw
    refine ⟨_, rfl, a, _, _, _, rfl, rfl, t.sq, at0, b, _, _, _, rfl, rfl, t1.sq, rfl, _, rfl, a, _, rfl, .inr t.sq, _, rfl, _, rfl, ((k + 1 : Nat) : Int), 1, rfl, rfl, f0.name, (List.length p + 1), k, x, v2, ?_, (h2.fr f1).fr f2, by simp only [List.length_cons] at hz; omega, by omega, fun H3 y f3 hy => ?_⟩
    · rw [hl]
      simp only [List.length_cons]
      show [V.str _, V.int _, v2, V.int (((k + 1 : Nat) : Int) - 1)] = _
      rw [show ((k + 1 : Nat) : Int) - 1 = (k : Int) by omega]
    refine ⟨(by show 1 ≤ sizeLine; decide), fun U hU => ?_⟩
    have f4 : Fr [] H3 (upd H3 U (.tup [y])) := Fr.new hU _
    simp only [List.length_cons] at hl hz hn
    refine ⟨_, rfl, U, a, _, _, rfl, rfl, .of upd_same, (t.fr f3).fr f4, Nat.le_of_lt (smallB (by simp only [List.length_cons, List.length_nil]; omega)), fun p' H5 f5 t5 => ?_⟩
    have ff := (f3.trans f4).trans f5
    refine q H5 _ ((f1.trans f2).trans ff) ⟨p', _, rfl, t5, y, _, rfl, ?_, _, _, rfl, hw'.fr ff, hr1.imp fun _ _ z => z.fr ff⟩
    have hy' := (hy.fr f4).fr f5
    rw [hn] at hy'
    exact hy'
end
end Og

set_option Elab.async false
set_option linter.all false
set_option maxRecDepth 100000
set_option maxHeartbeats 4000000
/-! Og3c: joined, and the module own. -/
namespace Og
open PySem PySem.Spec PyProof.Rows L2
def jfs : Prog → List Prog → Prog
  | acc, [] => acc
  | acc, p :: r => jfs (acc ++ renP p acc.length) r
def jms : Prog → List Prog → List Str
  | _, [] => []
  | acc, p :: r => fN acc.length :: jms (acc ++ renP p acc.length) r
theorem jfs_app : ∀ (acc : Prog) (a b : List Prog), jfs acc (a ++ b) = jfs (jfs acc a) b
  | _, [], _ => rfl
  | acc, p :: a, b => by simp only [List.cons_append, jfs]; exact jfs_app _ a b
theorem jms_app : ∀ (acc : Prog) (a b : List Prog), jms acc (a ++ b) = jms acc a ++ jms (jfs acc a) b
  | _, [], _ => rfl
  | acc, p :: a, b => by simp only [List.cons_append, jms, jfs]; rw [jms_app _ a b]
theorem jfs_le : ∀ (acc : Prog) (a : List Prog), acc.length ≤ (jfs acc a).length
  | _, [] => Nat.le_refl _
  | acc, p :: a => by
    simp only [jfs]
    have := jfs_le (acc ++ renP p acc.length) a
    rw [List.length_append] at this
    omega
theorem jms_len : ∀ (acc : Prog) (a : List Prog), (jms acc a).length = a.length
  | _, [] => rfl
  | acc, p :: a => by simp only [jms, List.length_cons, jms_len]
section
variable {P : Program} {w : World} {K : PySem.W.Frag} {mg : MG} {base : Heap}
def spJoined (K : PySem.W.Frag) : Sp := fun vs H Q _ => ∃ (ps : List Prog) (l : Addr) (us : List V), vs = [.ref l] ∧ H l = some (.lst us) ∧ All2 (IsP K H) ps us ∧ (∀ p ∈ ps, RenOk p) ∧ (jfs [] ps).length ≤ 98 ∧ ps.length ≤ 98 ∧
  ∀ H' t f m, Fr [] H H' → H' t = some (.tup [f, .ref m]) → IsP K H' (jfs [] ps) f → H' m = some (.lst ((jms [] ps).map .str)) → Q (.ref t) H'
theorem sc_joined : FnScope ["programs", "functions", "mains", "program"] ["programs"] (defScope s_joined) := ⟨rfl, rfl, rfl, by decide +kernel, rfl, by decide +kernel, by decide +kernel⟩
theorem ok_joined (F : Fg K mg "joined" s_joined) (B : Bn mg) (D_made_name : Df P w K mg base "made_name" ["number"] 1 spMade) (D_renamed : Df P w K mg base "renamed" ["program", "start"] 5 (spRenamed K)) : Df P w K mg base "joined" ["programs"] 6 (spJoined K) := by
  refine Df.of F sc_joined (fun _ _ _ _ _ _ us hl => match us, hl with | [_], _ => rfl) (fun vs H Q E h => ?_) (fun f cdv A outer s H vs Q E hr h => ?_)
  · obtain ⟨_, _, _, rfl, _⟩ := h
    rfl
  obtain ⟨ps, l, us, rfl, hl, hus, hok, hz, hz2, q⟩ := h
  have hu := hu_of hr
  have nd := sc_joined.nd
  refine ⟨_, (pss_cons (ps_set (i := 1) nd rfl (.inl rfl) (pe_tup pa_nil))
    (pss_cons (ps_set (i := 2) nd rfl (.inl rfl) (pe_lst pa_nil))
    (pss_cons (ps_for PassesOwn.never rfl (pi_list (pv 0)) (pg_name (i := 3) nd rfl (.inl rfl))
      (pss_cons (ps_expr (pe_bm PySem.F.plainAttrs_list PySem.F.slot_list_append PySem.F.type_list_append mt_append (pv 2) (pa_cons (pe_cf D_made_name (hr.mono (by decide)) (pa_cons (pe_callB call_len_seq (by rfl) B.len bLen (pa_cons (pv 1) pa_nil)) pa_nil)) pa_nil)))
      (pss_one (ps_set (i := 1) nd rfl (.inl rfl) (pe_op op_catS (pv 1) (pe_cf D_renamed (hr.mono (by decide)) (pa_cons (pv 3) (pa_cons (pe_callB call_len_seq (by rfl) B.len bLen (pa_cons (pv 1) pa_nil)) pa_nil))))))))
    (pss_one (ps_ret (pe_tup (pa_cons (pv 1) (pa_cons (pv 2) pa_nil)))))))), ?_⟩
  refine ⟨(by show 0 ≤ sizeLine; decide), fun T hT => ?_⟩
  refine ⟨(by show 0 ≤ sizeLine; decide), fun m hm => ?_⟩
  have f1 : Fr [] H (upd H T (.tup [])) := Fr.new hT _
  have f2 := f1.trans (Fr.new (S := []) hm (.lst []))
  have hm0 : H m = none := f1.free (by simp) hm
  have Tm : T ≠ m := fun z => by rw [← z, upd_same] at hm; cases hm
  have ul := hus.len
  refine ⟨_, rfl, l, rfl, ⟨_, .of (f2.keep l _ (by simp) hl)⟩, for_list (K := K) (a := l) (xs := us) (fun i σ H' => ∃ f x, σ = [some (.ref l), some f, some (.ref m), x] ∧ Fr [] H H' ∧ IsP K H' (jfs [] (ps.take i)) f ∧ H' m = some (.lst ((jms [] (ps.take i)).map .str)))
    ⟨.ref T, none, rfl, f2, ⟨T, [], rfl, .of (by rw [upd_ne Tm]; exact upd_same), rfl⟩, upd_same⟩ (fun i σ H' _ ⟨_, _, _, f, _⟩ => .of (f.keep l _ (by simp) hl)) ?_ ?_⟩
  · rintro i x σ H' hx ⟨f, x0, rfl, fr, hf, hmm⟩
    obtain ⟨p, hp, hpv⟩ := hus.get' hx
    have hp1 := hpv.fr fr
    have e1 : ps.take (i + 1) = ps.take i ++ [p] := by rw [List.take_add_one, hp]; rfl
    have hle : (jfs [] (ps.take i)).length + p.length ≤ 98 := by
      have := jfs_le (jfs [] (ps.take (i + 1))) (ps.drop (i + 1))
      rw [← jfs_app, List.take_append_drop, e1, jfs_app] at this
      simp only [jfs, List.length_append, renP_len] at this
      omega
    obtain ⟨a, vs, rfl, t, r⟩ := hf
    have hl2 := r.len
    have hml : ((jms [] (ps.take i)).map V.str).length ≤ 98 := by rw [List.length_map, jms_len, List.length_take]; omega
    refine ⟨_, rfl, .inl ⟨rfl, _, .of hmm⟩, _, rfl, a, _, rfl, .inr t.sq, vs.length, rfl, by omega, m, _, _, rfl, rfl, hmm, smallB (by omega), ?_⟩
    have k1 : Fr [m] H' (upd H' m (.lst ((jms [] (ps.take i)).map .str ++ [.str (fN vs.length)]))) := Fr.set (List.mem_singleton.mpr rfl) hmm (fun _ z => by cases z) _
    have em : upd H' m (.lst ((jms [] (ps.take i)).map .str ++ [.str (fN vs.length)])) m = some (.lst ((jms [] (ps.take i)).map .str ++ [.str (fN vs.length)])) := upd_same
    have fr1 : Fr [] H (upd H' m (.lst ((jms [] (ps.take i)).map .str ++ [.str (fN vs.length)]))) := fr.over hm0 _
    have t2 := t.fr k1
    have r2 := r.imp fun _ _ z => IsF.fr k1 z
    have hp2 := hp1.fr k1
    generalize upd H' m (.lst ((jms [] (ps.take i)).map .str ++ [.str (fN vs.length)])) = H2 at *
    refine ⟨_, rfl, _, rfl, _, rfl, a, _, rfl, .inr t2.sq, p, vs.length, _, rfl, hp2, hok p (List.mem_of_getElem? hp), by omega, fun H3 y f3 hy => ?_⟩
    obtain ⟨b, ws, rfl, t3, r3⟩ := hy
    have hl3 := r3.len
    rw [renP_len] at hl3
    refine ⟨a, b, vs, ws, rfl, rfl, t2.fr f3, t3, Nat.le_of_lt (smallB (by omega)), fun c H4 f4 t4 => ?_⟩
    refine ⟨_, _, rfl, (fr1.trans f3).trans f4, ?_, ?_⟩
    · rw [e1, jfs_app]
      simp only [jfs]
      rw [hl2] at r3
      exact ⟨c, _, rfl, t4, ((r2.imp fun _ _ z => z.fr f3).imp fun _ _ z => z.fr f4).app (r3.imp fun _ _ z => z.fr f4)⟩
    · rw [e1, jms_app]
      simp only [jms, List.map_append, List.map_cons, List.map_nil]
      rw [← hl2]
      exact (f3.trans f4).keep m _ (by simp) em
  · rintro σ H' ⟨f, x0, rfl, fr, hf, hmm⟩
    rw [ul, List.take_length] at hf hmm
    refine ⟨_, rfl, _, rfl, (by show 2 ≤ sizeLine; decide), fun U hU => ?_⟩
    have k1 : Fr [] H' (upd H' U (.tup [f, .ref m])) := Fr.new hU _
    exact q _ _ _ _ (fr.trans k1) upd_same (hf.fr k1) (k1.keep m _ (by simp) hmm)
/-! ### quoted, listed, filled_tree -/
def spQuoted (K : PySem.W.Frag) : Sp := fun vs H Q _ => ∃ (x : Val) (v : V), vs = [v] ∧ IsV K H x v ∧ ∀ H' y, Fr [] H H' → IsV K H' (Ex.quo x).val y → Q y H'
theorem sc_quoted : FnScope ["value"] ["value"] (defScope s_quoted) := ⟨rfl, rfl, rfl, by decide +kernel, rfl, by decide +kernel, by decide +kernel⟩
theorem ok_quoted (F : Fg K mg "quoted" s_quoted) (B : Bn mg) : Df P w K mg base "quoted" ["value"] 1 (spQuoted K) := by
  refine Df.of F sc_quoted (fun _ _ _ _ _ _ us hl => match us, hl with | [_], _ => rfl) (fun vs H Q E h => ?_) (fun f cdv A outer s H vs Q E hr h => ?_)
  · obtain ⟨_, _, rfl, _⟩ := h
    rfl
  obtain ⟨x, v, rfl, hx, q⟩ := h
  have hu := hu_of hr
  have nd := sc_quoted.nd
  refine ⟨_, (pss_one (ps_ret (pe_tup (pa_cons pe_str (pa_cons (pv 0) pa_nil))))), ?_⟩
  refine ⟨_, rfl, (by show 2 ≤ sizeLine; decide), fun T hT => ?_⟩
  have f2 : Fr [] H (upd H T (.tup [.str "quote", v])) := Fr.new hT _
  refine q _ _ f2 ?_
  simp only [Ex.val]
  exact isV_l (.of upd_same) (IsVs.cons isV_w (IsVs.one (hx.fr f2)))
def spListed (K : PySem.W.Frag) : Sp := fun vs H Q _ => ∃ (es : List Ex) (l : Addr) (us : List V), vs = [.ref l] ∧ H l = some (.lst us) ∧ IsVs K H (es.map Ex.val) us ∧ ∀ H' y, Fr [] H H' → IsV K H' (Og.listed es).val y → Q y H'
theorem sc_listed : FnScope ["parts", "found", "part"] ["parts"] (defScope s_listed) := ⟨rfl, rfl, rfl, by decide +kernel, rfl, by decide +kernel, by decide +kernel⟩
theorem ok_listed (F : Fg K mg "listed" s_listed) (B : Bn mg) (D_quoted : Df P w K mg base "quoted" ["value"] 1 (spQuoted K)) : Df P w K mg base "listed" ["parts"] 2 (spListed K) := by
  refine Df.of F sc_listed (fun _ _ _ _ _ _ us hl => match us, hl with | [_], _ => rfl) (fun vs H Q E h => ?_) (fun f cdv A outer s H vs Q E hr h => ?_)
  · obtain ⟨_, _, _, rfl, _⟩ := h
    rfl
  obtain ⟨es, l, us, rfl, hl, hus, q⟩ := h
  have hu := hu_of hr
  have nd := sc_listed.nd
  refine ⟨_, (pss_cons (ps_set (i := 1) nd rfl (.inl rfl) (pe_cf D_quoted (hr.mono (by decide)) (pa_cons (pe_tup pa_nil) pa_nil)))
    (pss_cons (ps_for PassesOwn.never rfl (pi_reversed (by rfl) B.reversed (pa_cons (pv 0) pa_nil)) (pg_name (i := 2) nd rfl (.inl rfl))
      (pss_one (ps_set (i := 1) nd rfl (.inl rfl) (pe_tup (pa_cons pe_str (pa_cons (pv 2) (pa_cons (pv 1) pa_nil)))))))
    (pss_one (ps_ret (pv 1))))), ?_⟩
  refine ⟨(by show 0 ≤ sizeLine; decide), fun T hT => ?_⟩
  have f1 : Fr [] H (upd H T (.tup [])) := Fr.new hT _
  refine ⟨nil, _, rfl, isV_l (.of upd_same) rfl, fun H1 y f2 hy => ?_⟩
  have ul := hus.len
  rw [List.length_map] at ul
  have f12 := f1.trans f2
  refine ⟨_, rfl, l, us, rfl, .of (f12.keep l _ (by simp) hl), RT.for_Itv (K := K) (a := l) (xs := us) (fun i σ H' => ∃ f x, σ = [some (.ref l), some f, x] ∧ Fr [] H H' ∧ IsV K H' (Og.listed (es.drop (us.length - i))).val f)
    ⟨y, none, rfl, f12, by rw [Nat.sub_zero, ul, List.drop_length]; exact hy⟩ (fun i σ H' ⟨_, _, _, f, _⟩ => .of (f.keep l _ (by simp) hl)) ?_ ?_⟩
  · rintro i x σ H' hi hx ⟨f, x0, rfl, fr, hf⟩
    obtain ⟨z, hz, hzv⟩ := hus.get' hx
    rw [List.getElem?_map] at hz
    obtain ⟨e, he, rfl⟩ := Option.map_eq_some_iff.mp hz
    refine ⟨_, rfl, _, rfl, (by show 3 ≤ sizeLine; decide), fun U hU => ?_⟩
    have k1 : Fr [] H' (upd H' U (.tup [.str "join", x, f])) := Fr.new hU _
    refine ⟨_, _, rfl, fr.trans k1, ?_⟩
    have hlt := (List.getElem?_eq_some_iff.mp he).1
    have e2 : es.drop (us.length - (i + 1)) = e :: es.drop (us.length - i) := by
      rw [show us.length - (i + 1) = us.length - 1 - i by omega, List.drop_eq_getElem_cons hlt, (List.getElem?_eq_some_iff.mp he).2, show us.length - 1 - i + 1 = us.length - i by omega]
    rw [e2]
    simp only [Og.listed, jn, Ex.val, Ex.vals]
    exact isV_l (.of upd_same) (IsVs.cons isV_w (IsVs.cons ((hzv.fr fr).fr k1) (IsVs.one (hf.fr k1))))
  · rintro σ H' ⟨f, x0, rfl, fr, hf⟩
    rw [Nat.sub_self, List.drop_zero] at hf
    exact ⟨_, rfl, q _ _ fr hf⟩
def spTree (K : PySem.W.Frag) : Sp := fun vs H Q _ => ∃ (main : Str) (n k : Nat), vs = [.str main, .int (n : Int), .int (k : Int)] ∧ n ≤ 99 ∧ k ≤ 20 ∧ ∀ H' y, Fr [] H H' → IsV K H' (tree main n k).val y → Q y H'
theorem sc_filled_tree : FnScope ["main", "number", "many", "inputs", "value", "body", "function"] ["main", "number", "many"] (defScope s_filled_tree) := ⟨rfl, rfl, rfl, by decide +kernel, rfl, by decide +kernel, by decide +kernel⟩
theorem ok_filled_tree (F : Fg K mg "filled_tree" s_filled_tree) (B : Bn mg) (D_quoted : Df P w K mg base "quoted" ["value"] 1 (spQuoted K)) (D_listed : Df P w K mg base "listed" ["parts"] 2 (spListed K)) (D_made_name : Df P w K mg base "made_name" ["number"] 1 spMade) (D_made_parameters : Df P w K mg base "made_parameters" ["many"] 1 (spParams K)) :
    Df P w K mg base "filled_tree" ["main", "number", "many"] 3 (spTree K) := by
  refine Df.of F sc_filled_tree (fun _ _ _ _ _ _ us hl => match us, hl with | [_, _, _], _ => rfl) (fun vs H Q E h => ?_) (fun f cdv A outer s H vs Q E hr h => ?_)
  · obtain ⟨_, _, _, rfl, _⟩ := h
    rfl
  obtain ⟨main, n, k, rfl, hn, hk, q⟩ := h
  have hu := hu_of hr
  have nd := sc_filled_tree.nd
  refine ⟨_, (pss_cons (ps_set (i := 3) nd rfl (.inl rfl) (pe_cf D_made_parameters (hr.mono (by decide)) (pa_cons (pv 2) pa_nil)))
    (pss_cons (ps_set (i := 4) nd rfl (.inl rfl) (pe_cf D_listed (hr.mono (by decide)) (pa_cons (pe_lst (pa_cons (pe_cf D_quoted (hr.mono (by decide)) (pa_cons pe_str pa_nil)) (pa_cons pe_str pa_nil))) pa_nil)))
    (pss_cons (ps_set (i := 5) nd rfl (.inl rfl) (pe_tup (pa_cons pe_str (pa_cons (pe_cf D_quoted (hr.mono (by decide)) (pa_cons (pv 0) pa_nil)) (pa_cons (pe_tup (pa_cons pe_str (pa_cons (pv 4) (pa_cons (pe_cf D_quoted (hr.mono (by decide)) (pa_cons (pv 3) pa_nil)) pa_nil)))) pa_nil)))))
    (pss_cons (ps_set (i := 6) nd rfl (.inl rfl) (pe_cf D_listed (hr.mono (by decide)) (pa_cons (pe_lst (pa_cons (pe_cf D_quoted (hr.mono (by decide)) (pa_cons (pe_cf D_made_name (hr.mono (by decide)) (pa_cons (pv 1) pa_nil)) pa_nil)) (pa_cons (pe_cf D_quoted (hr.mono (by decide)) (pa_cons (pv 3) pa_nil)) (pa_cons (pv 5) pa_nil)))) pa_nil)))
    (pss_one (ps_ret (pe_tup (pa_cons pe_str (pa_cons (pv 6) (pa_cons pe_str pa_nil)))))))))), ?_⟩
  refine ⟨_, rfl, k, rfl, hk, fun a H1 f1 ea => ?_⟩
  have ia : IsV K H1 (wl (xs k)) (.ref a) := isV_l ea.tup isV_ws
  refine ⟨.w "quote", _, rfl, rfl, fun H2 y2 f2 h2 => ?_⟩
  refine ⟨(by show 2 ≤ sizeLine; decide), fun l hl => ?_⟩
  have f3 : Fr [] H2 (upd H2 l (.lst [y2, .str "s"])) := Fr.new hl _
  refine ⟨[.quo (.w "quote"), .var "s"], l, _, rfl, upd_same, IsVs.cons (h2.fr f3) (IsVs.one rfl), fun H3 y3 f4 h3 => ?_⟩
  have g3 := (f2.trans f3).trans f4
  have ia3 := ia.fr g3
  refine ⟨_, rfl, .w main, _, rfl, rfl, fun H4 y4 f5 h4 => ?_⟩
  refine ⟨_, rfl, _, rfl, _, _, rfl, ia3.fr f5, fun H5 y5 f6 h5 => ?_⟩
  refine ⟨(by show 3 ≤ sizeLine; decide), fun T hT => ?_⟩
  have f7 : Fr [] H5 (upd H5 T (.tup [.str "join", y3, y5])) := Fr.new hT _
  have eT : upd H5 T (.tup [.str "join", y3, y5]) T = some (.tup [.str "join", y3, y5]) := upd_same
  have h3' := ((h3.fr f5).fr f6).fr f7
  have h4' := (h4.fr f6).fr f7
  have h5' := h5.fr f7
  generalize upd H5 T (.tup [.str "join", y3, y5]) = H6 at *
  refine ⟨(by show 3 ≤ sizeLine; decide), fun U hU => ?_⟩
  have f8 : Fr [] H6 (upd H6 U (.tup [.str "join", y4, .ref T])) := Fr.new hU _
  have hbody : IsV K (upd H6 U (.tup [.str "join", y4, .ref T])) (jn (.quo (.w main)) (jn (Og.listed [.quo (.w "quote"), .var "s"]) (.quo (wl (xs k))))).val (.ref U) := by
    simp only [jn, Ex.val, Ex.vals] at *
    exact isV_l (.of upd_same) (IsVs.cons isV_w (IsVs.cons (h4'.fr f8) (IsVs.one (isV_l (.of (f8.tup _ _ eT)) (IsVs.cons isV_w (IsVs.cons (h3'.fr f8) (IsVs.one (h5'.fr f8))))))))
  have ia8 := (((ia3.fr f5).fr f6).fr f7).fr f8
  have fz := ((((f1.trans g3).trans f5).trans f6).trans f7).trans f8
  generalize upd H6 U (.tup [.str "join", y4, .ref T]) = H7 at *
  refine ⟨_, rfl, n, rfl, hn, .w (fN n), _, rfl, rfl, fun H8 y8 f9 h8 => ?_⟩
  refine ⟨_, rfl, _, _, rfl, ia8.fr f9, fun H9 y9 f10 h9 => ?_⟩
  refine ⟨_, rfl, (by show 3 ≤ sizeLine; decide), fun l2 hl2 => ?_⟩
  have f11 : Fr [] H9 (upd H9 l2 (.lst [y8, y9, .ref U])) := Fr.new hl2 _
  refine ⟨[.quo (.w (fN n)), .quo (wl (xs k)), jn (.quo (.w main)) (jn (Og.listed [.quo (.w "quote"), .var "s"]) (.quo (wl (xs k))))], l2, _, rfl, upd_same, IsVs.cons ((h8.fr f10).fr f11) (IsVs.cons (h9.fr f11) (IsVs.one (((hbody.fr f9).fr f10).fr f11))), fun H10 y10 f12 h10 => ?_⟩
  refine ⟨_, rfl, (by show 3 ≤ sizeLine; decide), fun W hW => ?_⟩
  have f13 : Fr [] H10 (upd H10 W (.tup [.str "join", y10, .str "s"])) := Fr.new hW _
  refine q _ _ (((((fz.trans f9).trans f10).trans f11).trans f12).trans f13) ?_
  unfold tree
  generalize Og.listed [.quo (.w (fN n)), .quo (wl (xs k)), jn (.quo (.w main)) (jn (Og.listed [.quo (.w "quote"), .var "s"]) (.quo (wl (xs k))))] = L at *
  simp only [jn, Ex.val, Ex.vals]
  exact isV_l (.of upd_same) (IsVs.cons isV_w (IsVs.cons (h10.fr f13) (IsVs.one rfl)))
end
end Og

set_option Elab.async false
set_option linter.all false
set_option maxRecDepth 100000
set_option maxHeartbeats 4000000
/-! Og3d: know_own. -/
namespace Og
open PySem PySem.Spec PyProof.Rows L2
section
variable {P : Program} {w : World} {K : PySem.W.Frag} {mg : MG} {base : Heap}
def spKnow (K : PySem.W.Frag) : Sp := fun vs H Q _ => ∃ (p : Prog) (f : Fn) (k : Nat) (v : V), vs = [v] ∧ IsP K H p v ∧ RenOk p ∧ p.head? = some f ∧ f.ps.length = k + 1 ∧ k ≤ 8 ∧ p.length ≤ 90 ∧ Good (knowsOwn p k) ∧ ∀ H' y, Fr [] H H' → IsP K H' (knowOwn p k) y → Q y H'
theorem sc_know_own : FnScope ["program", "many", "functions", "mains", "main", "tree", "inputs", "knowing"] ["program"] (defScope s_know_own) := ⟨rfl, rfl, rfl, by decide +kernel, rfl, by decide +kernel, by decide +kernel⟩
theorem ok_know_own (F : Fg K mg "know_own" s_know_own) (B : Bn mg) (D_check_program : Df P w K mg base "check_program" ["value"] 4 (spCheck K)) (D_inputs_of : Df P w K mg base "inputs_of" ["program"] 5 (spInputs K)) (D_joined : Df P w K mg base "joined" ["programs"] 6 (spJoined K))
    (D_made_name : Df P w K mg base "made_name" ["number"] 1 spMade) (D_filled_tree : Df P w K mg base "filled_tree" ["main", "number", "many"] 3 (spTree K)) (D_made_parameters : Df P w K mg base "made_parameters" ["many"] 1 (spParams K))
    (D_with_main : Df P w K mg base "with_main" ["functions", "parameters", "body"] 2 (spWithMain K)) (D_fill : Df P w K mg base "fill" ["program", "value"] 6 (spFill K)) (gMI : GInt mg "MOST_INPUTS" 8) :
    Df P w K mg base "know_own" ["program"] 7 (spKnow K) := by
  refine Df.of F sc_know_own (fun _ _ _ _ _ _ us hl => match us, hl with | [_], _ => rfl) (fun vs H Q E h => ?_) (fun f cdv A outer s H vs Q E hr h => ?_)
  · obtain ⟨_, _, _, _, rfl, _⟩ := h
    rfl
  obtain ⟨p, f0, k, v, rfl, hv, g, hh, hp, hk, hz, g2, q⟩ := h
  have hu := hu_of hr
  have nd := sc_know_own.nd
  refine ⟨_, (pss_cons (ps_expr (pe_cf D_check_program (hr.mono (by decide)) (pa_cons (pv 0) pa_nil)))
    (pss_cons (ps_set (i := 1) nd rfl (.inl rfl) (pe_op op_sub (pe_cf D_inputs_of (hr.mono (by decide)) (pa_cons (pv 0) pa_nil)) pe_int))
    (pss_cons (ps_if (PW.pt (pw_or (pt_cmpR op_lt (pv 1) pe_int (nomark _)) (pw_or1 (pt_cmpR op_gt (pv 1) (pe_gint gMI) (nomark _)))))
      (pss_one ps_never)
      pss_nil)
    (pss_cons (ps_asg (pe_cf D_joined (hr.mono (by decide)) (pa_cons (pe_lst (pa_cons (pv 0) pa_nil)) pa_nil)) (pg_tup rfl (pgs_cons (pg_name (i := 2) nd rfl (.inl rfl)) (pgs_cons (pg_name (i := 3) nd rfl (.inl rfl)) pgs_nil))))
    (pss_cons (ps_set (i := 4) nd rfl (.inl rfl) (pe_cf D_made_name (hr.mono (by decide)) (pa_cons (pe_callB call_len_seq (by rfl) B.len bLen (pa_cons (pv 2) pa_nil)) pa_nil)))
    (pss_cons (ps_set (i := 5) nd rfl (.inl rfl) (pe_cf D_filled_tree (hr.mono (by decide)) (pa_cons (pv 4) (pa_cons (pe_op op_add (pe_callB call_len_seq (by rfl) B.len bLen (pa_cons (pv 2) pa_nil)) pe_int) (pa_cons (pv 1) pa_nil)))))
    (pss_cons (ps_set (i := 6) nd rfl (.inl rfl) (pe_cf D_made_parameters (hr.mono (by decide)) (pa_cons (pv 1) pa_nil)))
    (pss_cons (ps_set (i := 7) nd rfl (.inl rfl) (pe_cf D_with_main (hr.mono (by decide)) (pa_cons (pv 2) (pa_cons (pe_op op_catF (pe_tupF (pa_cons pe_str pa_nil)) (pv 6)) (pa_cons (pe_op op_catS (pe_tup (pa_cons (pe_ix ix_list (pv 3) pe_int (fun _ _ => rfl)) (pa_cons (pv 5) pa_nil))) (pv 6)) pa_nil)))))
    (pss_one (ps_ret (pe_cf D_fill (hr.mono (by decide)) (pa_cons (pv 7) (pa_cons (pv 7) pa_nil))))))))))))), ?_⟩
  refine ⟨_, rfl, p, _, rfl, hv.v, g.good, fun H1 f1 => ?_⟩
  refine ⟨_, rfl, p, f0, _, rfl, (hv.fr f1).v, g.good, hh, fun H2 f2 => ?_⟩
  rw [hp]
  refine ⟨((k + 1 : Nat) : Int), 1, rfl, rfl, ?_⟩
  dsimp only
  rw [show (((k + 1 : Nat) : Int) - 1) = (k : Int) by omega]
  refine ⟨_, rfl, (k : Int), 0, rfl, rfl, _, rfl, ?_⟩
  rw [decide_eq_false (by omega)]
  refine iteF ?_
  refine ⟨_, rfl, (k : Int), 8, rfl, rfl, _, rfl, ?_⟩
  rw [decide_eq_false (by omega)]
  refine iteF ?_
  have hv2 := (hv.fr f1).fr f2
  refine ⟨_, rfl, (by show 1 ≤ sizeLine; decide), fun l hl => ?_⟩
  have f3 : Fr [] H2 (upd H2 l (.lst [v])) := Fr.new hl _
  have ej : jfs [] [p] = renP p 0 := rfl
  refine ⟨[p], l, _, rfl, upd_same, All2.one (hv2.fr f3), fun x hx => by rw [List.mem_singleton.mp hx]; exact g, by rw [ej, renP_len]; omega, (by show 1 ≤ 98; decide), fun H3 t fn m f4 et hf hm => ?_⟩
  rw [ej] at hf
  have hm' : H3 m = some (.lst [.str (fN 0)]) := hm
  have fz := ((f1.trans f2).trans f3).trans f4
  have hf' := hf
  obtain ⟨a, us, rfl, ta, ra⟩ := hf
  have hl2 := ra.len
  rw [renP_len] at hl2
  refine ⟨t, _, rfl, .of et, rfl, _, _, rfl, _, _, rfl, rfl, ?_⟩
  refine ⟨_, rfl, a, _, rfl, .inr ta.sq, us.length, rfl, by omega, ?_⟩
  rw [hl2]
  refine ⟨_, rfl, _, rfl, a, _, rfl, .inr ta.sq, (us.length : Int), 1, rfl, rfl, _, rfl, fN (List.length p), List.length p + 1, k, by rw [hl2]; rfl, by omega, by omega, fun H4 y4 f5 h4 => ?_⟩
  refine ⟨_, rfl, k, rfl, by omega, fun b H5 f6 eb => ?_⟩
  refine ⟨_, rfl, (by show 1 ≤ sizeLine; decide), fun T oT hT dT => ?_⟩
  have f7 : Fr [] H5 (upd H5 T (.frz oT (.tup [.str "s"]))) := Fr.new hT _
  have eT : StrAt K (upd H5 T (.frz oT (.tup [.str "s"]))) T ["s"] := .new (ps := ["s"]) dT
  have eb7 := eb.fr f7
  have h47 := (h4.fr f6).fr f7
  have f57 := (f5.trans f6).trans f7
  generalize upd H5 T (.frz oT (.tup [.str "s"])) = H6 at *
  have cat : ∀ R : VK, (∀ c H7, Fr [] H6 H7 → StrAt K H7 c ("s" :: xs k) → R (.ref c) H7) → rCatF K (.ref T) (.ref b) H6 R := fun R hR => by
    refine ⟨T, b, _, _, rfl, rfl, eT.tup, eb7.tup, by simp, Nat.le_of_lt (smallB (by simp only [List.length_cons, List.length_nil, List.length_map, xs, List.length_range]; omega)), fun z => ?_, fun z p o hp d => ?_⟩
    · refine hR T H6 (Fr.refl _ _) ?_
      rw [List.map_eq_nil_iff] at z
      rw [z]
      exact eT
    · exact hR p _ (Fr.new hp _) (.new (ps := "s" :: xs k) d)
  refine ⟨_, rfl, cat _ fun c H7 f8 t8 => ?_⟩
  have eb8 := eb7.fr f8
  refine ⟨_, rfl, m, _, _, _, rfl, rfl, .of (f8.keep m _ (by simp) (f57.keep m _ (by simp) hm')), rfl, _, rfl, (by show 2 ≤ sizeLine; decide), fun U hU => ?_⟩
  have f9 : Fr [] H7 (upd H7 U (.tup [.str (fN 0), y4])) := Fr.new hU _
  have eU : upd H7 U (.tup [.str (fN 0), y4]) U = some (.tup [.str (fN 0), y4]) := upd_same
  have eb9 := eb8.fr f9
  have t9 := t8.fr f9
  have h49 := (h47.fr f8).fr f9
  have f59 := (f57.trans f8).trans f9
  generalize upd H7 U (.tup [.str (fN 0), y4]) = H8 at *
  refine ⟨_, rfl, U, b, _, _, rfl, rfl, .of eU, eb9.tup, Nat.le_of_lt (smallB (by simp only [List.length_cons, List.length_nil, List.length_map, xs, List.length_range]; omega)), fun d H9 f10 t10 => ?_⟩
  have f510 := f59.trans f10
  refine ⟨renP p 0, "s" :: xs k, .app (.fn (fN 0)) (tree (fN p.length) (p.length + 1) k :: (xs k).map .var), _, _, _, rfl, hf'.fr f510, t9.fr f10, ?_, by rw [renP_len]; omega, fun H10 y10 f11 h10 => ?_⟩
  · simp only [Ex.val, Ex.vals, vals_vars]
    exact isV_l t10 (IsVs.cons isV_w (IsVs.cons (h49.fr f10) isV_ws))
  refine ⟨_, rfl, _, rfl, knowsOwn p k, ⟨fN (renP p 0).length, "s" :: xs k, _⟩, k, Prog.val (knowsOwn p k), _, _, rfl, h10, h10.v, g2, rfl, ?_, ?_, hk, ?_, fun H11 y11 f12 h11 => ?_⟩
  · simp only [knowsOwn, withMain, List.length_cons, renP_len]; rfl
  · simp only [List.length_cons, xs, List.length_map, List.length_range]
  · simp only [knowsOwn, withMain, List.length_cons, renP_len]; omega
  · exact q _ _ (((fz.trans f510).trans f11).trans f12) h11
end
end Og

set_option Elab.async false
set_option linter.all false
set_option maxRecDepth 100000
set_option maxHeartbeats 4000000
/-! Og4: part_path, parts_of. -/
namespace Og
open PySem PySem.Spec PyProof.Rows L2
/-! ### ("a",) * k -/
def rRepA (K : PySem.W.Frag) : R2 := fun x y H Q => ∃ (l : Addr) (k : Nat), x = .ref l ∧ y = .int (k : Int) ∧ TupAt K H l [.str "a"] ∧ k ≤ 1000 ∧ ∀ p H', Fr [] H H' → TupAt K H' p (List.replicate k (.str "a")) → Q (.ref p) H'
theorem flat_one (k : Nat) (x : V) : (List.replicate k [x]).flatten = List.replicate k x := by
  induction k with
  | zero => rfl
  | succ k ih => rw [List.replicate_succ, List.replicate_succ, List.flatten_cons, ih]; rfl
theorem op_repA {X : Cx} : OpR X (binaryOp .Mult) (rRepA X.K) := by
  rintro pins s σ H x y v u Q I rx ry ⟨l, k, rfl, rfl, ht, hk, q⟩
  refine op_repS pins s σ H _ _ v u Q I rx ry ⟨l, k, _, rfl, rfl, ht.sq, by simp, hk, by simp, fun e => ?_, fun e p hp => ?_⟩
  · subst e
    exact q l H (Fr.refl _ _) ht
  · refine q p _ (Fr.new hp _) (.of ?_)
    rw [upd_same, flat_one]
/-! ### parts -/
def ptL (b : Bool) (d w : List Val) : List Ex → Nat → List (Ex × List Val × List Val)
  | [], _ => []
  | x :: xs, k => (x, (if b then d else List.replicate k aW ++ d), pW (k + 1) :: w) :: ptL b d w xs (k + 1)
def ptr (e : Ex) (d w : List Val) : List (Ex × List Val × List Val) := ptL (decide (e.first = "if")) d w e.parts 0
theorem ptL_get (b : Bool) (d w : List Val) : ∀ (xs : List Ex) (k i : Nat), (ptL b d w xs k)[i]? = (xs[i]?).map fun x => (x, (if b then d else List.replicate (k + i) aW ++ d), pW (k + i + 1) :: w)
  | [], k, i => by simp [ptL]
  | x :: xs, k, 0 => by simp [ptL]
  | x :: xs, k, i + 1 => by
    simp only [ptL, List.getElem?_cons_succ]
    rw [ptL_get b d w xs (k + 1) i, show k + 1 + i = k + (i + 1) by omega]
theorem ptL_len (b : Bool) (d w : List Val) : ∀ (xs : List Ex) (k : Nat), (ptL b d w xs k).length = xs.length
  | [], _ => rfl
  | x :: xs, k => by simp [ptL, ptL_len b d w xs]
def IsPt (K : PySem.W.Frag) (H : Hp) (x : Ex × List Val × List Val) (v : V) : Prop := ∃ p a b c, v = .ref p ∧ H p = some (.tup [a, b, c]) ∧ IsV K H x.1.val a ∧ IsV K H (.l x.2.1) b ∧ IsV K H (.l x.2.2) c
theorem IsPt.fr {K S H H' x v} (f : Fr S H H') (h : IsPt K H x v) : IsPt K H' x v := let ⟨p, a, b, c, e, h1, h2, h3, h4⟩ := h; ⟨p, a, b, c, e, f.tup _ _ h1, h2.fr f, h3.fr f, h4.fr f⟩
theorem isVs_rep {K : PySem.W.Frag} {H : Hp} : ∀ k, IsVs K H (List.replicate k aW) (List.replicate k (.str "a"))
  | 0 => rfl
  | k + 1 => by rw [List.replicate_succ, List.replicate_succ]; exact ⟨_, _, rfl, rfl, isVs_rep k⟩
section
variable {P : Program} {w : World} {K : PySem.W.Frag} {mg : MG} {base : Heap}
def spPath (K : PySem.W.Frag) : Sp := fun vs H Q _ => ∃ (n : Nat) (w : List Val) (v : V), vs = [.int (n : Int), v] ∧ IsV K H (.l w) v ∧ n ≤ 99 ∧ w.length ≤ 1000000 ∧ ∀ H' x, Fr [] H H' → IsV K H' (.l (pW n :: w)) x → Q x H'
theorem sc_part_path : FnScope ["number", "path"] ["number", "path"] (defScope s_part_path) := ⟨rfl, rfl, rfl, by decide +kernel, rfl, by decide +kernel, by decide +kernel⟩
theorem ok_part_path (F : Fg K mg "part_path" s_part_path) (B : Bn mg) : Df P w K mg base "part_path" ["number", "path"] 1 (spPath K) := by
  refine Df.of F sc_part_path (fun _ _ _ _ _ _ us hl => match us, hl with | [_, _], _ => rfl) (fun vs H Q E h => ?_) (fun f cdv A outer s H vs Q E hr h => ?_)
  · obtain ⟨_, _, _, rfl, _⟩ := h
    rfl
  obtain ⟨n, pw, v, rfl, hv, hn, hz, q⟩ := h
  have hu := hu_of hr
  have nd := sc_part_path.nd
  refine ⟨_, (pss_one (ps_ret (pe_op op_catS (pe_tup (pa_cons (pe_op op_add_str pe_str (pe_callTy call_str_int (by rfl) B.str bStr (pa_cons (pv 0) pa_nil))) pa_nil)) (pv 1)))), ?_⟩
  obtain ⟨a, us, rfl, t, r⟩ := hv
  have hl := r.len
  refine ⟨_, rfl, _, rfl, log_small n hn, _, _, rfl, rfl, len_pre "p" (by decide) n hn, (by show 1 ≤ sizeLine; decide), fun T hT => ?_⟩
  have f1 : Fr [] H (upd H T (.tup [.str (Str.ofString "p" ++ Str.ofString (toString (n : Int)))])) := Fr.new hT _
  refine ⟨_, rfl, T, a, _, _, rfl, rfl, .of upd_same, t.fr f1, Nat.le_of_lt (smallB (by simp only [List.length_cons, List.length_nil]; omega)), fun p H' f2 t2 => ?_⟩
  exact q _ _ (f1.trans f2) (isV_l t2 (IsVs.cons rfl ((r.fr f1).fr f2)))
def spParts (K : PySem.W.Frag) : Sp := fun vs H Q _ => ∃ (e : Ex) (d w : List Val) (v1 v2 v3 : V), vs = [v1, v2, v3] ∧ IsV K H e.val v1 ∧ IsV K H (.l d) v2 ∧ IsV K H (.l w) v3 ∧ e.leaf = false ∧ e.parts.length ≤ 90 ∧ d.length ≤ 1000000 ∧ w.length ≤ 1000000 ∧
  ∀ H' l us, Fr [] H H' → H l = none → H' l = some (.lst us) → All2 (IsPt K H') (ptr e d w) us → Q (.ref l) H'
theorem sc_parts_of : FnScope ["expression", "depth", "path", "found", "k", "part", "deeper"] ["expression", "depth", "path"] (defScope s_parts_of) := ⟨rfl, rfl, rfl, by decide +kernel, rfl, by decide +kernel, by decide +kernel⟩
theorem ok_parts_of (F : Fg K mg "parts_of" s_parts_of) (B : Bn mg) (D_part_path : Df P w K mg base "part_path" ["number", "path"] 1 (spPath K)) : Df P w K mg base "parts_of" ["expression", "depth", "path"] 2 (spParts K) := by
  refine Df.of F sc_parts_of (fun _ _ _ _ _ _ us hl => match us, hl with | [_, _, _], _ => rfl) (fun vs H Q E h => ?_) (fun f cdv A outer s H vs Q E hr h => ?_)
  · obtain ⟨_, _, _, _, _, _, rfl, _⟩ := h
    rfl
  obtain ⟨e, d, pw, v1, v2, v3, rfl, h1, h2, h3, le, hz, hd, hw, q⟩ := h
  have hu := hu_of hr
  have nd := sc_parts_of.nd
  refine ⟨_, (pss_cons (ps_set (i := 3) nd rfl (.inl rfl) (pe_lst pa_nil))
    (pss_cons (ps_for PassesOwn.never rfl (pi_enumT (by rfl) B.enumerate (pa_cons (pe_slice sl_tailR (pv 0) (po_some pe_int) po_none) pa_nil)) (pg_tup rfl (pgs_cons (pg_name (i := 4) nd rfl (.inl rfl)) (pgs_cons (pg_name (i := 5) nd rfl (.inl rfl)) pgs_nil)))
      (pss_cons (ps_set (i := 6) nd rfl (.inl rfl) (pe_ifExp (pt_cmpR op_eq (pe_ix ix_tup (pv 0) pe_int (fun _ _ => rfl)) pe_str (nomark _)) (pv 1) (pe_op op_catS (pe_op op_repA (pe_tup (pa_cons pe_str pa_nil)) (pv 4)) (pv 1))))
      (pss_one (ps_expr (pe_bm PySem.F.plainAttrs_list PySem.F.slot_list_append PySem.F.type_list_append mt_append (pv 3) (pa_cons (pe_tup (pa_cons (pv 5) (pa_cons (pv 6) (pa_cons (pe_cf D_part_path (hr.mono (by decide)) (pa_cons (pe_op op_add (pv 4) pe_int) (pa_cons (pv 2) pa_nil))) pa_nil)))) pa_nil))))))
    (pss_one (ps_ret (pv 3))))), ?_⟩
  refine ⟨(by show 0 ≤ sizeLine; decide), fun l hl => ?_⟩
  have f1 : Fr [] H (upd H l (.lst [])) := Fr.new hl _
  rw [comp_val le] at h1
  obtain ⟨a, us, rfl, t, vx, r1, rfl, ex, r⟩ := h1
  obtain rfl : vx = .str e.first := ex
  have hrl := r.len
  rw [List.length_map] at hrl
  obtain ⟨da, ds, rfl, dt, dr⟩ := h2
  have hdl := dr.len
  refine ⟨_, rfl, 1, rfl, rfl, rfl, a, _, rfl, t.fr f1, List.cons_ne_nil _ _, fun y hy => ?_⟩
  have f2 := f1.trans (Fr.new (S := []) hy (.tup (List.drop 1 (.str e.first :: r1))))
  have yl : y ≠ l := fun z => by rw [z, upd_same] at hy; cases hy
  have ey : upd (upd H l (.lst [])) y (.tup (List.drop 1 (.str e.first :: r1))) y = some (.tup r1) := upd_same
  refine ⟨y, r1, rfl, .of ey, for_enumT (fun i σ H' => ∃ x4 x5 x6 acc, σ = [some (.ref a), some (.ref da), some v3, some (.ref l), x4, x5, x6] ∧ Fr [] H H' ∧ H' y = some (.tup r1) ∧ H' l = some (.lst acc) ∧ All2 (IsPt K H') ((ptr e d pw).take i) acc)
    ⟨none, none, none, [], rfl, f2, ey, by rw [upd_ne (Ne.symm yl)]; exact upd_same, rfl⟩ (fun i σ H' _ ⟨_, _, _, _, _, _, ey, _⟩ => .of ey) ?_ ?_⟩
  · rintro i x T σ H' hx hT ⟨x4, x5, x6, acc, rfl, f, ey, el, hacc⟩
    have hi : i < r1.length := (List.getElem?_eq_some_iff.mp hx).1
    have g1 : Fr [] H' (upd H' T (.tup [.int (i : Nat), x])) := Fr.new hT _
    refine ⟨T, _, rfl, .of upd_same, rfl, _, _, rfl, _, _, rfl, rfl, ?_⟩
    have ey1 := g1.keep y _ (by simp) ey
    have el1 := g1.keep l _ (by simp) el
    have hacc1 := hacc.imp fun _ _ z => IsPt.fr g1 z
    have fg := f.trans g1
    generalize upd H' T (.tup [.int (i : Nat), x]) = H1 at *
    obtain ⟨z, hz1, hzv⟩ := r.get' hx
    rw [List.getElem?_map] at hz1
    obtain ⟨pe, hpe, rfl⟩ := Option.map_eq_some_iff.mp hz1
    have tl : ∀ (dv : V) (H2 : Hp), Fr [] H1 H2 → IsV K H2 (.l (if decide (e.first = "if") then d else List.replicate i aW ++ d)) dv → ∀ (pv : V) (H3 : Hp), Fr [] H2 H3 → IsV K H3 (.l (pW (i + 1) :: pw)) pv → ∀ T2, H3 T2 = none →
        ∃ l_1 xs y_1, V.ref l = .ref l_1 ∧ [V.ref T2] = [y_1] ∧ upd H3 T2 (.tup [x, dv, pv]) l_1 = some (.lst xs) ∧ xs.length < sizeLine ∧
          ∃ x4' x5' x6' acc, [some (V.ref a), some (.ref da), some v3, some (.ref l), some (.int (i : Nat)), some x, some dv] = [some (V.ref a), some (.ref da), some v3, some (.ref l), x4', x5', x6'] ∧ Fr [] H (upd (upd H3 T2 (.tup [x, dv, pv])) l_1 (.lst (xs ++ [y_1]))) ∧ upd (upd H3 T2 (.tup [x, dv, pv])) l_1 (.lst (xs ++ [y_1])) y = some (.tup r1) ∧ upd (upd H3 T2 (.tup [x, dv, pv])) l_1 (.lst (xs ++ [y_1])) l = some (.lst acc) ∧ All2 (IsPt K (upd (upd H3 T2 (.tup [x, dv, pv])) l_1 (.lst (xs ++ [y_1])))) ((ptr e d pw).take (i + 1)) acc := by
      intro dv H2 k1 hdv pv H3 k2 hpv T2 hT2
      have k3 : Fr [] H3 (upd H3 T2 (.tup [x, dv, pv])) := Fr.new hT2 _
      have kk := (k1.trans k2).trans k3
      have el3 := kk.keep l _ (by simp) el1
      have hal := hacc1.len
      rw [List.length_take, ptr, ptL_len] at hal
      have k4 : Fr [l] (upd H3 T2 (.tup [x, dv, pv])) (upd (upd H3 T2 (.tup [x, dv, pv])) l (.lst (acc ++ [.ref T2]))) := Fr.set (List.mem_singleton.mpr rfl) el3 (fun _ z => by cases z) _
      refine ⟨l, acc, _, rfl, rfl, el3, smallB (by omega), _, _, _, _, rfl, (fg.trans kk).over hl _, by rw [upd_ne yl]; exact kk.keep y _ (by simp) ey1, upd_same, ?_⟩
      rw [List.take_add_one, ptr, ptL_get, hpe, ← ptr, Nat.zero_add]
      refine ((hacc1.imp fun _ _ z => z.fr kk).imp fun _ _ z => z.fr k4).app (All2.one ⟨T2, x, dv, pv, rfl, k4.tup _ _ upd_same, ?_, ((hdv.fr k2).fr k3).fr k4, (hpv.fr k3).fr k4⟩)
      exact ((hzv.fr fg).fr kk).fr k4
    by_cases ei : e.first = "if"
    · refine ⟨_, rfl, a, _, _, _, rfl, rfl, (t.fr fg).sq, at0, rfl, _, rfl, ?_⟩
      rw [decide_eq_true (by rw [ei])]
      refine iteT ?_
      refine ⟨_, rfl, ?_⟩
      refine ⟨_, rfl, .inl ⟨rfl, _, .of el1⟩, _, rfl, _, rfl, _, rfl, (i : Int), 1, rfl, rfl, _, rfl, i + 1, pw, v3, rfl, h3.fr fg, by omega, hw, fun H3 pv k2 hpv => ?_⟩
      refine ⟨(by show 3 ≤ sizeLine; decide), fun T2 hT2 => ?_⟩
      refine tl (.ref da) H1 (Fr.refl _ _) ?_ pv H3 k2 hpv T2 hT2
      rw [if_pos (by rw [ei]; decide)]
      exact (isV_l dt dr).fr fg
    · refine ⟨_, rfl, a, _, _, _, rfl, rfl, (t.fr fg).sq, at0, rfl, _, rfl, ?_⟩
      rw [decide_eq_false (fun z => ei (V.str.inj z))]
      refine iteF ?_
      refine ⟨(by show 1 ≤ sizeLine; decide), fun U hU => ?_⟩
      have k0 : Fr [] H1 (upd H1 U (.tup [.str "a"])) := Fr.new hU _
      refine ⟨_, rfl, U, i, rfl, rfl, .of upd_same, by omega, fun p2 H2 k1 t2 => ?_⟩
      have k01 := k0.trans k1
      refine ⟨_, rfl, p2, da, _, ds, rfl, rfl, t2, (dt.fr fg).fr k01, Nat.le_of_lt (smallB (by rw [List.length_replicate]; omega)), fun p3 H4 k2 t3 => ?_⟩
      have k02 := k01.trans k2
      refine ⟨_, rfl, .inl ⟨rfl, _, .of (k02.keep l _ (by simp) el1)⟩, _, rfl, _, rfl, _, rfl, (i : Int), 1, rfl, rfl, _, rfl, i + 1, pw, v3, rfl, (h3.fr fg).fr k02, by omega, hw, fun H3 pv k3 hpv => ?_⟩
      refine ⟨(by show 3 ≤ sizeLine; decide), fun T2 hT2 => ?_⟩
      refine tl (.ref p3) H4 k02 ?_ pv H3 k3 hpv T2 hT2
      rw [if_neg (by rw [decide_eq_true_eq]; exact ei)]
      exact isV_l t3 ((isVs_rep i).app ((dr.fr fg).fr k02))
  · rintro σ H' ⟨x4, x5, x6, acc, rfl, f, ey, el, hacc⟩
    refine ⟨_, rfl, q H' l acc f hl el ?_⟩
    rw [hrl, List.take_of_length_le (by rw [ptr, ptL_len]; exact Nat.le_refl _)] at hacc
    exact hacc
end
end Og

set_option Elab.async false
set_option linter.all false
set_option maxRecDepth 100000
set_option maxHeartbeats 4000000
/-! Og4b: instructions_of. -/
namespace Og
open PySem PySem.Spec PyProof.Rows L2
section
variable {G G2 : Type} {R : G → V → Prop} {S : G2 → V → Prop}
theorem All2.rev {xs : List G} {vs : List V} (h : All2 R xs vs) : All2 R xs.reverse vs.reverse := by
  induction xs generalizing vs with
  | nil => rw [show vs = [] from h]; rfl
  | cons x xs ih =>
    obtain ⟨v, r, rfl, a, t⟩ := h
    rw [List.reverse_cons, List.reverse_cons]
    exact (ih t).app (All2.one a)
theorem All2.map {f : G → G2} (hf : ∀ x v, R x v → S (f x) v) : ∀ {xs : List G} {vs : List V}, All2 R xs vs → All2 S (xs.map f) vs
  | [], _, h => h
  | x :: xs, _, ⟨v, r, e, a, t⟩ => ⟨v, r, e, hf x v a, All2.map hf t⟩
end
theorem SP_prN {f : Str} (h1 : Val.w f ∉ prN) (h2 : f ≠ "quote") (h3 : f ≠ "if") : f ∉ SPL := by
  intro h
  simp only [SPL, List.mem_cons, List.not_mem_nil, or_false] at h
  rcases h with rfl | rfl | rfl | rfl | rfl | rfl | rfl
  · exact h2 rfl
  · exact h3 rfl
  all_goals exact h1 (by simp [prN])
theorem ok_parts {ps : List Str} : ∀ {e : Ex}, e.ok ps → e.parts.length ≤ 12 ∧ Ex.oks ps e.parts
  | .var _, _ => ⟨by simp [Ex.parts], trivial⟩
  | .quo _, _ => ⟨by simp [Ex.parts], trivial⟩
  | .ite a b c, h => ⟨by simp [Ex.parts], h.1, h.2.1, h.2.2, trivial⟩
  | .app (.pr _) as, h => ⟨h.1, h.2⟩
  | .app (.fn _) as, h => ⟨h.1, h.2.1⟩
theorem oks_get {ps : List Str} : ∀ {es : List Ex} {i : Nat} {x : Ex}, Ex.oks ps es → es[i]? = some x → x.ok ps ∧ i + x.nodes ≤ nodesL es
  | [], _, _, _, h => by simp at h
  | e :: es, 0, x, o, h => by
    simp at h
    subst h
    exact ⟨o.1, by simp only [nodesL]; omega⟩
  | e :: es, i + 1, x, o, h => by
    obtain ⟨h1, h2⟩ := oks_get (es := es) (i := i) o.2 (by simpa using h)
    refine ⟨h1, ?_⟩
    simp only [nodesL]
    have := nodes_pos e
    omega
abbrev Tk := Sum (Ex × List Val × List Val) Ins
def IsTk (K : PySem.W.Frag) (H : Hp) : Tk → V → Prop
  | .inl x, v => IsPt K H x v
  | .inr i, v => ∃ p a, v = .ref p ∧ H p = some (.tup [a, .non, .non]) ∧ IsV K H i.val a
theorem IsTk.fr {K S H H'} (f : Fr S H H') : ∀ {t : Tk} {v}, IsTk K H t v → IsTk K H' t v
  | .inl x, v, h => IsPt.fr f h
  | .inr i, v, ⟨p, a, e, h, r⟩ => ⟨p, a, e, f.tup _ _ h, r.fr f⟩
def runO (ps : List Str) : List Tk → List Ins
  | [] => []
  | .inl x :: ts => ops ps x.1 x.2.1 x.2.2 ++ runO ps ts
  | .inr i :: ts => i :: runO ps ts
theorem runO_app (ps : List Str) : ∀ a b, runO ps (a ++ b) = runO ps a ++ runO ps b
  | [], b => rfl
  | .inl x :: a, b => by simp only [List.cons_append, runO, runO_app ps a b, List.append_assoc]
  | .inr i :: a, b => by simp only [List.cons_append, runO, runO_app ps a b]
def muO : List Tk → Nat
  | [] => 0
  | .inl x :: ts => 2 * x.1.nodes + muO ts
  | .inr _ :: ts => 1 + muO ts
theorem muO_app : ∀ a b, muO (a ++ b) = muO a + muO b
  | [], b => by simp [muO]
  | .inl x :: a, b => by simp only [List.cons_append, muO, muO_app a b]; omega
  | .inr i :: a, b => by simp only [List.cons_append, muO, muO_app a b]; omega
theorem muO_len : ∀ ts : List Tk, ts.length ≤ muO ts
  | [] => Nat.le_refl _
  | .inl x :: ts => by simp only [List.length_cons, muO]; have := nodes_pos x.1; have := muO_len ts; omega
  | .inr _ :: ts => by simp only [List.length_cons, muO]; have := muO_len ts; omega
theorem muO_pt (b : Bool) (d w : List Val) : ∀ (xs : List Ex) (k : Nat), muO ((ptL b d w xs k).map Sum.inl) = 2 * nodesL xs
  | [], _ => rfl
  | x :: xs, k => by simp only [ptL, List.map_cons, muO, nodesL, muO_pt b d w xs]; omega
theorem runO_pt (ps : List Str) (d w : List Val) : ∀ (xs : List Ex) (k : Nat), runO ps ((ptL false d w xs k).map Sum.inl) = opsL ps xs (List.replicate k aW ++ d) w (k + 1)
  | [], _ => rfl
  | x :: xs, k => by
    simp only [ptL, List.map_cons, runO, opsL, runO_pt ps d w xs (k + 1), List.replicate_succ, List.cons_append, Bool.false_eq_true, if_false]
def okTk (ps : List Str) (N : Nat) : Tk → Prop
  | .inl x => x.1.ok ps ∧ x.2.1.length + x.1.nodes ≤ N ∧ x.2.2.length + x.1.nodes ≤ N
  | .inr _ => True
theorem okTk_pt {ps : List Str} {N : Nat} {e : Ex} {d w : List Val} (le : e.leaf = false) (h : okTk ps N (.inl (e, d, w))) : ∀ t ∈ (ptr e d w).map (Sum.inl (β := Ins)), okTk ps N t := by
  intro t ht
  obtain ⟨x, hx, rfl⟩ := List.mem_map.mp ht
  obtain ⟨i, hi⟩ := List.getElem?_of_mem hx
  rw [ptr, ptL_get] at hi
  obtain ⟨y, hy, rfl⟩ := Option.map_eq_some_iff.mp hi
  obtain ⟨h1, h2, h3⟩ := h
  obtain ⟨o1, o2⟩ := oks_get (ok_parts (e := e) h1).2 hy
  have hn := parts_nodes le
  simp only at h2 h3
  refine ⟨o1, ?_, ?_⟩
  · simp only
    split
    · omega
    · rw [List.length_append, List.length_replicate]; omega
  · simp only [List.length_cons]; omega
theorem after_at : ∀ {ps : List Str} {x : Str}, x ∈ ps → ∃ j, ps[j]? = some x ∧ (∀ m, m < j → ps[m]? ≠ some x) ∧ after ps x = ps.drop (j + 1)
  | [], _, h => by simp at h
  | p :: ps, x, h => by
    by_cases e : p = x
    · exact ⟨0, by simp [e], fun m hm => by omega, by simp [after, e]⟩
    · obtain ⟨j, h1, h2, h3⟩ := after_at (ps := ps) (x := x) (by rcases List.mem_cons.mp h with z | z; exact absurd z.symm e; exact z)
      refine ⟨j + 1, by simpa using h1, fun m hm => ?_, by simp [after, e, h3]⟩
      cases m with
      | zero => simpa using e
      | succ m => simpa using h2 m (by omega)
/-- t[k:], k above 0 -/
def rDrop (K : PySem.W.Frag) : V → Option Int → Option Int → Hp → VK → Prop := fun x lo hi H Q => ∃ (k : Nat) (a : Addr) (xs : List V), lo = some (k : Int) ∧ hi = none ∧ x = .ref a ∧ TupAt K H a xs ∧ xs ≠ [] ∧ 0 < k ∧ ∀ p, H p = none → Q (.ref p) (upd H p (.tup (xs.drop k)))
theorem sl_dropR {X : Cx} : SlR X (rDrop X.K) := by
  rintro pins s σ H x v vl vu lo hi sl Q I rx hs pl pu ⟨k, a, xs, rfl, rfl, rfl, t, ne, hk, q⟩
  have hl : 0 < xs.length := List.length_pos_iff.mpr ne
  refine sl_tup pins s σ H _ v vl vu _ _ sl Q I rx hs pl pu ⟨a, xs, rfl, t.sq, fun h => ?_, fun p hp => ?_⟩
  · have h1 := h.1
    rw [HT.sIx_nat] at h1
    omega
  · rw [cut_drop]
    exact q p hp
def PvO (K : PySem.W.Frag) (ps : List Str) (N : Nat) (tot : List Ins) (v1 v3 v4 : V) (a fl wq : Addr) (H : Hp) (g : List Tk × List Ins) (σ : L2.St) (H' : Hp) : Prop :=
  ∃ x6 x7 x8 x9 x10 x11 us ws, σ = [some v1, some (.ref a), some v3, some v4, some (.ref fl), some (.ref wq), x6, x7, x8, x9, x10, x11] ∧ Fr [] H H' ∧ H' wq = some (.lst us) ∧ H' fl = some (.lst ws) ∧ All2 (IsTk K H') g.1.reverse us ∧ IsVs K H' (g.2.map Ins.val) ws ∧
    g.2 ++ runO ps g.1 = tot ∧ (∀ t ∈ g.1, okTk ps N t) ∧ g.2.length + muO g.1 ≤ 2 * N
section
variable {P : Program} {w : World} {K : PySem.W.Frag} {mg : MG} {base : Heap}
def spInstr (K : PySem.W.Frag) : Sp := fun vs H Q _ => ∃ (e : Ex) (ps : List Str) (d w : List Val) (v1 v3 v4 : V) (a : Addr), vs = [v1, .ref a, v3, v4] ∧ IsV K H e.val v1 ∧ StrAt K H a ps ∧ IsV K H (.l d) v3 ∧ IsV K H (.l w) v4 ∧ e.ok ps ∧ ps.length ≤ 20 ∧ d.length + e.nodes ≤ 100000 ∧ w.length + e.nodes ≤ 100000 ∧
  ∀ H' t us, Fr [] H H' → TupAt K H' t us → IsVs K H' ((ops ps e d w).map Ins.val) us → us.length ≤ 200000 → Q (.ref t) H'
theorem sc_instructions_of : FnScope ["expression", "parameters", "depth", "path", "found", "waiting", "one", "deep", "way", "behind", "parts", "last"] ["expression", "parameters", "depth", "path"] (defScope s_instructions_of) := ⟨rfl, rfl, rfl, by decide +kernel, rfl, by decide +kernel, by decide +kernel⟩
theorem ok_instr (F : Fg K mg "instructions_of" s_instructions_of) (B : Bn mg) (G : GTup K mg "SPECIAL" SPL) (D_parts_of : Df P w K mg base "parts_of" ["expression", "depth", "path"] 2 (spParts K)) : Df P w K mg base "instructions_of" ["expression", "parameters", "depth", "path"] 3 (spInstr K) := by
  refine Df.of F sc_instructions_of (fun _ _ _ _ _ _ us hl => match us, hl with | [_, _, _, _], _ => rfl) (fun vs H Q E h => ?_) (fun f cdv A outer s H vs Q E hr h => ?_)
  · obtain ⟨_, _, _, _, _, _, _, _, rfl, _⟩ := h
    rfl
  obtain ⟨e0, ps, d0, pw0, v1, v3, v4, a, rfl, h1, hps, h3, h4, ho, hpl, hd, hw, q⟩ := h
  obtain ⟨gs, mgs, gT⟩ := G
  have hu := hu_of hr
  have nd := sc_instructions_of.nd
  refine ⟨_, (pss_cons (ps_set (i := 4) nd rfl (.inl rfl) (pe_lst pa_nil))
    (pss_cons (ps_set (i := 5) nd rfl (.inl rfl) (pe_lst (pa_cons (pe_tup (pa_cons (pv 0) (pa_cons (pv 2) (pa_cons (pv 3) pa_nil)))) pa_nil)))
    (pss_cons (ps_while PassesOwn.never (pt_cmpR op_gt (pe_callB call_len_seq (by rfl) B.len bLen (pa_cons (pv 5) pa_nil)) pe_int (nomark _))
      (pss_cons (ps_asg (pe_bm0 PySem.F.plainAttrs_list PySem.F.slot_list_pop PySem.F.type_list_pop mt_pop (pv 5)) (pg_tup rfl (pgs_cons (pg_name (i := 6) nd rfl (.inl rfl)) (pgs_cons (pg_name (i := 7) nd rfl (.inl rfl)) (pgs_cons (pg_name (i := 8) nd rfl (.inl rfl)) pgs_nil)))))
      (pss_one (ps_if (pt_cmpR op_isN (pv 7) pe_non (nomark _))
        (pss_one (ps_expr (pe_bm PySem.F.plainAttrs_list PySem.F.slot_list_append PySem.F.type_list_append mt_append (pv 4) (pa_cons (pv 6) pa_nil))))
        (pss_one (ps_if (pt_val (pe_isS2 B (pv 6)))
          (pss_cons (ps_set (i := 9) nd rfl (.inl rfl) (pe_slice sl_dropR (pv 1) (po_some (pe_op op_add (pe_tidx (pv 1) (pa_cons (pv 6) pa_nil)) pe_int)) po_none))
          (pss_one (ps_expr (pe_bm PySem.F.plainAttrs_list PySem.F.slot_list_append PySem.F.type_list_append mt_append (pv 4) (pa_cons (pe_tup (pa_cons pe_str (pa_cons (pe_op op_catS (pv 9) (pv 7)) pa_nil))) pa_nil)))))
          (pss_one (ps_if (pt_cmpR op_eq (pe_ix ix_tup (pv 6) pe_int (fun _ _ => rfl)) pe_str (nomark _))
            (pss_one (ps_expr (pe_bm PySem.F.plainAttrs_list PySem.F.slot_list_append PySem.F.type_list_append mt_append (pv 4) (pa_cons (pe_tup (pa_cons pe_str (pa_cons (pe_ix ix_tup (pv 6) pe_int (fun _ _ => rfl)) pa_nil))) pa_nil))))
            (pss_cons (ps_set (i := 10) nd rfl (.inl rfl) (pe_cf D_parts_of (hr.mono (by decide)) (pa_cons (pv 6) (pa_cons (pv 7) (pa_cons (pv 8) pa_nil)))))
            (pss_cons (ps_if (pt_cmpR op_eq (pe_ix ix_tup (pv 6) pe_int (fun _ _ => rfl)) pe_str (nomark _))
              (pss_cons (ps_set (i := 11) nd rfl (.inl rfl) (pe_tup (pa_cons pe_str (pa_cons (pe_ix ix_tup (pe_ix ix_list (pv 10) pe_int (fun _ _ => rfl)) pe_int (fun _ _ => rfl)) (pa_cons (pe_ix ix_tup (pe_ix ix_list (pv 10) pe_int (fun _ _ => rfl)) pe_int (fun _ _ => rfl)) pa_nil)))))
              (pss_one (ps_set (i := 10) nd rfl (.inl rfl) (pe_slice sl_list (pv 10) po_none (po_some pe_int)))))
              (pss_one (ps_set (i := 11) nd rfl (.inl rfl) (pe_ifExp (pt_cmpR op_in_seq (pe_ix ix_tup (pv 6) pe_int (fun _ _ => rfl)) (pe_gtab mgs) (by rfl)) (pe_tup (pa_cons (pe_ix ix_tup (pv 6) pe_int (fun _ _ => rfl)) pa_nil)) (pe_tup (pa_cons pe_str (pa_cons (pe_ix ix_tup (pv 6) pe_int (fun _ _ => rfl)) pa_nil)))))))
            (pss_cons (ps_expr (pe_bm PySem.F.plainAttrs_list PySem.F.slot_list_append PySem.F.type_list_append mt_append (pv 5) (pa_cons (pe_tup (pa_cons (pv 11) (pa_cons pe_non (pa_cons pe_non pa_nil)))) pa_nil)))
            (pss_one (ps_expr (pe_bm PySem.F.plainAttrs_list PySem.F.slot_list_extend PySem.F.type_list_extend mt_extend (pv 5) (pa_cons (pe_lstRev rfl (by rfl) B.list (by rfl) B.reversed (pv 10)) pa_nil)))))))))))))))
    (pss_one (ps_ret (pe_tupleOf (by rfl) B.tuple (pv 4))))))), ?_⟩
  refine ⟨(by show 0 ≤ sizeLine; decide), fun fl hfl => ?_⟩
  have f1 : Fr [] H (upd H fl (.lst [])) := Fr.new hfl _
  refine ⟨_, rfl, _, rfl, _, rfl, (by show 3 ≤ sizeLine; decide), fun t0 ht0 => ?_⟩
  have f2 := f1.trans (Fr.new (S := []) ht0 (.tup [v1, v3, v4]))
  have t0f : t0 ≠ fl := fun z => by rw [z, upd_same] at ht0; cases ht0
  refine ⟨(by show 1 ≤ sizeLine; decide), fun wq hwq => ?_⟩
  have wt : wq ≠ t0 := fun z => by rw [z, upd_same] at hwq; cases hwq
  have wf : wq ≠ fl := fun z => by rw [z, upd_ne (Ne.symm t0f), upd_same] at hwq; cases hwq
  have f3 := f2.trans (Fr.new (S := []) hwq (.lst [V.ref t0]))
  have hwq0 : H wq = none := f2.free (by simp) hwq
  refine while_g (G := List Tk × List Ins) (PvO K ps 100000 (ops ps e0 d0 pw0) v1 v3 v4 a fl wq H) (fun g => muO g.1) ([.inl (e0, d0, pw0)], [])
    ⟨none, none, none, none, none, none, _, _, rfl, f3, upd_same, by rw [upd_ne (Ne.symm wf), upd_ne (Ne.symm t0f)]; exact upd_same, All2.one ⟨t0, v1, v3, v4, rfl, by rw [upd_ne (Ne.symm wt)]; exact upd_same, h1.fr f3, h3.fr f3, h4.fr f3⟩, rfl, by simp [runO], fun t ht => by rw [List.mem_singleton.mp ht]; exact ⟨ho, hd, hw⟩, by simp only [muO, List.length_nil]; omega⟩ ?_
  rintro ⟨ts, out⟩ σ H' ⟨x6, x7, x8, x9, x10, x11, us, ws, rfl, fr, hul, hwm, hus, hws, hrun, hok, hmu⟩
  simp only at hus hws hrun hok hmu
  have hlen := hus.len
  have hwl := hws.len
  rw [List.length_reverse] at hlen
  rw [List.length_map] at hwl
  refine ⟨_, rfl, wq, _, rfl, .inl (.of hul), _, _, rfl, rfl, _, rfl, ?_⟩
  cases ts with
  | nil =>
    rw [decide_eq_false (by rw [hlen]; decide)]
    refine iteF ?_
    rw [runO, List.append_nil] at hrun
    subst hrun
    refine ⟨_, rfl, .inl ⟨fl, _, rfl, .of hwm, fun p hp => ?_⟩⟩
    have k1 : Fr [] H' (upd H' p (.tup ws)) := Fr.new hp _
    exact q _ p ws (fr.trans k1) (.of upd_same) (hws.fr k1) (by simp only [muO] at hmu; omega)
  | cons t ts =>
  rw [decide_eq_true (by rw [hlen, List.length_cons]; show (0 : Int) < ((ts.length + 1 : Nat) : Int); omega)]
  refine iteT ?_
  refine ⟨_, while_n (G := List Tk × List Ins) (mu := fun g => muO g.1), ?_⟩
  rw [List.reverse_cons] at hus
  obtain ⟨us, u, rfl, husA, hu⟩ := hus.last
  have g1 : Fr [wq] H' (upd H' wq (.lst us)) := Fr.set (List.mem_singleton.mpr rfl) hul (fun _ z => by cases z) _
  have fr1 : Fr [] H (upd H' wq (.lst us)) := fr.over hwq0 _
  refine ⟨_, rfl, .inl ⟨rfl, _, .of hul⟩, wq, _, _, rfl, rfl, hul, pop_at _ _, ?_⟩
  rw [List.dropLast_concat]
  have hu1 := hu.fr g1
  have hus1 : All2 (IsTk K (upd H' wq (.lst us))) ts.reverse us := husA.imp fun _ _ h => h.fr g1
  have hws1 := hws.fr g1
  have hul1 : upd H' wq (.lst us) wq = some (.lst us) := upd_same
  have hwm1 : upd H' wq (.lst us) fl = some (.lst ws) := by rw [upd_ne (Ne.symm wf)]; exact hwm
  have hul2 : us.length = ts.length := by have := husA.len; rw [List.length_reverse] at this; exact this
  have hml := muO_len ts
  rw [List.length_cons] at hlen
  have okt : ∀ t ∈ ts, okTk ps 100000 t := fun t ht => hok t (List.mem_cons_of_mem _ ht)
  have ok1 := hok t (List.mem_cons_self ..)
  clear hus husA hu hul hwm hws g1 fr hok
  generalize upd H' wq (.lst us) = H1 at *
  clear H'
  -- one more instruction
  have add : ∀ (H2 : Hp) (i : Ins) (z : V) (x6 x7 x8 x9 x10 x11 : Option V) (m : Nat), Fr [] H1 H2 → IsV K H2 i.val z → out ++ [i] ++ runO ps ts = ops ps e0 d0 pw0 → muO ts < m → out.length + m ≤ 2 * 100000 →
      ∃ l_1 xs y, V.ref fl = .ref l_1 ∧ [z] = [y] ∧ H2 l_1 = some (.lst xs) ∧ xs.length < sizeLine ∧ ∃ g' : List Tk × List Ins, muO g'.1 < m ∧ PvO K ps 100000 (ops ps e0 d0 pw0) v1 v3 v4 a fl wq H g' [some v1, some (.ref a), some v3, some v4, some (.ref fl), some (.ref wq), x6, x7, x8, x9, x10, x11] (upd H2 l_1 (.lst (xs ++ [y]))) := by
    intro H2 i z x6 x7 x8 x9 x10 x11 m k hz hr hm hb
    have k4 : Fr [fl] H2 (upd H2 fl (.lst (ws ++ [z]))) := Fr.set (List.mem_singleton.mpr rfl) (k.keep fl _ (by simp) hwm1) (fun _ z => by cases z) _
    refine ⟨fl, ws, z, rfl, rfl, k.keep fl _ (by simp) hwm1, smallB (by omega), (ts, out ++ [i]), hm, _, _, _, _, _, _, us, ws ++ [z], rfl, (fr1.trans k).over hfl _, by rw [upd_ne wf]; exact k.keep wq _ (by simp) hul1, upd_same, (hus1.imp fun _ _ h => h.fr k).imp fun _ _ h => h.fr k4, ?_, hr, okt, ?_⟩
    · rw [List.map_append]; exact ((hws1.fr k).fr k4).app (IsVs.one (hz.fr k4))
    · simp only [List.length_append, List.length_singleton]; omega
  -- the parts put to wait
  have tail : ∀ (D : Ends) (H3 : Hp) (i : Ins) (vz : V) (l3 : Addr) (us3 : List V) (pts : List (Ex × List Val × List Val)) (x6 x7 x8 x9 : Option V) (m : Nat), Fr [] H1 H3 → IsV K H3 i.val vz → H3 l3 = some (.lst us3) → l3 ≠ wq → All2 (IsPt K H3) pts us3 →
      (∀ t ∈ pts.map (Sum.inl (β := Ins)), okTk ps 100000 t) → out ++ (runO ps (pts.map Sum.inl) ++ i :: runO ps ts) = ops ps e0 d0 pw0 → muO (pts.map Sum.inl) + (1 + muO ts) < m → out.length + m ≤ 2 * 100000 → pts.length ≤ 100 →
      (∀ σ' H', (∃ g' : List Tk × List Ins, muO g'.1 < m ∧ PvO K ps 100000 (ops ps e0 d0 pw0) v1 v3 v4 a fl wq H g' σ' H') → D.nx σ' H') →
      tSeq (tDrop (tBM K "list" rAppend (tVar 5) (tCons (tTup (tCons (tVar 11) (tCons (tC .non) (tCons (tC .non) tNil)))) tNil))) (tDrop (tBM K "list" rExtend (tVar 5) (tCons (tLstRev K (tVar 10)) tNil))) D
        [some v1, some (.ref a), some v3, some v4, some (.ref fl), some (.ref wq), x6, x7, x8, x9, some (.ref l3), some vz] H3 := by
    intro D H3 i vz l3 us3 pts x6 x7 x8 x9 m k hvz hl3 n3 hpts hok3 hr hm hb hpl2 hD
    have hul3 := k.keep wq _ (by simp) hul1
    refine ⟨_, rfl, .inl ⟨rfl, _, .of hul3⟩, _, rfl, (by show 3 ≤ sizeLine; decide), fun T hT => ?_⟩
    have nT : T ≠ wq := fun z => by rw [z, hul3] at hT; cases hT
    have k1 : Fr [] H3 (upd H3 T (.tup [vz, .non, .non])) := Fr.new hT _
    have hul4 := k1.keep wq _ (by simp) hul3
    refine ⟨wq, us, _, rfl, rfl, hul4, smallB (by omega), ?_⟩
    have k2 : Fr [wq] (upd H3 T (.tup [vz, .non, .non])) (upd (upd H3 T (.tup [vz, .non, .non])) wq (.lst (us ++ [.ref T]))) := Fr.set (List.mem_singleton.mpr rfl) hul4 (fun _ z => by cases z) _
    have hT4 := k2.tup T _ upd_same
    have hl34 := k2.keep l3 _ (by simp [n3]) (k1.keep l3 _ (by simp) hl3)
    have hul5 : upd (upd H3 T (.tup [vz, .non, .non])) wq (.lst (us ++ [.ref T])) wq = some (.lst (us ++ [.ref T])) := upd_same
    have kz : Fr [wq] H1 (upd (upd H3 T (.tup [vz, .non, .non])) wq (.lst (us ++ [.ref T]))) := ((k.trans k1).mono (by simp)).trans k2
    have hvz2 := (hvz.fr k1).fr k2
    have hpts2 := (hpts.imp fun _ _ z => z.fr k1).imp fun _ _ z => z.fr k2
    generalize upd (upd H3 T (.tup [vz, .non, .non])) wq (.lst (us ++ [.ref T])) = H4 at *
    refine ⟨_, rfl, .inl ⟨rfl, _, .of hul5⟩, _, rfl, l3, us3, rfl, .of hl34, fun l4 hl4 => ?_⟩
    have n4 : l4 ≠ wq := fun z => by rw [z, hul5] at hl4; cases hl4
    have k5 : Fr [] H4 (upd H4 l4 (.lst us3.reverse)) := Fr.new hl4 _
    have hul6 := k5.keep wq _ (by simp) hul5
    have hp3 := hpts.len
    have k6 : Fr [wq] (upd H4 l4 (.lst us3.reverse)) (upd (upd H4 l4 (.lst us3.reverse)) wq (.lst ((us ++ [.ref T]) ++ us3.reverse))) := Fr.set (List.mem_singleton.mpr rfl) hul6 (fun _ z => by cases z) _
    have kk := kz.trans (k5.mono (T := [wq]) (by simp))
    have kw := (k5.mono (T := [wq]) (by simp)).trans k6
    refine ⟨wq, l4, _, _, rfl, rfl, hul6, upd_same, Nat.le_of_lt (smallB (by rw [List.length_append, List.length_reverse, List.length_singleton]; omega)), hD _ _ ⟨(pts.map Sum.inl ++ .inr i :: ts, out), ?_, _, _, _, _, _, _, _, ws, rfl, ?_, upd_same, ?_, ?_, ?_, ?_, ?_, ?_⟩⟩
    · simp only; rw [muO_app]; simp only [muO]; omega
    · exact fr1.drop (kk.trans k6) (fun x hx => .inr (by rw [List.mem_singleton.mp hx]; exact hwq0))
    · exact (kk.trans k6).keep fl _ (by simp [Ne.symm wf]) hwm1
    · simp only [List.reverse_append, List.reverse_cons]
      refine All2.app (All2.app (hus1.imp fun _ _ z => z.fr (kk.trans k6)) (All2.one ⟨T, vz, rfl, kw.tup _ _ hT4, hvz2.fr kw⟩)) ?_
      exact (All2.map (S := IsTk K _) (f := Sum.inl) (fun x v z => z) (hpts2.imp fun _ _ z => z.fr kw)).rev
    · exact hws1.fr (kk.trans k6)
    · simp only; rw [runO_app]; exact hr
    · intro t ht
      rcases List.mem_append.mp ht with z | z
      · exact hok3 t z
      · rcases List.mem_cons.mp z with z | z
        · rw [z]; trivial
        · exact okt t z
    · simp only; rw [muO_app]; simp only [muO]; omega
  cases t with
  | inr i =>
    obtain ⟨p, x, rfl, hp, hx⟩ := hu1
    simp only [muO, runO] at hmu hrun ⊢
    refine ⟨p, _, rfl, .of hp, rfl, _, _, rfl, _, _, rfl, _, _, rfl, rfl, ?_⟩
    refine ⟨_, rfl, rfl, _, rfl, ?_⟩
    rw [decide_eq_true rfl]
    refine iteT ?_
    exact ⟨_, rfl, .inl ⟨rfl, _, .of hwm1⟩, _, rfl, add H1 i x _ _ _ _ _ _ _ (Fr.refl _ _) hx (by rw [List.append_assoc]; exact hrun) (by omega) hmu⟩
  | inl y =>
  obtain ⟨e, d, pw⟩ := y
  obtain ⟨p, x, dv, wv, rfl, hp, hx, hdv, hwv⟩ := hu1
  obtain ⟨o1, o2, o3⟩ := ok1
  simp only at hx hdv hwv o1 o2 o3
  refine ⟨p, _, rfl, .of hp, rfl, _, _, rfl, _, _, rfl, _, _, rfl, rfl, ?_⟩
  refine ⟨_, rfl, rfl, _, rfl, ?_⟩
  have hdv' := hdv
  obtain ⟨da, ds, rfl, dt, dr⟩ := hdv'
  have hdl := dr.len
  rw [decide_eq_false (fun z => by cases z)]
  refine iteF ?_
  simp only [muO, runO] at hmu hrun ⊢
  have hnp := nodes_pos e
  cases e with
  | var y =>
    obtain rfl : x = .str y := hx
    refine ⟨_, rfl, _, .w y, rfl, rfl, true, rfl, ?_⟩
    refine iteT ?_
    obtain ⟨j, j1, j2, j3⟩ := after_at (show y ∈ ps from o1)
    have jl := (List.getElem?_eq_some_iff.mp j1).1
    refine ⟨_, rfl, _, rfl, a, ps, rfl, hps.fr fr1, _, rfl, y, j, rfl, hps.fr fr1, j1, j2, (j : Int), 1, rfl, rfl, (j : Int) + 1, rfl, j + 1, a, ps.map .str, by rw [Int.natCast_add]; rfl, rfl, rfl, (hps.fr fr1).tup, by intro z; rw [List.map_eq_nil_iff] at z; rw [z] at jl; simp at jl, by omega, fun b hb => ?_⟩
    have k1 : Fr [] H1 (upd H1 b (.tup ((ps.map V.str).drop (j + 1)))) := Fr.new hb _
    refine ⟨_, rfl, .inl ⟨rfl, _, .of (k1.keep fl _ (by simp) hwm1)⟩, _, rfl, _, rfl, b, da, _, ds, rfl, rfl, .of upd_same, dt.fr k1, Nat.le_of_lt (smallB (by rw [List.length_drop, List.length_map]; omega)), fun c H3 k2 t3 => ?_⟩
    refine ⟨(by show 2 ≤ sizeLine; decide), fun T hT => ?_⟩
    have k3 : Fr [] H3 (upd H3 T (.tup [.str "copy", .ref c])) := Fr.new hT _
    have k := (k1.trans k2).trans k3
    refine add _ (.copy ((after ps y).map .w ++ d)) (.ref T) _ _ _ _ _ _ _ k ?_ (by rw [List.append_assoc]; exact hrun) (by omega) hmu
    refine isV_l (.of upd_same) (IsVs.cons isV_w (IsVs.one (isV_l (t3.fr k3) ?_)))
    rw [j3, ← List.map_drop]
    exact isV_ws.app (dr.fr k)
  | quo z =>
    have hx2 := hx
    obtain ⟨c, vs, rfl, t, vq, r1, rfl, eq, vz, r2, rfl, hz, e4⟩ := hx2
    obtain rfl : vq = .str "quote" := eq
    obtain rfl : r2 = [] := e4
    refine ⟨_, rfl, _, _, rfl, hx, false, rfl, ?_⟩
    refine iteF ?_
    refine ⟨_, rfl, c, _, _, _, rfl, rfl, t.sq, at0, rfl, _, rfl, ?_⟩
    rw [decide_eq_true rfl]
    refine iteT ?_
    refine ⟨_, rfl, .inl ⟨rfl, _, .of hwm1⟩, _, rfl, c, _, _, _, rfl, rfl, t.sq, rfl, (by show 2 ≤ sizeLine; decide), fun T hT => ?_⟩
    have k3 : Fr [] H1 (upd H1 T (.tup [.str "push", vz])) := Fr.new hT _
    exact add _ (.push z) (.ref T) _ _ _ _ _ _ _ k3 (isV_l (.of upd_same) (IsVs.cons isV_w (IsVs.one (hz.fr k3)))) (by rw [List.append_assoc]; exact hrun) (by omega) hmu
  | ite c1 c2 c3 =>
    have hx2 := hx
    rw [comp_val rfl] at hx2
    obtain ⟨c, vs, rfl, t, vq, r1, rfl, eq, hr1⟩ := hx2
    obtain rfl : vq = .str "if" := eq
    refine ⟨_, rfl, _, _, rfl, hx, false, rfl, ?_⟩
    refine iteF ?_
    refine ⟨_, rfl, c, _, _, _, rfl, rfl, t.sq, at0, rfl, _, rfl, ?_⟩
    rw [decide_eq_false (by decide)]
    refine iteF ?_
    refine ⟨_, rfl, _, rfl, _, rfl, .ite c1 c2 c3, d, pw, _, _, _, rfl, hx, hdv, hwv, rfl, by show 3 ≤ 90; decide, by omega, by omega, fun H2 l2 us2 k1 hn el2 hpts => ?_⟩
    refine ⟨_, rfl, c, _, _, _, rfl, rfl, (t.fr k1).sq, at0, rfl, _, rfl, ?_⟩
    rw [decide_eq_true rfl]
    refine iteT ?_
    have hpts' := hpts
    obtain ⟨u1, r2, rfl, i1, u2, r3, rfl, i2, u3, r4, rfl, i3, rfl⟩ := hpts'
    obtain ⟨p2, a2, b2, w2, rfl, hp2, _, _, hw2⟩ := i2
    obtain ⟨p3, a3, b3, w3, rfl, hp3, _, _, hw3⟩ := i3
    refine ⟨_, rfl, l2, _, _, _, rfl, rfl, .of el2, rfl, p2, _, _, _, rfl, rfl, .of hp2, rfl, _, rfl, l2, _, _, _, rfl, rfl, .of el2, rfl, p3, _, _, _, rfl, rfl, .of hp3, rfl, (by show 3 ≤ sizeLine; decide), fun T hT => ?_⟩
    have k2 : Fr [] H2 (upd H2 T (.tup [.str "if", w2, w3])) := Fr.new hT _
    have eT : upd H2 T (.tup [.str "if", w2, w3]) T = some (.tup [.str "if", w2, w3]) := upd_same
    have el3 := k2.keep l2 _ (by simp) el2
    have i13 := i1.fr k2
    have hw23 := hw2.fr k2
    have hw33 := hw3.fr k2
    have k12 := k1.trans k2
    generalize upd H2 T (.tup [.str "if", w2, w3]) = H3 at *
    refine ⟨_, rfl, 1, rfl, l2, _, rfl, .of el3, fun l3 hl3 => ?_⟩
    have n3 : l3 ≠ wq := fun z => by rw [z, k12.keep wq _ (by simp) hul1] at hl3; cases hl3
    have k4 : Fr [] H3 (upd H3 l3 (.lst (cutV [u1, .ref p2, .ref p3] none (some 1)))) := Fr.new hl3 _
    have hn2 := parts_nodes (e := .ite c1 c2 c3) rfl
    simp only [Ex.parts, nodesL] at hn2
    refine tail _ _ (.cond (.l (pW 2 :: pw)) (.l (pW 3 :: pw))) (.ref T) l3 [u1] [(c1, d, pW 1 :: pw)] _ _ _ _ (2 * (Ex.ite c1 c2 c3).nodes + muO ts) (k12.trans k4) ?_ upd_same n3 (All2.one (i13.fr k4)) ?_ ?_ ?_ hmu (by show 1 ≤ 100; decide) fun _ _ z => z
    · exact isV_l (.of (k4.tup _ _ eT)) (IsVs.cons isV_w (IsVs.cons (hw23.fr k4) (IsVs.one (hw33.fr k4))))
    · intro x hx
      rw [List.map_cons, List.map_nil, List.mem_singleton] at hx
      rw [hx]
      exact okTk_pt (e := .ite c1 c2 c3) (d := d) (w := pw) rfl ⟨o1, o2, o3⟩ _ (List.mem_cons_self ..)
    · rw [← hrun]
      simp only [ops, List.map_cons, List.map_nil, runO, List.append_nil, List.append_assoc, List.singleton_append]
    · simp only [List.map_cons, List.map_nil, muO]; omega
  | app g as =>
    have hx2 := hx
    rw [comp_val rfl] at hx2
    obtain ⟨c, vs, rfl, t, vq, r1, rfl, eq, hr1⟩ := hx2
    obtain rfl : vq = .str g.str := eq
    have hg : g.str ≠ "quote" ∧ g.str ≠ "if" ∧ ((g.str ∈ SPL ∧ g.ins.val = .l [.w g.str]) ∨ (g.str ∉ SPL ∧ g.ins.val = .l [.w "call", .w g.str])) := by
      cases g with
      | pr o =>
        have h1 : o.str ∈ SPL ∧ o.str ≠ "quote" ∧ o.str ≠ "if" := by cases o <;> decide
        exact ⟨h1.2.1, h1.2.2, .inl ⟨h1.1, by simp only [Hd.ins, Ins.val, Hd.str]⟩⟩
      | fn f =>
        obtain ⟨_, _, h3, h4, h5⟩ := o1
        exact ⟨h4, h5, .inr ⟨SP_prN h3 h4 h5, by simp only [Hd.ins, Ins.val, Hd.str]⟩⟩
    refine ⟨_, rfl, _, _, rfl, hx, false, rfl, ?_⟩
    refine iteF ?_
    refine ⟨_, rfl, c, _, _, _, rfl, rfl, t.sq, at0, rfl, _, rfl, ?_⟩
    rw [decide_eq_false (fun z => hg.1 (V.str.inj z))]
    refine iteF ?_
    refine ⟨_, rfl, _, rfl, _, rfl, .app g as, d, pw, _, _, _, rfl, hx, hdv, hwv, rfl, by have := (ok_parts o1).1; omega, by omega, by omega, fun H2 l2 us2 k1 hn el2 hpts => ?_⟩
    have ei : decide ((Ex.app g as).first = "if") = false := decide_eq_false hg.2.1
    refine ⟨_, rfl, c, _, _, _, rfl, rfl, (t.fr k1).sq, at0, rfl, _, rfl, ?_⟩
    rw [decide_eq_false (fun z => hg.2.1 (V.str.inj z))]
    refine iteF ?_
    have n2 : l2 ≠ wq := fun z => by rw [z, hul1] at hn; cases hn
    have hn2 := parts_nodes (e := .app g as) rfl
    simp only [Ex.parts] at hn2
    rcases hg.2.2 with ⟨hs, hv⟩ | ⟨hs, hv⟩
    · refine ⟨_, rfl, c, _, _, _, rfl, rfl, (t.fr k1).sq, at0, gs, _, rfl, .inr (gT _).sq, rfl, flat_strs _, _, rfl, ?_⟩
      show if inV (.str g.str) _ = true then _ else _
      rw [inV_str, decide_eq_true hs]
      refine iteT ?_
      refine ⟨_, rfl, c, _, _, _, rfl, rfl, (t.fr k1).sq, at0, (by show 1 ≤ sizeLine; decide), fun T hT => ?_⟩
      refine tail _ _ g.ins (.ref T) l2 us2 (ptr (.app g as) d pw) _ _ _ _ (2 * (Ex.app g as).nodes + muO ts) (k1.trans (Fr.new hT _)) ?_ ((Fr.new (S := []) hT _).keep l2 _ (by simp) el2) n2 (hpts.imp fun _ _ z => z.fr (Fr.new (S := []) hT _)) (okTk_pt rfl ⟨o1, o2, o3⟩)
        (by rw [← hrun, ptr, ei, runO_pt]; simp only [ops, Ex.parts, List.replicate_zero, List.nil_append, List.append_assoc, List.singleton_append, Nat.zero_add])
        (by rw [ptr, muO_pt]; simp only [Ex.parts]; omega) hmu (by rw [ptr, ptL_len]; have := (ok_parts o1).1; omega) fun _ _ z => z
      rw [hv]
      exact isV_l (.of upd_same) (IsVs.one rfl)
    · refine ⟨_, rfl, c, _, _, _, rfl, rfl, (t.fr k1).sq, at0, gs, _, rfl, .inr (gT _).sq, rfl, flat_strs _, _, rfl, ?_⟩
      show if inV (.str g.str) _ = true then _ else _
      rw [inV_str, decide_eq_false hs]
      refine iteF ?_
      refine ⟨_, rfl, c, _, _, _, rfl, rfl, (t.fr k1).sq, at0, (by show 2 ≤ sizeLine; decide), fun T hT => ?_⟩
      refine tail _ _ g.ins (.ref T) l2 us2 (ptr (.app g as) d pw) _ _ _ _ (2 * (Ex.app g as).nodes + muO ts) (k1.trans (Fr.new hT _)) ?_ ((Fr.new (S := []) hT _).keep l2 _ (by simp) el2) n2 (hpts.imp fun _ _ z => z.fr (Fr.new (S := []) hT _)) (okTk_pt rfl ⟨o1, o2, o3⟩)
        (by rw [← hrun, ptr, ei, runO_pt]; simp only [ops, Ex.parts, List.replicate_zero, List.nil_append, List.append_assoc, List.singleton_append, Nat.zero_add])
        (by rw [ptr, muO_pt]; simp only [Ex.parts]; omega) hmu (by rw [ptr, ptL_len]; have := (ok_parts o1).1; omega) fun _ _ z => z
      rw [hv]
      exact isV_l (.of upd_same) (IsVs.cons isV_w (IsVs.one rfl))
end
end Og

set_option Elab.async false
set_option linter.all false
set_option maxRecDepth 100000
set_option maxHeartbeats 4000000
/-! Og4c: routines_of. -/
namespace Og
open PySem PySem.Spec PyProof.Rows L2
abbrev Rk := (Ex × List Val × List Val) × Bool
def IsRk (K : PySem.W.Frag) (H : Hp) (t : Rk) (v : V) : Prop := ∃ p a b c, v = .ref p ∧ TupAt K H p [a, b, c, .bl t.2] ∧ IsV K H t.1.1.val a ∧ IsV K H (.l t.1.2.1) b ∧ IsV K H (.l t.1.2.2) c
theorem IsRk.fr {K S H H' t v} (f : Fr S H H') (h : IsRk K H t v) : IsRk K H' t v := let ⟨p, a, b, c, e, h1, h2, h3, h4⟩ := h; ⟨p, a, b, c, e, h1.fr f, h2.fr f, h3.fr f, h4.fr f⟩
def rk1 (ps : List Str) (t : Rk) : List Rt := (if t.2 then [⟨.l t.1.2.2, ops ps t.1.1 t.1.2.1 t.1.2.2⟩] else []) ++ routs ps t.1.1 t.1.2.1 t.1.2.2
def runRt (ps : List Str) : List Rk → List Rt
  | [] => []
  | t :: ts => rk1 ps t ++ runRt ps ts
theorem runRt_app (ps : List Str) : ∀ a b, runRt ps (a ++ b) = runRt ps a ++ runRt ps b
  | [], b => rfl
  | t :: a, b => by simp only [List.cons_append, runRt, runRt_app ps a b, List.append_assoc]
def muK : List Rk → Nat
  | [] => 0
  | t :: ts => 2 * t.1.1.nodes + muK ts
theorem muK_app : ∀ a b, muK (a ++ b) = muK a + muK b
  | [], b => by simp [muK]
  | t :: a, b => by simp only [List.cons_append, muK, muK_app a b]; omega
theorem muK_len : ∀ ts : List Rk, ts.length ≤ muK ts
  | [] => Nat.le_refl _
  | t :: ts => by simp only [List.length_cons, muK]; have := nodes_pos t.1.1; have := muK_len ts; omega
def rkL (b : Bool) : List (Ex × List Val × List Val) → Nat → List Rk
  | [], _ => []
  | x :: xs, k => (x, b && decide (0 < k)) :: rkL b xs (k + 1)
theorem rkL_len (b : Bool) : ∀ xs k, (rkL b xs k).length = xs.length
  | [], _ => rfl
  | x :: xs, k => by simp [rkL, rkL_len b xs]
theorem rkL_get (b : Bool) : ∀ (xs : List (Ex × List Val × List Val)) (k i : Nat), (rkL b xs k)[i]? = (xs[i]?).map fun x => (x, b && decide (0 < k + i))
  | [], k, i => by simp [rkL]
  | x :: xs, k, 0 => by simp [rkL]
  | x :: xs, k, i + 1 => by
    simp only [rkL, List.getElem?_cons_succ]
    rw [rkL_get b xs (k + 1) i, show k + 1 + i = k + (i + 1) by omega]
theorem muK_pt (b b2 : Bool) (d w : List Val) : ∀ (xs : List Ex) (k j : Nat), muK (rkL b2 (ptL b d w xs k) j) = 2 * nodesL xs
  | [], _, _ => rfl
  | x :: xs, k, j => by simp only [ptL, rkL, muK, nodesL, muK_pt b b2 d w xs]; omega
theorem runRt_pt (ps : List Str) (d w : List Val) : ∀ (xs : List Ex) (k j : Nat), runRt ps (rkL false (ptL false d w xs k) j) = routsL ps xs (List.replicate k aW ++ d) w (k + 1)
  | [], _, _ => rfl
  | x :: xs, k, j => by
    simp only [ptL, rkL, runRt, routsL, runRt_pt ps d w xs (k + 1) (j + 1), List.replicate_succ, List.cons_append, Bool.false_eq_true, if_false, rk1, Bool.false_and, List.nil_append]
theorem runRt_parts (ps : List Str) {e : Ex} (d w : List Val) (le : e.leaf = false) (ni : ∀ g as, e = .app g as → g.str ≠ "if") : runRt ps (rkL (decide (e.first = "if")) (ptr e d w) 0) = routs ps e d w := by
  cases e with
  | var x => cases le
  | quo v => cases le
  | ite a b c =>
    have h : (Ex.ite a b c).first = "if" := rfl
    simp only [ptr, h, decide_true, Ex.parts, ptL, rkL, runRt, rk1, routs]
    simp
  | app g as =>
    have h : decide ((Ex.app g as).first = "if") = false := decide_eq_false (ni g as rfl)
    rw [ptr, h, runRt_pt]
    simp only [Ex.parts, routs, List.replicate_zero, List.nil_append, Nat.zero_add]
def okRk (ps : List Str) (N : Nat) (t : Rk) : Prop := okTk ps N (.inl t.1)
def PvR (K : PySem.W.Frag) (ps : List Str) (N : Nat) (tot : List Rt) (v1 v3 v4 : V) (a fl wq : Addr) (H : Hp) (g : List Rk × List Rt) (σ : L2.St) (H' : Hp) : Prop :=
  ∃ x6 x7 x8 x9 x10 x11 us ws, σ = [some v1, some (.ref a), some v3, some v4, some (.ref fl), some (.ref wq), x6, x7, x8, x9, x10, x11] ∧ Fr [] H H' ∧ H' wq = some (.lst us) ∧ H' fl = some (.lst ws) ∧ All2 (IsRk K H') g.1.reverse us ∧ IsVs K H' (g.2.map Rt.val) ws ∧
    g.2 ++ runRt ps g.1 = tot ∧ (∀ t ∈ g.1, okRk ps N t) ∧ g.2.length + muK g.1 ≤ 2 * N
/-- the loop that puts the parts to wait -/
def PvQ (K : PySem.W.Frag) (v1 v3 v4 x dv wv : V) (bb : Bool) (a fl wq l2 : Addr) (H3 : Hp) (n : Nat) (ts tk : List Rk) (i : Nat) (σ : L2.St) (H' : Hp) : Prop :=
  ∃ y11 us', σ = [some v1, some (.ref a), some v3, some v4, some (.ref fl), some (.ref wq), some x, some dv, some wv, some (.bl bb), some (.ref l2), y11] ∧ Fr [wq] H3 H' ∧ H' wq = some (.lst us') ∧ All2 (IsRk K H') (ts.reverse ++ (tk.drop (n - i)).reverse) us'
section
variable {P : Program} {w : World} {K : PySem.W.Frag} {mg : MG} {base : Heap}
def spRouts (K : PySem.W.Frag) : Sp := fun vs H Q _ => ∃ (e : Ex) (ps : List Str) (d w : List Val) (v1 v3 v4 : V) (a : Addr), vs = [v1, .ref a, v3, v4] ∧ IsV K H e.val v1 ∧ StrAt K H a ps ∧ IsV K H (.l d) v3 ∧ IsV K H (.l w) v4 ∧ e.ok ps ∧ ps.length ≤ 20 ∧ d.length + e.nodes ≤ 100000 ∧ w.length + e.nodes ≤ 100000 ∧
  ∀ H' t us, Fr [] H H' → TupAt K H' t us → IsVs K H' ((routs ps e d w).map Rt.val) us → us.length ≤ 200000 → Q (.ref t) H'
theorem sc_routines_of : FnScope ["expression", "parameters", "depth", "path", "found", "waiting", "one", "deep", "way", "is_named", "parts", "k"] ["expression", "parameters", "depth", "path"] (defScope s_routines_of) := ⟨rfl, rfl, rfl, by decide +kernel, rfl, by decide +kernel, by decide +kernel⟩
theorem ok_routs (F : Fg K mg "routines_of" s_routines_of) (B : Bn mg) (D_parts_of : Df P w K mg base "parts_of" ["expression", "depth", "path"] 2 (spParts K)) (D_instructions_of : Df P w K mg base "instructions_of" ["expression", "parameters", "depth", "path"] 3 (spInstr K)) :
    Df P w K mg base "routines_of" ["expression", "parameters", "depth", "path"] 4 (spRouts K) := by
  refine Df.of F sc_routines_of (fun _ _ _ _ _ _ us hl => match us, hl with | [_, _, _, _], _ => rfl) (fun vs H Q E h => ?_) (fun f cdv A outer s H vs Q E hr h => ?_)
  · obtain ⟨_, _, _, _, _, _, _, _, rfl, _⟩ := h
    rfl
  obtain ⟨e0, ps, d0, pw0, v1, v3, v4, a, rfl, h1, hps, h3, h4, ho, hpl, hd, hw, q⟩ := h
  have hu := hu_of hr
  have nd := sc_routines_of.nd
  refine ⟨_, (pss_cons (ps_set (i := 4) nd rfl (.inl rfl) (pe_lst pa_nil))
    (pss_cons (ps_set (i := 5) nd rfl (.inl rfl) (pe_lst (pa_cons (pe_tup (pa_cons (pv 0) (pa_cons (pv 2) (pa_cons (pv 3) (pa_cons pe_bl pa_nil))))) pa_nil)))
    (pss_cons (ps_while PassesOwn.never (pt_cmpR op_gt (pe_callB call_len_seq (by rfl) B.len bLen (pa_cons (pv 5) pa_nil)) pe_int (nomark _))
      (pss_cons (ps_asg (pe_bm0 PySem.F.plainAttrs_list PySem.F.slot_list_pop PySem.F.type_list_pop mt_pop (pv 5)) (pg_tup rfl (pgs_cons (pg_name (i := 6) nd rfl (.inl rfl)) (pgs_cons (pg_name (i := 7) nd rfl (.inl rfl)) (pgs_cons (pg_name (i := 8) nd rfl (.inl rfl)) (pgs_cons (pg_name (i := 9) nd rfl (.inl rfl)) pgs_nil))))))
      (pss_cons (ps_if (pt_val (pv 9))
        (pss_one (ps_expr (pe_bm PySem.F.plainAttrs_list PySem.F.slot_list_append PySem.F.type_list_append mt_append (pv 4) (pa_cons (pe_op op_catS (pe_tup (pa_cons (pv 8) pa_nil)) (pe_cf D_instructions_of (hr.mono (by decide)) (pa_cons (pv 6) (pa_cons (pv 1) (pa_cons (pv 7) (pa_cons (pv 8) pa_nil)))))) pa_nil))))
        pss_nil)
      (pss_one (ps_if (PW.pt (pw_and (pt_not (pt_val (pe_isS2 B (pv 6)))) (pw_and1 (pt_cmpR op_ne (pe_ix ix_tup (pv 6) pe_int (fun _ _ => rfl)) pe_str (nomark _)))))
        (pss_cons (ps_set (i := 10) nd rfl (.inl rfl) (pe_cf D_parts_of (hr.mono (by decide)) (pa_cons (pv 6) (pa_cons (pv 7) (pa_cons (pv 8) pa_nil)))))
        (pss_one (ps_for PassesOwn.never rfl (pi_revR (by rfl) B.reversed (prg_1 (by rfl) B.range (pe_callB call_len_seq (by rfl) B.len bLen (pa_cons (pv 10) pa_nil)))) (pg_name (i := 11) nd rfl (.inl rfl))
          (pss_one (ps_expr (pe_bm PySem.F.plainAttrs_list PySem.F.slot_list_append PySem.F.type_list_append mt_append (pv 5) (pa_cons (pe_op op_catS (pe_ix ix_list (pv 10) (pv 11) (fun _ _ => rfl)) (pe_tup (pa_cons (pe_and (pe_cmpR op_eq (pe_ix ix_tup (pv 6) pe_int (fun _ _ => rfl)) pe_str (nomark _)) (pe_one (pe_cmpR op_gt (pv 11) pe_int (nomark _)))) pa_nil))) pa_nil)))))))
        pss_nil)))))
    (pss_one (ps_ret (pe_tupleOf (by rfl) B.tuple (pv 4))))))), ?_⟩
  refine ⟨(by show 0 ≤ sizeLine; decide), fun fl hfl => ?_⟩
  have f1 : Fr [] H (upd H fl (.lst [])) := Fr.new hfl _
  refine ⟨_, rfl, _, rfl, _, rfl, (by show 4 ≤ sizeLine; decide), fun t0 ht0 => ?_⟩
  have f2 := f1.trans (Fr.new (S := []) ht0 (.tup [v1, v3, v4, .bl false]))
  have t0f : t0 ≠ fl := fun z => by rw [z, upd_same] at ht0; cases ht0
  refine ⟨(by show 1 ≤ sizeLine; decide), fun wq hwq => ?_⟩
  have wt : wq ≠ t0 := fun z => by rw [z, upd_same] at hwq; cases hwq
  have wf : wq ≠ fl := fun z => by rw [z, upd_ne (Ne.symm t0f), upd_same] at hwq; cases hwq
  have f3 := f2.trans (Fr.new (S := []) hwq (.lst [V.ref t0]))
  have hwq0 : H wq = none := f2.free (by simp) hwq
  refine while_g (G := List Rk × List Rt) (PvR K ps 100000 (routs ps e0 d0 pw0) v1 v3 v4 a fl wq H) (fun g => muK g.1) ([((e0, d0, pw0), false)], [])
    ⟨none, none, none, none, none, none, _, _, rfl, f3, upd_same, by rw [upd_ne (Ne.symm wf), upd_ne (Ne.symm t0f)]; exact upd_same, All2.one ⟨t0, v1, v3, v4, rfl, .of (by rw [upd_ne (Ne.symm wt)]; exact upd_same), h1.fr f3, h3.fr f3, h4.fr f3⟩, rfl, by simp [runRt, rk1], fun t ht => by rw [List.mem_singleton.mp ht]; exact ⟨ho, hd, hw⟩, by simp only [muK, List.length_nil]; omega⟩ ?_
  rintro ⟨ts, out⟩ σ H' ⟨x6, x7, x8, x9, x10, x11, us, ws, rfl, fr, hul, hwm, hus, hws, hrun, hok, hmu⟩
  simp only at hus hws hrun hok hmu
  have hlen := hus.len
  have hwl := hws.len
  rw [List.length_reverse] at hlen
  rw [List.length_map] at hwl
  refine ⟨_, rfl, wq, _, rfl, .inl (.of hul), _, _, rfl, rfl, _, rfl, ?_⟩
  cases ts with
  | nil =>
    rw [decide_eq_false (by rw [hlen]; decide)]
    refine iteF ?_
    rw [runRt, List.append_nil] at hrun
    subst hrun
    refine ⟨_, rfl, .inl ⟨fl, _, rfl, .of hwm, fun p hp => ?_⟩⟩
    have k1 : Fr [] H' (upd H' p (.tup ws)) := Fr.new hp _
    exact q _ p ws (fr.trans k1) (.of upd_same) (hws.fr k1) (by simp only [muK] at hmu; omega)
  | cons t ts =>
  rw [decide_eq_true (by rw [hlen, List.length_cons]; show (0 : Int) < ((ts.length + 1 : Nat) : Int); omega)]
  refine iteT ?_
  refine ⟨_, while_n (G := List Rk × List Rt) (mu := fun g => muK g.1), ?_⟩
  rw [List.reverse_cons] at hus
  obtain ⟨us, u, rfl, husA, hu⟩ := hus.last
  have g1 : Fr [wq] H' (upd H' wq (.lst us)) := Fr.set (List.mem_singleton.mpr rfl) hul (fun _ z => by cases z) _
  have fr1 : Fr [] H (upd H' wq (.lst us)) := fr.over hwq0 _
  refine ⟨_, rfl, .inl ⟨rfl, _, .of hul⟩, wq, _, _, rfl, rfl, hul, pop_at _ _, ?_⟩
  rw [List.dropLast_concat]
  have hu1 := hu.fr g1
  have hus1 : All2 (IsRk K (upd H' wq (.lst us))) ts.reverse us := husA.imp fun _ _ h => h.fr g1
  have hws1 := hws.fr g1
  have hul1 : upd H' wq (.lst us) wq = some (.lst us) := upd_same
  have hwm1 : upd H' wq (.lst us) fl = some (.lst ws) := by rw [upd_ne (Ne.symm wf)]; exact hwm
  have hul2 : us.length = ts.length := by have := husA.len; rw [List.length_reverse] at this; exact this
  have hml := muK_len ts
  rw [List.length_cons] at hlen
  have okt : ∀ t ∈ ts, okRk ps 100000 t := fun t ht => hok t (List.mem_cons_of_mem _ ht)
  have ok1 := hok t (List.mem_cons_self ..)
  clear hus husA hu hul hwm hws g1 fr hok
  generalize upd H' wq (.lst us) = H1 at *
  clear H'
  obtain ⟨⟨e, d, pw⟩, bb⟩ := t
  obtain ⟨p, x, dv, wv, rfl, hp, hx, hdv, hwv⟩ := hu1
  obtain ⟨o1, o2, o3⟩ := ok1
  simp only at hx hdv hwv o1 o2 o3 hp
  simp only [muK, runRt] at hmu hrun ⊢
  have hnp := nodes_pos e
  refine ⟨p, _, rfl, hp, rfl, _, _, rfl, _, _, rfl, _, _, rfl, _, _, rfl, rfl, ?_⟩
  cases bb
  case' false =>
    refine ⟨_, rfl, false, rfl, ?_⟩
    refine iteF ?_
    have kf := Fr.refl [fl] H1
    have hr2 : out ++ (routs ps e d pw ++ runRt ps ts) = routs ps e0 d0 pw0 := by rw [← hrun]; simp [rk1]
    have hb2 : out.length + (2 * e.nodes - 1 + muK ts) ≤ 2 * 100000 := by omega
    clear hrun
    generalize H1 = H2 at *
    generalize out = out2 at *
    generalize ws = ws2 at *
    have hwm2 := hwm1
    have hws2 := hws1
  case' true =>
    refine ⟨_, rfl, true, rfl, ?_⟩
    refine iteT ?_
    refine ⟨_, rfl, .inl ⟨rfl, _, .of hwm1⟩, _, rfl, (by show 1 ≤ sizeLine; decide), fun T hT => ?_⟩
    have k1 : Fr [] H1 (upd H1 T (.tup [wv])) := Fr.new hT _
    have eT : upd H1 T (.tup [wv]) T = some (.tup [wv]) := upd_same
    refine ⟨_, rfl, _, rfl, _, rfl, _, rfl, e, ps, d, pw, x, dv, wv, a, rfl, hx.fr k1, (hps.fr fr1).fr k1, hdv.fr k1, hwv.fr k1, o1, hpl, o2, o3, fun H3 t us3 k2 t3 hi hz => ?_⟩
    have k12 := k1.trans k2
    refine ⟨T, t, _, us3, rfl, rfl, .of (k2.tup _ _ eT), t3, Nat.le_of_lt (smallB (by simp only [List.length_cons, List.length_nil]; omega)), fun t4 H4 k3 t4' => ?_⟩
    have k13 := k12.trans k3
    have hwm4 := k13.keep fl _ (by simp) hwm1
    refine ⟨fl, ws, _, rfl, rfl, hwm4, smallB (by omega), ?_⟩
    have k4 : Fr [fl] H4 (upd H4 fl (.lst (ws ++ [.ref t4]))) := Fr.set (List.mem_singleton.mpr rfl) hwm4 (fun _ z => by cases z) _
    have kf := (k13.mono (T := [fl]) (by simp)).trans k4
    have hwm2 : upd H4 fl (.lst (ws ++ [.ref t4])) fl = some (.lst (ws ++ [.ref t4])) := upd_same
    have hws2 : IsVs K (upd H4 fl (.lst (ws ++ [.ref t4]))) ((out ++ [(⟨.l pw, ops ps e d pw⟩ : Rt)]).map Rt.val) (ws ++ [.ref t4]) := by
      rw [List.map_append]
      exact (hws1.fr kf).app (IsVs.one (isV_l (t4'.fr k4) (IsVs.cons ((hwv.fr k13).fr k4) ((hi.fr k3).fr k4))))
    have hr2 : (out ++ [(⟨.l pw, ops ps e d pw⟩ : Rt)]) ++ (routs ps e d pw ++ runRt ps ts) = routs ps e0 d0 pw0 := by rw [← hrun]; simp [rk1]
    have hb2 : (out ++ [(⟨.l pw, ops ps e d pw⟩ : Rt)]).length + (2 * e.nodes - 1 + muK ts) ≤ 2 * 100000 := by rw [List.length_append, List.length_singleton]; omega
    clear hrun
    generalize upd H4 fl (.lst (ws ++ [.ref t4])) = H2 at *
    generalize out ++ [(⟨.l pw, ops ps e d pw⟩ : Rt)] = out2 at *
    generalize ws ++ [.ref t4] = ws2 at *
  all_goals
    have hx2 := hx.fr kf
    have hdv2 := hdv.fr kf
    have hwv2 := hwv.fr kf
    have hul5 := kf.keep wq _ (by simp [wf]) hul1
    have hus2 := hus1.imp fun _ _ z => IsRk.fr kf z
    have fr2 : Fr [] H H2 := fr1.drop kf (fun x hx => .inr (by rw [List.mem_singleton.mp hx]; exact hfl))
    have done : ∀ (y6 y7 y8 y9 y10 y11 : Option V), e.leaf = true → ∃ g' : List Rk × List Rt, muK g'.1 < 2 * e.nodes + muK ts ∧ PvR K ps 100000 (routs ps e0 d0 pw0) v1 v3 v4 a fl wq H g' [some v1, some (.ref a), some v3, some v4, some (.ref fl), some (.ref wq), y6, y7, y8, y9, y10, y11] H2 := by
      intro y6 y7 y8 y9 y10 y11 le
      have er : routs ps e d pw = [] := by
        cases e with
        | var y => rfl
        | quo z => rfl
        | ite _ _ _ => cases le
        | app _ _ => cases le
      rw [er, List.nil_append] at hr2
      exact ⟨(ts, out2), by simp only; omega, _, _, _, _, _, _, us, ws2, rfl, fr2, hul5, hwm2, hus2, hws2, hr2, okt, by simp only; omega⟩
    by_cases le : e.leaf = true
    · cases e with
      | var y =>
        obtain rfl : x = .str y := hx2
        refine ⟨_, rfl, _, .w y, rfl, rfl, true, rfl, ?_⟩
        refine iteF ?_
        exact done _ _ _ _ _ _ le
      | quo z =>
        have hx3 := hx2
        obtain ⟨c, vs, rfl, t, vq, r1, rfl, eq, vz, r2, rfl, hz, e4⟩ := hx3
        obtain rfl : vq = .str "quote" := eq
        refine ⟨_, rfl, _, _, rfl, hx2, false, rfl, ?_⟩
        refine iteT ?_
        refine ⟨_, rfl, c, _, _, _, rfl, rfl, t.sq, at0, rfl, _, rfl, ?_⟩
        rw [decide_eq_true rfl]
        refine iteF ?_
        exact done _ _ _ _ _ _ le
      | ite _ _ _ => cases le
      | app _ _ => cases le
    · have le' : e.leaf = false := by simpa using le
      have hx3 := hx2
      rw [comp_val le'] at hx3
      have hx4 := hx3
      obtain ⟨c, vs, rfl, t, vq, r1, rfl, eq, hr1⟩ := hx3
      obtain rfl : vq = .str e.first := eq
      have hq1 : e.first ≠ "quote" ∧ ∀ g as, e = .app g as → g.str ≠ "if" := by
        cases e with
        | var y => cases le'
        | quo z => cases le'
        | ite _ _ _ => exact ⟨(by decide : ("if" : Str) ≠ "quote"), fun _ _ z => by cases z⟩
        | app g as =>
          cases g with
          | pr o =>
            have h1 : o.str ≠ "quote" ∧ o.str ≠ "if" := by cases o <;> decide
            exact ⟨h1.1, fun _ _ z => by cases z; exact h1.2⟩
          | fn f => exact ⟨o1.2.2.2.1, fun _ _ z => by cases z; exact o1.2.2.2.2⟩
      have hnn := parts_nodes le'
      have hpl2 := (ok_parts o1).1
      refine ⟨_, rfl, _, _, rfl, hx4, false, rfl, ?_⟩
      refine iteT ?_
      refine ⟨_, rfl, c, _, _, _, rfl, rfl, t.sq, at0, rfl, _, rfl, ?_⟩
      rw [decide_eq_false (fun z => hq1.1 (V.str.inj z))]
      refine iteT ?_
      refine ⟨_, rfl, _, rfl, _, rfl, e, d, pw, _, _, _, rfl, hx2, hdv2, hwv2, le', by omega, by omega, by omega, fun H3 l2 us2 k1 hn el2 hpts => ?_⟩
      have hpn := hpts.len
      rw [ptr, ptL_len] at hpn
      have n2 : l2 ≠ wq := fun z => by rw [z, hul5] at hn; cases hn
      have hr3 := runRt_parts ps d pw le' hq1.2
      have hm3 : muK (rkL (decide (e.first = "if")) (ptr e d pw) 0) = 2 * nodesL e.parts := muK_pt _ _ _ _ _ _ _
      have hok3 := okTk_pt (w := pw) (d := d) le' ⟨o1, o2, o3⟩
      have hrl := rkL_len (decide (e.first = "if")) (ptr e d pw) 0
      have hrg := rkL_get (decide (e.first = "if")) (ptr e d pw) 0
      have hpl3 : (ptr e d pw).length = e.parts.length := by rw [ptr, ptL_len]
      generalize htk : rkL (decide (e.first = "if")) (ptr e d pw) 0 = tk at *
      have z1 : tk.drop us2.length = [] := List.drop_eq_nil_of_le (by omega)
      refine ⟨_, rfl, l2, _, rfl, .inl (.of el2), (us2.length : Int), rfl, by decide, by decide, by omega, by omega, for_rangeC (n := us2.length) (PvQ K v1 v3 v4 (.ref c) dv wv _ a fl wq l2 H3 us2.length ts tk)
        ⟨_, us, rfl, Fr.refl _ _, k1.keep wq _ (by simp) hul5, by rw [Nat.sub_zero, z1, List.reverse_nil, List.append_nil]; exact hus2.imp fun _ _ z => z.fr k1⟩ ?_ ?_⟩
      · rintro i σ H' hi ⟨y11, us', rfl, f, hw', hus'⟩
        have e1 : (0 + ((((us2.length : Nat) : Int) - 0).toNat : Int) - 1) + ((i : Nat) : Int) * (-1) = ((us2.length - 1 - i : Nat) : Int) := by omega
        rw [e1]
        obtain ⟨j, hj⟩ : ∃ j, j = us2.length - 1 - i := ⟨_, rfl⟩
        rw [← hj]
        have hj2 : j < us2.length := by omega
        obtain ⟨pt, hpt, hpv⟩ := hpts.get' (List.getElem?_eq_getElem hj2)
        obtain ⟨pp, pa, pb, pc, epp, hpp, q1, q2, q3⟩ := hpv.fr f
        have hl' := hus'.len
        rw [List.length_append, List.length_reverse, List.length_reverse, List.length_drop] at hl'
        have cont : ∀ b9 bv : Bool, bv = (decide (e.first = "if") && decide (0 < j)) → ∀ T, H' T = none → rCatS K (.ref pp) (.ref T) (upd H' T (.tup [.bl bv])) (fun z H2' => ∃ l_1 xs y, V.ref wq = .ref l_1 ∧ [z] = [y] ∧ H2' l_1 = some (.lst xs) ∧ xs.length < sizeLine ∧
            PvQ K v1 v3 v4 (.ref c) dv wv b9 a fl wq l2 H3 us2.length ts tk (i + 1) [some v1, some (.ref a), some v3, some v4, some (.ref fl), some (.ref wq), some (.ref c), some dv, some wv, some (.bl b9), some (.ref l2), some (.int (j : Nat))] (upd H2' l_1 (.lst (xs ++ [y])))) := by
          intro b9 bv hbv T hT
          have m1 : Fr [] H' (upd H' T (.tup [.bl bv])) := Fr.new hT _
          refine ⟨pp, T, _, _, rfl, rfl, .of (m1.tup _ _ hpp), .of upd_same, (by show 4 ≤ sizeLine; decide), fun p4 H4 m2 t4 => ?_⟩
          have m12 := m1.trans m2
          have hw4 := m12.keep wq _ (by simp) hw'
          have m3 : Fr [wq] H4 (upd H4 wq (.lst (us' ++ [.ref p4]))) := Fr.set (List.mem_singleton.mpr rfl) hw4 (fun _ z => by cases z) _
          refine ⟨wq, us', _, rfl, rfl, hw4, smallB (by omega), _, _, rfl, (f.trans (m12.mono (by simp))).trans m3, upd_same, ?_⟩
          have e2 : us2.length - (i + 1) = j := by omega
          have e3 : us2.length - i = j + 1 := by omega
          have gj : tk[j]? = some (pt, decide (e.first = "if") && decide (0 < 0 + j)) := by rw [hrg j, hpt]; rfl
          have hjl := (List.getElem?_eq_some_iff.mp gj).1
          rw [e2, List.drop_eq_getElem_cons hjl, List.reverse_cons, ← List.append_assoc, (List.getElem?_eq_some_iff.mp gj).2]
          rw [e3] at hus'
          refine ((hus'.imp fun _ _ z => z.fr m12).imp fun _ _ z => z.fr m3).app (All2.one ⟨p4, pa, pb, pc, rfl, ?_, (q1.fr m12).fr m3, (q2.fr m12).fr m3, (q3.fr m12).fr m3⟩)
          rw [Nat.zero_add, ← hbv]
          exact t4.fr m3
        refine ⟨_, rfl, .inl ⟨rfl, _, .of hw'⟩, _, rfl, _, rfl, l2, us2, _, us2[j], rfl, rfl, .of (f.keep l2 _ (by simp [n2]) el2), atI_nat (List.getElem?_eq_getElem hj2), ?_⟩
        rw [epp]
        refine ⟨_, rfl, c, _, _, _, rfl, rfl, ((t.fr k1).fr f).sq, at0, rfl, _, rfl, ?_⟩
        by_cases ei : e.first = "if"
        · rw [decide_eq_true (by rw [ei])]
          refine iteT ?_
          refine ⟨_, rfl, (j : Int), 0, rfl, rfl, (by show 1 ≤ sizeLine; decide), fun T hT => ?_⟩
          exact cont _ _ (by rw [decide_eq_true ei, Bool.true_and]; exact decide_eq_decide.mpr (by omega)) T hT
        · rw [decide_eq_false (fun z => ei (V.str.inj z))]
          refine iteF ?_
          refine ⟨(by show 1 ≤ sizeLine; decide), fun T hT => ?_⟩
          exact cont _ _ (by rw [decide_eq_false ei, Bool.false_and]) T hT
      · rintro σ H' ⟨y11, us', rfl, f, hw', hus'⟩
        rw [Nat.sub_self, List.drop_zero] at hus'
        refine ⟨(tk ++ ts, out2), by simp only; rw [muK_app]; omega, _, _, _, _, _, _, us', ws2, rfl, (fr2.trans k1).drop f (fun x hx => .inr (by rw [List.mem_singleton.mp hx]; exact hwq0)), hw', f.keep fl _ (by simp [Ne.symm wf]) (k1.keep fl _ (by simp) hwm2), by rw [List.reverse_append]; exact hus', (hws2.fr k1).fr f, by rw [runRt_app, hr3]; exact hr2, fun t ht => ?_, by simp only; rw [muK_app]; omega⟩
        rcases List.mem_append.mp ht with z | z
        · obtain ⟨j, hj⟩ := List.getElem?_of_mem z
          rw [hrg j] at hj
          obtain ⟨y, hy, rfl⟩ := Option.map_eq_some_iff.mp hj
          exact hok3 _ (List.mem_map.mpr ⟨y, List.mem_of_getElem? hy, rfl⟩)
        · exact okt t z
end
end Og

set_option Elab.async false
set_option linter.all false
set_option maxRecDepth 100000
set_option maxHeartbeats 4000000
/-! Og4d: to_machine. -/
namespace Og
open PySem PySem.Spec PyProof.Rows L2
theorem toM_app : ∀ (a b : Prog), toM (a ++ b) = toM a ++ toM b
  | [], b => rfl
  | f :: a, b => by simp only [List.cons_append, toM, toM_app a b, List.append_assoc]
section
variable {P : Program} {w : World} {K : PySem.W.Frag} {mg : MG} {base : Heap}
def spToM (K : PySem.W.Frag) : Sp := fun vs H Q _ => ∃ (p : Prog) (v : V), vs = [v] ∧ IsP K H p v ∧ Good p ∧ (∀ f ∈ p, f.body.ok f.ps ∧ f.body.nodes ≤ 99000) ∧ (toM p).length ≤ 100000 ∧ ∀ H' x, Fr [] H H' → IsV K H' (Mac.val (toM p)) x → Q x H'
theorem sc_to_machine : FnScope ["program", "found", "name", "parameters", "body", "instructions"] ["program"] (defScope s_to_machine) := ⟨rfl, rfl, rfl, by decide +kernel, rfl, by decide +kernel, by decide +kernel⟩
theorem ok_to_machine (F : Fg K mg "to_machine" s_to_machine) (B : Bn mg) (D_check_program : Df P w K mg base "check_program" ["value"] 4 (spCheck K)) (D_instructions_of : Df P w K mg base "instructions_of" ["expression", "parameters", "depth", "path"] 3 (spInstr K))
    (D_routines_of : Df P w K mg base "routines_of" ["expression", "parameters", "depth", "path"] 4 (spRouts K)) : Df P w K mg base "to_machine" ["program"] 5 (spToM K) := by
  refine Df.of F sc_to_machine (fun _ _ _ _ _ _ us hl => match us, hl with | [_], _ => rfl) (fun vs H Q E h => ?_) (fun f cdv A outer s H vs Q E hr h => ?_)
  · obtain ⟨_, _, rfl, _⟩ := h
    rfl
  obtain ⟨p, v, rfl, hv, g, hok, hz, q⟩ := h
  have hu := hu_of hr
  have nd := sc_to_machine.nd
  refine ⟨_, (pss_cons (ps_expr (pe_cf D_check_program (hr.mono (by decide)) (pa_cons (pv 0) pa_nil)))
    (pss_cons (ps_set (i := 1) nd rfl (.inl rfl) (pe_tup pa_nil))
    (pss_cons (ps_for PassesOwn.never rfl (pi_tup (pv 0)) (pg_tup rfl (pgs_cons (pg_name (i := 2) nd rfl (.inl rfl)) (pgs_cons (pg_name (i := 3) nd rfl (.inl rfl)) (pgs_cons (pg_name (i := 4) nd rfl (.inl rfl)) pgs_nil))))
      (pss_cons (ps_set (i := 5) nd rfl (.inl rfl) (pe_cf D_instructions_of (hr.mono (by decide)) (pa_cons (pv 4) (pa_cons (pv 3) (pa_cons (pe_tup pa_nil) (pa_cons (pe_tup (pa_cons (pv 2) pa_nil)) pa_nil))))))
      (pss_cons (ps_set (i := 1) nd rfl (.inl rfl) (pe_op op_catS (pv 1) (pe_tup (pa_cons (pe_op op_catS (pe_op op_catS (pe_tup (pa_cons (pv 2) pa_nil)) (pv 5)) (pe_tup (pa_cons (pe_tup (pa_cons pe_str (pa_cons (pv 3) pa_nil))) pa_nil))) pa_nil))))
      (pss_one (ps_set (i := 1) nd rfl (.inl rfl) (pe_op op_catS (pv 1) (pe_cf D_routines_of (hr.mono (by decide)) (pa_cons (pv 4) (pa_cons (pv 3) (pa_cons (pe_tup pa_nil) (pa_cons (pe_tup (pa_cons (pv 2) pa_nil)) pa_nil)))))))))))
    (pss_one (ps_ret (pv 1)))))), ?_⟩
  refine ⟨_, rfl, p, _, rfl, hv.v, g, fun H1 f1 => ?_⟩
  refine ⟨(by show 0 ≤ sizeLine; decide), fun T0 hT0 => ?_⟩
  have f2 := f1.trans (Fr.new (S := []) hT0 (.tup []))
  obtain ⟨a, us, rfl, t, r⟩ := hv
  have hl := r.len
  refine ⟨_, rfl, a, rfl, ⟨_, (t.fr f2).sq⟩, for_tup (K := K) (a := a) (xs := us) (fun i σ H' => ∃ b ws x2 x3 x4 x5, σ = [some (.ref a), some (.ref b), x2, x3, x4, x5] ∧ Fr [] H H' ∧ TupAt K H' b ws ∧ IsVs K H' ((toM (p.take i)).map Rt.val) ws)
    ⟨T0, [], none, none, none, none, rfl, f2, .of upd_same, rfl⟩ (fun i σ H' _ ⟨_, _, _, _, _, _, _, f, _⟩ => (t.fr f).sq) ?_ ?_⟩
  · rintro i x σ H' hx ⟨b, ws, x2, x3, x4, x5, rfl, f, tb, hws⟩
    obtain ⟨fn, hfn, hfv⟩ := r.get' hx
    have hmem := List.mem_of_getElem? hfn
    obtain ⟨o1, o2⟩ := hok fn hmem
    have hps := (g.fn i fn hfn).2.2.2.1.1
    obtain ⟨c, pa, bd, rfl, t1, sp, hb⟩ := hfv.fr f
    have e1 : p.take (i + 1) = p.take i ++ [fn] := by rw [List.take_add_one, hfn]; rfl
    have hwl := hws.len
    rw [List.length_map] at hwl
    have hle : (toM (p.take i)).length + (1 + (routs fn.ps fn.body [] [.w fn.name]).length) ≤ 100000 := by
      have h2 : (toM p).length = (toM (p.take (i + 1))).length + (toM (p.drop (i + 1))).length := by rw [← List.length_append, ← toM_app, List.take_append_drop]
      rw [e1, toM_app, List.length_append] at h2
      simp only [toM, Fn.toM, List.length_append, List.length_cons, List.length_nil] at h2
      omega
    refine ⟨c, _, rfl, t1.sq, rfl, _, _, rfl, _, _, rfl, _, _, rfl, rfl, ?_⟩
    refine ⟨_, rfl, _, rfl, (by show 0 ≤ sizeLine; decide), fun T1 hT1 => ?_⟩
    have k1 : Fr [] H' (upd H' T1 (.tup [])) := Fr.new hT1 _
    have eT1 : upd H' T1 (.tup []) T1 = some (.tup []) := upd_same
    generalize upd H' T1 (.tup []) = H2 at *
    refine ⟨_, rfl, (by show 1 ≤ sizeLine; decide), fun T2 hT2 => ?_⟩
    have k2 : Fr [] H2 (upd H2 T2 (.tup [.str fn.name])) := Fr.new hT2 _
    have eT2 : upd H2 T2 (.tup [.str fn.name]) T2 = some (.tup [.str fn.name]) := upd_same
    have eT1' := k2.tup _ _ eT1
    have k12 := k1.trans k2
    generalize upd H2 T2 (.tup [.str fn.name]) = H3 at *
    refine ⟨fn.body, fn.ps, [], [.w fn.name], bd, _, _, pa, rfl, hb.fr k12, sp.fr k12, isV_l (.of eT1') rfl, isV_l (.of eT2) (IsVs.one rfl), o1, by omega, by simp only [List.length_nil]; omega, by simp only [List.length_cons, List.length_nil]; omega, fun H4 ti ius k3 tiu hiu hil => ?_⟩
    have k13 := k12.trans k3
    refine ⟨_, rfl, _, rfl, (by show 1 ≤ sizeLine; decide), fun T3 hT3 => ?_⟩
    have k4 : Fr [] H4 (upd H4 T3 (.tup [.str fn.name])) := Fr.new hT3 _
    have eT3 : upd H4 T3 (.tup [.str fn.name]) T3 = some (.tup [.str fn.name]) := upd_same
    have tiu4 := tiu.fr k4
    have hiu4 := hiu.fr k4
    have k14 := k13.trans k4
    generalize upd H4 T3 (.tup [.str fn.name]) = H5 at *
    refine ⟨_, rfl, T3, ti, _, _, rfl, rfl, .of eT3, tiu4, Nat.le_of_lt (smallB (by simp only [List.length_cons, List.length_nil]; omega)), fun c1 H6 k5 tc1 => ?_⟩
    refine ⟨_, rfl, (by show 2 ≤ sizeLine; decide), fun T4 hT4 => ?_⟩
    have k6 : Fr [] H6 (upd H6 T4 (.tup [.str "slide", .ref pa])) := Fr.new hT4 _
    have eT4 : upd H6 T4 (.tup [.str "slide", .ref pa]) T4 = some (.tup [.str "slide", .ref pa]) := upd_same
    have k56 := k5.trans k6
    have tc16 := tc1.fr k6
    generalize upd H6 T4 (.tup [.str "slide", .ref pa]) = H7 at *
    refine ⟨(by show 1 ≤ sizeLine; decide), fun T5 hT5 => ?_⟩
    have k7 : Fr [] H7 (upd H7 T5 (.tup [.ref T4])) := Fr.new hT5 _
    have eT5 : upd H7 T5 (.tup [.ref T4]) T5 = some (.tup [.ref T4]) := upd_same
    have eT4' := k7.tup _ _ eT4
    have k57 := k56.trans k7
    have tc17 := tc16.fr k7
    generalize upd H7 T5 (.tup [.ref T4]) = H8 at *
    refine ⟨c1, T5, _, _, rfl, rfl, tc17, .of eT5, Nat.le_of_lt (smallB (by simp only [List.length_append, List.length_cons, List.length_nil]; omega)), fun c2 H9 k8 tc2 => ?_⟩
    refine ⟨(by show 1 ≤ sizeLine; decide), fun T6 hT6 => ?_⟩
    have k9 : Fr [] H9 (upd H9 T6 (.tup [.ref c2])) := Fr.new hT6 _
    have eT6 : upd H9 T6 (.tup [.ref c2]) T6 = some (.tup [.ref c2]) := upd_same
    have k59 := (k57.trans k8).trans k9
    have tc29 := tc2.fr k9
    have eT49 := k9.tup _ _ (k8.tup _ _ eT4')
    generalize upd H9 T6 (.tup [.ref c2]) = H10 at *
    have k110 := k14.trans k59
    refine ⟨b, T6, ws, _, rfl, rfl, tb.fr k110, .of eT6, Nat.le_of_lt (smallB (by simp only [List.length_cons, List.length_nil]; omega)), fun c3 H11 k11 tc3 => ?_⟩
    have hcode : IsV K H11 (Rt.val ⟨.w fn.name, fn.code⟩) (.ref c2) := by
      refine isV_l (tc29.fr k11) ?_
      simp only [Fn.code, List.map_append, List.map_cons, List.map_nil]
      rw [List.append_assoc, List.cons_append, List.nil_append]
      exact IsVs.cons rfl (((hiu4.fr k59).fr k11).app (IsVs.one (isV_l (.of (k11.tup _ _ eT49)) (IsVs.cons isV_w (IsVs.one (isV_l (((sp.fr k110).fr k11).tup) isV_ws))))))
    have k111 := k110.trans k11
    refine ⟨_, rfl, _, rfl, _, rfl, (by show 0 ≤ sizeLine; decide), fun T7 hT7 => ?_⟩
    have m1 : Fr [] H11 (upd H11 T7 (.tup [])) := Fr.new hT7 _
    have eT7 : upd H11 T7 (.tup []) T7 = some (.tup []) := upd_same
    have hcode1 := hcode.fr m1
    have tc31 := tc3.fr m1
    generalize upd H11 T7 (.tup []) = H12 at *
    refine ⟨_, rfl, (by show 1 ≤ sizeLine; decide), fun T8 hT8 => ?_⟩
    have m2 : Fr [] H12 (upd H12 T8 (.tup [.str fn.name])) := Fr.new hT8 _
    have eT8 : upd H12 T8 (.tup [.str fn.name]) T8 = some (.tup [.str fn.name]) := upd_same
    have eT7' := m2.tup _ _ eT7
    have m12 := m1.trans m2
    have hcode2 := hcode1.fr m2
    have tc32 := tc31.fr m2
    generalize upd H12 T8 (.tup [.str fn.name]) = H13 at *
    have k113 := k111.trans m12
    refine ⟨fn.body, fn.ps, [], [.w fn.name], bd, _, _, pa, rfl, hb.fr k113, sp.fr k113, isV_l (.of eT7') rfl, isV_l (.of eT8) (IsVs.one rfl), o1, by omega, by simp only [List.length_nil]; omega, by simp only [List.length_cons, List.length_nil]; omega, fun H14 tr rus m3 tru hru hrl => ?_⟩
    refine ⟨c3, tr, _, _, rfl, rfl, tc32.fr m3, tru, Nat.le_of_lt (smallB (by simp only [List.length_append, List.length_cons, List.length_nil]; omega)), fun c4 H15 m4 tc4 => ?_⟩
    have k115 := (k113.trans m3).trans m4
    refine ⟨c4, _, _, _, _, _, rfl, f.trans k115, tc4, ?_⟩
    rw [e1, toM_app, List.map_append]
    simp only [toM, List.append_nil, Fn.toM, List.map_cons]
    rw [List.append_assoc, List.cons_append, List.nil_append]
    exact (hws.fr k115).app (IsVs.cons ((hcode2.fr m3).fr m4) (hru.fr m4))
  · rintro σ H' ⟨b, ws, x2, x3, x4, x5, rfl, f, tb, hws⟩
    rw [hl, List.take_length] at hws
    exact ⟨_, rfl, q H' _ f (isV_l tb hws)⟩
end
end Og

set_option Elab.async false
set_option linter.all false
set_option maxRecDepth 100000
set_option maxHeartbeats 4000000
/-! Og4e: translator, knowing_machine, know_own_machine. -/
namespace Og
open PySem PySem.Spec PyProof.Rows L2
theorem renTR14 : (renP TR 0).length = 14 := renTR_len
theorem TR14len : TR.length = 14 := by decide
def GTr (K : PySem.W.Frag) (mg : MG) : Prop := ∃ a, mg "TRANSLATOR" = some (.ref a) ∧ ∀ H, IsP K H TR (.ref a)
theorem xs_len' (k : Nat) : (xs k).length = k := by simp only [xs, List.length_map, List.length_range]
section
variable {P : Program} {w : World} {K : PySem.W.Frag} {mg : MG} {base : Heap}
def spTransl (K : PySem.W.Frag) : Sp := fun vs H Q _ => vs = [] ∧ ∀ v, IsP K H TR v → Q v H
theorem sc_translator : FnScope [] [] (defScope s_translator) := ⟨rfl, rfl, rfl, by decide +kernel, rfl, by decide +kernel, by decide +kernel⟩
theorem ok_translator (F : Fg K mg "translator" s_translator) (G : GTr K mg) : Df P w K mg base "translator" [] 1 (spTransl K) := by
  refine Df.of F sc_translator (fun _ _ _ _ _ _ us hl => match us, hl with | [], _ => rfl) (fun vs H Q E h => ?_) (fun f cdv A outer s H vs Q E hr h => ?_)
  · obtain ⟨rfl, _⟩ := h
    rfl
  obtain ⟨rfl, q⟩ := h
  obtain ⟨gt, mgt, hT⟩ := G
  have hu := hu_of hr
  have nd := sc_translator.nd
  refine ⟨_, (pss_one (ps_ret (pe_gtab mgt))), ?_⟩
  exact q _ (hT H)
def spKnowing (K : PySem.W.Frag) : Sp := fun vs H Q _ => ∃ (p : Prog) (f : Fn) (k : Nat) (v : V), vs = [v] ∧ IsP K H p v ∧ RenOk p ∧ RenOk TR ∧ p.head? = some f ∧ f.ps.length = k + 1 ∧ k ≤ 8 ∧ p.length ≤ 10 ∧ RenOk (hand p k) ∧ Good (knowsOwn (hand p k) k) ∧ ∀ H' y, Fr [] H H' → IsP K H' (knowing p k) y → Q y H'
theorem sc_knowing_machine : FnScope ["program", "many", "functions", "mains", "inputs", "body"] ["program"] (defScope s_knowing_machine) := ⟨rfl, rfl, rfl, by decide +kernel, rfl, by decide +kernel, by decide +kernel⟩
theorem ok_knowing (F : Fg K mg "knowing_machine" s_knowing_machine) (B : Bn mg) (D_inputs_of : Df P w K mg base "inputs_of" ["program"] 5 (spInputs K)) (D_joined : Df P w K mg base "joined" ["programs"] 6 (spJoined K)) (D_translator : Df P w K mg base "translator" [] 1 (spTransl K))
    (D_made_parameters : Df P w K mg base "made_parameters" ["many"] 1 (spParams K)) (D_with_main : Df P w K mg base "with_main" ["functions", "parameters", "body"] 2 (spWithMain K)) (D_know_own : Df P w K mg base "know_own" ["program"] 7 (spKnow K)) :
    Df P w K mg base "knowing_machine" ["program"] 8 (spKnowing K) := by
  refine Df.of F sc_knowing_machine (fun _ _ _ _ _ _ us hl => match us, hl with | [_], _ => rfl) (fun vs H Q E h => ?_) (fun f cdv A outer s H vs Q E hr h => ?_)
  · obtain ⟨_, _, _, _, rfl, _⟩ := h
    rfl
  obtain ⟨p, f0, k, v, rfl, hv, g, gT, hh, hp, hk, hz, gh, g2, q⟩ := h
  have hu := hu_of hr
  have nd := sc_knowing_machine.nd
  refine ⟨_, (pss_cons (ps_set (i := 1) nd rfl (.inl rfl) (pe_op op_sub (pe_cf D_inputs_of (hr.mono (by decide)) (pa_cons (pv 0) pa_nil)) pe_int))
    (pss_cons (ps_asg (pe_cf D_joined (hr.mono (by decide)) (pa_cons (pe_lst (pa_cons (pe_cf0 D_translator (hr.mono (by decide))) (pa_cons (pv 0) pa_nil))) pa_nil)) (pg_tup rfl (pgs_cons (pg_name (i := 2) nd rfl (.inl rfl)) (pgs_cons (pg_name (i := 3) nd rfl (.inl rfl)) pgs_nil))))
    (pss_cons (ps_set (i := 4) nd rfl (.inl rfl) (pe_cf D_made_parameters (hr.mono (by decide)) (pa_cons (pv 1) pa_nil)))
    (pss_cons (ps_set (i := 5) nd rfl (.inl rfl) (pe_op op_catS (pe_tup (pa_cons (pe_ix ix_list (pv 3) pe_int (fun _ _ => rfl)) (pa_cons (pe_tup (pa_cons (pe_ix ix_list (pv 3) pe_int (fun _ _ => rfl)) (pa_cons pe_str pa_nil))) pa_nil))) (pv 4)))
    (pss_one (ps_ret (pe_cf D_know_own (hr.mono (by decide)) (pa_cons (pe_cf D_with_main (hr.mono (by decide)) (pa_cons (pv 2) (pa_cons (pe_op op_catF (pe_tupF (pa_cons pe_str pa_nil)) (pv 4)) (pa_cons (pv 5) pa_nil)))) pa_nil)))))))), ?_⟩
  refine ⟨_, rfl, p, f0, _, rfl, hv.v, g.good, hh, fun H1 f1 => ?_⟩
  rw [hp]
  refine ⟨((k + 1 : Nat) : Int), 1, rfl, rfl, ?_⟩
  dsimp only
  rw [show (((k + 1 : Nat) : Int) - 1) = (k : Int) by omega]
  refine ⟨rfl, fun vt hvt => ?_⟩
  have hv1 := hv.fr f1
  refine ⟨_, rfl, (by show 2 ≤ sizeLine; decide), fun l hl => ?_⟩
  have f3 : Fr [] H1 (upd H1 l (.lst [vt, v])) := Fr.new hl _
  have ej : jfs [] [TR, p] = renP TR 0 ++ renP p 14 := by
    simp only [jfs, List.nil_append, List.length_nil, renTR14]
  have em : jms [] [TR, p] = [fN 0, fN 14] := by
    simp only [jms, List.nil_append, List.length_nil, renTR14]
  have el : (renP TR 0 ++ renP p 14).length = 14 + List.length p := by rw [List.length_append, renTR14, renP_len]
  refine ⟨[TR, p], l, _, rfl, upd_same, ⟨vt, [v], rfl, hvt.fr f3, All2.one (hv1.fr f3)⟩, fun x hx => ?_, by rw [ej, el]; omega, (by show 2 ≤ 98; decide), fun H3 t fn m f4 et hf hm => ?_⟩
  · rcases List.mem_cons.mp hx with rfl | hx
    · exact gT
    · rw [List.mem_singleton.mp hx]; exact g
  rw [ej] at hf
  rw [em] at hm
  have hm' : H3 m = some (.lst [.str (fN 0), .str (fN 14)]) := hm
  have fz := (f1.trans f3).trans f4
  refine ⟨t, _, rfl, .of et, rfl, _, _, rfl, _, _, rfl, rfl, ?_⟩
  refine ⟨_, rfl, k, rfl, by omega, fun b H5 f6 eb => ?_⟩
  refine ⟨_, rfl, m, _, _, _, rfl, rfl, .of (f6.keep m _ (by simp) hm'), rfl, _, rfl, m, _, _, _, rfl, rfl, .of (f6.keep m _ (by simp) hm'), rfl, (by show 2 ≤ sizeLine; decide), fun T1 hT1 => ?_⟩
  have k1 : Fr [] H5 (upd H5 T1 (.tup [.str (fN 0), .str "s"])) := Fr.new hT1 _
  have eT1 : upd H5 T1 (.tup [.str (fN 0), .str "s"]) T1 = some (.tup [.str (fN 0), .str "s"]) := upd_same
  have eb1 := eb.fr k1
  generalize upd H5 T1 (.tup [.str (fN 0), .str "s"]) = H6 at *
  refine ⟨(by show 2 ≤ sizeLine; decide), fun T2 hT2 => ?_⟩
  have k2 : Fr [] H6 (upd H6 T2 (.tup [.str (fN 14), .ref T1])) := Fr.new hT2 _
  have eT2 : upd H6 T2 (.tup [.str (fN 14), .ref T1]) T2 = some (.tup [.str (fN 14), .ref T1]) := upd_same
  have eb2 := eb1.fr k2
  have eT1' := k2.tup _ _ eT1
  generalize upd H6 T2 (.tup [.str (fN 14), .ref T1]) = H7 at *
  refine ⟨_, rfl, T2, b, _, _, rfl, rfl, .of eT2, eb2.tup, Nat.le_of_lt (smallB (by simp only [List.length_cons, List.length_nil, List.length_map, xs, List.length_range]; omega)), fun c H8 k3 t3 => ?_⟩
  have eb3 := eb2.fr k3
  have k13 := ((f6.trans k1).trans k2).trans k3
  refine ⟨_, rfl, (by show 1 ≤ sizeLine; decide), fun T oT hT dT => ?_⟩
  have k4 : Fr [] H8 (upd H8 T (.frz oT (.tup [.str "s"]))) := Fr.new hT _
  have eT : StrAt K (upd H8 T (.frz oT (.tup [.str "s"]))) T ["s"] := .new (ps := ["s"]) dT
  have eb4 := eb3.fr k4
  have t34 := t3.fr k4
  have eT14 := k4.tup _ _ (k3.tup _ _ eT1')
  have k14 := k13.trans k4
  generalize upd H8 T (.frz oT (.tup [.str "s"])) = H9 at *
  have cat : ∀ R : VK, (∀ c H7, Fr [] H9 H7 → StrAt K H7 c ("s" :: xs k) → R (.ref c) H7) → rCatF K (.ref T) (.ref b) H9 R := fun R hR => by
    refine ⟨T, b, _, _, rfl, rfl, eT.tup, eb4.tup, by simp, Nat.le_of_lt (smallB (by simp only [List.length_cons, List.length_nil, List.length_map, xs, List.length_range]; omega)), fun z => ?_, fun z p o hp d => ?_⟩
    · refine hR T H9 (Fr.refl _ _) ?_
      rw [List.map_eq_nil_iff] at z
      rw [z]
      exact eT
    · exact hR p _ (Fr.new hp _) (.new (ps := "s" :: xs k) d)
  refine ⟨_, rfl, cat _ fun c2 H10 k5 t8 => ?_⟩
  have k15 := k14.trans k5
  refine ⟨_, rfl, renP TR 0 ++ renP p 14, "s" :: xs k, .app (.fn (fN 14)) (.app (.fn (fN 0)) [.var "s"] :: (xs k).map .var), _, _, _, rfl, hf.fr k15, t8, ?_, by rw [el]; omega, fun H11 y f11 hy => ?_⟩
  · simp only [Ex.val, Ex.vals, vals_vars]
    exact isV_l (t34.fr k5) (IsVs.cons rfl (IsVs.cons (isV_l (.of (k5.tup _ _ eT14)) (IsVs.cons rfl (IsVs.one rfl))) isV_ws))
  refine ⟨hand p k, ⟨fN (renP TR 0 ++ renP p 14).length, "s" :: xs k, _⟩, k, y, rfl, hy, gh, rfl, ?_, hk, ?_, g2, fun H12 y12 f12 h12 => ?_⟩
  · simp only [List.length_cons, xs, List.length_map, List.length_range]
  · simp only [hand, withMain, List.length_cons, el]; omega
  · exact q _ _ (((fz.trans k15).trans f11).trans f12) h12
def spKOM (K : PySem.W.Frag) : Sp := fun vs H Q _ => ∃ (p : Prog) (f : Fn) (k : Nat) (v : V), vs = [v] ∧ IsP K H p v ∧ RenOk p ∧ RenOk TR ∧ p.head? = some f ∧ f.ps.length = k + 1 ∧ k ≤ 8 ∧ p.length ≤ 10 ∧ RenOk (hand p k) ∧ Good (knowsOwn (hand p k) k) ∧ Good (knowing p k) ∧ (∀ f ∈ knowing p k, f.body.ok f.ps ∧ f.body.nodes ≤ 99000) ∧
  (toM (knowing p k)).length ≤ 100000 ∧ ∀ H' y, Fr [] H H' → IsV K H' (Mac.val (toM (knowing p k))) y → Q y H'
theorem sc_know_own_machine : FnScope ["program"] ["program"] (defScope s_know_own_machine) := ⟨rfl, rfl, rfl, by decide +kernel, rfl, by decide +kernel, by decide +kernel⟩
theorem ok_kom (F : Fg K mg "know_own_machine" s_know_own_machine) (B : Bn mg) (D_check_program : Df P w K mg base "check_program" ["value"] 4 (spCheck K)) (D_inputs_of : Df P w K mg base "inputs_of" ["program"] 5 (spInputs K)) (D_to_machine : Df P w K mg base "to_machine" ["program"] 5 (spToM K))
    (D_knowing_machine : Df P w K mg base "knowing_machine" ["program"] 8 (spKnowing K)) (gMI : GInt mg "MOST_INPUTS" 8) : Df P w K mg base "know_own_machine" ["program"] 9 (spKOM K) := by
  refine Df.of F sc_know_own_machine (fun _ _ _ _ _ _ us hl => match us, hl with | [_], _ => rfl) (fun vs H Q E h => ?_) (fun f cdv A outer s H vs Q E hr h => ?_)
  · obtain ⟨_, _, _, _, rfl, _⟩ := h
    rfl
  obtain ⟨p, f0, k, v, rfl, hv, g, gT, hh, hp, hk, hz, gh, g2, g3, g4, g5, q⟩ := h
  have hu := hu_of hr
  have nd := sc_know_own_machine.nd
  refine ⟨_, (pss_cons (ps_expr (pe_cf D_check_program (hr.mono (by decide)) (pa_cons (pv 0) pa_nil)))
    (pss_cons (ps_if (pt_not (pt_chain op_le op_le pe_int (pe_cf D_inputs_of (hr.mono (by decide)) (pa_cons (pv 0) pa_nil)) (pe_op op_add (pe_gint gMI) pe_int)))
      (pss_one ps_never)
      pss_nil)
    (pss_one (ps_ret (pe_cf D_to_machine (hr.mono (by decide)) (pa_cons (pe_cf D_knowing_machine (hr.mono (by decide)) (pa_cons (pv 0) pa_nil)) pa_nil)))))), ?_⟩
  refine ⟨_, rfl, p, _, rfl, hv.v, g.good, fun H1 f1 => ?_⟩
  refine ⟨_, rfl, p, f0, _, rfl, (hv.fr f1).v, g.good, hh, fun H2 f2 => ?_⟩
  rw [hp]
  refine ⟨1, ((k + 1 : Nat) : Int), rfl, rfl, _, rfl, ?_⟩
  rw [decide_eq_true (by omega)]
  refine iteT ?_
  refine ⟨8, 1, rfl, rfl, ((k + 1 : Nat) : Int), 9, rfl, rfl, _, rfl, ?_⟩
  rw [decide_eq_true (by omega)]
  refine iteF ?_
  refine ⟨_, rfl, p, f0, k, _, rfl, (hv.fr f1).fr f2, g, gT, hh, hp, hk, hz, gh, g2, fun H3 y f3 hy => ?_⟩
  exact ⟨knowing p k, y, rfl, hy, g3, g4, g5, fun H4 z f4 hz => q _ _ (((f1.trans f2).trans f3).trans f4) hz⟩
end
end Og

set_option Elab.async false
set_option linter.all false
set_option maxRecDepth 100000
set_option maxHeartbeats 4000000
/-! Og5: the store: values kept once each, under numbers. -/
namespace Og
open PySem PySem.Spec PyProof.Rows L2
/-- where a store stands -/
structure SA where
  s : Addr
  dx : Addr
  le : Addr
  dn : Addr
  ls : Addr
  ld : Addr
def SA.own (A : SA) : List Addr := [A.le, A.dn, A.ls, A.ld]
def SA.fs (A : SA) : List (Str × V) := [("entries", .ref A.le), ("numbers", .ref A.dn), ("sizes", .ref A.ls), ("depths", .ref A.ld)]
def EntOk (H : Hp) (T : List Val) : Val → V → Prop
  | .w s, v => v = .str s
  | .l [], v => ∃ a, v = .ref a ∧ H a = some (.tup [])
  | .l (x :: xs), v => ∃ b i j, v = .ref b ∧ H b = some (.tup [.int (i : Nat), .int (j : Nat)]) ∧ T[i]? = some x ∧ T[j]? = some (.l xs)
def KeyOf (T : List Val) : MK → Val → Prop
  | .inl s, x => x = .w s
  | .inr p, x => ∃ (i j : Nat) (y : Val) (ys : List Val), p = ((i : Int), (j : Int)) ∧ T[i]? = some y ∧ T[j]? = some (.l ys) ∧ x = .l (y :: ys)
structure NumOk (T : List Val) (kvs : List (MA × V)) : Prop where
  len : kvs.length + 1 = T.length
  val : ∀ m a v, kvs[m]? = some (a, v) → v = .int ((m + 1 : Nat) : Int) ∧ ∃ x, T[m + 1]? = some x ∧ KeyOf T a.key x
structure StOk (P : Program) (w : World) (C : Addr) (H : Hp) (A : SA) (T : List Val) : Prop where
  obj : H A.s = some (.ins C A.dx A.fs)
  ent : ∃ es : List V, H A.le = some (.lst es) ∧ es.length = T.length ∧ ∀ (n : Nat) (x : Val), T[n]? = some x → ∃ v, es[n]? = some v ∧ EntOk H T x v
  num : ∃ kvs, NumD P w H A.dn kvs ∧ NumOk T kvs
  siz : H A.ls = some (.lst (T.map fun x => .int ((min x.size 200001 : Nat) : Int)))
  dep : H A.ld = some (.lst (T.map fun x => .int ((min x.depth 201 : Nat) : Int)))
  nd : T.Nodup
  zero : T[0]? = some (.l [])
  dis : (A.s :: A.own).Nodup
theorem EntOk.mono {S : List Addr} {H H' : Hp} {T r : List Val} (f : Fr S H H') : ∀ {x : Val} {v : V}, EntOk H T x v → EntOk H' (T ++ r) x v
  | .w s, v, h => h
  | .l [], v, ⟨a, e, h⟩ => ⟨a, e, f.tup _ _ h⟩
  | .l (x :: xs), v, ⟨b, i, j, e, h, h1, h2⟩ => ⟨b, i, j, e, f.tup _ _ h, by rw [List.getElem?_append_left (List.getElem?_eq_some_iff.mp h1).1]; exact h1, by rw [List.getElem?_append_left (List.getElem?_eq_some_iff.mp h2).1]; exact h2⟩
theorem get_app {α : Type} {T r : List α} {n : Nat} {x : α} (h : T[n]? = some x) : (T ++ r)[n]? = some x := by
  rw [List.getElem?_append_left (List.getElem?_eq_some_iff.mp h).1]; exact h
theorem KeyOf.mono {T r : List Val} : ∀ {k : MK} {x : Val}, KeyOf T k x → KeyOf (T ++ r) k x
  | .inl s, x, h => h
  | .inr p, x, ⟨i, j, y, ys, e, h1, h2, h3⟩ => ⟨i, j, y, ys, e, get_app h1, get_app h2, h3⟩
theorem nodup_at {α : Type} {T : List α} (h : T.Nodup) {i j : Nat} {x : α} (hi : T[i]? = some x) (hj : T[j]? = some x) : i = j := by
  obtain ⟨li, ei⟩ := List.getElem?_eq_some_iff.mp hi
  obtain ⟨lj, ej⟩ := List.getElem?_eq_some_iff.mp hj
  rcases Nat.lt_trichotomy i j with l | l | l
  · exact absurd (ei.trans ej.symm) (List.pairwise_iff_getElem.mp h i j li lj l)
  · exact l
  · exact absurd (ej.trans ei.symm) (List.pairwise_iff_getElem.mp h j i lj li l)
theorem KeyOf.inj {T : List Val} (nd : T.Nodup) : ∀ {k k' : MK} {x : Val}, KeyOf T k x → KeyOf T k' x → k = k'
  | .inl s, .inl s', x, h, h' => by
    have : Val.w s = .w s' := by rw [← show x = .w s from h, ← show x = .w s' from h']
    cases this
    rfl
  | .inl s, .inr p, x, h, ⟨_, _, _, _, _, _, _, h'⟩ => by rw [show x = .w s from h] at h'; cases h'
  | .inr p, .inl s, x, ⟨_, _, _, _, _, _, _, h'⟩, h => by rw [show x = .w s from h] at h'; cases h'
  | .inr p, .inr p', x, ⟨i, j, y, ys, e, h1, h2, h3⟩, ⟨i', j', y', ys', e', h1', h2', h3'⟩ => by
    rw [h3] at h3'
    cases h3'
    rw [e, e', nodup_at nd h1 h1', nodup_at nd h2 h2']
theorem KeyOf.fun {T : List Val} : ∀ {k : MK} {x x' : Val}, KeyOf T k x → KeyOf T k x' → x = x'
  | .inl s, x, x', h, h' => by rw [show x = .w s from h, show x' = .w s from h']
  | .inr p, x, x', ⟨i, j, y, ys, e, h1, h2, h3⟩, ⟨i', j', y', ys', e', h1', h2', h3'⟩ => by
    rw [e] at e'
    obtain ⟨a, b⟩ := Prod.mk.inj e'
    have a' : i = i' := Int.ofNat.inj a
    have b' : j = j' := Int.ofNat.inj b
    subst a' b'
    rw [h1] at h1'
    rw [h2] at h2'
    cases h1'
    cases h2'
    rw [h3, h3']
theorem KeyOf.ne {T : List Val} : ∀ {k : MK} {x : Val}, KeyOf T k x → x ≠ .l []
  | .inl s, x, h => by rw [show x = .w s from h]; exact fun z => by cases z
  | .inr p, x, ⟨_, _, _, _, _, _, _, h3⟩ => by rw [h3]; exact fun z => by cases z
theorem num_in {T : List Val} {kvs : List (MA × V)} {k : MK} {x : Val} {n : Nat} (nd : T.Nodup) (z : T[0]? = some (.l [])) (h : NumOk T kvs) (hk : KeyOf T k x) (hn : T[n]? = some x) : valM kvs k = some (.int (n : Int)) := by
  have n0 : n ≠ 0 := fun e => by
    rw [e, z] at hn
    exact hk.ne (Option.some.inj hn).symm
  obtain ⟨m, rfl⟩ : ∃ m, n = m + 1 := ⟨n - 1, by omega⟩
  have hm : m < kvs.length := by have := (List.getElem?_eq_some_iff.mp hn).1; have := h.len; omega
  obtain ⟨e1, x', hx', hk'⟩ := h.val m kvs[m].1 kvs[m].2 (List.getElem?_eq_getElem hm)
  rw [hn] at hx'
  cases hx'
  unfold valM
  cases hf : kvs.find? fun p => decide (p.1.key = k) with
  | none =>
    have := List.find?_eq_none.mp hf kvs[m] (List.getElem_mem hm)
    rw [hk'.inj nd hk] at this
    simp at this
  | some q =>
    have hq := List.find?_some hf
    have hkq : q.1.key = k := of_decide_eq_true hq
    obtain ⟨m', hm'⟩ := List.getElem?_of_mem (List.mem_of_find?_eq_some hf)
    obtain ⟨e2, x2, hx2, hk2⟩ := h.val m' q.1 q.2 hm'
    rw [hkq] at hk2
    have : x2 = x := hk2.fun hk
    subst this
    have e3 := nodup_at nd hx2 hn
    show some q.2 = _
    rw [e2, e3]
theorem num_out {T : List Val} {kvs : List (MA × V)} {k : MK} {x : Val} (h : NumOk T kvs) (hk : KeyOf T k x) (hn : x ∉ T) : k ∉ kvs.map (·.1.key) := by
  intro hm
  obtain ⟨q, hq, e⟩ := List.mem_map.mp hm
  obtain ⟨m, hm'⟩ := List.getElem?_of_mem hq
  obtain ⟨_, x2, hx2, hk2⟩ := h.val m q.1 q.2 hm'
  have e' : q.1.key = k := e
  rw [e'] at hk2
  have : x2 = x := hk2.fun hk
  subst this
  exact hn (List.mem_of_getElem? hx2)
theorem valM_last {kvs : List (MA × V)} {a : MA} {v : V} (h : a.key ∉ kvs.map (·.1.key)) : valM (kvs ++ [(a, v)]) a.key = some v := by
  unfold valM
  rw [List.find?_append, List.find?_eq_none.mpr fun x hx e => h (List.mem_map.mpr ⟨x, hx, of_decide_eq_true e⟩)]
  simp
theorem NumOk.add {T : List Val} {kvs : List (MA × V)} {a : MA} {x : Val} (h : NumOk T kvs) (hk : KeyOf T a.key x) : NumOk (T ++ [x]) (kvs ++ [(a, .int ((T.length : Nat) : Int))]) := by
  refine ⟨by simp only [List.length_append, List.length_singleton]; have := h.len; omega, fun m b v hm => ?_⟩
  have hl := h.len
  by_cases lt : m < kvs.length
  · rw [List.getElem?_append_left lt] at hm
    obtain ⟨e, y, hy, hky⟩ := h.val m b v hm
    exact ⟨e, y, get_app hy, hky.mono⟩
  · have hm2 : m = kvs.length := by
      have := (List.getElem?_eq_some_iff.mp hm).1
      rw [List.length_append, List.length_singleton] at this
      omega
    subst hm2
    rw [List.getElem?_append_right (Nat.le_refl _), Nat.sub_self] at hm
    simp only [List.getElem?_cons_zero, Option.some.injEq, Prod.mk.injEq] at hm
    obtain ⟨rfl, rfl⟩ := hm
    refine ⟨by rw [hl], x, ?_, hk.mono⟩
    rw [hl, List.getElem?_append_right (Nat.le_refl _), Nat.sub_self]
    rfl
theorem NumD.fr {S : List Addr} {P : Program} {w : World} {H H' : Hp} {d : Addr} {kvs : List (MA × V)} (f : Fr S H H') (n : d ∉ S) (h : NumD P w H d kvs) : NumD P w H' d kvs := ⟨f.keep _ _ n h.at_, fun b i j v hm => f.tup _ _ (h.two b i j v hm)⟩
theorem StOk.fr {P : Program} {w : World} {C : Addr} {S : List Addr} {H H' : Hp} {A : SA} {T : List Val} (f : Fr S H H') (d : ∀ a ∈ A.s :: A.own, a ∉ S) (h : StOk P w C H A T) : StOk P w C H' A T := by
  obtain ⟨es, h1, h2, h3⟩ := h.ent
  obtain ⟨kvs, k1, k2⟩ := h.num
  refine ⟨f.keep _ _ (d _ (by simp)) h.obj, ⟨es, f.keep _ _ (d _ (by simp [SA.own])) h1, h2, fun n x hx => ?_⟩, ⟨kvs, NumD.fr f (d _ (by simp [SA.own])) k1, k2⟩, f.keep _ _ (d _ (by simp [SA.own])) h.siz, f.keep _ _ (d _ (by simp [SA.own])) h.dep, h.nd, h.zero, h.dis⟩
  obtain ⟨v, hv, e⟩ := h3 n x hx
  have := EntOk.mono (r := []) f e
  rw [List.append_nil] at this
  exact ⟨v, hv, this⟩
/-! ### isinstance(entry, str) -/
section
variable {X : Cx} {e : Expr} {te : TE} {p p2 pos : Pos}
def rIsE (K : PySem.W.Frag) : List V → Hp → VK → Prop := fun vs H Q => (∃ s, vs = [.str s, .ty "str"] ∧ Q (.bl true) H) ∨ ∃ a xs, vs = [.ref a, .ty "str"] ∧ TupAt K H a xs ∧ Q (.bl false) H
theorem call_isE : CallR X (.builtin "isinstance") (rIsE X.K) := by
  rintro pins s σ H xs us Q I r (⟨x, e, q⟩ | ⟨a, ys, e, t, q⟩)
  · exact call_isi pins s σ H xs us Q I r (by rw [e]; exact isiS (x := .w x) rfl q)
  · refine call_isi pins s σ H xs us Q I r ?_
    rw [e]
    exact ⟨_, _, _, _, false, rfl, .ty _, t.ty, k_ts, q⟩
theorem pe_isS3 (B : Bn X.mg) (he : PE X e te) (hg : Gl X "isinstance" := by rfl) (hg2 : Gl X "str" := by rfl) (h1 : starEach [e, .Name "str" p2] X.env = (false, eval e X.env) :: starEach [.Name "str" p2] X.env := by rfl) :
    PE X (.Call (.Name "isinstance" p) [e, .Name "str" p2] [] pos) (tCB (rIsE X.K) (tCons te (tCons (tC (.ty "str")) tNil))) :=
  pe_callB call_isE hg B.isinstance bIsi (pa_cons he (pa_cons (pe_bltn (v := .ty "str") hg2 B.str bStr rfl) pa_nil) h1) (he := h1)
end
theorem pe_mnewP {X : Cx} {P : Program} {w : World} {pos : Pos} (hP : X.prog = P := by rfl) (hw : X.w = w := by rfl) : PE X (.Dict [] [] pos) (tMNew P w) := by
  subst hP hw
  exact pe_mnew
/-- the class Store -/
structure ClsS (K : PySem.W.Frag) (C : Addr) : Prop where
  cls : Cls K C
  nE : NoAttr K C "entries"
  nN : NoAttr K C "numbers"
  nS : NoAttr K C "sizes"
  nD : NoAttr K C "depths"
section
variable {P : Program} {w : World} {K : PySem.W.Frag} {mg : MG} {base : Heap} {C : Addr}
/-! ### __init__ -/
def spSInit (P : Program) (w : World) (C : Addr) : Sp := fun vs H Q _ => ∃ s dx, vs = [.ref s] ∧ H s = some (.ins C dx []) ∧ ∀ (H' : Hp) (A : SA), A.s = s → A.dx = dx → Fr [s] H H' → (∀ a ∈ A.own, H a = none) → StOk P w C H' A [.l []] → Q .non H'
theorem sc_Store_init : FnScope ["self"] ["self"] (defScope s_Store_init) := ⟨rfl, rfl, rfl, by decide +kernel, rfl, by decide +kernel, by decide +kernel⟩
theorem ok_SInit (F : Fk K mg "Store" C "Store.__init__" s_Store_init) (cS : ClsS K C) : Dk P w K mg base "Store" C ["self"] 1 (spSInit P w C) := by
  refine Dk.of F sc_Store_init (fun _ _ _ _ _ _ us hl => match us, hl with | [_], _ => rfl) (fun vs H Q E h => ?_) (fun f cdv A outer s H vs Q E hr h => ?_)
  · obtain ⟨_, _, rfl, _⟩ := h
    rfl
  obtain ⟨so, dx, rfl, hs, q⟩ := h
  have hu := hu_of hr
  have nd := sc_Store_init.nd
  refine ⟨_, (pss_cons (ps_fld (pv 0) (pe_lst (pa_cons (pe_tup pa_nil) pa_nil)) rfl)
    (pss_cons (ps_fld (pv 0) (pe_mnewP (P := P) (w := w)) rfl)
    (pss_cons (ps_fld (pv 0) (pe_lst (pa_cons pe_int pa_nil)) rfl)
    (pss_one (ps_fld (pv 0) (pe_lst (pa_cons pe_int pa_nil)) rfl))))), ?_⟩
  refine ⟨(by show 0 ≤ sizeLine; decide), fun T hT => ?_⟩
  have f1 : Fr [so] H (upd H T (.tup [])) := Fr.new hT _
  have nT : T ≠ so := fun z => by rw [z, hs] at hT; cases hT
  refine ⟨(by show 1 ≤ sizeLine; decide), fun le hle => ?_⟩
  have leT : le ≠ T := fun z => by rw [z, upd_same] at hle; cases hle
  have les : le ≠ so := fun z => by rw [z, upd_ne (Ne.symm nT), hs] at hle; cases hle
  have hle0 : H le = none := by rw [upd_ne leT] at hle; exact hle
  have f2 : Fr [so] H (upd (upd H T (.tup [])) le (.lst [.ref T])) := f1.trans (Fr.new hle _)
  have e1 : upd (upd H T (.tup [])) le (.lst [.ref T]) so = some (.ins C dx []) := by rw [upd_ne (Ne.symm les), upd_ne (Ne.symm nT)]; exact hs
  have e2 : upd (upd H T (.tup [])) le (.lst [.ref T]) le = some (.lst [.ref T]) := upd_same
  have e3 : upd (upd H T (.tup [])) le (.lst [.ref T]) T = some (.tup []) := by rw [upd_ne (Ne.symm leT)]; exact upd_same
  generalize upd (upd H T (.tup [])) le (.lst [.ref T]) = H2 at *
  refine ⟨_, rfl, so, C, dx, _, rfl, e1, cS.cls, cS.nE, by decide, ?_⟩
  have f3 : Fr [so] H2 (upd H2 so (.ins C dx (putF "entries" (.ref le) []))) := Fr.set (List.mem_singleton.mpr rfl) e1 (fun _ z => by cases z) _
  have e4 : upd H2 so (.ins C dx (putF "entries" (.ref le) [])) so = some (.ins C dx [("entries", .ref le)]) := upd_same
  have e5 := f3.keep le _ (by simp [les]) e2
  have e6 := f3.tup _ _ e3
  have f4 := f2.trans f3
  generalize upd H2 so (.ins C dx (putF "entries" (.ref le) [])) = H3 at *
  refine fun dn hdn => ?_
  have dns : dn ≠ so := fun z => by rw [z, e4] at hdn; cases hdn
  have dnl : dn ≠ le := fun z => by rw [z, e5] at hdn; cases hdn
  have hdn0 : H dn = none := f4.free (by simp [dns]) hdn
  have f5 : Fr [so] H3 (upd H3 dn (MO P w dn [])) := Fr.new hdn _
  have e7 : upd H3 dn (MO P w dn []) dn = some (MO P w dn []) := upd_same
  have e8 := f5.tup _ _ e6
  have e9 := f5.keep le _ (by simp [les]) e5
  have e10 : upd H3 dn (MO P w dn []) so = some (.ins C dx [("entries", .ref le)]) := by rw [upd_ne (Ne.symm dns)]; exact e4
  have f6 := f4.trans f5
  clear f3 f4 f5 e4 e5 e6
  refine ⟨_, rfl, so, C, dx, _, rfl, e10, cS.cls, cS.nN, (by show 1 < 1000; decide), ?_⟩
  generalize upd H3 dn (MO P w dn []) = H4 at *
  have f7 : Fr [so] H4 (upd H4 so (.ins C dx (putF "numbers" (.ref dn) [("entries", .ref le)]))) := Fr.set (List.mem_singleton.mpr rfl) e10 (fun _ z => by cases z) _
  have e11 : upd H4 so (.ins C dx (putF "numbers" (.ref dn) [("entries", .ref le)])) so = some (.ins C dx [("entries", .ref le), ("numbers", .ref dn)]) := upd_same
  have e12 := f7.keep le _ (by simp [les]) e9
  have e13 := f7.keep dn _ (by simp [dns]) e7
  have e14 := f7.tup _ _ e8
  have f8 := f6.trans f7
  generalize upd H4 so (.ins C dx (putF "numbers" (.ref dn) [("entries", .ref le)])) = H5 at *
  refine ⟨(by show 1 ≤ sizeLine; decide), fun ls hls => ?_⟩
  have lss : ls ≠ so := fun z => by rw [z, e11] at hls; cases hls
  have lsl : ls ≠ le := fun z => by rw [z, e12] at hls; cases hls
  have lsd : ls ≠ dn := fun z => by rw [z, e13] at hls; cases hls
  have hls0 : H ls = none := f8.free (by simp [lss]) hls
  have f9 : Fr [so] H5 (upd H5 ls (.lst [.int 1])) := Fr.new hls _
  have e15 : upd H5 ls (.lst [.int 1]) ls = some (.lst [.int 1]) := upd_same
  have e16 := f9.keep le _ (by simp [les]) e12
  have e17 := f9.keep dn _ (by simp [dns]) e13
  have e18 := f9.tup _ _ e14
  have e19 : upd H5 ls (.lst [.int 1]) so = some (.ins C dx [("entries", .ref le), ("numbers", .ref dn)]) := by rw [upd_ne (Ne.symm lss)]; exact e11
  have f10 := f8.trans f9
  clear f9
  generalize upd H5 ls (.lst [.int 1]) = H6 at *
  refine ⟨_, rfl, so, C, dx, _, rfl, e19, cS.cls, cS.nS, (by show 2 < 1000; decide), ?_⟩
  have f11 : Fr [so] H6 (upd H6 so (.ins C dx (putF "sizes" (.ref ls) [("entries", .ref le), ("numbers", .ref dn)]))) := Fr.set (List.mem_singleton.mpr rfl) e19 (fun _ z => by cases z) _
  have e20 : upd H6 so (.ins C dx (putF "sizes" (.ref ls) [("entries", .ref le), ("numbers", .ref dn)])) so = some (.ins C dx [("entries", .ref le), ("numbers", .ref dn), ("sizes", .ref ls)]) := upd_same
  have e21 := f11.keep le _ (by simp [les]) e16
  have e22 := f11.keep dn _ (by simp [dns]) e17
  have e23 := f11.keep ls _ (by simp [lss]) e15
  have e24 := f11.tup _ _ e18
  have f12 := f10.trans f11
  generalize upd H6 so (.ins C dx (putF "sizes" (.ref ls) [("entries", .ref le), ("numbers", .ref dn)])) = H7 at *
  refine ⟨(by show 1 ≤ sizeLine; decide), fun ld hld => ?_⟩
  have lds : ld ≠ so := fun z => by rw [z, e20] at hld; cases hld
  have ldl : ld ≠ le := fun z => by rw [z, e21] at hld; cases hld
  have ldd : ld ≠ dn := fun z => by rw [z, e22] at hld; cases hld
  have ldz : ld ≠ ls := fun z => by rw [z, e23] at hld; cases hld
  have hld0 : H ld = none := f12.free (by simp [lds]) hld
  have f13 : Fr [so] H7 (upd H7 ld (.lst [.int 1])) := Fr.new hld _
  have e25 : upd H7 ld (.lst [.int 1]) ld = some (.lst [.int 1]) := upd_same
  have e26 := f13.keep le _ (by simp [les]) e21
  have e27 := f13.keep dn _ (by simp [dns]) e22
  have e28 := f13.keep ls _ (by simp [lss]) e23
  have e29 := f13.tup _ _ e24
  have e30 : upd H7 ld (.lst [.int 1]) so = some (.ins C dx [("entries", .ref le), ("numbers", .ref dn), ("sizes", .ref ls)]) := by rw [upd_ne (Ne.symm lds)]; exact e20
  have f14 := f12.trans f13
  clear f13
  generalize upd H7 ld (.lst [.int 1]) = H8 at *
  refine ⟨_, rfl, so, C, dx, _, rfl, e30, cS.cls, cS.nD, (by show 3 < 1000; decide), ?_⟩
  have f15 : Fr [so] H8 (upd H8 so (.ins C dx (putF "depths" (.ref ld) [("entries", .ref le), ("numbers", .ref dn), ("sizes", .ref ls)]))) := Fr.set (List.mem_singleton.mpr rfl) e30 (fun _ z => by cases z) _
  refine q _ ⟨so, dx, le, dn, ls, ld⟩ rfl rfl (f14.trans f15) (fun a ha => ?_) ?_
  · simp only [SA.own, List.mem_cons, List.not_mem_nil, or_false] at ha
    rcases ha with rfl | rfl | rfl | rfl
    · exact hle0
    · exact hdn0
    · exact hls0
    · exact hld0
  · refine ⟨upd_same, ⟨[.ref T], f15.keep le _ (by simp [les]) e26, rfl, fun n x hx => ?_⟩, ⟨[], ⟨f15.keep dn _ (by simp [dns]) e27, fun b i j v h => by simp at h⟩, rfl, fun m a v h => by simp at h⟩, f15.keep ls _ (by simp [lss]) e28, f15.keep ld _ (by simp [lds]) e25, by simp, rfl, ?_⟩
    · cases n with
      | zero =>
        simp at hx
        subst hx
        exact ⟨_, rfl, T, rfl, f15.tup _ _ e29⟩
      | succ n => simp at hx
    · simp only [SA.own, List.nodup_cons, List.mem_cons, List.not_mem_nil, or_false, not_or, not_false_eq_true, List.nodup_nil, and_true]
      exact ⟨⟨Ne.symm les, Ne.symm dns, Ne.symm lss, Ne.symm lds⟩, ⟨Ne.symm dnl, Ne.symm lsl, Ne.symm ldl⟩, ⟨Ne.symm lsd, Ne.symm ldd⟩, Ne.symm ldz⟩
end
end Og

set_option Elab.async false
set_option linter.all false
set_option maxRecDepth 100000
set_option maxHeartbeats 4000000
/-! Og5b: number_of, is_word, first, rest, pair_up. -/
namespace Og
open PySem PySem.Spec PyProof.Rows L2
theorem ps_mputP {X : Cx} {P : Program} {w : World} {i o value : Expr} {ty td tv : TE} {pos pos' : Pos} (hu : X.A.units + 1 < cLine) (ho : PE X o td) (hi : PE X i ty) (hv : PE X value tv) (hs : swapsWith value (some (.Subscript o i pos')) pos.line X.env = pure false) (hP : X.prog = P := by rfl) (hw : X.w = w := by rfl) :
    PS X (.Assign [.Subscript o i pos'] value pos) (sMPut P w td ty tv) := by
  subst hP hw
  exact ps_mput hu ho hi hv hs
theorem SA.ne {A : SA} (h : (A.s :: A.own).Nodup) : A.s ≠ A.le ∧ A.s ≠ A.dn ∧ A.s ≠ A.ls ∧ A.s ≠ A.ld ∧ A.le ≠ A.dn ∧ A.le ≠ A.ls ∧ A.le ≠ A.ld ∧ A.dn ≠ A.ls ∧ A.dn ≠ A.ld ∧ A.ls ≠ A.ld := by
  simp only [SA.own, List.nodup_cons, List.mem_cons, List.not_mem_nil, or_false, not_or, not_false_eq_true, List.nodup_nil, and_true] at h
  obtain ⟨⟨a, b, c, d⟩, ⟨e, f, g⟩, ⟨i, j⟩, k⟩ := h
  exact ⟨a, b, c, d, e, f, g, i, j, k⟩
theorem min_cap (a b c : Nat) : (if ((c : Nat) : Int) < ((min a c : Nat) : Int) + ((min b c : Nat) : Int) then ((c : Nat) : Int) else ((min a c : Nat) : Int) + ((min b c : Nat) : Int)) = ((min (a + b) c : Nat) : Int) := by
  split <;> omega
theorem max_cap (a b c : Nat) : (if ((c : Nat) : Int) < (if ((min b c : Nat) : Int) > ((min a c : Nat) : Int) + 1 then ((min b c : Nat) : Int) else ((min a c : Nat) : Int) + 1) then ((c : Nat) : Int) else (if ((min b c : Nat) : Int) > ((min a c : Nat) : Int) + 1 then ((min b c : Nat) : Int) else ((min a c : Nat) : Int) + 1)) = ((min (max (a + 1) b) c : Nat) : Int) := by
  split <;> split <;> omega
section
variable {P : Program} {w : World} {K : PySem.W.Frag} {mg : MG} {base : Heap} {C : Addr}
/-! ### is_word -/
def spSWord (P : Program) (w : World) (C : Addr) : Sp := fun vs H Q _ => ∃ (A : SA) (T : List Val) (n : Nat) (x : Val), vs = [.ref A.s, .int (n : Int)] ∧ StOk P w C H A T ∧ T[n]? = some x ∧ Q (.bl (isW x)) H
theorem sc_Store_is_word : FnScope ["self", "number"] ["self", "number"] (defScope s_Store_is_word) := ⟨rfl, rfl, rfl, by decide +kernel, rfl, by decide +kernel, by decide +kernel⟩
theorem ok_SWord (F : Fm K C "is_word" "Store.is_word" s_Store_is_word) (B : Bn mg) (cS : ClsS K C) : Dm P w K mg base C "is_word" ["self", "number"] 1 (spSWord P w C) := by
  refine Dm.of F sc_Store_is_word (fun _ _ _ _ _ _ us hl => match us, hl with | [_, _], _ => rfl) (fun vs H Q E h => ?_) (fun f cdv A outer s H vs Q E hr h => ?_)
  · obtain ⟨_, _, _, _, rfl, _⟩ := h
    rfl
  obtain ⟨A, T, n, x, rfl, st, hn, q⟩ := h
  have hu := hu_of hr
  have nd := sc_Store_is_word.nd
  refine ⟨_, (pss_one (ps_ret (pe_isS3 B (pe_ix ix_list (pe_fld (pv 0) rfl) (pv 1) (fun _ _ => rfl))))), ?_⟩
  obtain ⟨es, h1, h2, h3⟩ := st.ent
  obtain ⟨v, hv, e⟩ := h3 n x hn
  refine ⟨_, rfl, A.s, C, A.dx, _, _, rfl, st.obj, cS.cls, cS.nE, rfl, _, rfl, A.le, es, _, v, rfl, rfl, .of h1, atI_nat hv, ?_⟩
  match x, e with
  | .w s, e =>
    rw [show v = .str s from e]
    exact .inl ⟨s, rfl, q⟩
  | .l [], ⟨a, e, ha⟩ =>
    rw [e]
    exact .inr ⟨a, [], rfl, .of ha, q⟩
  | .l (y :: ys), ⟨b, i, j, e, hb, _⟩ =>
    rw [e]
    exact .inr ⟨b, _, rfl, .of hb, q⟩
/-! ### number_of -/
def spSNum (P : Program) (w : World) (C : Addr) : Sp := fun vs H Q _ => ∃ (A : SA) (T : List Val) (a : MA) (x : Val), vs = [.ref A.s, a.v] ∧ StOk P w C H A T ∧ KeyAt H a ∧ KeyOf T a.key x ∧ T.length ≤ 9000000 ∧
  ∀ H' r n, Fr A.own H H' → StOk P w C H' A (T ++ r) → r.length ≤ 1 → (T ++ r)[n]? = some x → Q (.int ((n : Nat) : Int)) H'
theorem sc_Store_number_of : FnScope ["self", "entry", "item", "items"] ["self", "entry"] (defScope s_Store_number_of) := ⟨rfl, rfl, rfl, by decide +kernel, rfl, by decide +kernel, by decide +kernel⟩
theorem ok_SNum (F : Fm K C "number_of" "Store.number_of" s_Store_number_of) (B : Bn mg) (cS : ClsS K C) (gMP : GInt mg "MOST_PARTS" 200000) (gMD : GInt mg "MOST_DEPTH" 200) : Dm P w K mg base C "number_of" ["self", "entry"] 1 (spSNum P w C) := by
  refine Dm.of F sc_Store_number_of (fun _ _ _ _ _ _ us hl => match us, hl with | [_, _], _ => rfl) (fun vs H Q E h => ?_) (fun f cdv A outer s H vs Q E hr h => ?_)
  · obtain ⟨_, _, _, _, rfl, _⟩ := h
    rfl
  obtain ⟨A, T, a, x, rfl, st, ka, kx, hz, q⟩ := h
  have hu := hu_of hr
  have nd := sc_Store_number_of.nd
  refine ⟨_, (pss_cons (ps_if (pt_cmp (pc_mnotin hu (pv 1) (pe_fld (pv 0) rfl)))
      (pss_cons (ps_mputP (P := P) (w := w) hu (pe_fld (pv 0) rfl) (pv 1) (pe_callB call_len_seq (by rfl) B.len bLen (pa_cons (pe_fld (pv 0) rfl) pa_nil)) rfl)
      (pss_cons (ps_expr (pe_bm PySem.F.plainAttrs_list PySem.F.slot_list_append PySem.F.type_list_append mt_append (pe_fld (pv 0) rfl) (pa_cons (pv 1) pa_nil)))
      (pss_one (ps_if (pt_val (pe_isS3 B (pv 1)))
        (pss_cons (ps_expr (pe_bm PySem.F.plainAttrs_list PySem.F.slot_list_append PySem.F.type_list_append mt_append (pe_fld (pv 0) rfl) (pa_cons pe_int pa_nil)))
        (pss_one (ps_expr (pe_bm PySem.F.plainAttrs_list PySem.F.slot_list_append PySem.F.type_list_append mt_append (pe_fld (pv 0) rfl) (pa_cons pe_int pa_nil)))))
        (pss_cons (ps_asg (pv 1) (pg_tup rfl (pgs_cons (pg_name (i := 2) nd rfl (.inl rfl)) (pgs_cons (pg_name (i := 3) nd rfl (.inl rfl)) pgs_nil))))
        (pss_cons (ps_expr (pe_bm PySem.F.plainAttrs_list PySem.F.slot_list_append PySem.F.type_list_append mt_append (pe_fld (pv 0) rfl) (pa_cons (pe_callB (call_min2 rfl) (by rfl) B.min bMin (pa_cons (pe_op op_add (pe_ix ix_list (pe_fld (pv 0) rfl) (pv 2) (fun _ _ => rfl)) (pe_ix ix_list (pe_fld (pv 0) rfl) (pv 3) (fun _ _ => rfl))) (pa_cons (pe_op op_add (pe_gint gMP) pe_int) pa_nil))) pa_nil)))
        (pss_one (ps_expr (pe_bm PySem.F.plainAttrs_list PySem.F.slot_list_append PySem.F.type_list_append mt_append (pe_fld (pv 0) rfl) (pa_cons (pe_callB (call_min2 rfl) (by rfl) B.min bMin (pa_cons (pe_callB (call_max2 rfl) (by rfl) B.max bMax (pa_cons (pe_op op_add (pe_ix ix_list (pe_fld (pv 0) rfl) (pv 2) (fun _ _ => rfl)) pe_int) (pa_cons (pe_ix ix_list (pe_fld (pv 0) rfl) (pv 3) (fun _ _ => rfl)) pa_nil))) (pa_cons (pe_op op_add (pe_gint gMD) pe_int) pa_nil))) pa_nil))))))))))
      pss_nil)
    (pss_one (ps_ret (pe_mget hu (pe_fld (pv 0) rfl) (pv 1) (fun _ _ => rfl))))), ?_⟩
  obtain ⟨es, h1, h2, h3⟩ := st.ent
  obtain ⟨kvs, k1, k2⟩ := st.num
  obtain ⟨n1, n2, n3, n4, n5, n6, n7, n8, n9, n10⟩ := SA.ne st.dis
  refine ⟨_, rfl, _, rfl, A.s, C, A.dx, _, _, rfl, st.obj, cS.cls, cS.nN, rfl, A.dn, kvs, a, rfl, k1, ka, rfl, _, rfl, ?_⟩
  by_cases hin : x ∈ T
  · obtain ⟨n, hn⟩ := List.getElem?_of_mem hin
    have hv := num_in st.nd st.zero k2 kx hn
    rw [hv]
    refine iteF ?_
    refine ⟨_, rfl, A.s, C, A.dx, _, _, rfl, st.obj, cS.cls, cS.nN, rfl, _, rfl, A.dn, kvs, a, _, rfl, k1, ka, rfl, hv, ?_⟩
    exact q H [] n (Fr.refl _ _) (by rw [List.append_nil]; exact st) (by decide) (by rw [List.append_nil]; exact hn)
  have hout := num_out k2 kx hin
  rw [valM_none hout]
  refine iteT ?_
  have kl := k2.len
  refine ⟨_, rfl, A.s, C, A.dx, _, _, rfl, st.obj, cS.cls, cS.nE, rfl, A.le, es, rfl, .inl (.of h1), _, rfl, A.s, C, A.dx, _, _, rfl, st.obj, cS.cls, cS.nN, rfl, _, rfl, A.dn, kvs, a, rfl, k1, ka, rfl, hout, smallB (by omega), ?_⟩
  rw [h2]
  have f1 : Fr A.own H (upd H A.dn (MO P w A.dn (kvs ++ [(a, .int (T.length : Nat))]))) := Fr.set (by simp [SA.own]) k1.at_ (by intro _ z; unfold MO at z; cases z) _ (by intro _ _ z; unfold MO at z; cases z)
  have e1 : upd H A.dn (MO P w A.dn (kvs ++ [(a, .int (T.length : Nat))])) A.dn = some (MO P w A.dn (kvs ++ [(a, .int (T.length : Nat))])) := upd_same
  have o1 : upd H A.dn (MO P w A.dn (kvs ++ [(a, .int (T.length : Nat))])) A.s = some (.ins C A.dx A.fs) := by rw [upd_ne n2]; exact st.obj
  have l1 : upd H A.dn (MO P w A.dn (kvs ++ [(a, .int (T.length : Nat))])) A.le = some (.lst es) := by rw [upd_ne n5]; exact h1
  have s1 : upd H A.dn (MO P w A.dn (kvs ++ [(a, .int (T.length : Nat))])) A.ls = some (.lst (T.map fun x => .int ((min x.size 200001 : Nat) : Int))) := by rw [upd_ne (Ne.symm n8)]; exact st.siz
  have d1 : upd H A.dn (MO P w A.dn (kvs ++ [(a, .int (T.length : Nat))])) A.ld = some (.lst (T.map fun x => .int ((min x.depth 201 : Nat) : Int))) := by rw [upd_ne (Ne.symm n9)]; exact st.dep
  generalize upd H A.dn (MO P w A.dn (kvs ++ [(a, .int (T.length : Nat))])) = H1 at *
  refine ⟨_, rfl, A.s, C, A.dx, _, _, rfl, o1, cS.cls, cS.nE, rfl, .inl ⟨rfl, _, .of l1⟩, _, rfl, A.le, es, a.v, rfl, rfl, l1, smallB (by omega), ?_⟩
  have f2 : Fr A.own H1 (upd H1 A.le (.lst (es ++ [a.v]))) := Fr.set (by simp [SA.own]) l1 (fun _ z => by cases z) _
  have e2 : upd H1 A.le (.lst (es ++ [a.v])) A.dn = some (MO P w A.dn (kvs ++ [(a, .int (T.length : Nat))])) := by rw [upd_ne (Ne.symm n5)]; exact e1
  have o2 : upd H1 A.le (.lst (es ++ [a.v])) A.s = some (.ins C A.dx A.fs) := by rw [upd_ne n1]; exact o1
  have l2 : upd H1 A.le (.lst (es ++ [a.v])) A.le = some (.lst (es ++ [a.v])) := upd_same
  have s2 : upd H1 A.le (.lst (es ++ [a.v])) A.ls = some (.lst (T.map fun x => .int ((min x.size 200001 : Nat) : Int))) := by rw [upd_ne (Ne.symm n6)]; exact s1
  have d2 : upd H1 A.le (.lst (es ++ [a.v])) A.ld = some (.lst (T.map fun x => .int ((min x.depth 201 : Nat) : Int))) := by rw [upd_ne (Ne.symm n7)]; exact d1
  have f12 := f1.trans f2
  clear f1 f2 e1 o1 l1 s1 d1
  generalize upd H1 A.le (.lst (es ++ [a.v])) = H2 at *
  clear H1
  -- the two bounds
  have fin : Fr A.own H (upd (upd H2 A.ls (.lst ((T.map fun x => .int ((min x.size 200001 : Nat) : Int)) ++ [.int ((min x.size 200001 : Nat) : Int)]))) A.ld (.lst ((T.map fun x => .int ((min x.depth 201 : Nat) : Int)) ++ [.int ((min x.depth 201 : Nat) : Int)]))) ∧
      StOk P w C (upd (upd H2 A.ls (.lst ((T.map fun x => .int ((min x.size 200001 : Nat) : Int)) ++ [.int ((min x.size 200001 : Nat) : Int)]))) A.ld (.lst ((T.map fun x => .int ((min x.depth 201 : Nat) : Int)) ++ [.int ((min x.depth 201 : Nat) : Int)]))) A (T ++ [x]) ∧
      NumD P w (upd (upd H2 A.ls (.lst ((T.map fun x => .int ((min x.size 200001 : Nat) : Int)) ++ [.int ((min x.size 200001 : Nat) : Int)]))) A.ld (.lst ((T.map fun x => .int ((min x.depth 201 : Nat) : Int)) ++ [.int ((min x.depth 201 : Nat) : Int)]))) A.dn (kvs ++ [(a, .int (T.length : Nat))]) := by
    have g1 : Fr A.own H2 (upd H2 A.ls (.lst ((T.map fun x => .int ((min x.size 200001 : Nat) : Int)) ++ [.int ((min x.size 200001 : Nat) : Int)]))) := Fr.set (by simp [SA.own]) s2 (fun _ z => by cases z) _
    have d3 : upd H2 A.ls (.lst ((T.map fun x => .int ((min x.size 200001 : Nat) : Int)) ++ [.int ((min x.size 200001 : Nat) : Int)])) A.ld = some (.lst (T.map fun x => .int ((min x.depth 201 : Nat) : Int))) := by rw [upd_ne (Ne.symm n10)]; exact d2
    have g2 : Fr A.own (upd H2 A.ls (.lst ((T.map fun x => .int ((min x.size 200001 : Nat) : Int)) ++ [.int ((min x.size 200001 : Nat) : Int)]))) (upd (upd H2 A.ls (.lst ((T.map fun x => .int ((min x.size 200001 : Nat) : Int)) ++ [.int ((min x.size 200001 : Nat) : Int)]))) A.ld (.lst ((T.map fun x => .int ((min x.depth 201 : Nat) : Int)) ++ [.int ((min x.depth 201 : Nat) : Int)]))) := Fr.set (by simp [SA.own]) d3 (fun _ z => by cases z) _
    have fz := (f12.trans g1).trans g2
    have nd' : NumD P w (upd (upd H2 A.ls (.lst ((T.map fun x => .int ((min x.size 200001 : Nat) : Int)) ++ [.int ((min x.size 200001 : Nat) : Int)]))) A.ld (.lst ((T.map fun x => .int ((min x.depth 201 : Nat) : Int)) ++ [.int ((min x.depth 201 : Nat) : Int)]))) A.dn (kvs ++ [(a, .int (T.length : Nat))]) := by
      refine ⟨by rw [upd_ne n9, upd_ne n8]; exact e2, fun b i j v hm => ?_⟩
      rcases List.mem_append.mp hm with hm | hm
      · exact fz.tup _ _ (k1.two b i j v hm)
      · have := List.mem_singleton.mp hm
        cases this
        exact fz.tup _ _ (ka (b, i, j) rfl)
    refine ⟨fz, ⟨by rw [upd_ne n4, upd_ne n3]; exact o2, ⟨es ++ [a.v], by rw [upd_ne n7, upd_ne n6]; exact l2, by simp only [List.length_append, List.length_singleton]; rw [h2], fun n y hy => ?_⟩, ⟨_, nd', k2.add kx⟩, by rw [upd_ne n10, upd_same, List.map_append]; rfl, by rw [upd_same, List.map_append]; rfl, ?_, get_app st.zero, st.dis⟩, nd'⟩
    · by_cases lt : n < T.length
      · rw [List.getElem?_append_left lt] at hy
        obtain ⟨v, hv, e⟩ := h3 n y hy
        exact ⟨v, get_app hv, e.mono fz⟩
      · have hn2 : n = T.length := by
          have := (List.getElem?_eq_some_iff.mp hy).1
          rw [List.length_append, List.length_singleton] at this
          omega
        subst hn2
        rw [List.getElem?_append_right (Nat.le_refl _), Nat.sub_self] at hy
        have hxy : x = y := by simpa using hy
        subst hxy
        refine ⟨a.v, by rw [← h2, List.getElem?_append_right (Nat.le_refl _), Nat.sub_self]; rfl, ?_⟩
        cases a with
        | inl s =>
          rw [show x = .w s from kx]
          rfl
        | inr p =>
          obtain ⟨i, j, y, ys, e, t1, t2, rfl⟩ := kx
          obtain ⟨e1, e2⟩ := Prod.mk.inj e
          refine ⟨p.1, i, j, rfl, ?_, get_app t1, get_app t2⟩
          rw [← e1, ← e2]
          exact fz.tup _ _ (ka p rfl)
    · rw [List.nodup_append]
      refine ⟨st.nd, by simp, fun u hu v hv e => hin ?_⟩
      rw [← List.mem_singleton.mp hv, ← e]
      exact hu
  have last : (T ++ [x])[T.length]? = some x := by rw [List.getElem?_append_right (Nat.le_refl _), Nat.sub_self]; rfl
  have o3 : ∀ z, upd H2 A.ls z A.s = some (.ins C A.dx A.fs) := fun z => by rw [upd_ne n3]; exact o2
  have d3 : ∀ z, upd H2 A.ls z A.ld = some (.lst (T.map fun x => .int ((min x.depth 201 : Nat) : Int))) := fun z => by rw [upd_ne (Ne.symm n10)]; exact d2
  cases a with
  | inl s =>
    obtain rfl : x = .w s := kx
    refine ⟨_, rfl, .inl ⟨s, rfl, true, rfl, ?_⟩⟩
    refine iteT ?_
    refine ⟨_, rfl, A.s, C, A.dx, _, _, rfl, o2, cS.cls, cS.nS, rfl, .inl ⟨rfl, _, .of s2⟩, A.ls, _, _, rfl, rfl, s2, smallB (by rw [List.length_map]; omega), ?_⟩
    refine ⟨_, rfl, A.s, C, A.dx, _, _, rfl, o3 _, cS.cls, cS.nD, rfl, .inl ⟨rfl, _, .of (d3 _)⟩, A.ld, _, _, rfl, rfl, d3 _, smallB (by rw [List.length_map]; omega), ?_⟩
    have ez : V.int ((min (Val.w s).size 200001 : Nat) : Int) = .int 1 := rfl
    have ed : V.int ((min (Val.w s).depth 201 : Nat) : Int) = .int 0 := rfl
    rw [ez, ed] at fin
    obtain ⟨g1, g2, g3⟩ := fin
    refine ⟨_, rfl, A.s, C, A.dx, _, _, rfl, g2.obj, cS.cls, cS.nN, rfl, _, rfl, A.dn, _, .inl s, _, rfl, g3, (fun _ z => by cases z), rfl, valM_last hout, ?_⟩
    exact q _ [.w s] T.length g1 g2 (Nat.le_refl _) last
  | inr p =>
    obtain ⟨i, j, y, ys, e, t1, t2, rfl⟩ := kx
    obtain ⟨b, pi, pj⟩ := p
    obtain ⟨rfl, rfl⟩ := Prod.mk.inj e
    have hb : H2 b = some (.tup [.int (i : Nat), .int (j : Nat)]) := f12.tup _ _ (ka (b, (i : Int), (j : Int)) rfl)
    refine ⟨_, rfl, .inr ⟨b, _, rfl, .of hb, false, rfl, ?_⟩⟩
    refine iteF ?_
    refine ⟨_, rfl, b, _, rfl, .of hb, rfl, _, _, rfl, _, _, rfl, rfl, ?_⟩
    have i1 : (T.map fun x => V.int ((min x.size 200001 : Nat) : Int))[i]? = some (.int ((min y.size 200001 : Nat) : Int)) := by rw [List.getElem?_map, t1]; rfl
    have i2 : (T.map fun x => V.int ((min x.size 200001 : Nat) : Int))[j]? = some (.int ((min (Val.l ys).size 200001 : Nat) : Int)) := by rw [List.getElem?_map, t2]; rfl
    have j1 : (T.map fun x => V.int ((min x.depth 201 : Nat) : Int))[i]? = some (.int ((min y.depth 201 : Nat) : Int)) := by rw [List.getElem?_map, t1]; rfl
    have j2 : (T.map fun x => V.int ((min x.depth 201 : Nat) : Int))[j]? = some (.int ((min (Val.l ys).depth 201 : Nat) : Int)) := by rw [List.getElem?_map, t2]; rfl
    have ez := min_cap y.size (Val.l ys).size 200001
    have ed := max_cap y.depth (Val.l ys).depth 201
    have ez2 : y.size + (Val.l ys).size = (Val.l (y :: ys)).size := by simp only [Val.size, Val.sizes]; omega
    have ed2 : max (y.depth + 1) (Val.l ys).depth = (Val.l (y :: ys)).depth := by simp only [Val.depth, Val.depths]
    rw [ez2] at ez
    rw [ed2] at ed
    refine ⟨_, rfl, A.s, C, A.dx, _, _, rfl, o2, cS.cls, cS.nS, rfl, .inl ⟨rfl, _, .of s2⟩, _, rfl, A.s, C, A.dx, _, _, rfl, o2, cS.cls, cS.nS, rfl, _, rfl, A.ls, _, _, _, rfl, rfl, .of s2, atI_nat i1, _, rfl, A.s, C, A.dx, _, _, rfl, o2, cS.cls, cS.nS, rfl, _, rfl, A.ls, _, _, _, rfl, rfl, .of s2, atI_nat i2, _, _, rfl, rfl, 200000, 1, rfl, rfl, _, _, rfl, A.ls, _, _, rfl, rfl, s2, smallB (by rw [List.length_map]; omega), ?_⟩
    refine ⟨_, rfl, A.s, C, A.dx, _, _, rfl, o3 _, cS.cls, cS.nD, rfl, .inl ⟨rfl, _, .of (d3 _)⟩, _, rfl, A.s, C, A.dx, _, _, rfl, o3 _, cS.cls, cS.nD, rfl, _, rfl, A.ld, _, _, _, rfl, rfl, .of (d3 _), atI_nat j1, _, _, rfl, rfl, _, rfl, A.s, C, A.dx, _, _, rfl, o3 _, cS.cls, cS.nD, rfl, _, rfl, A.ld, _, _, _, rfl, rfl, .of (d3 _), atI_nat j2, _, _, rfl, 200, 1, rfl, rfl, _, _, rfl, A.ld, _, _, rfl, rfl, d3 _, smallB (by rw [List.length_map]; omega), ?_⟩
    rw [← ez, ← ed] at fin
    obtain ⟨g1, g2, g3⟩ := fin
    refine ⟨_, rfl, A.s, C, A.dx, _, _, rfl, g2.obj, cS.cls, cS.nN, rfl, _, rfl, A.dn, _, .inr (b, (i : Int), (j : Int)), _, rfl, g3, (fun q hq => by cases hq; exact g1.tup _ _ (ka (b, (i : Int), (j : Int)) rfl)), rfl, valM_last hout, ?_⟩
    exact q _ [.l (y :: ys)] T.length g1 g2 (Nat.le_refl _) last
end
end Og

set_option Elab.async false
set_option linter.all false
set_option maxRecDepth 100000
set_option maxHeartbeats 4000000
/-! Og5c: first, rest, pair_up, items_of. -/
namespace Og
open PySem PySem.Spec PyProof.Rows L2
def NumOf (T : List Val) (x : Val) (v : V) : Prop := ∃ n : Nat, v = .int (n : Int) ∧ T[n]? = some x
theorem NumOf.mono {T r : List Val} {x : Val} {v : V} (h : NumOf T x v) : NumOf (T ++ r) x v := let ⟨n, e, h⟩ := h; ⟨n, e, get_app h⟩
theorem SA.free {A : SA} {S : List Addr} {H : Hp} (hs : ∀ a ∈ A.s :: A.own, ∃ o, H a = some o) (hS : ∀ a ∈ S, H a = none) : ∀ a ∈ A.s :: A.own, a ∉ S := fun a ha hm => by
  obtain ⟨o, e⟩ := hs a ha
  rw [hS a hm] at e
  cases e
theorem StOk.there {P w C H A T} (h : StOk P w C H A T) : ∀ a ∈ A.s :: A.own, ∃ o, H a = some o := by
  obtain ⟨es, h1, _⟩ := h.ent
  obtain ⟨kvs, k1, _⟩ := h.num
  intro a ha
  simp only [SA.own, List.mem_cons, List.not_mem_nil, or_false] at ha
  rcases ha with rfl | rfl | rfl | rfl | rfl
  · exact ⟨_, h.obj⟩
  · exact ⟨_, h1⟩
  · exact ⟨_, k1.at_⟩
  · exact ⟨_, h.siz⟩
  · exact ⟨_, h.dep⟩
theorem StOk.keep {P w C} {H H' : Hp} {A : SA} {T : List Val} (f : Fr [] H H') (h : StOk P w C H A T) : StOk P w C H' A T := h.fr f fun _ _ z => by simp at z
section
variable {P : Program} {w : World} {K : PySem.W.Frag} {mg : MG} {base : Heap} {C : Addr}
def spSFirst (P : Program) (w : World) (C : Addr) : Sp := fun vs H Q _ => ∃ (A : SA) (T : List Val) (n : Nat) (x : Val), vs = [.ref A.s, .int (n : Int)] ∧ StOk P w C H A T ∧ T[n]? = some x ∧ ∀ m : Nat, T[m]? = some (vhead x) → Q (.int (m : Int)) H
theorem sc_Store_first : FnScope ["self", "number"] ["self", "number"] (defScope s_Store_first) := ⟨rfl, rfl, rfl, by decide +kernel, rfl, by decide +kernel, by decide +kernel⟩
theorem ok_SFirst (F : Fm K C "first" "Store.first" s_Store_first) (cS : ClsS K C) (gE : GInt mg "EMPTY" 0) (D_Store_is_word : Dm P w K mg base C "is_word" ["self", "number"] 1 (spSWord P w C)) : Dm P w K mg base C "first" ["self", "number"] 2 (spSFirst P w C) := by
  have c_Store := cS.cls
  refine Dm.of F sc_Store_first (fun _ _ _ _ _ _ us hl => match us, hl with | [_, _], _ => rfl) (fun vs H Q E h => ?_) (fun f cdv A outer s H vs Q E hr h => ?_)
  · obtain ⟨_, _, _, _, rfl, _⟩ := h
    rfl
  obtain ⟨A, T, n, x, rfl, st, hn, q⟩ := h
  have hu := hu_of hr
  have nd := sc_Store_first.nd
  refine ⟨_, (pss_cons (ps_if (PW.pt (pw_or (pt_cmpR op_eq (pv 1) (pe_gint gE) (nomark _)) (pw_or1 (pt_val (pe_cm D_Store_is_word c_Store (hr.mono (by decide)) (pv 0) (pa_cons (pv 1) pa_nil))))))
      (pss_one (ps_ret (pe_gint gE)))
      pss_nil)
    (pss_one (ps_ret (pe_ix ix_tup (pe_ix ix_list (pe_fld (pv 0) rfl) (pv 1) (fun _ _ => rfl)) pe_int (fun _ _ => rfl))))), ?_⟩
  refine ⟨_, rfl, rfl, _, rfl, ?_⟩
  by_cases n0 : n = 0
  · subst n0
    rw [st.zero] at hn
    cases hn
    rw [decide_eq_true (show V.int ((0 : Nat) : Int) = V.int 0 from rfl)]
    refine iteT ?_
    exact iteT (q 0 st.zero)
  rw [decide_eq_false (by intro z; injection z with z; exact n0 (Int.ofNat.inj z))]
  refine iteF ?_
  refine ⟨_, rfl, A.s, A.dx, _, rfl, st.obj, rfl, _, rfl, A, T, n, x, rfl, st, hn, _, rfl, ?_⟩
  obtain ⟨es, h1, h2, h3⟩ := st.ent
  obtain ⟨v, hv, e⟩ := h3 n x hn
  match x, e, hn with
  | .w s, e, hn => exact iteT (q 0 st.zero)
  | .l [], _, hn => exact absurd (nodup_at st.nd hn st.zero) n0
  | .l (y :: ys), ⟨b, i, j, e, hb, t1, t2⟩, hn =>
    refine iteF ?_
    refine ⟨_, rfl, A.s, C, A.dx, _, _, rfl, st.obj, cS.cls, cS.nE, rfl, _, rfl, A.le, es, _, v, rfl, rfl, .of h1, atI_nat hv, ?_⟩
    rw [e]
    exact ⟨b, _, _, _, rfl, rfl, .of hb, rfl, q i t1⟩
def spSRest (P : Program) (w : World) (C : Addr) : Sp := fun vs H Q _ => ∃ (A : SA) (T : List Val) (n : Nat) (x : Val), vs = [.ref A.s, .int (n : Int)] ∧ StOk P w C H A T ∧ T[n]? = some x ∧ ∀ m : Nat, T[m]? = some (vtail x) → Q (.int (m : Int)) H
theorem sc_Store_rest : FnScope ["self", "number"] ["self", "number"] (defScope s_Store_rest) := ⟨rfl, rfl, rfl, by decide +kernel, rfl, by decide +kernel, by decide +kernel⟩
theorem ok_SRest (F : Fm K C "rest" "Store.rest" s_Store_rest) (cS : ClsS K C) (gE : GInt mg "EMPTY" 0) (D_Store_is_word : Dm P w K mg base C "is_word" ["self", "number"] 1 (spSWord P w C)) : Dm P w K mg base C "rest" ["self", "number"] 2 (spSRest P w C) := by
  have c_Store := cS.cls
  refine Dm.of F sc_Store_rest (fun _ _ _ _ _ _ us hl => match us, hl with | [_, _], _ => rfl) (fun vs H Q E h => ?_) (fun f cdv A outer s H vs Q E hr h => ?_)
  · obtain ⟨_, _, _, _, rfl, _⟩ := h
    rfl
  obtain ⟨A, T, n, x, rfl, st, hn, q⟩ := h
  have hu := hu_of hr
  have nd := sc_Store_rest.nd
  refine ⟨_, (pss_cons (ps_if (PW.pt (pw_or (pt_cmpR op_eq (pv 1) (pe_gint gE) (nomark _)) (pw_or1 (pt_val (pe_cm D_Store_is_word c_Store (hr.mono (by decide)) (pv 0) (pa_cons (pv 1) pa_nil))))))
      (pss_one (ps_ret (pe_gint gE)))
      pss_nil)
    (pss_one (ps_ret (pe_ix ix_tup (pe_ix ix_list (pe_fld (pv 0) rfl) (pv 1) (fun _ _ => rfl)) pe_int (fun _ _ => rfl))))), ?_⟩
  refine ⟨_, rfl, rfl, _, rfl, ?_⟩
  by_cases n0 : n = 0
  · subst n0
    rw [st.zero] at hn
    cases hn
    rw [decide_eq_true (show V.int ((0 : Nat) : Int) = V.int 0 from rfl)]
    refine iteT ?_
    exact iteT (q 0 st.zero)
  rw [decide_eq_false (by intro z; injection z with z; exact n0 (Int.ofNat.inj z))]
  refine iteF ?_
  refine ⟨_, rfl, A.s, A.dx, _, rfl, st.obj, rfl, _, rfl, A, T, n, x, rfl, st, hn, _, rfl, ?_⟩
  obtain ⟨es, h1, h2, h3⟩ := st.ent
  obtain ⟨v, hv, e⟩ := h3 n x hn
  match x, e, hn with
  | .w s, e, hn => exact iteT (q 0 st.zero)
  | .l [], _, hn => exact absurd (nodup_at st.nd hn st.zero) n0
  | .l (y :: ys), ⟨b, i, j, e, hb, t1, t2⟩, hn =>
    refine iteF ?_
    refine ⟨_, rfl, A.s, C, A.dx, _, _, rfl, st.obj, cS.cls, cS.nE, rfl, _, rfl, A.le, es, _, v, rfl, rfl, .of h1, atI_nat hv, ?_⟩
    rw [e]
    exact ⟨b, _, _, _, rfl, rfl, .of hb, rfl, q j t2⟩
def spSPair (P : Program) (w : World) (C : Addr) : Sp := fun vs H Q _ => ∃ (A : SA) (T : List Val) (i j : Nat) (x y : Val), vs = [.ref A.s, .int (i : Int), .int (j : Int)] ∧ StOk P w C H A T ∧ T[i]? = some x ∧ T[j]? = some y ∧ T.length ≤ 9000000 ∧
  ∀ H' r n, Fr A.own H H' → StOk P w C H' A (T ++ r) → r.length ≤ 1 → (T ++ r)[n]? = some (vjoin x y) → Q (.int ((n : Nat) : Int)) H'
theorem sc_Store_pair_up : FnScope ["self", "item", "items"] ["self", "item", "items"] (defScope s_Store_pair_up) := ⟨rfl, rfl, rfl, by decide +kernel, rfl, by decide +kernel, by decide +kernel⟩
theorem ok_SPair (F : Fm K C "pair_up" "Store.pair_up" s_Store_pair_up) (cS : ClsS K C) (gE : GInt mg "EMPTY" 0) (D_Store_is_word : Dm P w K mg base C "is_word" ["self", "number"] 1 (spSWord P w C)) (D_Store_number_of : Dm P w K mg base C "number_of" ["self", "entry"] 1 (spSNum P w C)) :
    Dm P w K mg base C "pair_up" ["self", "item", "items"] 2 (spSPair P w C) := by
  have c_Store := cS.cls
  refine Dm.of F sc_Store_pair_up (fun _ _ _ _ _ _ us hl => match us, hl with | [_, _, _], _ => rfl) (fun vs H Q E h => ?_) (fun f cdv A outer s H vs Q E hr h => ?_)
  · obtain ⟨_, _, _, _, _, _, rfl, _⟩ := h
    rfl
  obtain ⟨A, T, i, j, x, y, rfl, st, hi, hj, hz, q⟩ := h
  have hu := hu_of hr
  have nd := sc_Store_pair_up.nd
  refine ⟨_, (pss_cons (ps_if (pt_val (pe_cm D_Store_is_word c_Store (hr.mono (by decide)) (pv 0) (pa_cons (pv 2) pa_nil)))
      (pss_one (ps_set (i := 2) nd rfl (.inl rfl) (pe_gint gE)))
      pss_nil)
    (pss_one (ps_ret (pe_cm D_Store_number_of c_Store (hr.mono (by decide)) (pv 0) (pa_cons (pe_tup (pa_cons (pv 1) (pa_cons (pv 2) pa_nil))) pa_nil))))), ?_⟩
  refine ⟨_, rfl, A.s, A.dx, _, rfl, st.obj, rfl, _, rfl, A, T, j, y, rfl, st, hj, _, rfl, ?_⟩
  have fin : ∀ (j' : Nat) (ys : List Val), T[j']? = some (.l ys) → vjoin x y = .l (x :: ys) → ∀ b, H b = none →
      spSNum P w C [.ref A.s, .ref b] (upd H b (.tup [.int (i : Int), .int (j' : Int)])) Q (fun _ _ _ => False) := by
    intro j' ys hj' e b hb
    have f1 : Fr [] H (upd H b (.tup [.int (i : Int), .int (j' : Int)])) := Fr.new hb _
    refine ⟨A, T, .inr (b, (i : Int), (j' : Int)), .l (x :: ys), rfl, st.keep f1, fun p hp => by cases hp; exact upd_same, ⟨i, j', x, ys, rfl, hi, hj', rfl⟩, hz, fun H' r n f2 st2 hr hn => ?_⟩
    rw [← e] at hn
    exact q H' r n ((f1.mono (by simp)).trans f2) st2 hr hn
  match y, hj with
  | .w s, hj =>
    refine iteT ?_
    refine ⟨_, rfl, A.s, A.dx, _, rfl, st.obj, rfl, _, rfl, _, rfl, (by show 2 ≤ sizeLine; decide), fun b hb => ?_⟩
    exact fin 0 [] st.zero rfl b hb
  | .l ys, hj =>
    refine iteF ?_
    refine ⟨_, rfl, A.s, A.dx, _, rfl, st.obj, rfl, _, rfl, _, rfl, (by show 2 ≤ sizeLine; decide), fun b hb => ?_⟩
    exact fin j ys hj rfl b hb
def spSItems (P : Program) (w : World) (C : Addr) : Sp := fun vs H Q _ => ∃ (A : SA) (T : List Val) (n : Nat) (xs : List Val), vs = [.ref A.s, .int (n : Int)] ∧ StOk P w C H A T ∧ T[n]? = some (.l xs) ∧ xs.length ≤ 1000000 ∧
  ∀ H' l us, Fr [] H H' → H l = none → H' l = some (.lst us) → All2 (NumOf T) xs us → Q (.ref l) H'
theorem sc_Store_items_of : FnScope ["self", "number", "found", "item"] ["self", "number"] (defScope s_Store_items_of) := ⟨rfl, rfl, rfl, by decide +kernel, rfl, by decide +kernel, by decide +kernel⟩
theorem ok_SItems (F : Fm K C "items_of" "Store.items_of" s_Store_items_of) (cS : ClsS K C) (gE : GInt mg "EMPTY" 0) : Dm P w K mg base C "items_of" ["self", "number"] 1 (spSItems P w C) := by
  refine Dm.of F sc_Store_items_of (fun _ _ _ _ _ _ us hl => match us, hl with | [_, _], _ => rfl) (fun vs H Q E h => ?_) (fun f cdv A outer s H vs Q E hr h => ?_)
  · obtain ⟨_, _, _, _, rfl, _⟩ := h
    rfl
  obtain ⟨A, T, n, xs, rfl, st, hn, hz, q⟩ := h
  have hu := hu_of hr
  have nd := sc_Store_items_of.nd
  refine ⟨_, (pss_cons (ps_set (i := 2) nd rfl (.inl rfl) (pe_lst pa_nil))
    (pss_cons (ps_while PassesOwn.never (pt_cmpR op_ne (pv 1) (pe_gint gE) (nomark _))
      (pss_cons (ps_asg (pe_ix ix_list (pe_fld (pv 0) rfl) (pv 1) (fun _ _ => rfl)) (pg_tup rfl (pgs_cons (pg_name (i := 3) nd rfl (.inl rfl)) (pgs_cons (pg_name (i := 1) nd rfl (.inl rfl)) pgs_nil))))
      (pss_one (ps_expr (pe_bm PySem.F.plainAttrs_list PySem.F.slot_list_append PySem.F.type_list_append mt_append (pv 2) (pa_cons (pv 3) pa_nil))))))
    (pss_one (ps_ret (pv 2))))), ?_⟩
  refine ⟨(by show 0 ≤ sizeLine; decide), fun l hl => ?_⟩
  have f1 : Fr [] H (upd H l (.lst [])) := Fr.new hl _
  refine while_g (G := List Val × List Val × Nat) (fun g σ H' => ∃ x3 us, σ = [some (.ref A.s), some (.int (g.2.2 : Int)), some (.ref l), x3] ∧ Fr [] H H' ∧ H' l = some (.lst us) ∧ All2 (NumOf T) g.1 us ∧ T[g.2.2]? = some (.l g.2.1) ∧ xs = g.1 ++ g.2.1) (fun g => g.2.1.length) ([], xs, n)
    ⟨none, [], rfl, f1, upd_same, rfl, hn, rfl⟩ ?_
  rintro ⟨zs, ys, m⟩ σ H' ⟨x3, us, rfl, fr, hl', hus, hm, hxs⟩
  simp only at hus hm hxs
  refine ⟨_, rfl, rfl, _, rfl, ?_⟩
  have st' := st.keep fr
  by_cases m0 : m = 0
  · subst m0
    rw [st.zero] at hm
    cases hm
    refine ite2 (fun z => absurd z (by show ¬ (!decide (V.int ((0 : Nat) : Int) = V.int 0)) = true; decide)) (fun _ => ?_)
    rw [List.append_nil] at hxs
    subst hxs
    exact ⟨_, rfl, q H' l us fr hl hl' hus⟩
  rw [decide_eq_false (by intro z; injection z with z; exact m0 (Int.ofNat.inj z))]
  refine iteT ?_
  refine ⟨_, while_n (G := List Val × List Val × Nat) (mu := fun g => g.2.1.length), ?_⟩
  obtain ⟨es, h1, h2, h3⟩ := st'.ent
  obtain ⟨v, hv, e⟩ := h3 m _ hm
  cases ys with
  | nil => exact absurd (nodup_at st.nd hm st.zero) m0
  | cons y ys =>
    obtain ⟨b, i, j, rfl, hb, t1, t2⟩ := e
    refine ⟨_, rfl, A.s, C, A.dx, _, _, rfl, st'.obj, cS.cls, cS.nE, rfl, _, rfl, A.le, es, _, _, rfl, rfl, .of h1, atI_nat hv, b, _, rfl, .of hb, rfl, _, _, rfl, _, _, rfl, rfl, ?_⟩
    have ul := hus.len
    have zl : zs.length ≤ xs.length := by rw [hxs, List.length_append]; omega
    refine ⟨_, rfl, .inl ⟨rfl, _, .of hl'⟩, _, rfl, l, us, _, rfl, rfl, hl', smallB (by omega), (zs ++ [y], ys, j), by simp only [List.length_cons]; omega, _, us ++ [.int (i : Int)], rfl, fr.over hl _, upd_same, hus.app (All2.one ⟨i, rfl, t1⟩), t2, by simp only; rw [hxs, List.append_assoc]; rfl⟩
end
end Og

set_option Elab.async false
set_option linter.all false
set_option maxRecDepth 100000
set_option maxHeartbeats 4000000
/-! Og5d: put. -/
namespace Og
open PySem PySem.Spec PyProof.Rows L2
abbrev Pk := Val × Bool
def IsPk (K : PySem.W.Frag) (H : Hp) (t : Pk) (v : V) : Prop := ∃ p x, v = .ref p ∧ H p = some (.tup [x, .bl t.2]) ∧ IsV K H t.1 x
theorem IsPk.fr {K S H H' t v} (f : Fr S H H') (h : IsPk K H t v) : IsPk K H' t v := let ⟨p, x, e, a, b⟩ := h; ⟨p, x, e, f.tup _ _ a, b.fr f⟩
def RunP (R : Val) : List Pk → List Val → Prop
  | [], ms => ms = [R]
  | (x, false) :: ts, ms => RunP R ts (ms ++ [x])
  | (x, true) :: ts, ms => ∃ xs m0, x = .l xs ∧ ms = m0 ++ xs.reverse ∧ RunP R ts (m0 ++ [x])
theorem runP_parts {R : Val} : ∀ (es : List Val) (ts : List Pk) (ms : List Val), RunP R ts (ms ++ es.reverse) → RunP R ((es.map fun x => (x, false)).reverse ++ ts) ms
  | [], ts, ms, h => by simpa using h
  | e :: es, ts, ms, h => by
    rw [List.map_cons, List.reverse_cons, List.append_assoc]
    refine runP_parts es _ ms ?_
    show RunP R ts ((ms ++ es.reverse) ++ [e])
    rw [List.append_assoc]
    simpa using h
theorem runP_open {R : Val} {xs : List Val} {ts : List Pk} {ms : List Val} (h : RunP R ((.l xs, false) :: ts) ms) : RunP R ((xs.map fun x => (x, false)).reverse ++ (.l xs, true) :: ts) ms :=
  runP_parts _ _ _ ⟨xs, ms, rfl, rfl, h⟩
mutual
/-- how many entries are asked for -/
def Val.cnt : Val → Nat
  | .w _ => 1
  | .l xs => Val.cnts xs
def Val.cnts : List Val → Nat
  | [] => 0
  | x :: xs => 1 + (Val.cnt x + Val.cnts xs)
end
mutual
theorem cnt_le : ∀ x : Val, x.cnt + 1 ≤ 2 * x.size
  | .w _ => by simp [Val.cnt, Val.size]
  | .l xs => by simp only [Val.cnt, Val.size]; have := cnts_le xs; omega
theorem cnts_le : ∀ xs : List Val, Val.cnts xs ≤ 2 * Val.sizes xs
  | [] => Nat.le_refl _
  | x :: xs => by simp only [Val.cnts, Val.sizes]; have := cnt_le x; have := cnts_le xs; omega
end
theorem size_pos : ∀ x : Val, 0 < x.size
  | .w _ => by simp [Val.size]
  | .l xs => by simp only [Val.size]; omega
theorem sizes_len : ∀ xs : List Val, xs.length ≤ Val.sizes xs
  | [] => Nat.le_refl _
  | x :: xs => by simp only [Val.sizes, List.length_cons]; have := size_pos x; have := sizes_len xs; omega
def Val.sumc : List Val → Nat
  | [] => 0
  | x :: xs => Val.cnt x + Val.sumc xs
theorem cnts_eq : ∀ xs : List Val, Val.cnts xs = xs.length + Val.sumc xs
  | [] => rfl
  | x :: xs => by simp only [Val.cnts, Val.sumc, List.length_cons, cnts_eq xs]; omega
/-- what may still be added -/
def potP : List Pk → Nat
  | [] => 0
  | (x, false) :: ts => x.cnt + potP ts
  | (.l xs, true) :: ts => xs.length + potP ts
  | (.w _, true) :: ts => potP ts
def muP : List Pk → Nat
  | [] => 0
  | (x, false) :: ts => 2 * x.size + muP ts
  | (_, true) :: ts => 1 + muP ts
theorem potP_parts : ∀ (es : List Val) (ts : List Pk), potP ((es.map fun x => (x, false)).reverse ++ ts) = Val.sumc es + potP ts
  | [], ts => by simp [Val.sumc]
  | e :: es, ts => by
    rw [List.map_cons, List.reverse_cons, List.append_assoc, potP_parts es]
    simp only [List.cons_append, List.nil_append, potP, Val.sumc]
    omega
theorem muP_parts : ∀ (es : List Val) (ts : List Pk), muP ((es.map fun x => (x, false)).reverse ++ ts) = 2 * Val.sizes es + muP ts
  | [], ts => by simp [Val.sizes]
  | e :: es, ts => by
    rw [List.map_cons, List.reverse_cons, List.append_assoc, muP_parts es]
    simp only [List.cons_append, List.nil_append, muP, Val.sizes]
    omega
theorem muP_len : ∀ ts : List Pk, ts.length ≤ muP ts
  | [] => Nat.le_refl _
  | (x, false) :: ts => by simp only [List.length_cons, muP]; have := size_pos x; have := muP_len ts; omega
  | (_, true) :: ts => by simp only [List.length_cons, muP]; have := muP_len ts; omega
section
variable {P : Program} {w : World} {K : PySem.W.Frag} {mg : MG} {base : Heap} {C : Addr}
def PvP (P : Program) (w : World) (K : PySem.W.Frag) (C : Addr) (A : SA) (T : List Val) (v : V) (l m : Addr) (x0 : Val) (H : Hp) (g : List Pk × List Val) (σ : L2.St) (H' : Hp) : Prop :=
  ∃ x4 x5 x6 x7 x8 x9 us ws r, σ = [some (.ref A.s), some v, some (.ref l), some (.ref m), x4, x5, x6, x7, x8, x9] ∧ Fr A.own H H' ∧ H' l = some (.lst us) ∧ H' m = some (.lst ws) ∧ All2 (IsPk K H') g.1.reverse us ∧ All2 (NumOf (T ++ r)) g.2 ws ∧
      RunP x0 g.1 g.2 ∧ g.2.length + muP g.1 ≤ 2 * x0.size ∧ StOk P w C H' A (T ++ r) ∧ r.length + potP g.1 ≤ 2 * x0.size
def spSPut (P : Program) (w : World) (K : PySem.W.Frag) (C : Addr) : Sp := fun vs H Q _ => ∃ (A : SA) (T : List Val) (x : Val) (v : V), vs = [.ref A.s, v] ∧ StOk P w C H A T ∧ IsV K H x v ∧ x.size ≤ 1000000 ∧ T.length + 2 * x.size ≤ 9000000 ∧
  ∀ H' r n, Fr A.own H H' → StOk P w C H' A (T ++ r) → r.length ≤ 2 * x.size → (T ++ r)[n]? = some x → Q (.int ((n : Nat) : Int)) H'
theorem sc_Store_put : FnScope ["self", "value", "waiting", "made", "one", "is_ready", "item", "found", "items", "_"] ["self", "value"] (defScope s_Store_put) := ⟨rfl, rfl, rfl, by decide +kernel, rfl, by decide +kernel, by decide +kernel⟩
theorem ok_SPut (F : Fm K C "put" "Store.put" s_Store_put) (B : Bn mg) (cS : ClsS K C) (gE : GInt mg "EMPTY" 0) (D_Store_number_of : Dm P w K mg base C "number_of" ["self", "entry"] 1 (spSNum P w C)) : Dm P w K mg base C "put" ["self", "value"] 2 (spSPut P w K C) := by
  have c_Store := cS.cls
  refine Dm.of F sc_Store_put (fun _ _ _ _ _ _ us hl => match us, hl with | [_, _], _ => rfl) (fun vs H Q E h => ?_) (fun f cdv A outer s H vs Q E hr h => ?_)
  · obtain ⟨_, _, _, _, rfl, _⟩ := h
    rfl
  obtain ⟨A, T, x0, v, rfl, st, hv, hz, hz2, q⟩ := h
  have hu := hu_of hr
  have nd := sc_Store_put.nd
  refine ⟨_, (pss_cons (ps_set (i := 2) nd rfl (.inl rfl) (pe_lst (pa_cons (pe_tup (pa_cons (pv 1) (pa_cons pe_bl pa_nil))) pa_nil)))
    (pss_cons (ps_set (i := 3) nd rfl (.inr rfl) (pe_lst pa_nil))
    (pss_cons (ps_while PassesOwn.never (pt_cmpR op_gt (pe_callB call_len_seq (by rfl) B.len bLen (pa_cons (pv 2) pa_nil)) pe_int (nomark _))
      (pss_cons (ps_asg (pe_bm0 PySem.F.plainAttrs_list PySem.F.slot_list_pop PySem.F.type_list_pop mt_pop (pv 2)) (pg_tup rfl (pgs_cons (pg_name (i := 4) nd rfl (.inl rfl)) (pgs_cons (pg_name (i := 5) nd rfl (.inl rfl)) pgs_nil))))
      (pss_one (ps_if (pt_val (pe_isS2 B (pv 4)))
        (pss_one (ps_expr (pe_bm PySem.F.plainAttrs_list PySem.F.slot_list_append PySem.F.type_list_append mt_append (pv 3) (pa_cons (pe_cm D_Store_number_of c_Store (hr.mono (by decide)) (pv 0) (pa_cons (pv 4) pa_nil)) pa_nil))))
        (pss_one (ps_if (pt_not (pt_val (pv 5)))
          (pss_cons (ps_expr (pe_bm PySem.F.plainAttrs_list PySem.F.slot_list_append PySem.F.type_list_append mt_append (pv 2) (pa_cons (pe_tup (pa_cons (pv 4) (pa_cons pe_bl pa_nil))) pa_nil)))
          (pss_one (ps_expr (pe_bm PySem.F.plainAttrs_list PySem.F.slot_list_extend PySem.F.type_list_extend mt_extend (pv 2) (pa_cons (pe_lc (own := [("item", 6)]) (g := gName 6) (tt := tYes) rfl nd (pi_tup (pv 4)) (blkOk_by (N := ["self", "value", "waiting", "made", "one", "is_ready", "item", "found", "items", "_"]) (sc := defScope s_Store_put) (by decide +kernel)) (fun _ _ _ _ _ => pg_name (i := 6) nd rfl (.inl rfl)) (fun _ _ _ _ _ => pts_nil) (fun _ _ _ _ _ => (pe_tup (pa_cons (pv 6) (pa_cons pe_bl pa_nil))))) pa_nil)))))
          (pss_cons (ps_set (i := 7) nd rfl (.inl rfl) (pe_gint gE))
          (pss_cons (ps_setLc (i := 8) (own := [("_", 9)]) (g := gName 9) (te := tBM0 K "list" rPop (tVar 3)) (tt := tYes) rfl nd rfl rfl (sw_true rfl rfl rfl (by decide +kernel)) (pi_tup (pv 4)) (blkOk_by (N := ["self", "value", "waiting", "made", "one", "is_ready", "item", "found", "items", "_"]) (sc := defScope s_Store_put) (by decide +kernel)) (fun _ _ _ _ _ => pg_name (i := 9) nd rfl (.inl rfl)) (fun _ _ _ _ _ => pts_nil) (fun _ _ _ _ _ => (pe_bm0 PySem.F.plainAttrs_list PySem.F.slot_list_pop PySem.F.type_list_pop mt_pop (pv 3))))
          (pss_cons (ps_for PassesOwn.never rfl (pi_reversed (by rfl) B.reversed (pa_cons (pv 8) pa_nil)) (pg_name (i := 6) nd rfl (.inl rfl))
            (pss_one (ps_set (i := 7) nd rfl (.inl rfl) (pe_cm D_Store_number_of c_Store (hr.mono (by decide)) (pv 0) (pa_cons (pe_tup (pa_cons (pv 6) (pa_cons (pv 7) pa_nil))) pa_nil)))))
          (pss_one (ps_expr (pe_bm PySem.F.plainAttrs_list PySem.F.slot_list_append PySem.F.type_list_append mt_append (pv 3) (pa_cons (pv 7) pa_nil)))))))))))))
    (pss_one (ps_ret (pe_ix ix_list (pv 3) pe_int (fun _ _ => rfl))))))), ?_⟩
  refine ⟨_, rfl, (by show 2 ≤ sizeLine; decide), fun t0 ht0 => ?_⟩
  refine ⟨(by show 1 ≤ sizeLine; decide), fun l hl => ?_⟩
  refine ⟨(by show 0 ≤ sizeLine; decide), fun m hm => ?_⟩
  have fa : Fr [] H (upd H t0 (.tup [v, .bl false])) := Fr.new ht0 _
  have hl0 : H l = none := fa.free (by simp) hl
  have fb := fa.trans (Fr.new (S := []) hl (.lst [V.ref t0]))
  have hm0 : H m = none := fb.free (by simp) hm
  have fc := fb.trans (Fr.new (S := []) hm (.lst []))
  have lm : l ≠ m := fun z => by rw [← z, upd_same] at hm; cases hm
  have t0l : t0 ≠ l := fun z => by rw [← z, upd_same] at hl; cases hl
  have t0m : t0 ≠ m := fun z => by rw [← z, upd_ne t0l, upd_same] at hm; cases hm
  have lown : l ∉ A.own := fun z => by
    obtain ⟨o, e⟩ := st.there l (List.mem_cons_of_mem _ z)
    rw [hl0] at e; cases e
  have mown : m ∉ A.own := fun z => by
    obtain ⟨o, e⟩ := st.there m (List.mem_cons_of_mem _ z)
    rw [hm0] at e; cases e
  have ls : ∀ a ∈ A.s :: A.own, a ∉ [l] := fun a ha z => by
    obtain ⟨o, e⟩ := st.there a ha
    rw [List.mem_singleton.mp z, hl0] at e; cases e
  have ms' : ∀ a ∈ A.s :: A.own, a ∉ [m] := fun a ha z => by
    obtain ⟨o, e⟩ := st.there a ha
    rw [List.mem_singleton.mp z, hm0] at e; cases e
  have hcn := cnt_le x0
  refine while_g (G := List Pk × List Val) (PvP P w K C A T v l m x0 H) (fun g => muP g.1) ([(x0, false)], [])
    ⟨none, none, none, none, none, none, _, _, [], rfl, fc.mono (by simp), by rw [upd_ne lm]; exact upd_same, upd_same, All2.one ⟨t0, v, rfl, by rw [upd_ne t0m, upd_ne t0l]; exact upd_same, hv.fr fc⟩, rfl, rfl, by simp only [muP, List.length_nil]; omega, by rw [List.append_nil]; exact st.keep fc, by simp only [potP, List.length_nil]; omega⟩ ?_
  rintro ⟨ts, ms⟩ σ H' ⟨x4, x5, x6, x7, x8, x9, us, ws, r, rfl, fr, hul, hwm, hus, hws, hrun, hmu, st1, hpot⟩
  simp only at hus hws hrun hmu hpot
  have hlen := hus.len
  have hwl := hws.len
  rw [List.length_reverse] at hlen
  refine ⟨_, rfl, l, _, rfl, .inl (.of hul), _, _, rfl, rfl, _, rfl, ?_⟩
  cases ts with
  | nil =>
    rw [decide_eq_false (by rw [hlen]; decide)]
    refine iteF ?_
    obtain rfl : ms = [x0] := hrun
    obtain ⟨u, rfl, n, rfl, hn⟩ := hws.one_inv
    exact ⟨_, rfl, m, _, _, _, rfl, rfl, .of hwm, rfl, q H' r n fr st1 (by simp only [potP] at hpot; omega) hn⟩
  | cons t ts =>
  rw [decide_eq_true (by rw [hlen, List.length_cons]; show (0 : Int) < ((ts.length + 1 : Nat) : Int); omega)]
  refine iteT ?_
  refine ⟨_, while_n (G := List Pk × List Val) (mu := fun g => muP g.1), ?_⟩
  rw [List.reverse_cons] at hus
  obtain ⟨us, u, rfl, husA, p, x, rfl, hp, hx⟩ := hus.last
  have f1 : Fr [l] H' (upd H' l (.lst us)) := Fr.set (List.mem_singleton.mpr rfl) hul (fun _ z => by cases z) _
  have fr1 : Fr A.own H (upd H' l (.lst us)) := fr.over hl0 _
  refine ⟨_, rfl, .inl ⟨rfl, _, .of hul⟩, l, _, _, rfl, rfl, hul, pop_at _ _, ?_⟩
  rw [List.dropLast_concat]
  have hp1 := f1.tup _ _ hp
  have hx1 := hx.fr f1
  have hus1 : All2 (IsPk K (upd H' l (.lst us))) ts.reverse us := husA.imp fun _ _ h => h.fr f1
  have hul1 : upd H' l (.lst us) l = some (.lst us) := upd_same
  have hwm1 : upd H' l (.lst us) m = some (.lst ws) := by rw [upd_ne (Ne.symm lm)]; exact hwm
  have st2 := st1.fr f1 ls
  have hul2 : us.length = ts.length := by have := husA.len; rw [List.length_reverse] at this; exact this
  refine ⟨p, _, rfl, .of hp1, rfl, _, _, rfl, _, _, rfl, rfl, ?_⟩
  obtain ⟨e, b⟩ := t
  have hml := muP_len ts
  rw [List.length_cons] at hlen
  simp only at hx1
  clear hus husA hul hwm hp hx f1 fr st1
  generalize upd H' l (.lst us) = H1 at *
  clear H'
  have tlen : (T ++ r).length ≤ 9000000 := by rw [List.length_append]; omega
  cases e with
  | w s =>
    cases b with
    | true => obtain ⟨_, _, z, _⟩ := hrun; cases z
    | false =>
    obtain rfl : x = .str s := hx1
    simp only [muP, potP, Val.size, Val.cnt] at hmu hpot ⊢
    refine ⟨_, rfl, _, .w s, rfl, rfl, true, rfl, ?_⟩
    refine iteT ?_
    refine ⟨_, rfl, .inl ⟨rfl, _, .of hwm1⟩, _, rfl, A.s, A.dx, _, rfl, st2.obj, rfl, _, rfl, A, T ++ r, .inl s, .w s, rfl, st2, (fun _ z => by cases z), rfl, tlen, fun H2 r2 n k st3 hr2 hn => ?_⟩
    have hwm2 := k.keep m _ mown hwm1
    have k4 : Fr [m] H2 (upd H2 m (.lst (ws ++ [.int (n : Int)]))) := Fr.set (List.mem_singleton.mpr rfl) hwm2 (fun _ z => by cases z) _
    rw [List.append_assoc] at st3 hn
    refine ⟨m, ws, _, rfl, rfl, hwm2, smallB (by omega), (ts, ms ++ [Val.w s]), by simp only; omega, _, _, _, _, _, _, us, _, r ++ r2, rfl, (fr1.trans k).over hm0 _, by rw [upd_ne lm]; exact k.keep l _ lown hul1, upd_same, (hus1.imp fun _ _ h => h.fr k).imp fun _ _ h => h.fr k4, ?_, (show RunP x0 ts (ms ++ [Val.w s]) from hrun), ?_, st3.fr k4 ms', ?_⟩
    · refine All2.app (hws.imp fun _ _ h => ?_) (All2.one ⟨n, rfl, hn⟩)
      rw [← List.append_assoc]
      exact h.mono
    · simp only [List.length_append, List.length_singleton]; omega
    · simp only [List.length_append]; omega
  | l xs =>
  obtain ⟨c, vs, rfl, t, hvs⟩ := hx1
  have hx2 : IsV K H1 (.l xs) (.ref c) := isV_l t hvs
  have hvl := hvs.len
  have hsl := sizes_len xs
  refine ⟨_, rfl, _, .l xs, rfl, hx2, false, rfl, ?_⟩
  refine iteF ?_
  cases b with
  | false =>
    simp only [muP, potP, Val.size, Val.cnt] at hmu hpot ⊢
    refine ⟨_, rfl, false, rfl, ?_⟩
    refine iteT ?_
    refine ⟨_, rfl, .inl ⟨rfl, _, .of hul1⟩, _, rfl, (by show 2 ≤ sizeLine; decide), fun t1 ht1 => ?_⟩
    have n1 : t1 ≠ l := fun z => by rw [z, hul1] at ht1; cases ht1
    have g1 : Fr [] H1 (upd H1 t1 (.tup [.ref c, .bl true])) := Fr.new ht1 _
    have tt1 : upd H1 t1 (.tup [.ref c, .bl true]) t1 = some (.tup [.ref c, .bl true]) := upd_same
    have hul3 := g1.keep l _ (by simp) hul1
    refine ⟨l, us, _, rfl, rfl, hul3, smallB (by omega), ?_⟩
    have g2 : Fr [l] (upd H1 t1 (.tup [.ref c, .bl true])) (upd (upd H1 t1 (.tup [.ref c, .bl true])) l (.lst (us ++ [.ref t1]))) := Fr.set (List.mem_singleton.mpr rfl) hul3 (fun _ z => by cases z) _
    have g12 := (g1.mono (T := [l]) (by simp)).trans g2
    have hul4 : upd (upd H1 t1 (.tup [.ref c, .bl true])) l (.lst (us ++ [.ref t1])) l = some (.lst (us ++ [.ref t1])) := upd_same
    have tt4 := g2.tup _ _ tt1
    generalize upd (upd H1 t1 (.tup [.ref c, .bl true])) l (.lst (us ++ [.ref t1])) = H4 at *
    clear g1 g2 hul3 tt1 ht1
    have hvs4 := hvs.fr g12
    have t4 := t.fr g12
    refine ⟨_, rfl, .inl ⟨rfl, _, .of hul4⟩, _, rfl, c, rfl, ⟨_, t4.sq⟩, fun D hD => lc_tup (K := K) (a := c) (xs := vs) (fun i H' => ∃ acc, H' D = some (.lst acc) ∧ Fr [] H4 H' ∧ All2 (IsPk K H') ((xs.take i).map fun x => (x, false)) acc)
      ⟨[], upd_same, Fr.new hD _, rfl⟩ (fun i H' _ ⟨acc, _, f, _⟩ => (t4.fr f).sq) ?_ ?_⟩
    · rintro i z H' hz' ⟨acc, ha, f, hacc⟩
      obtain ⟨pe, hpe, hzv⟩ := hvs4.get' hz'
      refine ⟨rfl, _, rfl, (by show 2 ≤ sizeLine; decide), fun T2 hT => ?_⟩
      have k1 : Fr [] H' (upd H' T2 (.tup [z, .bl false])) := Fr.new hT _
      have hal := hacc.len
      rw [List.length_map, List.length_take] at hal
      have ha2 := k1.keep D _ (by simp) ha
      have k2 : Fr [D] (upd H' T2 (.tup [z, .bl false])) (upd (upd H' T2 (.tup [z, .bl false])) D (.lst (acc ++ [.ref T2]))) := Fr.set (List.mem_singleton.mpr rfl) ha2 (fun _ z => by cases z) _
      refine ⟨acc, ha2, smallB (by omega), _, upd_same, (f.trans k1).over hD _, ?_⟩
      rw [List.take_add_one, hpe, List.map_append]
      exact ((hacc.imp fun _ _ h => h.fr k1).imp fun _ _ h => h.fr k2).app (All2.one ⟨T2, z, rfl, k2.tup _ _ upd_same, ((hzv.fr f).fr k1).fr k2⟩)
    · rintro H' ⟨acc, ha, f, hacc⟩
      rw [hvl, List.take_length] at hacc
      have hal := hacc.len
      rw [List.length_map] at hal
      have hul6 := f.keep l _ (by simp) hul4
      have k2 : Fr [l] H' (upd H' l (.lst ((us ++ [.ref t1]) ++ acc))) := Fr.set (List.mem_singleton.mpr rfl) hul6 (fun _ z => by cases z) _
      have kz := (g12.trans (f.mono (T := [l]) (by simp))).trans k2
      refine ⟨l, D, _, acc, rfl, rfl, hul6, ha, Nat.le_of_lt (smallB (by rw [List.length_append, List.length_singleton]; omega)), ((xs.map fun x => (x, false)).reverse ++ (.l xs, true) :: ts, ms), ?_, _, _, _, _, _, _, _, ws, r, rfl, fr1.drop kz (fun x hx => .inr (by rw [List.mem_singleton.mp hx]; exact hl0)), upd_same, kz.keep m _ (by simp [Ne.symm lm]) hwm1, ?_, hws, runP_open hrun, ?_, st2.fr kz ls, ?_⟩
      · simp only
        rw [muP_parts]; simp only [muP]; omega
      · simp only [List.reverse_append, List.reverse_reverse, List.reverse_cons]
        have kw := (f.mono (T := [l]) (by simp)).trans k2
        exact ((hus1.imp fun _ _ h => h.fr kz).app (All2.one ⟨t1, _, rfl, kw.tup _ _ tt4, hx2.fr kz⟩)).app (hacc.imp fun _ _ h => h.fr k2)
      · simp only
        rw [muP_parts]; simp only [muP]; omega
      · simp only
        have := cnts_eq xs
        rw [potP_parts]; simp only [potP]; omega
  | true =>
    simp only [muP, potP] at hmu hpot ⊢
    refine ⟨_, rfl, true, rfl, ?_⟩
    refine iteF ?_
    obtain ⟨xs', m0, ex, rfl, hrun⟩ := hrun
    cases ex
    rw [List.length_append, List.length_reverse] at hmu
    refine ⟨_, rfl, c, rfl, ⟨_, t.sq⟩, fun D hD => lc_tup (K := K) (a := c) (xs := vs) (fun i H' => ∃ acc ws', H' D = some (.lst acc) ∧ H' m = some (.lst ws') ∧ Fr [m] H1 H' ∧ All2 (NumOf (T ++ r)) (xs.take i) acc ∧ All2 (NumOf (T ++ r)) (m0 ++ (xs.drop i).reverse) ws')
      ⟨[], ws, upd_same, by rw [upd_ne (ne_of_none hwm1 hD)]; exact hwm1, (Fr.new (S := []) hD _).mono (by simp), rfl, by rw [List.drop_zero]; exact hws⟩ (fun i H' _ ⟨_, _, _, _, f, _⟩ => (t.fr f).sq) ?_ ?_⟩
    · rintro i z H' hz' ⟨acc, ws', ha, hm', f, hacc, hws'⟩
      have hi : i < xs.length := by have := (List.getElem?_eq_some_iff.mp hz').1; omega
      rw [List.drop_eq_getElem_cons hi, List.reverse_cons, ← List.append_assoc] at hws'
      obtain ⟨ws2, u2, rfl, hws2, hu2⟩ := hws'.last
      have hal := hacc.len
      rw [List.length_take] at hal
      have nD : D ≠ m := fun q => by rw [q, hwm1] at hD; cases hD
      have k1 : Fr [m] H' (upd H' m (.lst ws2)) := Fr.set (List.mem_singleton.mpr rfl) hm' (fun _ z => by cases z) _
      have ha2 : upd H' m (.lst ws2) D = some (.lst acc) := by rw [upd_ne nD]; exact ha
      refine ⟨rfl, _, rfl, .inl ⟨rfl, _, .of hm'⟩, m, _, _, rfl, rfl, hm', pop_at _ _, acc, by rw [List.dropLast_concat]; exact ha2, smallB (by omega), ?_⟩
      rw [List.dropLast_concat]
      refine ⟨_, ws2, upd_same, by rw [upd_ne (Ne.symm nD)]; exact upd_same, (f.trans k1).over hD _, ?_, hws2⟩
      rw [List.take_add_one, List.getElem?_eq_getElem hi]
      exact hacc.app (All2.one hu2)
    · rintro H' ⟨acc, ws', ha, hm', f, hacc, hws'⟩
      rw [hvl, List.take_length] at hacc
      rw [hvl, List.drop_length, List.reverse_nil, List.append_nil] at hws'
      have hal := hacc.len
      have hwl' := hws'.len
      have st3 := st2.fr f ms'
      have Down : ∀ a ∈ A.s :: A.own, a ≠ D := fun a ha z => by
        obtain ⟨o, e⟩ := st2.there a ha
        rw [z, hD] at e; cases e
      refine ⟨_, rfl, D, acc, rfl, .of ha, RT.for_Itv (K := K) (a := D) (xs := acc) (fun i σ H2 => ∃ x6 x9 r2 n, σ = [some (.ref A.s), some v, some (.ref l), some (.ref m), some (.ref c), some (.bl true), x6, some (.int ((n : Nat) : Int)), some (.ref D), x9] ∧ Fr A.own H' H2 ∧ StOk P w C H2 A (T ++ r ++ r2) ∧ r2.length ≤ i ∧ (T ++ r ++ r2)[n]? = some (.l (xs.drop (acc.length - i))))
        ⟨x6, x9, [], 0, rfl, Fr.refl _ _, by rw [List.append_nil]; exact st3, Nat.le_refl _, by rw [List.append_nil, Nat.sub_zero, hal, List.drop_length]; exact st3.zero⟩ (fun i σ H2 ⟨_, _, _, _, _, g, _⟩ => .of (g.keep D _ (fun z => Down D (List.mem_cons_of_mem _ z) rfl) ha)) ?_ ?_⟩
      · rintro i z σ H2 hi hz' ⟨x6', x9', r2, n, rfl, g, st4, hr2, hn⟩
        obtain ⟨y, hy, k0, rfl, hk0⟩ := hacc.get' hz'
        refine ⟨_, rfl, A.s, A.dx, _, rfl, st4.obj, rfl, _, rfl, _, rfl, (by show 2 ≤ sizeLine; decide), fun b hb => ?_⟩
        have g1 : Fr [] H2 (upd H2 b (.tup [.int ((k0 : Nat) : Int), .int ((n : Nat) : Int)])) := Fr.new hb _
        have e2 : xs.drop (acc.length - (i + 1)) = y :: xs.drop (acc.length - i) := by
          have hlt := (List.getElem?_eq_some_iff.mp hy).1
          rw [show acc.length - (i + 1) = acc.length - 1 - i by omega, List.drop_eq_getElem_cons hlt, (List.getElem?_eq_some_iff.mp hy).2, show acc.length - 1 - i + 1 = acc.length - i by omega]
        refine ⟨A, T ++ r ++ r2, .inr (b, (k0 : Int), (n : Int)), .l (y :: xs.drop (acc.length - i)), rfl, st4.keep g1, (fun p hp => by cases hp; exact upd_same), ⟨k0, n, y, _, rfl, get_app hk0, hn, rfl⟩, by simp only [List.length_append] at tlen ⊢; omega, fun H3 r3 n3 k st5 hr3 hn3 => ?_⟩
        rw [List.append_assoc] at st5 hn3
        exact ⟨_, _, r2 ++ r3, n3, rfl, (g.trans (g1.mono (by simp))).trans k, st5, by rw [List.length_append]; omega, by rw [e2]; exact hn3⟩
      · rintro σ H2 ⟨x6', x9', r2, n, rfl, g, st4, hr2, hn⟩
        rw [Nat.sub_self, List.drop_zero] at hn
        have hm2 := g.keep m _ mown hm'
        have k4 : Fr [m] H2 (upd H2 m (.lst (ws' ++ [.int ((n : Nat) : Int)]))) := Fr.set (List.mem_singleton.mpr rfl) hm2 (fun _ z => by cases z) _
        have k5 : Fr (m :: A.own) H1 (upd H2 m (.lst (ws' ++ [.int ((n : Nat) : Int)]))) := ((f.mono (by simp)).trans (g.mono (fun x hx => List.mem_cons_of_mem _ hx))).trans (k4.mono (by simp))
        have lmo : l ∉ m :: A.own := fun z => (List.mem_cons.mp z).elim lm lown
        rw [List.append_assoc] at st4 hn
        refine ⟨_, rfl, .inl ⟨rfl, _, .of hm2⟩, _, rfl, m, ws', _, rfl, rfl, hm2, smallB (by omega), (ts, m0 ++ [Val.l xs]), by simp only; omega, _, _, _, _, _, _, us, _, r ++ r2, rfl, ?_, k5.keep l _ lmo hul1, upd_same, hus1.imp fun _ _ h => h.fr k5, ?_, hrun, ?_, st4.fr k4 ms', ?_⟩
        · exact fr1.drop k5 (fun x hx => (List.mem_cons.mp hx).elim (fun e => .inr (by rw [e]; exact hm0)) .inl)
        · refine All2.app (hws'.imp fun _ _ h => ?_) (All2.one ⟨n, rfl, hn⟩)
          rw [← List.append_assoc]
          exact h.mono
        · simp only [List.length_append, List.length_singleton]; omega
        · simp only [List.length_append]; omega
end
end Og

set_option Elab.async false
set_option linter.all false
set_option maxRecDepth 100000
set_option maxHeartbeats 4000000
/-! Og5e: value_of. -/
namespace Og
open PySem PySem.Spec PyProof.Rows L2
mutual
def Val.cv : Val → Nat
  | .w _ => 3
  | .l xs => 3 + Val.cvs xs
def Val.cvs : List Val → Nat
  | [] => 0
  | x :: xs => Val.cv x + Val.cvs xs
end
mutual
theorem cv_le : ∀ x : Val, x.cv ≤ 3 * x.size
  | .w _ => by simp [Val.cv, Val.size]
  | .l xs => by simp only [Val.cv, Val.size]; have := cvs_le xs; omega
theorem cvs_le : ∀ xs : List Val, Val.cvs xs ≤ 3 * Val.sizes xs
  | [] => Nat.le_refl _
  | x :: xs => by simp only [Val.cvs, Val.sizes]; have := cv_le x; have := cvs_le xs; omega
end
theorem cv_pos : ∀ x : Val, 3 ≤ x.cv
  | .w _ => by simp [Val.cv]
  | .l xs => by simp only [Val.cv]; omega
theorem cvs_app : ∀ a b, Val.cvs (a ++ b) = Val.cvs a + Val.cvs b
  | [], b => by simp [Val.cvs]
  | x :: a, b => by simp only [List.cons_append, Val.cvs, cvs_app a b]; omega
theorem cvs_len : ∀ xs, xs.length ≤ Val.cvs xs
  | [] => Nat.le_refl _
  | x :: xs => by simp only [Val.cvs, List.length_cons]; have := cv_pos x; have := cvs_len xs; omega
theorem size_in : ∀ {xs : List Val} {z : Val}, z ∈ xs → z.size ≤ Val.sizes xs
  | [], _, h => by simp at h
  | x :: xs, z, h => by
    simp only [Val.sizes]
    rcases List.mem_cons.mp h with rfl | h
    · omega
    · have := size_in h; omega
abbrev Lk := Val × Nat
def muV : List Lk → Nat
  | [] => 0
  | (y, 0) :: r => y.cv + muV r
  | (_, 1) :: r => 2 + muV r
  | (_, _ + 2) :: r => 1 + muV r
theorem muV_push : ∀ (zs : List Val) (r : List Lk), muV ((zs.map fun x => (x, 0)).reverse ++ r) = Val.cvs zs + muV r
  | [], r => by simp [Val.cvs]
  | z :: zs, r => by
    rw [List.map_cons, List.reverse_cons, List.append_assoc, muV_push zs]
    simp only [List.cons_append, List.nil_append, muV, Val.cvs]
    omega
theorem muV_pos (t : Lk) (r : List Lk) : muV r < muV (t :: r) := by
  obtain ⟨y, n⟩ := t
  match n with
  | 0 => simp only [muV]; have := cv_pos y; omega
  | 1 => simp only [muV]; omega
  | n + 2 => simp only [muV]; omega
theorem muV_len : ∀ g : List Lk, g.length ≤ muV g
  | [] => Nat.le_refl _
  | t :: r => by have := muV_pos t r; have := muV_len r; rw [List.length_cons]; omega
def OkS (B : Val → Prop) : List Val → List Lk → Prop
  | _, [] => True
  | ab, (y, lv) :: r => (lv = 1 → ∃ xs, y = .l xs ∧ ∀ z ∈ xs, B z ∨ z ∈ ab) ∧ (1 < lv → B y) ∧ OkS B (y :: ab) r
theorem OkS.mono {B B' : Val → Prop} (h : ∀ z, B z → B' z) : ∀ {g : List Lk} {ab ab' : List Val}, (∀ z ∈ ab, B' z ∨ z ∈ ab') → OkS B ab g → OkS B' ab' g
  | [], _, _, _, _ => trivial
  | (y, lv) :: r, ab, ab', hab, ⟨h1, h2, h3⟩ => by
    refine ⟨fun e => ?_, fun e => h y (h2 e), OkS.mono h (fun z hz => ?_) h3⟩
    · obtain ⟨xs, e, h4⟩ := h1 e
      exact ⟨xs, e, fun z hz => (h4 z hz).elim (fun b => .inl (h z b)) fun m => hab z m⟩
    · rcases List.mem_cons.mp hz with e | e
      · exact .inr (by rw [e]; exact List.mem_cons_self ..)
      · exact (hab z e).imp id (List.mem_cons_of_mem _)
theorem okS_push {B : Val → Prop} : ∀ (zs : List Val) (ab : List Val) (r : List Lk), OkS B (zs ++ ab) r → OkS B ab ((zs.map fun x => (x, 0)).reverse ++ r)
  | [], ab, r, h => by simpa using h
  | z :: zs, ab, r, h => by
    rw [List.map_cons, List.reverse_cons, List.append_assoc]
    refine okS_push zs ab _ ⟨fun e => by simp at e, fun e => by simp at e, ?_⟩
    exact h
/-- built already -/
def BB (T : List Val) (kB : List (Key × V)) (y : Val) : Prop := ∃ (m : Nat) (v : V), T[m]? = some y ∧ valV kB (.inl (m : Int)) = some v
theorem BB_at {T : List Val} {kB : List (Key × V)} {y : Val} {m : Nat} (nd : T.Nodup) (h : T[m]? = some y) : BB T kB y ↔ ∃ v, valV kB (.inl (m : Int)) = some v := by
  refine ⟨fun ⟨m', v, h', e⟩ => ?_, fun ⟨v, e⟩ => ⟨m, v, h, e⟩⟩
  rw [nodup_at nd h h']
  exact ⟨v, e⟩
theorem BB_put {T : List Val} {kB : List (Key × V)} {m : Nat} {v : V} (z : Val) (h : BB T kB z) : BB T (putK kB (Sum.inl (m : Int)) v) z := by
  obtain ⟨m', u, h', e⟩ := h
  by_cases q : (Sum.inl (m' : Int) : Key) = Sum.inl (m : Int)
  · exact ⟨m', v, h', by rw [valV_put, if_pos q]⟩
  · exact ⟨m', u, h', by rw [valV_put, if_neg q]; exact e⟩
section
variable {P : Program} {w : World} {K : PySem.W.Frag} {mg : MG} {base : Heap} {C : Addr}
def PvV (K : PySem.W.Frag) (A : SA) (T : List Val) (n : Nat) (x : Val) (bd wq : Addr) (H : Hp) (g : List Lk) (σ : L2.St) (H' : Hp) : Prop :=
  ∃ x4 x5 x6 x7 us kB, σ = [some (.ref A.s), some (.int (n : Int)), some (.ref bd), some (.ref wq), x4, x5, x6, x7] ∧ Fr [] H H' ∧ H' bd = some (.dK kB) ∧ H' wq = some (.lst us) ∧ All2 (fun t v => NumOf T t.1 v) g.reverse us ∧
    (∀ (m : Nat) v, valV kB (.inl (m : Int)) = some v → ∃ y, T[m]? = some y ∧ IsV K H' y v) ∧ OkS (BB T kB) [] g ∧ (∀ t ∈ g, t.1.size ≤ 200000) ∧ kB.length + muV g ≤ 700000 ∧ (BB T kB x ∨ ∃ lv, (x, lv) ∈ g)
def spSVal (P : Program) (w : World) (K : PySem.W.Frag) (C : Addr) : Sp := fun vs H Q _ => ∃ (A : SA) (T : List Val) (n : Nat) (x : Val), vs = [.ref A.s, .int (n : Int)] ∧ StOk P w C H A T ∧ T[n]? = some x ∧ x.size ≤ 200000 ∧ ∀ H' v, Fr [] H H' → IsV K H' x v → Q v H'
theorem sc_Store_value_of : FnScope ["self", "number", "built", "waiting", "one", "items", "missing", "item"] ["self", "number"] (defScope s_Store_value_of) := ⟨rfl, rfl, rfl, by decide +kernel, rfl, by decide +kernel, by decide +kernel⟩
theorem ok_SVal (F : Fm K C "value_of" "Store.value_of" s_Store_value_of) (B : Bn mg) (cS : ClsS K C) (gE : GInt mg "EMPTY" 0) (D_Store_is_word : Dm P w K mg base C "is_word" ["self", "number"] 1 (spSWord P w C)) (D_Store_items_of : Dm P w K mg base C "items_of" ["self", "number"] 1 (spSItems P w C)) :
    Dm P w K mg base C "value_of" ["self", "number"] 2 (spSVal P w K C) := by
  have c_Store := cS.cls
  refine Dm.of F sc_Store_value_of (fun _ _ _ _ _ _ us hl => match us, hl with | [_, _], _ => rfl) (fun vs H Q E h => ?_) (fun f cdv A outer s H vs Q E hr h => ?_)
  · obtain ⟨_, _, _, _, rfl, _⟩ := h
    rfl
  obtain ⟨A, T, n, x, rfl, st, hn, hz, q⟩ := h
  have hu := hu_of hr
  have nd := sc_Store_value_of.nd
  refine ⟨_, (pss_cons (ps_set (i := 2) nd rfl (.inr rfl) (pe_disp (pps_cons (pe_gint gE) (pe_tup pa_nil) pps_nil) (by rfl) (by rfl) (fun z => by cases z) (by decide)))
    (pss_cons (ps_set (i := 3) nd rfl (.inl rfl) (pe_lst (pa_cons (pv 1) pa_nil)))
    (pss_cons (ps_while PassesOwn.never (pt_cmpR op_gt (pe_callB call_len_seq (by rfl) B.len bLen (pa_cons (pv 3) pa_nil)) pe_int (nomark _))
      (pss_cons (ps_set (i := 4) nd rfl (.inl rfl) (pe_ix ix_list (pv 3) (pe_un un_neg pe_int) (fun _ _ => rfl)))
      (pss_one (ps_if (pt_cmp (pc_din hu (pv 4) (pv 2)))
        (pss_one (ps_expr (pe_bm0 PySem.F.plainAttrs_list PySem.F.slot_list_pop PySem.F.type_list_pop mt_pop (pv 3))))
        (pss_one (ps_if (pt_val (pe_cm D_Store_is_word c_Store (hr.mono (by decide)) (pv 0) (pa_cons (pv 4) pa_nil)))
          (pss_one (ps_dput hu (pv 2) (pv 4) (pe_ix ix_list (pe_fld (pv 0) rfl) (pv 4) (fun _ _ => rfl)) rfl))
          (pss_cons (ps_set (i := 5) nd rfl (.inl rfl) (pe_cm D_Store_items_of c_Store (hr.mono (by decide)) (pv 0) (pa_cons (pv 4) pa_nil)))
          (pss_cons (ps_setLc (i := 6) (own := [("item", 7)]) (g := gName 7) rfl nd rfl rfl (sw_true rfl rfl rfl (by decide +kernel)) (pi_list (pv 5)) (blkOk_by (N := ["self", "number", "built", "waiting", "one", "items", "missing", "item"]) (sc := defScope s_Store_value_of) (by decide +kernel)) (fun _ _ _ _ _ => pg_name (i := 7) nd rfl (.inl rfl)) (fun _ _ _ _ _ => (pts_one (pt_cmp (pc_dnotin hu (pv 7) (pv 2))))) (fun _ _ _ _ _ => (pv 7)))
          (pss_cons (ps_if (pt_cmpR op_eq (pe_callB call_len_seq (by rfl) B.len bLen (pa_cons (pv 6) pa_nil)) pe_int (nomark _))
            (pss_one (ps_dput hu (pv 2) (pv 4) (pe_tupleOf (by rfl) B.tuple (pe_lc (own := [("item", 7)]) (g := gName 7) (tt := tYes) rfl nd (pi_list (pv 5)) (blkOk_by (N := ["self", "number", "built", "waiting", "one", "items", "missing", "item"]) (sc := defScope s_Store_value_of) (by decide +kernel)) (fun _ _ _ _ _ => pg_name (i := 7) nd rfl (.inl rfl)) (fun _ _ _ _ _ => pts_nil) (fun _ _ _ _ _ => (pe_dget hu (pv 2) (pv 7) (fun _ _ => rfl))))) rfl))
            pss_nil)
          (pss_one (ps_expr (pe_bm PySem.F.plainAttrs_list PySem.F.slot_list_extend PySem.F.type_list_extend mt_extend (pv 3) (pa_cons (pv 6) pa_nil)))))))))))))
    (pss_one (ps_ret (pe_dget hu (pv 2) (pv 1) (fun _ _ => rfl))))))), ?_⟩
  refine fun bd hbd => ?_
  refine ⟨(by show 0 ≤ sizeLine; decide), fun T0 hT0 => ?_⟩
  have f1 : Fr [] H (upd H bd (.dK [])) := Fr.new hbd _
  have nT : T0 ≠ bd := fun z => by rw [z, upd_same] at hT0; cases hT0
  refine ⟨by rw [upd_ne (Ne.symm nT)]; exact upd_same, [(Sum.inl 0, .ref T0)], rfl, (by show 1 ≤ 15; decide), ?_⟩
  have f2 := f1.trans (Fr.new (S := []) hT0 (.tup []))
  have f3 : Fr [] H (upd (upd (upd H bd (.dK [])) T0 (.tup [])) bd (.dK (mergeK [] [(Sum.inl 0, .ref T0)]))) := f2.over hbd _
  have e1 : upd (upd (upd H bd (.dK [])) T0 (.tup [])) bd (.dK (mergeK [] [(Sum.inl 0, .ref T0)])) bd = some (.dK [(Sum.inl 0, .ref T0)]) := upd_same
  have e2 : upd (upd (upd H bd (.dK [])) T0 (.tup [])) bd (.dK (mergeK [] [(Sum.inl 0, .ref T0)])) T0 = some (.tup []) := by rw [upd_ne nT]; exact upd_same
  generalize upd (upd (upd H bd (.dK [])) T0 (.tup [])) bd (.dK (mergeK [] [(Sum.inl 0, .ref T0)])) = H2 at *
  refine ⟨_, rfl, (by show 1 ≤ sizeLine; decide), fun wq hwq => ?_⟩
  have nw : wq ≠ bd := fun z => by rw [z, e1] at hwq; cases hwq
  have hwq0 : H wq = none := f3.free (by simp) hwq
  have f4 := f3.trans (Fr.new (S := []) hwq (.lst [.int (n : Int)]))
  have hcv := cv_le x
  refine while_g (G := List Lk) (PvV K A T n x bd wq H) muV [(x, 0)]
    ⟨none, none, none, none, [.int (n : Int)], [(Sum.inl 0, .ref T0)], rfl, f4, by rw [upd_ne (Ne.symm nw)]; exact e1, upd_same, All2.one ⟨n, rfl, hn⟩, fun m v hv => ?_, ⟨fun z => by simp at z, fun z => by simp at z, trivial⟩, fun t ht => by rw [List.mem_singleton.mp ht]; exact hz, by simp only [muV, List.length_singleton]; omega, .inr ⟨0, List.mem_cons_self ..⟩⟩ ?_
  · by_cases m0 : m = 0
    · subst m0
      obtain rfl : v = .ref T0 := by rw [show valV [((Sum.inl 0 : Key), V.ref T0)] (Sum.inl ((0 : Nat) : Int)) = some (.ref T0) from valV_pos rfl] at hv; exact (Option.some.inj hv).symm
      exact ⟨.l [], st.zero, isV_l (.of ((Fr.new (S := []) hwq _).tup _ _ e2)) rfl⟩
    · rw [valV_neg (fun z => m0 (Int.ofNat.inj (Sum.inl.inj z)).symm)] at hv
      cases hv
  rintro g σ H' ⟨x4, x5, x6, x7, us, kB, rfl, fr, hb, hw, hus, hKB, hok, hsz, hmu, hx⟩
  have hlen := hus.len
  rw [List.length_reverse] at hlen
  refine ⟨_, rfl, wq, _, rfl, .inl (.of hw), _, _, rfl, rfl, _, rfl, ?_⟩
  cases g with
  | nil =>
    rw [decide_eq_false (by rw [hlen]; decide)]
    refine iteF ?_
    obtain ⟨m, v, hm, hv⟩ := hx.elim id fun ⟨_, z⟩ => by simp at z
    obtain ⟨y, hy, hyv⟩ := hKB m v hv
    rw [hm] at hy
    cases hy
    rw [nodup_at st.nd hm hn] at hv
    exact ⟨_, rfl, _, rfl, bd, v, rfl, by rw [← hv]; exact DGet.k (k := Sum.inl (n : Int)) hb, q H' v fr hyv⟩
  | cons t r =>
  rw [decide_eq_true (by rw [hlen, List.length_cons]; show (0 : Int) < ((r.length + 1 : Nat) : Int); omega)]
  refine iteT ?_
  refine ⟨_, while_n (G := List Lk) (mu := muV), ?_⟩
  rw [List.reverse_cons] at hus
  have husF := hus
  obtain ⟨us, u, rfl, husA, k, rfl, hk⟩ := hus.last
  refine ⟨_, rfl, 1, rfl, wq, _, _, _, rfl, rfl, .of hw, atI_last _ _, ?_⟩
  obtain ⟨y, lv⟩ := t
  simp only at hk
  obtain ⟨ho1, ho2, ho3⟩ := hok
  have hys : y.size ≤ 200000 := hsz (y, lv) (List.mem_cons_self ..)
  have hszr : ∀ t ∈ r, t.1.size ≤ 200000 := fun t ht => hsz t (List.mem_cons_of_mem _ ht)
  have hpos := muV_pos (y, lv) r
  have hml := muV_len r
  refine ⟨_, rfl, _, rfl, bd, _, rfl, DGet.k (k := Sum.inl (k : Int)) hb, _, rfl, ?_⟩
  have hat := BB_at st.nd hk (kB := kB)
  rw [List.length_append, List.length_singleton, List.length_cons] at hlen
  -- built: put it in
  have putB : ∀ (H9 : Hp) (v : V) (x5 x6 x7 : Option V), Fr [bd, wq] H' H9 → H9 bd = some (.dK (putK kB (Sum.inl (k : Int)) v)) → H9 wq = some (.lst (us ++ [.int (k : Int)])) → IsV K H9 y v → valV kB (.inl (k : Int)) = none → (1 < muV ((y, lv) :: r) - muV r) →
      ∃ g' : List Lk, muV g' < muV ((y, lv) :: r) ∧ PvV K A T n x bd wq H g' [some (.ref A.s), some (.int (n : Int)), some (.ref bd), some (.ref wq), some (.int (k : Int)), x5, x6, x7] H9 := by
    intro H9 v x5 x6 x7 f eb ew hv hno hlt
    have by' : BB T (putK kB (Sum.inl (k : Int)) v) y := ⟨k, v, hk, by rw [valV_put, if_pos rfl]⟩
    have hpl := length_putK kB (Sum.inl (k : Int) : Key) v
    refine ⟨(y, 2) :: r, by simp only [muV]; omega, _, _, _, _, us ++ [.int (k : Int)], putK kB (Sum.inl (k : Int)) v, rfl, fr.drop f (fun a ha => .inr ?_), eb, ew, by rw [List.reverse_cons]; exact husA.app (All2.one ⟨k, rfl, hk⟩), fun m u hu => ?_, ⟨fun z => by simp at z, fun _ => by', OkS.mono (fun z hz => BB_put z hz) (fun z hz => .inr hz) ho3⟩, fun t ht => ?_, by simp only [muV]; omega, ?_⟩
    · simp only [List.mem_cons, List.not_mem_nil, or_false] at ha
      rcases ha with rfl | rfl
      · exact hbd
      · exact hwq0
    · rw [valV_put] at hu
      by_cases qq : (Sum.inl (m : Int) : Key) = Sum.inl (k : Int)
      · rw [if_pos qq] at hu
        cases hu
        have : m = k := Int.ofNat.inj (Sum.inl.inj qq)
        subst this
        exact ⟨y, hk, hv⟩
      · rw [if_neg qq] at hu
        obtain ⟨z, hz, hzv⟩ := hKB m u hu
        exact ⟨z, hz, hzv.fr f⟩
    · rcases List.mem_cons.mp ht with e | e
      · rw [e]; exact hys
      · exact hszr t e
    · rcases hx with hx | ⟨l2, hx⟩
      · exact .inl (BB_put x hx)
      · rcases List.mem_cons.mp hx with e | e
        · cases e; exact .inl by'
        · exact .inr ⟨l2, List.mem_cons_of_mem _ e⟩
  cases hvk : valV kB (Sum.inl (k : Int)) with
  | some v =>
    refine iteT ?_
    have hB : BB T kB y := ⟨k, v, hk, hvk⟩
    have k1 : Fr [wq] H' (upd H' wq (.lst us)) := Fr.set (List.mem_singleton.mpr rfl) hw (fun _ z => by cases z) _
    refine ⟨_, rfl, .inl ⟨rfl, _, .of hw⟩, wq, _, _, rfl, rfl, hw, pop_at _ _, ?_⟩
    rw [List.dropLast_concat]
    refine ⟨r, hpos, _, _, _, _, us, kB, rfl, fr.over hwq0 _, by rw [upd_ne (Ne.symm nw)]; exact hb, upd_same, husA, fun m u hu => ?_, ?_, hszr, by omega, ?_⟩
    · obtain ⟨z, hz, hzv⟩ := hKB m u hu
      exact ⟨z, hz, hzv.fr k1⟩
    · exact OkS.mono (fun _ h => h) (fun z hz => .inl (by rw [List.mem_singleton.mp hz]; exact hB)) ho3
    · rcases hx with hx | ⟨l2, hx⟩
      · exact .inl hx
      · rcases List.mem_cons.mp hx with e | e
        · cases e; exact .inl hB
        · exact .inr ⟨l2, e⟩
  | none =>
  have nB : ¬ BB T kB y := fun z => by
    obtain ⟨v, e⟩ := hat.mp z
    rw [hvk] at e; cases e
  have hlv : lv ≤ 1 := by
    rcases Nat.lt_or_ge 1 lv with h | h
    · exact absurd (ho2 h) nB
    · exact h
  refine iteF ?_
  have st' := st.keep fr
  obtain ⟨es, h1, h2, h3⟩ := st'.ent
  refine ⟨_, rfl, A.s, A.dx, _, rfl, st'.obj, rfl, _, rfl, A, T, k, y, rfl, st', hk, _, rfl, ?_⟩
  cases y with
  | w s =>
    refine iteT ?_
    obtain ⟨v, hv, e⟩ := h3 k _ hk
    have lv0 : lv = 0 := by
      rcases Nat.eq_zero_or_pos lv with z | z
      · exact z
      · obtain ⟨xs, e, _⟩ := ho1 (by omega)
        cases e
    subst lv0
    have hkl : kB.length < sizeLine := smallB (by omega)
    exact ⟨_, rfl, A.s, C, A.dx, _, _, rfl, st'.obj, cS.cls, cS.nE, rfl, _, rfl, A.le, es, _, v, rfl, rfl, .of h1, atI_nat hv, _, rfl, _, rfl, bd, _, rfl, DPut.k (k := Sum.inl (k : Int)) hb hkl, putB _ v _ _ _ (Fr.set (by simp) hb (fun _ z => by cases z) _) upd_same (by rw [upd_ne nw]; exact hw) e hvk (by simp only [muV, Val.cv]; omega)⟩
  | l xs =>
  refine iteF ?_
  have hxl := sizes_len xs
  simp only [Val.size] at hys
  refine ⟨_, rfl, A.s, A.dx, _, rfl, st'.obj, rfl, _, rfl, A, T, k, xs, rfl, st', hk, by omega, fun H2 l us2 f2 hl hl2 hus2 => ?_⟩
  have ul2 := hus2.len
  have hb2 := f2.keep bd _ (by simp) hb
  have lb : l ≠ bd := fun z => by rw [z, hb] at hl; cases hl
  refine ⟨_, rfl, l, rfl, ⟨us2, .of hl2⟩, fun D hD => lc_list (K := K) (a := l) (xs := us2) (fun i H3 => ∃ zs acc, H3 D = some (.lst acc) ∧ Fr [] H2 H3 ∧ All2 (NumOf T) zs acc ∧ (∀ z ∈ zs, z ∈ xs ∧ ¬ BB T kB z) ∧ (∀ z ∈ xs.take i, BB T kB z ∨ z ∈ zs) ∧ Val.cvs zs ≤ Val.cvs (xs.take i))
    ⟨[], [], upd_same, Fr.new hD _, rfl, fun z hz => by simp at hz, fun z hz => by simp at hz, Nat.zero_le _⟩ (fun i H3 _ ⟨_, _, _, f, _⟩ => .of (f.keep l _ (by simp) hl2)) ?_ ?_⟩
  · rintro i z H3 hz' ⟨zs, acc, ha, f, hacc, hz1, hz2, hz3⟩
    obtain ⟨y, hy, m, rfl, hm⟩ := hus2.get' hz'
    have hmem := List.mem_of_getElem? hy
    have eB := BB_at st.nd hm (kB := kB)
    refine ⟨rfl, _, rfl, _, rfl, bd, _, rfl, DGet.k (k := Sum.inl (m : Int)) (f.keep bd _ (by simp) hb2), _, rfl, ?_⟩
    have etk : xs.take (i + 1) = xs.take i ++ [y] := by rw [List.take_add_one, hy]; rfl
    cases hvm : valV kB (Sum.inl (m : Int)) with
    | some v =>
      refine iteF ?_
      refine ⟨zs, acc, ha, f, hacc, hz1, fun z hz => ?_, by rw [etk, cvs_app]; omega⟩
      rw [etk] at hz
      rcases List.mem_append.mp hz with h | h
      · exact hz2 z h
      · rw [List.mem_singleton.mp h]; exact .inl (eB.mpr ⟨v, hvm⟩)
    | none =>
      refine iteT ?_
      have hal := hacc.len
      have hzl := cvs_len zs
      have hcx := cvs_le xs
      have hct : Val.cvs (xs.take i) ≤ Val.cvs xs := by
        have h9 : Val.cvs (xs.take i ++ xs.drop i) = Val.cvs xs := by rw [List.take_append_drop]
        rw [cvs_app] at h9
        omega
      refine ⟨_, rfl, acc, ha, smallB (by omega), zs ++ [y], _, upd_same, f.over hD _, hacc.app (All2.one ⟨m, rfl, hm⟩), fun z hz => ?_, fun z hz => ?_, by rw [etk, cvs_app, cvs_app]; simp only [Val.cvs]; omega⟩
      · rcases List.mem_append.mp hz with h | h
        · exact hz1 z h
        · rw [List.mem_singleton.mp h]
          refine ⟨hmem, fun b => ?_⟩
          obtain ⟨v, e⟩ := eB.mp b
          rw [hvm] at e; cases e
      · rw [etk] at hz
        rcases List.mem_append.mp hz with h | h
        · exact (hz2 z h).imp id (List.mem_append_left _)
        · exact .inr (List.mem_append_right _ h)
  rintro H3 ⟨zs, acc, ha, f, hacc, hz1, hz2, hz3⟩
  rw [ul2, List.take_length] at hz2 hz3
  have hal := hacc.len
  have hb3 := f.keep bd _ (by simp) hb2
  have f23 := f2.trans f
  have hw3 := f23.keep wq _ (by simp) hw
  refine ⟨_, rfl, D, _, rfl, .inl (.of ha), rfl, _, rfl, ?_⟩
  have hzl := cvs_len zs
  have hcx := cvs_le xs
  have z0 : lv = 1 → zs = [] := fun e => by
    obtain ⟨xs', e', h4⟩ := ho1 e
    cases e'
    cases zs with
    | nil => rfl
    | cons z zs =>
      obtain ⟨a1, a2⟩ := hz1 z (List.mem_cons_self ..)
      exact ((h4 z a1).elim a2 fun m => by simp at m).elim
  cases zs with
  | nil =>
    obtain rfl : acc = [] := hacc
    rw [decide_eq_true (show V.int ((([] : List V).length : Nat) : Int) = V.int 0 from rfl)]
    refine iteT ?_
    have allB : ∀ z ∈ xs, BB T kB z := fun z hz => (hz2 z hz).elim id fun m => by simp at m
    refine ⟨_, rfl, l, rfl, ⟨us2, .of (f.keep l _ (by simp) hl2)⟩, fun D2 hD2 => lc_list (K := K) (a := l) (xs := us2) (fun i H4 => ∃ acc, H4 D2 = some (.lst acc) ∧ Fr [] H3 H4 ∧ IsVs K H4 (xs.take i) acc)
      ⟨[], upd_same, Fr.new hD2 _, rfl⟩ (fun i H4 _ ⟨_, _, f', _⟩ => .of (f'.keep l _ (by simp) (f.keep l _ (by simp) hl2))) ?_ ?_⟩
    · rintro i z H4 hz' ⟨acc, ha2, f5, hacc2⟩
      obtain ⟨y, hy, m, rfl, hm⟩ := hus2.get' hz'
      obtain ⟨v, hv⟩ := (BB_at st.nd hm).mp (allB y (List.mem_of_getElem? hy))
      obtain ⟨y', hy', hyv⟩ := hKB m v hv
      rw [hm] at hy'
      cases hy'
      have hal2 := hacc2.len
      rw [List.length_take] at hal2
      have k2 : Fr [D2] H4 (upd H4 D2 (.lst (acc ++ [v]))) := Fr.set (List.mem_singleton.mpr rfl) ha2 (fun _ z => by cases z) _
      refine ⟨rfl, _, rfl, _, rfl, bd, v, rfl, by rw [← hv]; exact DGet.k (k := Sum.inl (m : Int)) (f5.keep bd _ (by simp) hb3), acc, ha2, smallB (by omega), _, upd_same, f5.over hD2 _, ?_⟩
      rw [List.take_add_one, hy]
      exact (hacc2.fr k2).app (IsVs.one ((hyv.fr (f23.trans f5)).fr k2))
    · rintro H4 ⟨acc, ha2, f5, hacc2⟩
      rw [ul2, List.take_length] at hacc2
      refine .inl ⟨D2, _, rfl, .of ha2, fun p hp => ?_⟩
      have k6 : Fr [] H4 (upd H4 p (.tup acc)) := Fr.new hp _
      have fq := (f23.trans f5).trans k6
      have hkl : kB.length < sizeLine := smallB (by omega)
      refine ⟨_, rfl, _, rfl, bd, _, rfl, DPut.k (k := Sum.inl (k : Int)) (fq.keep bd _ (by simp) hb) hkl, ?_⟩
      have lvc : 1 < muV ((Val.l xs, lv) :: r) - muV r := by
        rcases Nat.eq_zero_or_pos lv with z | z
        · subst z; simp only [muV, Val.cv]; omega
        · obtain rfl : lv = 1 := by omega
          simp only [muV]; omega
      have k7 : Fr [bd] (upd H4 p (.tup acc)) (upd (upd H4 p (.tup acc)) bd (.dK (putK kB (Sum.inl (k : Int)) (.ref p)))) := Fr.set (List.mem_singleton.mpr rfl) (fq.keep bd _ (by simp) hb) (fun _ z => by cases z) _
      have eb7 : upd (upd H4 p (.tup acc)) bd (.dK (putK kB (Sum.inl (k : Int)) (.ref p))) bd = some (.dK (putK kB (Sum.inl (k : Int)) (.ref p))) := upd_same
      have ew7 : upd (upd H4 p (.tup acc)) bd (.dK (putK kB (Sum.inl (k : Int)) (.ref p))) wq = some (.lst (us ++ [.int (k : Int)])) := by rw [upd_ne nw]; exact fq.keep wq _ (by simp) hw
      have Db : D ≠ bd := fun z => by rw [z, hb2] at hD; cases hD
      have eD7 : upd (upd H4 p (.tup acc)) bd (.dK (putK kB (Sum.inl (k : Int)) (.ref p))) D = some (.lst []) := by rw [upd_ne Db]; exact k6.keep D _ (by simp) (f5.keep D _ (by simp) ha)
      have ev7 : IsV K (upd (upd H4 p (.tup acc)) bd (.dK (putK kB (Sum.inl (k : Int)) (.ref p)))) (.l xs) (.ref p) := (isV_l (.of upd_same) (hacc2.fr k6) : IsV K (upd H4 p (.tup acc)) (.l xs) (.ref p)).fr k7
      have f7 := (fq.mono (T := [bd, wq]) (by simp)).trans (k7.mono (T := [bd, wq]) (by simp))
      generalize upd (upd H4 p (.tup acc)) bd (.dK (putK kB (Sum.inl (k : Int)) (.ref p))) = H7 at *
      have k8 : Fr [bd, wq] H7 (upd H7 wq (.lst ((us ++ [.int (k : Int)]) ++ []))) := Fr.set (by simp) ew7 (fun _ z => by cases z) _
      refine ⟨_, rfl, .inl ⟨rfl, _, .of ew7⟩, _, rfl, wq, D, _, [], rfl, rfl, ew7, eD7, Nat.le_of_lt (smallB (by rw [List.length_append, List.length_singleton, List.length_nil]; omega)), ?_⟩
      exact putB _ (.ref p) _ _ _ (f7.trans k8) (by rw [upd_ne (Ne.symm nw)]; exact eb7) (by rw [upd_same, List.append_nil]) (ev7.fr k8) hvk lvc
  | cons z zs =>
    have acne : acc.length = zs.length + 1 := by rw [hal]; rfl
    rw [decide_eq_false (fun z => by injection z with z; omega)]
    refine iteF ?_
    have lv0 : lv = 0 := by
      rcases Nat.eq_zero_or_pos lv with h | h
      · exact h
      · exact absurd (z0 (by omega)) (by simp)
    subst lv0
    simp only [muV, Val.cv] at hmu ⊢
    rw [List.length_cons] at hzl
    have k8 : Fr [wq] H3 (upd H3 wq (.lst ((us ++ [.int (k : Int)]) ++ acc))) := Fr.set (List.mem_singleton.mpr rfl) hw3 (fun _ z => by cases z) _
    refine ⟨_, rfl, .inl ⟨rfl, _, .of hw3⟩, _, rfl, wq, D, _, acc, rfl, rfl, hw3, ha, Nat.le_of_lt (smallB (by rw [List.length_append, List.length_singleton]; omega)), ((z :: zs).map fun x => (x, 0)).reverse ++ (.l xs, 1) :: r, ?_, _, _, _, _, _, kB, rfl, (fr.trans f23).over hwq0 _, by rw [upd_ne (Ne.symm nw)]; exact hb3, upd_same, ?_, fun m u hu => ?_, ?_, fun t ht => ?_, ?_, ?_⟩
    · rw [muV_push]; simp only [muV]; omega
    · simp only [List.reverse_append, List.reverse_reverse, List.reverse_cons]
      refine (husA.app (All2.one ⟨k, rfl, hk⟩)).app ?_
      exact All2.map (f := fun x => ((x, 0) : Lk)) (S := fun t v => NumOf T t.1 v) (fun _ _ h => h) hacc
    · obtain ⟨y', hy', hyv⟩ := hKB m u hu
      exact ⟨y', hy', (hyv.fr f23).fr k8⟩
    · refine okS_push _ _ _ ⟨fun _ => ⟨xs, rfl, fun u hu => (hz2 u hu).imp id fun m => by rw [List.append_nil]; exact m⟩, fun e => by simp at e, ?_⟩
      exact OkS.mono (fun _ h => h) (fun u hu => .inr (by rw [List.mem_singleton.mp hu]; exact List.mem_cons_self ..)) ho3
    · rcases List.mem_append.mp ht with h | h
      · rw [List.mem_reverse] at h
        obtain ⟨u, hu, rfl⟩ := List.mem_map.mp h
        have := size_in (hz1 u hu).1
        simp only
        omega
      · rcases List.mem_cons.mp h with e | e
        · rw [e]; simp only [Val.size]; exact hys
        · exact hszr t e
    · rw [muV_push]; simp only [muV]; omega
    · rcases hx with hx | ⟨l2, hx⟩
      · exact .inl hx
      · rcases List.mem_cons.mp hx with e | e
        · cases e
          exact .inr ⟨1, List.mem_append_right _ (List.mem_cons_self ..)⟩
        · exact .inr ⟨l2, List.mem_append_right _ (List.mem_cons_of_mem _ e)⟩
end
end Og

set_option Elab.async false
set_option linter.all false
set_option maxRecDepth 100000
set_option maxHeartbeats 4000000
/-! Og6: Run, is_instruction. -/
namespace Og
open PySem PySem.Spec PyProof.Rows L2
/-- the class Run -/
structure ClsR (K : PySem.W.Frag) (C : Addr) : Prop where
  cls : Cls K C
  nK : NoAttr K C "kind"
  nV : NoAttr K C "value"
  nS : NoAttr K C "steps"
section
variable {P : Program} {w : World} {K : PySem.W.Frag} {mg : MG} {base : Heap} {C : Addr}
def spRInit (C : Addr) : Sp := fun vs H Q _ => ∃ s dx a b c, vs = [.ref s, a, b, c] ∧ H s = some (.ins C dx []) ∧ ∀ H', Fr [s] H H' → H' s = some (.ins C dx [("kind", a), ("value", b), ("steps", c)]) → Q .non H'
theorem sc_Run_init : FnScope ["self", "kind", "value", "steps"] ["self", "kind", "value", "steps"] (defScope s_Run_init) := ⟨rfl, rfl, rfl, by decide +kernel, rfl, by decide +kernel, by decide +kernel⟩
theorem ok_RInit (F : Fk K mg "Run" C "Run.__init__" s_Run_init) (cR : ClsR K C) : Dk P w K mg base "Run" C ["self", "kind", "value", "steps"] 1 (spRInit C) := by
  refine Dk.of F sc_Run_init (fun _ _ _ _ _ _ us hl => match us, hl with | [_, _, _, _], _ => rfl) (fun vs H Q E h => ?_) (fun f cdv A outer s H vs Q E hr h => ?_)
  · obtain ⟨_, _, _, _, _, rfl, _⟩ := h
    rfl
  obtain ⟨so, dx, a, b, c, rfl, hs, q⟩ := h
  have hu := hu_of hr
  have nd := sc_Run_init.nd
  refine ⟨_, (pss_cons (ps_fld (pv 0) (pv 1) rfl)
    (pss_cons (ps_fld (pv 0) (pv 2) rfl)
    (pss_one (ps_fld (pv 0) (pv 3) rfl)))), ?_⟩
  refine ⟨_, rfl, _, rfl, so, C, dx, _, rfl, hs, cR.cls, cR.nK, by decide, ?_⟩
  have f1 : Fr [so] H (upd H so (.ins C dx (putF "kind" a []))) := Fr.set (List.mem_singleton.mpr rfl) hs (fun _ z => by cases z) _
  have e1 : upd H so (.ins C dx (putF "kind" a [])) so = some (.ins C dx [("kind", a)]) := upd_same
  generalize upd H so (.ins C dx (putF "kind" a [])) = H1 at *
  refine ⟨_, rfl, _, rfl, so, C, dx, _, rfl, e1, cR.cls, cR.nV, (by show 1 < 1000; decide), ?_⟩
  have f2 : Fr [so] H1 (upd H1 so (.ins C dx (putF "value" b [("kind", a)]))) := Fr.set (List.mem_singleton.mpr rfl) e1 (fun _ z => by cases z) _
  have e2 : upd H1 so (.ins C dx (putF "value" b [("kind", a)])) so = some (.ins C dx [("kind", a), ("value", b)]) := upd_same
  generalize upd H1 so (.ins C dx (putF "value" b [("kind", a)])) = H2 at *
  refine ⟨_, rfl, _, rfl, so, C, dx, _, rfl, e2, cR.cls, cR.nS, (by show 2 < 1000; decide), ?_⟩
  have f3 : Fr [so] H2 (upd H2 so (.ins C dx (putF "steps" c [("kind", a), ("value", b)]))) := Fr.set (List.mem_singleton.mpr rfl) e2 (fun _ z => by cases z) _
  exact q _ ((f1.trans f2).trans f3) upd_same
/-! ### is_instruction -/
def Ins.word : Ins → Str
  | .push _ => "push"
  | .copy _ => "copy"
  | .slide _ => "slide"
  | .pr p => p.str
  | .call _ => "call"
  | .cond _ _ => "if"
def Ins.args : Ins → List Val
  | .push v => [v]
  | .copy ns => [.l ns]
  | .slide ns => [.l ns]
  | .pr _ => []
  | .call v => [v]
  | .cond a b => [a, b]
theorem ins_val (i : Ins) : i.val = .l (.w i.word :: i.args) := by cases i <;> simp only [Ins.val, Ins.word, Ins.args]
def spIsIns (K : PySem.W.Frag) : Sp := fun vs H Q _ => ∃ (i : Ins) (v : V), vs = [v] ∧ IsV K H i.val v ∧ ∀ H', Fr [] H H' → Q (.bl true) H'
theorem sc_is_instruction : FnScope ["value"] ["value"] (defScope s_is_instruction) := ⟨rfl, rfl, rfl, by decide +kernel, rfl, by decide +kernel, by decide +kernel⟩
theorem ok_isIns (F : Fg K mg "is_instruction" s_is_instruction) (B : Bn mg) (G : GTab K w mg "LENGTHS" LEN) : Df P w K mg base "is_instruction" ["value"] 1 (spIsIns K) := by
  refine Df.of F sc_is_instruction (fun _ _ _ _ _ _ us hl => match us, hl with | [_], _ => rfl) (fun vs H Q E h => ?_) (fun f cdv A outer s H vs Q E hr h => ?_)
  · obtain ⟨_, _, rfl, _⟩ := h
    rfl
  obtain ⟨i, v, rfl, hv, q⟩ := h
  obtain ⟨d0, m0, T⟩ := G
  have hu := hu_of hr
  have nd := sc_is_instruction.nd
  refine ⟨_, (pss_cons (ps_if (PW.pt (pw_or (pt_val (pe_isS2 B (pv 0))) (pw_or (pt_cmpR op_eq (pe_callB call_len_seq (by rfl) B.len bLen (pa_cons (pv 0) pa_nil)) pe_int (nomark _)) (pw_or1 (pt_not (pt_val (pe_isS2 B (pe_ix ix_tup (pv 0) pe_int (fun _ _ => rfl)))))))))
      (pss_one (ps_ret pe_bl))
      pss_nil)
    (pss_cons (ps_if (PW.pt (pw_or (pt_cmpR (op_notIn_tab T) (pe_ix ix_tup (pv 0) pe_int (fun _ _ => rfl)) (pe_gtab m0) (by rfl)) (pw_or1 (pt_cmpR op_ne (pe_tab T (pe_gtab m0) (pe_ix ix_tup (pv 0) pe_int (fun _ _ => rfl)) (fun _ _ => rfl)) (pe_callB call_len_seq (by rfl) B.len bLen (pa_cons (pv 0) pa_nil)) (nomark _)))))
      (pss_one (ps_ret pe_bl))
      pss_nil)
    (pss_one (ps_ret (pe_or (pe_cmpR op_notIn_seq (pe_ix ix_tup (pv 0) pe_int (fun _ _ => rfl)) (pe_tup (pa_cons pe_str (pa_cons pe_str pa_nil))) (by rfl)) (pe_one (pe_not (pe_isS2 B (pe_ix ix_tup (pv 0) pe_int (fun _ _ => rfl)))))))))), ?_⟩
  rw [ins_val] at hv
  have hv' := hv
  obtain ⟨a, vs, rfl, t, vx, r1, rfl, e, hr1⟩ := hv
  obtain rfl : vx = .str i.word := e
  have hl := hr1.len
  have hlen : LEN.lookup i.word = some (((i.args.length + 1 : Nat) : Int)) := by
    cases i with
    | pr p => cases p <;> rfl
    | _ => rfl
  refine ⟨_, rfl, _, _, rfl, hv', false, rfl, ?_⟩
  refine iteF ?_
  refine ⟨_, rfl, a, _, rfl, .inr t.sq, rfl, _, rfl, ?_⟩
  rw [decide_eq_false (by rw [List.length_cons]; intro z; injection z with z; omega)]
  refine iteF ?_
  refine ⟨_, rfl, a, _, _, _, rfl, rfl, t.sq, at0, _, .w i.word, rfl, rfl, true, rfl, ?_⟩
  refine iteF ?_
  refine ⟨_, rfl, a, _, _, _, rfl, rfl, t.sq, at0, i.word, rfl, rfl, _, rfl, ?_⟩
  rw [hlen]
  refine iteF ?_
  refine ⟨_, rfl, a, _, _, _, rfl, rfl, t.sq, at0, i.word, _, rfl, rfl, hlen, _, rfl, a, _, rfl, .inr t.sq, rfl, _, rfl, ?_⟩
  rw [decide_eq_true (show V.int ((i.args.length + 1 : Nat) : Int) = V.int (((V.str i.word :: r1).length : Nat) : Int) by rw [List.length_cons, hl])]
  refine iteF ?_
  refine ⟨_, rfl, a, _, _, _, rfl, rfl, t.sq, at0, (by show 2 ≤ sizeLine; decide), fun p hp => ?_⟩
  have f1 : Fr [] H (upd H p (.tup [.str "copy", .str "slide"])) := Fr.new hp _
  refine ⟨p, _, rfl, .inr (.of upd_same), rfl, rfl, _, rfl, ?_⟩
  show if (!inV (.str i.word) ((["copy", "slide"] : List Str).map V.str)) = true then _ else _
  rw [inV_str]
  by_cases hc : i.word ∈ (["copy", "slide"] : List Str)
  · rw [decide_eq_true hc]
    refine iteF ?_
    have hz : ∃ ns, i.args = [.l ns] := by
      cases i with
      | copy ns => exact ⟨ns, rfl⟩
      | slide ns => exact ⟨ns, rfl⟩
      | push v => exact absurd hc (by show ¬ (("push" : Str) ∈ (["copy", "slide"] : List Str)); decide)
      | call v => exact absurd hc (by show ¬ (("call" : Str) ∈ (["copy", "slide"] : List Str)); decide)
      | cond x y => exact absurd hc (by show ¬ (("if" : Str) ∈ (["copy", "slide"] : List Str)); decide)
      | pr o => cases o <;> exact absurd hc (by decide)
    obtain ⟨ns, en⟩ := hz
    rw [en] at hr1
    obtain ⟨u, r2, rfl, hu, e2⟩ := hr1
    exact ⟨_, rfl, a, _, _, u, rfl, rfl, (t.fr f1).sq, atI_nat (j := 1) rfl, u, .l ns, rfl, hu.fr f1, false, rfl, q _ f1⟩
  · rw [decide_eq_false hc]
    exact iteT (q _ f1)
end
end Og

set_option Elab.async false
set_option linter.all false
set_option maxRecDepth 100000
set_option maxHeartbeats 4000000
/-! Og6b: the class Names, check_machine. -/
namespace Og
open PySem PySem.Spec PyProof.Rows L2
/-! ### a dict comprehension over a list -/
theorem dc_list {K : PySem.W.Frag} {a : Addr} {us : List V} {g : TG} {tt : TT} {tk tv : TE} {own : List Nat} {σ : L2.St} {H0 : Hp} {D : Addr} {Qd : Hp → Prop} (J : Nat → Hp → Prop) (start : J 0 (upd H0 D (.dK []))) (stay : ∀ i H, i ≤ us.length → J i H → SqL K H a us)
    (turn : ∀ i x H, us[i]? = some x → J i H → g x (wipe σ own) H fun σ2 H2 => wipe σ2 own = wipe σ own ∧ tt σ2 H2 fun b H3 =>
      if b = true then tk σ2 H3 fun y H4 => tv σ2 H4 fun z H5 => ∃ kvs k, y = kV k ∧ H5 D = some (.dK kvs) ∧ kvs.length < sizeLine ∧ J (i + 1) (upd H5 D (.dK (putK kvs k z))) else J (i + 1) H3) (done : ∀ H, J us.length H → Qd H) :
    ∃ W : Nat → Nat → Hp → Prop, (∃ m, W 0 m (upd H0 D (.dK []))) ∧ ∀ i m H, W i m H →
      ((Itl K a).stop i H ∧ Qd H) ∨ ((Itl K a).go i H ∧ ∃ Nx : Hp → Prop, (∀ H', Nx H' → ∃ m', m' < m ∧ W (i + 1) m' H') ∧ ∀ x H', (Itl K a).yld i H x H' → g x (wipe σ own) H' fun σ2 H2 => wipe σ2 own = wipe σ own ∧ tt σ2 H2 fun b H3 =>
        if b = true then tk σ2 H3 fun y H4 => tv σ2 H4 fun z H5 => ∃ kvs k, y = kV k ∧ H5 D = some (.dK kvs) ∧ kvs.length < sizeLine ∧ Nx (upd H5 D (.dK (putK kvs k z))) else Nx H3) := by
  refine ⟨fun i m H => m + i = us.length ∧ J i H, ⟨us.length, rfl, start⟩, ?_⟩
  rintro i m H ⟨hm, j⟩
  have q := stay i H (by omega) j
  cases m with
  | zero =>
    have ei : i = us.length := by omega
    subst ei
    exact .inl ⟨⟨us, q, Nat.le_refl _⟩, done H j⟩
  | succ m =>
    have hi : i < us.length := by omega
    refine .inr ⟨⟨us, us[i], q, List.getElem?_eq_getElem hi⟩, J (i + 1), fun H' j' => ⟨m, Nat.lt_succ_self m, by omega, j'⟩, ?_⟩
    rintro x H' ⟨eh, hx⟩
    rw [eh]
    exact turn i x H (hx us q) j
structure ClsN (K : PySem.W.Frag) (C : Addr) : Prop where
  cls : Cls K C
  nS : NoAttr K C "store"
  nK : NoAttr K C "kept"
  nN : NoAttr K C "known"
section
variable {P : Program} {w : World} {K : PySem.W.Frag} {mg : MG} {base : Heap} {C CS : Addr}
def tePut (P : Program) (w : World) (K : PySem.W.Frag) (C : Addr) (i : Nat) : TE :=
  tIf (tOr (tTest (tCB (fun vs H Q => ∃ v x, vs = [v, .ty "str"] ∧ IsV K H x v ∧ Q (.bl (isW x)) H) (tCons (tVar i) (tCons (tC (.ty "str")) tNil)))) (tTest (tOp rEq (tCB (fun xs H Q => ∃ p ys, xs = [.ref p] ∧ (SqL K H p ys ∨ SqT K H p ys) ∧ Q (.int ys.length) H) (tCons (tVar i) tNil)) (tC (.int 0)))))
    (tC .non) (tMeth C "put" (spSPut P w K C) [] E0 (tFld K (tVar 0) "store") (tCons (tOp (rIxT K) (tVar i) (tC (.int 0))) tNil))
/-- a table of names -/
structure NamesAt (P : Program) (w : World) (C CS : Addr) (H : Hp) (s dx kl kd : Addr) (A : SA) (T : List Val) (ns : List Val) : Prop where
  obj : H s = some (.ins C dx [("store", .ref A.s), ("kept", .ref kl), ("known", .ref kd)])
  st : StOk P w CS H A T
  kept : ∃ us, H kl = some (.lst us) ∧ All2 (NumOf T) ns us
  known : ∃ kvs, H kd = some (.dK kvs) ∧ ∀ (n : Nat) y, y ∈ ns → T[n]? = some y → (valV kvs (.inl (n : Int))).isSome = true
  dis : ∀ a ∈ [s, kl, kd], a ∉ A.s :: A.own
theorem mk_fr {H H1 : Hp} {x dx : Addr} {o1 o2 : HO} (hx : H x = none) (hdx : H dx = none) (ne : dx ≠ x) (f : Fr [x] (upd (upd H dx o1) x o2) H1) : Fr [] H H1 := by
  have h1 : Fr [] H (upd (upd H dx o1) x o2) := (Fr.new hdx o1).trans (Fr.new (by rw [upd_ne (Ne.symm ne)]; exact hx) o2)
  exact h1.drop f fun a ha => .inr (by rw [List.mem_singleton.mp ha]; exact hx)
theorem mk_none {H : Hp} {x dx a : Addr} {o1 o2 : HO} (h : upd (upd H dx o1) x o2 a = none) : H a = none := by
  by_cases e1 : a = x
  · rw [e1, upd_same] at h; cases h
  · rw [upd_ne e1] at h
    by_cases e2 : a = dx
    · rw [e2, upd_same] at h; cases h
    · rw [upd_ne e2] at h; exact h
theorem names_size : ∀ m : Mac, Val.sizes (m.map Rt.name) ≤ Val.sizes (m.map Rt.val)
  | [] => Nat.le_refl _
  | r :: m => by
    simp only [List.map_cons, Val.sizes, Rt.val, Val.size]
    have := names_size m
    omega
theorem sizes_app : ∀ a b, Val.sizes (a ++ b) = Val.sizes a + Val.sizes b
  | [], b => by simp [Val.sizes]
  | x :: a, b => by simp only [List.cons_append, Val.sizes, sizes_app a b]; omega
theorem sizes_take (xs : List Val) (i : Nat) : Val.sizes (xs.take i) ≤ Val.sizes xs := by
  have h : Val.sizes (xs.take i ++ xs.drop i) = Val.sizes xs := by rw [List.take_append_drop]
  rw [sizes_app] at h
  omega
def Mac.names (m : Mac) : List Val := m.map Rt.name
def spNmInit (P : Program) (w : World) (K : PySem.W.Frag) (C CS : Addr) : Sp := fun vs H Q _ => ∃ (s dx : Addr) (m : Mac) (v : V), vs = [.ref s, v] ∧ H s = some (.ins C dx []) ∧ IsV K H m.val v ∧ m.val.size ≤ 1000000 ∧
  ∀ H' kl kd A T, Fr [s] H H' → NamesAt P w C CS H' s dx kl kd A T m.names → T.length ≤ 1 + 2 * m.val.size → (∀ a ∈ A.s :: A.own, H a = none) → Q .non H'
theorem sc_Names_init : FnScope ["self", "value", "one", "number"] ["self", "value"] (defScope s_Names_init) := ⟨rfl, rfl, rfl, by decide +kernel, rfl, by decide +kernel, by decide +kernel⟩
theorem ok_NmInit (F : Fk K mg "Names" C "Names.__init__" s_Names_init) (B : Bn mg) (cN : ClsN K C) (cS : ClsS K CS) (D_Store : Dk P w K mg base "Store" CS ["self"] 1 (spSInit P w CS)) (D_Store_put : Dm P w K mg base CS "put" ["self", "value"] 2 (spSPut P w K CS)) :
    Dk P w K mg base "Names" C ["self", "value"] 3 (spNmInit P w K C CS) := by
  have c_Store := cS.cls
  refine Dk.of F sc_Names_init (fun _ _ _ _ _ _ us hl => match us, hl with | [_, _], _ => rfl) (fun vs H Q E h => ?_) (fun f cdv A outer s H vs Q E hr h => ?_)
  · obtain ⟨_, _, _, _, rfl, _⟩ := h
    rfl
  obtain ⟨so, dx, m, v, rfl, hs, hv, hz, q⟩ := h
  have hu := hu_of hr
  have nd := sc_Names_init.nd
  refine ⟨_, (pss_cons (ps_fld (pv 0) (pe_ck0 D_Store (hr.mono (by decide))) rfl)
    (pss_cons (ps_fld (pv 0) (pe_lc (own := [("one", 2)]) (g := gName 2) (te := tePut P w K CS 2) (tt := tYes) rfl nd (pi_tup (pv 1)) (blkOk_by (N := ["self", "value", "one", "number"]) (sc := defScope s_Names_init) (by decide +kernel)) (fun _ _ _ _ _ => pg_name (i := 2) nd rfl (.inl rfl)) (fun _ _ _ _ _ => pts_nil) (fun _ _ _ _ _ => (pe_ifExp (PW.pt (pw_or (pt_val (pe_isS2 B (pv 2))) (pw_or1 (pt_cmpR op_eq (pe_callB call_len_seq (by rfl) B.len bLen (pa_cons (pv 2) pa_nil)) pe_int (nomark _))))) pe_non (pe_cm D_Store_put c_Store (hr.mono (by decide)) (pe_fld (pv 0) rfl) (pa_cons (pe_ix ix_tup (pv 2) pe_int (fun _ _ => rfl)) pa_nil))))) rfl)
    (pss_one (ps_fld (pv 0) (pe_dc (own := [("number", 3)]) (g := gName 3) rfl nd (pi_list (pe_fld (pv 0) rfl)) (blkOk_by (N := ["self", "value", "one", "number"]) (sc := defScope s_Names_init) (by decide +kernel)) (fun _ _ _ _ _ => pg_name (i := 3) nd rfl (.inl rfl)) (fun _ _ _ _ _ => (pts_one (pt_cmpR op_notN (pv 3) pe_non (nomark _)))) (fun _ _ _ _ _ => (pv 3)) (fun _ _ _ _ _ => pe_bl)) rfl)))), ?_⟩
  refine fun x dx' hx hdx ne => ⟨x, dx', rfl, upd_same, fun H1 A e1 e2 f hn st => ⟨rfl, ?_⟩⟩
  have f1 := mk_fr hx hdx ne f
  have ho1 := f1.keep so _ (by simp) hs
  have hxs : x ≠ so := fun z => by rw [z, hs] at hx; cases hx
  have hnA : ∀ a ∈ A.s :: A.own, H a = none := fun a ha => by
    rcases List.mem_cons.mp ha with e | e
    · rw [e, e1]; exact hx
    · exact mk_none (hn a e)
  have soA : so ∉ A.s :: A.own := fun z => by have := hnA so z; rw [hs] at this; cases this
  have hv1 := hv.fr f1
  subst e1
  refine ⟨_, rfl, so, C, dx, _, rfl, ho1, cN.cls, cN.nS, by decide, ?_⟩
  have f2 : Fr [so] H1 (upd H1 so (.ins C dx (putF "store" (.ref A.s) []))) := Fr.set (List.mem_singleton.mpr rfl) ho1 (fun _ z => by cases z) _
  have ho2 : upd H1 so (.ins C dx (putF "store" (.ref A.s) [])) so = some (.ins C dx [("store", .ref A.s)]) := upd_same
  have st2 := st.fr f2 (fun a ha z => soA (by rw [← List.mem_singleton.mp z]; exact ha))
  have hv2 := hv1.fr f2
  have fr2 : Fr [so] H (upd H1 so (.ins C dx (putF "store" (.ref A.s) []))) := (f1.mono (by simp)).trans f2
  generalize upd H1 so (.ins C dx (putF "store" (.ref A.s) [])) = H2 at *
  obtain ⟨a, us, rfl, t, r⟩ := hv2
  have hl := r.len
  rw [List.length_map] at hl
  have ns1 := names_size m
  have hms : m.val.size = 1 + Val.sizes (m.map Rt.val) := by simp only [Mac.val, Val.size]
  have hmlen := sizes_len (m.map Rt.name)
  rw [List.length_map] at hmlen
  refine ⟨_, rfl, a, rfl, ⟨_, t.sq⟩, fun D hD => lc_tup (K := K) (a := a) (xs := us) (fun i H' => ∃ acc r', H' D = some (.lst acc) ∧ Fr A.own H2 H' ∧ StOk P w CS H' A ([.l []] ++ r') ∧ r'.length ≤ 2 * Val.sizes ((m.map Rt.name).take i) ∧ All2 (NumOf ([.l []] ++ r')) ((m.map Rt.name).take i) acc)
    ⟨[], [], upd_same, Fr.new hD _, by rw [List.append_nil]; exact st2.keep (Fr.new hD _), Nat.zero_le _, rfl⟩ (fun i H' _ ⟨_, _, _, f, _⟩ => (t.fr f).sq) ?_ ?_⟩
  · rintro i z H' hz' ⟨acc, r', ha, f', st', hr', hacc⟩
    obtain ⟨y, hy, hzv⟩ := r.get' hz'
    rw [List.getElem?_map] at hy
    obtain ⟨rt, hrt, rfl⟩ := Option.map_eq_some_iff.mp hy
    have hzv' := hzv.fr f'
    have hzv2 := hzv'
    obtain ⟨c, cs, rfl, tc, nv, r2, rfl, hnv, hr2⟩ := hzv2
    have DA : D ∉ A.own := fun z => by
      obtain ⟨o, e⟩ := st2.there D (List.mem_cons_of_mem _ z)
      rw [hD] at e; cases e
    have e3 : (m.map Rt.name).take (i + 1) = (m.map Rt.name).take i ++ [rt.name] := by rw [List.take_add_one, List.getElem?_map, hrt]; rfl
    have s1 := sizes_take (m.map Rt.name) (i + 1)
    rw [e3, sizes_app] at s1
    simp only [Val.sizes] at s1
    have hal := hacc.len
    rw [List.length_take, List.length_map] at hal
    refine ⟨rfl, _, rfl, _, _, rfl, hzv', false, rfl, ?_⟩
    refine iteF ?_
    refine ⟨_, rfl, c, _, rfl, .inr tc.sq, rfl, _, rfl, ?_⟩
    rw [decide_eq_false (by rw [List.length_cons]; intro z; injection z with z; omega)]
    refine iteF ?_
    refine ⟨_, rfl, so, C, dx, _, _, rfl, f'.keep so _ (fun z => soA (List.mem_cons_of_mem _ z)) ho2, cN.cls, cN.nS, rfl, A.s, A.dx, _, rfl, st'.obj, rfl, _, rfl, c, _, _, _, rfl, rfl, tc.sq, at0, A, [.l []] ++ r', rt.name, nv, rfl, st', hnv, by omega, by simp only [List.length_append, List.length_singleton]; omega, fun H3 r3 n f3 st3 hr3 hn3 => ?_⟩
    have ha3 := f3.keep D _ DA ha
    have k2 : Fr [D] H3 (upd H3 D (.lst (acc ++ [.int (n : Int)]))) := Fr.set (List.mem_singleton.mpr rfl) ha3 (fun _ z => by cases z) _
    rw [List.append_assoc] at st3 hn3
    refine ⟨acc, ha3, smallB (by omega), _, r' ++ r3, upd_same, (f'.trans f3).over hD _, st3.fr k2 (fun b hb z => ?_), ?_, ?_⟩
    · obtain ⟨o, e⟩ := st2.there b hb
      rw [List.mem_singleton.mp z, hD] at e; cases e
    · rw [e3, sizes_app, List.length_append]; simp only [Val.sizes]; omega
    · rw [e3]
      refine All2.app (hacc.imp fun _ _ h => ?_) (All2.one ⟨n, rfl, hn3⟩)
      rw [← List.append_assoc]
      exact h.mono
  rintro H3 ⟨acc, r', ha, f3, st3, hr', hacc⟩
  rw [hl, show (m.map Rt.name).take (List.length m) = m.map Rt.name from List.take_of_length_le (by rw [List.length_map]; exact Nat.le_refl _)] at hr' hacc
  have ho3 := f3.keep so _ (fun z => soA (List.mem_cons_of_mem _ z)) ho2
  refine ⟨_, rfl, so, C, dx, _, rfl, ho3, cN.cls, cN.nK, (by show 1 < 1000; decide), ?_⟩
  have f4 : Fr [so] H3 (upd H3 so (.ins C dx (putF "kept" (.ref D) [("store", .ref A.s)]))) := Fr.set (List.mem_singleton.mpr rfl) ho3 (fun _ z => by cases z) _
  have ho4 : upd H3 so (.ins C dx (putF "kept" (.ref D) [("store", .ref A.s)])) so = some (.ins C dx [("store", .ref A.s), ("kept", .ref D)]) := upd_same
  have Dso : D ≠ so := fun z => by rw [z, ho2] at hD; cases hD
  have DA' : D ∉ A.s :: A.own := fun z => by
    obtain ⟨o, e⟩ := st2.there D z
    rw [hD] at e; cases e
  have ha4 := f4.keep D _ (by simp [Dso]) ha
  have st4 := st3.fr f4 (fun b hb z => soA (by rw [← List.mem_singleton.mp z]; exact hb))
  have fr4 : Fr (so :: A.own) H (upd H3 so (.ins C dx (putF "kept" (.ref D) [("store", .ref A.s)]))) := ((fr2.mono (by simp)).trans (f3.mono (fun x hx => List.mem_cons_of_mem _ hx))).trans (f4.mono (by simp))
  have Dn : H D = none := by
    cases hq : H D with
    | none => rfl
    | some o => rw [fr2.keep D o (by simp [Dso]) hq] at hD; cases hD
  generalize upd H3 so (.ins C dx (putF "kept" (.ref D) [("store", .ref A.s)])) = H4 at *
  have hal := hacc.len
  rw [List.length_map] at hal
  refine ⟨_, rfl, so, C, dx, _, _, rfl, ho4, cN.cls, cN.nK, rfl, D, rfl, ⟨_, .of ha4⟩, fun E' hE => dc_list (K := K) (a := D) (us := acc) (fun i H' => ∃ kvs, H' E' = some (.dK kvs) ∧ Fr [] H4 H' ∧ kvs.length ≤ i ∧ ∀ (n : Nat), (.int (n : Int)) ∈ acc.take i → (valV kvs (.inl (n : Int))).isSome = true)
    ⟨[], upd_same, Fr.new hE _, Nat.le_refl _, fun n hn => by simp at hn⟩ (fun i H' _ ⟨_, _, f, _⟩ => .of (f.keep D _ (by simp) ha4)) ?_ ?_⟩
  · rintro i z H' hz' ⟨kvs, hk, f5, hkl, hkn⟩
    obtain ⟨y, hy, n, rfl, hn'⟩ := hacc.get' hz'
    have hi := (List.getElem?_eq_some_iff.mp hz').1
    refine ⟨rfl, _, rfl, rfl, _, rfl, ?_⟩
    refine iteT ?_
    refine ⟨_, rfl, kvs, Sum.inl (n : Int), rfl, hk, smallB (by omega), _, upd_same, f5.over hE _, ?_, fun n' hn' => ?_⟩
    · have := length_putK kvs (Sum.inl (n : Int) : Key) (V.bl true)
      omega
    · rw [valV_put]
      by_cases qq : (Sum.inl (n' : Int) : Key) = Sum.inl (n : Int)
      · rw [if_pos qq]; rfl
      · rw [if_neg qq]
        rw [List.take_add_one, hz'] at hn'
        rcases List.mem_append.mp hn' with h | h
        · exact hkn n' h
        · simp at h
          exact absurd (by rw [h]) qq
  rintro H5 ⟨kvs, hk, f5, hkl, hkn⟩
  rw [List.take_length] at hkn
  have ho5 := f5.keep so _ (by simp) ho4
  refine ⟨_, rfl, so, C, dx, _, rfl, ho5, cN.cls, cN.nN, (by show 2 < 1000; decide), ?_⟩
  have f6 : Fr [so] H5 (upd H5 so (.ins C dx (putF "known" (.ref E') [("store", .ref A.s), ("kept", .ref D)]))) := Fr.set (List.mem_singleton.mpr rfl) ho5 (fun _ z => by cases z) _
  have Eso : E' ≠ so := fun z => by rw [z, ho4] at hE; cases hE
  have EA : E' ∉ A.s :: A.own := fun z => by
    obtain ⟨o, e⟩ := st4.there E' z
    rw [hE] at e; cases e
  have st6 := (st4.keep f5).fr f6 (fun b hb z => soA (by rw [← List.mem_singleton.mp z]; exact hb))
  have fr6 : Fr [so] H (upd H5 so (.ins C dx (putF "known" (.ref E') [("store", .ref A.s), ("kept", .ref D)]))) := by
    have k : Fr (so :: A.own) H (upd H5 so (.ins C dx (putF "known" (.ref E') [("store", .ref A.s), ("kept", .ref D)]))) := (fr4.trans (f5.mono (by simp))).trans (f6.mono (by simp))
    exact (Fr.refl [so] H).drop k (fun x hx => (List.mem_cons.mp hx).elim (fun e => .inl (by rw [e]; exact List.mem_singleton.mpr rfl)) fun e => .inr (hnA x (List.mem_cons_of_mem _ e)))
  refine q _ D E' A ([.l []] ++ r') fr6 ⟨upd_same, st6, ⟨acc, f6.keep D _ (by simp [Dso]) (f5.keep D _ (by simp) ha4), hacc⟩, ⟨kvs, f6.keep E' _ (by simp [Eso]) hk, fun n y hy hn' => ?_⟩, fun b hb => ?_⟩ (by simp only [List.length_append, List.length_singleton]; omega) hnA
  · obtain ⟨j, hj⟩ := List.getElem?_of_mem hy
    obtain ⟨u, hu, n', rfl, hn2⟩ := hacc.get hj
    rw [nodup_at st6.nd hn' hn2]
    exact hkn n' (List.mem_of_getElem? hu)
  · simp only [List.mem_cons, List.not_mem_nil, or_false] at hb
    rcases hb with rfl | rfl | rfl
    · exact soA
    · exact DA'
    · exact EA
end
end Og

set_option Elab.async false
set_option linter.all false
set_option maxRecDepth 100000
set_option maxHeartbeats 4000000
/-! Og6c: Names.is_right, check_machine. -/
namespace Og
open PySem PySem.Spec PyProof.Rows L2
def Ins.refs : Ins → List Val
  | .call v => [v]
  | .cond a b => [a, b]
  | _ => []
structure MacOk (m : Mac) : Prop where
  ne : m ≠ []
  nd : m.names.Nodup
  refs : ∀ r ∈ m, ∀ i ∈ r.code, ∀ y ∈ i.refs, y ∈ m.names
theorem num_flat {T : List Val} : ∀ {ns : List Val} {us : List V}, All2 (NumOf T) ns us → us.all flatV = true
  | [], _, h => by rw [show _ = [] from h]; rfl
  | y :: ns, _, ⟨v, r, e, ⟨n, ev, _⟩, t⟩ => by rw [e, ev, List.all_cons, num_flat t]; rfl
theorem num_notin {T : List Val} {n : Nat} {y : Val} (hn : T[n]? = some y) : ∀ {ns : List Val} {us : List V}, All2 (NumOf T) ns us → y ∉ ns → inV (.int (n : Int)) us = false
  | [], _, h, _ => by rw [show _ = [] from h]; rfl
  | z :: ns, _, ⟨v, r, e, ⟨m, ev, hm⟩, t⟩, no => by
    have ih := num_notin hn t (fun h => no (List.mem_cons_of_mem _ h))
    rw [e, ev]
    unfold inV at ih ⊢
    rw [List.any_cons, ih, Bool.or_false]
    show ((m : Int) == (n : Int)) = false
    refine beq_eq_false_iff_ne.mpr fun q => no ?_
    have : m = n := Int.ofNat.inj q
    subst this
    rw [hn] at hm
    cases hm
    exact List.mem_cons_self ..
section
variable {P : Program} {w : World} {K : PySem.W.Frag} {mg : MG} {base : Heap} {C CS : Addr}
theorem NamesAt.step {H H' : Hp} {s dx kl kd : Addr} {A : SA} {T r ns : List Val} (h : NamesAt P w C CS H s dx kl kd A T ns) (f : Fr A.own H H') (st : StOk P w CS H' A (T ++ r)) : NamesAt P w C CS H' s dx kl kd A (T ++ r) ns := by
  have d : ∀ a ∈ [s, kl, kd], a ∉ A.own := fun a ha z => h.dis a ha (List.mem_cons_of_mem _ z)
  obtain ⟨us, h1, h2⟩ := h.kept
  obtain ⟨kvs, k1, k2⟩ := h.known
  refine ⟨f.keep _ _ (d _ (by simp)) h.obj, st, ⟨us, f.keep _ _ (d _ (by simp)) h1, h2.imp fun _ _ z => z.mono⟩, ⟨kvs, f.keep _ _ (d _ (by simp)) k1, fun n y hy hn => ?_⟩, h.dis⟩
  obtain ⟨j, hj⟩ := List.getElem?_of_mem hy
  obtain ⟨u, hu, n', rfl, hn'⟩ := h2.get hj
  rw [nodup_at st.nd hn (get_app hn')]
  exact k2 n' y hy hn'
theorem NamesAt.keep {H H' : Hp} {s dx kl kd : Addr} {A : SA} {T ns : List Val} (h : NamesAt P w C CS H s dx kl kd A T ns) (f : Fr [] H H') : NamesAt P w C CS H' s dx kl kd A T ns := by
  have := h.step (r := []) (f.mono (by simp)) (by rw [List.append_nil]; exact h.st.keep f)
  rw [List.append_nil] at this
  exact this
def spRight (P : Program) (w : World) (K : PySem.W.Frag) (C CS : Addr) : Sp := fun vs H Q _ => ∃ (s dx kl kd : Addr) (A : SA) (T ns : List Val) (i : Nat) (r : Rt) (v : V), vs = [.ref s, .int (i : Int), v] ∧ NamesAt P w C CS H s dx kl kd A T ns ∧ ns[i]? = some r.name ∧ ns.Nodup ∧ IsV K H r.val v ∧
  (∀ j ∈ r.code, ∀ y ∈ j.refs, y ∈ ns) ∧ r.val.size ≤ 1000000 ∧ T.length + 2 * r.val.size ≤ 9000000 ∧ ∀ H' T', Fr A.own H H' → NamesAt P w C CS H' s dx kl kd A T' ns → T'.length ≤ T.length + 2 * r.val.size → Q (.bl true) H'
theorem sc_Names_is_right : FnScope ["self", "at", "routine", "instruction", "name"] ["self", "at", "routine"] (defScope s_Names_is_right) := ⟨rfl, rfl, rfl, by decide +kernel, rfl, by decide +kernel, by decide +kernel⟩
theorem ok_right (F : Fm K C "is_right" "Names.is_right" s_Names_is_right) (B : Bn mg) (cN : ClsN K C) (cS : ClsS K CS) (D_is_instruction : Df P w K mg base "is_instruction" ["value"] 1 (spIsIns K)) (D_Store_put : Dm P w K mg base CS "put" ["self", "value"] 2 (spSPut P w K CS)) :
    Dm P w K mg base C "is_right" ["self", "at", "routine"] 3 (spRight P w K C CS) := by
  have c_Store := cS.cls
  refine Dm.of F sc_Names_is_right (fun _ _ _ _ _ _ us hl => match us, hl with | [_, _, _], _ => rfl) (fun vs H Q E h => ?_) (fun f cdv A outer s H vs Q E hr h => ?_)
  · obtain ⟨_, _, _, _, _, _, _, _, _, _, rfl, _⟩ := h
    rfl
  obtain ⟨so, dx, kl, kd, A, T, ns, i, rt, v, rfl, hN, hi, hnd, hv, href, hz, hz2, q⟩ := h
  have hu := hu_of hr
  have nd := sc_Names_is_right.nd
  refine ⟨_, (pss_cons (ps_if (PW.pt (pw_or (pt_val (pe_isS2 B (pv 2))) (pw_or (pt_cmpR op_eq (pe_callB call_len_seq (by rfl) B.len bLen (pa_cons (pv 2) pa_nil)) pe_int (nomark _)) (pw_or1 (pt_cmpR op_in_seq (pe_ix ix_list (pe_fld (pv 0) rfl) (pv 1) (fun _ _ => rfl)) (pe_slice sl_list (pe_fld (pv 0) rfl) po_none (po_some (pv 1))) (by rfl))))))
      (pss_one (ps_ret pe_bl))
      pss_nil)
    (pss_cons (ps_for PassesOwn.never rfl (pi_tup (pe_slice sl_tailR (pv 2) (po_some pe_int) po_none)) (pg_name (i := 3) nd rfl (.inl rfl))
      (pss_cons (ps_if (pt_not (pt_val (pe_cf D_is_instruction (hr.mono (by decide)) (pa_cons (pv 3) pa_nil))))
        (pss_one (ps_ret pe_bl))
        pss_nil)
      (pss_one (ps_if (pt_cmpR op_in_seq (pe_ix ix_tup (pv 3) pe_int (fun _ _ => rfl)) (pe_tup (pa_cons pe_str (pa_cons pe_str pa_nil))) (by rfl))
        (pss_one (ps_for PassesOwn.never rfl (pi_tup (pe_slice sl_tailR (pv 3) (po_some pe_int) po_none)) (pg_name (i := 4) nd rfl (.inl rfl))
          (pss_one (ps_if (pt_cmp (pc_dnotin hu (pe_cm D_Store_put c_Store (hr.mono (by decide)) (pe_fld (pv 0) rfl) (pa_cons (pv 4) pa_nil)) (pe_fld (pv 0) rfl)))
            (pss_one (ps_ret pe_bl))
            pss_nil))))
        pss_nil))))
    (pss_one (ps_ret pe_bl)))), ?_⟩
  have hv' := hv
  obtain ⟨c, cs, rfl, tc, nv, r2, rfl, hnv, hr2⟩ := hv
  obtain ⟨us, h1, h2⟩ := hN.kept
  obtain ⟨u, hu, n, rfl, hn⟩ := h2.get hi
  have hil : i < us.length := (List.getElem?_eq_some_iff.mp hu).1
  refine ⟨_, rfl, _, _, rfl, hv', false, rfl, ?_⟩
  refine iteF ?_
  refine ⟨_, rfl, c, _, rfl, .inr tc.sq, rfl, _, rfl, ?_⟩
  rw [decide_eq_false (by rw [List.length_cons]; intro z; injection z with z; omega)]
  refine iteF ?_
  refine ⟨_, rfl, so, C, dx, _, _, rfl, hN.obj, cN.cls, cN.nK, rfl, _, rfl, kl, us, _, _, rfl, rfl, .of h1, atI_nat hu, _, rfl, so, C, dx, _, _, rfl, hN.obj, cN.cls, cN.nK, rfl, _, rfl, (i : Int), rfl, kl, us, rfl, .of h1, fun p hp => ?_⟩
  have f1 : Fr [] H (upd H p (.lst (cutV us none (some (i : Int))))) := Fr.new hp _
  have ecut : cutV us none (some (i : Int)) = us.take i := cut_take us i
  have h2t : All2 (NumOf T) (ns.take i) (us.take i) := by
    have e : ns.take i ++ ns.drop i = ns := List.take_append_drop i ns
    rw [← e] at h2
    obtain ⟨a, b, e2, h3, h4⟩ := h2.split
    have hla := h3.len
    have hnl : i < ns.length := (List.getElem?_eq_some_iff.mp hi).1
    rw [List.length_take] at hla
    have : us.take i = a := by rw [e2, List.take_left' (by omega)]
    rw [this]
    exact h3
  have hno : rt.name ∉ ns.take i := fun h => by
    obtain ⟨j, hj⟩ := List.getElem?_of_mem h
    have hjl := (List.getElem?_eq_some_iff.mp hj).1
    rw [List.length_take] at hjl
    rw [List.getElem?_take] at hj
    have : j < i := by omega
    rw [if_pos this] at hj
    have := nodup_at hnd hj hi
    omega
  refine ⟨p, _, rfl, .inl (.of upd_same), rfl, by rw [ecut]; exact num_flat h2t, _, rfl, ?_⟩
  show if inV (.int (n : Int)) (cutV us none (some (i : Int))) = true then _ else _
  rw [ecut, num_notin hn h2t hno]
  refine iteF ?_
  rw [ecut] at f1
  have hN1 := hN.keep f1
  have tc1 := tc.fr f1
  have hr21 := hr2.fr f1
  generalize upd H p (.lst (us.take i)) = H1 at *
  have hl2 := hr2.len
  rw [List.length_map] at hl2
  refine ⟨_, rfl, 1, rfl, rfl, rfl, c, _, rfl, tc1, List.cons_ne_nil _ _, fun y hy => ?_⟩
  have f2 : Fr [] H1 (upd H1 y (.tup (List.drop 1 (nv :: r2)))) := Fr.new hy _
  have ty : upd H1 y (.tup (List.drop 1 (nv :: r2))) y = some (.tup r2) := upd_same
  have hN2 := hN1.keep f2
  have hr22 := hr21.fr f2
  have f12 := f1.trans f2
  generalize upd H1 y (.tup (List.drop 1 (nv :: r2))) = H2 at *
  have hsz : rt.val.size = 1 + (rt.name.size + Val.sizes (rt.code.map Ins.val)) := by simp only [Rt.val, Val.size, Val.sizes]
  refine ⟨y, rfl, ⟨_, .of ty⟩, for_tup (K := K) (a := y) (xs := r2) (fun j σ H' => ∃ x3 x4 T', σ = [some (.ref so), some (.int (i : Int)), some (.ref c), x3, x4] ∧ Fr A.own H2 H' ∧ NamesAt P w C CS H' so dx kl kd A T' ns ∧ T'.length ≤ T.length + 2 * Val.sizes ((rt.code.map Ins.val).take j))
    ⟨none, none, T, rfl, Fr.refl _ _, hN2, Nat.le_add_right _ _⟩ (fun j σ H' _ ⟨_, _, _, _, f, _⟩ => .of (f.tup _ _ ty)) ?_ ?_⟩
  · rintro j z σ H' hz' ⟨x3, x4, T', rfl, f, hN', hT'⟩
    obtain ⟨x, hx, hzv⟩ := hr22.get' hz'
    rw [List.getElem?_map] at hx
    obtain ⟨ins, hins, rfl⟩ := Option.map_eq_some_iff.mp hx
    have hmem := List.mem_of_getElem? hins
    have e3 : (rt.code.map Ins.val).take (j + 1) = (rt.code.map Ins.val).take j ++ [ins.val] := by rw [List.take_add_one, List.getElem?_map, hins]; rfl
    have s1 := sizes_take (rt.code.map Ins.val) (j + 1)
    rw [e3, sizes_app] at s1
    simp only [Val.sizes] at s1
    refine ⟨_, rfl, ins, z, rfl, hzv.fr f, fun H3 f3 => ⟨true, rfl, ?_⟩⟩
    refine iteF ?_
    have hzv3 := (hzv.fr f).fr f3
    have hN3 := hN'.keep f3
    have fr3 := f.trans (f3.mono (T := A.own) (by simp))
    rw [ins_val] at hzv3
    have hiv : ins.val.size = 1 + (1 + Val.sizes ins.args) := by rw [ins_val]; simp only [Val.size, Val.sizes]
    obtain ⟨b, bs, rfl, tb, wv, r3, rfl, hwv, hr3⟩ := hzv3
    obtain rfl : wv = .str ins.word := hwv
    have hl3 := hr3.len
    refine ⟨_, rfl, b, _, _, _, rfl, rfl, tb.sq, at0, (by show 2 ≤ sizeLine; decide), fun p2 hp2 => ?_⟩
    have f4 : Fr [] H3 (upd H3 p2 (.tup [.str "call", .str "if"])) := Fr.new hp2 _
    refine ⟨p2, _, rfl, .inr (.of upd_same), rfl, rfl, _, rfl, ?_⟩
    show if inV (.str ins.word) ((["call", "if"] : List Str).map V.str) = true then _ else _
    rw [inV_str]
    have hN4 := hN3.keep f4
    have tb4 := tb.fr f4
    have hr34 := hr3.fr f4
    have fr4 := fr3.trans (f4.mono (T := A.own) (by simp))
    generalize upd H3 p2 (.tup [.str "call", .str "if"]) = H4 at *
    by_cases hc : ins.word ∈ (["call", "if"] : List Str)
    · rw [decide_eq_true hc]
      refine iteT ?_
      have hra : ins.refs = ins.args := by
        cases ins with
        | call v => rfl
        | cond x y => rfl
        | push v => exact absurd hc (by show ¬ (("push" : Str) ∈ (["call", "if"] : List Str)); decide)
        | copy v => exact absurd hc (by show ¬ (("copy" : Str) ∈ (["call", "if"] : List Str)); decide)
        | slide v => exact absurd hc (by show ¬ (("slide" : Str) ∈ (["call", "if"] : List Str)); decide)
        | pr o => cases o <;> exact absurd hc (by decide)
      have hrf := href ins hmem
      rw [hra] at hrf
      refine ⟨_, rfl, 1, rfl, rfl, rfl, b, _, rfl, tb4, List.cons_ne_nil _ _, fun y2 hy2 => ?_⟩
      have f5 : Fr [] H4 (upd H4 y2 (.tup (List.drop 1 (.str ins.word :: r3)))) := Fr.new hy2 _
      have ty5 : upd H4 y2 (.tup (List.drop 1 (.str ins.word :: r3))) y2 = some (.tup r3) := upd_same
      have hN5 := hN4.keep f5
      have hr35 := hr34.fr f5
      have fr5 := fr4.trans (f5.mono (T := A.own) (by simp))
      generalize upd H4 y2 (.tup (List.drop 1 (.str ins.word :: r3))) = H5 at *
      refine ⟨y2, rfl, ⟨_, .of ty5⟩, for_tup (K := K) (a := y2) (xs := r3) (fun l σ H' => ∃ x4 T2, σ = [some (.ref so), some (.int (i : Int)), some (.ref c), some (.ref b), x4] ∧ Fr A.own H5 H' ∧ NamesAt P w C CS H' so dx kl kd A T2 ns ∧ T2.length ≤ T'.length + 2 * Val.sizes (ins.args.take l))
        ⟨x4, T', rfl, Fr.refl _ _, hN5, Nat.le_add_right _ _⟩ (fun l σ H' _ ⟨_, _, _, f, _⟩ => .of (f.tup _ _ ty5)) ?_ ?_⟩
      · rintro l z2 σ H6 hz6 ⟨x4', T2, rfl, f6, hN6, hT2⟩
        obtain ⟨yv, hyv, hyz⟩ := hr35.get' hz6
        have e6 : ins.args.take (l + 1) = ins.args.take l ++ [yv] := by rw [List.take_add_one, hyv]; rfl
        have s6 := sizes_take ins.args (l + 1)
        rw [e6, sizes_app] at s6
        simp only [Val.sizes] at s6
        refine ⟨_, rfl, so, C, dx, _, _, rfl, hN6.obj, cN.cls, cN.nS, rfl, A.s, A.dx, _, rfl, hN6.st.obj, rfl, _, rfl, A, T2, yv, z2, rfl, hN6.st, hyz.fr f6, by omega, by omega, fun H7 r7 n7 f7 st7 hr7 hn7 => ?_⟩
        have hN7 := hN6.step f7 st7
        obtain ⟨kvs, kk1, kk2⟩ := hN7.known
        refine ⟨_, rfl, so, C, dx, _, _, rfl, hN7.obj, cN.cls, cN.nN, rfl, kd, _, rfl, DGet.k (k := Sum.inl (n7 : Int)) kk1, _, rfl, ?_⟩
        rw [kk2 n7 yv (hrf yv (List.mem_of_getElem? hyv)) hn7]
        refine iteF ?_
        exact ⟨_, T2 ++ r7, rfl, f6.trans f7, hN7, by rw [e6, sizes_app, List.length_append]; simp only [Val.sizes]; omega⟩
      · rintro σ H6 ⟨x4', T2, rfl, f6, hN6, hT2⟩
        rw [hl3, List.take_length] at hT2
        exact ⟨_, _, T2, rfl, fr5.trans f6, hN6, by rw [e3, sizes_app]; simp only [Val.sizes]; omega⟩
    · rw [decide_eq_false hc]
      refine iteF ?_
      exact ⟨_, _, T', rfl, fr4, hN4, by rw [e3, sizes_app]; omega⟩
  · rintro σ H' ⟨x3, x4, T', rfl, f, hN', hT'⟩
    rw [hl2, show (rt.code.map Ins.val).take (List.length rt.code) = rt.code.map Ins.val from List.take_of_length_le (by rw [List.length_map]; exact Nat.le_refl _)] at hT'
    exact q H' T' ((f12.mono (by simp)).trans f) hN' (by omega)
end
end Og

set_option Elab.async false
set_option linter.all false
set_option maxRecDepth 100000
set_option maxHeartbeats 4000000
/-! Og6d: check_machine. -/
namespace Og
open PySem PySem.Spec PyProof.Rows L2
section
variable {P : Program} {w : World} {K : PySem.W.Frag} {mg : MG} {base : Heap} {C CS : Addr}
def spCM (K : PySem.W.Frag) : Sp := fun vs H Q _ => ∃ (m : Mac) (v : V), vs = [v] ∧ IsV K H m.val v ∧ MacOk m ∧ m.val.size ≤ 1000000 ∧ ∀ H', Fr [] H H' → Q .non H'
theorem sc_check_machine : FnScope ["value", "names", "at", "routine"] ["value"] (defScope s_check_machine) := ⟨rfl, rfl, rfl, by decide +kernel, rfl, by decide +kernel, by decide +kernel⟩
theorem ok_CM (F : Fg K mg "check_machine" s_check_machine) (B : Bn mg) (cN : ClsN K C) (D_Names : Dk P w K mg base "Names" C ["self", "value"] 3 (spNmInit P w K C CS)) (D_Names_is_right : Dm P w K mg base C "is_right" ["self", "at", "routine"] 3 (spRight P w K C CS)) :
    Df P w K mg base "check_machine" ["value"] 5 (spCM K) := by
  have c_Names := cN.cls
  refine Df.of F sc_check_machine (fun _ _ _ _ _ _ us hl => match us, hl with | [_], _ => rfl) (fun vs H Q E h => ?_) (fun f cdv A outer s H vs Q E hr h => ?_)
  · obtain ⟨_, _, rfl, _⟩ := h
    rfl
  obtain ⟨m, v, rfl, hv, hok, hz, q⟩ := h
  have hu := hu_of hr
  have nd := sc_check_machine.nd
  refine ⟨_, (pss_cons (ps_if (PW.pt (pw_or (pt_val (pe_isS2 B (pv 0))) (pw_or1 (pt_cmpR op_eq (pe_callB call_len_seq (by rfl) B.len bLen (pa_cons (pv 0) pa_nil)) pe_int (nomark _)))))
      (pss_one ps_never)
      pss_nil)
    (pss_cons (ps_set (i := 1) nd rfl (.inl rfl) (pe_ck D_Names (hr.mono (by decide)) (pa_cons (pv 0) pa_nil)))
    (pss_one (ps_for PassesOwn.never rfl (pi_enumT (by rfl) B.enumerate (pa_cons (pv 0) pa_nil)) (pg_tup rfl (pgs_cons (pg_name (i := 2) nd rfl (.inl rfl)) (pgs_cons (pg_name (i := 3) nd rfl (.inl rfl)) pgs_nil)))
      (pss_one (ps_if (pt_not (pt_val (pe_cm D_Names_is_right c_Names (hr.mono (by decide)) (pv 1) (pa_cons (pv 2) (pa_cons (pv 3) pa_nil)))))
        (pss_one ps_never)
        pss_nil)))))), ?_⟩
  have hv' := hv
  obtain ⟨a, us, rfl, t, r⟩ := hv
  have hl := r.len
  rw [List.length_map] at hl
  have hm0 : 0 < List.length m := List.length_pos_iff.mpr hok.ne
  refine ⟨_, rfl, _, _, rfl, hv', false, rfl, ?_⟩
  refine iteF ?_
  refine ⟨_, rfl, a, _, rfl, .inr t.sq, rfl, _, rfl, ?_⟩
  rw [decide_eq_false (by intro z; injection z with z; omega)]
  refine iteF ?_
  refine ⟨_, rfl, fun x dx hx hdx ne => ?_⟩
  have f0 : Fr [] H (upd (upd H dx (.own x)) x (.ins C dx [])) := (Fr.new hdx _).trans (Fr.new (by rw [upd_ne (Ne.symm ne)]; exact hx) _)
  refine ⟨x, dx, m, _, rfl, upd_same, hv'.fr f0, hz, fun H1 kl kd A T f hN hT hn => ⟨rfl, ?_⟩⟩
  have f1 := mk_fr hx hdx ne f
  have hA : ∀ b ∈ A.own, H b = none := fun b hb => mk_none (hn b (List.mem_cons_of_mem _ hb))
  have hzs : m.val.size = 1 + Val.sizes (m.map Rt.val) := by simp only [Mac.val, Val.size]
  refine ⟨_, rfl, a, us, rfl, (t.fr f1).sq, for_enumT (fun i σ H' => ∃ x2 x3 T', σ = [some (.ref a), some (.ref x), x2, x3] ∧ Fr A.own H1 H' ∧ NamesAt P w C CS H' x dx kl kd A T' m.names ∧ T'.length ≤ T.length + 2 * Val.sizes ((m.map Rt.val).take i))
    ⟨none, none, T, rfl, Fr.refl _ _, hN, Nat.le_add_right _ _⟩ (fun i σ H' _ ⟨_, _, _, _, f, _⟩ => ((t.fr f1).fr f).sq) ?_ ?_⟩
  · rintro i z T0 σ H' hz' hT0 ⟨x2, x3, T', rfl, f2, hN', hT'⟩
    obtain ⟨y, hy, hzv⟩ := r.get' hz'
    have hy2 := hy
    rw [List.getElem?_map] at hy
    obtain ⟨rt, hrt, rfl⟩ := Option.map_eq_some_iff.mp hy
    have e3 : (m.map Rt.val).take (i + 1) = (m.map Rt.val).take i ++ [rt.val] := by rw [List.take_add_one, hy2]; rfl
    have s1 := sizes_take (m.map Rt.val) (i + 1)
    rw [e3, sizes_app] at s1
    simp only [Val.sizes] at s1
    have f3 : Fr [] H' (upd H' T0 (.tup [.int (i : Nat), z])) := Fr.new hT0 _
    refine ⟨T0, _, rfl, .of upd_same, rfl, _, _, rfl, _, _, rfl, rfl, ?_⟩
    have hN3 := hN'.keep f3
    have hzv3 := ((hzv.fr f1).fr f2).fr f3
    generalize upd H' T0 (.tup [.int (i : Nat), z]) = H3 at *
    refine ⟨_, rfl, x, dx, _, rfl, hN3.obj, rfl, _, rfl, _, rfl, x, dx, kl, kd, A, T', m.names, i, rt, z, rfl, hN3, by rw [Mac.names, List.getElem?_map, hrt]; rfl, hok.nd, hzv3, hok.refs rt (List.mem_of_getElem? hrt), by omega, by omega, fun H4 T4 f4 hN4 hT4 => ⟨true, rfl, ?_⟩⟩
    refine iteF ?_
    exact ⟨_, _, T4, rfl, (f2.trans (f3.mono (by simp))).trans f4, hN4, by rw [e3, sizes_app]; simp only [Val.sizes]; omega⟩
  · rintro σ H' ⟨x2, x3, T', rfl, f2, hN', hT'⟩
    exact q H' (f1.drop f2 fun b hb => .inr (hA b hb))
end
end Og

set_option Elab.async false
set_option linter.all false
set_option maxRecDepth 100000
set_option maxHeartbeats 4000000
/-! Og7: the stack machine: its state; made, pop, found. -/
namespace Og
open PySem PySem.Spec PyProof.Rows L2
structure ClsM (K : PySem.W.Frag) (C : Addr) : Prop where
  cls : Cls K C
  nSt : NoAttr K C "store"
  nY : NoAttr K C "yes"
  nR : NoAttr K C "routines"
  nK : NoAttr K C "stack"
  nT : NoAttr K C "todo"
  nP : NoAttr K C "steps"
def Ins.short : Ins → Bool
  | .copy _ => true
  | .slide _ => true
  | _ => false
/-- an instruction as the machine keeps it -/
def IsI (K : PySem.W.Frag) (H : Hp) (T : List Val) (i : Ins) (v : V) : Prop := ∃ p us, v = .ref p ∧ TupAt K H p (.str i.word :: us) ∧ (if i.short then ∃ ns, i.args = [.l ns] ∧ us = [.int ((ns.length : Nat) : Int)] else All2 (NumOf T) i.args us)
theorem IsI.fr {K S H H' T i v} (f : Fr S H H') (h : IsI K H T i v) : IsI K H' T i v := let ⟨p, us, e, t, r⟩ := h; ⟨p, us, e, t.fr f, r⟩
theorem IsI.mono {K H T r i v} (h : IsI K H T i v) : IsI K H (T ++ r) i v := by
  obtain ⟨p, us, e, t, h⟩ := h
  refine ⟨p, us, e, t, ?_⟩
  split
  · rename_i hs
    rw [if_pos hs] at h
    exact h
  · rename_i hs
    rw [if_neg hs] at h
    exact h.imp fun _ _ z => z.mono
/-- a routine's instructions -/
def CodeAt (K : PySem.W.Frag) (H : Hp) (T : List Val) (S : List Addr) (cl : Addr) (code : List Ins) : Prop := cl ∉ S ∧ ∃ us, H cl = some (.lst us) ∧ All2 (IsI K H T) code us
theorem CodeAt.fr {K S H H' T cl code} (f : Fr S H H') (h : CodeAt K H T S cl code) : CodeAt K H' T S cl code := let ⟨n, us, e, r⟩ := h; ⟨n, us, f.keep _ _ n e, r.imp fun _ _ z => z.fr f⟩
theorem CodeAt.mono {K S H T r cl code} (h : CodeAt K H T S cl code) : CodeAt K H (T ++ r) S cl code := let ⟨n, us, e, r⟩ := h; ⟨n, us, e, r.imp fun _ _ z => z.mono⟩
def IsTd (K : PySem.W.Frag) (H : Hp) (T : List Val) (S : List Addr) (is : List Ins) (v : V) : Prop := ∃ p cl code j, v = .ref p ∧ H p = some (.tup [.ref cl, .int ((j : Nat) : Int)]) ∧ CodeAt K H T S cl code ∧ is = code.drop j ∧ j ≤ code.length
theorem IsTd.fr {K S H H' T is v} (f : Fr S H H') (h : IsTd K H T S is v) : IsTd K H' T S is v := let ⟨p, cl, code, j, e, h1, h2, h3, h4⟩ := h; ⟨p, cl, code, j, e, f.tup _ _ h1, h2.fr f, h3, h4⟩
theorem IsTd.mono {K S H T r is v} (h : IsTd K H T S is v) : IsTd K H (T ++ r) S is v := let ⟨p, cl, code, j, e, h1, h2, h3, h4⟩ := h; ⟨p, cl, code, j, e, h1, h2.mono, h3, h4⟩
/-- where a machine stands -/
structure MA2 where
  s : Addr
  dx : Addr
  A : SA
  ny : Nat
  rd : Addr
  sl : Addr
  tl : Addr
def MA2.S (M : MA2) : List Addr := M.s :: M.sl :: M.tl :: M.A.own
def MA2.fs (M : MA2) (n : Nat) : List (Str × V) := [("store", .ref M.A.s), ("yes", .int ((M.ny : Nat) : Int)), ("routines", .ref M.rd), ("stack", .ref M.sl), ("todo", .ref M.tl), ("steps", .int ((n : Nat) : Int))]
structure SmOk (P : Program) (w : World) (K : PySem.W.Frag) (C CS : Addr) (H : Hp) (M : MA2) (T : List Val) (m : Mac) (td : List (List Ins)) (st : List Val) (n : Nat) : Prop where
  obj : H M.s = some (.ins C M.dx (M.fs n))
  store : StOk P w CS H M.A T
  yes : T[M.ny]? = some Og.yes
  stack : ∃ us, H M.sl = some (.lst us) ∧ All2 (NumOf T) st.reverse us
  todo : ∃ us, H M.tl = some (.lst us) ∧ All2 (IsTd K H T M.S) td.reverse us
  routs : ∃ kvs, H M.rd = some (.dK kvs) ∧ ∀ y code, findR m y = some code → ∀ k : Nat, T[k]? = some y → ∃ cl, valV kvs (.inl (k : Int)) = some (.ref cl) ∧ CodeAt K H T M.S cl code
  known : ∀ y code, findR m y = some code → y ∈ T
  dis : (M.s :: M.sl :: M.tl :: M.rd :: M.A.s :: M.A.own).Nodup
section
variable {P : Program} {w : World} {K : PySem.W.Frag} {mg : MG} {base : Heap} {C CS : Addr}
def tePut2 (P : Program) (w : World) (K : PySem.W.Frag) (CS : Addr) (i : Nat) : TE := tMeth CS "put" (spSPut P w K CS) [] E0 (tFld K (tVar 0) "store") (tCons (tVar i) tNil)
/-- made: the machine has its store already -/
def spMMade (P : Program) (w : World) (K : PySem.W.Frag) (C CS : Addr) : Sp := fun vs H Q _ => ∃ (s dx : Addr) (fs : List (Str × V)) (A : SA) (T : List Val) (i : Ins) (v : V), vs = [.ref s, v] ∧ H s = some (.ins C dx fs) ∧ fs.lookup ("store" : Str) = some (V.ref A.s) ∧ s ∉ A.own ∧ StOk P w CS H A T ∧ IsV K H i.val v ∧ i.val.size ≤ 1000000 ∧ T.length + 2 * i.val.size ≤ 9000000 ∧
  ∀ H' r u, Fr A.own H H' → StOk P w CS H' A (T ++ r) → r.length ≤ 2 * i.val.size → IsI K H' (T ++ r) i u → Q u H'
theorem sc_StackMachine_made : FnScope ["self", "instruction", "word", "value"] ["self", "instruction"] (defScope s_StackMachine_made) := ⟨rfl, rfl, rfl, by decide +kernel, rfl, by decide +kernel, by decide +kernel⟩
theorem ok_MMade (F : Fm K C "made" "StackMachine.made" s_StackMachine_made) (B : Bn mg) (cM : ClsM K C) (cS : ClsS K CS) (D_Store_put : Dm P w K mg base CS "put" ["self", "value"] 2 (spSPut P w K CS)) : Dm P w K mg base C "made" ["self", "instruction"] 3 (spMMade P w K C CS) := by
  have c_Store := cS.cls
  refine Dm.of F sc_StackMachine_made (fun _ _ _ _ _ _ us hl => match us, hl with | [_, _], _ => rfl) (fun vs H Q E h => ?_) (fun f cdv A outer s H vs Q E hr h => ?_)
  · obtain ⟨_, _, _, _, _, _, _, rfl, _⟩ := h
    rfl
  obtain ⟨so, dx, fs, A, T, i, v, rfl, hs, hfs, hso, st, hv, hz, hz2, q⟩ := h
  have hu := hu_of hr
  have nd := sc_StackMachine_made.nd
  refine ⟨_, (pss_cons (ps_set (i := 2) nd rfl (.inl rfl) (pe_ix ix_tup (pv 1) pe_int (fun _ _ => rfl)))
    (pss_cons (ps_if (pt_cmpR op_in_seq (pv 2) (pe_tup (pa_cons pe_str (pa_cons pe_str pa_nil))) (by rfl))
      (pss_one (ps_ret (pe_tup (pa_cons (pv 2) (pa_cons (pe_callB call_len_seq (by rfl) B.len bLen (pa_cons (pe_ix ix_tup (pv 1) pe_int (fun _ _ => rfl)) pa_nil)) pa_nil)))))
      pss_nil)
    (pss_one (ps_ret (pe_op op_catS (pe_tup (pa_cons (pv 2) pa_nil)) (pe_tupleOf (by rfl) B.tuple (pe_lc (own := [("value", 3)]) (g := gName 3) (te := tePut2 P w K CS 3) (tt := tYes) rfl nd (pi_tup (pe_slice sl_tailR (pv 1) (po_some pe_int) po_none)) (blkOk_by (N := ["self", "instruction", "word", "value"]) (sc := defScope s_StackMachine_made) (by decide +kernel)) (fun _ _ _ _ _ => pg_name (i := 3) nd rfl (.inl rfl)) (fun _ _ _ _ _ => pts_nil) (fun _ _ _ _ _ => (pe_cm D_Store_put c_Store (hr.mono (by decide)) (pe_fld (pv 0) rfl) (pa_cons (pv 3) pa_nil)))))))))), ?_⟩
  rw [ins_val] at hv
  have hsz : i.val.size = 1 + (1 + Val.sizes i.args) := by rw [ins_val]; simp only [Val.size, Val.sizes]
  obtain ⟨c, cs, rfl, tc, wv, r1, rfl, hwv, hr1⟩ := hv
  obtain rfl : wv = .str i.word := hwv
  have hl := hr1.len
  have hsl := sizes_len i.args
  refine ⟨_, rfl, c, _, _, _, rfl, rfl, tc.sq, at0, ?_⟩
  refine ⟨_, rfl, (by show 2 ≤ sizeLine; decide), fun p hp => ?_⟩
  have f1 : Fr [] H (upd H p (.tup [.str "copy", .str "slide"])) := Fr.new hp _
  refine ⟨p, _, rfl, .inr (.of upd_same), rfl, rfl, _, rfl, ?_⟩
  show if inV (.str i.word) ((["copy", "slide"] : List Str).map V.str) = true then _ else _
  rw [inV_str]
  have tc1 := tc.fr f1
  have hr11 := hr1.fr f1
  have st1 := st.keep f1
  have hs1 := f1.keep so _ (by simp) hs
  generalize upd H p (.tup [.str "copy", .str "slide"]) = H1 at *
  have hcase : (i.short = true ∧ i.word ∈ (["copy", "slide"] : List Str) ∧ ∃ ns, i.args = [.l ns]) ∨ (i.short = false ∧ i.word ∉ (["copy", "slide"] : List Str)) := by
    cases i with
    | copy ns => exact .inl ⟨rfl, (by decide : ("copy" : Str) ∈ (["copy", "slide"] : List Str)), ns, rfl⟩
    | slide ns => exact .inl ⟨rfl, (by decide : ("slide" : Str) ∈ (["copy", "slide"] : List Str)), ns, rfl⟩
    | push v => exact .inr ⟨rfl, (by decide : ¬ (("push" : Str) ∈ (["copy", "slide"] : List Str)))⟩
    | call v => exact .inr ⟨rfl, (by decide : ¬ (("call" : Str) ∈ (["copy", "slide"] : List Str)))⟩
    | cond x y => exact .inr ⟨rfl, (by decide : ¬ (("if" : Str) ∈ (["copy", "slide"] : List Str)))⟩
    | pr o => cases o <;> exact .inr ⟨rfl, by decide⟩
  rcases hcase with ⟨hsh, hin, ns, hns⟩ | ⟨hsh, hin⟩
  · rw [decide_eq_true hin]
    refine iteT ?_
    rw [hns] at hr11
    obtain ⟨u, hu, hu2⟩ := hr11.one_inv
    subst hu
    obtain ⟨b, bs, rfl, tb, hb⟩ := hu2
    have hbl := hb.len
    refine ⟨_, rfl, _, rfl, c, _, _, _, rfl, rfl, tc1.sq, atI_nat (j := 1) rfl, b, bs, rfl, .inr tb.sq, (by show 2 ≤ sizeLine; decide), fun p2 hp2 => ?_⟩
    have f2 : Fr [] H1 (upd H1 p2 (.tup [.str i.word, .int bs.length])) := Fr.new hp2 _
    refine q _ [] _ ((f1.trans f2).mono (by simp)) (by rw [List.append_nil]; exact st1.keep f2) (Nat.zero_le _) ⟨p2, [.int bs.length], rfl, .of upd_same, ?_⟩
    rw [if_pos hsh]
    exact ⟨ns, hns, by rw [hbl]⟩
  · rw [decide_eq_false hin]
    refine iteF ?_
    refine ⟨_, rfl, (by show 1 ≤ sizeLine; decide), fun t1 ht1 => ?_⟩
    have f2 : Fr [] H1 (upd H1 t1 (.tup [.str i.word])) := Fr.new ht1 _
    have et1 : upd H1 t1 (.tup [.str i.word]) t1 = some (.tup [.str i.word]) := upd_same
    have tc2 := tc1.fr f2
    have hr12 := hr11.fr f2
    have st2 := st1.keep f2
    have hs2 := f2.keep so _ (by simp) hs1
    have f12 := f1.trans f2
    generalize upd H1 t1 (.tup [.str i.word]) = H2 at *
    refine ⟨_, rfl, 1, rfl, rfl, rfl, c, _, rfl, tc2, List.cons_ne_nil _ _, fun y hy => ?_⟩
    have f3 : Fr [] H2 (upd H2 y (.tup (List.drop 1 (.str i.word :: r1)))) := Fr.new hy _
    have ty : upd H2 y (.tup (List.drop 1 (.str i.word :: r1))) y = some (.tup r1) := upd_same
    have et13 := f3.tup _ _ et1
    have hr13 := hr12.fr f3
    have st3 := st2.keep f3
    have hs3 := f3.keep so _ (by simp) hs2
    have f13 := f12.trans f3
    generalize upd H2 y (.tup (List.drop 1 (.str i.word :: r1))) = H3 at *
    refine ⟨y, rfl, ⟨_, .of ty⟩, fun D hD => lc_tup (K := K) (a := y) (xs := r1) (fun j H' => ∃ acc r', H' D = some (.lst acc) ∧ Fr A.own H3 H' ∧ StOk P w CS H' A (T ++ r') ∧ r'.length ≤ 2 * Val.sizes (i.args.take j) ∧ All2 (NumOf (T ++ r')) (i.args.take j) acc)
      ⟨[], [], upd_same, Fr.new hD _, by rw [List.append_nil]; exact st3.keep (Fr.new hD _), Nat.zero_le _, rfl⟩ (fun j H' _ ⟨_, _, _, f, _⟩ => .of (f.tup _ _ ty)) ?_ ?_⟩
    · rintro j z H' hz' ⟨acc, r', ha, f', st', hr', hacc⟩
      obtain ⟨yv, hyv, hzv⟩ := hr13.get' hz'
      have DA : D ∉ A.own := fun z => by
        obtain ⟨o, e⟩ := st3.there D (List.mem_cons_of_mem _ z)
        rw [hD] at e; cases e
      have e3 : i.args.take (j + 1) = i.args.take j ++ [yv] := by rw [List.take_add_one, hyv]; rfl
      have s1 := sizes_take i.args (j + 1)
      rw [e3, sizes_app] at s1
      simp only [Val.sizes] at s1
      have hal := hacc.len
      rw [List.length_take] at hal
      refine ⟨rfl, _, rfl, so, C, dx, _, _, rfl, f'.keep so _ hso hs3, cM.cls, cM.nSt, hfs, A.s, A.dx, _, rfl, st'.obj, rfl, _, rfl, A, T ++ r', yv, z, rfl, st', hzv.fr f', by omega, by rw [List.length_append]; omega, fun H4 r4 n f4 st4 hr4 hn4 => ?_⟩
      have ha4 := f4.keep D _ DA ha
      have k2 : Fr [D] H4 (upd H4 D (.lst (acc ++ [.int (n : Int)]))) := Fr.set (List.mem_singleton.mpr rfl) ha4 (fun _ z => by cases z) _
      rw [List.append_assoc] at st4 hn4
      refine ⟨acc, ha4, smallB (by omega), _, r' ++ r4, upd_same, (f'.trans f4).over hD _, st4.fr k2 (fun b hb z => ?_), ?_, ?_⟩
      · obtain ⟨o, e⟩ := st3.there b hb
        rw [List.mem_singleton.mp z, hD] at e; cases e
      · rw [e3, sizes_app, List.length_append]; simp only [Val.sizes]; omega
      · rw [e3]
        refine All2.app (hacc.imp fun _ _ h => ?_) (All2.one ⟨n, rfl, hn4⟩)
        rw [← List.append_assoc]
        exact h.mono
    · rintro H4 ⟨acc, r', ha, f', st', hr', hacc⟩
      rw [hl, List.take_length] at hr' hacc
      have hal := hacc.len
      refine .inl ⟨D, _, rfl, .of ha, fun p2 hp2 => ?_⟩
      have f5 : Fr [] H4 (upd H4 p2 (.tup acc)) := Fr.new hp2 _
      refine ⟨t1, p2, _, acc, rfl, rfl, .of (f5.tup _ _ (f'.tup _ _ et13)), .of upd_same, Nat.le_of_lt (smallB (by simp only [List.length_cons, List.length_nil]; omega)), fun p3 H6 f6 t6 => ?_⟩
      have f56 := f5.trans f6
      refine q H6 r' (.ref p3) (((f13.mono (by simp)).trans f').trans (f56.mono (by simp))) (st'.keep f56) (by omega) ⟨p3, acc, rfl, t6, ?_⟩
      rw [if_neg (by rw [hsh]; exact Bool.false_ne_true)]
      exact hacc
end
end Og

set_option Elab.async false
set_option linter.all false
set_option maxRecDepth 100000
set_option maxHeartbeats 4000000
/-! Og7b: StackMachine.pop, found. -/
namespace Og
open PySem PySem.Spec PyProof.Rows L2
theorem sne {a b : Str} (h : a ≠ b) : decide (V.str a = V.str b) = false := decide_eq_false fun z => h (V.str.inj z)
theorem seq {a b : Str} (h : a = b) : decide (V.str a = V.str b) = true := decide_eq_true (by rw [h])
section
variable {P : Program} {w : World} {K : PySem.W.Frag} {mg : MG} {base : Heap} {C CS : Addr}
def spMPop (C : Addr) : Sp := fun vs H Q _ => ∃ s dx fs sl us v, vs = [.ref s] ∧ H s = some (.ins C dx fs) ∧ fs.lookup ("stack" : Str) = some (V.ref sl) ∧ H sl = some (.lst (us ++ [v])) ∧ Q v (upd H sl (.lst us))
theorem sc_StackMachine_pop : FnScope ["self"] ["self"] (defScope s_StackMachine_pop) := ⟨rfl, rfl, rfl, by decide +kernel, rfl, by decide +kernel, by decide +kernel⟩
theorem ok_MPop (F : Fm K C "pop" "StackMachine.pop" s_StackMachine_pop) (B : Bn mg) (cM : ClsM K C) (gE : GInt mg "EMPTY" 0) : Dm P w K mg base C "pop" ["self"] 1 (spMPop C) := by
  refine Dm.of F sc_StackMachine_pop (fun _ _ _ _ _ _ us hl => match us, hl with | [_], _ => rfl) (fun vs H Q E h => ?_) (fun f cdv A outer s H vs Q E hr h => ?_)
  · obtain ⟨_, _, _, _, _, _, rfl, _⟩ := h
    rfl
  obtain ⟨so, dx, fs, sl, us, v, rfl, hs, hfs, hsl, q⟩ := h
  have hu := hu_of hr
  have nd := sc_StackMachine_pop.nd
  refine ⟨_, (pss_one (ps_ret (pe_ifExp (pt_cmpR op_gt (pe_callB call_len_seq (by rfl) B.len bLen (pa_cons (pe_fld (pv 0) rfl) pa_nil)) pe_int (nomark _)) (pe_bm0 PySem.F.plainAttrs_list PySem.F.slot_list_pop PySem.F.type_list_pop mt_pop (pe_fld (pv 0) rfl)) (pe_gint gE)))), ?_⟩
  refine ⟨_, rfl, so, C, dx, _, _, rfl, hs, cM.cls, cM.nK, hfs, sl, _, rfl, .inl (.of hsl), _, _, rfl, rfl, _, rfl, ?_⟩
  rw [decide_eq_true (by rw [List.length_append, List.length_singleton]; omega)]
  refine iteT ?_
  refine ⟨_, rfl, so, C, dx, _, _, rfl, hs, cM.cls, cM.nK, hfs, .inl ⟨rfl, _, .of hsl⟩, sl, _, _, rfl, rfl, hsl, pop_at _ _, ?_⟩
  rw [List.dropLast_concat]
  exact q
def spMFound (P : Program) (w : World) (C CS : Addr) : Sp := fun vs H Q _ => ∃ (M : MA2) (T : List Val) (n : Nat) (o : Pr) (ws : List Val) (v : Val) (us0 wsn : List V), vs = [.ref M.s, .str o.str] ∧ H M.s = some (.ins C M.dx (M.fs n)) ∧ StOk P w CS H M.A T ∧ T[M.ny]? = some Og.yes ∧ H M.sl = some (.lst (us0 ++ wsn)) ∧ All2 (NumOf T) ws wsn ∧ prim o ws = some v ∧ T.length ≤ 9000000 ∧
  M.s ≠ M.sl ∧ M.sl ∉ M.A.s :: M.A.own ∧ ∀ H' r k, Fr (M.sl :: M.A.own) H H' → H' M.sl = some (.lst us0) → StOk P w CS H' M.A (T ++ r) → r.length ≤ 1 → (T ++ r)[k]? = some v → Q (.int ((k : Nat) : Int)) H'
theorem sc_StackMachine_found : FnScope ["self", "word", "top", "second"] ["self", "word"] (defScope s_StackMachine_found) := ⟨rfl, rfl, rfl, by decide +kernel, rfl, by decide +kernel, by decide +kernel⟩
theorem ok_MFound (F : Fm K C "found" "StackMachine.found" s_StackMachine_found) (B : Bn mg) (cM : ClsM K C) (cS : ClsS K CS) (gE : GInt mg "EMPTY" 0) (D_StackMachine_pop : Dm P w K mg base C "pop" ["self"] 1 (spMPop C)) (D_Store_is_word : Dm P w K mg base CS "is_word" ["self", "number"] 1 (spSWord P w CS))
    (D_Store_first : Dm P w K mg base CS "first" ["self", "number"] 2 (spSFirst P w CS)) (D_Store_rest : Dm P w K mg base CS "rest" ["self", "number"] 2 (spSRest P w CS)) (D_Store_pair_up : Dm P w K mg base CS "pair_up" ["self", "item", "items"] 2 (spSPair P w CS)) :
    Dm P w K mg base C "found" ["self", "word"] 3 (spMFound P w C CS) := by
  have c_Store := cS.cls
  have c_StackMachine := cM.cls
  refine Dm.of F sc_StackMachine_found (fun _ _ _ _ _ _ us hl => match us, hl with | [_, _], _ => rfl) (fun vs H Q E h => ?_) (fun f cdv A outer s H vs Q E hr h => ?_)
  · obtain ⟨_, _, _, _, _, _, _, _, rfl, _⟩ := h
    rfl
  obtain ⟨M, T, n, o, ws, v, us0, wsn, rfl, hs, st, hy, hsl, hws, hp, hz, nsl, hdis, q⟩ := h
  have hu := hu_of hr
  have nd := sc_StackMachine_found.nd
  refine ⟨_, (pss_cons (ps_set (i := 2) nd rfl (.inl rfl) (pe_cm0 D_StackMachine_pop c_StackMachine (hr.mono (by decide)) (pv 0)))
    (pss_cons (ps_if (pt_cmpR op_eq (pv 1) pe_str (nomark _))
      (pss_one (ps_ret (pe_ifExp (PW.pt (pw_and (pt_cmpR op_ne (pv 2) (pe_gint gE) (nomark _)) (pw_and1 (pt_val (pe_cm D_Store_is_word c_Store (hr.mono (by decide)) (pe_fld (pv 0) rfl) (pa_cons (pv 2) pa_nil)))))) (pe_fld (pv 0) rfl) (pe_gint gE))))
      pss_nil)
    (pss_cons (ps_if (pt_cmpR op_eq (pv 1) pe_str (nomark _))
      (pss_one (ps_ret (pe_cm D_Store_first c_Store (hr.mono (by decide)) (pe_fld (pv 0) rfl) (pa_cons (pv 2) pa_nil))))
      pss_nil)
    (pss_cons (ps_if (pt_cmpR op_eq (pv 1) pe_str (nomark _))
      (pss_one (ps_ret (pe_cm D_Store_rest c_Store (hr.mono (by decide)) (pe_fld (pv 0) rfl) (pa_cons (pv 2) pa_nil))))
      pss_nil)
    (pss_cons (ps_set (i := 3) nd rfl (.inl rfl) (pe_cm0 D_StackMachine_pop c_StackMachine (hr.mono (by decide)) (pv 0)))
    (pss_cons (ps_if (pt_cmpR op_eq (pv 1) pe_str (nomark _))
      (pss_one (ps_ret (pe_ifExp (pt_cmpR op_eq (pv 3) (pv 2) (nomark _)) (pe_fld (pv 0) rfl) (pe_gint gE))))
      pss_nil)
    (pss_one (ps_ret (pe_cm D_Store_pair_up c_Store (hr.mono (by decide)) (pe_fld (pv 0) rfl) (pa_cons (pv 3) (pa_cons (pv 2) pa_nil))))))))))), ?_⟩
  have pop1 : ∀ (H1 : Hp) (us : List V) (v : V), H1 M.sl = some (.lst (us ++ [v])) → Fr [M.sl] H1 (upd H1 M.sl (.lst us)) := fun H1 us v e => Fr.set (List.mem_singleton.mpr rfl) e (fun _ z => by cases z) _
  have stk : ∀ (H1 : Hp) (us : List V) (v : V) (T' : List Val), H1 M.sl = some (.lst (us ++ [v])) → StOk P w CS H1 M.A T' → StOk P w CS (upd H1 M.sl (.lst us)) M.A T' := fun H1 us v T' e st => st.fr (pop1 H1 us v e) (fun a ha z => hdis (by rw [← List.mem_singleton.mp z]; exact ha))
  have onest : ∀ (a : Val) (va : V), wsn = [va] → ws = [a] → NumOf T a va := fun a va e1 e2 => by
    rw [e1, e2] at hws
    obtain ⟨u, hu, h⟩ := hws.one_inv
    cases hu
    exact h
  -- one value
  have one : ∀ a, ws = [a] → ∃ k : Nat, wsn = [.int (k : Int)] ∧ T[k]? = some a := fun a e => by
    rw [e] at hws
    obtain ⟨u, hu, k, rfl, hk⟩ := hws.one_inv
    exact ⟨k, hu, hk⟩
  have two : ∀ a b, ws = [a, b] → ∃ k l : Nat, wsn = [.int (k : Int), .int (l : Int)] ∧ T[k]? = some a ∧ T[l]? = some b := fun a b e => by
    rw [e] at hws
    obtain ⟨u, r, hu, ⟨k, rfl, hk⟩, hr⟩ := hws
    obtain ⟨u2, hu2, l, rfl, hl⟩ := All2.one_inv hr
    exact ⟨k, l, by rw [hu, hu2], hk, hl⟩
  cases o with
  | word =>
    obtain ⟨a, rfl, rfl⟩ : ∃ a, ws = [a] ∧ v = vword a := by
      match ws, hp with
      | [a], hp => exact ⟨a, rfl, (Option.some.inj hp).symm⟩
    obtain ⟨k, rfl, hk⟩ := one a rfl
    refine ⟨_, rfl, M.s, M.dx, _, rfl, hs, rfl, M.s, M.dx, _, M.sl, us0, _, rfl, hs, rfl, hsl, ?_⟩
    have f1 := pop1 H us0 _ hsl
    have st1 := stk H us0 _ T hsl st
    have e1 : upd H M.sl (.lst us0) M.sl = some (.lst us0) := upd_same
    have o1 : upd H M.sl (.lst us0) M.s = some (.ins C M.dx (M.fs n)) := by rw [upd_ne nsl]; exact hs
    generalize upd H M.sl (.lst us0) = H1 at *
    refine ⟨_, rfl, rfl, _, rfl, ?_⟩
    rw [seq (show Pr.str .word = "word" from rfl)]
    refine iteT ?_
    have done : ∀ k : Nat, T[k]? = some (vword a) → Q (.int (k : Int)) H1 := fun k hk => q H1 [] k (f1.mono (by simp)) e1 (by rw [List.append_nil]; exact st1) (Nat.zero_le _) (by rw [List.append_nil]; exact hk)
    refine ⟨_, rfl, rfl, _, rfl, ?_⟩
    by_cases k0 : k = 0
    · subst k0
      rw [st.zero] at hk
      cases hk
      refine ite2 (fun z => absurd z (by show ¬ (!decide (V.int ((0 : Nat) : Int) = V.int 0)) = true; decide)) (fun _ => ?_)
      exact done 0 st.zero
    · rw [decide_eq_false (by intro z; injection z with z; exact k0 (Int.ofNat.inj z))]
      refine iteT ?_
      refine ⟨_, rfl, M.s, C, M.dx, _, _, rfl, o1, cM.cls, cM.nSt, rfl, M.A.s, M.A.dx, _, rfl, st1.obj, rfl, _, rfl, M.A, T, k, a, rfl, st1, hk, _, rfl, ?_⟩
      cases a with
      | w x =>
        refine iteT ?_
        exact ⟨_, rfl, M.s, C, M.dx, _, _, rfl, o1, cM.cls, cM.nY, rfl, done M.ny hy⟩
      | l xs =>
        refine iteF ?_
        exact done 0 st.zero
  | head =>
    obtain ⟨a, rfl, rfl⟩ : ∃ a, ws = [a] ∧ v = vhead a := by
      match ws, hp with
      | [a], hp => exact ⟨a, rfl, (Option.some.inj hp).symm⟩
    obtain ⟨k, rfl, hk⟩ := one a rfl
    refine ⟨_, rfl, M.s, M.dx, _, rfl, hs, rfl, M.s, M.dx, _, M.sl, us0, _, rfl, hs, rfl, hsl, ?_⟩
    have f1 := pop1 H us0 _ hsl
    have st1 := stk H us0 _ T hsl st
    have e1 : upd H M.sl (.lst us0) M.sl = some (.lst us0) := upd_same
    have o1 : upd H M.sl (.lst us0) M.s = some (.ins C M.dx (M.fs n)) := by rw [upd_ne nsl]; exact hs
    generalize upd H M.sl (.lst us0) = H1 at *
    refine ⟨_, rfl, rfl, _, rfl, ?_⟩
    rw [sne (show Pr.str .head ≠ "word" by decide)]
    refine iteF ?_
    refine ⟨_, rfl, rfl, _, rfl, ?_⟩
    rw [seq (show Pr.str .head = "head" from rfl)]
    refine iteT ?_
    exact ⟨_, rfl, M.s, C, M.dx, _, _, rfl, o1, cM.cls, cM.nSt, rfl, M.A.s, M.A.dx, _, rfl, st1.obj, rfl, _, rfl, M.A, T, k, a, rfl, st1, hk, fun j hj => q H1 [] j (f1.mono (by simp)) e1 (by rw [List.append_nil]; exact st1) (Nat.zero_le _) (by rw [List.append_nil]; exact hj)⟩
  | tail =>
    obtain ⟨a, rfl, rfl⟩ : ∃ a, ws = [a] ∧ v = vtail a := by
      match ws, hp with
      | [a], hp => exact ⟨a, rfl, (Option.some.inj hp).symm⟩
    obtain ⟨k, rfl, hk⟩ := one a rfl
    refine ⟨_, rfl, M.s, M.dx, _, rfl, hs, rfl, M.s, M.dx, _, M.sl, us0, _, rfl, hs, rfl, hsl, ?_⟩
    have f1 := pop1 H us0 _ hsl
    have st1 := stk H us0 _ T hsl st
    have e1 : upd H M.sl (.lst us0) M.sl = some (.lst us0) := upd_same
    have o1 : upd H M.sl (.lst us0) M.s = some (.ins C M.dx (M.fs n)) := by rw [upd_ne nsl]; exact hs
    generalize upd H M.sl (.lst us0) = H1 at *
    refine ⟨_, rfl, rfl, _, rfl, ?_⟩
    rw [sne (show Pr.str .tail ≠ "word" by decide)]
    refine iteF ?_
    refine ⟨_, rfl, rfl, _, rfl, ?_⟩
    rw [sne (show Pr.str .tail ≠ "head" by decide)]
    refine iteF ?_
    refine ⟨_, rfl, rfl, _, rfl, ?_⟩
    rw [seq (show Pr.str .tail = "tail" from rfl)]
    refine iteT ?_
    exact ⟨_, rfl, M.s, C, M.dx, _, _, rfl, o1, cM.cls, cM.nSt, rfl, M.A.s, M.A.dx, _, rfl, st1.obj, rfl, _, rfl, M.A, T, k, a, rfl, st1, hk, fun j hj => q H1 [] j (f1.mono (by simp)) e1 (by rw [List.append_nil]; exact st1) (Nat.zero_le _) (by rw [List.append_nil]; exact hj)⟩
  | same =>
    obtain ⟨a, b, rfl, rfl⟩ : ∃ a b, ws = [a, b] ∧ v = vsame a b := by
      match ws, hp with
      | [a, b], hp => exact ⟨a, b, rfl, (Option.some.inj hp).symm⟩
    obtain ⟨k, l, rfl, hk, hl⟩ := two a b rfl
    rw [show us0 ++ [V.int (k : Int), V.int (l : Int)] = (us0 ++ [V.int (k : Int)]) ++ [V.int (l : Int)] by simp] at hsl
    refine ⟨_, rfl, M.s, M.dx, _, rfl, hs, rfl, M.s, M.dx, _, M.sl, _, _, rfl, hs, rfl, hsl, ?_⟩
    have f1 := pop1 H _ _ hsl
    have st1 := stk H _ _ T hsl st
    have e1 : upd H M.sl (.lst (us0 ++ [.int (k : Int)])) M.sl = some (.lst (us0 ++ [.int (k : Int)])) := upd_same
    have o1 : upd H M.sl (.lst (us0 ++ [.int (k : Int)])) M.s = some (.ins C M.dx (M.fs n)) := by rw [upd_ne nsl]; exact hs
    generalize upd H M.sl (.lst (us0 ++ [.int (k : Int)])) = H1 at *
    refine ⟨_, rfl, rfl, _, rfl, ?_⟩
    rw [sne (show Pr.str .same ≠ "word" by decide)]
    refine iteF ?_
    refine ⟨_, rfl, rfl, _, rfl, ?_⟩
    rw [sne (show Pr.str .same ≠ "head" by decide)]
    refine iteF ?_
    refine ⟨_, rfl, rfl, _, rfl, ?_⟩
    rw [sne (show Pr.str .same ≠ "tail" by decide)]
    refine iteF ?_
    refine ⟨_, rfl, M.s, M.dx, _, rfl, o1, rfl, M.s, M.dx, _, M.sl, us0, _, rfl, o1, rfl, e1, ?_⟩
    have f2 := pop1 H1 us0 _ e1
    have st2 := stk H1 us0 _ T e1 st1
    have e2 : upd H1 M.sl (.lst us0) M.sl = some (.lst us0) := upd_same
    have o2 : upd H1 M.sl (.lst us0) M.s = some (.ins C M.dx (M.fs n)) := by rw [upd_ne nsl]; exact o1
    generalize upd H1 M.sl (.lst us0) = H2 at *
    refine ⟨_, rfl, rfl, _, rfl, ?_⟩
    rw [seq (show Pr.str .same = "same" from rfl)]
    refine iteT ?_
    have done : ∀ j : Nat, T[j]? = some (vsame a b) → Q (.int (j : Int)) H2 := fun j hj => q H2 [] j ((f1.trans f2).mono (by simp)) e2 (by rw [List.append_nil]; exact st2) (Nat.zero_le _) (by rw [List.append_nil]; exact hj)
    refine ⟨_, rfl, _, rfl, rfl, _, rfl, ?_⟩
    by_cases ab : a = b
    · subst ab
      rw [nodup_at st.nd hk hl, decide_eq_true rfl]
      refine iteT ?_
      exact ⟨_, rfl, M.s, C, M.dx, _, _, rfl, o2, cM.cls, cM.nY, rfl, done M.ny (by rw [vsame, if_pos rfl]; exact hy)⟩
    · rw [decide_eq_false (by
        intro z
        injection z with z
        have := Int.ofNat.inj z
        subst this
        rw [hk] at hl
        exact ab (Option.some.inj hl))]
      refine iteF ?_
      exact done 0 (by rw [vsame, if_neg ab]; exact st.zero)
  | join =>
    obtain ⟨a, b, rfl, rfl⟩ : ∃ a b, ws = [a, b] ∧ v = vjoin a b := by
      match ws, hp with
      | [a, b], hp => exact ⟨a, b, rfl, (Option.some.inj hp).symm⟩
    obtain ⟨k, l, rfl, hk, hl⟩ := two a b rfl
    rw [show us0 ++ [V.int (k : Int), V.int (l : Int)] = (us0 ++ [V.int (k : Int)]) ++ [V.int (l : Int)] by simp] at hsl
    refine ⟨_, rfl, M.s, M.dx, _, rfl, hs, rfl, M.s, M.dx, _, M.sl, _, _, rfl, hs, rfl, hsl, ?_⟩
    have f1 := pop1 H _ _ hsl
    have st1 := stk H _ _ T hsl st
    have e1 : upd H M.sl (.lst (us0 ++ [.int (k : Int)])) M.sl = some (.lst (us0 ++ [.int (k : Int)])) := upd_same
    have o1 : upd H M.sl (.lst (us0 ++ [.int (k : Int)])) M.s = some (.ins C M.dx (M.fs n)) := by rw [upd_ne nsl]; exact hs
    generalize upd H M.sl (.lst (us0 ++ [.int (k : Int)])) = H1 at *
    refine ⟨_, rfl, rfl, _, rfl, ?_⟩
    rw [sne (show Pr.str .join ≠ "word" by decide)]
    refine iteF ?_
    refine ⟨_, rfl, rfl, _, rfl, ?_⟩
    rw [sne (show Pr.str .join ≠ "head" by decide)]
    refine iteF ?_
    refine ⟨_, rfl, rfl, _, rfl, ?_⟩
    rw [sne (show Pr.str .join ≠ "tail" by decide)]
    refine iteF ?_
    refine ⟨_, rfl, M.s, M.dx, _, rfl, o1, rfl, M.s, M.dx, _, M.sl, us0, _, rfl, o1, rfl, e1, ?_⟩
    have f2 := pop1 H1 us0 _ e1
    have st2 := stk H1 us0 _ T e1 st1
    have e2 : upd H1 M.sl (.lst us0) M.sl = some (.lst us0) := upd_same
    have o2 : upd H1 M.sl (.lst us0) M.s = some (.ins C M.dx (M.fs n)) := by rw [upd_ne nsl]; exact o1
    generalize upd H1 M.sl (.lst us0) = H2 at *
    refine ⟨_, rfl, rfl, _, rfl, ?_⟩
    rw [sne (show Pr.str .join ≠ "same" by decide)]
    refine iteF ?_
    refine ⟨_, rfl, M.s, C, M.dx, _, _, rfl, o2, cM.cls, cM.nSt, rfl, M.A.s, M.A.dx, _, rfl, st2.obj, rfl, _, rfl, _, rfl, M.A, T, k, l, a, b, rfl, st2, hk, hl, hz, fun H3 r j f3 st3 hr3 hj => ?_⟩
    exact q H3 r j (((f1.trans f2).mono (by simp)).trans (f3.mono (fun x hx => List.mem_cons_of_mem _ hx))) (f3.keep _ _ (fun z => hdis (List.mem_cons_of_mem _ z)) e2) st3 hr3 hj
end
end Og

set_option Elab.async false
set_option linter.all false
set_option maxRecDepth 100000
set_option maxHeartbeats 4000000
/-! Og7c: carry_out. -/
namespace Og
open PySem PySem.Spec PyProof.Rows L2
inductive StepI (m : Mac) : Ins → List (List Ins) → List Val → List (List Ins) → List Val → Prop where
  | push {v td st} : StepI m (.push v) td st td (v :: st)
  | copy {ns v td st} : st[ns.length]? = some v → StepI m (.copy ns) td st td (v :: st)
  | slide {ns v tmp td st} : tmp.length = ns.length → StepI m (.slide ns) td (v :: (tmp ++ st)) td (v :: st)
  | pr {o ws v td st} : prim o ws = some v → StepI m (.pr o) td (ws.reverse ++ st) td (v :: st)
  | call {nm code td st} : findR m nm = some code → StepI m (.call nm) td st (code :: td) st
  | cond {a b c code td st} : findR m (if c = nil then b else a) = some code → StepI m (.cond a b) td (c :: st) (code :: td) st
theorem reach_ins {m : Mac} {i : Ins} {is : List Ins} {td : List (List Ins)} {st st2 : List Val} {n k : Nat} (h : Reach m ((i :: is) :: td) st n k [] st2) :
    ∃ n' k' td' st', n = n' + 1 ∧ k = k' + 1 ∧ StepI m i (is :: td) st td' st' ∧ Reach m td' st' n' k' [] st2 := by
  cases h with
  | push r => exact ⟨_, _, _, _, rfl, rfl, .push, r⟩
  | copy e r => exact ⟨_, _, _, _, rfl, rfl, .copy e, r⟩
  | slide e r => exact ⟨_, _, _, _, rfl, rfl, .slide e, r⟩
  | pr e r => exact ⟨_, _, _, _, rfl, rfl, .pr e, r⟩
  | call e r => exact ⟨_, _, _, _, rfl, rfl, .call e, r⟩
  | cond e r => exact ⟨_, _, _, _, rfl, rfl, .cond e, r⟩
theorem reach_pop {m : Mac} {td : List (List Ins)} {st st2 : List Val} {n k : Nat} (h : Reach m ([] :: td) st n k [] st2) : ∃ k', k = k' + 1 ∧ Reach m td st n k' [] st2 := by
  cases h with
  | pop r => exact ⟨_, rfl, r⟩
theorem reach_end {m : Mac} {st st2 : List Val} {n k : Nat} (h : Reach m [] st n k [] st2) : st = st2 ∧ n = 0 := by
  cases h with
  | refl => exact ⟨rfl, rfl⟩
section
variable {P : Program} {w : World} {K : PySem.W.Frag} {mg : MG} {base : Heap} {C CS : Addr}
theorem MA2.dis {M : MA2} (h : (M.s :: M.sl :: M.tl :: M.rd :: M.A.s :: M.A.own).Nodup) : M.s ≠ M.sl ∧ M.s ≠ M.tl ∧ M.s ∉ M.A.s :: M.A.own ∧ M.sl ≠ M.tl ∧ M.sl ∉ M.A.s :: M.A.own ∧ M.tl ∉ M.A.s :: M.A.own ∧ M.rd ∉ M.s :: M.sl :: M.tl :: M.A.own ∧ M.A.s ∉ M.s :: M.sl :: M.tl :: M.A.own := by
  simp only [List.nodup_cons] at h
  obtain ⟨h1, h2, h3, h4, h5, h6⟩ := h
  simp only [List.mem_cons, not_or] at h1 h2 h3 h4 h5 ⊢
  exact ⟨h1.1, h1.2.1, ⟨h1.2.2.2.1, h1.2.2.2.2⟩, h2.1, ⟨h2.2.2.1, h2.2.2.2⟩, ⟨h3.2.1, h3.2.2⟩, ⟨Ne.symm h1.2.2.1, Ne.symm h2.2.1, Ne.symm h3.1, h4.2⟩, Ne.symm h1.2.2.2.1, Ne.symm h2.2.2.1, Ne.symm h3.2.1, h5⟩
theorem SmOk.next {H H' : Hp} {M : MA2} {T r : List Val} {m : Mac} {td td' : List (List Ins)} {st st' : List Val} {n : Nat} (h : SmOk P w K C CS H M T m td st n) (f : Fr (M.sl :: M.tl :: M.A.own) H H') (so : StOk P w CS H' M.A (T ++ r))
    (hs : ∃ us, H' M.sl = some (.lst us) ∧ All2 (NumOf (T ++ r)) st'.reverse us) (ht : ∃ us, H' M.tl = some (.lst us) ∧ All2 (IsTd K H' (T ++ r) M.S) td'.reverse us) : SmOk P w K C CS H' M (T ++ r) m td' st' n := by
  obtain ⟨d1, d2, d3, d4, d5, d6, d7, d8⟩ := MA2.dis h.dis
  have f' : Fr M.S H H' := f.mono fun x hx => List.mem_cons_of_mem _ hx
  refine ⟨f.keep _ _ ?_ h.obj, so, get_app h.yes, hs, ht, ?_, fun y code hy => List.mem_append_left _ (h.known y code hy), h.dis⟩
  · simp only [List.mem_cons, not_or] at d3 ⊢
    exact ⟨d1, d2, d3.2⟩
  · obtain ⟨kvs, k1, k2⟩ := h.routs
    refine ⟨kvs, f'.keep _ _ d7 k1, fun y code hy k hk => ?_⟩
    obtain ⟨k0, hk0⟩ := List.getElem?_of_mem (h.known y code hy)
    rw [nodup_at so.nd hk (get_app hk0)]
    obtain ⟨cl, e1, e2⟩ := k2 y code hy k0 hk0
    exact ⟨cl, e1, (e2.fr f').mono⟩
theorem tk_rev {T : List Val} {v : Val} {st : List Val} {us : List V} (h : All2 (NumOf T) (v :: st).reverse us) : ∃ us0 u, us = us0 ++ [u] ∧ All2 (NumOf T) st.reverse us0 ∧ NumOf T v u := by
  rw [List.reverse_cons] at h
  exact h.last
def spMCarry (P : Program) (w : World) (K : PySem.W.Frag) (C CS : Addr) : Sp := fun vs H Q _ => ∃ (M : MA2) (T : List Val) (m : Mac) (i : Ins) (td td' : List (List Ins)) (st st' : List Val) (n : Nat) (v : V), vs = [.ref M.s, v] ∧ SmOk P w K C CS H M T m td st n ∧ IsI K H T i v ∧ StepI m i td st td' st' ∧
  st.length ≤ 5000000 ∧ td.length ≤ 5000000 ∧ T.length ≤ 9000000 ∧ ∀ H' r, Fr (M.sl :: M.tl :: M.A.own) H H' → SmOk P w K C CS H' M (T ++ r) m td' st' n → r.length ≤ 1 → Q .non H'
theorem sc_StackMachine_carry_out : FnScope ["self", "instruction", "word", "at", "top", "_", "chosen"] ["self", "instruction"] (defScope s_StackMachine_carry_out) := ⟨rfl, rfl, rfl, by decide +kernel, rfl, by decide +kernel, by decide +kernel⟩
theorem ok_MCarry (F : Fm K C "carry_out" "StackMachine.carry_out" s_StackMachine_carry_out) (B : Bn mg) (cM : ClsM K C) (gE : GInt mg "EMPTY" 0) (D_StackMachine_pop : Dm P w K mg base C "pop" ["self"] 1 (spMPop C)) (D_StackMachine_found : Dm P w K mg base C "found" ["self", "word"] 3 (spMFound P w C CS)) :
    Dm P w K mg base C "carry_out" ["self", "instruction"] 4 (spMCarry P w K C CS) := by
  have c_StackMachine := cM.cls
  refine Dm.of F sc_StackMachine_carry_out (fun _ _ _ _ _ _ us hl => match us, hl with | [_, _], _ => rfl) (fun vs H Q E h => ?_) (fun f cdv A outer s H vs Q E hr h => ?_)
  · obtain ⟨_, _, _, _, _, _, _, _, _, _, rfl, _⟩ := h
    rfl
  obtain ⟨M, T, m, i, td, td', st, st', n, v, rfl, hM, hI, hstep, hst, htd, hz, q⟩ := h
  have hu := hu_of hr
  have nd := sc_StackMachine_carry_out.nd
  refine ⟨_, (pss_cons (ps_set (i := 2) nd rfl (.inl rfl) (pe_ix ix_tup (pv 1) pe_int (fun _ _ => rfl)))
    (pss_one (ps_if (pt_cmpR op_eq (pv 2) pe_str (nomark _))
      (pss_one (ps_expr (pe_bm PySem.F.plainAttrs_list PySem.F.slot_list_append PySem.F.type_list_append mt_append (pe_fld (pv 0) rfl) (pa_cons (pe_ix ix_tup (pv 1) pe_int (fun _ _ => rfl)) pa_nil))))
      (pss_one (ps_if (pt_cmpR op_eq (pv 2) pe_str (nomark _))
        (pss_cons (ps_set (i := 3) nd rfl (.inl rfl) (pe_op op_sub (pe_op op_sub (pe_callB call_len_seq (by rfl) B.len bLen (pa_cons (pe_fld (pv 0) rfl) pa_nil)) pe_int) (pe_ix ix_tup (pv 1) pe_int (fun _ _ => rfl))))
        (pss_one (ps_expr (pe_bm PySem.F.plainAttrs_list PySem.F.slot_list_append PySem.F.type_list_append mt_append (pe_fld (pv 0) rfl) (pa_cons (pe_ifExp (pt_cmpR op_ge (pv 3) pe_int (nomark _)) (pe_ix ix_list (pe_fld (pv 0) rfl) (pv 3) (fun _ _ => rfl)) (pe_gint gE)) pa_nil)))))
        (pss_one (ps_if (pt_cmpR op_eq (pv 2) pe_str (nomark _))
          (pss_cons (ps_set (i := 4) nd rfl (.inl rfl) (pe_cm0 D_StackMachine_pop c_StackMachine (hr.mono (by decide)) (pv 0)))
          (pss_cons (ps_for PassesOwn.never rfl (pi_range1 (by rfl) B.range (pa_cons (pe_callB (call_min2 rfl) (by rfl) B.min bMin (pa_cons (pe_ix ix_tup (pv 1) pe_int (fun _ _ => rfl)) (pa_cons (pe_callB call_len_seq (by rfl) B.len bLen (pa_cons (pe_fld (pv 0) rfl) pa_nil)) pa_nil))) pa_nil)) (pg_name (i := 5) nd rfl (.inl rfl))
            (pss_one (ps_expr (pe_bm0 PySem.F.plainAttrs_list PySem.F.slot_list_pop PySem.F.type_list_pop mt_pop (pe_fld (pv 0) rfl)))))
          (pss_one (ps_expr (pe_bm PySem.F.plainAttrs_list PySem.F.slot_list_append PySem.F.type_list_append mt_append (pe_fld (pv 0) rfl) (pa_cons (pv 4) pa_nil))))))
          (pss_one (ps_if (pt_cmpR op_eq (pv 2) pe_str (nomark _))
            (pss_one (ps_expr (pe_bm PySem.F.plainAttrs_list PySem.F.slot_list_append PySem.F.type_list_append mt_append (pe_fld (pv 0) rfl) (pa_cons (pe_tup (pa_cons (pe_dget hu (pe_fld (pv 0) rfl) (pe_ix ix_tup (pv 1) pe_int (fun _ _ => rfl)) (fun _ _ => rfl)) (pa_cons pe_int pa_nil))) pa_nil))))
            (pss_one (ps_if (pt_cmpR op_eq (pv 2) pe_str (nomark _))
              (pss_cons (ps_set (i := 6) nd rfl (.inl rfl) (pe_ifExp (pt_cmpR op_eq (pe_cm0 D_StackMachine_pop c_StackMachine (hr.mono (by decide)) (pv 0)) (pe_gint gE) (nomark _)) (pe_ix ix_tup (pv 1) pe_int (fun _ _ => rfl)) (pe_ix ix_tup (pv 1) pe_int (fun _ _ => rfl))))
              (pss_one (ps_expr (pe_bm PySem.F.plainAttrs_list PySem.F.slot_list_append PySem.F.type_list_append mt_append (pe_fld (pv 0) rfl) (pa_cons (pe_tup (pa_cons (pe_dget hu (pe_fld (pv 0) rfl) (pv 6) (fun _ _ => rfl)) (pa_cons pe_int pa_nil))) pa_nil)))))
              (pss_one (ps_expr (pe_bm PySem.F.plainAttrs_list PySem.F.slot_list_append PySem.F.type_list_append mt_append (pe_fld (pv 0) rfl) (pa_cons (pe_cm D_StackMachine_found c_StackMachine (hr.mono (by decide)) (pv 0) (pa_cons (pv 2) pa_nil)) pa_nil))))))))))))))), ?_⟩
  obtain ⟨d1, d2, d3, d4, d5, d6, d7, d8⟩ := MA2.dis hM.dis
  obtain ⟨us, hsl, hus⟩ := hM.stack
  obtain ⟨ts, htl, hts⟩ := hM.todo
  have hul := hus.len
  have htlen := hts.len
  rw [List.length_reverse] at hul htlen
  obtain ⟨p, as, rfl, tp, hargs⟩ := hI
  refine ⟨_, rfl, p, _, _, _, rfl, rfl, tp.sq, at0, ?_⟩
  refine ⟨_, rfl, rfl, _, rfl, ?_⟩
  -- the stack alone changes
  have st1 : ∀ (us1 : List V) (st1 : List Val), All2 (NumOf T) st1.reverse us1 → SmOk P w K C CS (upd H M.sl (.lst us1)) M T m td st1 n ∧ Fr [M.sl] H (upd H M.sl (.lst us1)) := fun us1 st1 h1 => by
    have f1 : Fr [M.sl] H (upd H M.sl (.lst us1)) := Fr.set (List.mem_singleton.mpr rfl) hsl (fun _ z => by cases z) _
    have f2 : Fr (M.sl :: M.tl :: M.A.own) H (upd H M.sl (.lst us1)) := f1.mono fun x hx => by rw [List.mem_singleton.mp hx]; exact List.mem_cons_self ..
    have f3 : Fr M.S H (upd H M.sl (.lst us1)) := f2.mono fun x hx => List.mem_cons_of_mem _ hx
    have := hM.next (r := []) (st' := st1) (td' := td) f2 (by rw [List.append_nil]; exact hM.store.fr f1 (fun a ha z => d5 (by rw [← List.mem_singleton.mp z]; exact ha))) ⟨us1, upd_same, by rw [List.append_nil]; exact h1⟩ ⟨ts, by rw [upd_ne (Ne.symm d4)]; exact htl, by rw [List.append_nil]; exact hts.imp fun _ _ z => z.fr f3⟩
    rw [List.append_nil] at this
    exact ⟨this, f1⟩
  have fin1 : ∀ (us1 : List V) (st1' : List Val), All2 (NumOf T) st1'.reverse us1 → td' = td → st' = st1' → Q .non (upd H M.sl (.lst us1)) := fun us1 st1' h1 e1 e2 => by
    obtain ⟨a, b⟩ := st1 us1 st1' h1
    rw [← e1, ← e2] at a
    exact q _ [] (b.mono fun x hx => by rw [List.mem_singleton.mp hx]; exact List.mem_cons_self ..) (by rw [List.append_nil]; exact a) (Nat.zero_le _)
  have fin2 : ∀ (H' : Hp) (us1 : List V) (st1' : List Val), Fr [M.sl] H H' → H' M.sl = some (.lst us1) → All2 (NumOf T) st1'.reverse us1 → td' = td → st' = st1' → Q .non H' := fun H' us1 st1' f1 e1 h1 e2 e3 => by
    have f2 : Fr (M.sl :: M.tl :: M.A.own) H H' := f1.mono fun x hx => by rw [List.mem_singleton.mp hx]; exact List.mem_cons_self ..
    have f3 : Fr M.S H H' := f2.mono fun x hx => List.mem_cons_of_mem _ hx
    refine q H' [] f2 (hM.next f2 (by rw [List.append_nil]; exact hM.store.fr f1 (fun a ha z => d5 (by rw [← List.mem_singleton.mp z]; exact ha))) ⟨us1, e1, by rw [List.append_nil, e3]; exact h1⟩ ⟨ts, f1.keep _ _ (by simp [Ne.symm d4]) htl, by rw [List.append_nil, e2]; exact hts.imp fun _ _ z => z.fr f3⟩) (Nat.zero_le _)
  have d7' : ∀ H' : Hp, Fr [M.sl] H H' → H' M.tl = some (.lst ts) := fun H' f1 => f1.keep _ _ (by simp [Ne.symm d4]) htl
  -- a routine put on top
  have fin3 : ∀ (H' : Hp) (us1 : List V) (st1' : List Val) (code : List Ins) (y : Val) (k cl : Nat) (t : Addr), Fr [M.sl] H H' → H' M.sl = some (.lst us1) → All2 (NumOf T) st1'.reverse us1 → CodeAt K H T M.S cl code → H' t = none → td' = code :: td → st' = st1' →
      Q .non (upd (upd H' t (.tup [.ref cl, .int 0])) M.tl (.lst (ts ++ [.ref t]))) := fun H' us1 st1' code y k cl t f1 e1 h1 hc ht e2 e3 => by
    have g1 : Fr [] H' (upd H' t (.tup [.ref cl, .int 0])) := Fr.new ht _
    have htl1 := g1.keep M.tl _ (by simp) (d7' H' f1)
    have g2 : Fr [M.tl] (upd H' t (.tup [.ref cl, .int 0])) (upd (upd H' t (.tup [.ref cl, .int 0])) M.tl (.lst (ts ++ [.ref t]))) := Fr.set (List.mem_singleton.mpr rfl) htl1 (fun _ z => by cases z) _
    have et := g2.tup t _ upd_same
    have f2 : Fr (M.sl :: M.tl :: M.A.own) H (upd (upd H' t (.tup [.ref cl, .int 0])) M.tl (.lst (ts ++ [.ref t]))) := ((f1.mono (by simp)).trans (g1.mono (by simp))).trans (g2.mono (by simp))
    have f3 : Fr M.S H (upd (upd H' t (.tup [.ref cl, .int 0])) M.tl (.lst (ts ++ [.ref t]))) := f2.mono fun x hx => List.mem_cons_of_mem _ hx
    refine q _ [] f2 (hM.next f2 (by rw [List.append_nil]; exact ((hM.store.fr f1 (fun a ha z => d5 (by rw [← List.mem_singleton.mp z]; exact ha))).keep g1).fr g2 (fun a ha z => d6 (by rw [← List.mem_singleton.mp z]; exact ha))) ⟨us1, by rw [upd_ne d4]; exact g1.keep M.sl _ (by simp) e1, by rw [List.append_nil, e3]; exact h1⟩ ⟨_, upd_same, ?_⟩) (Nat.zero_le _)
    rw [List.append_nil, e2, List.reverse_cons]
    exact (hts.imp fun _ _ z => z.fr f3).app (All2.one ⟨t, cl, code, 0, rfl, et, hc.fr f3, rfl, Nat.zero_le _⟩)
  cases hstep with
  | @push x =>
    rw [seq (show (Ins.push x).word = "push" from rfl)]
    refine iteT ?_
    obtain ⟨u, hu, hx⟩ := All2.one_inv (show All2 (NumOf T) [x] as from hargs)
    subst hu
    refine ⟨_, rfl, M.s, C, M.dx, _, _, rfl, hM.obj, cM.cls, cM.nK, rfl, .inl ⟨rfl, _, .of hsl⟩, _, rfl, p, _, _, u, rfl, rfl, tp.sq, atI_nat (j := 1) rfl, M.sl, us, u, rfl, rfl, hsl, smallB (by omega), ?_⟩
    exact fin1 _ (x :: st) (by rw [List.reverse_cons]; exact hus.app (All2.one hx)) rfl rfl
  | @copy ns x _ _ hx =>
    rw [sne (show (Ins.copy ns).word ≠ "push" from (by decide : ("copy" : Str) ≠ "push"))]
    refine iteF ?_
    refine ⟨_, rfl, rfl, _, rfl, ?_⟩
    rw [seq (show (Ins.copy ns).word = "copy" from rfl)]
    refine iteT ?_
    obtain ⟨ns', e1, rfl⟩ : ∃ ns', (Ins.copy ns).args = [.l ns'] ∧ as = [.int ((ns'.length : Nat) : Int)] := hargs
    cases e1
    have hnl := (List.getElem?_eq_some_iff.mp hx).1
    refine ⟨_, rfl, M.s, C, M.dx, _, _, rfl, hM.obj, cM.cls, cM.nK, rfl, M.sl, us, rfl, .inl (.of hsl), (us.length : Int), 1, rfl, rfl, _, rfl, p, _, _, _, rfl, rfl, tp.sq, atI_nat (j := 1) rfl, (us.length : Int) - 1, ((ns.length : Nat) : Int), rfl, rfl, ?_⟩
    dsimp only
    obtain ⟨j, hj⟩ : ∃ j, j = us.length - 1 - ns.length := ⟨_, rfl⟩
    rw [show (us.length : Int) - 1 - ((ns.length : Nat) : Int) = ((j : Nat) : Int) by omega]
    have hxr : st.reverse[j]? = some x := by
      rw [List.getElem?_reverse (by omega), show st.length - 1 - j = ns.length by omega]
      exact hx
    obtain ⟨u, hu, hxu⟩ := hus.get hxr
    refine ⟨_, rfl, M.s, C, M.dx, _, _, rfl, hM.obj, cM.cls, cM.nK, rfl, .inl ⟨rfl, _, .of hsl⟩, _, rfl, ((j : Nat) : Int), 0, rfl, rfl, _, rfl, ?_⟩
    rw [decide_eq_true (by omega)]
    refine iteT ?_
    refine ⟨_, rfl, M.s, C, M.dx, _, _, rfl, hM.obj, cM.cls, cM.nK, rfl, _, rfl, M.sl, us, _, u, rfl, rfl, .of hsl, atI_nat hu, M.sl, us, u, rfl, rfl, hsl, smallB (by omega), ?_⟩
    exact fin1 _ (x :: st) (by rw [List.reverse_cons]; exact hus.app (All2.one hxu)) rfl rfl
  | @slide ns x tmp _ st0 hl =>
    rw [sne (show (Ins.slide ns).word ≠ "push" from (by decide : ("slide" : Str) ≠ "push"))]
    refine iteF ?_
    refine ⟨_, rfl, rfl, _, rfl, ?_⟩
    rw [sne (show (Ins.slide ns).word ≠ "copy" from (by decide : ("slide" : Str) ≠ "copy"))]
    refine iteF ?_
    refine ⟨_, rfl, rfl, _, rfl, ?_⟩
    rw [seq (show (Ins.slide ns).word = "slide" from rfl)]
    refine iteT ?_
    obtain ⟨ns', e1, rfl⟩ : ∃ ns', (Ins.slide ns).args = [.l ns'] ∧ as = [.int ((ns'.length : Nat) : Int)] := hargs
    cases e1
    obtain ⟨us0, u, rfl, hus0, hxu⟩ := tk_rev hus
    refine ⟨_, rfl, M.s, M.dx, _, rfl, hM.obj, rfl, M.s, M.dx, _, M.sl, us0, u, rfl, hM.obj, rfl, hsl, ?_⟩
    have f1 : Fr [M.sl] H (upd H M.sl (.lst us0)) := Fr.set (List.mem_singleton.mpr rfl) hsl (fun _ z => by cases z) _
    have e2 : upd H M.sl (.lst us0) M.sl = some (.lst us0) := upd_same
    have ob : ∀ H' : Hp, Fr [M.sl] H H' → H' M.s = some (.ins C M.dx (M.fs n)) := fun H' f => f.keep _ _ (by simp [d1]) hM.obj
    generalize upd H M.sl (.lst us0) = H1 at *
    have hl0 := hus0.len
    rw [List.length_reverse, List.length_append] at hl0
    refine ⟨_, rfl, p, _, _, _, rfl, rfl, (tp.fr f1).sq, atI_nat (j := 1) rfl, _, rfl, M.s, C, M.dx, _, _, rfl, ob H1 f1, cM.cls, cM.nK, rfl, M.sl, us0, rfl, .inl (.of e2), ((ns.length : Nat) : Int), (us0.length : Int), rfl, ?_⟩
    rw [if_neg (by omega)]
    refine ⟨((ns.length : Nat) : Int), rfl, by omega, by simp only [List.length_cons, List.length_append] at hst; omega, for_range (lo := 0) (n := ns.length) (fun j σ H' => ∃ x3 x5 x6 us1, σ = [some (.ref M.s), some (.ref p), some (.str (Ins.slide ns).word), x3, some u, x5, x6] ∧ Fr [M.sl] H H' ∧ H' M.sl = some (.lst us1) ∧ All2 (NumOf T) (tmp.drop j ++ st0).reverse us1)
      ⟨none, none, none, us0, rfl, f1, e2, by rw [List.drop_zero]; exact hus0⟩ ?_ ?_⟩
    · rintro j σ H' hj ⟨x3, x5, x6, us1, rfl, f', e', h'⟩
      have hjl : j < tmp.length := by omega
      rw [List.drop_eq_getElem_cons hjl, List.cons_append] at h'
      obtain ⟨us2, u2, rfl, h2, _⟩ := tk_rev h'
      refine ⟨_, rfl, M.s, C, M.dx, _, _, rfl, ob H' f', cM.cls, cM.nK, rfl, .inl ⟨rfl, _, .of e'⟩, M.sl, _, _, rfl, rfl, e', pop_at _ _, ?_⟩
      rw [List.dropLast_concat]
      exact ⟨_, _, _, us2, rfl, f'.trans (Fr.set (List.mem_singleton.mpr rfl) e' (fun _ z => by cases z) _), upd_same, h2⟩
    · rintro σ H' ⟨x3, x5, x6, us1, rfl, f', e', h'⟩
      rw [← hl, List.drop_length, List.nil_append] at h'
      have hl1 := h'.len
      rw [List.length_reverse] at hl1
      simp only [List.length_cons, List.length_append] at hst
      refine ⟨_, rfl, M.s, C, M.dx, _, _, rfl, ob H' f', cM.cls, cM.nK, rfl, .inl ⟨rfl, _, .of e'⟩, _, rfl, M.sl, us1, u, rfl, rfl, e', smallB (by omega), ?_⟩
      exact fin2 _ _ (x :: st0) (f'.trans (Fr.set (List.mem_singleton.mpr rfl) e' (fun _ z => by cases z) _)) upd_same (by rw [List.reverse_cons]; exact h'.app (All2.one hxu)) rfl rfl
  | @pr o ws x _ st0 hp =>
    have h5 : o.str ≠ "push" ∧ o.str ≠ "copy" ∧ o.str ≠ "slide" ∧ o.str ≠ "call" ∧ o.str ≠ "if" := by cases o <;> decide
    rw [sne (show (Ins.pr o).word ≠ "push" from h5.1)]
    refine iteF ?_
    refine ⟨_, rfl, rfl, _, rfl, ?_⟩
    rw [sne (show (Ins.pr o).word ≠ "copy" from h5.2.1)]
    refine iteF ?_
    refine ⟨_, rfl, rfl, _, rfl, ?_⟩
    rw [sne (show (Ins.pr o).word ≠ "slide" from h5.2.2.1)]
    refine iteF ?_
    refine ⟨_, rfl, rfl, _, rfl, ?_⟩
    rw [sne (show (Ins.pr o).word ≠ "call" from h5.2.2.2.1)]
    refine iteF ?_
    refine ⟨_, rfl, rfl, _, rfl, ?_⟩
    rw [sne (show (Ins.pr o).word ≠ "if" from h5.2.2.2.2)]
    refine iteF ?_
    rw [List.reverse_append, List.reverse_reverse] at hus
    obtain ⟨us0, wsn, rfl, hus0, hwsn⟩ := hus.split
    have hl0 := hus0.len
    rw [List.length_reverse] at hl0
    rw [List.length_append] at hst
    refine ⟨_, rfl, M.s, C, M.dx, _, _, rfl, hM.obj, cM.cls, cM.nK, rfl, .inl ⟨rfl, _, .of hsl⟩, _, rfl, M.s, M.dx, _, rfl, hM.obj, rfl, _, rfl, M, T, n, o, ws, x, us0, wsn, rfl, hM.obj, hM.store, hM.yes, hsl, hwsn, hp, hz, d1, d5, fun H' r k f e st' hr hk => ?_⟩
    refine ⟨M.sl, us0, _, rfl, rfl, e, smallB (by omega), ?_⟩
    have g1 : Fr [M.sl] H' (upd H' M.sl (.lst (us0 ++ [.int (k : Int)]))) := Fr.set (List.mem_singleton.mpr rfl) e (fun _ z => by cases z) _
    have f2 : Fr (M.sl :: M.A.own) H (upd H' M.sl (.lst (us0 ++ [.int (k : Int)]))) := f.trans (g1.mono (by simp))
    have f3 : Fr (M.sl :: M.tl :: M.A.own) H (upd H' M.sl (.lst (us0 ++ [.int (k : Int)]))) := f2.mono fun x hx => by
      rcases List.mem_cons.mp hx with e | e
      · rw [e]; exact List.mem_cons_self ..
      · exact List.mem_cons_of_mem _ (List.mem_cons_of_mem _ e)
    have f4 : Fr M.S H (upd H' M.sl (.lst (us0 ++ [.int (k : Int)]))) := f3.mono fun x hx => List.mem_cons_of_mem _ hx
    refine q _ r f3 (hM.next f3 (st'.fr g1 (fun a ha z => d5 (by rw [← List.mem_singleton.mp z]; exact ha))) ⟨_, upd_same, ?_⟩ ⟨ts, f2.keep M.tl _ (fun z => (List.mem_cons.mp z).elim (fun e => d4 e.symm) fun e => d6 (List.mem_cons_of_mem _ e)) htl, (hts.imp fun _ _ z => z.fr f4).imp fun _ _ z => z.mono⟩) hr
    rw [List.reverse_cons]
    exact (hus0.imp fun _ _ z => z.mono).app (All2.one ⟨k, rfl, hk⟩)
  | @call nm code _ _ hf =>
    rw [sne (show (Ins.call nm).word ≠ "push" from (by decide : ("call" : Str) ≠ "push"))]
    refine iteF ?_
    refine ⟨_, rfl, rfl, _, rfl, ?_⟩
    rw [sne (show (Ins.call nm).word ≠ "copy" from (by decide : ("call" : Str) ≠ "copy"))]
    refine iteF ?_
    refine ⟨_, rfl, rfl, _, rfl, ?_⟩
    rw [sne (show (Ins.call nm).word ≠ "slide" from (by decide : ("call" : Str) ≠ "slide"))]
    refine iteF ?_
    refine ⟨_, rfl, rfl, _, rfl, ?_⟩
    rw [seq (show (Ins.call nm).word = "call" from rfl)]
    refine iteT ?_
    obtain ⟨u, hu, k, rfl, hk⟩ := All2.one_inv (show All2 (NumOf T) [nm] as from hargs)
    subst hu
    obtain ⟨kvs, k1, k2⟩ := hM.routs
    obtain ⟨cl, hcl, hcode⟩ := k2 nm code hf k hk
    refine ⟨_, rfl, M.s, C, M.dx, _, _, rfl, hM.obj, cM.cls, cM.nT, rfl, .inl ⟨rfl, _, .of htl⟩, _, rfl, M.s, C, M.dx, _, _, rfl, hM.obj, cM.cls, cM.nR, rfl, _, rfl, p, _, _, _, rfl, rfl, tp.sq, atI_nat (j := 1) rfl, M.rd, _, rfl, by rw [← hcl]; exact DGet.k (k := Sum.inl (k : Int)) k1, (by show 2 ≤ sizeLine; decide), fun t ht => ?_⟩
    refine ⟨M.tl, ts, _, rfl, rfl, (Fr.new (S := []) ht _).keep M.tl _ (by simp) htl, smallB (by omega), ?_⟩
    exact fin3 H us st code nm k cl t (Fr.refl _ _) hsl hus hcode ht rfl rfl
  | @cond a b c code _ st0 hf =>
    rw [sne (show (Ins.cond a b).word ≠ "push" from (by decide : ("if" : Str) ≠ "push"))]
    refine iteF ?_
    refine ⟨_, rfl, rfl, _, rfl, ?_⟩
    rw [sne (show (Ins.cond a b).word ≠ "copy" from (by decide : ("if" : Str) ≠ "copy"))]
    refine iteF ?_
    refine ⟨_, rfl, rfl, _, rfl, ?_⟩
    rw [sne (show (Ins.cond a b).word ≠ "slide" from (by decide : ("if" : Str) ≠ "slide"))]
    refine iteF ?_
    refine ⟨_, rfl, rfl, _, rfl, ?_⟩
    rw [sne (show (Ins.cond a b).word ≠ "call" from (by decide : ("if" : Str) ≠ "call"))]
    refine iteF ?_
    refine ⟨_, rfl, rfl, _, rfl, ?_⟩
    rw [seq (show (Ins.cond a b).word = "if" from rfl)]
    refine iteT ?_
    obtain ⟨ua, r1, hu1, ⟨ka, rfl, hka⟩, hr1⟩ := (show All2 (NumOf T) [a, b] as from hargs)
    obtain ⟨ub, hu2, kb, rfl, hkb⟩ := All2.one_inv hr1
    subst hu2 hu1
    obtain ⟨us0, u, rfl, hus0, kc, rfl, hkc⟩ := tk_rev hus
    refine ⟨_, rfl, M.s, M.dx, _, rfl, hM.obj, rfl, M.s, M.dx, _, M.sl, us0, _, rfl, hM.obj, rfl, hsl, ?_⟩
    have f1 : Fr [M.sl] H (upd H M.sl (.lst us0)) := Fr.set (List.mem_singleton.mpr rfl) hsl (fun _ z => by cases z) _
    have e2 : upd H M.sl (.lst us0) M.sl = some (.lst us0) := upd_same
    have ob : upd H M.sl (.lst us0) M.s = some (.ins C M.dx (M.fs n)) := f1.keep _ _ (by simp [d1]) hM.obj
    have htl1 := d7' _ f1
    have tp1 := tp.fr f1
    obtain ⟨kvs, k1, k2⟩ := hM.routs
    have k11 := f1.keep M.rd _ (fun z => d7 (by rw [List.mem_singleton.mp z]; exact List.mem_cons_of_mem _ (List.mem_cons_self ..))) k1
    generalize upd H M.sl (.lst us0) = H1 at *
    refine ⟨rfl, _, rfl, ?_⟩
    by_cases c0 : c = nil
    · rw [if_pos c0] at hf
      subst c0
      have kc0 : kc = 0 := nodup_at hM.store.nd hkc hM.store.zero
      subst kc0
      rw [decide_eq_true (show V.int ((0 : Nat) : Int) = V.int 0 from rfl)]
      refine iteT ?_
      obtain ⟨cl, hcl, hcode⟩ := k2 b code hf kb hkb
      refine ⟨_, rfl, p, _, _, _, rfl, rfl, tp1.sq, atI_nat (j := 2) rfl, ?_⟩
      refine ⟨_, rfl, M.s, C, M.dx, _, _, rfl, ob, cM.cls, cM.nT, rfl, .inl ⟨rfl, _, .of htl1⟩, _, rfl, M.s, C, M.dx, _, _, rfl, ob, cM.cls, cM.nR, rfl, _, rfl, M.rd, _, rfl, by rw [← hcl]; exact DGet.k (k := Sum.inl (kb : Int)) k11, (by show 2 ≤ sizeLine; decide), fun t ht => ?_⟩
      refine ⟨M.tl, ts, _, rfl, rfl, (Fr.new (S := []) ht _).keep M.tl _ (by simp) htl1, smallB (by omega), ?_⟩
      exact fin3 H1 us0 _ code b kb cl t f1 e2 hus0 hcode ht rfl rfl
    · rw [if_neg c0] at hf
      have kc0 : kc ≠ 0 := fun z => by
        rw [z, hM.store.zero] at hkc
        exact c0 (Option.some.inj hkc).symm
      rw [decide_eq_false (by intro z; injection z with z; exact kc0 (Int.ofNat.inj z))]
      refine iteF ?_
      obtain ⟨cl, hcl, hcode⟩ := k2 a code hf ka hka
      refine ⟨_, rfl, p, _, _, _, rfl, rfl, tp1.sq, atI_nat (j := 1) rfl, ?_⟩
      refine ⟨_, rfl, M.s, C, M.dx, _, _, rfl, ob, cM.cls, cM.nT, rfl, .inl ⟨rfl, _, .of htl1⟩, _, rfl, M.s, C, M.dx, _, _, rfl, ob, cM.cls, cM.nR, rfl, _, rfl, M.rd, _, rfl, by rw [← hcl]; exact DGet.k (k := Sum.inl (ka : Int)) k11, (by show 2 ≤ sizeLine; decide), fun t ht => ?_⟩
      refine ⟨M.tl, ts, _, rfl, rfl, (Fr.new (S := []) ht _).keep M.tl _ (by simp) htl1, smallB (by omega), ?_⟩
      exact fin3 H1 us0 _ code a ka cl t f1 e2 hus0 hcode ht rfl rfl
end
end Og

set_option Elab.async false
set_option linter.all false
set_option maxRecDepth 100000
set_option maxHeartbeats 4000000
/-! Og7d: go_on. -/
namespace Og
open PySem PySem.Spec PyProof.Rows L2
section
variable {P : Program} {w : World} {K : PySem.W.Frag} {mg : MG} {base : Heap} {C CS : Addr}
theorem SmOk.tick {H : Hp} {M : MA2} {T : List Val} {m : Mac} {td : List (List Ins)} {st : List Val} {n : Nat} (h : SmOk P w K C CS H M T m td st n) : SmOk P w K C CS (upd H M.s (.ins C M.dx (M.fs (n + 1)))) M T m td st (n + 1) := by
  obtain ⟨d1, d2, d3, d4, d5, d6, d7, d8⟩ := MA2.dis h.dis
  have f : Fr [M.s] H (upd H M.s (.ins C M.dx (M.fs (n + 1)))) := Fr.set (List.mem_singleton.mpr rfl) h.obj (fun _ z => by cases z) _
  have f' : Fr M.S H (upd H M.s (.ins C M.dx (M.fs (n + 1)))) := f.mono fun x hx => by rw [List.mem_singleton.mp hx]; exact List.mem_cons_self ..
  obtain ⟨us, hsl, hus⟩ := h.stack
  obtain ⟨ts, htl, hts⟩ := h.todo
  obtain ⟨kvs, k1, k2⟩ := h.routs
  refine ⟨upd_same, h.store.fr f (fun a ha z => d3 (by rw [← List.mem_singleton.mp z]; exact ha)), h.yes, ⟨us, f.keep _ _ (by simp [Ne.symm d1]) hsl, hus⟩, ⟨ts, f.keep _ _ (by simp [Ne.symm d2]) htl, hts.imp fun _ _ z => z.fr f'⟩,
    ⟨kvs, f'.keep _ _ d7 k1, fun y code hy k hk => ?_⟩, h.known, h.dis⟩
  obtain ⟨cl, e1, e2⟩ := k2 y code hy k hk
  exact ⟨cl, e1, e2.fr f'⟩
abbrev GoG := List (List Ins) × List Val × Nat × Nat × Nat × List Val
def PvG (P : Program) (w : World) (K : PySem.W.Frag) (C CS : Addr) (M : MA2) (T : List Val) (m : Mac) (st2 : List Val) (lim : Nat) (H : Hp) (g : GoG) (σ : L2.St) (H' : Hp) : Prop :=
  ∃ x2 x3, σ = [some (.ref M.s), some (.int (lim : Int)), x2, x3] ∧ Fr M.S H H' ∧ SmOk P w K C CS H' M (T ++ g.2.2.2.2.2) m g.1 g.2.1 g.2.2.2.2.1 ∧ Reach m g.1 g.2.1 g.2.2.1 g.2.2.2.1 [] st2 ∧ g.2.2.2.2.1 + g.2.2.1 ≤ lim ∧
    g.2.1.length + g.2.2.1 ≤ 1000100 ∧ g.1.length + g.2.2.1 ≤ 1000100 ∧ g.2.2.2.2.2.length + g.2.2.1 ≤ 1000000
theorem stepI_len {m : Mac} {i : Ins} {td td' : List (List Ins)} {st st' : List Val} (h : StepI m i td st td' st') : st'.length ≤ st.length + 1 ∧ td'.length ≤ td.length + 1 := by
  cases h <;> (simp only [List.length_cons, List.length_append, List.length_reverse]; omega)
def spMGo (P : Program) (w : World) (K : PySem.W.Frag) (C CS : Addr) : Sp := fun vs H Q _ => ∃ (M : MA2) (T : List Val) (m : Mac) (td : List (List Ins)) (st st2 : List Val) (n0 n k lim : Nat), vs = [.ref M.s, .int (lim : Int)] ∧ SmOk P w K C CS H M T m td st n0 ∧ Reach m td st n k [] st2 ∧ n0 + n ≤ lim ∧ lim ≤ 1000000 ∧
  st.length ≤ 100 ∧ td.length ≤ 100 ∧ T.length ≤ 6000000 ∧ ∀ H' r n1, Fr M.S H H' → SmOk P w K C CS H' M (T ++ r) m [] st2 n1 → r.length ≤ 2000000 → Q (.bl true) H'
theorem sc_StackMachine_go_on : FnScope ["self", "limit", "instructions", "at"] ["self", "limit"] (defScope s_StackMachine_go_on) := ⟨rfl, rfl, rfl, by decide +kernel, rfl, by decide +kernel, by decide +kernel⟩
theorem ok_MGo (F : Fm K C "go_on" "StackMachine.go_on" s_StackMachine_go_on) (B : Bn mg) (cM : ClsM K C) (D_StackMachine_carry_out : Dm P w K mg base C "carry_out" ["self", "instruction"] 4 (spMCarry P w K C CS)) : Dm P w K mg base C "go_on" ["self", "limit"] 5 (spMGo P w K C CS) := by
  have c_StackMachine := cM.cls
  refine Dm.of F sc_StackMachine_go_on (fun _ _ _ _ _ _ us hl => match us, hl with | [_, _], _ => rfl) (fun vs H Q E h => ?_) (fun f cdv A outer s H vs Q E hr h => ?_)
  · obtain ⟨_, _, _, _, _, _, _, _, _, _, rfl, _⟩ := h
    rfl
  obtain ⟨M, T, m, td, st, st2, n0, n, k, lim, rfl, hM, hre, hlim, hl1, hst, htd, hz, q⟩ := h
  have hu := hu_of hr
  have nd := sc_StackMachine_go_on.nd
  refine ⟨_, (pss_cons (ps_while PassesOwn.never (pt_cmpR op_gt (pe_callB call_len_seq (by rfl) B.len bLen (pa_cons (pe_fld (pv 0) rfl) pa_nil)) pe_int (nomark _))
      (pss_cons (ps_asg (pe_bm0 PySem.F.plainAttrs_list PySem.F.slot_list_pop PySem.F.type_list_pop mt_pop (pe_fld (pv 0) rfl)) (pg_tup rfl (pgs_cons (pg_name (i := 2) nd rfl (.inl rfl)) (pgs_cons (pg_name (i := 3) nd rfl (.inl rfl)) pgs_nil))))
      (pss_one (ps_if (pt_cmpR op_lt (pv 3) (pe_callB call_len_seq (by rfl) B.len bLen (pa_cons (pv 2) pa_nil)) (nomark _))
        (pss_cons (ps_if (pt_cmpR op_eq (pe_fld (pv 0) rfl) (pv 1) (nomark _))
          (pss_one (ps_ret pe_bl))
          pss_nil)
        (pss_cons (ps_fld (pv 0) (pe_op op_add (pe_fld (pv 0) rfl) pe_int) rfl)
        (pss_cons (ps_expr (pe_bm PySem.F.plainAttrs_list PySem.F.slot_list_append PySem.F.type_list_append mt_append (pe_fld (pv 0) rfl) (pa_cons (pe_tup (pa_cons (pv 2) (pa_cons (pe_op op_add (pv 3) pe_int) pa_nil))) pa_nil)))
        (pss_one (ps_expr (pe_cm D_StackMachine_carry_out c_StackMachine (hr.mono (by decide)) (pv 0) (pa_cons (pe_ix ix_list (pv 2) (pv 3) (fun _ _ => rfl)) pa_nil)))))))
        pss_nil))))
    (pss_one (ps_ret pe_bl))), ?_⟩
  refine while_g (G := GoG) (PvG P w K C CS M T m st2 lim H) (fun g => g.2.2.2.1) (td, st, n, k, n0, [])
    ⟨none, none, rfl, Fr.refl _ _, by simp only; rw [List.append_nil]; exact hM, hre, hlim, by simp only; omega, by simp only; omega, by simp only [List.length_nil]; omega⟩ ?_
  clear hre hlim hst htd
  rintro ⟨td, st, n, k, n1, r⟩ σ H' ⟨x2, x3, rfl, fr, hM', hre, hlim, hst, htd, hr'⟩
  simp only at hM' hre hlim hst htd hr'
  obtain ⟨d1, d2, d3, d4, d5, d6, d7, d8⟩ := MA2.dis hM'.dis
  obtain ⟨ts, htl, hts⟩ := hM'.todo
  have tlen := hts.len
  rw [List.length_reverse] at tlen
  refine ⟨_, rfl, M.s, C, M.dx, _, _, rfl, hM'.obj, cM.cls, cM.nT, rfl, M.tl, ts, rfl, .inl (.of htl), _, _, rfl, rfl, _, rfl, ?_⟩
  cases td with
  | nil =>
    rw [decide_eq_false (by rw [tlen]; decide)]
    refine iteF ?_
    obtain ⟨rfl, rfl⟩ := reach_end hre
    exact q H' r n1 fr hM' (by omega)
  | cons is td =>
  rw [decide_eq_true (by rw [tlen, List.length_cons]; show (0 : Int) < ((td.length + 1 : Nat) : Int); omega)]
  refine iteT ?_
  refine ⟨_, while_n (G := GoG) (mu := fun g => g.2.2.2.1), ?_⟩
  rw [List.reverse_cons] at hts
  obtain ⟨ts0, v, rfl, hts0, p, cl, code, j, rfl, hp, hcode, his, hj⟩ := hts.last
  have f1 : Fr [M.tl] H' (upd H' M.tl (.lst ts0)) := Fr.set (List.mem_singleton.mpr rfl) htl (fun _ z => by cases z) _
  have f1' : Fr (M.sl :: M.tl :: M.A.own) H' (upd H' M.tl (.lst ts0)) := f1.mono fun x hx => by rw [List.mem_singleton.mp hx]; exact List.mem_cons_of_mem _ (List.mem_cons_self ..)
  have f1S : Fr M.S H' (upd H' M.tl (.lst ts0)) := f1'.mono fun x hx => List.mem_cons_of_mem _ hx
  obtain ⟨us, hsl, hus⟩ := hM'.stack
  have hM1 : SmOk P w K C CS (upd H' M.tl (.lst ts0)) M (T ++ r) m td st n1 := by
    have := hM'.next (r := []) (td' := td) (st' := st) f1' (by rw [List.append_nil]; exact hM'.store.fr f1 (fun a ha z => d6 (by rw [← List.mem_singleton.mp z]; exact ha))) ⟨us, by rw [upd_ne d4]; exact hsl, by rw [List.append_nil]; exact hus⟩ ⟨ts0, upd_same, by rw [List.append_nil]; exact hts0.imp fun _ _ z => z.fr f1S⟩
    rw [List.append_nil] at this
    exact this
  refine ⟨_, rfl, M.s, C, M.dx, _, _, rfl, hM'.obj, cM.cls, cM.nT, rfl, .inl ⟨rfl, _, .of htl⟩, M.tl, _, _, rfl, rfl, htl, pop_at _ _, ?_⟩
  rw [List.dropLast_concat]
  have hp1 := f1.tup _ _ hp
  have hcode1 := hcode.fr f1S
  have htl1 : upd H' M.tl (.lst ts0) M.tl = some (.lst ts0) := upd_same
  have fr1 := fr.trans f1S
  clear hts hcode hp htl hM' fr f1' f1S f1 hus hsl hts0
  generalize upd H' M.tl (.lst ts0) = H1 at *
  clear H'
  refine ⟨p, _, rfl, .of hp1, rfl, _, _, rfl, _, _, rfl, rfl, ?_⟩
  obtain ⟨ncl, cus, hcl, hcus⟩ := id hcode1
  have clen := hcus.len
  refine ⟨_, rfl, _, rfl, cl, cus, rfl, .inl (.of hcl), _, _, rfl, rfl, _, rfl, ?_⟩
  cases is with
  | nil =>
    have jl : code.length ≤ j := List.drop_eq_nil_iff.mp his.symm
    rw [decide_eq_false (by omega)]
    refine iteF ?_
    obtain ⟨k', rfl, hre'⟩ := reach_pop hre
    exact ⟨(td, st, n, k', n1, r), by simp only; omega, _, _, rfl, fr1, hM1, hre', hlim, hst, by simp only [List.length_cons] at htd ⊢; omega, hr'⟩
  | cons i is =>
    have jl : j < code.length := by
      rcases Nat.lt_or_ge j code.length with h | h
      · exact h
      · rw [List.drop_eq_nil_of_le h] at his; cases his
    rw [List.drop_eq_getElem_cons jl] at his
    obtain ⟨ei, eis⟩ := List.cons.inj his
    rw [decide_eq_true (by omega)]
    refine iteT ?_
    obtain ⟨n', k', td', st', rfl, rfl, hstep, hre'⟩ := reach_ins hre
    refine ⟨_, rfl, M.s, C, M.dx, _, _, rfl, hM1.obj, cM.cls, cM.nP, rfl, _, rfl, rfl, _, rfl, ?_⟩
    rw [decide_eq_false (by intro z; injection z with z; have := Int.ofNat.inj z; omega)]
    refine iteF ?_
    refine ⟨_, rfl, M.s, C, M.dx, _, _, rfl, hM1.obj, cM.cls, cM.nP, rfl, ((n1 : Nat) : Int), 1, rfl, rfl, _, rfl, M.s, C, M.dx, _, rfl, hM1.obj, cM.cls, cM.nP, (by show 6 < 1000; decide), ?_⟩
    have hM2 := hM1.tick
    have f2 : Fr M.S H1 (upd H1 M.s (.ins C M.dx (M.fs (n1 + 1)))) := (Fr.set (S := [M.s]) (List.mem_singleton.mpr rfl) hM1.obj (fun _ z => by cases z) _).mono fun x hx => by rw [List.mem_singleton.mp hx]; exact List.mem_cons_self ..
    have eput : upd H1 M.s (.ins C M.dx (putF "steps" ((fun i j => V.int (i + j)) ((n1 : Nat) : Int) 1) (M.fs n1))) = upd H1 M.s (.ins C M.dx (M.fs (n1 + 1))) := rfl
    rw [eput]
    have htl2 : upd H1 M.s (.ins C M.dx (M.fs (n1 + 1))) M.tl = some (.lst ts0) := by rw [upd_ne (Ne.symm d2)]; exact htl1
    have hcode2 := hcode1.fr f2
    have hcl2 := f2.keep cl _ ncl hcl
    have hcus2 := hcus.imp fun _ _ z => IsI.fr f2 z
    have fr2 := fr1.trans f2
    clear eput f2
    generalize upd H1 M.s (.ins C M.dx (M.fs (n1 + 1))) = H2 at *
    refine ⟨_, rfl, M.s, C, M.dx, _, _, rfl, hM2.obj, cM.cls, cM.nT, rfl, .inl ⟨rfl, _, .of htl2⟩, _, rfl, _, rfl, ((j : Nat) : Int), 1, rfl, rfl, (by show 2 ≤ sizeLine; decide), fun t ht => ?_⟩
    have g1 : Fr [] H2 (upd H2 t (.tup [.ref cl, .int (((j : Nat) : Int) + 1)])) := Fr.new ht _
    have htl3 := g1.keep M.tl _ (by simp) htl2
    rw [List.length_append, List.length_singleton, List.length_cons] at tlen
    simp only [List.length_cons] at htd
    refine ⟨M.tl, ts0, _, rfl, rfl, htl3, smallB (by omega), ?_⟩
    have g2 : Fr [M.tl] (upd H2 t (.tup [.ref cl, .int (((j : Nat) : Int) + 1)])) (upd (upd H2 t (.tup [.ref cl, .int (((j : Nat) : Int) + 1)])) M.tl (.lst (ts0 ++ [.ref t]))) := Fr.set (List.mem_singleton.mpr rfl) htl3 (fun _ z => by cases z) _
    have et := g2.tup t _ upd_same
    have g12' : Fr (M.sl :: M.tl :: M.A.own) H2 (upd (upd H2 t (.tup [.ref cl, .int (((j : Nat) : Int) + 1)])) M.tl (.lst (ts0 ++ [.ref t]))) := (g1.mono (by simp)).trans (g2.mono (by simp))
    have g12 : Fr M.S H2 (upd (upd H2 t (.tup [.ref cl, .int (((j : Nat) : Int) + 1)])) M.tl (.lst (ts0 ++ [.ref t]))) := g12'.mono fun x hx => List.mem_cons_of_mem _ hx
    obtain ⟨us, hsl, hus⟩ := hM2.stack
    obtain ⟨ts2, htl2', hts2⟩ := hM2.todo
    rw [htl2] at htl2'
    obtain rfl : ts0 = ts2 := by injection htl2' with z; injection z
    have hM3 : SmOk P w K C CS (upd (upd H2 t (.tup [.ref cl, .int (((j : Nat) : Int) + 1)])) M.tl (.lst (ts0 ++ [.ref t]))) M (T ++ r) m (is :: td) st (n1 + 1) := by
      have := hM2.next (r := []) (td' := is :: td) (st' := st) g12' (by rw [List.append_nil]; exact (hM2.store.keep g1).fr g2 (fun a ha z => d6 (by rw [← List.mem_singleton.mp z]; exact ha))) ⟨us, by rw [upd_ne d4]; exact g1.keep M.sl _ (by simp) hsl, by rw [List.append_nil]; exact hus⟩
        ⟨ts0 ++ [.ref t], upd_same, by rw [List.append_nil, List.reverse_cons]; exact (hts2.imp fun _ _ z => z.fr g12).app (All2.one ⟨t, cl, code, j + 1, rfl, et, hcode2.fr g12, eis, jl⟩)⟩
      rw [List.append_nil] at this
      exact this
    have hcl3 := g12.keep cl _ ncl hcl2
    have hcus3 := hcus2.imp fun _ _ z => IsI.fr g12 z
    have fr3 := fr2.trans g12
    generalize upd (upd H2 t (.tup [.ref cl, .int (((j : Nat) : Int) + 1)])) M.tl (.lst (ts0 ++ [.ref t])) = H3 at *
    obtain ⟨v, hv, hvI⟩ := hcus3.get (List.getElem?_eq_getElem jl)
    rw [← ei] at hvI
    have hlen := stepI_len hstep
    rw [List.length_cons] at hlen
    refine ⟨_, rfl, M.s, M.dx, _, rfl, hM3.obj, rfl, _, rfl, _, rfl, cl, cus, _, v, rfl, rfl, .of hcl3, atI_nat hv, M, T ++ r, m, i, is :: td, td', st, st', n1 + 1, v, rfl, hM3, hvI, hstep, by omega, by rw [List.length_cons]; omega, by rw [List.length_append]; omega, fun H4 r4 f4 hM4 hr4 => ?_⟩
    rw [List.append_assoc] at hM4
    exact ⟨(td', st', n', k', n1 + 1, r ++ r4), by simp only; omega, _, _, rfl, fr3.trans (f4.mono fun x hx => List.mem_cons_of_mem _ hx), hM4, hre', by simp only; omega, by simp only; omega, by simp only; omega, by simp only [List.length_append]; omega⟩
end
end Og

set_option Elab.async false
set_option linter.all false
set_option maxRecDepth 100000
set_option maxHeartbeats 4000000
/-! Og7e: StackMachine.__init__. -/
namespace Og
open PySem PySem.Spec PyProof.Rows L2
theorem findR_mem' {y : Val} {code : List Ins} : ∀ {m : Mac}, findR m y = some code → ⟨y, code⟩ ∈ m
  | [], h => by simp [findR] at h
  | r :: m, h => by
    simp only [findR] at h
    split at h
    · rename_i e
      cases h
      rw [← e]
      exact List.mem_cons_self ..
    · exact List.mem_cons_of_mem _ (findR_mem' h)
section
variable {P : Program} {w : World} {K : PySem.W.Frag} {mg : MG} {base : Heap} {C CS : Addr}
def teMade (P : Program) (w : World) (K : PySem.W.Frag) (CS CM : Addr) : TE := tMeth CM "made" (spMMade P w K CM CS) [] E0 (tVar 0) (tCons (tVar 4) tNil)
def spMInit (P : Program) (w : World) (K : PySem.W.Frag) (C CS : Addr) : Sp := fun vs H Q _ => ∃ (s dx : Addr) (m : Mac) (ws : List Val) (v : V) (il : Addr) (ivs : List V) (rt0 : Rt), vs = [.ref s, v, .ref il] ∧ H s = some (.ins C dx []) ∧ IsV K H m.val v ∧ H il = some (.lst ivs) ∧ IsVs K H ws ivs ∧
  m.names.Nodup ∧ m.head? = some rt0 ∧ m.val.size ≤ 300000 ∧ Val.sizes ws ≤ 1000000 ∧ ∀ (H' : Hp) (M : MA2) (T : List Val), M.s = s → M.dx = dx → Fr [s] H H' → SmOk P w K C CS H' M T m [rt0.code] ws.reverse 0 → T.length ≤ 6000000 → (∀ a ∈ M.sl :: M.tl :: M.rd :: M.A.s :: M.A.own, H a = none) → Q .non H'
theorem sc_StackMachine_init : FnScope ["self", "program", "inputs", "routine", "one", "value"] ["self", "program", "inputs"] (defScope s_StackMachine_init) := ⟨rfl, rfl, rfl, by decide +kernel, rfl, by decide +kernel, by decide +kernel⟩
theorem ok_MInit (F : Fk K mg "StackMachine" C "StackMachine.__init__" s_StackMachine_init) (B : Bn mg) (cM : ClsM K C) (cS : ClsS K CS) (D_Store : Dk P w K mg base "Store" CS ["self"] 1 (spSInit P w CS)) (D_Store_put : Dm P w K mg base CS "put" ["self", "value"] 2 (spSPut P w K CS))
    (D_StackMachine_made : Dm P w K mg base C "made" ["self", "instruction"] 3 (spMMade P w K C CS)) : Dk P w K mg base "StackMachine" C ["self", "program", "inputs"] 4 (spMInit P w K C CS) := by
  have c_Store := cS.cls
  have c_StackMachine := cM.cls
  refine Dk.of F sc_StackMachine_init (fun _ _ _ _ _ _ us hl => match us, hl with | [_, _, _], _ => rfl) (fun vs H Q E h => ?_) (fun f cdv A outer s H vs Q E hr h => ?_)
  · obtain ⟨_, _, _, _, _, _, _, _, rfl, _⟩ := h
    rfl
  obtain ⟨so, dx, m, ws, v, il, ivs, rt0, rfl, hs, hv, hil, hivs, hnd, hhd, hz, hzw, q⟩ := h
  have hu := hu_of hr
  have nd := sc_StackMachine_init.nd
  refine ⟨_, (pss_cons (ps_fld (pv 0) (pe_ck0 D_Store (hr.mono (by decide))) rfl)
    (pss_cons (ps_fld (pv 0) (pe_cm D_Store_put c_Store (hr.mono (by decide)) (pe_fld (pv 0) rfl) (pa_cons pe_str pa_nil)) rfl)
    (pss_cons (ps_fld (pv 0) pe_dnewK rfl)
    (pss_cons (ps_for PassesOwn.never rfl (pi_tup (pv 1)) (pg_name (i := 3) nd rfl (.inl rfl))
      (pss_one (ps_dput hu (pe_fld (pv 0) rfl) (pe_cm D_Store_put c_Store (hr.mono (by decide)) (pe_fld (pv 0) rfl) (pa_cons (pe_ix ix_tup (pv 3) pe_int (fun _ _ => rfl)) pa_nil)) (pe_lc (own := [("one", 4)]) (g := gName 4) (te := teMade P w K CS C) (tt := tYes) rfl nd (pi_tup (pe_slice sl_tailR (pv 3) (po_some pe_int) po_none)) (blkOk_by (N := ["self", "program", "inputs", "routine", "one", "value"]) (sc := defScope s_StackMachine_init) (by decide +kernel)) (fun _ _ _ _ _ => pg_name (i := 4) nd rfl (.inl rfl)) (fun _ _ _ _ _ => pts_nil) (fun _ _ _ _ _ => (pe_cm D_StackMachine_made c_StackMachine (hr.mono (by decide)) (pv 0) (pa_cons (pv 4) pa_nil)))) rfl)))
    (pss_cons (ps_fld (pv 0) (pe_lc (own := [("value", 5)]) (g := gName 5) (te := tePut2 P w K CS 5) (tt := tYes) rfl nd (pi_list (pv 2)) (blkOk_by (N := ["self", "program", "inputs", "routine", "one", "value"]) (sc := defScope s_StackMachine_init) (by decide +kernel)) (fun _ _ _ _ _ => pg_name (i := 5) nd rfl (.inl rfl)) (fun _ _ _ _ _ => pts_nil) (fun _ _ _ _ _ => (pe_cm D_Store_put c_Store (hr.mono (by decide)) (pe_fld (pv 0) rfl) (pa_cons (pv 5) pa_nil)))) rfl)
    (pss_cons (ps_fld (pv 0) (pe_lst (pa_cons (pe_tup (pa_cons (pe_dget hu (pe_fld (pv 0) rfl) (pe_cm D_Store_put c_Store (hr.mono (by decide)) (pe_fld (pv 0) rfl) (pa_cons (pe_ix ix_tup (pe_ix ix_tup (pv 1) pe_int (fun _ _ => rfl)) pe_int (fun _ _ => rfl)) pa_nil)) (fun _ _ => rfl)) (pa_cons pe_int pa_nil))) pa_nil)) rfl)
    (pss_one (ps_fld (pv 0) pe_int rfl)))))))), ?_⟩
  refine fun x dx' hx hdx ne => ⟨x, dx', rfl, upd_same, fun H1 A e1 e2 f hn st => ⟨rfl, ?_⟩⟩
  have f1 := mk_fr hx hdx ne f
  have ho1 := f1.keep so _ (by simp) hs
  have hnA : ∀ a ∈ A.s :: A.own, H a = none := fun a ha => by
    rcases List.mem_cons.mp ha with e | e
    · rw [e, e1]; exact hx
    · exact mk_none (hn a e)
  have soA : so ∉ A.s :: A.own := fun z => by have := hnA so z; rw [hs] at this; cases this
  have soO : so ∉ A.own := fun z => soA (List.mem_cons_of_mem _ z)
  have hv1 := hv.fr f1
  subst e1
  refine ⟨_, rfl, so, C, dx, _, rfl, ho1, cM.cls, cM.nSt, by decide, ?_⟩
  have f2 : Fr [so] H1 (upd H1 so (.ins C dx (putF "store" (.ref A.s) []))) := Fr.set (List.mem_singleton.mpr rfl) ho1 (fun _ z => by cases z) _
  have ho2 : upd H1 so (.ins C dx (putF "store" (.ref A.s) [])) so = some (.ins C dx [("store", .ref A.s)]) := upd_same
  have st2 := st.fr f2 (fun a ha z => soA (by rw [← List.mem_singleton.mp z]; exact ha))
  have fr2 : Fr [so] H (upd H1 so (.ins C dx (putF "store" (.ref A.s) []))) := (f1.mono (by simp)).trans f2
  clear f2 f1 ho1 hv1 st
  generalize upd H1 so (.ins C dx (putF "store" (.ref A.s) [])) = H2 at *
  -- yes
  refine ⟨_, rfl, so, C, dx, _, _, rfl, ho2, cM.cls, cM.nSt, rfl, A.s, A.dx, _, rfl, st2.obj, rfl, A, [.l []], .w "yes", _, rfl, st2, rfl, by show 1 ≤ 1000000; decide, by show 1 + 2 * 1 ≤ 9000000; decide, fun H3 r3 ny f3 st3 hr3 hny => ?_⟩
  have ho3 := f3.keep so _ soO ho2
  refine ⟨_, rfl, so, C, dx, _, rfl, ho3, cM.cls, cM.nY, (by show 1 < 1000; decide), ?_⟩
  have f4 : Fr [so] H3 (upd H3 so (.ins C dx (putF "yes" (.int (ny : Int)) [("store", .ref A.s)]))) := Fr.set (List.mem_singleton.mpr rfl) ho3 (fun _ z => by cases z) _
  have ho4 : upd H3 so (.ins C dx (putF "yes" (.int (ny : Int)) [("store", .ref A.s)])) so = some (.ins C dx [("store", .ref A.s), ("yes", .int (ny : Int))]) := upd_same
  have st4 := st3.fr f4 (fun a ha z => soA (by rw [← List.mem_singleton.mp z]; exact ha))
  have fr4 : Fr (so :: A.own) H (upd H3 so (.ins C dx (putF "yes" (.int (ny : Int)) [("store", .ref A.s)]))) := ((fr2.mono (by simp)).trans (f3.mono (fun x hx => List.mem_cons_of_mem _ hx))).trans (f4.mono (by simp))
  clear f3 f4 ho3 st3 st2 ho2 fr2
  generalize upd H3 so (.ins C dx (putF "yes" (.int (ny : Int)) [("store", .ref A.s)])) = H4 at *
  -- routines
  refine fun rd hrd => ?_
  have rso : rd ≠ so := fun z => by rw [z, ho4] at hrd; cases hrd
  have rA : rd ∉ A.s :: A.own := fun z => by
    obtain ⟨o, e⟩ := st4.there rd z
    rw [hrd] at e; cases e
  have f5 : Fr [] H4 (upd H4 rd (.dK [])) := Fr.new hrd _
  have ho5 := f5.keep so _ (by simp) ho4
  refine ⟨_, rfl, so, C, dx, _, rfl, ho5, cM.cls, cM.nR, (by show 2 < 1000; decide), ?_⟩
  have f6 : Fr [so] (upd H4 rd (.dK [])) (upd (upd H4 rd (.dK [])) so (.ins C dx (putF "routines" (.ref rd) [("store", .ref A.s), ("yes", .int (ny : Int))]))) := Fr.set (List.mem_singleton.mpr rfl) ho5 (fun _ z => by cases z) _
  have ho6 : upd (upd H4 rd (.dK [])) so (.ins C dx (putF "routines" (.ref rd) [("store", .ref A.s), ("yes", .int (ny : Int))])) so = some (.ins C dx [("store", .ref A.s), ("yes", .int (ny : Int)), ("routines", .ref rd)]) := upd_same
  have hrd6 : upd (upd H4 rd (.dK [])) so (.ins C dx (putF "routines" (.ref rd) [("store", .ref A.s), ("yes", .int (ny : Int))])) rd = some (.dK []) := by rw [upd_ne rso]; exact upd_same
  have st6 := (st4.keep f5).fr f6 (fun a ha z => soA (by rw [← List.mem_singleton.mp z]; exact ha))
  have fr6 : Fr (so :: A.own) H (upd (upd H4 rd (.dK [])) so (.ins C dx (putF "routines" (.ref rd) [("store", .ref A.s), ("yes", .int (ny : Int))]))) := (fr4.trans (f5.mono (by simp))).trans (f6.mono (by simp))
  have hrd0 : H rd = none := by
    cases hq : H rd with
    | none => rfl
    | some o => rw [fr4.keep rd o (fun z => (List.mem_cons.mp z).elim rso fun e => rA (List.mem_cons_of_mem _ e)) hq] at hrd; cases hrd
  clear f5 f6 ho5 ho4 fr4
  generalize upd (upd H4 rd (.dK [])) so (.ins C dx (putF "routines" (.ref rd) [("store", .ref A.s), ("yes", .int (ny : Int))])) = H6 at *
  have hv6 := hv.fr fr6
  have hv6' := hv6
  obtain ⟨a, us, rfl, t, r⟩ := hv6
  have hl := r.len
  rw [List.length_map] at hl
  have hms : m.val.size = 1 + Val.sizes (m.map Rt.val) := by simp only [Mac.val, Val.size]
  refine ⟨_, rfl, a, rfl, ⟨_, t.sq⟩, for_tup (K := K) (a := a) (xs := us) (fun i σ H' => ∃ x3 x4 x5 T kvs, σ = [some (.ref so), some (.ref a), some (.ref il), x3, x4, x5] ∧ Fr (rd :: A.own) H6 H' ∧ StOk P w CS H' A T ∧ H' rd = some (.dK kvs) ∧ T[ny]? = some Og.yes ∧ kvs.length ≤ i ∧ T.length ≤ 3 + 2 * Val.sizes ((m.map Rt.val).take i) ∧
      ∀ rt ∈ m.take i, ∃ (k : Nat) (cl : Addr), T[k]? = some rt.name ∧ valV kvs (.inl (k : Int)) = some (.ref cl) ∧ CodeAt K H' T (so :: rd :: A.own) cl rt.code)
    ⟨none, none, none, _, [], rfl, Fr.refl _ _, st6, hrd6, hny, Nat.le_refl _, by simp only [List.length_append, List.length_singleton, Val.size] at hr3 ⊢; omega, fun rt h => by simp at h⟩ (fun i σ H' _ ⟨_, _, _, _, _, _, f, _⟩ => (t.fr f).sq) ?_ ?_⟩
  · rintro i z σ H' hz' ⟨x3, x4, x5, T, kvs, rfl, f7, st7, hk7, hy7, hkl, hT7, htab⟩
    obtain ⟨y0, hy0, hzv⟩ := r.get' hz'
    have hy2 := hy0
    rw [List.getElem?_map] at hy0
    obtain ⟨rt, hrt, rfl⟩ := Option.map_eq_some_iff.mp hy0
    have e3 : (m.map Rt.val).take (i + 1) = (m.map Rt.val).take i ++ [rt.val] := by rw [List.take_add_one, hy2]; rfl
    have s1 := sizes_take (m.map Rt.val) (i + 1)
    rw [e3, sizes_app] at s1
    simp only [Val.sizes] at s1
    have hrv : rt.val.size = 1 + (rt.name.size + Val.sizes (rt.code.map Ins.val)) := by simp only [Rt.val, Val.size, Val.sizes]
    have so7 : H' so = some (.ins C dx [("store", .ref A.s), ("yes", .int (ny : Int)), ("routines", .ref rd)]) := f7.keep so _ (fun z => (List.mem_cons.mp z).elim (fun e => rso e.symm) soO) ho6
    have hmi : i < List.length m := (List.getElem?_eq_some_iff.mp hrt).1
    obtain ⟨c, cs, rfl, tc, nv, r2, rfl, hnv, hr2⟩ := hzv.fr f7
    have hl2 := hr2.len
    rw [List.length_map] at hl2
    refine ⟨_, rfl, 1, rfl, rfl, rfl, c, _, rfl, tc, List.cons_ne_nil _ _, fun y hy => ?_⟩
    have g1 : Fr [] H' (upd H' y (.tup (List.drop 1 (nv :: r2)))) := Fr.new hy _
    have ty : upd H' y (.tup (List.drop 1 (nv :: r2))) y = some (.tup r2) := upd_same
    have tc1 := tc.fr g1
    have hnv1 := hnv.fr g1
    have hr21 := hr2.fr g1
    have so8 := g1.keep so _ (by simp) so7
    have st8 := st7.keep g1
    generalize upd H' y (.tup (List.drop 1 (nv :: r2))) = H8 at *
    refine ⟨y, rfl, ⟨_, .of ty⟩, fun D hD => lc_tup (K := K) (a := y) (xs := r2) (fun j H3 => ∃ acc r', H3 D = some (.lst acc) ∧ Fr A.own H8 H3 ∧ StOk P w CS H3 A (T ++ r') ∧ r'.length ≤ 2 * Val.sizes ((rt.code.map Ins.val).take j) ∧ All2 (IsI K H3 (T ++ r')) (rt.code.take j) acc)
      ⟨[], [], upd_same, Fr.new hD _, by rw [List.append_nil]; exact st8.keep (Fr.new hD _), Nat.zero_le _, rfl⟩ (fun j H3 _ ⟨_, _, _, f, _⟩ => .of (f.tup _ _ ty)) ?_ ?_⟩
    · rintro j z2 H3 hz3 ⟨acc, r', ha, f3, st3, hr3', hacc⟩
      obtain ⟨yv, hyv, hzv2⟩ := hr21.get' hz3
      have hyv2 := hyv
      rw [List.getElem?_map] at hyv
      obtain ⟨ins, hins, rfl⟩ := Option.map_eq_some_iff.mp hyv
      have e4 : (rt.code.map Ins.val).take (j + 1) = (rt.code.map Ins.val).take j ++ [ins.val] := by rw [List.take_add_one, hyv2]; rfl
      have s4 := sizes_take (rt.code.map Ins.val) (j + 1)
      rw [e4, sizes_app] at s4
      simp only [Val.sizes] at s4
      have DA : D ∉ A.own := fun z => by
        obtain ⟨o, e⟩ := st8.there D (List.mem_cons_of_mem _ z)
        rw [hD] at e; cases e
      have hal := hacc.len
      rw [List.length_take] at hal
      have hcl := sizes_len (rt.code.map Ins.val)
      rw [List.length_map] at hcl
      have so9 := f3.keep so _ soO so8
      refine ⟨rfl, _, rfl, so, dx, _, rfl, so9, rfl, _, rfl, so, dx, _, A, T ++ r', ins, z2, rfl, so9, rfl, soO, st3, hzv2.fr f3, by omega, by rw [List.length_append]; omega, fun H5 r5 u f5 st5 hr5 hI => ?_⟩
      have ha5 := f5.keep D _ DA ha
      have k2 : Fr [D] H5 (upd H5 D (.lst (acc ++ [u]))) := Fr.set (List.mem_singleton.mpr rfl) ha5 (fun _ z => by cases z) _
      rw [List.append_assoc] at st5 hI
      refine ⟨acc, ha5, smallB (by omega), _, r' ++ r5, upd_same, (f3.trans f5).over hD _, st5.fr k2 (fun b hb z => ?_), ?_, ?_⟩
      · obtain ⟨o, e⟩ := st8.there b hb
        rw [List.mem_singleton.mp z, hD] at e; cases e
      · rw [e4, sizes_app, List.length_append]; simp only [Val.sizes]; omega
      · rw [List.take_add_one, hins]
        refine All2.app (hacc.imp fun _ _ h => ?_) (All2.one (hI.fr k2))
        rw [← List.append_assoc]
        exact ((h.fr f5).fr k2).mono
    · rintro H3 ⟨acc, r', ha, f3, st3, hr3', hacc⟩
      rw [hl2, show (rt.code.map Ins.val).take (List.length rt.code) = rt.code.map Ins.val from List.take_of_length_le (by rw [List.length_map]; exact Nat.le_refl _)] at hr3'
      rw [hl2, List.take_length] at hacc
      have so9 := f3.keep so _ soO so8
      have rdO : rd ∉ A.own := fun z => rA (List.mem_cons_of_mem _ z)
      have DA : D ∉ A.s :: A.own := fun z => by
        obtain ⟨o, e⟩ := st8.there D z
        rw [hD] at e; cases e
      have Dso : D ≠ so := fun z => by rw [z, so8] at hD; cases hD
      have hk8 := g1.keep rd _ (by simp) hk7
      have Drd : D ≠ rd := fun z => by rw [z, hk8] at hD; cases hD
      refine ⟨_, rfl, so, C, dx, _, _, rfl, so9, cM.cls, cM.nR, rfl, _, rfl, so, C, dx, _, _, rfl, so9, cM.cls, cM.nSt, rfl, A.s, A.dx, _, rfl, st3.obj, rfl, _, rfl, c, _, _, _, rfl, rfl, (tc1.fr f3).sq, at0, A, T ++ r', rt.name, nv, rfl, st3, hnv1.fr f3, by omega, by rw [List.length_append]; omega, fun H5 r5 k f5 st5 hr5 hk5 => ?_⟩
      have hk9 := f5.keep rd _ rdO (f3.keep rd _ rdO hk8)
      rw [List.append_assoc] at st5 hk5
      refine ⟨rd, _, rfl, DPut.k (k := Sum.inl (k : Int)) hk9 (smallB (by have := sizes_len (m.map Rt.val); rw [List.length_map] at this; omega)), ?_⟩
      have k2 : Fr [rd] H5 (upd H5 rd (.dK (putK kvs (Sum.inl (k : Int)) (.ref D)))) := Fr.set (List.mem_singleton.mpr rfl) hk9 (fun _ z => by cases z) _
      have kz : Fr (rd :: A.own) H' (upd H5 rd (.dK (putK kvs (Sum.inl (k : Int)) (.ref D)))) := (((g1.mono (by simp)).trans (f3.mono (fun x hx => List.mem_cons_of_mem _ hx))).trans (f5.mono (fun x hx => List.mem_cons_of_mem _ hx))).trans (k2.mono (by simp))
      refine ⟨_, _, _, T ++ (r' ++ r5), _, rfl, f7.trans kz, st5.fr k2 (fun b hb z => rA (by rw [← List.mem_singleton.mp z]; exact hb)), upd_same, get_app hy7, ?_, ?_, fun rt2 hrt2 => ?_⟩
      · have := length_putK kvs (Sum.inl (k : Int) : Key) (V.ref D)
        omega
      · rw [e3, sizes_app, List.length_append, List.length_append]; simp only [Val.sizes]; omega
      · rw [List.take_add_one, hrt] at hrt2
        rcases List.mem_append.mp hrt2 with h | h
        · obtain ⟨k', cl, t1, t2, t3⟩ := htab rt2 h
          have hne : (Sum.inl (k' : Int) : Key) ≠ Sum.inl (k : Int) := fun e => by
            have : k' = k := Int.ofNat.inj (Sum.inl.inj e)
            subst this
            have e5 : rt2.name = rt.name := Option.some.inj ((get_app t1).symm.trans hk5)
            obtain ⟨j, hj⟩ := List.getElem?_of_mem h
            have hjl := (List.getElem?_eq_some_iff.mp hj).1
            rw [List.length_take] at hjl
            rw [List.getElem?_take, if_pos (by omega)] at hj
            have n1 : (Mac.names m)[j]? = some rt.name := by rw [Mac.names, List.getElem?_map, hj]; exact congrArg some e5
            have n2 : (Mac.names m)[i]? = some rt.name := by rw [Mac.names, List.getElem?_map, hrt]; rfl
            have := nodup_at hnd n1 n2
            omega
          exact ⟨k', cl, get_app t1, by rw [valV_put, if_neg hne]; exact t2, (t3.fr (kz.mono (fun x hx => List.mem_cons_of_mem _ hx))).mono⟩
        · simp at h
          subst h
          refine ⟨k, D, hk5, by rw [valV_put, if_pos rfl], fun z => ?_, acc, k2.keep D _ (by simp [Drd]) (f5.keep D _ (fun z => DA (List.mem_cons_of_mem _ z)) ha), hacc.imp fun _ _ h => ?_⟩
          · simp only [List.mem_cons, not_or] at z DA
            rcases z with z | z | z
            · exact Dso z
            · exact Drd z
            · exact DA.2 z
          · rw [← List.append_assoc]
            exact ((h.fr f5).fr k2).mono
  · rintro σ H7 ⟨x3, x4, x5, T, kvs, rfl, f7, st7, hk7, hy7, hkl, hT7, htab⟩
    rw [hl, List.take_length] at htab
    rw [hl, show (m.map Rt.val).take (List.length m) = m.map Rt.val from List.take_of_length_le (by rw [List.length_map]; exact Nat.le_refl _)] at hT7
    have so7 := f7.keep so _ (fun z => (List.mem_cons.mp z).elim (fun e => rso e.symm) soO) ho6
    have rdO : rd ∉ A.own := fun z => rA (List.mem_cons_of_mem _ z)
    have fr7 : Fr (so :: rd :: A.own) H H7 := (fr6.mono (fun x hx => by
      rcases List.mem_cons.mp hx with e | e
      · rw [e]; exact List.mem_cons_self ..
      · exact List.mem_cons_of_mem _ (List.mem_cons_of_mem _ e))).trans (f7.mono (fun x hx => List.mem_cons_of_mem _ hx))
    have ilS : il ∉ so :: rd :: A.own := fun z => by
      rcases List.mem_cons.mp z with e | e
      · rw [e, hs] at hil; cases hil
      · rcases List.mem_cons.mp e with e | e
        · rw [e, hrd0] at hil; cases hil
        · rw [hnA il (List.mem_cons_of_mem _ e)] at hil; cases hil
    have hil7 := fr7.keep il _ ilS hil
    have hivs7 := hivs.fr fr7
    have hwl := hivs.len
    refine ⟨_, rfl, il, rfl, ⟨_, .of hil7⟩, fun SL hSL => lc_list (K := K) (a := il) (xs := ivs) (fun j H3 => ∃ acc r', H3 SL = some (.lst acc) ∧ Fr A.own H7 H3 ∧ StOk P w CS H3 A (T ++ r') ∧ r'.length ≤ 2 * Val.sizes (ws.take j) ∧ All2 (NumOf (T ++ r')) (ws.take j) acc)
      ⟨[], [], upd_same, Fr.new hSL _, by rw [List.append_nil]; exact st7.keep (Fr.new hSL _), Nat.zero_le _, rfl⟩ (fun j H3 _ ⟨_, _, _, f, _⟩ => .of (f.keep il _ (fun z => ilS (List.mem_cons_of_mem _ (List.mem_cons_of_mem _ z))) hil7)) ?_ ?_⟩
    · rintro j z2 H3 hz3 ⟨acc, r', ha, f3, st3, hr3', hacc⟩
      obtain ⟨yv, hyv, hzv2⟩ := hivs7.get' hz3
      have e4 : ws.take (j + 1) = ws.take j ++ [yv] := by rw [List.take_add_one, hyv]; rfl
      have s4 := sizes_take ws (j + 1)
      rw [e4, sizes_app] at s4
      simp only [Val.sizes] at s4
      have DA : SL ∉ A.own := fun z => by
        obtain ⟨o, e⟩ := st7.there SL (List.mem_cons_of_mem _ z)
        rw [hSL] at e; cases e
      have hal := hacc.len
      rw [List.length_take] at hal
      have hcl := sizes_len ws
      have so9 := f3.keep so _ soO so7
      refine ⟨rfl, _, rfl, so, C, dx, _, _, rfl, so9, cM.cls, cM.nSt, rfl, A.s, A.dx, _, rfl, st3.obj, rfl, _, rfl, A, T ++ r', yv, z2, rfl, st3, hzv2.fr f3, by omega, by rw [List.length_append]; omega, fun H5 r5 k f5 st5 hr5 hk5 => ?_⟩
      have ha5 := f5.keep SL _ DA ha
      have k2 : Fr [SL] H5 (upd H5 SL (.lst (acc ++ [.int (k : Int)]))) := Fr.set (List.mem_singleton.mpr rfl) ha5 (fun _ z => by cases z) _
      rw [List.append_assoc] at st5 hk5
      refine ⟨acc, ha5, smallB (by omega), _, r' ++ r5, upd_same, (f3.trans f5).over hSL _, st5.fr k2 (fun b hb z => ?_), ?_, ?_⟩
      · obtain ⟨o, e⟩ := st7.there b hb
        rw [List.mem_singleton.mp z, hSL] at e; cases e
      · rw [e4, sizes_app, List.length_append]; simp only [Val.sizes]; omega
      · rw [e4]
        refine All2.app (hacc.imp fun _ _ h => ?_) (All2.one ⟨k, rfl, hk5⟩)
        rw [← List.append_assoc]
        exact h.mono
    rintro H8 ⟨acc, r', ha, f8, st8, hr8, hacc⟩
    rw [hwl, List.take_length] at hr8 hacc
    have so8 := f8.keep so _ soO so7
    have SLA : SL ∉ A.s :: A.own := fun z => by
      obtain ⟨o, e⟩ := st7.there SL z
      rw [hSL] at e; cases e
    have SLso : SL ≠ so := fun z => by rw [z, so7] at hSL; cases hSL
    have SLrd : SL ≠ rd := fun z => by rw [z, hk7] at hSL; cases hSL
    have hSL0 : H SL = none := by
      cases hq : H SL with
      | none => rfl
      | some o => rw [fr7.keep SL o (fun z => by
          simp only [List.mem_cons, not_or] at z SLA
          rcases z with z | z | z
          · exact SLso z
          · exact SLrd z
          · exact SLA.2 z) hq] at hSL; cases hSL
    have hcSL : ∀ rt ∈ m, ∀ cl, CodeAt K H7 T (so :: rd :: A.own) cl rt.code → cl ≠ SL := fun rt _ cl h z => by
      obtain ⟨_, us, e, _⟩ := h
      rw [z, hSL] at e; cases e
    refine ⟨_, rfl, so, C, dx, _, rfl, so8, cM.cls, cM.nK, (by show 3 < 1000; decide), ?_⟩
    have f9 : Fr [so] H8 (upd H8 so (.ins C dx (putF "stack" (.ref SL) [("store", .ref A.s), ("yes", .int (ny : Int)), ("routines", .ref rd)]))) := Fr.set (List.mem_singleton.mpr rfl) so8 (fun _ z => by cases z) _
    have so9 : upd H8 so (.ins C dx (putF "stack" (.ref SL) [("store", .ref A.s), ("yes", .int (ny : Int)), ("routines", .ref rd)])) so = some (.ins C dx [("store", .ref A.s), ("yes", .int (ny : Int)), ("routines", .ref rd), ("stack", .ref SL)]) := upd_same
    have st9 := st8.fr f9 (fun a ha z => soA (by rw [← List.mem_singleton.mp z]; exact ha))
    have ha9 := f9.keep SL _ (by simp [SLso]) ha
    have hk9 := f9.keep rd _ (by simp [rso]) (f8.keep rd _ rdO hk7)
    have k79 : Fr (so :: A.own) H7 (upd H8 so (.ins C dx (putF "stack" (.ref SL) [("store", .ref A.s), ("yes", .int (ny : Int)), ("routines", .ref rd)]))) := (f8.mono (fun x hx => List.mem_cons_of_mem _ hx)).trans (f9.mono (by simp))
    generalize upd H8 so (.ins C dx (putF "stack" (.ref SL) [("store", .ref A.s), ("yes", .int (ny : Int)), ("routines", .ref rd)])) = H9 at *
    -- todo
    cases m with
    | nil => cases hhd
    | cons rt00 m =>
    cases hhd
    obtain ⟨w1, us', rfl, hw1, hus'⟩ := r
    have t9 : TupAt K H9 a (w1 :: us') := (t.fr f7).fr k79
    have hw19 := (hw1.fr f7).fr k79
    obtain ⟨c0, cs0, rfl, tc0, nv0, r0, rfl, hnv0, hr0⟩ := hw19
    have hn0 : rt0.name.size ≤ 1000000 ∧ rt0.name.size ≤ Val.sizes (Rt.val rt0 :: m.map Rt.val) := by
      have : rt0.val.size = 1 + (rt0.name.size + Val.sizes (rt0.code.map Ins.val)) := by simp only [Rt.val, Val.size, Val.sizes]
      simp only [List.map_cons, Val.sizes] at hms ⊢
      omega
    simp only [List.map_cons] at hms hT7
    refine ⟨_, rfl, so, C, dx, _, _, rfl, so9, cM.cls, cM.nR, rfl, _, rfl, so, C, dx, _, _, rfl, so9, cM.cls, cM.nSt, rfl, A.s, A.dx, _, rfl, st9.obj, rfl, _, rfl, a, _, _, _, rfl, rfl, t9.sq, at0, c0, _, _, _, rfl, rfl, tc0.sq, at0, A, T ++ r', rt0.name, nv0, rfl, st9, hnv0, hn0.1, by rw [List.length_append]; omega, fun H10 r10 k f10 st10 hr10 hk10 => ?_⟩
    rw [List.append_assoc] at st10 hk10
    obtain ⟨k0, cl0, u1, u2, u3⟩ := htab rt0 (List.mem_cons_self ..)
    have ek : k = k0 := nodup_at st10.nd hk10 (get_app u1)
    subst ek
    have hk10' := f10.keep rd _ rdO hk9
    refine ⟨rd, .ref cl0, rfl, by rw [← u2]; exact DGet.k (k := Sum.inl (k : Int)) hk10', (by show 2 ≤ sizeLine; decide), fun tt htt => ?_⟩
    have g11 : Fr [] H10 (upd H10 tt (.tup [.ref cl0, .int 0])) := Fr.new htt _
    have ett : upd H10 tt (.tup [.ref cl0, .int 0]) tt = some (.tup [.ref cl0, .int 0]) := upd_same
    refine ⟨(by show 1 ≤ sizeLine; decide), fun TL hTL => ?_⟩
    have g12 : Fr [] (upd H10 tt (.tup [.ref cl0, .int 0])) (upd (upd H10 tt (.tup [.ref cl0, .int 0])) TL (.lst [.ref tt])) := Fr.new hTL _
    have ett2 := g12.tup tt _ ett
    have eTL : upd (upd H10 tt (.tup [.ref cl0, .int 0])) TL (.lst [.ref tt]) TL = some (.lst [.ref tt]) := upd_same
    have so10 := f10.keep so _ soO so9
    have so12 := g12.keep so _ (by simp) (g11.keep so _ (by simp) so10)
    have SL10 := f10.keep SL _ (fun z => SLA (List.mem_cons_of_mem _ z)) ha9
    have SL11 := g11.keep SL _ (by simp) SL10
    have rd11 := g11.keep rd _ (by simp) hk10'
    have SL12 := g12.keep SL _ (by simp) SL11
    have rd12 := g12.keep rd _ (by simp) rd11
    have st12 := (st10.keep g11).keep g12
    have TLso : TL ≠ so := fun z => by rw [z, g11.keep so _ (by simp) so10] at hTL; cases hTL
    have TLSL : TL ≠ SL := fun z => by rw [z, SL11] at hTL; cases hTL
    have TLrd : TL ≠ rd := fun z => by rw [z, rd11] at hTL; cases hTL
    have TLA : TL ∉ A.s :: A.own := fun z => by
      obtain ⟨o, e⟩ := (st10.keep g11).there TL z
      rw [hTL] at e; cases e
    have k712 : Fr (so :: A.own) H7 (upd (upd H10 tt (.tup [.ref cl0, .int 0])) TL (.lst [.ref tt])) := ((k79.trans (f10.mono (fun x hx => List.mem_cons_of_mem _ hx))).trans (g11.mono (by simp))).trans (g12.mono (by simp))
    have k711 : Fr (so :: A.own) H7 (upd H10 tt (.tup [.ref cl0, .int 0])) := (k79.trans (f10.mono (fun x hx => List.mem_cons_of_mem _ hx))).trans (g11.mono (by simp))
    have hcTL : ∀ rt ∈ rt0 :: m, ∀ cl, CodeAt K H7 T (so :: rd :: A.own) cl rt.code → cl ≠ TL := fun rt _ cl h z => by
      obtain ⟨n9, us, e, _⟩ := h
      have : cl ∉ so :: A.own := fun q => n9 (by
        rcases List.mem_cons.mp q with e | e
        · rw [e]; exact List.mem_cons_self ..
        · exact List.mem_cons_of_mem _ (List.mem_cons_of_mem _ e))
      have := k711.keep cl _ this e
      rw [z, hTL] at this; cases this
    have hTL0 : H TL = none := by
      cases hq : H TL with
      | none => rfl
      | some o =>
        have e7 := fr7.keep TL o (fun z => by
          simp only [List.mem_cons, not_or] at z TLA
          rcases z with z | z | z
          · exact TLso z
          · exact TLrd z
          · exact TLA.2 z) hq
        rw [k711.keep TL o (fun z => by
          simp only [List.mem_cons, not_or] at z TLA
          rcases z with z | z
          · exact TLso z
          · exact TLA.2 z) e7] at hTL
        cases hTL
    refine ⟨_, rfl, so, C, dx, _, rfl, so12, cM.cls, cM.nT, (by show 4 < 1000; decide), ?_⟩
    generalize upd (upd H10 tt (.tup [.ref cl0, .int 0])) TL (.lst [.ref tt]) = H12 at *
    have f13 : Fr [so] H12 (upd H12 so (.ins C dx (putF "todo" (.ref TL) [("store", .ref A.s), ("yes", .int (ny : Int)), ("routines", .ref rd), ("stack", .ref SL)]))) := Fr.set (List.mem_singleton.mpr rfl) so12 (fun _ z => by cases z) _
    have so13 : upd H12 so (.ins C dx (putF "todo" (.ref TL) [("store", .ref A.s), ("yes", .int (ny : Int)), ("routines", .ref rd), ("stack", .ref SL)])) so = some (.ins C dx [("store", .ref A.s), ("yes", .int (ny : Int)), ("routines", .ref rd), ("stack", .ref SL), ("todo", .ref TL)]) := upd_same
    generalize upd H12 so (.ins C dx (putF "todo" (.ref TL) [("store", .ref A.s), ("yes", .int (ny : Int)), ("routines", .ref rd), ("stack", .ref SL)])) = H13 at *
    refine ⟨_, rfl, so, C, dx, _, rfl, so13, cM.cls, cM.nP, (by show 5 < 1000; decide), ?_⟩
    have f14 : Fr [so] H13 (upd H13 so (.ins C dx (putF "steps" (.int 0) [("store", .ref A.s), ("yes", .int (ny : Int)), ("routines", .ref rd), ("stack", .ref SL), ("todo", .ref TL)]))) := Fr.set (List.mem_singleton.mpr rfl) so13 (fun _ z => by cases z) _
    have f1314 := f13.trans f14
    have kall : Fr (so :: A.own) H7 (upd H13 so (.ins C dx (putF "steps" (.int 0) [("store", .ref A.s), ("yes", .int (ny : Int)), ("routines", .ref rd), ("stack", .ref SL), ("todo", .ref TL)]))) := k712.trans (f1314.mono (by simp))
    have code : ∀ rt ∈ rt0 :: m, ∀ cl, CodeAt K H7 T (so :: rd :: A.own) cl rt.code → CodeAt K (upd H13 so (.ins C dx (putF "steps" (.int 0) [("store", .ref A.s), ("yes", .int (ny : Int)), ("routines", .ref rd), ("stack", .ref SL), ("todo", .ref TL)]))) (T ++ (r' ++ r10)) (so :: SL :: TL :: A.own) cl rt.code := fun rt hrt cl h => by
      have a1 := hcSL rt hrt cl h
      have a2 := hcTL rt hrt cl h
      obtain ⟨n9, us, e, hh⟩ := h
      have n10 : cl ∉ so :: A.own := fun q => n9 (by
        rcases List.mem_cons.mp q with e | e
        · rw [e]; exact List.mem_cons_self ..
        · exact List.mem_cons_of_mem _ (List.mem_cons_of_mem _ e))
      refine ⟨fun q => ?_, us, kall.keep cl _ n10 e, hh.imp fun _ _ z => (z.fr kall).mono⟩
      rcases List.mem_cons.mp q with e | e
      · exact n10 (by rw [e]; exact List.mem_cons_self ..)
      · rcases List.mem_cons.mp e with e | e
        · exact a1 e
        · rcases List.mem_cons.mp e with e | e
          · exact a2 e
          · exact n10 (List.mem_cons_of_mem _ e)
    refine q _ ⟨so, dx, A, ny, rd, SL, TL⟩ (T ++ (r' ++ r10)) rfl rfl ?_ ⟨upd_same, st12.fr f1314 (fun a ha z => soA (by rw [← List.mem_singleton.mp z]; exact ha)), get_app hy7, ⟨acc, f1314.keep SL _ (by simp [SLso]) SL12, ?_⟩, ⟨[.ref tt], f1314.keep TL _ (by simp [TLso]) eTL, All2.one ⟨tt, cl0, rt0.code, 0, rfl, f1314.tup _ _ ett2, code rt0 (List.mem_cons_self ..) cl0 u3, rfl, Nat.zero_le _⟩⟩, ⟨kvs, f1314.keep rd _ (by simp [rso]) rd12, fun y cd hy k2 hk2 => ?_⟩, fun y cd hy => ?_, ?_⟩ ?_ ?_
    · have kk : Fr (so :: rd :: A.own) H (upd H13 so (.ins C dx (putF "steps" (.int 0) [("store", .ref A.s), ("yes", .int (ny : Int)), ("routines", .ref rd), ("stack", .ref SL), ("todo", .ref TL)]))) := fr7.trans (kall.mono (fun x hx => by
        rcases List.mem_cons.mp hx with e | e
        · rw [e]; exact List.mem_cons_self ..
        · exact List.mem_cons_of_mem _ (List.mem_cons_of_mem _ e)))
      refine (Fr.refl [so] H).drop kk fun x hx => ?_
      rcases List.mem_cons.mp hx with e | e
      · exact .inl (by rw [e]; exact List.mem_singleton.mpr rfl)
      · rcases List.mem_cons.mp e with e | e
        · exact .inr (by rw [e]; exact hrd0)
        · exact .inr (hnA x (List.mem_cons_of_mem _ e))
    · rw [List.reverse_reverse, ← List.append_assoc]
      exact hacc.imp fun _ _ z => z.mono
    · have hm := findR_mem' hy
      obtain ⟨k3, cl, v1, v2, v3⟩ := htab _ hm
      have e9 : (T ++ (r' ++ r10))[k3]? = some y := get_app v1
      rw [nodup_at st10.nd hk2 e9]
      exact ⟨cl, v2, code _ hm cl v3⟩
    · obtain ⟨k3, cl, v1, v2, v3⟩ := htab _ (findR_mem' hy)
      exact List.mem_append_left _ (List.mem_of_getElem? v1)
    · have d := st10.dis
      simp only [List.nodup_cons] at d ⊢
      simp only [List.mem_cons, not_or] at soA SLA TLA rA ⊢
      exact ⟨⟨Ne.symm SLso, Ne.symm TLso, Ne.symm rso, soA.1, soA.2⟩, ⟨Ne.symm TLSL, SLrd, SLA.1, SLA.2⟩, ⟨TLrd, TLA.1, TLA.2⟩, ⟨rA.1, rA.2⟩, d⟩
    · simp only [List.length_append]; omega
    · intro b hb
      simp only [List.mem_cons] at hb
      rcases hb with rfl | rfl | rfl | hb
      · exact hSL0
      · exact hTL0
      · exact hrd0
      · exact hnA b (by simpa [List.mem_cons] using hb)
end
end Og

set_option Elab.async false
set_option linter.all false
set_option maxRecDepth 100000
set_option maxHeartbeats 4000000
/-! Og7f: run_machine. -/
namespace Og
open PySem PySem.Spec PyProof.Rows L2
section
variable {P : Program} {w : World} {K : PySem.W.Frag} {mg : MG} {base : Heap} {CM CS CR : Addr}
def spRunM (K : PySem.W.Frag) (CR : Addr) : Sp := fun vs H Q _ => ∃ (m : Mac) (ws : List Val) (v : V) (il : Addr) (ivs : List V) (rt0 : Rt) (n k : Nat) (x : Val), vs = [v, .ref il, .int 1000000] ∧ IsV K H m.val v ∧ H il = some (.lst ivs) ∧ IsVs K H ws ivs ∧ MacOk m ∧ m.head? = some rt0 ∧
  Reach m [rt0.code] ws.reverse n k [] [x] ∧ n ≤ 1000000 ∧ m.val.size ≤ 300000 ∧ Val.sizes ws ≤ 1000000 ∧ ws.length ≤ 100 ∧ x.size ≤ 200000 ∧ x.depth ≤ 200 ∧
  ∀ H' s dx val stp, Fr [] H H' → H' s = some (.ins CR dx [("kind", .str "done"), ("value", val), ("steps", stp)]) → IsV K H' x val → Q (.ref s) H'
theorem sc_run_machine : FnScope ["program", "inputs", "limit", "machine", "top"] ["program", "inputs", "limit"] (defScope s_run_machine) := ⟨rfl, rfl, rfl, by decide +kernel, rfl, by decide +kernel, by decide +kernel⟩
theorem ok_runM (F : Fg K mg "run_machine" s_run_machine) (B : Bn mg) (cM : ClsM K CM) (cS : ClsS K CS) (gMP : GInt mg "MOST_PARTS" 200000) (gMD : GInt mg "MOST_DEPTH" 200) (D_check_machine : Df P w K mg base "check_machine" ["value"] 5 (spCM K))
    (D_StackMachine : Dk P w K mg base "StackMachine" CM ["self", "program", "inputs"] 4 (spMInit P w K CM CS)) (D_StackMachine_go_on : Dm P w K mg base CM "go_on" ["self", "limit"] 5 (spMGo P w K CM CS)) (D_StackMachine_pop : Dm P w K mg base CM "pop" ["self"] 1 (spMPop CM))
    (D_Store_value_of : Dm P w K mg base CS "value_of" ["self", "number"] 2 (spSVal P w K CS)) (D_Run : Dk P w K mg base "Run" CR ["self", "kind", "value", "steps"] 1 (spRInit CR)) : Df P w K mg base "run_machine" ["program", "inputs", "limit"] 6 (spRunM K CR) := by
  have c_Store := cS.cls
  have c_StackMachine := cM.cls
  refine Df.of F sc_run_machine (fun _ _ _ _ _ _ us hl => match us, hl with | [_, _, _], _ => rfl) (fun vs H Q E h => ?_) (fun f cdv A outer s H vs Q E hr h => ?_)
  · obtain ⟨_, _, _, _, _, _, _, _, _, rfl, _⟩ := h
    rfl
  obtain ⟨m, ws, v, il, ivs, rt0, n, k, x, rfl, hv, hil, hivs, hok, hhd, hre, hn, hz, hzw, hwl, hxs, hxd, q⟩ := h
  have hu := hu_of hr
  have nd := sc_run_machine.nd
  refine ⟨_, (pss_cons (ps_expr (pe_cf D_check_machine (hr.mono (by decide)) (pa_cons (pv 0) pa_nil)))
    (pss_cons (ps_set (i := 3) nd rfl (.inl rfl) (pe_ck D_StackMachine (hr.mono (by decide)) (pa_cons (pv 0) (pa_cons (pv 1) pa_nil))))
    (pss_cons (ps_if (pt_not (pt_val (pe_cm D_StackMachine_go_on c_StackMachine (hr.mono (by decide)) (pv 3) (pa_cons (pv 2) pa_nil))))
      (pss_one (ps_ret (pe_ck D_Run (hr.mono (by decide)) (pa_cons pe_str (pa_cons pe_non (pa_cons (pv 2) pa_nil))))))
      pss_nil)
    (pss_cons (ps_set (i := 4) nd rfl (.inl rfl) (pe_cm0 D_StackMachine_pop c_StackMachine (hr.mono (by decide)) (pv 3)))
    (pss_cons (ps_if (PW.pt (pw_or (pt_cmpR op_gt (pe_ix ix_list (pe_fld (pe_fld (pv 3) rfl) rfl) (pv 4) (fun _ _ => rfl)) (pe_gint gMP) (nomark _)) (pw_or1 (pt_cmpR op_gt (pe_ix ix_list (pe_fld (pe_fld (pv 3) rfl) rfl) (pv 4) (fun _ _ => rfl)) (pe_gint gMD) (nomark _)))))
      (pss_one (ps_ret (pe_ck D_Run (hr.mono (by decide)) (pa_cons pe_str (pa_cons pe_non (pa_cons (pe_fld (pv 3) rfl) pa_nil))))))
      pss_nil)
    (pss_one (ps_ret (pe_ck D_Run (hr.mono (by decide)) (pa_cons pe_str (pa_cons (pe_cm D_Store_value_of c_Store (hr.mono (by decide)) (pe_fld (pv 3) rfl) (pa_cons (pv 4) pa_nil)) (pa_cons (pe_fld (pv 3) rfl) pa_nil))))))))))), ?_⟩
  refine ⟨_, rfl, m, v, rfl, hv, hok, by omega, fun H1 f1 => ?_⟩
  refine ⟨_, rfl, _, rfl, fun y dx hy hdx ne => ?_⟩
  have f0 : Fr [] H1 (upd (upd H1 dx (.own y)) y (.ins CM dx [])) := (Fr.new hdx _).trans (Fr.new (by rw [upd_ne (Ne.symm ne)]; exact hy) _)
  have f10 := f1.trans f0
  refine ⟨y, dx, m, ws, v, il, ivs, rt0, rfl, upd_same, hv.fr f10, f10.keep il _ (by simp) hil, hivs.fr f10, hok.nd, hhd, hz, hzw, fun H2 M T e1 e2 f hM hT hnew => ⟨rfl, ?_⟩⟩
  have f2 := mk_fr hy hdx ne f
  have hfree : ∀ a ∈ M.S, H1 a = none := fun a ha => by
    simp only [MA2.S, List.mem_cons] at ha
    rcases ha with rfl | rfl | rfl | ha
    · rw [e1]; exact hy
    · exact mk_none (hnew _ (by simp))
    · exact mk_none (hnew _ (by simp))
    · exact mk_none (hnew a (by simp only [List.mem_cons]; exact .inr (.inr (.inr (.inr ha)))))
  subst e1
  refine ⟨_, rfl, M.s, M.dx, _, rfl, hM.obj, rfl, _, rfl, M, T, m, [rt0.code], ws.reverse, [x], 0, n, k, 1000000, rfl, hM, hre, by omega, Nat.le_refl _, by rw [List.length_reverse]; exact hwl, by simp, hT, fun H3 r n1 f3 hM3 hr3 => ⟨true, rfl, ?_⟩⟩
  refine iteF ?_
  have f13 : Fr [] H1 H3 := f2.drop f3 fun a ha => .inr (hfree a ha)
  obtain ⟨us, hsl, hus⟩ := hM3.stack
  obtain ⟨u, rfl, t, rfl, ht⟩ := All2.one_inv (show All2 (NumOf (T ++ r)) [x] us from hus)
  obtain ⟨d1, d2, d3, d4, d5, d6, d7, d8⟩ := MA2.dis hM3.dis
  refine ⟨_, rfl, M.s, M.dx, _, rfl, hM3.obj, rfl, M.s, M.dx, _, M.sl, [], _, rfl, hM3.obj, rfl, hsl, ?_⟩
  have f4 : Fr [M.sl] H3 (upd H3 M.sl (.lst [])) := Fr.set (List.mem_singleton.mpr rfl) hsl (fun _ z => by cases z) _
  have f14 : Fr [] H1 (upd H3 M.sl (.lst [])) := f13.drop f4 fun a ha => .inr (hfree a (by rw [List.mem_singleton.mp ha]; simp [MA2.S]))
  have st4 := hM3.store.fr f4 (fun a ha z => d5 (by rw [← List.mem_singleton.mp z]; exact ha))
  have ob4 : upd H3 M.sl (.lst []) M.s = some (.ins CM M.dx (M.fs n1)) := by rw [upd_ne d1]; exact hM3.obj
  generalize upd H3 M.sl (.lst []) = H4 at *
  have hsz : ((T ++ r).map fun x => V.int ((min x.size 200001 : Nat) : Int))[t]? = some (.int ((min x.size 200001 : Nat) : Int)) := by rw [List.getElem?_map, ht]; rfl
  have hdp : ((T ++ r).map fun x => V.int ((min x.depth 201 : Nat) : Int))[t]? = some (.int ((min x.depth 201 : Nat) : Int)) := by rw [List.getElem?_map, ht]; rfl
  refine ⟨_, rfl, M.s, CM, M.dx, _, _, rfl, ob4, cM.cls, cM.nSt, rfl, M.A.s, CS, M.A.dx, _, _, rfl, st4.obj, cS.cls, cS.nS, rfl, _, rfl, M.A.ls, _, _, _, rfl, rfl, .of st4.siz, atI_nat hsz, _, 200000, rfl, rfl, _, rfl, ?_⟩
  rw [decide_eq_false (by omega)]
  refine iteF ?_
  refine ⟨_, rfl, M.s, CM, M.dx, _, _, rfl, ob4, cM.cls, cM.nSt, rfl, M.A.s, CS, M.A.dx, _, _, rfl, st4.obj, cS.cls, cS.nD, rfl, _, rfl, M.A.ld, _, _, _, rfl, rfl, .of st4.dep, atI_nat hdp, _, 200, rfl, rfl, _, rfl, ?_⟩
  rw [decide_eq_false (by omega)]
  refine iteF ?_
  refine ⟨_, rfl, M.s, CM, M.dx, _, _, rfl, ob4, cM.cls, cM.nSt, rfl, M.A.s, M.A.dx, _, rfl, st4.obj, rfl, _, rfl, M.A, T ++ r, t, x, rfl, st4, ht, hxs, fun H5 val f5 hval => ?_⟩
  refine ⟨_, rfl, M.s, CM, M.dx, _, _, rfl, f5.keep M.s _ (by simp) ob4, cM.cls, cM.nP, rfl, fun y2 dx2 hy2 hdx2 ne2 => ?_⟩
  have f6 : Fr [] H5 (upd (upd H5 dx2 (.own y2)) y2 (.ins CR dx2 [])) := (Fr.new hdx2 _).trans (Fr.new (by rw [upd_ne (Ne.symm ne2)]; exact hy2) _)
  refine ⟨y2, dx2, .str "done", val, _, rfl, upd_same, fun H6 f7 e7 => ⟨rfl, ?_⟩⟩
  have f56 := mk_fr hy2 hdx2 ne2 f7
  exact q H6 y2 dx2 val _ (((f1.trans f14).trans f5).trans f56) e7 (hval.fr f56)
end
end Og

set_option Elab.async false
set_option linter.all false
set_option maxRecDepth 100000
set_option maxHeartbeats 4000000
/-! Og8: the law's own helpers: draws, take, value. -/
namespace Og
open PySem PySem.Spec PyProof.Rows L2
/-- the hand: a list of draws, and a place in it -/
def HandAt (H : Hp) (h dl : Addr) : Prop := h ≠ dl ∧ ∃ (ds : List Int) (i : Nat), H dl = some (.lst (ds.map .int)) ∧ H h = some (.lst [.ref dl, .int (i : Int)])
theorem HandAt.fr {S : List Addr} {H H' : Hp} {h dl : Addr} (f : Fr S H H') (n1 : h ∉ S) (n2 : dl ∉ S) (x : HandAt H h dl) : HandAt H' h dl := let ⟨n, ds, i, a, b⟩ := x; ⟨n, ds, i, f.keep _ _ n2 a, f.keep _ _ n1 b⟩
section
variable {P : Program} {w : World} {K : PySem.W.Frag} {mg : MG} {base : Heap}
def spTake : Sp := fun vs H Q _ => ∃ (h dl : Addr) (n : Nat), vs = [.ref h, .int (n : Int)] ∧ HandAt H h dl ∧ 0 < n ∧ n ≤ 1000 ∧ ∀ (r : Nat) H', r < n → Fr [h] H H' → HandAt H' h dl → Q (.int (r : Int)) H'
theorem sc_law_take : FnScope ["_law_hand", "_law_many", "_law_at", "_law_draws_here"] ["_law_hand", "_law_many"] (defScope s_law_take) := ⟨rfl, rfl, rfl, by decide +kernel, rfl, by decide +kernel, by decide +kernel⟩
theorem ok_take (F : Fg K mg "_law_take" s_law_take) (B : Bn mg) : Df P w K mg base "_law_take" ["_law_hand", "_law_many"] 1 spTake := by
  refine Df.of F sc_law_take (fun _ _ _ _ _ _ us hl => match us, hl with | [_, _], _ => rfl) (fun vs H Q E h => ?_) (fun f cdv A outer s H vs Q E hr h => ?_)
  · obtain ⟨_, _, _, rfl, _⟩ := h
    rfl
  obtain ⟨h, dl, n, rfl, ⟨ne, ds, i, hd, hh⟩, h0, hz, q⟩ := h
  have hu := hu_of hr
  have nd := sc_law_take.nd
  refine ⟨_, (pss_cons (ps_set (i := 2) nd rfl (.inl rfl) (pe_ix ix_list (pv 0) pe_int (fun _ _ => rfl)))
    (pss_cons (ps_asg (pe_op op_add (pv 2) pe_int) (pg_sub (pv 0) pe_int set_list))
    (pss_cons (ps_set (i := 3) nd rfl (.inl rfl) (pe_ix ix_list (pv 0) pe_int (fun _ _ => rfl)))
    (pss_cons (ps_if (pt_cmpR op_ge (pv 2) (pe_callB call_len_seq (by rfl) B.len bLen (pa_cons (pv 3) pa_nil)) (nomark _))
      (pss_one (ps_ret pe_int))
      pss_nil)
    (pss_one (ps_ret (pe_op op_modN (pe_op op_fdivN (pe_callTy call_int1 (by rfl) B.int bInt (pa_cons (pe_ix ix_list (pv 3) (pv 2) (fun _ _ => rfl)) pa_nil)) pe_int) (pv 1)))))))), ?_⟩
  refine ⟨_, rfl, h, _, _, _, rfl, rfl, .of hh, atI_nat (j := 1) rfl, ?_⟩
  refine ⟨_, rfl, (i : Int), 1, rfl, rfl, _, rfl, h, _, _, 1, rfl, rfl, hh, rfl, ?_⟩
  have f1 : Fr [h] H (upd H h (.lst ([.ref dl, .int (i : Int)].set 1 (.int ((i : Int) + 1))))) := Fr.set (List.mem_singleton.mpr rfl) hh (fun _ z => by cases z) _
  have hh1 : upd H h (.lst ([.ref dl, .int (i : Int)].set 1 (.int ((i : Int) + 1)))) h = some (.lst [.ref dl, .int ((i + 1 : Nat) : Int)]) := upd_same
  have hd1 : upd H h (.lst ([.ref dl, .int (i : Int)].set 1 (.int ((i : Int) + 1)))) dl = some (.lst (ds.map .int)) := by rw [upd_ne (Ne.symm ne)]; exact hd
  generalize upd H h (.lst ([V.ref dl, V.int (i : Int)].set 1 (.int ((i : Int) + 1)))) = H1 at *
  refine ⟨_, rfl, h, _, _, _, rfl, rfl, .of hh1, rfl, ?_⟩
  refine ⟨_, rfl, _, rfl, dl, _, rfl, .inl (.of hd1), (i : Int), _, rfl, rfl, _, rfl, ?_⟩
  have hA : HandAt H1 h dl := ⟨ne, ds, i + 1, hd1, hh1⟩
  refine ite2 (fun _ => q 0 H1 h0 f1 hA) (fun hlt => ?_)
  have hil : i < ds.length := by
    rw [decide_eq_true_eq, List.length_map] at hlt
    omega
  have hdi : (ds.map V.int)[i]? = some (.int ds[i]) := by rw [List.getElem?_map, List.getElem?_eq_getElem hil]; rfl
  refine ⟨_, rfl, _, rfl, dl, _, _, _, rfl, rfl, .of hd1, atI_nat hdi, .inl ⟨_, rfl, _, 7, rfl, rfl, ⟨by decide, by decide⟩, _, rfl, _, (n : Int), rfl, rfl, by show (n : Int) ≠ 0; omega, ?_⟩⟩
  have e1 : 0 ≤ (ds[i].fdiv 7).fmod (n : Int) := by rw [Int.fmod_eq_emod_of_nonneg _ (by omega)]; exact Int.emod_nonneg _ (by omega)
  have e2 : (ds[i].fdiv 7).fmod (n : Int) < n := by rw [Int.fmod_eq_emod_of_nonneg _ (by omega)]; exact Int.emod_lt_of_pos _ (by omega)
  have e3 : V.int ((ds[i].fdiv 7).fmod (n : Int)) = V.int ((((ds[i].fdiv 7).fmod (n : Int)).toNat : Nat) : Int) := by rw [Int.toNat_of_nonneg e1]
  show Q (V.int ((ds[i].fdiv 7).fmod (n : Int))) H1
  rw [e3]
  exact q _ H1 (by omega) f1 hA
theorem sqL_fr {K : PySem.W.Frag} {H H' : Hp} {a : Addr} {xs : List V} (f : Fr [] H H') (h : SqL K H a xs) : SqL K H' a xs := h.elim (fun h => .inl (h.elim (fun h => .inl (f.keep _ _ (by simp) h)) fun ⟨o, h⟩ => .inr ⟨o, f.frz _ _ _ h⟩)) .inr
theorem cm1 (x : Int) : -(2 ^ 64) < x.fmod 2147483647 ∧ x.fmod 2147483647 < 2 ^ 64 := by
  rw [Int.fmod_eq_emod_of_nonneg _ (by omega)]
  omega
theorem cm2 (x : Int) : -(2 ^ 64) < x.fmod 2147483629 ∧ x.fmod 2147483629 < 2 ^ 64 := by
  rw [Int.fmod_eq_emod_of_nonneg _ (by omega)]
  omega
def spDraws (K : PySem.W.Frag) : Sp := fun vs H Q _ => ∃ (a : Addr) (ns : List Int), vs = [.ref a, .int 120] ∧ SqL K H a (ns.map .int) ∧ ns.length ≤ 63 ∧ ∀ H' l (ds : List Int), Fr [] H H' → H l = none → H' l = some (.lst (ds.map .int)) → Q (.ref l) H'
theorem sc_law_draws : FnScope ["_law_script", "_law_many", "_law_rests", "_law_cell", "_law_draws_here", "_law_k", "_law_at", "_law_mixed"] ["_law_script", "_law_many"] (defScope s_law_draws) := ⟨rfl, rfl, rfl, by decide +kernel, rfl, by decide +kernel, by decide +kernel⟩
theorem ok_draws (F : Fg K mg "_law_draws" s_law_draws) (B : Bn mg) : Df P w K mg base "_law_draws" ["_law_script", "_law_many"] 1 (spDraws K) := by
  refine Df.of F sc_law_draws (fun _ _ _ _ _ _ us hl => match us, hl with | [_, _], _ => rfl) (fun vs H Q E h => ?_) (fun f cdv A outer s H vs Q E hr h => ?_)
  · obtain ⟨_, _, rfl, _⟩ := h
    rfl
  obtain ⟨a, ns, rfl, hsq, hl, q⟩ := h
  have hu := hu_of hr
  have nd := sc_law_draws.nd
  refine ⟨_, (pss_cons (ps_setLc (i := 2) (own := [("_law_cell", 3)]) (g := gName 3) (tt := tYes) rfl nd rfl rfl (sw_true rfl rfl rfl (by decide +kernel)) (pi_list (pv 0)) (blkOk_by (N := ["_law_script", "_law_many", "_law_rests", "_law_cell", "_law_draws_here", "_law_k", "_law_at", "_law_mixed"]) (sc := defScope s_law_draws) (by decide +kernel)) (fun _ _ _ _ _ => pg_name (i := 3) nd rfl (.inl rfl)) (fun _ _ _ _ _ => pts_nil) (fun _ _ _ _ _ => (pe_callB call_abs (by rfl) B.abs bAbs (pa_cons (pe_callTy call_int1 (by rfl) B.int bInt (pa_cons (pv 3) pa_nil)) pa_nil))))
    (pss_cons (ps_set (i := 4) nd rfl (.inl rfl) (pe_lst pa_nil))
    (pss_cons (ps_for PassesOwn.never rfl (pi_range1 (by rfl) B.range (pa_cons (pv 1) pa_nil)) (pg_name (i := 5) nd rfl (.inl rfl))
      (pss_cons (ps_set (i := 3) nd rfl (.inl rfl) (pv 5))
      (pss_cons (ps_if (pt_cmpR op_gt (pe_callB call_len_seq (by rfl) B.len bLen (pa_cons (pv 0) pa_nil)) pe_int (nomark _))
        (pss_cons (ps_set (i := 6) nd rfl (.inl rfl) (pe_op op_modN (pv 5) (pe_callB call_len_seq (by rfl) B.len bLen (pa_cons (pv 0) pa_nil))))
        (pss_cons (ps_set (i := 3) nd rfl (.inl rfl) (pe_callTy call_int1 (by rfl) B.int bInt (pa_cons (pe_ix ix_list (pv 0) (pv 6) (fun _ _ => rfl)) pa_nil)))
        (pss_one (ps_if (PW.pt (pw_and (pt_cmpR op_ge (pv 3) (pe_op op_pow pe_int pe_int) (nomark _)) (pw_and1 (pt_cmpR op_gt (pe_ix ix_list (pv 2) (pv 6) (fun _ _ => rfl)) pe_int (nomark _)))))
          (pss_cons (ps_expr (pe_bm PySem.F.plainAttrs_list PySem.F.slot_list_append PySem.F.type_list_append mt_append (pv 4) (pa_cons (pe_op op_modN (pe_callTy call_int1 (by rfl) B.int bInt (pa_cons (pe_ix ix_list (pv 2) (pv 6) (fun _ _ => rfl)) pa_nil)) pe_int) pa_nil)))
          (pss_cons (ps_asg (pe_op op_fdivN (pe_callTy call_int1 (by rfl) B.int bInt (pa_cons (pe_ix ix_list (pv 2) (pv 6) (fun _ _ => rfl)) pa_nil)) pe_int) (pg_sub (pv 2) (pv 6) set_list))
          (pss_one ps_continue)))
          pss_nil))))
        pss_nil)
      (pss_cons (ps_set (i := 7) nd rfl (.inl rfl) (pe_op op_modN (pe_callTy call_int1 (by rfl) B.int bInt (pa_cons (pe_op op_add (pe_op op_add (pe_op op_mul (pv 3) pe_int) (pe_op op_mul (pv 5) pe_int)) pe_int) pa_nil)) pe_int))
      (pss_cons (ps_set (i := 7) nd rfl (.inl rfl) (pe_op op_modN (pe_callTy call_int1 (by rfl) B.int bInt (pa_cons (pe_op op_add (pe_op op_fdivN (pe_op op_mul (pv 7) (pv 7)) pe_int) (pv 7)) pa_nil)) pe_int))
      (pss_one (ps_expr (pe_bm PySem.F.plainAttrs_list PySem.F.slot_list_append PySem.F.type_list_append mt_append (pv 4) (pa_cons (pe_op op_modN (pe_callTy call_int1 (by rfl) B.int bInt (pa_cons (pe_op op_add (pe_op op_fdivN (pe_op op_mul (pv 7) (pv 7)) pe_int) (pe_op op_mul (pv 5) pe_int)) pa_nil)) pe_int) pa_nil)))))))))
    (pss_one (ps_ret (pv 4)))))), ?_⟩
  refine ⟨_, rfl, a, rfl, ⟨_, hsq⟩, fun D hD => lc_list (K := K) (a := a) (xs := ns.map .int) (fun i H' => ∃ rs : List Int, H' D = some (.lst (rs.map .int)) ∧ rs.length = i ∧ Fr [] H H')
    ⟨[], upd_same, rfl, Fr.new hD _⟩ (fun i H' _ ⟨_, _, _, f⟩ => sqL_fr f hsq) ?_ ?_⟩
  · rintro i z H' hz ⟨rs, hr1, hr2, f⟩
    rw [List.getElem?_map] at hz
    obtain ⟨c, hc, rfl⟩ := Option.map_eq_some_iff.mp hz
    have hi := (List.getElem?_eq_some_iff.mp hc).1
    refine ⟨rfl, _, rfl, .inl ⟨c, rfl, c, rfl, rs.map .int, hr1, smallB (by rw [List.length_map]; omega), rs ++ [if c < 0 then -c else c], ?_, by rw [List.length_append, hr2]; rfl, f.over hD _⟩⟩
    rw [upd_same, List.map_append]
    rfl
  rintro H1 ⟨rs, hr1, hr2, f1⟩
  rw [List.length_map] at hr2
  refine ⟨(by show 0 ≤ sizeLine; decide), fun L hL => ?_⟩
  have hD0 : H D = none := hD
  have LD : L ≠ D := fun z => by rw [z, hr1] at hL; cases hL
  have hL0 : H L = none := f1.free (by simp) hL
  have f2 := f1.trans (Fr.new (S := []) hL (.lst []))
  refine ⟨_, rfl, 120, rfl, by decide, by decide, for_range (lo := 0) (n := 120) (fun i σ H' => ∃ x3 x5 x6 x7, ∃ (rs ds : List Int), σ = [some (.ref a), some (.int 120), some (.ref D), x3, some (.ref L), x5, x6, x7] ∧ Fr [] H H' ∧ H' D = some (.lst (rs.map .int)) ∧ rs.length = ns.length ∧ H' L = some (.lst (ds.map .int)) ∧ ds.length ≤ i)
    ⟨_, none, none, none, rs, [], rfl, f2, by rw [upd_ne (Ne.symm LD)]; exact hr1, hr2, upd_same, Nat.le_refl _⟩ ?_ ?_⟩
  · rintro i σ H' hi ⟨x3, x5, x6, x7, rs, ds, rfl, f, hr, hrl, hd, hdl⟩
    have hsq' := sqL_fr f hsq
    refine ⟨_, rfl, ?_⟩
    refine ⟨_, rfl, a, _, rfl, .inl hsq', _, _, rfl, rfl, _, rfl, ?_⟩
    refine ite2 (fun hpos => ?pos) (fun _ => ?neg)
    case' pos =>
      rw [decide_eq_true_eq, List.length_map] at hpos
      refine ⟨_, rfl, _, rfl, a, _, rfl, .inl hsq', (0 + (i : Int)), _, rfl, rfl, by show (((ns.map V.int).length : Nat) : Int) ≠ 0; rw [List.length_map]; omega, ?_⟩
      obtain ⟨j, hj⟩ : ∃ j : Nat, ((j : Nat) : Int) = (0 + (i : Int)).fmod ((ns.map V.int).length : Nat) ∧ j < ns.length := by
        refine ⟨((0 + (i : Int)).fmod ((ns.map V.int).length : Nat)).toNat, ?_, ?_⟩
        · rw [Int.toNat_of_nonneg]
          rw [Int.fmod_eq_emod_of_nonneg _ (by omega)]
          exact Int.emod_nonneg _ (by rw [List.length_map]; omega)
        · have e2 : (0 + (i : Int)).fmod ((ns.map V.int).length : Nat) < ((ns.map V.int).length : Nat) := by
            rw [Int.fmod_eq_emod_of_nonneg _ (by omega)]
            exact Int.emod_lt_of_pos _ (by rw [List.length_map]; omega)
          rw [List.length_map] at e2 ⊢
          omega
      dsimp only
      rw [← hj.1]
      have hnj : (ns.map V.int)[j]? = some (.int ns[j]) := by rw [List.getElem?_map, List.getElem?_eq_getElem hj.2]; rfl
      have hrj : (rs.map V.int)[j]? = some (.int (rs[j]'(by omega))) := by rw [List.getElem?_map, List.getElem?_eq_getElem (by omega)]; rfl
      refine ⟨_, rfl, _, rfl, a, _, _, _, rfl, rfl, hsq', atI_nat hnj, .inl ⟨_, rfl, ?_⟩⟩
      refine ⟨_, rfl, 10, 18, rfl, rfl, ⟨by decide, by decide, by decide⟩, _, _, rfl, rfl, _, rfl, ?_⟩
      refine ite2 (fun _ => ?_) (fun _ => ?_)
      case' refine_1 =>
        refine ⟨_, rfl, _, rfl, D, _, _, _, rfl, rfl, .of hr, atI_nat hrj, _, 0, rfl, rfl, _, rfl, ?_⟩
        refine ite2 (fun _ => ?tt) (fun _ => ?_)
        case tt =>
          refine ⟨_, rfl, .inl ⟨rfl, _, .of hd⟩, _, rfl, _, rfl, D, _, _, _, rfl, rfl, .of hr, atI_nat hrj, .inl ⟨_, rfl, _, 1000003, rfl, rfl, (by show (1000003 : Int) ≠ 0; decide), L, _, _, rfl, rfl, hd, smallB (by rw [List.length_map]; omega), ?_⟩⟩
          have hr3 : ∀ z, upd H' L z D = some (.lst (rs.map .int)) := fun z => by rw [upd_ne (Ne.symm LD)]; exact hr
          refine ⟨_, rfl, _, rfl, D, _, _, _, rfl, rfl, .of (hr3 _), atI_nat hrj, .inl ⟨_, rfl, _, 1000003, rfl, rfl, ⟨by decide, by decide⟩, _, rfl, _, rfl, D, _, _, j, rfl, rfl, hr3 _, ?_, ?_⟩⟩
          · unfold ixN
            rw [if_pos (by omega), if_pos (by rw [List.length_map]; omega), Int.toNat_natCast]
          · refine ⟨_, _, _, _, rs.set j _, ds ++ [_], rfl, (f.over hL0 _).over hD0 _, by rw [upd_same, List.map_set], by rw [List.length_set]; exact hrl, by rw [upd_ne LD, upd_same, List.map_append]; rfl, by rw [List.length_append, List.length_singleton]; omega⟩
    all_goals
      refine ⟨_, rfl, _, 48271, rfl, rfl, .inr ⟨by decide, by decide⟩, _, rfl, _, 69621, rfl, rfl, .inr ⟨by decide, by decide⟩, _, _, rfl, rfl, _, 11, rfl, rfl, .inl ⟨_, rfl, _, 2147483647, rfl, rfl, (by show (2147483647 : Int) ≠ 0; decide), ?_⟩⟩
      refine ⟨_, rfl, _, rfl, _, _, rfl, rfl, .inl (cm1 _), _, 4096, rfl, rfl, ⟨by decide, by decide⟩, _, rfl, _, _, rfl, rfl, .inl ⟨_, rfl, _, 2147483629, rfl, rfl, (by show (2147483629 : Int) ≠ 0; decide), ?_⟩⟩
      refine ⟨_, rfl, .inl ⟨rfl, _, .of hd⟩, _, rfl, _, rfl, _, _, rfl, rfl, .inl (cm2 _), _, 4096, rfl, rfl, ⟨by decide, by decide⟩, _, rfl, _, 7919, rfl, rfl, .inr ⟨by decide, by decide⟩, _, _, rfl, rfl, .inl ⟨_, rfl, _, 2147483629, rfl, rfl, (by show (2147483629 : Int) ≠ 0; decide), L, _, _, rfl, rfl, hd, smallB (by rw [List.length_map]; omega), ?_⟩⟩
      exact ⟨_, _, _, _, rs, ds ++ [_], rfl, f.over hL0 _, by rw [upd_ne (Ne.symm LD)]; exact hr, hrl, by rw [upd_same, List.map_append]; rfl, by rw [List.length_append, List.length_singleton]; omega⟩
  · rintro σ H' ⟨x3, x5, x6, x7, rs, ds, rfl, f, hr, hrl, hd, hdl⟩
    exact ⟨_, rfl, q H' L ds f hL0 hd⟩
end
end Og

set_option Elab.async false
set_option linter.all false
set_option maxRecDepth 100000
set_option maxHeartbeats 4000000
/-! Og8b: law_value. -/
namespace Og
open PySem PySem.Spec PyProof.Rows L2
def sB : Nat → Nat
  | 0 => 1
  | d + 1 => 1 + 3 * sB d
theorem sizes_all {n : Nat} : ∀ {xs : List Val}, (∀ x ∈ xs, x.size ≤ n) → Val.sizes xs ≤ xs.length * n
  | [], _ => Nat.zero_le _
  | x :: xs, h => by
    simp only [Val.sizes, List.length_cons]
    have h1 := h x (List.mem_cons_self ..)
    have h2 := sizes_all (xs := xs) fun y hy => h y (List.mem_cons_of_mem _ hy)
    have : (xs.length + 1) * n = xs.length * n + n := Nat.succ_mul _ _
    omega
theorem depths_all {n : Nat} : ∀ {xs : List Val}, (∀ x ∈ xs, x.depth ≤ n) → Val.depths xs ≤ n + 1
  | [], _ => by simp only [Val.depths]; omega
  | x :: xs, h => by
    simp only [Val.depths]
    have h1 := h x (List.mem_cons_self ..)
    have h2 := depths_all (xs := xs) fun y hy => h y (List.mem_cons_of_mem _ hy)
    omega
section
variable {P : Program} {w : World} {K : PySem.W.Frag} {mg : MG} {base : Heap}
def spVal (K : PySem.W.Frag) (d : Nat) : Sp := fun vs H Q _ => ∃ (h dl : Addr), vs = [.ref h, .int ((d : Nat) : Int)] ∧ HandAt H h dl ∧ ∀ H' v x, Fr [h] H H' → HandAt H' h dl → IsV K H' x v → x.size ≤ sB d → x.depth ≤ d → Q v H'
theorem HandAt.ne {H : Hp} {h dl a : Addr} (x : HandAt H h dl) (n : H a = none) : a ≠ h ∧ a ≠ dl := by
  obtain ⟨_, ds, i, e1, e2⟩ := x
  exact ⟨fun z => (by rw [z, e2] at n; cases n), fun z => (by rw [z, e1] at n; cases n)⟩
theorem sc_law_value : FnScope ["_law_hand", "_law_depth", "_law_k"] ["_law_hand", "_law_depth"] (defScope s_law_value) := ⟨rfl, rfl, rfl, by decide +kernel, rfl, by decide +kernel, by decide +kernel⟩
theorem ok_value (F : Fg K mg "_law_value" s_law_value) (B : Bn mg) (D__law_take : Df P w K mg base "_law_take" ["_law_hand", "_law_many"] 1 spTake) (d k : Nat) (spI : Sp) (D__law_value : Df P w K mg base "_law_value" ["_law_hand", "_law_depth"] k spI) (hk : 1 ≤ k) (hI : ∀ d', d = d' + 1 → spI = spVal K d') :
    Df P w K mg base "_law_value" ["_law_hand", "_law_depth"] (k + 1) (spVal K d) := by
  refine Df.of F sc_law_value (fun _ _ _ _ _ _ us hl => match us, hl with | [_, _], _ => rfl) (fun vs H Q E h => ?_) (fun f cdv A outer s H vs Q E hr h => ?_)
  · obtain ⟨_, _, rfl, _⟩ := h
    rfl
  obtain ⟨h, dl, rfl, hA, q⟩ := h
  have hr1 := hr.mono (j := 1) hk
  have hu := hu_of hr
  have nd := sc_law_value.nd
  refine ⟨_, (pss_cons (ps_if (PW.pt (pw_or (pt_cmpR op_eq (pv 1) pe_int (nomark _)) (pw_or1 (pt_cmpR op_eq (pe_cf D__law_take hr1 (pa_cons (pv 0) (pa_cons pe_int pa_nil))) pe_int (nomark _)))))
      (pss_one (ps_ret (pe_ix ix_list (pe_lst (pa_cons pe_str (pa_cons pe_str (pa_cons pe_str (pa_cons pe_str (pa_cons pe_str (pa_cons pe_str (pa_cons pe_str (pa_cons pe_str pa_nil))))))))) (pe_cf D__law_take hr1 (pa_cons (pv 0) (pa_cons pe_int pa_nil))) (fun _ _ => rfl))))
      pss_nil)
    (pss_one (ps_ret (pe_tupleOf (by rfl) B.tuple (pe_lc (own := [("_law_k", 2)]) (g := gName 2) (tt := tYes) rfl nd (pi_range1 (by rfl) B.range (pa_cons (pe_cf D__law_take hr1 (pa_cons (pv 0) (pa_cons pe_int pa_nil))) pa_nil)) (blkOk_by (N := ["_law_hand", "_law_depth", "_law_k"]) (sc := defScope s_law_value) (by decide +kernel)) (fun _ _ _ _ _ => pg_name (i := 2) nd rfl (.inl rfl)) (fun _ _ _ _ _ => pts_nil) (fun _ _ _ _ _ => (pe_cf D__law_value hr (pa_cons (pv 0) (pa_cons (pe_op op_sub (pv 1) pe_int) pa_nil))))))))), ?_⟩
  have word : ∀ H1, Fr [h] H H1 → HandAt H1 h dl → ∀ l : Addr, H1 l = none → ∀ (Qv : V → Hp → Prop), (∀ v H', Q v H' → Qv v H') →
      spTake [.ref h, .int 8] (upd H1 l (.lst [.str "yes", .str "a", .str "quote", .str "f0", .str "b2", .str "done", .str "spin", .str "x"])) (fun i H2 => ∃ p xs i' v, V.ref l = .ref p ∧ i = .int i' ∧ SqL K H2 p xs ∧ atI xs i' = some v ∧ Qv v H2) (fun _ _ _ => False) := by
    intro H1 f1 hA1 l hl Qv hQ
    have n := hA1.ne hl
    have f2 : Fr [] H1 (upd H1 l (.lst [.str "yes", .str "a", .str "quote", .str "f0", .str "b2", .str "done", .str "spin", .str "x"])) := Fr.new hl _
    refine ⟨h, dl, 8, rfl, hA1.fr f2 (by simp) (by simp), by decide, by decide, fun r H3 hr f3 hA3 => ?_⟩
    have e3 := f3.keep l _ (by simp [n.1]) upd_same
    have f13 : Fr [h] H H3 := (f1.trans (f2.mono (by simp))).trans f3
    have fin : ∀ s : Str, Q (.str s) H3 := fun s => q H3 _ (.w s) f13 hA3 rfl (by show 1 ≤ sB d; cases d <;> simp [sB]) (Nat.zero_le _)
    have hx : ∃ s : Str, ([.str "yes", .str "a", .str "quote", .str "f0", .str "b2", .str "done", .str "spin", .str "x"] : List V)[r]? = some (.str s) := by
      match r, hr with
      | 0, _ => exact ⟨_, rfl⟩
      | 1, _ => exact ⟨_, rfl⟩
      | 2, _ => exact ⟨_, rfl⟩
      | 3, _ => exact ⟨_, rfl⟩
      | 4, _ => exact ⟨_, rfl⟩
      | 5, _ => exact ⟨_, rfl⟩
      | 6, _ => exact ⟨_, rfl⟩
      | 7, _ => exact ⟨_, rfl⟩
    obtain ⟨s, hs⟩ := hx
    exact ⟨l, _, _, .str s, rfl, rfl, .of e3, atI_nat hs, hQ _ _ (fin s)⟩
  cases d with
  | zero =>
    refine ⟨_, rfl, rfl, _, rfl, ?_⟩
    rw [decide_eq_true (show V.int ((0 : Nat) : Int) = V.int 0 from rfl)]
    refine iteT ?_
    refine iteT ?_
    exact ⟨(by show 8 ≤ sizeLine; decide), fun l hl => ⟨_, rfl, word H (Fr.refl _ _) hA l hl _ (fun _ _ z => z)⟩⟩
  | succ d =>
    have hk' := hI d rfl
    subst hk'
    refine ⟨_, rfl, rfl, _, rfl, ?_⟩
    rw [decide_eq_false (by intro z; injection z with z; omega)]
    refine iteF ?_
    refine ⟨_, rfl, h, dl, 3, rfl, hA, by decide, by decide, fun r H1 hr1' f1 hA1 => ?_⟩
    refine ⟨rfl, _, rfl, ?_⟩
    refine ite2 (fun _ => ?_) (fun _ => ?_)
    · exact ⟨(by show 8 ≤ sizeLine; decide), fun l hl => ⟨_, rfl, word H1 f1 hA1 l hl _ (fun _ _ z => z)⟩⟩
    · refine ⟨_, rfl, h, dl, 4, rfl, hA1, by decide, by decide, fun r2 H2 hr2 f2 hA2 => ?_⟩
      have f12 := f1.trans f2
      refine ⟨(r2 : Int), rfl, by omega, by omega, fun D hD => lc_range (lo := 0) (n := r2) (fun i H3 => ∃ xs acc, H3 D = some (.lst acc) ∧ Fr [h] H2 H3 ∧ HandAt H3 h dl ∧ IsVs K H3 xs acc ∧ xs.length = i ∧ (∀ x ∈ xs, x.size ≤ sB d) ∧ ∀ x ∈ xs, x.depth ≤ d)
        ⟨[], [], upd_same, Fr.new hD _, hA2.fr (Fr.new (S := []) hD _) (by simp) (by simp), rfl, rfl, fun x hx => by simp at hx, fun x hx => by simp at hx⟩ ?_ ?_⟩
      · rintro i H3 hi ⟨xs, acc, ha, f3, hA3, hxs, hxl, hx1, hx2⟩
        have nD := hA2.ne hD
        have hal := hxs.len
        refine ⟨rfl, _, rfl, _, rfl, ((d + 1 : Nat) : Int), 1, rfl, rfl, h, dl, ?_, hA3, fun H4 v x f4 hA4 hv s1 s2 => ?_⟩
        · show [V.ref h, V.int (((d + 1 : Nat) : Int) - 1)] = _
          rw [show ((d + 1 : Nat) : Int) - 1 = ((d : Nat) : Int) by omega]
        have ha4 := f4.keep D _ (by simp [nD.1]) ha
        have k2 : Fr [D] H4 (upd H4 D (.lst (acc ++ [v]))) := Fr.set (List.mem_singleton.mpr rfl) ha4 (fun _ z => by cases z) _
        refine ⟨acc, ha4, smallB (by omega), xs ++ [x], _, upd_same, (f3.trans f4).over hD _, hA4.fr k2 (by simp [Ne.symm nD.1]) (by simp [Ne.symm nD.2]), ((hxs.fr f4).fr k2).app (IsVs.one (hv.fr k2)), by rw [List.length_append, hxl]; rfl, fun y hy => ?_, fun y hy => ?_⟩
        · rcases List.mem_append.mp hy with e | e
          · exact hx1 y e
          · rw [List.mem_singleton.mp e]; exact s1
        · rcases List.mem_append.mp hy with e | e
          · exact hx2 y e
          · rw [List.mem_singleton.mp e]; exact s2
      · rintro H3 ⟨xs, acc, ha, f3, hA3, hxs, hxl, hx1, hx2⟩
        refine .inl ⟨D, acc, rfl, .of ha, fun p hp => ?_⟩
        have k2 : Fr [] H3 (upd H3 p (.tup acc)) := Fr.new hp _
        refine q _ _ (.l xs) ((f12.trans f3).trans (k2.mono (by simp))) (hA3.fr k2 (by simp) (by simp)) (isV_l (.of upd_same) (hxs.fr k2)) ?_ ?_
        · have := sizes_all hx1
          simp only [Val.size, sB]
          rw [hxl] at this
          have h3 : r2 * sB d ≤ 3 * sB d := Nat.mul_le_mul_right _ (by omega)
          omega
        · simp only [Val.depth]
          exact depths_all hx2
end
end Og

set_option Elab.async false
set_option linter.all false
set_option maxRecDepth 100000
set_option maxHeartbeats 4000000
/-! Og8c: law_expression. -/
namespace Og
open PySem PySem.Spec PyProof.Rows L2
mutual
/-- what is quoted is small -/
def Ex.qz : Ex → Prop
  | .var _ => True
  | .quo v => v.size ≤ 13 ∧ v.depth ≤ 2
  | .ite a b c => a.qz ∧ b.qz ∧ c.qz
  | .app _ as => Ex.qzs as
def Ex.qzs : List Ex → Prop
  | [] => True
  | e :: es => e.qz ∧ Ex.qzs es
end
def bE : Nat → Nat
  | 0 => 1
  | d + 1 => 4 * bE d + 2
theorem bE_pos : ∀ d, 1 ≤ bE d
  | 0 => Nat.le_refl _
  | d + 1 => by simp only [bE]; omega
mutual
/-- how deep the expression is nested -/
def Ex.ht : Ex → Nat
  | .var _ => 0
  | .quo _ => 0
  | .ite a b c => 1 + max a.ht (max b.ht c.ht)
  | .app _ as => 1 + Ex.hts as
def Ex.hts : List Ex → Nat
  | [] => 0
  | e :: es => max e.ht (Ex.hts es)
end
structure BOk (ps : List Str) (b h : Nat) (e : Ex) : Prop where
  cf : e.cf
  ok : e.ok ps
  small : Small b e
  nodes : e.nodes ≤ b
  qz : e.qz
  ht : e.ht ≤ h
theorem BOk.le {ps b c e g k} (h : BOk ps b g e) (l : b ≤ c) (m : g ≤ k) : BOk ps c k e := ⟨h.cf, h.ok, small_le h.small l, Nat.le_trans h.nodes l, h.qz, Nat.le_trans h.ht m⟩
theorem bok_var {ps : List Str} {x : Str} (h : x ∈ ps) : BOk ps 1 0 (.var x) := ⟨trivial, h, small_var x, by simp [Ex.nodes], trivial, by simp [Ex.ht]⟩
theorem bok_quo {ps : List Str} {v : Val} (h1 : v.size ≤ 13) (h2 : v.depth ≤ 2) : BOk ps 1 0 (.quo v) := ⟨trivial, trivial, small_quo v, by simp [Ex.nodes], ⟨h1, h2⟩, by simp [Ex.ht]⟩
theorem bok_ite {ps b g x y z} (hx : BOk ps b g x) (hy : BOk ps b g y) (hz : BOk ps b g z) (h : 1 ≤ b) : BOk ps (4 * b + 2) (g + 1) (.ite x y z) :=
  ⟨⟨hx.cf, hy.cf, hz.cf⟩, ⟨hx.ok, hy.ok, hz.ok⟩, small_ite hx.small hy.small hz.small h, by simp only [Ex.nodes]; have := hx.nodes; have := hy.nodes; have := hz.nodes; omega, ⟨hx.qz, hy.qz, hz.qz⟩, by simp only [Ex.ht]; have := hx.ht; have := hy.ht; have := hz.ht; omega⟩
theorem bok_1 {ps b g o x} (ho : o.ar = 1) (hx : BOk ps b g x) (h : 1 ≤ b) : BOk ps (4 * b + 2) (g + 1) (.app (.pr o) [x]) :=
  ⟨⟨by rw [ho]; rfl, hx.cf, trivial⟩, ⟨(by show 1 ≤ 12; decide), hx.ok, trivial⟩, small_1 hx.small h, by simp only [Ex.nodes, nodesL]; have := hx.nodes; omega, ⟨hx.qz, trivial⟩, by simp only [Ex.ht, Ex.hts]; have := hx.ht; omega⟩
theorem bok_2 {ps b g o x y} (ho : o.ar = 2) (hx : BOk ps b g x) (hy : BOk ps b g y) (h : 1 ≤ b) : BOk ps (4 * b + 2) (g + 1) (.app (.pr o) [x, y]) :=
  ⟨⟨by rw [ho]; rfl, hx.cf, hy.cf, trivial⟩, ⟨(by show 2 ≤ 12; decide), hx.ok, hy.ok, trivial⟩, small_2 hx.small hy.small h, by simp only [Ex.nodes, nodesL]; have := hx.nodes; have := hy.nodes; omega, ⟨hx.qz, hy.qz, trivial⟩, by simp only [Ex.ht, Ex.hts]; have := hx.ht; have := hy.ht; omega⟩
section
variable {P : Program} {w : World} {K : PySem.W.Frag} {mg : MG} {base : Heap}
def spExpr (K : PySem.W.Frag) (d : Nat) : Sp := fun vs H Q _ => ∃ (h dl pa cl : Addr) (ps : List Str), vs = [.ref h, .ref pa, .ref cl, .int ((d : Nat) : Int)] ∧ HandAt H h dl ∧ TupAt K H pa (ps.map .str) ∧ H cl = some (.lst []) ∧ cl ≠ h ∧ cl ≠ dl ∧ 0 < ps.length ∧ ps.length ≤ 3 ∧
  ∀ H' v B, Fr [h] H H' → HandAt H' h dl → IsV K H' (Ex.val B) v → BOk ps (bE d) d B → Q v H'
theorem sc_law_expression : FnScope ["_law_hand", "_law_parameters", "_law_calls", "_law_depth", "_law_kind", "_law_parts", "_law_k", "_law_left", "_law_name", "_law_many"] ["_law_hand", "_law_parameters", "_law_calls", "_law_depth"] (defScope s_law_expression) := ⟨rfl, rfl, rfl, by decide +kernel, rfl, by decide +kernel, by decide +kernel⟩
theorem ok_expr (F : Fg K mg "_law_expression" s_law_expression) (B : Bn mg) (D__law_take : Df P w K mg base "_law_take" ["_law_hand", "_law_many"] 1 spTake) (D__law_value : Df P w K mg base "_law_value" ["_law_hand", "_law_depth"] 4 (spVal K 2)) (d k : Nat) (spI : Sp)
    (D__law_expression : Df P w K mg base "_law_expression" ["_law_hand", "_law_parameters", "_law_calls", "_law_depth"] k spI) (hk : 4 ≤ k) (hI : ∀ d', d = d' + 1 → spI = spExpr K d') :
    Df P w K mg base "_law_expression" ["_law_hand", "_law_parameters", "_law_calls", "_law_depth"] (k + 1) (spExpr K d) := by
  refine Df.of F sc_law_expression (fun _ _ _ _ _ _ us hl => match us, hl with | [_, _, _, _], _ => rfl) (fun vs H Q E h => ?_) (fun f cdv A outer s H vs Q E hr h => ?_)
  · obtain ⟨_, _, _, _, _, rfl, _⟩ := h
    rfl
  obtain ⟨h, dl, pa, cl, ps, rfl, hA, tp, hcl, n1, n2, hp0, hp3, q⟩ := h
  have hr1 := hr.mono (j := 1) (by omega)
  have hr4 := hr.mono (j := 4) hk
  have hu := hu_of hr
  have nd := sc_law_expression.nd
  refine ⟨_, (pss_cons (ps_set (i := 4) nd rfl (.inl rfl) (pe_cf D__law_take hr1 (pa_cons (pv 0) (pa_cons pe_int pa_nil))))
    (pss_cons (ps_if (PW.pt (pw_or (pt_cmpR op_eq (pv 3) pe_int (nomark _)) (pw_or1 (pt_cmpR op_lt (pv 4) pe_int (nomark _)))))
      (pss_cons (ps_if (PW.pt (pw_and (pt_cmpR op_gt (pe_callB call_len_seq (by rfl) B.len bLen (pa_cons (pv 1) pa_nil)) pe_int (nomark _)) (pw_and1 (pt_cmpR op_gt (pe_cf D__law_take hr1 (pa_cons (pv 0) (pa_cons pe_int pa_nil))) pe_int (nomark _)))))
        (pss_one (ps_ret (pe_ix ix_tup (pv 1) (pe_cf D__law_take hr1 (pa_cons (pv 0) (pa_cons (pe_callB call_len_seq (by rfl) B.len bLen (pa_cons (pv 1) pa_nil)) pa_nil))) (fun _ _ => rfl))))
        pss_nil)
      (pss_one (ps_ret (pe_tup (pa_cons pe_str (pa_cons (pe_cf D__law_value hr4 (pa_cons (pv 0) (pa_cons pe_int pa_nil))) pa_nil))))))
      pss_nil)
    (pss_cons (ps_if (pt_cmpR op_lt (pv 4) pe_int (nomark _))
      (pss_cons (ps_setLc (i := 5) (own := [("_law_k", 6)]) (g := gName 6) (tt := tYes) rfl nd rfl rfl (sw_true rfl rfl rfl (by decide +kernel)) (pi_range1 (by rfl) B.range (pa_cons pe_int pa_nil)) (blkOk_by (N := ["_law_hand", "_law_parameters", "_law_calls", "_law_depth", "_law_kind", "_law_parts", "_law_k", "_law_left", "_law_name", "_law_many"]) (sc := defScope s_law_expression) (by decide +kernel)) (fun _ _ _ _ _ => pg_name (i := 6) nd rfl (.inl rfl)) (fun _ _ _ _ _ => pts_nil) (fun _ _ _ _ _ => (pe_cf D__law_expression hr (pa_cons (pv 0) (pa_cons (pv 1) (pa_cons (pv 2) (pa_cons (pe_op op_sub (pv 3) pe_int) pa_nil)))))))
      (pss_one (ps_ret (pe_tup (pa_cons pe_str (pa_cons (pe_ix ix_list (pv 5) pe_int (fun _ _ => rfl)) (pa_cons (pe_ix ix_list (pv 5) pe_int (fun _ _ => rfl)) (pa_cons (pe_ix ix_list (pv 5) pe_int (fun _ _ => rfl)) pa_nil))))))))
      pss_nil)
    (pss_cons (ps_if (PW.pt (pw_or (pt_cmpR op_eq (pv 4) pe_int (nomark _)) (pw_or1 (pt_cmpR op_eq (pv 4) pe_int (nomark _)))))
      (pss_cons (ps_set (i := 7) nd rfl (.inl rfl) (pe_cf D__law_expression hr (pa_cons (pv 0) (pa_cons (pv 1) (pa_cons (pv 2) (pa_cons (pe_op op_sub (pv 3) pe_int) pa_nil))))))
      (pss_one (ps_ret (pe_tup (pa_cons pe_str (pa_cons (pv 7) (pa_cons (pe_cf D__law_expression hr (pa_cons (pv 0) (pa_cons (pv 1) (pa_cons (pv 2) (pa_cons (pe_op op_sub (pv 3) pe_int) pa_nil))))) pa_nil)))))))
      pss_nil)
    (pss_cons (ps_if (pt_cmpR op_lt (pv 4) pe_int (nomark _))
      (pss_cons (ps_set (i := 7) nd rfl (.inl rfl) (pe_cf D__law_expression hr (pa_cons (pv 0) (pa_cons (pv 1) (pa_cons (pv 2) (pa_cons (pe_op op_sub (pv 3) pe_int) pa_nil))))))
      (pss_one (ps_ret (pe_tup (pa_cons pe_str (pa_cons (pv 7) (pa_cons (pe_cf D__law_expression hr (pa_cons (pv 0) (pa_cons (pv 1) (pa_cons (pv 2) (pa_cons (pe_op op_sub (pv 3) pe_int) pa_nil))))) pa_nil)))))))
      pss_nil)
    (pss_cons (ps_if (pt_cmpR op_eq (pv 4) pe_int (nomark _))
      (pss_one (ps_ret (pe_tup (pa_cons pe_str (pa_cons (pe_cf D__law_expression hr (pa_cons (pv 0) (pa_cons (pv 1) (pa_cons (pv 2) (pa_cons (pe_op op_sub (pv 3) pe_int) pa_nil))))) pa_nil)))))
      pss_nil)
    (pss_cons (ps_if (PW.pt (pw_or (pt_cmpR op_lt (pv 4) pe_int (nomark _)) (pw_or1 (pt_cmpR op_eq (pe_callB call_len_seq (by rfl) B.len bLen (pa_cons (pv 2) pa_nil)) pe_int (nomark _)))))
      (pss_one (ps_ret (pe_tup (pa_cons (pe_ix ix_list (pe_lst (pa_cons pe_str (pa_cons pe_str pa_nil))) (pe_op op_modN (pv 4) pe_int) (fun _ _ => rfl)) (pa_cons (pe_cf D__law_expression hr (pa_cons (pv 0) (pa_cons (pv 1) (pa_cons (pv 2) (pa_cons (pe_op op_sub (pv 3) pe_int) pa_nil))))) pa_nil)))))
      pss_nil)
    (pss_cons (ps_asg (pe_ix ix_list (pv 2) (pe_cf D__law_take hr1 (pa_cons (pv 0) (pa_cons (pe_callB call_len_seq (by rfl) B.len bLen (pa_cons (pv 2) pa_nil)) pa_nil))) (fun _ _ => rfl)) (pg_tup rfl (pgs_cons (pg_name (i := 8) nd rfl (.inl rfl)) (pgs_cons (pg_name (i := 9) nd rfl (.inl rfl)) pgs_nil))))
    (pss_one (ps_ret (pe_op op_catS (pe_tup (pa_cons (pv 8) pa_nil)) (pe_tupleOf (by rfl) B.tuple (pe_lc (own := [("_law_k", 6)]) (g := gName 6) (tt := tYes) rfl nd (pi_range1 (by rfl) B.range (pa_cons (pv 9) pa_nil)) (blkOk_by (N := ["_law_hand", "_law_parameters", "_law_calls", "_law_depth", "_law_kind", "_law_parts", "_law_k", "_law_left", "_law_name", "_law_many"]) (sc := defScope s_law_expression) (by decide +kernel)) (fun _ _ _ _ _ => pg_name (i := 6) nd rfl (.inl rfl)) (fun _ _ _ _ _ => pts_nil) (fun _ _ _ _ _ => (pe_cf D__law_expression hr (pa_cons (pv 0) (pa_cons (pv 1) (pa_cons (pv 2) (pa_cons (pe_op op_sub (pv 3) pe_int) pa_nil))))))))))))))))))), ?_⟩
  have hpl : (ps.map V.str).length = ps.length := List.length_map ..
  refine ⟨_, rfl, h, dl, 12, rfl, hA, by decide, by decide, fun r H1 hr' f1 hA1 => ?_⟩
  have tp1 := tp.fr f1
  have hcl1 := f1.keep cl _ (by simp [n1]) hcl
  -- a leaf
  have leaf : ∀ H2, Fr [h] H H2 → HandAt H2 h dl → ∀ r : Nat, r < ps.length → ∃ v, (ps.map V.str)[r]? = some v ∧ Q v H2 := fun H2 f2 hA2 r hr => by
    refine ⟨.str ps[r], by rw [List.getElem?_map, List.getElem?_eq_getElem hr]; rfl, q H2 _ (.var ps[r]) f2 hA2 rfl ((bok_var (List.getElem_mem hr)).le (bE_pos d) (Nat.zero_le _))⟩
  refine ⟨_, rfl, rfl, _, rfl, ?_⟩
  by_cases hl : d = 0 ∨ r < 2
  · have two : ∀ A : Prop, A → ∀ Bx : Prop, (if decide (V.int ((d : Nat) : Int) = V.int 0) = true then A else Bx) ∨ d ≠ 0 := fun A a Bx => by
      by_cases d0 : d = 0
      · exact .inl (by rw [d0, decide_eq_true (show V.int ((0 : Nat) : Int) = V.int 0 from rfl)]; exact iteT a)
      · exact .inr d0
    by_cases d0 : d = 0
    case' pos =>
      rw [decide_eq_true (show V.int ((d : Nat) : Int) = V.int 0 by rw [d0]; rfl)]
      refine iteT ?_
      refine iteT ?_
    case' neg =>
      have r2 : r < 2 := hl.resolve_left d0
      rw [decide_eq_false (show ¬ V.int ((d : Nat) : Int) = V.int 0 from fun z => by injection z with z; omega)]
      refine iteF ?_
      refine ⟨_, rfl, (r : Int), 2, rfl, rfl, _, rfl, ?_⟩
      rw [decide_eq_true (by omega)]
      refine iteT ?_
    all_goals
      refine ⟨_, rfl, pa, _, rfl, .inr tp1.sq, _, _, rfl, rfl, _, rfl, ?_⟩
      rw [decide_eq_true (by rw [hpl]; omega)]
      refine iteT ?_
      refine ⟨_, rfl, h, dl, 3, rfl, hA1, by decide, by decide, fun r2 H2 hr2 f2 hA2 => ?_⟩
      have f12 := f1.trans f2
      refine ⟨(r2 : Int), 0, rfl, rfl, _, rfl, ?_⟩
      refine ite2 (fun _ => ?_) (fun _ => ?_)
      · refine ⟨_, rfl, _, rfl, _, rfl, pa, _, rfl, .inr (tp1.fr f2).sq, h, dl, ps.length, by rw [hpl]; rfl, hA2, hp0, by omega, fun r3 H3 hr3 f3 hA3 => ?_⟩
        obtain ⟨v, hv, hq⟩ := leaf H3 (f12.trans f3) hA3 r3 hr3
        exact ⟨pa, _, _, v, rfl, rfl, ((tp1.fr f2).fr f3).sq, atI_nat hv, hq⟩
      · refine ⟨_, rfl, h, dl, rfl, hA2, fun H3 v x f3 hA3 hv s1 s2 => ?_⟩
        refine ⟨(by show 2 ≤ sizeLine; decide), fun T hT => ?_⟩
        have k1 : Fr [] H3 (upd H3 T (.tup [.str "quote", v])) := Fr.new hT _
        refine q _ _ (.quo x) ((f12.trans f3).trans (k1.mono (by simp))) (hA3.fr k1 (by simp) (by simp)) ?_ ((bok_quo (by simpa [sB] using s1) s2).le (bE_pos d) (Nat.zero_le _))
        simp only [Ex.val]
        exact isV_l (.of upd_same) (IsVs.cons rfl (IsVs.one (hv.fr k1)))
  obtain ⟨d', rfl⟩ : ∃ d', d = d' + 1 := ⟨d - 1, by omega⟩
  have r2 : ¬ r < 2 := fun z => hl (.inr z)
  have hsp := hI d' rfl
  subst hsp
  rw [decide_eq_false (show ¬ V.int ((d' + 1 : Nat) : Int) = V.int 0 from fun z => by injection z with z; omega)]
  refine iteF ?_
  refine ⟨_, rfl, (r : Int), 2, rfl, rfl, _, rfl, ?_⟩
  rw [decide_eq_false (by omega)]
  refine iteF ?_
  have one : 1 ≤ bE d' := bE_pos d'
  have vse : [V.ref h, V.ref pa, V.ref cl, V.int (((d' + 1 : Nat) : Int) - 1)] = [V.ref h, V.ref pa, V.ref cl, V.int ((d' : Nat) : Int)] := by rw [show ((d' + 1 : Nat) : Int) - 1 = ((d' : Nat) : Int) by omega]
  have sub : ∀ (H2 : Hp) (Qx : VK), Fr [h] H1 H2 → HandAt H2 h dl → (∀ H' v B, Fr [h] H2 H' → HandAt H' h dl → IsV K H' (Ex.val B) v → BOk ps (bE d') d' B → Qx v H') → spExpr K d' [.ref h, .ref pa, .ref cl, .int (((d' + 1 : Nat) : Int) - 1)] H2 Qx (fun _ _ _ => False) := fun H2 Qx f2 hA2 hq =>
    ⟨h, dl, pa, cl, ps, vse, hA2, tp1.fr f2, f2.keep cl _ (by simp [n1]) hcl1, n1, n2, hp0, hp3, hq⟩
  refine ⟨_, rfl, (r : Int), 4, rfl, rfl, _, rfl, ?_⟩
  refine ite2 (fun _ => ?_) (fun _ => ?_)
  · refine ⟨3, rfl, by decide, by decide, fun D hD => lc_range (lo := 0) (n := 3) (fun i H' => ∃ Bs acc, H' D = some (.lst acc) ∧ Fr [h] H1 H' ∧ HandAt H' h dl ∧ All2 (fun B v => IsV K H' (Ex.val B) v) Bs acc ∧ Bs.length = i ∧ ∀ B ∈ Bs, BOk ps (bE d') d' B)
      ⟨[], [], upd_same, Fr.new hD _, hA1.fr (Fr.new (S := []) hD _) (by simp) (by simp), rfl, rfl, fun x hx => by simp at hx⟩ ?_ ?_⟩
    · rintro i H2 hi ⟨Bs, acc, ha, f2, hA2, hBs, hBl, hB⟩
      have nD := hA1.ne hD
      have hal := hBs.len
      refine ⟨rfl, _, rfl, _, rfl, _, rfl, _, rfl, ((d' + 1 : Nat) : Int), 1, rfl, rfl, sub H2 _ f2 hA2 fun H3 v Bx f3 hA3 hv hBx => ?_⟩
      have ha3 := f3.keep D _ (by simp [nD.1]) ha
      have k2 : Fr [D] H3 (upd H3 D (.lst (acc ++ [v]))) := Fr.set (List.mem_singleton.mpr rfl) ha3 (fun _ z => by cases z) _
      refine ⟨acc, ha3, smallB (by omega), Bs ++ [Bx], _, upd_same, (f2.trans f3).over hD _, hA3.fr k2 (by simp [Ne.symm nD.1]) (by simp [Ne.symm nD.2]), ((hBs.imp fun _ _ z => z.fr f3).imp fun _ _ z => z.fr k2).app (All2.one (hv.fr k2)), by rw [List.length_append, hBl]; rfl, fun y hy => ?_⟩
      rcases List.mem_append.mp hy with e | e
      · exact hB y e
      · rw [List.mem_singleton.mp e]; exact hBx
    · rintro H2 ⟨Bs, acc, ha, f2, hA2, hBs, hBl, hB⟩
      match Bs, hBl, hBs, hB with
      | [x, y, z], _, ⟨v1, r1, e1, g1, v2, r2', e2, g2, v3, r3, e3, g3, e4⟩, hB =>
        subst e1 e2 e3
        obtain rfl : r3 = [] := e4
        refine ⟨_, rfl, D, _, _, _, rfl, rfl, .of ha, rfl, _, rfl, D, _, _, _, rfl, rfl, .of ha, rfl, _, rfl, D, _, _, _, rfl, rfl, .of ha, rfl, (by show 4 ≤ sizeLine; decide), fun T hT => ?_⟩
        have k1 : Fr [] H2 (upd H2 T (.tup [.str "if", v1, v2, v3])) := Fr.new hT _
        refine q _ _ (.ite x y z) ((f1.trans f2).trans (k1.mono (by simp))) (hA2.fr k1 (by simp) (by simp)) ?_ (bok_ite (hB x (by simp)) (hB y (by simp)) (hB z (by simp)) one)
        simp only [Ex.val]
        exact isV_l (.of upd_same) (IsVs.cons rfl (IsVs.cons (g1.fr k1) (IsVs.cons (g2.fr k1) (IsVs.one (g3.fr k1)))))
  have done1 : ∀ (o : Pr), o.ar = 1 → ∀ H2 v Bx, Fr [h] H1 H2 → HandAt H2 h dl → IsV K H2 (Ex.val Bx) v → BOk ps (bE d') d' Bx → ∀ T, H2 T = none → Q (.ref T) (upd H2 T (.tup [.str o.str, v])) := fun o ho H2 v Bx f2 hA2 hv hB T hT => by
    have k1 : Fr [] H2 (upd H2 T (.tup [.str o.str, v])) := Fr.new hT _
    refine q _ _ (.app (.pr o) [Bx]) ((f1.trans f2).trans (k1.mono (by simp))) (hA2.fr k1 (by simp) (by simp)) ?_ (bok_1 ho hB one)
    simp only [Ex.val, Ex.vals, Hd.str]
    exact isV_l (.of upd_same) (IsVs.cons rfl (IsVs.one (hv.fr k1)))
  have done2 : ∀ (o : Pr), o.ar = 2 → ∀ H2 H3 v u Bx By, Fr [h] H1 H2 → Fr [h] H2 H3 → HandAt H3 h dl → IsV K H2 (Ex.val Bx) v → IsV K H3 (Ex.val By) u → BOk ps (bE d') d' Bx → BOk ps (bE d') d' By → ∀ T, H3 T = none → Q (.ref T) (upd H3 T (.tup [.str o.str, v, u])) := fun o ho H2 H3 v u Bx By f2 f3 hA3 hv hu hB hB2 T hT => by
    have k1 : Fr [] H3 (upd H3 T (.tup [.str o.str, v, u])) := Fr.new hT _
    refine q _ _ (.app (.pr o) [Bx, By]) (((f1.trans f2).trans f3).trans (k1.mono (by simp))) (hA3.fr k1 (by simp) (by simp)) ?_ (bok_2 ho hB hB2 one)
    simp only [Ex.val, Ex.vals, Hd.str]
    exact isV_l (.of upd_same) (IsVs.cons rfl (IsVs.cons ((hv.fr f3).fr k1) (IsVs.one (hu.fr k1))))
  have sub2 : ∀ (H2 : Hp) (Qx : VK), Fr [h] H1 H2 → HandAt H2 h dl → (∀ H' v B, Fr [h] H2 H' → HandAt H' h dl → IsV K H' (Ex.val B) v → BOk ps (bE d') d' B → Qx v H') → ∃ i j, V.int ((d' + 1 : Nat) : Int) = .int i ∧ V.int 1 = .int j ∧ spExpr K d' [.ref h, .ref pa, .ref cl, .int (i - j)] H2 Qx (fun _ _ _ => False) := fun H2 Qx f2 hA2 hq =>
    ⟨((d' + 1 : Nat) : Int), 1, rfl, rfl, sub H2 Qx f2 hA2 hq⟩
  refine ⟨_, rfl, rfl, _, rfl, ?_⟩
  refine ite2 (fun _ => ?p4) (fun _ => ?n4)
  case' p4 => refine iteT ?_
  case' n4 =>
    refine ⟨_, rfl, rfl, _, rfl, ?_⟩
    refine ite2 (fun _ => ?p5) (fun _ => ?n5)
  case n5 =>
    refine ⟨_, rfl, (r : Int), 8, rfl, rfl, _, rfl, ?_⟩
    refine ite2 (fun _ => ?_) (fun _ => ?_)
    · refine ⟨_, rfl, _, rfl, _, rfl, _, rfl, sub2 H1 _ (Fr.refl _ _) hA1 fun H2 v Bx f2 hA2 hv hB => ?_⟩
      refine ⟨_, rfl, _, rfl, _, rfl, _, rfl, _, rfl, sub2 H2 _ f2 hA2 fun H3 u By f3 hA3 hu hB2 => ?_⟩
      exact ⟨(by show 3 ≤ sizeLine; decide), fun T hT => done2 .join rfl H2 H3 v u Bx By f2 f3 hA3 hv hu hB hB2 T hT⟩
    refine ⟨_, rfl, rfl, _, rfl, ?_⟩
    refine ite2 (fun _ => ?_) (fun _ => ?_)
    · refine ⟨_, rfl, _, rfl, _, rfl, _, rfl, sub2 H1 _ (Fr.refl _ _) hA1 fun H2 v Bx f2 hA2 hv hB => ?_⟩
      exact ⟨(by show 2 ≤ sizeLine; decide), fun T hT => done1 .word rfl H2 v Bx f2 hA2 hv hB T hT⟩
    refine ⟨_, rfl, (r : Int), 11, rfl, rfl, _, rfl, ?_⟩
    refine ite2 (fun _ => ?p11) (fun _ => ?n11)
    case' p11 => refine iteT ?_
    case' n11 =>
      refine ⟨_, rfl, cl, _, rfl, .inl (.of hcl1), rfl, _, rfl, ?_⟩
      rw [decide_eq_true (show V.int ((([] : List V).length : Nat) : Int) = V.int 0 from rfl)]
      refine iteT ?_
    all_goals
      refine ⟨(by show 2 ≤ sizeLine; decide), fun l hl => ?_⟩
      have k0 : Fr [] H1 (upd H1 l (.lst [.str "head", .str "tail"])) := Fr.new hl _
      refine ⟨_, rfl, (r : Int), 2, rfl, rfl, by show (2 : Int) ≠ 0; decide, ?_⟩
      have e2 : (r : Int).fmod 2 = ((r % 2 : Nat) : Int) := by rw [Int.fmod_eq_emod_of_nonneg _ (by omega)]; omega
      have e3 : ∃ o : Pr, o.ar = 1 ∧ ([.str "head", .str "tail"] : List V)[r % 2]? = some (.str o.str) := by
        rcases (show r % 2 = 0 ∨ r % 2 = 1 by omega) with z | z
        · exact ⟨.head, rfl, by rw [z]; rfl⟩
        · exact ⟨.tail, rfl, by rw [z]; rfl⟩
      obtain ⟨o, ho, eo⟩ := e3
      refine ⟨l, _, _, .str o.str, rfl, rfl, .of upd_same, by show atI _ ((r : Int).fmod 2) = _; rw [e2]; exact atI_nat eo, ?_⟩
      refine ⟨_, rfl, _, rfl, _, rfl, _, rfl, sub2 _ _ (k0.mono (by simp)) (hA1.fr k0 (by simp) (by simp)) fun H2 v Bx f2 hA2 hv hB => ?_⟩
      exact ⟨(by show 2 ≤ sizeLine; decide), fun T hT => done1 o ho H2 v Bx ((k0.mono (by simp)).trans f2) hA2 hv hB T hT⟩
  all_goals
    refine ⟨_, rfl, _, rfl, _, rfl, _, rfl, sub2 H1 _ (Fr.refl _ _) hA1 fun H2 v Bx f2 hA2 hv hB => ?_⟩
    refine ⟨_, rfl, _, rfl, _, rfl, _, rfl, _, rfl, sub2 H2 _ f2 hA2 fun H3 u By f3 hA3 hu hB2 => ?_⟩
    exact ⟨(by show 3 ≤ sizeLine; decide), fun T hT => done2 .same rfl H2 H3 v u Bx By f2 f3 hA3 hv hu hB hB2 T hT⟩
end
end Og

set_option Elab.async false
set_option linter.all false
set_option maxRecDepth 100000
set_option maxHeartbeats 4000000
/-! Og8d: law_small. -/
namespace Og
open PySem PySem.Spec PyProof.Rows L2
section
variable {P : Program} {w : World} {K : PySem.W.Frag} {mg : MG} {base : Heap}
def spSmall (K : PySem.W.Frag) : Sp := fun vs H Q _ => ∃ (x : Val) (v : V), vs = [v] ∧ IsV K H x v ∧ x.size ≤ 5000000 ∧ ∀ H' b, Fr [] H H' → (b = true → x.size ≤ 20000) → Q (.bl b) H'
theorem sc_law_small : FnScope ["_law_value_here", "_law_waiting", "_law_turn", "_law_one", "_law_item"] ["_law_value_here"] (defScope s_law_small) := ⟨rfl, rfl, rfl, by decide +kernel, rfl, by decide +kernel, by decide +kernel⟩
theorem ok_small (F : Fg K mg "_law_small" s_law_small) (B : Bn mg) : Df P w K mg base "_law_small" ["_law_value_here"] 1 (spSmall K) := by
  refine Df.of F sc_law_small (fun _ _ _ _ _ _ us hl => match us, hl with | [_], _ => rfl) (fun vs H Q E h => ?_) (fun f cdv A outer s H vs Q E hr h => ?_)
  · obtain ⟨_, _, rfl, _⟩ := h
    rfl
  obtain ⟨x, v, rfl, hv, hz, q⟩ := h
  have hu := hu_of hr
  have nd := sc_law_small.nd
  refine ⟨_, (pss_cons (ps_set (i := 1) nd rfl (.inl rfl) (pe_lst (pa_cons (pv 0) pa_nil)))
    (pss_cons (ps_for PassesOwn.never rfl (pi_range1 (by rfl) B.range (pa_cons pe_int pa_nil)) (pg_name (i := 2) nd rfl (.inl rfl))
      (pss_cons (ps_if (pt_cmpR op_eq (pe_callB call_len_seq (by rfl) B.len bLen (pa_cons (pv 1) pa_nil)) pe_int (nomark _))
        (pss_one (ps_ret pe_bl))
        pss_nil)
      (pss_cons (ps_set (i := 3) nd rfl (.inl rfl) (pe_bm0 PySem.F.plainAttrs_list PySem.F.slot_list_pop PySem.F.type_list_pop mt_pop (pv 1)))
      (pss_one (ps_if (pt_val (pe_isT2 B (pv 3)))
        (pss_one (ps_for PassesOwn.never rfl (pi_tup (pv 3)) (pg_name (i := 4) nd rfl (.inl rfl))
          (pss_one (ps_expr (pe_bm PySem.F.plainAttrs_list PySem.F.slot_list_append PySem.F.type_list_append mt_append (pv 1) (pa_cons (pv 4) pa_nil))))))
        pss_nil)))))
    (pss_one (ps_ret pe_bl)))), ?_⟩
  refine ⟨_, rfl, (by show 1 ≤ sizeLine; decide), fun l hl => ?_⟩
  have f1 : Fr [] H (upd H l (.lst [v])) := Fr.new hl _
  refine ⟨20000, rfl, by decide, by decide, for_range (lo := 0) (n := 20000) (fun i σ H' => ∃ x2 x3 x4, ∃ (zs : List Val) (us : List V), σ = [some v, some (.ref l), x2, x3, x4] ∧ Fr [] H H' ∧ H' l = some (.lst us) ∧ IsVs K H' zs us ∧ Val.sizes zs + i = x.size)
    ⟨none, none, none, [x], [v], rfl, f1, upd_same, IsVs.one (hv.fr f1), by simp [Val.sizes]⟩ ?_ ?_⟩
  · rintro i σ H' hi ⟨x2, x3, x4, zs, us, rfl, f, hw, hus, hsz⟩
    have hlen := hus.len
    refine ⟨_, rfl, l, _, rfl, .inl (.of hw), rfl, _, rfl, ?_⟩
    rcases snoc_cases zs with rfl | ⟨zs, y, rfl⟩
    · rw [decide_eq_true (show V.int (us.length : Nat) = V.int 0 by rw [hlen]; rfl)]
      refine iteT ?_
      exact q H' true f fun _ => by simp only [Val.sizes] at hsz; omega
    · rw [decide_eq_false (by rw [hlen, List.length_append]; intro z; injection z with z; simp only [List.length_singleton] at z; omega)]
      refine iteF ?_
      obtain ⟨us, u, rfl, hus0, hu⟩ := hus.last
      have k1 : Fr [l] H' (upd H' l (.lst us)) := Fr.set (List.mem_singleton.mpr rfl) hw (fun _ z => by cases z) _
      have fr1 : Fr [] H (upd H' l (.lst us)) := f.over hl _
      have hw1 : upd H' l (.lst us) l = some (.lst us) := upd_same
      refine ⟨_, rfl, .inl ⟨rfl, _, .of hw⟩, l, _, _, rfl, rfl, hw, pop_at _ _, ?_⟩
      rw [List.dropLast_concat]
      have hus1 := hus0.fr k1
      have hu1 := hu.fr k1
      generalize upd H' l (.lst us) = H1 at *
      rw [sizes_app] at hsz
      simp only [Val.sizes, Nat.add_zero] at hsz
      have hzl := sizes_len zs
      refine ⟨_, rfl, _, y, rfl, hu1, _, rfl, ?_⟩
      cases y with
      | w s =>
        refine iteF ?_
        exact ⟨_, _, _, zs, us, rfl, fr1, hw1, hus1, by simp only [Val.size] at hsz; omega⟩
      | l xs =>
        refine iteT ?_
        obtain ⟨a, vs, rfl, t, hvs⟩ := hu1
        have hvl := hvs.len
        have hul := hus1.len
        simp only [Val.size] at hsz
        have hxl := sizes_len xs
        refine ⟨_, rfl, a, rfl, ⟨_, t.sq⟩, for_tup (K := K) (a := a) (xs := vs) (fun j σ H2 => ∃ x4, ∃ us2 : List V, σ = [some v, some (.ref l), some (.int (0 + (i : Int))), some (.ref a), x4] ∧ Fr [l] H1 H2 ∧ Fr [] H H2 ∧ H2 l = some (.lst us2) ∧ IsVs K H2 (zs ++ xs.take j) us2)
          ⟨_, us, rfl, Fr.refl _ _, fr1, hw1, by rw [List.take_zero, List.append_nil]; exact hus1⟩ (fun j σ H2 _ ⟨_, _, _, f, _⟩ => (t.fr f).sq) ?_ ?_⟩
        · rintro j z σ H2 hz2 ⟨x4, us2, rfl, f2, fr2, hw2, hus2⟩
          obtain ⟨e, he, hev⟩ := hvs.get' hz2
          have k2 : Fr [l] H2 (upd H2 l (.lst (us2 ++ [z]))) := Fr.set (List.mem_singleton.mpr rfl) hw2 (fun _ z => by cases z) _
          have hl2 := hus2.len
          rw [List.length_append, List.length_take] at hl2
          refine ⟨_, rfl, .inl ⟨rfl, _, .of hw2⟩, _, rfl, l, us2, _, rfl, rfl, hw2, smallB (by omega), _, us2 ++ [z], rfl, f2.trans k2, fr2.over hl _, upd_same, ?_⟩
          rw [List.take_add_one, he, ← List.append_assoc]
          exact (hus2.fr k2).app (IsVs.one ((hev.fr f2).fr k2))
        · rintro σ H2 ⟨x4, us2, rfl, f2, fr2, hw2, hus2⟩
          rw [hvl, List.take_length] at hus2
          exact ⟨_, _, _, zs ++ xs, us2, rfl, fr2, hw2, hus2, by rw [sizes_app]; omega⟩
  · rintro σ H' ⟨x2, x3, x4, zs, us, rfl, f, hw, hus, hsz⟩
    exact q H' false f fun z => by cases z
end
end Og

set_option Elab.async false
set_option linter.all false
set_option maxRecDepth 100000
set_option maxHeartbeats 4000000
/-! OgEq: == of two values of the first language. -/
namespace Og
open PySem PySem.Spec PyProof.Rows L2
mutual
def Val.py : Val → PyData
  | .w s => .str s
  | .l xs => .tuple (Val.pys xs)
def Val.pys : List Val → List PyData
  | [] => []
  | x :: xs => x.py :: Val.pys xs
end
mutual
theorem py_plain : ∀ x : Val, x.py.plain = true
  | .w _ => rfl
  | .l xs => pys_plain xs
theorem pys_plain : ∀ xs : List Val, PyData.plainAll (Val.pys xs) = true
  | [] => rfl
  | x :: xs => by simp only [Val.pys, PyData.plainAll, py_plain x, pys_plain xs, Bool.and_self]
end
mutual
theorem py_depth : ∀ x : Val, x.py.depth = x.depth
  | .w _ => rfl
  | .l xs => by simp only [Val.py, PyData.depth, Val.depth, pys_depth xs]
theorem pys_depth : ∀ xs : List Val, PyData.depthAll (Val.pys xs) + 1 = Val.depths xs
  | [] => rfl
  | x :: xs => by
    have h1 := py_depth x
    have h2 := pys_depth xs
    simp only [Val.pys, PyData.depthAll, Val.depths, h1]
    omega
end
mutual
theorem py_eqv : ∀ x y : Val, PyData.eqv x.py y.py = decide (x = y)
  | .w s, .w t => by rw [Bool.eq_iff_iff]; simp [Val.py, PyData.eqv]
  | .w s, .l ys => by simp [Val.py, PyData.eqv]
  | .l xs, .w t => by simp [Val.py, PyData.eqv]
  | .l xs, .l ys => by simp only [Val.py, PyData.eqv, pys_eqv xs ys, Val.l.injEq]
theorem pys_eqv : ∀ xs ys : List Val, PyData.eqvAll (Val.pys xs) (Val.pys ys) = decide (xs = ys)
  | [], [] => by simp [Val.pys, PyData.eqvAll]
  | [], _ :: _ => by simp [Val.pys, PyData.eqvAll]
  | _ :: _, [] => by simp [Val.pys, PyData.eqvAll]
  | x :: xs, y :: ys => by
    simp only [Val.pys, PyData.eqvAll, py_eqv x y, pys_eqv xs ys, List.cons.injEq]
    by_cases h1 : x = y <;> by_cases h2 : xs = ys <;> simp [h1, h2]
end
mutual
theorem py_dp {K : PySem.W.Frag} {H : Hp} : ∀ (x : Val) (v : V), IsV K H x v → Dp K H v x.py
  | .w s, v, h => by
    have e : v = .str s := h
    subst e
    exact .str s
  | .l xs, v, h => by
    obtain ⟨a, vs, rfl, t, r⟩ := h
    exact .tup t.sq (pys_dp xs vs r)
theorem pys_dp {K : PySem.W.Frag} {H : Hp} : ∀ (xs : List Val) (vs : List V), IsVs K H xs vs → DpAll K H vs (Val.pys xs)
  | [], vs, h => by
    have e : vs = [] := h
    subst e
    exact .nil
  | x :: xs, vs, h => by
    obtain ⟨v, r, rfl, hv, hr⟩ := h
    exact .cons (py_dp x v hv) (pys_dp xs r hr)
end
def rEqV (K : PySem.W.Frag) : R2 := fun x y H Q => ∃ a b, IsV K H a x ∧ IsV K H b y ∧ min a.depth b.depth ≤ 64 ∧ Q (.bl (decide (a = b))) H
theorem op_eqW {X : Cx} (hu : X.A.units + 64 < cLine) : OpR X (compareOp .Eq) (rEqV X.K) := by
  intro pins s σ H x y v u Q I rx ry h
  obtain ⟨a, b, ha, hb, hm, q⟩ := h
  obtain ⟨as, r1⟩ := Dp.reads I a.py x v (py_dp a x ha) rx
  obtain ⟨bs, r2⟩ := Dp.reads I b.py y u (py_dp b y hb) ry
  refine SeqAt.eq_plain r1 r2 (py_plain a) (py_plain b) (by rw [py_depth, py_depth]; omega) ⟨.bl _, H, I, ?_, q⟩
  rw [py_eqv]
  rfl
end Og

set_option Elab.async false
set_option linter.all false
set_option maxRecDepth 100000
set_option maxHeartbeats 4000000
/-! OgDo: law_do. -/
namespace Og
open PySem PySem.Spec PyProof.Rows L2
def rTailV (K : PySem.W.Frag) : V → Option Int → Option Int → Hp → VK → Prop := fun x lo hi H Q => lo = some 1 ∧ hi = none ∧ ∃ xs, IsV K H (.l xs) x ∧ ∀ H' r, Fr [] H H' → IsV K H' (vtail (.l xs)) r → Q r H'
theorem sl_tailV {X : Cx} : SlR X (rTailV X.K) := by
  rintro pins s σ H x v vl vu lo hi sl Q I rx hs pl pu ⟨rfl, rfl, xs, hx, q⟩
  obtain ⟨a, vs, rfl, t, r⟩ := hx
  have hl := r.len
  cases xs with
  | nil =>
    have e : vs = [] := r
    subst e
    exact sl_tupA pins s σ H _ v vl vu _ _ sl Q I rx hs pl pu ⟨a, [], rfl, t.sq, fun _ => q H _ (Fr.refl _ _) (isV_l t rfl), fun n => absurd ⟨rfl, rfl⟩ n⟩
  | cons x0 xs =>
    obtain ⟨v0, vr, rfl, h0, hr⟩ := r
    refine sl_tailR pins s σ H _ v vl vu _ _ sl Q I rx hs pl pu ⟨rfl, rfl, a, _, rfl, t, by simp, fun p hp => ?_⟩
    have f : Fr [] H (upd H p (.tup ((v0 :: vr).drop 1))) := Fr.new hp _
    exact q _ _ f (isV_l (.of upd_same) (IsVs.fr f hr))
section
variable {P : Program} {w : World} {K : PySem.W.Frag} {mg : MG} {base : Heap}
def spDo (K : PySem.W.Frag) : Sp := fun vs H Q _ => ∃ (o : Pr) (fl : Addr) (us wv : List V) (ws : List Val) (x : Val), vs = [.str o.str, .ref fl] ∧ H fl = some (.lst (us ++ wv)) ∧ IsVs K H ws wv ∧ prim o ws = some x ∧ (∀ y ∈ ws, y.depth ≤ 64) ∧ (∀ y ∈ ws, y.size ≤ 5000000) ∧
  ∀ H' r, Fr [fl] H H' → H' fl = some (.lst us) → IsV K H' x r → Q r H'
theorem sc_law_do : FnScope ["_law_word", "_law_found", "_law_last", "_law_first"] ["_law_word", "_law_found"] (defScope s_law_do) := ⟨rfl, rfl, rfl, by decide +kernel, rfl, by decide +kernel, by decide +kernel⟩
theorem ok_do (F : Fg K mg "_law_do" s_law_do) (B : Bn mg) : Df P w K mg base "_law_do" ["_law_word", "_law_found"] 1 (spDo K) := by
  refine Df.of F sc_law_do (fun _ _ _ _ _ _ us hl => match us, hl with | [_, _], _ => rfl) (fun vs H Q E h => ?_) (fun f cdv A outer s H vs Q E hr h => ?_)
  · obtain ⟨_, _, _, _, _, _, rfl, _⟩ := h
    rfl
  obtain ⟨o, fl, us, wv, ws, x, rfl, hf, hw, hp, hdp, hsz, q⟩ := h
  have hu := hu_of hr
  have nd := sc_law_do.nd
  refine ⟨_, (pss_cons (ps_set (i := 2) nd rfl (.inl rfl) (pe_bm0 PySem.F.plainAttrs_list PySem.F.slot_list_pop PySem.F.type_list_pop mt_pop (pv 1)))
    (pss_cons (ps_if (pt_cmpR op_eq (pv 0) pe_str (nomark _))
      (pss_one (ps_ret (pe_ix ix_list (pe_lst (pa_cons pe_str (pa_cons (pe_tup pa_nil) pa_nil))) (pe_callTy call_int1 (by rfl) B.int bInt (pa_cons (pe_isT2 B (pv 2)) pa_nil)) (fun _ _ => rfl))))
      pss_nil)
    (pss_cons (ps_if (pt_cmpR op_eq (pv 0) pe_str (nomark _))
      (pss_cons (ps_if (PW.pt (pw_and (pt_val (pe_isT2 B (pv 2))) (pw_and1 (pt_cmpR op_gt (pe_callB call_len_seq (by rfl) B.len bLen (pa_cons (pv 2) pa_nil)) pe_int (nomark _)))))
        (pss_one (ps_ret (pe_ix ix_tup (pv 2) pe_int (fun _ _ => rfl))))
        pss_nil)
      (pss_one (ps_ret (pe_tup pa_nil))))
      pss_nil)
    (pss_cons (ps_if (pt_cmpR op_eq (pv 0) pe_str (nomark _))
      (pss_cons (ps_if (pt_val (pe_isT2 B (pv 2)))
        (pss_one (ps_ret (pe_slice sl_tailV (pv 2) (po_some pe_int) po_none)))
        pss_nil)
      (pss_one (ps_ret (pe_tup pa_nil))))
      pss_nil)
    (pss_cons (ps_set (i := 3) nd rfl (.inl rfl) (pe_bm0 PySem.F.plainAttrs_list PySem.F.slot_list_pop PySem.F.type_list_pop mt_pop (pv 1)))
    (pss_cons (ps_if (pt_cmpR op_eq (pv 0) pe_str (nomark _))
      (pss_one (ps_ret (pe_ix ix_list (pe_lst (pa_cons (pe_tup pa_nil) (pa_cons pe_str pa_nil))) (pe_callTy call_int1 (by rfl) B.int bInt (pa_cons (pe_cmpR (op_eqW hr.units) (pv 3) (pv 2) (nomark _)) pa_nil)) (fun _ _ => rfl))))
      pss_nil)
    (pss_cons (ps_if (pt_val (pe_isT2 B (pv 2)))
      (pss_one (ps_ret (pe_op op_catS (pe_tup (pa_cons (pv 3) pa_nil)) (pv 2))))
      pss_nil)
    (pss_one (ps_ret (pe_tup (pa_cons (pv 3) pa_nil))))))))))), ?_⟩
  have nw := hw.len
  have fin : ∀ (H1 H2 : Hp) (r : V), Fr [fl] H H1 → H1 fl = some (.lst us) → Fr [] H1 H2 → IsV K H2 x r → Q r H2 := fun H1 H2 r f e g i => q H2 r (f.trans (g.mono (by simp))) (g.keep fl _ (by simp) e) i
  cases o with
  | word =>
    obtain ⟨a, rfl, rfl⟩ : ∃ a, ws = [a] ∧ x = vword a := by
      match ws, hp with
      | [a], hp => exact ⟨a, rfl, (Option.some.inj hp).symm⟩
    obtain ⟨u, rfl, ha⟩ := hw.one_inv
    refine ⟨_, rfl, .inl ⟨rfl, _, .of hf⟩, fl, _, _, rfl, rfl, hf, pop_at _ _, ?_⟩
    rw [List.dropLast_concat]
    have f1 : Fr [fl] H (upd H fl (.lst us)) := Fr.set (List.mem_singleton.mpr rfl) hf (fun _ z => by cases z) _
    have e1 : upd H fl (.lst us) fl = some (.lst us) := upd_same
    have a1 := ha.fr f1
    generalize upd H fl (.lst us) = H1 at *
    refine ⟨_, rfl, rfl, _, rfl, ?_⟩
    rw [seq (show Pr.str .word = "word" from rfl)]
    refine iteT ?_
    refine ⟨(by show 0 ≤ sizeLine; decide), fun p hp => ⟨(by show 2 ≤ sizeLine; decide), fun l hl => ⟨_, rfl, _, a, rfl, (a1.fr (Fr.new (S := []) hp _)).fr (Fr.new (S := []) hl _), .inr ⟨_, rfl, ?_⟩⟩⟩⟩
    have g1 : Fr [] H1 (upd H1 p (.tup [])) := Fr.new hp _
    have g2 : Fr [] (upd H1 p (.tup [])) (upd (upd H1 p (.tup [])) l (.lst [.str "yes", .ref p])) := Fr.new hl _
    cases a with
    | w t => exact ⟨l, _, 0, .str "yes", rfl, rfl, .of upd_same, at0, fin _ _ _ f1 e1 (g1.trans g2) rfl⟩
    | l ts => exact ⟨l, _, 1, .ref p, rfl, rfl, .of upd_same, atI_nat (j := 1) rfl, fin _ _ _ f1 e1 (g1.trans g2) (isV_l (.of (g2.tup p _ upd_same)) rfl)⟩
  | head =>
    obtain ⟨a, rfl, rfl⟩ : ∃ a, ws = [a] ∧ x = vhead a := by
      match ws, hp with
      | [a], hp => exact ⟨a, rfl, (Option.some.inj hp).symm⟩
    obtain ⟨u, rfl, ha⟩ := hw.one_inv
    refine ⟨_, rfl, .inl ⟨rfl, _, .of hf⟩, fl, _, _, rfl, rfl, hf, pop_at _ _, ?_⟩
    rw [List.dropLast_concat]
    have f1 : Fr [fl] H (upd H fl (.lst us)) := Fr.set (List.mem_singleton.mpr rfl) hf (fun _ z => by cases z) _
    have e1 : upd H fl (.lst us) fl = some (.lst us) := upd_same
    have a1 := ha.fr f1
    generalize upd H fl (.lst us) = H1 at *
    refine ⟨_, rfl, rfl, _, rfl, ?_⟩
    rw [sne (show Pr.str .head ≠ "word" by decide)]
    refine iteF ?_
    refine ⟨_, rfl, rfl, _, rfl, ?_⟩
    rw [seq (show Pr.str .head = "head" from rfl)]
    refine iteT ?_
    refine ⟨_, rfl, _, a, rfl, a1, _, rfl, ?_⟩
    cases a with
    | w t =>
      refine iteF ?_
      exact ⟨(by show 0 ≤ sizeLine; decide), fun p hp => fin _ _ _ f1 e1 (Fr.new hp _) (isV_l (.of upd_same) rfl)⟩
    | l ts =>
      obtain ⟨b, bs, rfl, t, r⟩ := a1
      refine iteT ?_
      refine ⟨_, rfl, b, bs, rfl, .inr t.sq, (bs.length : Int), 0, rfl, rfl, _, rfl, ?_⟩
      cases ts with
      | nil =>
        have e : bs = [] := r
        subst e
        refine iteF ?_
        exact ⟨(by show 0 ≤ sizeLine; decide), fun p hp => fin _ _ _ f1 e1 (Fr.new hp _) (isV_l (.of upd_same) rfl)⟩
      | cons t0 ts =>
        obtain ⟨v0, vr, rfl, h0, hr0⟩ := r
        rw [decide_eq_true (by simp only [List.length_cons]; omega)]
        refine iteT ?_
        exact ⟨_, rfl, b, _, 0, v0, rfl, rfl, t.sq, at0, fin _ _ _ f1 e1 (Fr.refl _ _) h0⟩
  | tail =>
    obtain ⟨a, rfl, rfl⟩ : ∃ a, ws = [a] ∧ x = vtail a := by
      match ws, hp with
      | [a], hp => exact ⟨a, rfl, (Option.some.inj hp).symm⟩
    obtain ⟨u, rfl, ha⟩ := hw.one_inv
    refine ⟨_, rfl, .inl ⟨rfl, _, .of hf⟩, fl, _, _, rfl, rfl, hf, pop_at _ _, ?_⟩
    rw [List.dropLast_concat]
    have f1 : Fr [fl] H (upd H fl (.lst us)) := Fr.set (List.mem_singleton.mpr rfl) hf (fun _ z => by cases z) _
    have e1 : upd H fl (.lst us) fl = some (.lst us) := upd_same
    have a1 := ha.fr f1
    generalize upd H fl (.lst us) = H1 at *
    refine ⟨_, rfl, rfl, _, rfl, ?_⟩
    rw [sne (show Pr.str .tail ≠ "word" by decide)]
    refine iteF ?_
    refine ⟨_, rfl, rfl, _, rfl, ?_⟩
    rw [sne (show Pr.str .tail ≠ "head" by decide)]
    refine iteF ?_
    refine ⟨_, rfl, rfl, _, rfl, ?_⟩
    rw [seq (show Pr.str .tail = "tail" from rfl)]
    refine iteT ?_
    refine ⟨_, rfl, _, a, rfl, a1, _, rfl, ?_⟩
    cases a with
    | w t =>
      refine iteF ?_
      exact ⟨(by show 0 ≤ sizeLine; decide), fun p hp => fin _ _ _ f1 e1 (Fr.new hp _) (isV_l (.of upd_same) rfl)⟩
    | l ts =>
      refine iteT ?_
      exact ⟨_, rfl, _, rfl, rfl, rfl, ts, a1, fun H2 r g i => fin _ _ _ f1 e1 g i⟩
  | same =>
    obtain ⟨a, b, rfl, rfl⟩ : ∃ a b, ws = [a, b] ∧ x = vsame a b := by
      match ws, hp with
      | [a, b], hp => exact ⟨a, b, rfl, (Option.some.inj hp).symm⟩
    obtain ⟨u, _, rfl, ha, hbb⟩ := hw
    obtain ⟨u2, rfl, hb⟩ := IsVs.one_inv hbb
    rw [show us ++ [u, u2] = (us ++ [u]) ++ [u2] by simp] at hf
    refine ⟨_, rfl, .inl ⟨rfl, _, .of hf⟩, fl, _, _, rfl, rfl, hf, pop_at _ _, ?_⟩
    rw [List.dropLast_concat]
    have f1 : Fr [fl] H (upd H fl (.lst (us ++ [u]))) := Fr.set (List.mem_singleton.mpr rfl) hf (fun _ z => by cases z) _
    have e1 : upd H fl (.lst (us ++ [u])) fl = some (.lst (us ++ [u])) := upd_same
    generalize upd H fl (.lst (us ++ [u])) = H1 at *
    refine ⟨_, rfl, rfl, _, rfl, ?_⟩
    rw [sne (show Pr.str .same ≠ "word" by decide)]
    refine iteF ?_
    refine ⟨_, rfl, rfl, _, rfl, ?_⟩
    rw [sne (show Pr.str .same ≠ "head" by decide)]
    refine iteF ?_
    refine ⟨_, rfl, rfl, _, rfl, ?_⟩
    rw [sne (show Pr.str .same ≠ "tail" by decide)]
    refine iteF ?_
    refine ⟨_, rfl, .inl ⟨rfl, _, .of e1⟩, fl, _, _, rfl, rfl, e1, pop_at _ _, ?_⟩
    rw [List.dropLast_concat]
    have f2 : Fr [fl] H1 (upd H1 fl (.lst us)) := Fr.set (List.mem_singleton.mpr rfl) e1 (fun _ z => by cases z) _
    have e2 : upd H1 fl (.lst us) fl = some (.lst us) := upd_same
    have a2 := (ha.fr f1).fr f2
    have b2' := (hb.fr f1).fr f2
    have f12 := f1.trans f2
    generalize upd H1 fl (.lst us) = H2 at *
    refine ⟨_, rfl, rfl, _, rfl, ?_⟩
    rw [seq (show Pr.str .same = "same" from rfl)]
    refine iteT ?_
    have d1 := hdp a (List.mem_cons_self ..)
    refine ⟨(by show 0 ≤ sizeLine; decide), fun p hp => ⟨(by show 2 ≤ sizeLine; decide), fun l hl => ?_⟩⟩
    have g1 : Fr [] H2 (upd H2 p (.tup [])) := Fr.new hp _
    have g2 : Fr [] (upd H2 p (.tup [])) (upd (upd H2 p (.tup [])) l (.lst [.ref p, .str "yes"])) := Fr.new hl _
    refine ⟨_, rfl, _, rfl, a, b, (a2.fr g1).fr g2, (b2'.fr g1).fr g2, by omega, .inr ⟨_, rfl, ?_⟩⟩
    by_cases ab : a = b
    · rw [decide_eq_true ab]
      exact ⟨l, _, 1, .str "yes", rfl, rfl, .of upd_same, atI_nat (j := 1) rfl, fin _ _ _ f12 e2 (g1.trans g2) (by rw [vsame, if_pos ab]; rfl)⟩
    · rw [decide_eq_false ab]
      exact ⟨l, _, 0, .ref p, rfl, rfl, .of upd_same, at0, fin _ _ _ f12 e2 (g1.trans g2) (by rw [vsame, if_neg ab]; exact isV_l (.of (g2.tup p _ upd_same)) rfl)⟩
  | join =>
    obtain ⟨a, b, rfl, rfl⟩ : ∃ a b, ws = [a, b] ∧ x = vjoin a b := by
      match ws, hp with
      | [a, b], hp => exact ⟨a, b, rfl, (Option.some.inj hp).symm⟩
    obtain ⟨u, _, rfl, ha, hbb⟩ := hw
    obtain ⟨u2, rfl, hb⟩ := IsVs.one_inv hbb
    rw [show us ++ [u, u2] = (us ++ [u]) ++ [u2] by simp] at hf
    refine ⟨_, rfl, .inl ⟨rfl, _, .of hf⟩, fl, _, _, rfl, rfl, hf, pop_at _ _, ?_⟩
    rw [List.dropLast_concat]
    have f1 : Fr [fl] H (upd H fl (.lst (us ++ [u]))) := Fr.set (List.mem_singleton.mpr rfl) hf (fun _ z => by cases z) _
    have e1 : upd H fl (.lst (us ++ [u])) fl = some (.lst (us ++ [u])) := upd_same
    generalize upd H fl (.lst (us ++ [u])) = H1 at *
    refine ⟨_, rfl, rfl, _, rfl, ?_⟩
    rw [sne (show Pr.str .join ≠ "word" by decide)]
    refine iteF ?_
    refine ⟨_, rfl, rfl, _, rfl, ?_⟩
    rw [sne (show Pr.str .join ≠ "head" by decide)]
    refine iteF ?_
    refine ⟨_, rfl, rfl, _, rfl, ?_⟩
    rw [sne (show Pr.str .join ≠ "tail" by decide)]
    refine iteF ?_
    refine ⟨_, rfl, .inl ⟨rfl, _, .of e1⟩, fl, _, _, rfl, rfl, e1, pop_at _ _, ?_⟩
    rw [List.dropLast_concat]
    have f2 : Fr [fl] H1 (upd H1 fl (.lst us)) := Fr.set (List.mem_singleton.mpr rfl) e1 (fun _ z => by cases z) _
    have e2 : upd H1 fl (.lst us) fl = some (.lst us) := upd_same
    have a2 := (ha.fr f1).fr f2
    have b2' := (hb.fr f1).fr f2
    have f12 := f1.trans f2
    generalize upd H1 fl (.lst us) = H2 at *
    refine ⟨_, rfl, rfl, _, rfl, ?_⟩
    rw [sne (show Pr.str .join ≠ "same" by decide)]
    refine iteF ?_
    refine ⟨_, rfl, _, b, rfl, b2', _, rfl, ?_⟩
    have sb := hsz b (List.mem_cons_of_mem _ (List.mem_cons_self ..))
    cases b with
    | w t =>
      refine iteF ?_
      exact ⟨_, rfl, (by show 1 ≤ sizeLine; decide), fun p hp => fin _ _ _ f12 e2 (Fr.new hp _) (isV_l (.of upd_same) (IsVs.one (a2.fr (Fr.new (S := []) hp _))))⟩
    | l ts =>
      refine iteT ?_
      obtain ⟨c, cs, rfl, t, r⟩ := b2'
      have hcl := r.len
      have hts := sizes_len ts
      simp only [Val.size] at sb
      refine ⟨_, rfl, (by show 1 ≤ sizeLine; decide), fun p hp => ?_⟩
      have g1 : Fr [] H2 (upd H2 p (.tup [u])) := Fr.new hp _
      refine ⟨_, rfl, p, c, [u], cs, rfl, rfl, .of upd_same, t.fr g1, Nat.le_of_lt (smallB (by show 0 + 1 + cs.length ≤ _; omega)), fun p2 H3 g2 t2 => ?_⟩
      exact fin _ _ _ f12 e2 (g1.trans g2) (isV_l t2 ⟨u, cs, rfl, (a2.fr g1).fr g2, IsVs.fr g2 (IsVs.fr g1 r)⟩)
end
end Og

set_option Elab.async false
set_option linter.all false
set_option maxRecDepth 100000
set_option maxHeartbeats 4000000
/-! OgSem: what law_run computes, if it ends. Plain Lean. -/
namespace Og
open PySem
/-- a value small enough to be compared and joined -/
structure Bd (x : Val) : Prop where
  size : x.size ≤ 5000000
  depth : x.depth ≤ 64
mutual
def den (env : Str → Val) : Ex → Val
  | .var x => env x
  | .quo v => v
  | .ite a b c => if den env a = nil then den env c else den env b
  | .app (.pr o) as => (prim o (dens env as)).getD nil
  | .app (.fn _) as => .l (dens env as)
def dens (env : Str → Val) : List Ex → List Val
  | [] => []
  | e :: es => den env e :: dens env es
end
theorem dens_len (env : Str → Val) (es : List Ex) : (dens env es).length = es.length := by
  induction es with
  | nil => rfl
  | cons e es ih => simp [dens, ih]
mutual
def EvOk (p : Prog) (ps : List Str) (env : Str → Val) : Ex → Prop
  | .var x => x ∈ ps ∧ Bd (env x)
  | .quo v => Bd v
  | .ite a b c => EvOk p ps env a ∧ EvOk p ps env b ∧ EvOk p ps env c
  | .app (.pr o) as => as.length = o.ar ∧ EvOks p ps env as ∧ Bd ((prim o (dens env as)).getD nil)
  | .app (.fn f) as => f = "two" ∧ two ∈ p ∧ as.length = 2 ∧ EvOks p ps env as ∧ Bd (.l (dens env as)) ∧ Bd (.l (dens env as.tail))
def EvOks (p : Prog) (ps : List Str) (env : Str → Val) : List Ex → Prop
  | [] => True
  | e :: es => EvOk p ps env e ∧ EvOks p ps env es
end
mutual
theorem ev_bd {p : Prog} {ps : List Str} {env : Str → Val} : ∀ e : Ex, EvOk p ps env e → Bd (den env e)
  | .var x, h => h.2
  | .quo v, h => h
  | .ite a b c, h => by
    simp only [den]
    split
    · exact ev_bd c h.2.2
    · exact ev_bd b h.2.1
  | .app (.pr o) as, h => h.2.2
  | .app (.fn f) as, h => h.2.2.2.2.1
end
theorem ev_bds {p : Prog} {ps : List Str} {env : Str → Val} : ∀ es : List Ex, EvOks p ps env es → ∀ y ∈ dens env es, Bd y
  | [], _, y, h => by simp [dens] at h
  | e :: es, h, y, hy => by
    rcases List.mem_cons.mp (show y ∈ den env e :: dens env es from hy) with rfl | hy
    · exact ev_bd e h.1
    · exact ev_bds es h.2 y hy
inductive Tsk where
  | ev (ps : List Str) (env : Str → Val) (e : Ex)
  | go (o : Pr)
  | br (ps : List Str) (env : Str → Val) (b c : Ex)
  | call
/-- if the loop ends from (todo, found), found[0] is x -/
inductive SemR (p : Prog) (x : Val) : List Tsk → List Val → Prop
  | fin : SemR p x [] [x]
  | ev {ps env e td fd} : EvOk p ps env e → SemR p x td (fd ++ [den env e]) → SemR p x (.ev ps env e :: td) fd
  | go {o ws v td fd} : prim o ws = some v → (∀ y ∈ ws, Bd y) → SemR p x td (fd ++ [v]) → SemR p x (.go o :: td) (fd ++ ws)
  | br {ps env b c t td fd} : Bd t → EvOk p ps env b → EvOk p ps env c → SemR p x td (fd ++ [if t = nil then den env c else den env b]) → SemR p x (.br ps env b c :: td) (fd ++ [t])
  | call {a b td fd} : two ∈ p → Bd a → Bd b → Bd (.l [b]) → Bd (.l [a, b]) → SemR p x td (fd ++ [.l [a, b]]) → SemR p x (.call :: td) (fd ++ [a, b])
theorem sem_evs {p : Prog} {x : Val} {ps : List Str} {env : Str → Val} {td : List Tsk} : ∀ (es : List Ex) (fd : List Val), EvOks p ps env es → SemR p x td (fd ++ dens env es) → SemR p x (es.map (.ev ps env) ++ td) fd
  | [], fd, _, h => by
    rw [dens, List.append_nil] at h
    exact h
  | e :: es, fd, k, h => by
    refine .ev k.1 (sem_evs es _ k.2 ?_)
    rw [List.append_assoc]
    exact h
/-- env of the function two -/
def env2 (a b : Val) (x : Str) : Val := if x = "a" then a else b
theorem bd_nil : Bd nil := ⟨by decide, by decide⟩
theorem two_ok {p : Prog} {a b : Val} (ha : Bd a) (hb : Bd b) (h1 : Bd (.l [b])) (h2 : Bd (.l [a, b])) : EvOk p two.ps (env2 a b) two.body ∧ den (env2 a b) two.body = .l [a, b] := by
  have d1 : den (env2 a b) (jn (.var "b") (.quo nil)) = .l [b] := rfl
  refine ⟨⟨rfl, ⟨⟨by simp [two], ha⟩, ⟨rfl, ⟨⟨by simp [two], hb⟩, bd_nil, trivial⟩, h1⟩, trivial⟩, h2⟩, rfl⟩
end Og

set_option Elab.async false
set_option linter.all false
set_option maxRecDepth 100000
set_option maxHeartbeats 4000000
/-! OgTask: the tasks of law_run in the heap. -/
namespace Og
open PySem PySem.Spec PyProof.Rows L2
section
variable {K : PySem.W.Frag}
def EnvAt (K : PySem.W.Frag) (H : Hp) (dn : Addr) (ps : List Str) (env : Str → Val) : Prop :=
  ∃ kvs, H dn = some (.dK kvs) ∧ ∀ x ∈ ps, ∃ v, valV kvs (.inr x) = some v ∧ IsV K H (env x) v
def IsTsk (K : PySem.W.Frag) (H : Hp) : Tsk → V → Prop
  | .ev ps env e, v => ∃ a ve dn, v = .ref a ∧ TupAt K H a [.str "eval", ve, .ref dn] ∧ IsV K H e.val ve ∧ EnvAt K H dn ps env
  | .go o, v => ∃ a, v = .ref a ∧ TupAt K H a [.str "do", .str o.str]
  | .br ps env b c, v => ∃ a vb vc dn, v = .ref a ∧ TupAt K H a [.str "if", vb, vc, .ref dn] ∧ IsV K H b.val vb ∧ IsV K H c.val vc ∧ EnvAt K H dn ps env
  | .call, v => ∃ a, v = .ref a ∧ TupAt K H a [.str "call", .str "two"]
/-- only lists are written -/
def OnlyL (H : Hp) (S : List Addr) : Prop := ∀ a ∈ S, ∃ us, H a = some (.lst us)
theorem OnlyL.nil {H : Hp} : OnlyL H [] := fun _ h => by cases h
theorem OnlyL.one {H : Hp} {l : Addr} {us : List V} (h : H l = some (.lst us)) : OnlyL H [l] := fun a ha => by
  rw [List.mem_singleton.mp ha]
  exact ⟨_, h⟩
theorem OnlyL.no {H : Hp} {S : List Addr} {d : Addr} {kvs : List (Key × V)} (o : OnlyL H S) (h : H d = some (.dK kvs)) : d ∉ S := fun hd => by
  obtain ⟨us, e⟩ := o d hd
  rw [h] at e
  cases e
theorem EnvAt.fr {S : List Addr} {H H' : Hp} {dn : Addr} {ps : List Str} {env : Str → Val} (f : Fr S H H') (o : OnlyL H S) (h : EnvAt K H dn ps env) : EnvAt K H' dn ps env := by
  obtain ⟨kvs, e, g⟩ := h
  refine ⟨kvs, f.keep dn _ (o.no e) e, fun x hx => ?_⟩
  obtain ⟨v, g1, g2⟩ := g x hx
  exact ⟨v, g1, g2.fr f⟩
theorem IsTsk.fr {S : List Addr} {H H' : Hp} (f : Fr S H H') (o : OnlyL H S) : ∀ (t : Tsk) (v : V), IsTsk K H t v → IsTsk K H' t v
  | .ev _ _ _, _, ⟨a, ve, dn, e, t, i, n⟩ => ⟨a, ve, dn, e, t.fr f, i.fr f, n.fr f o⟩
  | .go _, _, ⟨a, e, t⟩ => ⟨a, e, t.fr f⟩
  | .br _ _ _ _, _, ⟨a, vb, vc, dn, e, t, i, j, n⟩ => ⟨a, vb, vc, dn, e, t.fr f, i.fr f, j.fr f, n.fr f o⟩
  | .call, _, ⟨a, e, t⟩ => ⟨a, e, t.fr f⟩
def BodAt (K : PySem.W.Frag) (H : Hp) (bd : Addr) (p : Prog) : Prop :=
  ∃ kvs, H bd = some (.dK kvs) ∧ ∀ f ∈ p, ∃ t b c, valV kvs (.inr f.name) = some (.ref t) ∧ TupAt K H t [.ref b, c] ∧ TupAt K H b (f.ps.map .str) ∧ IsV K H f.body.val c
theorem BodAt.fr {S : List Addr} {H H' : Hp} {bd : Addr} {p : Prog} (f : Fr S H H') (o : OnlyL H S) (h : BodAt K H bd p) : BodAt K H' bd p := by
  obtain ⟨kvs, e, g⟩ := h
  refine ⟨kvs, f.keep bd _ (o.no e) e, fun q hq => ?_⟩
  obtain ⟨t, b, c, g1, g2, g3, g4⟩ := g q hq
  exact ⟨t, b, c, g1, g2.fr f, g3.fr f, g4.fr f⟩
/-- todo, found, bodies -/
structure RunAt (K : PySem.W.Frag) (H0 H : Hp) (p : Prog) (bd tl fl : Addr) (td : List Tsk) (fd : List Val) (ut uf : List V) : Prop where
  fr : Fr [] H0 H
  tn : H0 tl = none
  fn : H0 fl = none
  lt : H tl = some (.lst ut)
  lf : H fl = some (.lst uf)
  tsk : All2 (IsTsk K H) td.reverse ut
  vs : IsVs K H fd uf
  bod : BodAt K H bd p
  ne : tl ≠ fl
variable {H0 H H' : Hp} {p : Prog} {bd tl fl : Addr} {td : List Tsk} {fd : List Val} {ut uf : List V}
/-- something new is made -/
theorem RunAt.new (R : RunAt K H0 H p bd tl fl td fd ut uf) (f : Fr [] H H') : RunAt K H0 H' p bd tl fl td fd ut uf :=
  ⟨R.fr.trans f, R.tn, R.fn, f.keep _ _ (by simp) R.lt, f.keep _ _ (by simp) R.lf, R.tsk.imp fun _ _ h => IsTsk.fr f .nil _ _ h, IsVs.fr f R.vs, R.bod.fr f .nil, R.ne⟩
/-- the list todo is written -/
theorem RunAt.setT (R : RunAt K H0 H p bd tl fl td fd ut uf) {td' : List Tsk} {ut' : List V} (h : All2 (IsTsk K H) td'.reverse ut') : RunAt K H0 (upd H tl (.lst ut')) p bd tl fl td' fd ut' uf := by
  have k : Fr [tl] H (upd H tl (.lst ut')) := Fr.set (List.mem_singleton.mpr rfl) R.lt (fun _ z => by cases z) _
  have o := OnlyL.one R.lt
  exact ⟨R.fr.over R.tn _, R.tn, R.fn, upd_same, k.keep _ _ (by simp [Ne.symm R.ne]) R.lf, h.imp fun _ _ h => IsTsk.fr k o _ _ h, IsVs.fr k R.vs, R.bod.fr k o, R.ne⟩
/-- .. the list found -/
theorem RunAt.setF (R : RunAt K H0 H p bd tl fl td fd ut uf) (f : Fr [fl] H H') {fd' : List Val} {uf' : List V} (e : H' fl = some (.lst uf')) (h : IsVs K H' fd' uf') : RunAt K H0 H' p bd tl fl td fd' ut uf' := by
  have o := OnlyL.one R.lf
  exact ⟨R.fr.drop f fun x hx => .inr (by rw [List.mem_singleton.mp hx]; exact R.fn), R.tn, R.fn, f.keep _ _ (by simp [R.ne]) R.lt, e, R.tsk.imp fun _ _ h => IsTsk.fr f o _ _ h, h, R.bod.fr f o, R.ne⟩
theorem RunAt.popT {t : Tsk} (R : RunAt K H0 H p bd tl fl (t :: td) fd ut uf) : ∃ ut0 v, ut = ut0 ++ [v] ∧ IsTsk K (upd H tl (.lst ut0)) t v ∧ RunAt K H0 (upd H tl (.lst ut0)) p bd tl fl td fd ut0 uf := by
  have h := R.tsk
  rw [List.reverse_cons] at h
  obtain ⟨ut0, v, rfl, h1, h2⟩ := h.last
  have k : Fr [tl] H (upd H tl (.lst ut0)) := Fr.set (List.mem_singleton.mpr rfl) R.lt (fun _ z => by cases z) _
  exact ⟨ut0, v, rfl, IsTsk.fr k (.one R.lt) _ _ h2, R.setT h1⟩
theorem RunAt.pushT (R : RunAt K H0 H p bd tl fl td fd ut uf) {t : Tsk} {v : V} (h : IsTsk K H t v) : RunAt K H0 (upd H tl (.lst (ut ++ [v]))) p bd tl fl (t :: td) fd (ut ++ [v]) uf :=
  R.setT (by rw [List.reverse_cons]; exact R.tsk.app (All2.one h))
theorem RunAt.pushF (R : RunAt K H0 H p bd tl fl td fd ut uf) {x : Val} {v : V} (h : IsV K H x v) : RunAt K H0 (upd H fl (.lst (uf ++ [v]))) p bd tl fl td (fd ++ [x]) ut (uf ++ [v]) := by
  have k : Fr [fl] H (upd H fl (.lst (uf ++ [v]))) := Fr.set (List.mem_singleton.mpr rfl) R.lf (fun _ z => by cases z) _
  exact R.setF k upd_same ((IsVs.fr k R.vs).app (IsVs.one (h.fr k)))
theorem RunAt.popF {x : Val} (R : RunAt K H0 H p bd tl fl td (fd ++ [x]) ut uf) : ∃ uf0 v, uf = uf0 ++ [v] ∧ IsV K (upd H fl (.lst uf0)) x v ∧ RunAt K H0 (upd H fl (.lst uf0)) p bd tl fl td fd ut uf0 := by
  obtain ⟨uf0, v, rfl, h1, h2⟩ := R.vs.last
  have k : Fr [fl] H (upd H fl (.lst uf0)) := Fr.set (List.mem_singleton.mpr rfl) R.lf (fun _ z => by cases z) _
  exact ⟨uf0, v, rfl, h2.fr k, R.setF k upd_same (IsVs.fr k h1)⟩
end
end Og

set_option Elab.async false
set_option linter.all false
set_option maxRecDepth 100000
set_option maxHeartbeats 4000000
/-! OgRunL: law_run: if it is done, its value is what the program computes. -/
namespace Og
open PySem PySem.Spec PyProof.Rows L2
section
variable {P : Program} {w : World} {K : PySem.W.Frag} {mg : MG} {base : Heap}
def spRun (K : PySem.W.Frag) : Sp := fun vs H Q _ => ∃ (p : Prog) (f0 : Fn) (v : V) (il : Addr) (ws : List Val) (ivs : List V), vs = [v, .ref il, .int 3000] ∧ IsP K H p v ∧ H il = some (.lst ivs) ∧ IsVs K H ws ivs ∧ p.head? = some f0 ∧ f0.ps.length = ws.length ∧ f0.ps.Nodup ∧
  (p.map Fn.name).Nodup ∧ p.length ≤ 2 ∧ ws.length ≤ 3 ∧ EvOk p f0.ps (envOf f0.ps ws) f0.body ∧
  ∀ H' a, Fr [] H H' → ((∃ v' stp, TupAt K H' a [.str "done", v', stp] ∧ IsV K H' (den (envOf f0.ps ws) f0.body) v') ∨ TupAt K H' a [.str "tired"]) → Q (.ref a) H'
theorem BodAt.fr2 {S : List Addr} {H H' : Hp} {bd : Addr} {p : Prog} (f : Fr S H H') (n : bd ∉ S) (h : BodAt K H bd p) : BodAt K H' bd p := by
  obtain ⟨kvs, e, g⟩ := h
  refine ⟨kvs, f.keep bd _ n e, fun q hq => ?_⟩
  obtain ⟨t, b, c, g1, g2, g3, g4⟩ := g q hq
  exact ⟨t, b, c, g1, g2.fr f, g3.fr f, g4.fr f⟩
theorem look_get : ∀ {ps : List Str} {vs : List Val} {j : Nat} {x : Str} {v : Val}, ps.Nodup → ps[j]? = some x → vs[j]? = some v → look ps vs x = some v
  | [], _, _, _, _, _, h, _ => by simp at h
  | _ :: _, [], _, _, _, _, _, h => by simp at h
  | p :: ps, u :: vs, 0, x, v, nd, h, g => by
    simp at h g
    subst h g
    simp [look]
  | p :: ps, u :: vs, j + 1, x, v, nd, h, g => by
    rw [List.getElem?_cons_succ] at h g
    rw [List.nodup_cons] at nd
    have ne : p ≠ x := fun e => nd.1 (by rw [e]; exact List.mem_of_getElem? h)
    simp only [look, if_neg ne]
    exact look_get nd.2 h g
/-- a dict of the first n parameters -/
def DctAt (H : Hp) (nm : Addr) (ps : List Str) (ivs : List V) (n : Nat) : Prop := ∃ kn, H nm = some (.dK kn) ∧ kn.length ≤ n ∧ ∀ j, j < n → ∀ y, ps[j]? = some y → valV kn (.inr y) = ivs[j]?
theorem DctAt.env {H : Hp} {nm : Addr} {ps : List Str} {ws : List Val} {ivs : List V} {n : Nat} (h : DctAt H nm ps ivs n) (hn : ps.length ≤ n) (nd : ps.Nodup) (hl : ps.length = ws.length) (r : IsVs K H ws ivs) : EnvAt K H nm ps (envOf ps ws) := by
  obtain ⟨kn, e, _, g⟩ := h
  refine ⟨kn, e, fun x hx => ?_⟩
  obtain ⟨j, hj⟩ := List.mem_iff_getElem?.mp hx
  have hj1 := (List.getElem?_eq_some_iff.mp hj).1
  have hw : ws[j]? = some ws[j] := List.getElem?_eq_getElem (by omega)
  obtain ⟨u, hu, hi⟩ := r.get hw
  refine ⟨u, by rw [g j (by omega) x hj, hu], ?_⟩
  unfold envOf
  rw [look_get nd hj hw]
  exact hi
theorem DctAt.put {H : Hp} {nm : Addr} {ps : List Str} {ivs : List V} {n : Nat} {x : Str} {u : V} (nd : ps.Nodup) (hx : ps[n]? = some x) (hu : ivs[n]? = some u) {kn : List (Key × V)} (kl : kn.length ≤ n) (g : ∀ j, j < n → ∀ y, ps[j]? = some y → valV kn (.inr y) = ivs[j]?) :
    DctAt (upd H nm (.dK (putK kn (Sum.inr x) u))) nm ps ivs (n + 1) := by
  refine ⟨_, upd_same, ?_, fun j hj y hy => ?_⟩
  · have := length_putK kn (Sum.inr x : Key) u
    omega
  · rw [valV_put]
    by_cases e : y = x
    · subst e
      have h5 := (List.getElem?_inj (List.getElem?_eq_some_iff.mp hy).1 nd).mp (hy.trans hx.symm)
      rw [if_pos rfl, h5, hu]
    · rw [if_neg fun z => e (Sum.inr.inj z)]
      refine g j ?_ y hy
      rcases Nat.lt_or_ge j n with h | h
      · exact h
      · have : j = n := by omega
        subst this
        rw [hx] at hy
        exact absurd (Option.some.inj hy).symm e
theorem RunAt.newF {H0 H : Hp} {p : Prog} {bd tl fl fl2 : Addr} {td : List Tsk} {fd fd2 : List Val} {ut uf uf2 : List V} (R : RunAt K H0 H p bd tl fl td fd ut uf) (h : H fl2 = none) (hv : IsVs K H fd2 uf2) : RunAt K H0 (upd H fl2 (.lst uf2)) p bd tl fl2 td fd2 ut uf2 := by
  have k : Fr [] H (upd H fl2 (.lst uf2)) := Fr.new h _
  exact ⟨R.fr.trans k, R.tn, R.fr.free (by simp) h, k.keep _ _ (by simp) R.lt, upd_same, R.tsk.imp fun _ _ h => IsTsk.fr k .nil _ _ h, hv.fr k, R.bod.fr k .nil, fun z => by rw [← z, R.lt] at h; cases h⟩
theorem two_ev {p : Prog} {a b : Val} (ha : Bd a) (hb : Bd b) (h1 : Bd (.l [b])) (h2 : Bd (.l [a, b])) : EvOk p two.ps (envOf two.ps [a, b]) two.body ∧ den (envOf two.ps [a, b]) two.body = .l [a, b] := by
  have ea : envOf two.ps [a, b] "a" = a := by kernel_rfl
  have eb : envOf two.ps [a, b] "b" = b := by kernel_rfl
  have d1 : den (envOf two.ps [a, b]) (jn (.var "b") (.quo nil)) = .l [b] := by
    show vjoin (envOf two.ps [a, b] "b") nil = _
    rw [eb]; rfl
  have d2 : den (envOf two.ps [a, b]) two.body = .l [a, b] := by
    show vjoin (envOf two.ps [a, b] "a") (den (envOf two.ps [a, b]) (jn (.var "b") (.quo nil))) = _
    rw [ea, d1]; rfl
  refine ⟨⟨rfl, ⟨⟨by simp [two], by rw [ea]; exact ha⟩, ⟨rfl, ⟨⟨by simp [two], by rw [eb]; exact hb⟩, bd_nil, trivial⟩, ?_⟩, trivial⟩, ?_⟩, d2⟩
  · show Bd (den (envOf two.ps [a, b]) (jn (.var "b") (.quo nil)))
    rw [d1]; exact h1
  · show Bd (den (envOf two.ps [a, b]) two.body)
    rw [d2]; exact h2
/-- between two turns -/
def PvRun (K : PySem.W.Frag) (H0 : Hp) (p : Prog) (x : Val) (v : V) (il bd tl : Addr) (i : Nat) (σ : L2.St) (H : Hp) : Prop :=
  ∃ (x4 x5 x6 x7 x8 x12 x13 x14 x15 x16 : Option V) (fl : Addr) (n : Int) (td : List Tsk) (fd : List Val) (ut uf : List V), σ = [some v, some (.ref il), some (.int 3000), some (.ref bd), x4, x5, x6, x7, x8, some (.ref tl), some (.ref fl), some (.int n), x12, x13, x14, x15, x16] ∧
    RunAt K H0 H p bd tl fl td fd ut uf ∧ SemR p x td fd ∧ td.length ≤ 3 * i + 1 ∧ fd.length ≤ i
theorem sc_law_run : FnScope ["_law_program", "_law_inputs", "_law_limit", "_law_bodies", "_law_name", "_law_parameters", "_law_body", "_law_names", "_law_k", "_law_todo", "_law_found", "_law_steps", "_law_turn", "_law_task", "_law_branch", "_law_one", "_law_word"] ["_law_program", "_law_inputs", "_law_limit"] (defScope s_law_run) := ⟨rfl, rfl, rfl, by decide +kernel, rfl, by decide +kernel, by decide +kernel⟩
theorem ok_run (F : Fg K mg "_law_run" s_law_run) (B : Bn mg) (D__law_do : Df P w K mg base "_law_do" ["_law_word", "_law_found"] 1 (spDo K)) : Df P w K mg base "_law_run" ["_law_program", "_law_inputs", "_law_limit"] 2 (spRun K) := by
  refine Df.of F sc_law_run (fun _ _ _ _ _ _ us hl => match us, hl with | [_, _, _], _ => rfl) (fun vs H Q E h => ?_) (fun f cdv A outer s H vs Q E hr h => ?_)
  · obtain ⟨_, _, _, _, _, _, rfl, _⟩ := h
    rfl
  obtain ⟨p, f0, v, il, ws, ivs, rfl, hv, hil, hivs, hhd, hpl, hnd, hnn, hpz, hwz, hev, q⟩ := h
  have hu := hu_of hr
  have nd := sc_law_run.nd
  refine ⟨_, (pss_cons (ps_set (i := 3) nd rfl (.inl rfl) pe_dnewK)
    (pss_cons (ps_for PassesOwn.never rfl (pi_tup (pv 0)) (pg_tup rfl (pgs_cons (pg_name (i := 4) nd rfl (.inl rfl)) (pgs_cons (pg_name (i := 5) nd rfl (.inl rfl)) (pgs_cons (pg_name (i := 6) nd rfl (.inl rfl)) pgs_nil))))
      (pss_one (ps_dput hu (pv 3) (pv 4) (pe_tup (pa_cons (pv 5) (pa_cons (pv 6) pa_nil))) rfl)))
    (pss_cons (ps_set (i := 7) nd rfl (.inl rfl) pe_dnewK)
    (pss_cons (ps_for PassesOwn.never rfl (pi_range1 (by rfl) B.range (pa_cons (pe_callB call_len_seq (by rfl) B.len bLen (pa_cons (pv 1) pa_nil)) pa_nil)) (pg_name (i := 8) nd rfl (.inl rfl))
      (pss_one (ps_dput hu (pv 7) (pe_ix ix_tup (pe_ix ix_tup (pe_ix ix_tup (pv 0) pe_int (fun _ _ => rfl)) pe_int (fun _ _ => rfl)) (pv 8) (fun _ _ => rfl)) (pe_ix ix_list (pv 1) (pv 8) (fun _ _ => rfl)) rfl)))
    (pss_cons (ps_set (i := 9) nd rfl (.inl rfl) (pe_lst (pa_cons (pe_tup (pa_cons pe_str (pa_cons (pe_ix ix_tup (pe_ix ix_tup (pv 0) pe_int (fun _ _ => rfl)) pe_int (fun _ _ => rfl)) (pa_cons (pv 7) pa_nil)))) pa_nil)))
    (pss_cons (ps_set (i := 10) nd rfl (.inl rfl) (pe_lst pa_nil))
    (pss_cons (ps_set (i := 11) nd rfl (.inl rfl) pe_int)
    (pss_cons (ps_for PassesOwn.never rfl (pi_range1 (by rfl) B.range (pa_cons (pe_op op_add (pe_op op_mul pe_int (pv 2)) pe_int) pa_nil)) (pg_name (i := 12) nd rfl (.inl rfl))
      (pss_cons (ps_if (pt_cmpR op_eq (pe_callB call_len_seq (by rfl) B.len bLen (pa_cons (pv 9) pa_nil)) pe_int (nomark _))
        (pss_one (ps_ret (pe_tup (pa_cons pe_str (pa_cons (pe_ix ix_list (pv 10) pe_int (fun _ _ => rfl)) (pa_cons (pv 11) pa_nil))))))
        pss_nil)
      (pss_cons (ps_set (i := 13) nd rfl (.inl rfl) (pe_bm0 PySem.F.plainAttrs_list PySem.F.slot_list_pop PySem.F.type_list_pop mt_pop (pv 9)))
      (pss_one (ps_if (pt_cmpR op_eq (pe_ix ix_tup (pv 13) pe_int (fun _ _ => rfl)) pe_str (nomark _))
        (pss_one (ps_expr (pe_bm PySem.F.plainAttrs_list PySem.F.slot_list_append PySem.F.type_list_append mt_append (pv 10) (pa_cons (pe_cf D__law_do (hr.mono (by decide)) (pa_cons (pe_ix ix_tup (pv 13) pe_int (fun _ _ => rfl)) (pa_cons (pv 10) pa_nil))) pa_nil))))
        (pss_one (ps_if (pt_cmpR op_eq (pe_ix ix_tup (pv 13) pe_int (fun _ _ => rfl)) pe_str (nomark _))
          (pss_cons (ps_set (i := 14) nd rfl (.inl rfl) (pe_ix ix_tup (pv 13) pe_int (fun _ _ => rfl)))
          (pss_cons (ps_if (pt_cmpR (op_eqW hr.units) (pe_bm0 PySem.F.plainAttrs_list PySem.F.slot_list_pop PySem.F.type_list_pop mt_pop (pv 10)) (pe_tup pa_nil) (nomark _))
            (pss_one (ps_set (i := 14) nd rfl (.inl rfl) (pe_ix ix_tup (pv 13) pe_int (fun _ _ => rfl))))
            pss_nil)
          (pss_one (ps_expr (pe_bm PySem.F.plainAttrs_list PySem.F.slot_list_append PySem.F.type_list_append mt_append (pv 9) (pa_cons (pe_tup (pa_cons pe_str (pa_cons (pv 14) (pa_cons (pe_ix ix_tup (pv 13) pe_int (fun _ _ => rfl)) pa_nil)))) pa_nil))))))
          (pss_one (ps_if (pt_cmpR op_eq (pe_ix ix_tup (pv 13) pe_int (fun _ _ => rfl)) pe_str (nomark _))
            (pss_cons (ps_asg (pe_dget hu (pv 3) (pe_ix ix_tup (pv 13) pe_int (fun _ _ => rfl)) (fun _ _ => rfl)) (pg_tup rfl (pgs_cons (pg_name (i := 5) nd rfl (.inl rfl)) (pgs_cons (pg_name (i := 6) nd rfl (.inl rfl)) pgs_nil))))
            (pss_cons (ps_set (i := 7) nd rfl (.inl rfl) pe_dnewK)
            (pss_cons (ps_for PassesOwn.never rfl (pi_range1 (by rfl) B.range (pa_cons (pe_callB call_len_seq (by rfl) B.len bLen (pa_cons (pv 5) pa_nil)) pa_nil)) (pg_name (i := 8) nd rfl (.inl rfl))
              (pss_one (ps_dput hu (pv 7) (pe_ix ix_tup (pv 5) (pv 8) (fun _ _ => rfl)) (pe_ix ix_list (pv 10) (pe_op op_add (pe_op op_sub (pe_callB call_len_seq (by rfl) B.len bLen (pa_cons (pv 10) pa_nil)) (pe_callB call_len_seq (by rfl) B.len bLen (pa_cons (pv 5) pa_nil))) (pv 8)) (fun _ _ => rfl)) rfl)))
            (pss_cons (ps_set (i := 10) nd rfl (.inl rfl) (pe_slice sl_list (pv 10) po_none (po_some (pe_op op_sub (pe_callB call_len_seq (by rfl) B.len bLen (pa_cons (pv 10) pa_nil)) (pe_callB call_len_seq (by rfl) B.len bLen (pa_cons (pv 5) pa_nil))))))
            (pss_one (ps_expr (pe_bm PySem.F.plainAttrs_list PySem.F.slot_list_append PySem.F.type_list_append mt_append (pv 9) (pa_cons (pe_tup (pa_cons pe_str (pa_cons (pv 6) (pa_cons (pv 7) pa_nil)))) pa_nil))))))))
            (pss_cons (ps_if (pt_cmpR op_eq (pv 11) (pv 2) (nomark _))
              (pss_one (ps_ret (pe_tup (pa_cons pe_str pa_nil))))
              pss_nil)
            (pss_cons (ps_set (i := 11) nd rfl (.inl rfl) (pe_op op_add (pv 11) pe_int))
            (pss_cons (ps_par (i := 15) (j := 7) (by rfl) nd rfl rfl (by decide) rfl rfl (pa_cons (pe_ix ix_tup (pv 13) pe_int (fun _ _ => rfl)) (pa_cons (pe_ix ix_tup (pv 13) pe_int (fun _ _ => rfl)) pa_nil)) (by rfl))
            (pss_one (ps_if (pt_val (pe_isS2 B (pv 15)))
              (pss_one (ps_expr (pe_bm PySem.F.plainAttrs_list PySem.F.slot_list_append PySem.F.type_list_append mt_append (pv 10) (pa_cons (pe_dget hu (pv 7) (pv 15) (fun _ _ => rfl)) pa_nil))))
              (pss_one (ps_if (pt_cmpR op_eq (pe_ix ix_tup (pv 15) pe_int (fun _ _ => rfl)) pe_str (nomark _))
                (pss_one (ps_expr (pe_bm PySem.F.plainAttrs_list PySem.F.slot_list_append PySem.F.type_list_append mt_append (pv 10) (pa_cons (pe_ix ix_tup (pv 15) pe_int (fun _ _ => rfl)) pa_nil))))
                (pss_one (ps_if (pt_cmpR op_eq (pe_ix ix_tup (pv 15) pe_int (fun _ _ => rfl)) pe_str (nomark _))
                  (pss_cons (ps_expr (pe_bm PySem.F.plainAttrs_list PySem.F.slot_list_append PySem.F.type_list_append mt_append (pv 9) (pa_cons (pe_tup (pa_cons pe_str (pa_cons (pe_ix ix_tup (pv 15) pe_int (fun _ _ => rfl)) (pa_cons (pe_ix ix_tup (pv 15) pe_int (fun _ _ => rfl)) (pa_cons (pv 7) pa_nil))))) pa_nil)))
                  (pss_one (ps_expr (pe_bm PySem.F.plainAttrs_list PySem.F.slot_list_append PySem.F.type_list_append mt_append (pv 9) (pa_cons (pe_tup (pa_cons pe_str (pa_cons (pe_ix ix_tup (pv 15) pe_int (fun _ _ => rfl)) (pa_cons (pv 7) pa_nil)))) pa_nil)))))
                  (pss_cons (ps_set (i := 16) nd rfl (.inl rfl) pe_str)
                  (pss_cons (ps_if (pt_cmpR op_in_seq (pe_ix ix_tup (pv 15) pe_int (fun _ _ => rfl)) (pe_lst (pa_cons pe_str (pa_cons pe_str (pa_cons pe_str (pa_cons pe_str (pa_cons pe_str pa_nil)))))) (by rfl))
                    (pss_one (ps_set (i := 16) nd rfl (.inl rfl) pe_str))
                    pss_nil)
                  (pss_cons (ps_expr (pe_bm PySem.F.plainAttrs_list PySem.F.slot_list_append PySem.F.type_list_append mt_append (pv 9) (pa_cons (pe_tup (pa_cons (pv 16) (pa_cons (pe_ix ix_tup (pv 15) pe_int (fun _ _ => rfl)) pa_nil))) pa_nil)))
                  (pss_one (ps_for PassesOwn.never rfl (pi_range1 (by rfl) B.range (pa_cons (pe_op op_sub (pe_callB call_len_seq (by rfl) B.len bLen (pa_cons (pv 15) pa_nil)) pe_int) pa_nil)) (pg_name (i := 8) nd rfl (.inl rfl))
                    (pss_one (ps_expr (pe_bm PySem.F.plainAttrs_list PySem.F.slot_list_append PySem.F.type_list_append mt_append (pv 9) (pa_cons (pe_tup (pa_cons pe_str (pa_cons (pe_ix ix_tup (pv 15) (pe_op op_sub (pe_op op_sub (pe_callB call_len_seq (by rfl) B.len bLen (pa_cons (pv 15) pa_nil)) pe_int) (pv 8)) (fun _ _ => rfl)) (pa_cons (pv 7) pa_nil)))) pa_nil)))))))))))))))))))))))))))
    (pss_one (ps_ret (pe_tup (pa_cons pe_str pa_nil)))))))))))), ?_⟩
  obtain ⟨pa, us, rfl, tp, hus⟩ := hv
  have hl := hus.len
  have hul : ivs.length = ws.length := hivs.len
  -- bodies
  refine fun bd hbd => ?_
  have f1 : Fr [] H (upd H bd (.dK [])) := Fr.new hbd _
  refine ⟨_, rfl, pa, rfl, ⟨_, (tp.fr f1).sq⟩, for_tup (K := K) (a := pa) (xs := us) (fun i σ H' => ∃ x4 x5 x6 kn, σ = [some (.ref pa), some (.ref il), some (.int 3000), some (.ref bd), x4, x5, x6, none, none, none, none, none, none, none, none, none, none] ∧ Fr [] H H' ∧ H' bd = some (.dK kn) ∧ kn.length ≤ i ∧
      ∀ f ∈ p.take i, ∃ t b c, valV kn (.inr f.name) = some (.ref t) ∧ TupAt K H' t [.ref b, c] ∧ TupAt K H' b (f.ps.map .str) ∧ IsV K H' f.body.val c)
    ⟨none, none, none, [], rfl, f1, upd_same, Nat.le_refl _, fun x hx => by simp at hx⟩ (fun i σ H' _ ⟨_, _, _, _, _, f, _⟩ => (tp.fr f).sq) ?_ ?_⟩
  · rintro i x σ H' hx ⟨x4, x5, x6, kn, rfl, f, e2, e3, e4⟩
    obtain ⟨fn, hfn, hfv⟩ := hus.get' hx
    obtain ⟨b, c, bo, rfl, t1, t2, hb⟩ := hfv.fr f
    have hi : i < us.length := (List.getElem?_eq_some_iff.mp hx).1
    refine ⟨b, _, rfl, t1.sq, rfl, _, _, rfl, _, _, rfl, _, _, rfl, rfl, ?_⟩
    have hbd0 : H bd = none := hbd
    refine ⟨_, rfl, _, rfl, (by show 2 ≤ sizeLine; decide), fun T hT => ?_⟩
    have k1 : Fr [] H' (upd H' T (.tup [.ref c, bo])) := Fr.new hT _
    have e5 := k1.keep bd _ (by simp) e2
    have eT : TupAt K (upd H' T (.tup [.ref c, bo])) T [.ref c, bo] := .of upd_same
    generalize upd H' T (.tup [.ref c, bo]) = H2 at *
    refine ⟨_, rfl, _, rfl, bd, _, rfl, DPut.k (k := Sum.inr fn.name) e5 (smallB (by omega)), ?_⟩
    have k2 : Fr [bd] H2 (upd H2 bd (.dK (putK kn (Sum.inr fn.name) (.ref T)))) := Fr.set (List.mem_singleton.mpr rfl) e5 (fun _ z => by cases z) _
    refine ⟨_, _, _, _, rfl, (f.trans k1).over hbd0 _, upd_same, ?_, fun g hg => ?_⟩
    · have := length_putK kn (Sum.inr fn.name : Key) (V.ref T)
      omega
    · rw [List.take_add_one, hfn] at hg
      by_cases eg : g.name = fn.name
      · have gf : g = fn := by
          have h1 : g ∈ p := by
            rcases List.mem_append.mp hg with hg | hg
            · exact List.mem_of_mem_take hg
            · simp at hg; rw [hg]; exact List.mem_of_getElem? hfn
          obtain ⟨i1, h2⟩ := List.mem_iff_getElem?.mp h1
          have h3 : (p.map Fn.name)[i1]? = some fn.name := by rw [List.getElem?_map, h2]; simp [eg]
          have h4 : (p.map Fn.name)[i]? = some fn.name := by rw [List.getElem?_map, hfn]; rfl
          have h5 := (List.getElem?_inj (List.getElem?_eq_some_iff.mp h3).1 hnn).mp (h3.trans h4.symm)
          rw [h5, hfn] at h2
          exact (Option.some.inj h2).symm
        subst gf
        exact ⟨T, c, bo, by rw [valV_put, if_pos rfl], eT.fr k2, (t2.tup.fr k1).fr k2, (hb.fr k1).fr k2⟩
      · rcases List.mem_append.mp hg with hg | hg
        · obtain ⟨t', b', c', g1, g2, g3, g4⟩ := e4 g hg
          exact ⟨t', b', c', by rw [valV_put, if_neg fun z => eg (Sum.inr.inj z)]; exact g1, (g2.fr k1).fr k2, (g3.fr k1).fr k2, (g4.fr k1).fr k2⟩
        · simp at hg
          exact absurd (by rw [hg]) eg
  · rintro σ H1 ⟨x4, x5, x6, kn, rfl, fH1, e2, e3, e4⟩
    rw [hl, List.take_length] at e4
    refine fun nm hnm => ?_
    have bod : BodAt K H1 bd p := ⟨kn, e2, e4⟩
    have k1 : Fr [] H1 (upd H1 nm (.dK [])) := Fr.new hnm _
    have en : upd H1 nm (.dK []) nm = some (.dK []) := upd_same
    have bod2 := bod.fr k1 .nil
    have fH2 := fH1.trans k1
    have nm0 : H nm = none := fH1.free (by simp) hnm
    have nb : nm ≠ bd := fun z => by rw [z, e2] at hnm; cases hnm
    generalize upd H1 nm (.dK []) = H2 at *
    have hil2 := fH2.keep il _ (by simp) hil
    -- the main function
    obtain ⟨u0, us', e0, hu0, hus'⟩ : ∃ u0 us', us = u0 :: us' ∧ IsF K H f0 u0 ∧ True := by
      cases p with
      | nil => cases hhd
      | cons f1 p =>
        obtain ⟨u0, us', e, h1, h2⟩ := hus
        have : f1 = f0 := Option.some.inj hhd
        subst this
        exact ⟨u0, us', e, h1, trivial⟩
    obtain ⟨ma, mb, mc, rfl, mt1, mt2, mh⟩ := hu0
    have tp0 : TupAt K H pa (.ref ma :: us') := by rw [← e0]; exact tp
    refine ⟨_, rfl, il, _, rfl, .inl (.of hil2), (ivs.length : Int), rfl, by omega, by omega, for_range (lo := 0) (n := ivs.length) (fun i σ H' => ∃ x4 x5 x6 x8, σ = [some (.ref pa), some (.ref il), some (.int 3000), some (.ref bd), x4, x5, x6, some (.ref nm), x8, none, none, none, none, none, none, none, none] ∧ Fr [] H H' ∧ BodAt K H' bd p ∧ DctAt H' nm f0.ps ivs i)
      ⟨x4, x5, x6, none, rfl, fH2, bod2, [], en, Nat.le_refl _, fun j hj => by omega⟩ ?_ ?_⟩
    · rintro i σ H' hi ⟨x4, x5, x6, x8, rfl, f, hb, kn, e5, e6, e7⟩
      have hx : f0.ps[i]? = some f0.ps[i] := List.getElem?_eq_getElem (by omega)
      have hxs : (f0.ps.map V.str)[i]? = some (.str f0.ps[i]) := by rw [List.getElem?_map, hx]; rfl
      have hu : ivs[i]? = some ivs[i] := List.getElem?_eq_getElem (by omega)
      have z0 : (0 : Int) + (i : Int) = (i : Int) := Int.zero_add _
      refine ⟨_, rfl, _, rfl, il, _, _, ivs[i], rfl, rfl, .of (f.keep il _ (by simp) hil), (by rw [z0]; exact atI_nat hu), ?_⟩
      refine ⟨_, rfl, _, rfl, pa, _, 0, _, rfl, rfl, (tp0.fr f).sq, at0, ma, _, 1, _, rfl, rfl, (mt1.fr f).sq, atI_nat (j := 1) rfl, _, rfl, mb, _, _, .str f0.ps[i], rfl, rfl, (mt2.tup.fr f).sq, (by rw [z0]; exact atI_nat hxs), ?_⟩
      refine ⟨nm, _, rfl, DPut.k (k := Sum.inr f0.ps[i]) e5 (smallB (by omega)), ?_⟩
      have k2 : Fr [nm] H' (upd H' nm (.dK (putK kn (Sum.inr f0.ps[i]) ivs[i]))) := Fr.set (List.mem_singleton.mpr rfl) e5 (fun _ z => by cases z) _
      exact ⟨x4, x5, x6, _, rfl, f.over nm0 _, hb.fr2 k2 (by simp [Ne.symm nb]), DctAt.put hnd hx hu e6 e7⟩
    · rintro σ H3 ⟨x4, x5, x6, x8, rfl, fH3, bod3, dct⟩
      have env3 : EnvAt K H3 nm f0.ps (envOf f0.ps ws) := dct.env (by omega) hnd hpl (hivs.fr fH3)
      refine ⟨_, rfl, pa, _, 0, _, rfl, rfl, (tp0.fr fH3).sq, at0, ma, _, 2, _, rfl, rfl, (mt1.fr fH3).sq, atI_nat (j := 2) rfl, _, rfl, (by show 3 ≤ sizeLine; decide), fun T hT => ?_⟩
      have k3 : Fr [] H3 (upd H3 T (.tup [.str "eval", mc, .ref nm])) := Fr.new hT _
      have eT : TupAt K (upd H3 T (.tup [.str "eval", mc, .ref nm])) T [.str "eval", mc, .ref nm] := .of upd_same
      have fH4 := fH3.trans k3
      have bod4 := bod3.fr k3 .nil
      have env4 := env3.fr k3 .nil
      generalize upd H3 T (.tup [.str "eval", mc, .ref nm]) = H4 at *
      refine ⟨(by show 1 ≤ sizeLine; decide), fun tl htl => ?_⟩
      have k4 : Fr [] H4 (upd H4 tl (.lst [.ref T])) := Fr.new htl _
      have fH5 := fH4.trans k4
      have tl0 : H tl = none := fH4.free (by simp) htl
      have etl : upd H4 tl (.lst [.ref T]) tl = some (.lst [.ref T]) := upd_same
      have eT5 := eT.fr k4
      have bod5 := bod4.fr k4 .nil
      have env5 := env4.fr k4 .nil
      generalize upd H4 tl (.lst [.ref T]) = H5 at *
      refine ⟨(by show 0 ≤ sizeLine; decide), fun fl hfl => ?_⟩
      have k5 : Fr [] H5 (upd H5 fl (.lst [])) := Fr.new hfl _
      have fH6 := fH5.trans k5
      have fl0 : H fl = none := fH5.free (by simp) hfl
      have nf : tl ≠ fl := fun z => by rw [z, hfl] at etl; cases etl
      have R0 : RunAt K H (upd H5 fl (.lst [])) p bd tl fl [.ev f0.ps (envOf f0.ps ws) f0.body] [] [.ref T] [] :=
        ⟨fH6, tl0, fl0, k5.keep _ _ (by simp) etl, upd_same, All2.one ⟨T, mc, nm, rfl, eT5.fr k5, mh.fr fH6, env5.fr k5 .nil⟩, rfl, bod5.fr k5 .nil, nf⟩
      generalize upd H5 fl (.lst []) = H6 at *
      have S0 : SemR p (den (envOf f0.ps ws) f0.body) [.ev f0.ps (envOf f0.ps ws) f0.body] [] := .ev hev .fin
      generalize den (envOf f0.ps ws) f0.body = x at *
      refine ⟨_, rfl, 4, 3000, rfl, rfl, .inr ⟨by decide, by decide⟩, _, 4, rfl, rfl, 12004, rfl, by decide, by decide, for_range (lo := 0) (n := 12004) (PvRun K H p x (.ref pa) il bd tl)
        ⟨_, _, _, _, _, _, _, _, _, _, fl, 0, _, _, _, _, rfl, R0, S0, by simp, by simp⟩ ?_ ?_⟩
      · rintro i σ H7 hi ⟨x4, x5, x6, x7, x8, x12, x13, x14, x15, x16, fl, n, td, fd, ut, uf, rfl, R, S, hl1, hl2⟩
        have z0 : (0 : Int) + (i : Int) = (i : Int) := Int.zero_add _
        have hutl := R.tsk.len
        rw [List.length_reverse] at hutl
        have hufl := R.vs.len
        refine ⟨_, rfl, tl, _, rfl, .inl (.of R.lt), rfl, _, rfl, ?_⟩
        cases td with
        | nil =>
          rw [decide_eq_true (show V.int (ut.length : Nat) = V.int 0 by rw [hutl]; rfl)]
          refine iteT ?_
          cases S
          obtain ⟨u, rfl, hu⟩ := IsVs.one_inv R.vs
          refine ⟨_, rfl, fl, _, 0, u, rfl, rfl, .of R.lf, at0, _, rfl, (by show 3 ≤ sizeLine; decide), fun T2 hT2 => ?_⟩
          have k2 : Fr [] H7 (upd H7 T2 (.tup [.str "done", u, .int n])) := Fr.new hT2 _
          exact q _ T2 (R.fr.trans k2) (.inl ⟨u, _, .of upd_same, hu.fr k2⟩)
        | cons t td =>
          rw [decide_eq_false (by rw [hutl, List.length_cons]; intro z; injection z with z; omega)]
          refine iteF ?_
          obtain ⟨ut, tv, rfl, ht, R1⟩ := R.popT
          refine ⟨_, rfl, .inl ⟨rfl, _, .of R.lt⟩, tl, _, _, rfl, rfl, R.lt, pop_at _ _, ?_⟩
          rw [List.dropLast_concat]
          simp only [List.length_cons] at hl1 hutl
          rw [List.length_append, List.length_singleton] at hutl
          clear R
          generalize upd H7 tl (.lst ut) = H8 at *
          have nf := R1.ne
          cases t with
          | go o =>
            obtain ⟨ta, rfl, tt⟩ := ht
            refine ⟨_, rfl, ta, _, 0, _, rfl, rfl, tt.sq, at0, rfl, _, rfl, ?_⟩
            rw [seq rfl]
            refine iteT ?_
            cases S with
            | @go _ ws2 x2 _ fd hp hb S =>
            obtain ⟨us2, wv, rfl, hus2, hwv⟩ := R1.vs.split
            refine ⟨_, rfl, .inl ⟨rfl, _, .of R1.lf⟩, _, rfl, ta, _, 1, _, rfl, rfl, tt.sq, atI_nat (j := 1) rfl, _, rfl, ?_⟩
            refine ⟨o, fl, us2, wv, ws2, x2, rfl, R1.lf, hwv, hp, fun y hy => (hb y hy).depth, fun y hy => (hb y hy).size, fun H9 r f9 e9 hr9 => ?_⟩
            have R2 := R1.setF f9 e9 (hus2.fr f9)
            have hul2 := hus2.len
            have hwl2 := hwv.len
            rw [List.length_append] at hl2
            refine ⟨fl, us2, _, rfl, rfl, e9, smallB (by omega), ?_⟩
            exact ⟨_, _, _, _, _, _, _, _, _, _, fl, n, td, fd ++ [x2], ut, _, rfl, R2.pushF hr9, S, by omega, by rw [List.length_append, List.length_singleton]; omega⟩
          | br ps env b c =>
            obtain ⟨ta, vb, vc, dn, rfl, tt, hb, hc, he⟩ := ht
            refine ⟨_, rfl, ta, _, 0, _, rfl, rfl, tt.sq, at0, rfl, _, rfl, ?_⟩
            rw [sne (show ("if" : Str) ≠ "do" by decide)]
            refine iteF ?_
            refine ⟨_, rfl, ta, _, 0, _, rfl, rfl, tt.sq, at0, rfl, _, rfl, ?_⟩
            rw [seq rfl]
            refine iteT ?_
            cases S with
            | @br _ _ _ _ tv _ fd bt kb kc S =>
            obtain ⟨uf0, u, rfl, hu, R2⟩ := R1.popF
            have hlf := R1.lf
            have k2 : Fr [fl] H8 (upd H8 fl (.lst uf0)) := Fr.set (List.mem_singleton.mpr rfl) R1.lf (fun _ z => by cases z) _
            have o2 := OnlyL.one R1.lf
            have tt2 := tt.fr k2
            have hb2 := hb.fr k2
            have hc2 := hc.fr k2
            have he2 := he.fr k2 o2
            refine ⟨_, rfl, ta, _, 1, _, rfl, rfl, tt.sq, atI_nat (j := 1) rfl, ?_⟩
            refine ⟨_, rfl, .inl ⟨rfl, _, .of hlf⟩, fl, _, _, rfl, rfl, hlf, pop_at _ _, ?_⟩
            rw [List.dropLast_concat]
            clear R1 k2 o2
            generalize upd H8 fl (.lst uf0) = H9 at *
            refine ⟨(by show 0 ≤ sizeLine; decide), fun T hT => ?_⟩
            have k3 : Fr [] H9 (upd H9 T (.tup [])) := Fr.new hT _
            have eT : IsV K (upd H9 T (.tup [])) nil (.ref T) := isV_l (.of upd_same) rfl
            have R3 := R2.new k3
            have tt3 := tt2.fr k3
            have hb3 := hb2.fr k3
            have hc3 := hc2.fr k3
            have he3 := he2.fr k3 .nil
            have hu3 := hu.fr k3
            generalize upd H9 T (.tup []) = H10 at *
            rw [List.length_append, List.length_singleton] at hl2
            refine ⟨tv, nil, hu3, eT, by have : Val.depth nil = 1 := rfl; omega, _, rfl, ?_⟩
            have push : ∀ (vx : V) (e : Ex), IsV K H10 e.val vx → EvOk p ps env e → SemR p x td (fd ++ [den env e]) → ∀ H11 T3, H10 T3 = none → H11 = upd H10 T3 (.tup [.str "eval", vx, .ref dn]) → ∃ l us y, V.ref tl = V.ref l ∧ [V.ref T3] = [y] ∧ H11 l = some (.lst us) ∧ us.length < sizeLine ∧
                PvRun K H p x (.ref pa) il bd tl (i + 1) [some (.ref pa), some (.ref il), some (.int 3000), some (.ref bd), x4, x5, x6, x7, x8, some (.ref tl), some (.ref fl), some (.int n), some (.int (0 + (i : Int))), some (.ref ta), some vx, x15, x16] (upd H11 l (.lst (us ++ [y]))) := fun vx e hx ke Se H11 T3 hT3 eH => by
              subst eH
              have k4 : Fr [] H10 (upd H10 T3 (.tup [.str "eval", vx, .ref dn])) := Fr.new hT3 _
              have R4 := R3.new k4
              refine ⟨tl, _, _, rfl, rfl, R4.lt, smallB (by omega), ?_⟩
              exact ⟨_, _, _, _, _, _, _, _, _, _, fl, n, .ev ps env e :: td, fd, _, uf0, rfl, R4.pushT (t := .ev ps env e) (v := .ref T3) ⟨T3, vx, dn, rfl, .of upd_same, hx.fr k4, he3.fr k4 .nil⟩, .ev ke Se, by simp only [List.length_cons]; omega, by omega⟩
            by_cases tn : tv = nil
            · rw [if_pos tn] at S
              rw [decide_eq_true tn]
              refine iteT ?_
              refine ⟨_, rfl, ta, _, 2, _, rfl, rfl, tt3.sq, atI_nat (j := 2) rfl, ?_⟩
              refine ⟨_, rfl, .inl ⟨rfl, _, .of R3.lt⟩, _, rfl, _, rfl, ta, _, 3, _, rfl, rfl, tt3.sq, atI_nat (j := 3) rfl, (by show 3 ≤ sizeLine; decide), fun T3 hT3 => ?_⟩
              exact push vc c hc3 kc S _ T3 hT3 rfl
            · rw [if_neg tn] at S
              rw [decide_eq_false tn]
              refine iteF ?_
              refine ⟨_, rfl, .inl ⟨rfl, _, .of R3.lt⟩, _, rfl, _, rfl, ta, _, 3, _, rfl, rfl, tt3.sq, atI_nat (j := 3) rfl, (by show 3 ≤ sizeLine; decide), fun T3 hT3 => ?_⟩
              exact push vb b hb3 kb S _ T3 hT3 rfl
          | call =>
            obtain ⟨ta, rfl, tt⟩ := ht
            refine ⟨_, rfl, ta, _, 0, _, rfl, rfl, tt.sq, at0, rfl, _, rfl, ?_⟩
            rw [sne (show ("call" : Str) ≠ "do" by decide)]
            refine iteF ?_
            refine ⟨_, rfl, ta, _, 0, _, rfl, rfl, tt.sq, at0, rfl, _, rfl, ?_⟩
            rw [sne (show ("call" : Str) ≠ "if" by decide)]
            refine iteF ?_
            refine ⟨_, rfl, ta, _, 0, _, rfl, rfl, tt.sq, at0, rfl, _, rfl, ?_⟩
            rw [seq rfl]
            refine iteT ?_
            cases S with
            | @call a b _ fd h2 ba bb b1 b2 S =>
            have bod8 := R1.bod
            obtain ⟨kvs, eb, gb⟩ := bod8
            obtain ⟨t, bp, c, g1, g2, g3, g4⟩ := gb two h2
            obtain ⟨uf0, uw, rfl, hu0, hu2⟩ := R1.vs.split
            obtain ⟨u1, _, rfl, hua, hub⟩ := hu2
            obtain ⟨u2, rfl, hub1⟩ := IsVs.one_inv hub
            have hul := hu0.len
            refine ⟨_, rfl, _, rfl, ta, _, 1, _, rfl, rfl, tt.sq, atI_nat (j := 1) rfl, bd, .ref t, rfl, (by rw [← g1]; exact DGet.k (k := Sum.inr ("two" : Str)) eb), ?_⟩
            refine ⟨t, _, rfl, g2.sq, rfl, _, _, rfl, _, _, rfl, rfl, ?_⟩
            refine fun nm hnm => ?_
            have k1 : Fr [] H8 (upd H8 nm (.dK [])) := Fr.new hnm _
            refine ⟨_, rfl, bp, _, rfl, .inr (g3.fr k1).sq, 2, rfl, by decide, by decide, for_range (lo := 0) (n := 2) (fun j σ H' => ∃ x8, σ = [some (.ref pa), some (.ref il), some (.int 3000), some (.ref bd), x4, some (.ref bp), some c, some (.ref nm), x8, some (.ref tl), some (.ref fl), some (.int n), some (.int (0 + (i : Int))), some (.ref ta), x14, x15, x16] ∧ Fr [] H8 H' ∧ DctAt H' nm two.ps [u1, u2] j)
              ⟨_, rfl, k1, [], upd_same, Nat.le_refl _, fun j hj => by omega⟩ ?_ ?_⟩
            · rintro j σ H9 hj ⟨x8, rfl, f9, kn, e5, e6, e7⟩
              have zj : (0 : Int) + (j : Int) = (j : Int) := Int.zero_add _
              have hx : two.ps[j]? = some (two.ps[j]'hj) := List.getElem?_eq_getElem hj
              have hxs : (two.ps.map V.str)[j]? = some (.str (two.ps[j]'hj)) := by rw [List.getElem?_map, hx]; rfl
              have hu : ([u1, u2] : List V)[j]? = some ([u1, u2][j]'hj) := List.getElem?_eq_getElem hj
              have hun : (uf0 ++ [u1, u2])[uf0.length + j]? = some ([u1, u2][j]'hj) := by rw [List.getElem?_append_right (by omega), Nat.add_sub_cancel_left]; exact hu
              have lf9 := f9.keep fl _ (by simp) R1.lf
              have hat : atI (uf0 ++ [u1, u2]) ((((uf0 ++ [u1, u2]).length : Nat) : Int) - (((two.ps.map V.str).length : Nat) : Int) + (0 + (j : Int))) = some ([u1, u2][j]'hj) := by
                have : (((uf0 ++ [u1, u2]).length : Nat) : Int) - (((two.ps.map V.str).length : Nat) : Int) + (0 + (j : Int)) = ((uf0.length + j : Nat) : Int) := by
                  rw [List.length_append]; show (((uf0.length + 2 : Nat)) : Int) - 2 + _ = _; omega
                rw [this]; exact atI_nat hun
              refine ⟨_, rfl, _, rfl, fl, _, rfl, .inl (.of lf9), _, rfl, bp, _, rfl, .inr (g3.fr f9).sq, _, _, rfl, rfl, _, rfl, _, _, rfl, rfl, fl, _, _, _, rfl, rfl, .of lf9, hat, ?_⟩
              refine ⟨_, rfl, _, rfl, _, rfl, bp, _, _, .str (two.ps[j]'hj), rfl, rfl, (g3.fr f9).sq, (by rw [zj]; exact atI_nat hxs), ?_⟩
              refine ⟨nm, _, rfl, DPut.k (k := Sum.inr (two.ps[j]'hj)) e5 (smallB (by omega)), ?_⟩
              exact ⟨_, rfl, f9.over hnm _, DctAt.put (by decide) hx hu e6 e7⟩
            · rintro σ H9 ⟨x8, rfl, f9, dct⟩
              have R2 := R1.new f9
              have hlf := R2.lf
              have hz : ((((uf0 ++ [u1, u2]).length : Nat) : Int) - (((two.ps.map V.str).length : Nat) : Int)) = ((uf0.length : Nat) : Int) := by
                rw [List.length_append]; show (((uf0.length + 2 : Nat)) : Int) - 2 = _; omega
              refine ⟨_, rfl, _, rfl, fl, _, rfl, .inl (.of hlf), _, rfl, bp, _, rfl, .inr (g3.fr f9).sq, _, _, rfl, rfl, _, rfl, fl, _, rfl, .of hlf, fun fl2 hfl2 => ?_⟩
              rw [hz, cut_take, List.take_left]
              have R3 := R2.newF hfl2 (hu0.fr f9)
              have kf : Fr [] H9 (upd H9 fl2 (.lst uf0)) := Fr.new hfl2 _
              have env3 : EnvAt K H9 nm two.ps (envOf two.ps [a, b]) := dct.env (by decide) (by decide) rfl ((IsVs.cons hua (IsVs.one hub1)).fr f9)
              have env4 := env3.fr kf .nil
              have g4' := (g4.fr f9).fr kf
              generalize upd H9 fl2 (.lst uf0) = H10 at *
              refine ⟨_, rfl, .inl ⟨rfl, _, .of R3.lt⟩, _, rfl, _, rfl, (by show 3 ≤ sizeLine; decide), fun T3 hT3 => ?_⟩
              have k4 : Fr [] H10 (upd H10 T3 (.tup [.str "eval", c, .ref nm])) := Fr.new hT3 _
              have R4 := R3.new k4
              refine ⟨tl, _, _, rfl, rfl, R4.lt, smallB (by omega), ?_⟩
              have tev := two_ev (p := p) ba bb b1 b2
              rw [List.length_append] at hl2
              exact ⟨_, _, _, _, _, _, _, _, _, _, fl2, n, .ev two.ps (envOf two.ps [a, b]) two.body :: td, fd, _, uf0, rfl, R4.pushT (t := .ev two.ps (envOf two.ps [a, b]) two.body) (v := .ref T3) ⟨T3, c, nm, rfl, .of upd_same, g4'.fr k4, env4.fr k4 .nil⟩, .ev tev.1 (by rw [tev.2]; exact S), by simp only [List.length_cons]; omega, by omega⟩
          | ev ps env e =>
            obtain ⟨ta, ve, dn, rfl, tt, he, hn⟩ := ht
            refine ⟨_, rfl, ta, _, 0, _, rfl, rfl, tt.sq, at0, rfl, _, rfl, ?_⟩
            rw [sne (show ("eval" : Str) ≠ "do" by decide)]
            refine iteF ?_
            refine ⟨_, rfl, ta, _, 0, _, rfl, rfl, tt.sq, at0, rfl, _, rfl, ?_⟩
            rw [sne (show ("eval" : Str) ≠ "if" by decide)]
            refine iteF ?_
            refine ⟨_, rfl, ta, _, 0, _, rfl, rfl, tt.sq, at0, rfl, _, rfl, ?_⟩
            rw [sne (show ("eval" : Str) ≠ "call" by decide)]
            refine iteF ?_
            cases S with
            | @ev _ _ _ _ _ ke S =>
            refine ⟨_, rfl, _, rfl, rfl, _, rfl, ?_⟩
            refine ite2 (fun _ => ⟨(by show 1 ≤ sizeLine; decide), fun T2 hT2 => q _ T2 (R1.fr.trans (Fr.new hT2 _)) (.inr (.of upd_same))⟩) (fun _ => ?_)
            refine ⟨_, rfl, n, 1, rfl, rfl, ?_⟩
            refine ⟨_, rfl, ta, _, 1, _, rfl, rfl, tt.sq, atI_nat (j := 1) rfl, _, rfl, ta, _, 2, _, rfl, rfl, tt.sq, atI_nat (j := 2) rfl, _, _, rfl, ?_⟩
            refine ⟨_, rfl, _, e.val, rfl, he, _, rfl, ?_⟩
            cases e with
            | var y =>
              obtain rfl : ve = .str y := he
              refine iteT ?_
              obtain ⟨kvs, e1, g⟩ := hn
              obtain ⟨u, g1, g2⟩ := g y ke.1
              refine ⟨_, rfl, .inl ⟨rfl, _, .of R1.lf⟩, _, rfl, _, rfl, dn, u, rfl, (by rw [← g1]; exact DGet.k (k := Sum.inr y) e1), fl, _, _, rfl, rfl, R1.lf, smallB (by omega), ?_⟩
              exact ⟨_, _, _, _, _, _, _, _, _, _, fl, _, td, fd ++ [env y], ut, _, rfl, R1.pushF g2, S, by omega, by rw [List.length_append, List.length_singleton]; omega⟩
            | quo qv =>
              obtain ⟨va, vs, rfl, vt, r⟩ := he
              obtain ⟨u0, _, rfl, h0, r⟩ := r
              obtain rfl : u0 = .str "quote" := h0
              obtain ⟨u, rfl, h1⟩ := IsVs.one_inv r
              refine iteF ?_
              refine ⟨_, rfl, va, _, 0, _, rfl, rfl, vt.sq, at0, rfl, _, rfl, ?_⟩
              rw [seq rfl]
              refine iteT ?_
              refine ⟨_, rfl, .inl ⟨rfl, _, .of R1.lf⟩, _, rfl, va, _, 1, _, rfl, rfl, vt.sq, atI_nat (j := 1) rfl, fl, _, _, rfl, rfl, R1.lf, smallB (by omega), ?_⟩
              exact ⟨_, _, _, _, _, _, _, _, _, _, fl, _, td, fd ++ [qv], ut, _, rfl, R1.pushF h1, S, by omega, by rw [List.length_append, List.length_singleton]; omega⟩
            | ite a b c =>
              obtain ⟨va, vs, rfl, vt, r⟩ := he
              obtain ⟨u0, _, rfl, h0, r⟩ := r
              obtain rfl : u0 = .str "if" := h0
              obtain ⟨u1, _, rfl, h1, r⟩ := r
              obtain ⟨u2, _, rfl, h2, r⟩ := r
              obtain ⟨u3, rfl, h3⟩ := IsVs.one_inv r
              refine iteF ?_
              refine ⟨_, rfl, va, _, 0, _, rfl, rfl, vt.sq, at0, rfl, _, rfl, ?_⟩
              rw [sne (show ("if" : Str) ≠ "quote" by decide)]
              refine iteF ?_
              refine ⟨_, rfl, va, _, 0, _, rfl, rfl, vt.sq, at0, rfl, _, rfl, ?_⟩
              rw [seq rfl]
              refine iteT ?_
              refine ⟨_, rfl, .inl ⟨rfl, _, .of R1.lt⟩, _, rfl, va, _, 2, _, rfl, rfl, vt.sq, atI_nat (j := 2) rfl, _, rfl, va, _, 3, _, rfl, rfl, vt.sq, atI_nat (j := 3) rfl, _, rfl, (by show 4 ≤ sizeLine; decide), fun T3 hT3 => ?_⟩
              have k3 : Fr [] H8 (upd H8 T3 (.tup [.str "if", u2, u3, .ref dn])) := Fr.new hT3 _
              have R3 := (R1.new k3).pushT (t := .br ps env b c) (v := .ref T3) ⟨T3, u2, u3, dn, rfl, .of upd_same, h2.fr k3, h3.fr k3, hn.fr k3 .nil⟩
              refine ⟨tl, _, _, rfl, rfl, (R1.new k3).lt, smallB (by omega), ?_⟩
              have k4 : Fr [tl] (upd H8 T3 (.tup [.str "if", u2, u3, .ref dn])) (upd (upd H8 T3 (.tup [.str "if", u2, u3, .ref dn])) tl (.lst (ut ++ [.ref T3]))) := Fr.set (List.mem_singleton.mpr rfl) (R1.new k3).lt (fun _ z => by cases z) _
              have vt4 := (vt.fr k3).fr k4
              have h14 := (h1.fr k3).fr k4
              have hn4 := (hn.fr k3 .nil).fr k4 (.one (R1.new k3).lt)
              generalize upd (upd H8 T3 (.tup [.str "if", u2, u3, .ref dn])) tl (.lst (ut ++ [.ref T3])) = H9 at *
              refine ⟨_, rfl, .inl ⟨rfl, _, .of R3.lt⟩, _, rfl, va, _, 1, _, rfl, rfl, vt4.sq, atI_nat (j := 1) rfl, _, rfl, (by show 3 ≤ sizeLine; decide), fun T4 hT4 => ?_⟩
              have k5 : Fr [] H9 (upd H9 T4 (.tup [.str "eval", u1, .ref dn])) := Fr.new hT4 _
              have R4 := (R3.new k5).pushT (t := .ev ps env a) (v := .ref T4) ⟨T4, u1, dn, rfl, .of upd_same, h14.fr k5, hn4.fr k5 .nil⟩
              refine ⟨tl, _, _, rfl, rfl, (R3.new k5).lt, smallB (by rw [List.length_append, List.length_singleton]; omega), ?_⟩
              exact ⟨_, _, _, _, _, _, _, _, _, _, fl, _, .ev ps env a :: .br ps env b c :: td, fd, _, uf, rfl, R4, .ev ke.1 (.br (ev_bd a ke.1) ke.2.1 ke.2.2 S), by simp only [List.length_cons]; omega, by omega⟩
            | app h as =>
              obtain ⟨va, vs, rfl, vt, r⟩ := he
              obtain ⟨u0, rv, rfl, h0, r⟩ := r
              obtain rfl : u0 = .str h.str := h0
              rw [Ex.vals_eq] at r
              have hrl := r.len
              rw [List.length_map] at hrl
              refine iteF ?_
              -- what is put on the list
              obtain ⟨tk, wd, hwd, htk, nq, ni, hin, al, Se⟩ : ∃ (tk : Tsk) (wd : Str), (∀ H' T, TupAt K H' T [.str wd, .str h.str] → IsTsk K H' tk (.ref T)) ∧ True ∧ h.str ≠ "quote" ∧ h.str ≠ "if" ∧ wd = (if inV (.str h.str) ((["same", "word", "head", "tail", "join"] : List Str).map V.str) then "do" else "call") ∧ as.length ≤ 2 ∧ SemR p x (as.map (.ev ps env) ++ tk :: td) fd := by
                cases h with
                | pr o =>
                  obtain ⟨k1, k2, k3⟩ := ke
                  have e1 := prim_some (o := o) (ws := dens env as) (by rw [dens_len]; exact k1)
                  refine ⟨.go o, "do", fun H' T t => ⟨T, rfl, t⟩, trivial, by cases o <;> decide, by cases o <;> decide, by rw [inV_str]; cases o <;> decide, by rw [k1]; cases o <;> decide, sem_evs as fd k2 (.go e1 (ev_bds as k2) S)⟩
                | fn g =>
                  obtain ⟨rfl, k2, k3, k4, k5, k6⟩ := ke
                  match as, k3, k4, k5, k6, S with
                  | [ea, eb], _, k4, k5, k6, S =>
                    exact ⟨.call, "call", fun H' T t => ⟨T, rfl, t⟩, trivial, by decide, by decide, by rw [inV_str]; decide, Nat.le_refl _, sem_evs [ea, eb] fd k4 (.call k2 (ev_bd ea k4.1) (ev_bd eb k4.2.1) k6 k5 S)⟩
              refine ⟨_, rfl, va, _, 0, _, rfl, rfl, vt.sq, at0, rfl, _, rfl, ?_⟩
              rw [sne nq]
              refine iteF ?_
              refine ⟨_, rfl, va, _, 0, _, rfl, rfl, vt.sq, at0, rfl, _, rfl, ?_⟩
              rw [sne ni]
              refine iteF ?_
              refine ⟨_, rfl, va, _, 0, _, rfl, rfl, vt.sq, at0, (by show 5 ≤ sizeLine; decide), fun L hL => ?_⟩
              have k3 : Fr [] H8 (upd H8 L (.lst [.str "same", .str "word", .str "head", .str "tail", .str "join"])) := Fr.new hL _
              have eL : upd H8 L (.lst [.str "same", .str "word", .str "head", .str "tail", .str "join"]) L = some (.lst ((["same", "word", "head", "tail", "join"] : List Str).map V.str)) := upd_same
              have R3 := R1.new k3
              have vt3 := vt.fr k3
              have r3 := r.fr k3
              have hn3 := hn.fr k3 .nil
              generalize upd H8 L (.lst [V.str "same", .str "word", .str "head", .str "tail", .str "join"]) = H9 at *
              refine ⟨L, _, rfl, .inl (.of eL), rfl, flat_strs _, _, rfl, ?_⟩
              refine ite2 (fun hb => ?_) (fun hb => ?_)
              case' refine_1 =>
                rw [if_neg Bool.false_ne_true] at hb
                rw [if_pos hb] at hin
                have kk : ∀ T, H9 T = none → Fr [] H9 (upd H9 T (.tup [.str "do", .str h.str])) := fun T hT => Fr.new hT _
              case' refine_2 =>
                rw [if_neg Bool.false_ne_true] at hb
                rw [if_neg hb] at hin
                have kk : ∀ T, H9 T = none → Fr [] H9 (upd H9 T (.tup [.str "call", .str h.str])) := fun T hT => Fr.new hT _
              all_goals
                subst hin
                refine ⟨_, rfl, .inl ⟨rfl, _, .of R3.lt⟩, _, rfl, _, rfl, va, _, 0, _, rfl, rfl, vt3.sq, at0, (by show 2 ≤ sizeLine; decide), fun T hT => ?_⟩
                have k4 := kk T hT
                have R4 := (R3.new k4).pushT (t := tk) (v := .ref T) (hwd _ T (.of upd_same))
                have k5 := Fr.set (S := [tl]) (List.mem_singleton.mpr rfl) (R3.new k4).lt (fun _ z => by cases z) (.lst (ut ++ [.ref T]))
                refine ⟨tl, _, _, rfl, rfl, (R3.new k4).lt, smallB (by omega), ?_⟩
                have vt5 := (vt3.fr k4).fr k5
                have r5 := (r3.fr k4).fr k5
                have hn5 := (hn3.fr k4 .nil).fr k5 (.one (R3.new k4).lt)
                generalize upd (upd H9 T _) tl _ = H10 at *
                have el : ((((V.str h.str :: rv).length : Nat) : Int) - 1) = ((as.length : Nat) : Int) := by rw [List.length_cons, hrl]; omega
                refine ⟨_, rfl, va, _, rfl, .inr vt5.sq, _, 1, rfl, rfl, ((as.length : Nat) : Int), congrArg (fun z => [V.int z]) el, by omega, by omega, for_range (lo := 0) (n := as.length) (fun j σ H' => ∃ x8 ut', σ = [some (.ref pa), some (.ref il), some (.int 3000), some (.ref bd), x4, x5, x6, some (.ref dn), x8, some (.ref tl), some (.ref fl), some (.int (n + 1)), some (.int (0 + (i : Int))), some (.ref ta), x14, some (.ref va), some (.str _)] ∧ Fr [tl] H10 H' ∧
                    RunAt K H H' p bd tl fl ((as.drop (as.length - j)).map (.ev ps env) ++ tk :: td) fd ut' uf)
                  ⟨_, _, rfl, Fr.refl _ _, by rw [Nat.sub_zero, List.drop_length]; exact R4⟩ ?_ ?_⟩
                · rintro j σ H11 hj ⟨x8, ut', rfl, f11, R5⟩
                  have ha : as[as.length - (j + 1)]? = some (as[as.length - (j + 1)]'(by omega)) := List.getElem?_eq_getElem (by omega)
                  obtain ⟨u, hu, hue⟩ := (r5.fr f11).get (x := (as[as.length - (j + 1)]'(by omega)).val) (i := as.length - (j + 1)) (by rw [List.getElem?_map, ha]; rfl)
                  have hix : atI (V.str h.str :: rv) ((((V.str h.str :: rv).length : Nat) : Int) - 1 - (0 + (j : Int))) = some u := by
                    have : ((((V.str h.str :: rv).length : Nat) : Int) - 1 - (0 + (j : Int))) = ((as.length - (j + 1) + 1 : Nat) : Int) := by rw [List.length_cons, hrl]; omega
                    rw [this]
                    exact atI_nat (by rw [List.getElem?_cons_succ]; exact hu)
                  have hut5 := R5.tsk.len
                  rw [List.length_reverse, List.length_append, List.length_map, List.length_drop, List.length_cons] at hut5
                  refine ⟨_, rfl, .inl ⟨rfl, _, .of R5.lt⟩, _, rfl, _, rfl, va, _, rfl, .inr (vt5.fr f11).sq, _, 1, rfl, rfl, _, rfl, _, _, rfl, rfl, va, _, _, u, rfl, rfl, (vt5.fr f11).sq, hix, _, rfl, (by show 3 ≤ sizeLine; decide), fun T6 hT6 => ?_⟩
                  have k6 : Fr [] H11 (upd H11 T6 (.tup [.str "eval", u, .ref dn])) := Fr.new hT6 _
                  have hn6 := (hn5.fr f11 (.one R4.lt)).fr k6 .nil
                  refine ⟨tl, _, _, rfl, rfl, (R5.new k6).lt, smallB (by omega), ?_⟩
                  have k7 : Fr [tl] (upd H11 T6 (.tup [.str "eval", u, .ref dn])) (upd (upd H11 T6 (.tup [.str "eval", u, .ref dn])) tl (.lst (ut' ++ [.ref T6]))) := Fr.set (List.mem_singleton.mpr rfl) (R5.new k6).lt (fun _ z => by cases z) _
                  refine ⟨_, ut' ++ [.ref T6], rfl, (f11.trans (k6.mono (by simp))).trans k7, ?_⟩
                  have ed : as.drop (as.length - (j + 1)) = (as[as.length - (j + 1)]'(by omega)) :: as.drop (as.length - j) := by
                    rw [List.drop_eq_getElem_cons (by omega), show as.length - (j + 1) + 1 = as.length - j by omega]
                  rw [ed]
                  exact (R5.new k6).pushT (t := .ev ps env (as[as.length - (j + 1)]'(by omega))) (v := .ref T6) ⟨T6, u, dn, rfl, .of upd_same, hue.fr k6, hn6⟩
                · rintro σ H11 ⟨x8, ut', rfl, f11, R5⟩
                  rw [Nat.sub_self, List.drop_zero] at R5
                  exact ⟨_, _, _, _, _, _, _, _, _, _, fl, _, _, fd, ut', uf, rfl, R5, Se, by simp only [List.length_append, List.length_map, List.length_cons]; omega, by omega⟩
      · rintro σ H7 ⟨x4, x5, x6, x7, x8, x12, x13, x14, x15, x16, fl, n, td, fd, ut, uf, rfl, R, S, hl1, hl2⟩
        refine ⟨(by show 1 ≤ sizeLine; decide), fun T2 hT2 => ?_⟩
        exact q _ T2 (R.fr.trans (Fr.new hT2 _)) (.inr (.of upd_same))
end
end Og

set_option Elab.async false
set_option linter.all false
set_option maxRecDepth 100000
set_option maxHeartbeats 4000000
/-! OgFact: the programs that the law makes are good. Plain Lean. -/
namespace Og
open PySem PySem.Spec PyProof.Rows L2
mutual
def fitsb (a : Str → Option Int) (ps : List Str) : Ex → Bool
  | .var x => decide (x ∈ ps)
  | .quo _ => decide (a "quote" = some 1)
  | .ite c x y => decide (a "if" = some 3) && (fitsb a ps c && (fitsb a ps x && fitsb a ps y))
  | .app h es => decide (a h.str = some (es.length : Int)) && (decide (h.str ≠ "quote") && fitsbL a ps es)
def fitsbL (a : Str → Option Int) (ps : List Str) : List Ex → Bool
  | [] => true
  | e :: es => fitsb a ps e && fitsbL a ps es
end
mutual
theorem fitsb_ok {a : Str → Option Int} {ps : List Str} : ∀ e : Ex, fitsb a ps e = true → e.fits a ps
  | .var x, h => by simpa [fitsb, Ex.fits] using h
  | .quo _, h => by simpa [fitsb, Ex.fits] using h
  | .ite c x y, h => by
    simp only [fitsb, Bool.and_eq_true, decide_eq_true_eq] at h
    exact ⟨h.1, fitsb_ok c h.2.1, fitsb_ok x h.2.2.1, fitsb_ok y h.2.2.2⟩
  | .app g es, h => by
    simp only [fitsb, Bool.and_eq_true, decide_eq_true_eq] at h
    exact ⟨h.1, h.2.1, fitsbL_ok es h.2.2⟩
theorem fitsbL_ok {a : Str → Option Int} {ps : List Str} : ∀ es : List Ex, fitsbL a ps es = true → fitsL a ps es
  | [], _ => trivial
  | e :: es, h => by
    simp only [fitsbL, Bool.and_eq_true] at h
    exact ⟨fitsb_ok e h.1, fitsbL_ok es h.2⟩
end
mutual
def callsb (S : Str → Bool) : Ex → Bool
  | .var _ => true
  | .quo _ => true
  | .ite a b c => callsb S a && (callsb S b && callsb S c)
  | .app (.pr _) as => callsbL S as
  | .app (.fn f) as => S f && callsbL S as
def callsbL (S : Str → Bool) : List Ex → Bool
  | [] => true
  | e :: es => callsb S e && callsbL S es
end
mutual
theorem callsb_ok {S : Str → Bool} {T : Str → Prop} (hT : ∀ x, S x = true → T x) : ∀ e : Ex, callsb S e = true → e.calls T
  | .var _, _ => trivial
  | .quo _, _ => trivial
  | .ite a b c, h => by
    simp only [callsb, Bool.and_eq_true] at h
    exact ⟨callsb_ok hT a h.1, callsb_ok hT b h.2.1, callsb_ok hT c h.2.2⟩
  | .app (.pr _) as, h => by
    simp only [callsb] at h
    exact callsbL_ok hT as h
  | .app (.fn f) as, h => by
    simp only [callsb, Bool.and_eq_true] at h
    exact ⟨hT f h.1, callsbL_ok hT as h.2⟩
theorem callsbL_ok {S : Str → Bool} {T : Str → Prop} (hT : ∀ x, S x = true → T x) : ∀ es : List Ex, callsbL S es = true → callsL T es
  | [], _ => trivial
  | e :: es, h => by
    simp only [callsbL, Bool.and_eq_true] at h
    exact ⟨callsb_ok hT e h.1, callsbL_ok hT es h.2⟩
end
def sg (p : Prog) : List (Str × List Str) := p.map fun f => (f.name, f.ps)
theorem sg_sigs (p : Prog) : sigs p = (sg p).map fun x => (x.1, (x.2.length : Int)) := by
  unfold sigs sg
  rw [List.map_map]
  rfl
theorem sg_names (p : Prog) : p.map Fn.name = (sg p).map (·.1) := by
  unfold sg
  rw [List.map_map]
  rfl
theorem sg_len (p : Prog) : p.length = (sg p).length := by simp [sg]
def nms (s : List (Str × List Str)) : Bool := decide (0 < s.length) && (decide (s.length ≤ 1000) && (decide ((s.map (·.1)).Nodup) && s.all fun f => decide (SWt.lookup f.1 = none) && (nameB f.1 s.length && (decide (f.2.length ≤ 12) && ((f.2.all fun x => decide (SWt.lookup x = none)) && decide f.2.Nodup)))))
def Fc (p0 : Prog) (f : Fn) : Prop := f.body.fits (ar p0) f.ps ∧ f.body.calls (fun x => x ∉ SPL ∧ x ∈ p0.map Fn.name) ∧ f.body.nodes ≤ 99000
def chk (p0 : Prog) (f : Fn) : Bool := fitsb (ar p0) f.ps f.body && (callsb (fun x => decide (x ∉ SPL) && decide (x ∈ p0.map Fn.name)) f.body && decide (f.body.nodes ≤ 99000))
theorem chk_ok {p0 : Prog} (h : p0.all (chk p0) = true) : ∀ f ∈ p0, Fc p0 f := fun f hf => by
  have h1 := List.all_eq_true.mp h f hf
  simp only [chk, Bool.and_eq_true, decide_eq_true_eq] at h1
  exact ⟨fitsb_ok _ h1.1, callsb_ok (fun x hx => by simpa using hx) _ h1.2.1, h1.2.2⟩
theorem ren_of {p p0 : Prog} (hs : sg p = sg p0) (hn : nms (sg p0) = true) (hf : ∀ f ∈ p, Fc p0 f) : RenOk p := by
  simp only [nms, Bool.and_eq_true, decide_eq_true_eq] at hn
  obtain ⟨n1, n2, n3, n4⟩ := hn
  have ea : ar p = ar p0 := by
    funext x
    unfold ar
    rw [sg_sigs p, sg_sigs p0, hs]
  have en : p.map Fn.name = p0.map Fn.name := by rw [sg_names, sg_names p0, hs]
  have el : p.length = (sg p0).length := by rw [sg_len, hs]
  refine ⟨⟨?_, by omega, fun f h => Nat.le_trans (hf f h).2.2 (by decide), fun i f e => ?_⟩, fun f h => (hf f h).2.1.imp fun x hx => ⟨hx.1, ?_⟩, fun f h => Nat.le_trans (hf f h).2.2 (by decide)⟩
  · intro z
    rw [z] at el
    simp only [List.length_nil] at el
    omega
  · have hm := List.mem_of_getElem? e
    have hm0 : (f.name, f.ps) ∈ sg p0 := by
      rw [← hs]
      exact List.mem_map.mpr ⟨f, hm, rfl⟩
    have h5 := List.all_eq_true.mp n4 _ hm0
    simp only [Bool.and_eq_true, decide_eq_true_eq] at h5
    obtain ⟨a1, a2, a3, a4, a5⟩ := h5
    refine ⟨a1, by rw [el]; exact nameB_ok a2, fun g hg z => ?_, ⟨a3, fun x hx => by simpa using List.all_eq_true.mp a4 x hx, a5⟩, by rw [ea]; exact (hf f hm).1⟩
    rw [← sg_names, ← en] at n3
    obtain ⟨j, hj⟩ := List.mem_iff_getElem?.mp hg
    rw [List.getElem?_take] at hj
    split at hj
    · have e1 : (p.map Fn.name)[j]? = some f.name := by rw [List.getElem?_map, hj]; simp [z]
      have e2 : (p.map Fn.name)[i]? = some f.name := by rw [List.getElem?_map, e]; rfl
      have := (List.getElem?_inj (List.getElem?_eq_some_iff.mp e1).1 n3).mp (e1.trans e2.symm)
      omega
    · cases hj
  · have h6 := hx.2
    rw [← en] at h6
    obtain ⟨g, hg, e⟩ := List.mem_map.mp h6
    exact ⟨g, hg, e⟩
theorem ar_sp {x : Str} {v : Int} (p : Prog) (h : SWt.lookup x = some v) : ar p x = some v := by
  unfold ar
  rw [List.lookup_append, h]
  rfl
mutual
theorem cf_fits (p : Prog) {ps : List Str} : ∀ e : Ex, e.cf → e.ok ps → e.fits (ar p) ps
  | .var x, _, h => h
  | .quo _, _, _ => ar_sp p (by decide +kernel)
  | .ite a b c, h, k => ⟨ar_sp p (by decide +kernel), cf_fits p a h.1 k.1, cf_fits p b h.2.1 k.2.1, cf_fits p c h.2.2 k.2.2⟩
  | .app (.pr o) as, h, k => ⟨by rw [h.1]; cases o <;> exact ar_sp p (by decide +kernel), by cases o <;> decide, cf_fitsL p as h.2 k.2⟩
  | .app (.fn _) _, h, _ => h.elim
theorem cf_fitsL (p : Prog) {ps : List Str} : ∀ es : List Ex, Ex.cfs es → Ex.oks ps es → fitsL (ar p) ps es
  | [], _, _ => trivial
  | e :: es, h, k => ⟨cf_fits p e h.1 k.1, cf_fitsL p es h.2 k.2⟩
end
mutual
theorem cf_calls {S : Str → Prop} : ∀ e : Ex, e.cf → e.calls S
  | .var x, _ => trivial
  | .quo _, _ => trivial
  | .ite a b c, h => ⟨cf_calls a h.1, cf_calls b h.2.1, cf_calls c h.2.2⟩
  | .app (.pr o) as, h => cf_callsL as h.2
  | .app (.fn _) _, h => h.elim
theorem cf_callsL {S : Str → Prop} : ∀ es : List Ex, Ex.cfs es → callsL S es
  | [], _ => trivial
  | e :: es, h => ⟨cf_calls e h.1, cf_callsL es h.2⟩
end
/-- the body of the law's first function -/
def bB (t : Bool) (g : Str) (B : Ex) : Ex := if t then .app (.fn g) [B, .var "s"] else B
theorem fc_B {p0 : Prog} {k : Nat} {t : Bool} {g x : Str} {B : Ex} {b h : Nat} (hB : BOk (pk k) b h B) (hb : b ≤ 90000) (h1 : t = true → ar p0 g = some 2 ∧ g ≠ "quote" ∧ g ∉ SPL ∧ g ∈ p0.map Fn.name) : Fc p0 ⟨x, pk k, bB t g B⟩ := by
  have f1 := cf_fits p0 B hB.cf hB.ok
  have hn := hB.nodes
  cases t with
  | false => exact ⟨f1, cf_calls B hB.cf, by show B.nodes ≤ _; omega⟩
  | true =>
    obtain ⟨a1, a2, a3, a4⟩ := h1 rfl
    exact ⟨⟨a1, a2, f1, by simp [pk, Ex.fits], trivial⟩, ⟨⟨a3, a4⟩, cf_calls B hB.cf, trivial, trivial⟩, by show 1 + (B.nodes + (1 + 0)) ≤ _; omega⟩
abbrev V0 : Ex := .var "s"
section
variable {k : Nat} {t : Bool} {B : Ex}
theorem k3 (hk : k ≤ 2) : k = 0 ∨ k = 1 ∨ k = 2 := by omega
theorem ren_PP (hk : k ≤ 2) (hB : BOk (pk k) 26 2 B) : RenOk (PP k t B) := by
  have hs : sg (PP k t B) = sg (PP k t V0) := by cases t <;> rfl
  have hn : nms (sg (PP k t V0)) = true := by rcases k3 hk with rfl | rfl | rfl <;> cases t <;> decide +kernel
  have hc : (PP k t V0).all (chk (PP k t V0)) = true := by rcases k3 hk with rfl | rfl | rfl <;> cases t <;> decide +kernel
  refine ren_of hs hn fun f hf => ?_
  have hm : f ∈ PP k t V0 ∨ f = ⟨"main", pk k, bB t "two" B⟩ := by
    cases t with
    | false =>
      rw [List.mem_singleton.mp hf]
      exact .inr rfl
    | true =>
      rcases List.mem_cons.mp hf with rfl | hf
      · exact .inr rfl
      · exact .inl (List.mem_cons_of_mem _ hf)
  rcases hm with hm | rfl
  · exact chk_ok hc f hm
  · refine fc_B hB (by decide) fun ht => ?_
    subst ht
    rcases k3 hk with rfl | rfl | rfl <;> exact ⟨by decide +kernel, by decide, by decide, by decide +kernel⟩
theorem ren_TR : RenOk TR := ren_of (p0 := TR) rfl (by decide +kernel) (chk_ok (by decide +kernel))
theorem PP14 (hB : B.cf) : renP (PP k t B) 14 = ⟨fN 14, pk k, bB t (fN 15) B⟩ :: (if t then [⟨fN 15, ["a", "b"], two.body⟩] else []) := by
  cases t with
  | false =>
    show renP (PP k false B) 14 = [⟨fN 14, pk k, B⟩]
    simp only [renP, PP, renL, renE_cf _ B hB]
  | true =>
    have c1 : nmF (PP k true B) 14 "two" = fN 15 := by kernel_rfl
    show renP (PP k true B) 14 = [⟨fN 14, pk k, .app (.fn (fN 15)) [B, .var "s"]⟩, ⟨fN 15, ["a", "b"], two.body⟩]
    simp only [renP]
    generalize nmF (PP k true B) 14 = nm at c1
    simp only [PP, two, renL, renE, renEs, jn, c1, renE_cf _ B hB]
theorem hand_mem (hB : B.cf) {f : Fn} (hf : f ∈ hand (PP k t B) k) : f ∈ hand (PP k t V0) k ∨ f = ⟨fN 14, pk k, bB t (fN 15) B⟩ := by
  have e1 := PP14 (k := k) (t := t) hB
  have e2 := PP14 (k := k) (t := t) (B := V0) trivial
  unfold hand withMain at hf ⊢
  rw [e1] at hf
  rw [e2]
  simp only [List.mem_cons, List.mem_append, List.length_append, List.length_cons] at hf ⊢
  rcases hf with hf | hf | hf | hf
  · exact .inl (.inl hf)
  · exact .inl (.inr (.inl hf))
  · exact .inr hf
  · exact .inl (.inr (.inr (.inr hf)))
theorem ren_hand (hk : k ≤ 2) (hB : BOk (pk k) 26 2 B) : RenOk (hand (PP k t B) k) := by
  have hs : sg (hand (PP k t B) k) = sg (hand (PP k t V0) k) := by cases t <;> kernel_rfl
  have hn : nms (sg (hand (PP k t V0) k)) = true := by rcases k3 hk with rfl | rfl | rfl <;> cases t <;> decide +kernel
  have hc : (hand (PP k t V0) k).all (chk (hand (PP k t V0) k)) = true := by rcases k3 hk with rfl | rfl | rfl <;> cases t <;> decide +kernel
  refine ren_of hs hn fun f hf => ?_
  rcases hand_mem hB.cf hf with hm | rfl
  · exact chk_ok hc f hm
  · refine fc_B hB (by decide) fun ht => ?_
    subst ht
    rcases k3 hk with rfl | rfl | rfl <;> exact ⟨by decide +kernel, by decide +kernel, by decide +kernel, by decide +kernel⟩
end
end Og

set_option Elab.async false
set_option linter.all false
set_option maxRecDepth 100000
set_option maxHeartbeats 4000000
/-! OgFact2: what is made of the law's programs is good; its machine program is right. Plain Lean. -/
namespace Og
open PySem PySem.Spec PyProof.Rows L2
section
variable {k : Nat} {t : Bool} {B : Ex}
theorem P15_eq (k : Nat) (t : Bool) (B : Ex) : P15 k t B = ⟨fN 15, pk k, bB t (fN 16) B⟩ :: (if t then [⟨fN 16, ["a", "b"], two.body⟩] else []) := by cases t <;> rfl
theorem rr_mem {f : Fn} (hf : f ∈ rr k t B) : f ∈ rr k t V0 ∨ f = ⟨fN 15, pk k, bB t (fN 16) B⟩ := by
  unfold rr at hf ⊢
  rw [P15_eq] at hf ⊢
  simp only [List.mem_cons, List.mem_append] at hf ⊢
  rcases hf with hf | hf | hf | hf | hf
  · exact .inl (.inl hf)
  · exact .inl (.inr (.inl hf))
  · exact .inl (.inr (.inr (.inl hf)))
  · exact .inr hf
  · exact .inl (.inr (.inr (.inr (.inr hf))))
theorem ren_rr (hk : k ≤ 2) (hB : BOk (pk k) 26 2 B) : RenOk (rr k t B) := by
  have hs : sg (rr k t B) = sg (rr k t V0) := by cases t <;> kernel_rfl
  have hn : nms (sg (rr k t V0)) = true := by rcases k3 hk with rfl | rfl | rfl <;> cases t <;> decide +kernel
  have hc : (rr k t V0).all (chk (rr k t V0)) = true := by rcases k3 hk with rfl | rfl | rfl <;> cases t <;> decide +kernel
  refine ren_of hs hn fun f hf => ?_
  rcases rr_mem hf with hm | rfl
  · exact chk_ok hc f hm
  · refine fc_B hB (by decide) fun ht => ?_
    subst ht
    rcases k3 hk with rfl | rfl | rfl <;> exact ⟨by decide +kernel, by decide +kernel, by decide +kernel, by decide +kernel⟩
theorem fill_fc {p0 : Prog} {m : Str} {n : Nat} {u v : Val} {k : Nat} (h : Fc p0 (fillF m n u k)) : Fc p0 (fillF m n v k) := by
  obtain ⟨⟨a, b, c, d⟩, ⟨e, _, g⟩, i⟩ := h
  exact ⟨⟨a, b, c, d⟩, ⟨e, trivial, g⟩, i⟩
theorem qq_fc (hk : k ≤ 2) (hB : BOk (pk k) 26 2 B) : ∀ f ∈ qq k t B, Fc (qq k t V0) f := by
  have hc : (qq k t V0).all (chk (qq k t V0)) = true := by rcases k3 hk with rfl | rfl | rfl <;> cases t <;> decide +kernel
  have h0 := chk_ok hc
  intro f hf
  rcases List.mem_cons.mp hf with rfl | hf
  · exact fill_fc (h0 _ List.mem_cons_self)
  rcases rr_mem hf with hm | rfl
  · exact h0 f (List.mem_cons_of_mem _ hm)
  · refine fc_B hB (by decide) fun ht => ?_
    subst ht
    rcases k3 hk with rfl | rfl | rfl <;> exact ⟨by decide +kernel, by decide +kernel, by decide +kernel, by decide +kernel⟩
theorem sg_qq : sg (qq k t B) = sg (qq k t V0) := by cases t <;> kernel_rfl
theorem ren_qq (hk : k ≤ 2) (hB : BOk (pk k) 26 2 B) : RenOk (qq k t B) := by
  have hn : nms (sg (qq k t V0)) = true := by rcases k3 hk with rfl | rfl | rfl <;> cases t <;> decide +kernel
  exact ren_of sg_qq hn (qq_fc hk hB)
/-! ### what a routine calls is there -/
mutual
theorem ops_refs {S : Str → Prop} (ps : List Str) : ∀ (e : Ex) (d w : List Val), e.calls S → ∀ i ∈ ops ps e d w, ∀ y ∈ i.refs, (∃ f, S f ∧ y = .w f) ∨ ∃ r ∈ routs ps e d w, r.name = y
  | .var x, d, w, _ => fun i hi y hy => by
    rw [List.mem_singleton.mp (show i ∈ [_] from hi)] at hy
    simp [Ins.refs] at hy
  | .quo v, d, w, _ => fun i hi y hy => by
    rw [List.mem_singleton.mp (show i ∈ [_] from hi)] at hy
    simp [Ins.refs] at hy
  | .ite a b c, d, w, h => fun i hi y hy => by
    simp only [ops, List.mem_append, List.mem_singleton] at hi
    simp only [routs, List.mem_append, List.mem_cons]
    rcases hi with hi | rfl
    · rcases ops_refs ps a d (pW 1 :: w) h.1 i hi y hy with z | ⟨r, hr, e⟩
      · exact .inl z
      · exact .inr ⟨r, .inl hr, e⟩
    · simp only [Ins.refs, List.mem_cons, List.not_mem_nil, or_false] at hy
      rcases hy with rfl | rfl
      · exact .inr ⟨⟨.l (pW 2 :: w), ops ps b d (pW 2 :: w)⟩, .inr (.inl (.inl rfl)), rfl⟩
      · exact .inr ⟨⟨.l (pW 3 :: w), ops ps c d (pW 3 :: w)⟩, .inr (.inr (.inl rfl)), rfl⟩
  | .app (.pr o) as, d, w, h => fun i hi y hy => by
    simp only [ops, List.mem_append, List.mem_singleton] at hi
    rcases hi with hi | rfl
    · exact opsL_refs ps as d w 1 h i hi y hy
    · simp [Hd.ins, Ins.refs] at hy
  | .app (.fn f) as, d, w, h => fun i hi y hy => by
    simp only [ops, List.mem_append, List.mem_singleton] at hi
    rcases hi with hi | rfl
    · exact opsL_refs ps as d w 1 h.2 i hi y hy
    · simp only [Hd.ins, Ins.refs, List.mem_singleton] at hy
      exact .inl ⟨f, h.1, hy⟩
theorem opsL_refs {S : Str → Prop} (ps : List Str) : ∀ (es : List Ex) (d w : List Val) (j : Nat), callsL S es → ∀ i ∈ opsL ps es d w j, ∀ y ∈ i.refs, (∃ f, S f ∧ y = .w f) ∨ ∃ r ∈ routsL ps es d w j, r.name = y
  | [], d, w, j, _ => fun i hi y hy => by simp [opsL] at hi
  | e :: es, d, w, j, h => fun i hi y hy => by
    simp only [opsL, List.mem_append] at hi
    simp only [routsL, List.mem_append]
    rcases hi with hi | hi
    · rcases ops_refs ps e d (pW j :: w) h.1 i hi y hy with z | ⟨r, hr, e⟩
      · exact .inl z
      · exact .inr ⟨r, .inl hr, e⟩
    · rcases opsL_refs ps es (aW :: d) w (j + 1) h.2 i hi y hy with z | ⟨r, hr, e⟩
      · exact .inl z
      · exact .inr ⟨r, .inr hr, e⟩
end
mutual
theorem routs_refs {S : Str → Prop} (ps : List Str) : ∀ (e : Ex) (d w : List Val), e.calls S → ∀ r ∈ routs ps e d w, ∀ i ∈ r.code, ∀ y ∈ i.refs, (∃ f, S f ∧ y = .w f) ∨ ∃ r ∈ routs ps e d w, r.name = y
  | .var x, d, w, _ => fun r hr => by simp [routs] at hr
  | .quo v, d, w, _ => fun r hr => by simp [routs] at hr
  | .ite a b c, d, w, h => fun r hr i hi y hy => by
    have up : ∀ {P : Prop}, ((∃ f, S f ∧ y = .w f) ∨ P) → (P → ∃ r ∈ routs ps (.ite a b c) d w, r.name = y) → ((∃ f, S f ∧ y = .w f) ∨ ∃ r ∈ routs ps (.ite a b c) d w, r.name = y) := fun h g => h.imp id g
    simp only [routs, List.mem_append, List.mem_cons] at hr up ⊢
    rcases hr with hr | (rfl | hr) | (rfl | hr)
    · exact up (routs_refs ps a d (pW 1 :: w) h.1 r hr i hi y hy) fun ⟨q, hq, e⟩ => ⟨q, .inl hq, e⟩
    · exact up (ops_refs ps b d (pW 2 :: w) h.2.1 i hi y hy) fun ⟨q, hq, e⟩ => ⟨q, .inr (.inl (.inr hq)), e⟩
    · exact up (routs_refs ps b d (pW 2 :: w) h.2.1 r hr i hi y hy) fun ⟨q, hq, e⟩ => ⟨q, .inr (.inl (.inr hq)), e⟩
    · exact up (ops_refs ps c d (pW 3 :: w) h.2.2 i hi y hy) fun ⟨q, hq, e⟩ => ⟨q, .inr (.inr (.inr hq)), e⟩
    · exact up (routs_refs ps c d (pW 3 :: w) h.2.2 r hr i hi y hy) fun ⟨q, hq, e⟩ => ⟨q, .inr (.inr (.inr hq)), e⟩
  | .app (.pr o) as, d, w, h => fun r hr => routsL_refs ps as d w 1 h r hr
  | .app (.fn f) as, d, w, h => fun r hr => routsL_refs ps as d w 1 h.2 r hr
theorem routsL_refs {S : Str → Prop} (ps : List Str) : ∀ (es : List Ex) (d w : List Val) (j : Nat), callsL S es → ∀ r ∈ routsL ps es d w j, ∀ i ∈ r.code, ∀ y ∈ i.refs, (∃ f, S f ∧ y = .w f) ∨ ∃ r ∈ routsL ps es d w j, r.name = y
  | [], d, w, j, _ => fun r hr => by simp [routsL] at hr
  | e :: es, d, w, j, h => fun r hr i hi y hy => by
    simp only [routsL, List.mem_append] at hr ⊢
    rcases hr with hr | hr
    · exact (routs_refs ps e d (pW j :: w) h.1 r hr i hi y hy).imp id fun ⟨q, hq, e⟩ => ⟨q, .inl hq, e⟩
    · exact (routsL_refs ps es (aW :: d) w (j + 1) h.2 r hr i hi y hy).imp id fun ⟨q, hq, e⟩ => ⟨q, .inr hq, e⟩
end
theorem toM_mem : ∀ {q : Prog} {r : Rt}, r ∈ toM q → ∃ f ∈ q, r ∈ f.toM
  | [], r, h => nomatch h
  | f :: q, r, h => by
    rcases List.mem_append.mp (show r ∈ f.toM ++ toM q from h) with h | h
    · exact ⟨f, List.mem_cons_self, h⟩
    · obtain ⟨g, hg, e⟩ := toM_mem h
      exact ⟨g, List.mem_cons_of_mem _ hg, e⟩
theorem fn_refs {S : Str → Prop} {f : Fn} (h : f.body.calls S) : ∀ r ∈ f.toM, ∀ i ∈ r.code, ∀ y ∈ i.refs, (∃ f, S f ∧ y = .w f) ∨ ∃ r ∈ f.toM, r.name = y := fun r hr i hi y hy => by
  rcases List.mem_cons.mp hr with rfl | hr
  · rcases List.mem_append.mp (show i ∈ ops f.ps f.body [] [.w f.name] ++ [.slide (f.ps.map .w)] from hi) with hi | hi
    · exact (ops_refs f.ps f.body [] [.w f.name] h i hi y hy).imp id fun ⟨q, hq, e⟩ => ⟨q, List.mem_cons_of_mem _ hq, e⟩
    · rw [List.mem_singleton.mp hi] at hy
      simp [Ins.refs] at hy
  · exact (routs_refs f.ps f.body [] [.w f.name] h r hr i hi y hy).imp id fun ⟨q, hq, e⟩ => ⟨q, List.mem_cons_of_mem _ hq, e⟩
theorem mac_ok {q : Prog} (ne : q ≠ []) (ok : ∀ f ∈ q, f.body.ok f.ps) (nd : (q.map Fn.name).Nodup) (hc : ∀ f ∈ q, f.body.calls (fun x => ∃ g ∈ q, g.name = x)) : MacOk (toM q) where
  ne := by
    cases q with
    | nil => exact absurd rfl ne
    | cons f q => simp [toM, Fn.toM]
  nd := (nm_toM q ok nd).1
  refs := fun r hr i hi y hy => by
    obtain ⟨f, hf, hr⟩ := toM_mem hr
    rcases fn_refs (hc f hf) r hr i hi y hy with ⟨g, ⟨d, hd, rfl⟩, rfl⟩ | ⟨s, hs, rfl⟩
    · exact List.mem_map.mpr ⟨⟨.w d.name, d.code⟩, mem_toM hd _ List.mem_cons_self, rfl⟩
    · exact List.mem_map.mpr ⟨s, mem_toM hf s hs, rfl⟩
theorem mac_qq (hk : k ≤ 2) (hB : BOk (pk k) 26 2 B) : MacOk (toM (qq k t B)) :=
  mac_ok (by simp [qq]) (qq_ok k hk t B hB.ok) (qq_nodup k t B) fun f hf => ((ren_qq hk hB).calls f hf).imp fun x hx => hx.2
end
end Og

set_option Elab.async false
set_option linter.all false
set_option maxRecDepth 100000
set_option maxHeartbeats 4000000
/-! OgFact3: sizes and depths. Plain Lean. -/
namespace Og
open PySem PySem.Spec PyProof.Rows L2
def WL (d : List Val) : Prop := ∀ x ∈ d, ∃ s, x = .w s
theorem WL.nil : WL [] := fun _ h => nomatch h
theorem WL.cons {s : Str} {d : List Val} (h : WL d) : WL (.w s :: d) := fun x hx => by
  rcases List.mem_cons.mp hx with rfl | hx
  · exact ⟨s, rfl⟩
  · exact h x hx
theorem WL.map {l : List Str} : WL (l.map .w) := fun x hx => let ⟨s, _, e⟩ := List.mem_map.mp hx; ⟨s, e.symm⟩
theorem WL.app {a b : List Val} (h : WL a) (g : WL b) : WL (a ++ b) := fun x hx => (List.mem_append.mp hx).elim (h x) (g x)
theorem WL.sz : ∀ {d : List Val}, WL d → Val.sizes d = d.length
  | [], _ => rfl
  | x :: d, h => by
    obtain ⟨s, rfl⟩ := h x List.mem_cons_self
    have := WL.sz (d := d) fun y hy => h y (List.mem_cons_of_mem _ hy)
    simp only [Val.sizes, Val.size, this, List.length_cons]
    omega
theorem WL.dp : ∀ {d : List Val}, WL d → Val.depths d = 1
  | [], _ => rfl
  | x :: d, h => by
    obtain ⟨s, rfl⟩ := h x List.mem_cons_self
    have := WL.dp (d := d) fun y hy => h y (List.mem_cons_of_mem _ hy)
    simp only [Val.depths, Val.depth, this]
    omega
theorem after_len (ps : List Str) (x : Str) : (after ps x).length ≤ ps.length := by
  induction ps with
  | nil => simp [after]
  | cons p ps ih =>
    simp only [after]
    split
    · simp
    · simp only [List.length_cons]; omega
def iz (l : List Ins) : Nat := Val.sizes (l.map Ins.val)
def rz (l : List Rt) : Nat := Val.sizes (l.map Rt.val)
theorem iz_app (a b : List Ins) : iz (a ++ b) = iz a + iz b := by unfold iz; rw [List.map_append, sizes_app]
theorem rz_app (a b : List Rt) : rz (a ++ b) = rz a + rz b := by unfold rz; rw [List.map_append, sizes_app]
theorem rz_cons (r : Rt) (b : List Rt) : rz (r :: b) = (1 + (r.name.size + iz r.code)) + rz b := rfl
structure IOk (z : Nat) (l : List Ins) : Prop where
  z : iz l ≤ z
  d : ∀ i ∈ l, i.val.depth ≤ 4
structure ROk (z n : Nat) (l : List Rt) : Prop where
  z : rz l ≤ z
  n : l.length ≤ n
  d : ∀ r ∈ l, r.val.depth ≤ 5
theorem IOk.app {a b : Nat} {l m : List Ins} (h : IOk a l) (g : IOk b m) : IOk (a + b) (l ++ m) := ⟨by rw [iz_app]; have := h.z; have := g.z; omega, fun i hi => (List.mem_append.mp hi).elim (h.d i) (g.d i)⟩
theorem IOk.le {a b : Nat} {l : List Ins} (h : IOk a l) (g : a ≤ b) : IOk b l := ⟨Nat.le_trans h.z g, h.d⟩
theorem ROk.app {a b n k : Nat} {l m : List Rt} (h : ROk a n l) (g : ROk b k m) : ROk (a + b) (n + k) (l ++ m) := ⟨by rw [rz_app]; have := h.z; have := g.z; omega, by rw [List.length_append]; have := h.n; have := g.n; omega, fun i hi => (List.mem_append.mp hi).elim (h.d i) (g.d i)⟩
theorem ROk.le {a b n k : Nat} {l : List Rt} (h : ROk a n l) (g : a ≤ b) (g2 : n ≤ k) : ROk b k l := ⟨Nat.le_trans h.z g, Nat.le_trans h.n g2, h.d⟩
theorem rok_nil : ROk 0 0 [] := ⟨Nat.le_refl _, Nat.le_refl _, fun _ h => nomatch h⟩
theorem rt_dp {n : Val} {c : List Ins} (hn : n.depth ≤ 4) (h : ∀ i ∈ c, i.val.depth ≤ 4) : (Rt.val ⟨n, c⟩).depth ≤ 5 := by
  show Val.depths (n :: c.map Ins.val) ≤ 5
  refine depths_all (n := 4) fun x hx => ?_
  rcases List.mem_cons.mp hx with rfl | hx
  · exact hn
  · obtain ⟨i, hi, rfl⟩ := List.mem_map.mp hx
    exact h i hi
theorem rok_one {z : Nat} {n : Val} {c : List Ins} (hn : n.depth ≤ 4) (h : IOk z c) : ROk (1 + (n.size + z)) 1 [⟨n, c⟩] := ⟨by rw [rz_cons]; have := h.z; simp only [rz, List.map_nil, Val.sizes]; omega, Nat.le_refl _, fun r hr => by rw [List.mem_singleton.mp hr]; exact rt_dp hn h.d⟩
def bA : Nat → Nat
  | 0 => 15
  | h + 1 => 2 * bA h + 20
def bC : Nat → Nat
  | 0 => 0
  | h + 1 => 3 * bC h + 2 * (10 + bA h)
def bN : Nat → Nat
  | 0 => 0
  | h + 1 => 3 * bN h + 2
theorem bA_le {h g : Nat} (l : h ≤ g) : bA h ≤ bA g := by
  induction l with
  | refl => exact Nat.le_refl _
  | step _ ih => simp only [bA]; omega
theorem bA_15 (h : Nat) : 15 ≤ bA h := bA_le (Nat.zero_le h)
def PsOk (ps : List Str) (h : Nat) (d w : List Val) : Prop := ps.length ≤ 3 ∧ WL d ∧ d.length + h ≤ 4 ∧ WL w ∧ w.length + h ≤ 5
theorem PsOk.one {ps h d w} (k : PsOk ps (h + 1) d w) (i : Nat) : PsOk ps h d (pW i :: w) := let ⟨a, b, c, d, e⟩ := k; ⟨a, b, by omega, d.cons, by simp only [List.length_cons]; omega⟩
theorem PsOk.two {ps h d w} (k : PsOk ps (h + 1) d w) (i : Nat) : PsOk ps h (aW :: d) (pW i :: w) := let ⟨a, b, c, d, e⟩ := k; ⟨a, b.cons, by simp only [List.length_cons]; omega, d.cons, by simp only [List.length_cons]; omega⟩
theorem path_sz {w : List Val} (h : WL w) (i : Nat) : (Val.l (pW i :: w)).size = 2 + w.length ∧ (Val.l (pW i :: w)).depth = 1 := by
  have e : Val.l (pW i :: w) = .l (pW i :: w) := rfl
  have h1 : WL (pW i :: w) := h.cons
  refine ⟨?_, h1.dp⟩
  show 1 + Val.sizes (pW i :: w) = _
  rw [h1.sz, List.length_cons]
  omega
theorem cond_ok {w : List Val} (h : WL w) (hl : w.length ≤ 5) : IOk 20 [.cond (.l (pW 2 :: w)) (.l (pW 3 :: w))] := by
  obtain ⟨a1, a2⟩ := path_sz h 2
  obtain ⟨b1, b2⟩ := path_sz h 3
  constructor
  · show (1 + (1 + ((Val.l (pW 2 :: w)).size + ((Val.l (pW 3 :: w)).size + 0)))) + 0 ≤ 20
    omega
  · intro i hi
    rw [List.mem_singleton.mp hi]
    show max (0 + 1) (max ((Val.l (pW 2 :: w)).depth + 1) (max ((Val.l (pW 3 :: w)).depth + 1) 1)) ≤ 4
    omega
theorem pr_ok (o : Pr) : IOk 2 [.pr o] := by
  constructor
  · show (1 + (1 + 0)) + 0 ≤ 2
    omega
  · intro i hi
    rw [List.mem_singleton.mp hi]
    show max (0 + 1) 1 ≤ 4
    omega
theorem ops_small (ps : List Str) : ∀ (h : Nat) (e : Ex) (d w : List Val), e.cf → e.qz → e.ht ≤ h → PsOk ps h d w → IOk (bA h) (ops ps e d w) := by
  intro h
  induction h with
  | zero =>
    intro e d w hc hq hh k
    obtain ⟨k1, k2, k3, k4, k5⟩ := k
    cases e with
    | var x =>
      have hw : WL ((after ps x).map .w ++ d) := WL.map.app k2
      have hl : ((after ps x).map Val.w ++ d).length ≤ 7 := by rw [List.length_append, List.length_map]; have := after_len ps x; omega
      constructor
      · show (1 + (1 + ((1 + Val.sizes ((after ps x).map .w ++ d)) + 0))) + 0 ≤ 15
        rw [hw.sz]
        omega
      · intro i hi
        rw [List.mem_singleton.mp (show i ∈ [_] from hi)]
        show max (0 + 1) (max (Val.depths ((after ps x).map .w ++ d) + 1) 1) ≤ 4
        rw [hw.dp]
        decide
    | quo v =>
      obtain ⟨q1, q2⟩ := hq
      constructor
      · show (1 + (1 + (v.size + 0))) + 0 ≤ 15
        omega
      · intro i hi
        rw [List.mem_singleton.mp (show i ∈ [_] from hi)]
        show max (0 + 1) (max (v.depth + 1) 1) ≤ 4
        omega
    | ite a b c => simp only [Ex.ht] at hh; omega
    | app g as => simp only [Ex.ht] at hh; omega
  | succ h ih =>
    intro e d w hc hq hh k
    have k0 : PsOk ps h d w := ⟨k.1, k.2.1, by have := k.2.2.1; omega, k.2.2.2.1, by have := k.2.2.2.2; omega⟩
    cases e with
    | var x => exact (ih (.var x) d w hc hq (Nat.zero_le _) k0).le (bA_le (Nat.le_succ h))
    | quo v => exact (ih (.quo v) d w hc hq (Nat.zero_le _) k0).le (bA_le (Nat.le_succ h))
    | ite a b c =>
      simp only [Ex.ht] at hh
      refine ((ih a d (pW 1 :: w) hc.1 hq.1 (by omega) (k.one 1)).app (cond_ok k.2.2.2.1 (by have := k.2.2.2.2; omega))).le ?_
      simp only [bA]
      omega
    | app g as =>
      cases g with
      | fn f => exact hc.elim
      | pr o =>
        simp only [Ex.ht] at hh
        obtain ⟨c1, c2⟩ := hc
        have c3 : as.length ≤ 2 := by rw [c1]; cases o <;> decide
        match as, c2, c3, hq, hh with
        | [], _, _, _, _ => exact (pr_ok o).le (by simp only [bA]; omega)
        | [x], c2, _, hq, hh =>
          simp only [Ex.hts] at hh
          have hx := ih x d (pW 1 :: w) c2.1 hq.1 (by omega) (k.one 1)
          refine (show IOk (bA h + 2) (ops ps (.app (.pr o) [x]) d w) from ?_).le (by simp only [bA]; omega)
          simp only [ops, opsL, List.append_nil]
          exact hx.app (pr_ok o)
        | [x, y], c2, _, hq, hh =>
          simp only [Ex.hts] at hh
          have hx := ih x d (pW 1 :: w) c2.1 hq.1 (by omega) (k.one 1)
          have hy := ih y (aW :: d) (pW 2 :: w) c2.2.1 hq.2.1 (by omega) (k.two 2)
          refine (show IOk (bA h + bA h + 2) (ops ps (.app (.pr o) [x, y]) d w) from ?_).le (by simp only [bA]; omega)
          simp only [ops, opsL, List.append_nil]
          exact (hx.app hy).app (pr_ok o)
        | x :: y :: z :: r, _, c3, _, _ => simp only [List.length_cons] at c3; omega
theorem routs_small (ps : List Str) : ∀ (h : Nat) (e : Ex) (d w : List Val), e.cf → e.qz → e.ht ≤ h → PsOk ps h d w → ROk (bC h) (bN h) (routs ps e d w) := by
  intro h
  induction h with
  | zero =>
    intro e d w hc hq hh k
    cases e with
    | var x => exact rok_nil
    | quo v => exact rok_nil
    | ite a b c => simp only [Ex.ht] at hh; omega
    | app g as => simp only [Ex.ht] at hh; omega
  | succ h ih =>
    intro e d w hc hq hh k
    cases e with
    | var x => exact rok_nil.le (Nat.zero_le _) (Nat.zero_le _)
    | quo v => exact rok_nil.le (Nat.zero_le _) (Nat.zero_le _)
    | ite a b c =>
      simp only [Ex.ht] at hh
      obtain ⟨p1, p2⟩ := path_sz k.2.2.2.1 2
      obtain ⟨q1, q2⟩ := path_sz k.2.2.2.1 3
      have hl := k.2.2.2.2
      have ra := ih a d (pW 1 :: w) hc.1 hq.1 (by omega) (k.one 1)
      have rb := ih b d (pW 2 :: w) hc.2.1 hq.2.1 (by omega) (k.one 2)
      have rc := ih c d (pW 3 :: w) hc.2.2 hq.2.2 (by omega) (k.one 3)
      have ob := rok_one (n := .l (pW 2 :: w)) (by omega) (ops_small ps h b d (pW 2 :: w) hc.2.1 hq.2.1 (by omega) (k.one 2))
      have oc := rok_one (n := .l (pW 3 :: w)) (by omega) (ops_small ps h c d (pW 3 :: w) hc.2.2 hq.2.2 (by omega) (k.one 3))
      have := (ra.app ((ob.app rb).app (oc.app rc))).le (b := bC (h + 1)) (k := bN (h + 1)) (by simp only [bC]; omega) (by simp only [bN]; omega)
      simpa [routs] using this
    | app g as =>
      cases g with
      | fn f => exact hc.elim
      | pr o =>
        simp only [Ex.ht] at hh
        obtain ⟨c1, c2⟩ := hc
        have c3 : as.length ≤ 2 := by rw [c1]; cases o <;> decide
        match as, c2, c3, hq, hh with
        | [], _, _, _, _ => exact rok_nil.le (Nat.zero_le _) (Nat.zero_le _)
        | [x], c2, _, hq, hh =>
          simp only [Ex.hts] at hh
          have hx := ih x d (pW 1 :: w) c2.1 hq.1 (by omega) (k.one 1)
          have := hx.le (b := bC (h + 1)) (k := bN (h + 1)) (by simp only [bC]; omega) (by simp only [bN]; omega)
          simpa [routs, routsL] using this
        | [x, y], c2, _, hq, hh =>
          simp only [Ex.hts] at hh
          have hx := ih x d (pW 1 :: w) c2.1 hq.1 (by omega) (k.one 1)
          have hy := ih y (aW :: d) (pW 2 :: w) c2.2.1 hq.2.1 (by omega) (k.two 2)
          have := (hx.app hy).le (b := bC (h + 1)) (k := bN (h + 1)) (by simp only [bC]; omega) (by simp only [bN]; omega)
          simpa [routs, routsL] using this
        | x :: y :: z :: r, _, c3, _, _ => simp only [List.length_cons] at c3; omega
end Og

set_option Elab.async false
set_option linter.all false
set_option maxRecDepth 100000
set_option maxHeartbeats 4000000
/-! OgFact4: the size and the depth of the machine program that is made. Plain Lean. -/
namespace Og
open PySem PySem.Spec PyProof.Rows L2
def bV : Nat → Nat
  | 0 => 15
  | h + 1 => 3 * bV h + 2
theorem bV_le {h g : Nat} (l : h ≤ g) : bV h ≤ bV g := by
  induction l with
  | refl => exact Nat.le_refl _
  | step _ ih => simp only [bV]; omega
theorem val_small : ∀ (h : Nat) (e : Ex), e.cf → e.qz → e.ht ≤ h → e.val.size ≤ bV h ∧ e.val.depth ≤ 3 + h := by
  intro h
  induction h with
  | zero =>
    intro e hc hq hh
    cases e with
    | var x => exact ⟨by show 1 ≤ 15; decide, Nat.zero_le _⟩
    | quo v =>
      obtain ⟨q1, q2⟩ := hq
      refine ⟨?_, ?_⟩
      · show 1 + (1 + (v.size + 0)) ≤ 15
        omega
      · show max (0 + 1) (max (v.depth + 1) 1) ≤ 3
        omega
    | ite a b c => simp only [Ex.ht] at hh; omega
    | app g as => simp only [Ex.ht] at hh; omega
  | succ h ih =>
    intro e hc hq hh
    have hv : ∀ a b : Nat, a ≤ bV h ∧ b ≤ 3 + h → a ≤ bV (h + 1) ∧ b ≤ 3 + (h + 1) := fun a b z => ⟨by simp only [bV]; omega, by omega⟩
    cases e with
    | var x => exact hv _ _ (ih (.var x) hc hq (Nat.zero_le _))
    | quo v => exact hv _ _ (ih (.quo v) hc hq (Nat.zero_le _))
    | ite a b c =>
      simp only [Ex.ht] at hh
      obtain ⟨a1, a2⟩ := ih a hc.1 hq.1 (by omega)
      obtain ⟨b1, b2⟩ := ih b hc.2.1 hq.2.1 (by omega)
      obtain ⟨c1, c2⟩ := ih c hc.2.2 hq.2.2 (by omega)
      refine ⟨?_, ?_⟩
      · show 1 + (1 + (a.val.size + (b.val.size + (c.val.size + 0)))) ≤ _
        simp only [bV]
        omega
      · show max (0 + 1) (max (a.val.depth + 1) (max (b.val.depth + 1) (max (c.val.depth + 1) 1))) ≤ _
        omega
    | app g as =>
      cases g with
      | fn f => exact hc.elim
      | pr o =>
        simp only [Ex.ht] at hh
        obtain ⟨c1, c2⟩ := hc
        have c3 : as.length ≤ 2 := by rw [c1]; cases o <;> decide
        match as, c2, c3, hq, hh with
        | [], _, _, _, _ =>
          refine ⟨?_, ?_⟩
          · show 1 + (1 + 0) ≤ _
            simp only [bV]; omega
          · show max (0 + 1) 1 ≤ _
            omega
        | [x], c2, _, hq, hh =>
          simp only [Ex.hts] at hh
          obtain ⟨a1, a2⟩ := ih x c2.1 hq.1 (by omega)
          refine ⟨?_, ?_⟩
          · show 1 + (1 + (x.val.size + 0)) ≤ _
            simp only [bV]; omega
          · show max (0 + 1) (max (x.val.depth + 1) 1) ≤ _
            omega
        | [x, y], c2, _, hq, hh =>
          simp only [Ex.hts] at hh
          obtain ⟨a1, a2⟩ := ih x c2.1 hq.1 (by omega)
          obtain ⟨b1, b2⟩ := ih y c2.2.1 hq.2.1 (by omega)
          refine ⟨?_, ?_⟩
          · show 1 + (1 + (x.val.size + (y.val.size + 0))) ≤ _
            simp only [bV]; omega
          · show max (0 + 1) (max (x.val.depth + 1) (max (y.val.depth + 1) 1)) ≤ _
            omega
        | x :: y :: z :: r, _, c3, _, _ => simp only [List.length_cons] at c3; omega
structure MOk (z n D : Nat) (l : List Rt) : Prop where
  z : rz l ≤ z
  n : l.length ≤ n
  d : ∀ r ∈ l, r.val.depth ≤ D
theorem MOk.app {a b n k D : Nat} {l m : List Rt} (h : MOk a n D l) (g : MOk b k D m) : MOk (a + b) (n + k) D (l ++ m) := ⟨by rw [rz_app]; have := h.z; have := g.z; omega, by rw [List.length_append]; have := h.n; have := g.n; omega, fun i hi => (List.mem_append.mp hi).elim (h.d i) (g.d i)⟩
theorem ROk.m {a n D : Nat} {l : List Rt} (h : ROk a n l) (g : 5 ≤ D) : MOk a n D l := ⟨h.z, h.n, fun r hr => Nat.le_trans (h.d r hr) g⟩
def mok (z n D : Nat) (l : List Rt) : Bool := decide (rz l ≤ z) && (decide (l.length ≤ n) && l.all fun r => decide (r.val.depth ≤ D))
theorem mok_ok {z n D : Nat} {l : List Rt} (h : mok z n D l = true) : MOk z n D l := by
  simp only [mok, Bool.and_eq_true, decide_eq_true_eq] at h
  exact ⟨h.1, h.2.1, fun r hr => by simpa using List.all_eq_true.mp h.2.2 r hr⟩
section
variable {k : Nat} {t : Bool} {B : Ex}
theorem slide_ok {ps : List Str} (h : ps.length ≤ 3) : IOk 6 [.slide (ps.map .w)] := by
  have hw : WL (ps.map Val.w) := WL.map
  constructor
  · show (1 + (1 + ((1 + Val.sizes (ps.map .w)) + 0))) + 0 ≤ 6
    rw [hw.sz, List.length_map]
    omega
  · intro i hi
    rw [List.mem_singleton.mp hi]
    show max (0 + 1) (max (Val.depths (ps.map .w) + 1) 1) ≤ 4
    rw [hw.dp]
    decide
theorem call_ok (f : Str) : IOk 3 [.call (.w f)] := by
  constructor
  · show (1 + (1 + (1 + 0))) + 0 ≤ 3
    omega
  · intro i hi
    rw [List.mem_singleton.mp hi]
    show max (0 + 1) (max (0 + 1) 1) ≤ 4
    decide
theorem pk_len (hk : k ≤ 2) : (pk k).length ≤ 3 := by simp [pk]; omega
theorem body_ok (hk : k ≤ 2) (hB : BOk (pk k) 26 2 B) (nm : Str) (g : Str) : ROk 800 20 (Fn.toM ⟨nm, pk k, bB t g B⟩) := by
  have hp := pk_len hk
  have w1 : WL [.w nm] := WL.nil.cons
  cases t with
  | false =>
    have k0 : PsOk (pk k) 2 [] [.w nm] := ⟨hp, WL.nil, by decide, w1, by show 1 + 2 ≤ 5; decide⟩
    have ho := ops_small (pk k) 2 B [] [.w nm] hB.cf hB.qz hB.ht k0
    have hr := routs_small (pk k) 2 B [] [.w nm] hB.cf hB.qz hB.ht k0
    have h1 := rok_one (n := .w nm) (Nat.zero_le _) (ho.app (slide_ok hp))
    have h2 := (h1.app hr).le (b := 800) (k := 20) (by show 1 + (1 + (bA 2 + 6)) + bC 2 ≤ 800; decide) (by decide)
    exact h2
  | true =>
    have k0 : PsOk (pk k) 2 [] [pW 1, .w nm] := ⟨hp, WL.nil, by decide, w1.cons, by show 2 + 2 ≤ 5; decide⟩
    have k1 : PsOk (pk k) 0 [aW] [pW 2, .w nm] := ⟨hp, WL.nil.cons, by decide, w1.cons, by show 2 + 0 ≤ 5; decide⟩
    have ho := ops_small (pk k) 2 B [] [pW 1, .w nm] hB.cf hB.qz hB.ht k0
    have hr := routs_small (pk k) 2 B [] [pW 1, .w nm] hB.cf hB.qz hB.ht k0
    have so := ops_small (pk k) 0 V0 [aW] [pW 2, .w nm] trivial trivial (Nat.le_refl _) k1
    have hc : IOk 200 (Fn.code ⟨nm, pk k, bB true g B⟩) := by
      have h3 := ((((ho.app so).app (call_ok g))).app (slide_ok hp)).le (b := 200) (by decide)
      simpa [Fn.code, bB, ops, opsL, Hd.ins, List.append_assoc] using h3
    have h1 := rok_one (n := .w nm) (Nat.zero_le _) hc
    have h2 := (h1.app hr).le (b := 800) (k := 20) (by show 1 + (1 + 200) + bC 2 ≤ 800; decide) (by decide)
    simpa [Fn.toM, bB, routs, routsL] using h2
/-- the machine code of the first function, but for what it pushes -/
def fillR (m : Str) (n k : Nat) : List Ins := opsL (xs k) ((xs k).map .var) [aW] [.w (fN n)] 2 ++ [.call (.w m)] ++ [.slide ((xs k).map .w)]
theorem routsL_vars (ps l : List Str) (d w : List Val) (i : Nat) : routsL ps (l.map .var) d w i = [] := by
  induction l generalizing d i with
  | nil => rfl
  | cons x l ih => simp [routsL, routs, ih]
theorem fill_toM (m : Str) (n : Nat) (v : Val) (k : Nat) : (fillF m n v k).toM = [⟨.w (fN n), .push v :: fillR m n k⟩] := by
  simp [fillF, Fn.toM, Fn.code, ops, opsL, routs, routsL, fillR, Hd.ins, routsL_vars]
def hdF (k : Nat) (t : Bool) : Fn := ⟨fN (16 + b2 t), "s" :: xs k, .app (.fn (fN 0)) (tree (fN (16 + b2 t)) (17 + b2 t) k :: (xs k).map .var)⟩
def tl16 (t : Bool) : Prog := if t then [⟨fN 16, ["a", "b"], two.body⟩] else []
theorem rr_split : rr k t B = [hdF k t, G0 k] ++ (tr ++ ([⟨fN 15, pk k, bB t (fN 16) B⟩] ++ tl16 t)) := by cases t <;> rfl
theorem tr_mok : MOk 150000 10000 40 (toM tr) := mok_ok (by decide +kernel)
theorem hd_mok (hk : k ≤ 2) : MOk 5000 100 40 (toM [hdF k t, G0 k]) := mok_ok (by rcases k3 hk with rfl | rfl | rfl <;> cases t <;> decide +kernel)
theorem tl_mok : MOk 5000 100 40 (toM (tl16 t)) := mok_ok (by cases t <;> decide +kernel)
theorem fillR_ok (hk : k ≤ 2) : iz (fillR (fN (16 + b2 t)) (17 + b2 t) k) ≤ 1000 ∧ ∀ i ∈ fillR (fN (16 + b2 t)) (17 + b2 t) k, i.val.depth ≤ 4 := by
  have h : (decide (iz (fillR (fN (16 + b2 t)) (17 + b2 t) k) ≤ 1000) && (fillR (fN (16 + b2 t)) (17 + b2 t) k).all fun i => decide (i.val.depth ≤ 4)) = true := by rcases k3 hk with rfl | rfl | rfl <;> cases t <;> decide +kernel
  simp only [Bool.and_eq_true, decide_eq_true_eq] at h
  exact ⟨h.1, fun i hi => by simpa using List.all_eq_true.mp h.2 i hi⟩
structure VOk (z D : Nat) (l : List Val) : Prop where
  z : Val.sizes l ≤ z
  d : ∀ x ∈ l, x.depth ≤ D
theorem VOk.app {a b D : Nat} {l m : List Val} (h : VOk a D l) (g : VOk b D m) : VOk (a + b) D (l ++ m) := ⟨by rw [sizes_app]; have := h.z; have := g.z; omega, fun i hi => (List.mem_append.mp hi).elim (h.d i) (g.d i)⟩
def vok (z D : Nat) (l : List Val) : Bool := decide (Val.sizes l ≤ z) && l.all fun r => decide (r.depth ≤ D)
theorem vok_ok {z D : Nat} {l : List Val} (h : vok z D l = true) : VOk z D l := by
  simp only [vok, Bool.and_eq_true, decide_eq_true_eq] at h
  exact ⟨h.1, fun r hr => by simpa using List.all_eq_true.mp h.2 r hr⟩
theorem bB_val (hB : BOk (pk k) 26 2 B) (g : Str) : (bB t g B).val.size ≤ 300 ∧ (bB t g B).val.depth ≤ 8 := by
  obtain ⟨a, b⟩ := val_small 2 B hB.cf hB.qz hB.ht
  have a' : B.val.size ≤ 143 := a
  cases t with
  | false => exact ⟨by show B.val.size ≤ _; omega, by show B.val.depth ≤ _; omega⟩
  | true =>
    refine ⟨?_, ?_⟩
    · show 1 + (1 + (B.val.size + (1 + 0))) ≤ _
      omega
    · show max (0 + 1) (max (B.val.depth + 1) (max (0 + 1) 1)) ≤ _
      omega
theorem rr_val (hk : k ≤ 2) (hB : BOk (pk k) 26 2 B) : (Prog.val (rr k t B)).size ≤ 25000 ∧ (Prog.val (rr k t B)).depth ≤ 36 := by
  have v1 : VOk 2000 35 (([hdF k t, G0 k] : Prog).map Fn.val) := vok_ok (by rcases k3 hk with rfl | rfl | rfl <;> cases t <;> decide +kernel)
  have v2 : VOk 20000 35 (tr.map Fn.val) := vok_ok (by decide +kernel)
  have v4 : VOk 1000 35 ((tl16 t).map Fn.val) := vok_ok (by cases t <;> decide +kernel)
  have v3 : VOk 1000 35 (([⟨fN 15, pk k, bB t (fN 16) B⟩] : Prog).map Fn.val) := by
    obtain ⟨a, b⟩ := bB_val (t := t) hB (fN 16)
    have hp := pk_len hk
    have hw : WL ((pk k).map Val.w) := WL.map
    refine ⟨?_, fun x hx => ?_⟩
    · show (1 + (1 + ((1 + Val.sizes ((pk k).map .w)) + ((bB t (fN 16) B).val.size + 0)))) + 0 ≤ 1000
      rw [hw.sz, List.length_map]
      omega
    · rw [List.mem_singleton.mp hx]
      show max (0 + 1) (max (Val.depths ((pk k).map .w) + 1) (max ((bB t (fN 16) B).val.depth + 1) 1)) ≤ 35
      rw [hw.dp]
      omega
  have v := v1.app (v2.app (v3.app v4))
  have e : (rr k t B).map Fn.val = ([hdF k t, G0 k] : Prog).map Fn.val ++ (tr.map Fn.val ++ (([⟨fN 15, pk k, bB t (fN 16) B⟩] : Prog).map Fn.val ++ (tl16 t).map Fn.val)) := by
    rw [rr_split, List.map_append, List.map_append, List.map_append]
  rw [← e] at v
  refine ⟨?_, ?_⟩
  · show 1 + Val.sizes ((rr k t B).map Fn.val) ≤ _
    have := v.z
    omega
  · exact depths_all v.d
theorem qq_mok (hk : k ≤ 2) (hB : BOk (pk k) 26 2 B) : MOk 200000 20000 40 (toM (qq k t B)) := by
  obtain ⟨r1, r2⟩ := rr_val (t := t) hk hB
  obtain ⟨f1, f2⟩ := fillR_ok (t := t) hk
  have h1 : MOk 26100 1 40 (fillF (fN (16 + b2 t)) (17 + b2 t) (Prog.val (rr k t B)) k).toM := by
    rw [fill_toM]
    refine ⟨?_, Nat.le_refl _, fun r hr => ?_⟩
    · show (1 + (1 + ((1 + (1 + ((Prog.val (rr k t B)).size + 0))) + iz (fillR (fN (16 + b2 t)) (17 + b2 t) k)))) + 0 ≤ _
      omega
    · rw [List.mem_singleton.mp hr]
      show Val.depths (.w (fN (17 + b2 t)) :: Ins.val (.push (Prog.val (rr k t B))) :: (fillR (fN (16 + b2 t)) (17 + b2 t) k).map Ins.val) ≤ 40
      refine depths_all (n := 39) fun x hx => ?_
      rcases List.mem_cons.mp hx with rfl | hx
      · exact Nat.zero_le _
      rcases List.mem_cons.mp hx with rfl | hx
      · show max (0 + 1) (max ((Prog.val (rr k t B)).depth + 1) 1) ≤ 39
        omega
      · obtain ⟨i, hi, rfl⟩ := List.mem_map.mp hx
        exact Nat.le_trans (f2 i hi) (by decide)
  have h4 : MOk 800 20 40 (toM [⟨fN 15, pk k, bB t (fN 16) B⟩]) := by
    have := (body_ok (t := t) hk hB (fN 15) (fN 16)).m (D := 40) (by decide)
    simpa [toM] using this
  have h := h1.app ((hd_mok (t := t) hk).app (tr_mok.app (h4.app (tl_mok (t := t)))))
  have e : toM (qq k t B) = (fillF (fN (16 + b2 t)) (17 + b2 t) (Prog.val (rr k t B)) k).toM ++ (toM [hdF k t, G0 k] ++ (toM tr ++ (toM [⟨fN 15, pk k, bB t (fN 16) B⟩] ++ toM (tl16 t)))) := by
    rw [← toM_app, ← toM_app, ← toM_app, ← rr_split]
    rfl
  rw [e]
  exact ⟨Nat.le_trans h.z (by decide), Nat.le_trans h.n (by decide), h.d⟩
theorem mac_val (hk : k ≤ 2) (hB : BOk (pk k) 26 2 B) : (Mac.val (toM (qq k t B))).size ≤ 200001 ∧ (Mac.val (toM (qq k t B))).depth ≤ 41 ∧ (toM (qq k t B)).length ≤ 20000 := by
  have h := qq_mok (t := t) hk hB
  refine ⟨?_, ?_, h.n⟩
  · show 1 + rz (toM (qq k t B)) ≤ _
    have := h.z
    omega
  · refine depths_all (n := 40) fun x hx => ?_
    obtain ⟨r, hr, rfl⟩ := List.mem_map.mp hx
    exact h.d r hr
end
end Og

set_option Elab.async false
set_option linter.all false
set_option maxRecDepth 100000
set_option maxHeartbeats 4000000
/-! OgFact5: the values that the law's program computes are small. Plain Lean. -/
namespace Og
open PySem PySem.Spec PyProof.Rows L2
mutual
theorem den_cf (env : Str → Val) : ∀ e : Ex, e.cf → den env e = evE env e
  | .var _, _ => rfl
  | .quo _, _ => rfl
  | .ite a b c, h => by simp only [den, evE, den_cf env a h.1, den_cf env b h.2.1, den_cf env c h.2.2]
  | .app (.pr o) as, h => by simp only [den, evE, dens_cf env as h.2]
  | .app (.fn _) _, h => h.elim
theorem dens_cf (env : Str → Val) : ∀ es : List Ex, Ex.cfs es → dens env es = evEs env es
  | [], _ => rfl
  | e :: es, h => by simp only [dens, evEs, den_cf env e h.1, dens_cf env es h.2]
end
structure Sz (z d : Nat) (x : Val) : Prop where
  z : x.size ≤ z
  d : x.depth ≤ d
theorem Sz.le {z d z' d' : Nat} {x : Val} (h : Sz z d x) (a : z ≤ z') (b : d ≤ d') : Sz z' d' x := ⟨Nat.le_trans h.z a, Nat.le_trans h.d b⟩
theorem sz_nil {z d : Nat} (h : 1 ≤ z) (g : 1 ≤ d) : Sz z d nil := ⟨h, g⟩
theorem sz_head {z d : Nat} {x : Val} (h : Sz z d x) : Sz z (d + 1) (vhead x) := by
  have hp := size_pos x
  have h1 := h.z
  have h2 := h.d
  match x with
  | .w s => exact sz_nil (by omega) (by omega)
  | .l [] => exact sz_nil (by omega) (by omega)
  | .l (y :: ys) =>
    simp only [Val.size, Val.sizes] at h1
    simp only [Val.depth, Val.depths] at h2
    exact ⟨by show y.size ≤ z; omega, by show y.depth ≤ _; omega⟩
theorem sz_tail {z d : Nat} {x : Val} (h : Sz z d x) : Sz z (d + 1) (vtail x) := by
  have hp := size_pos x
  have h1 := h.z
  have h2 := h.d
  match x with
  | .w s => exact sz_nil (by omega) (by omega)
  | .l [] => exact sz_nil (by omega) (by omega)
  | .l (y :: ys) =>
    simp only [Val.size, Val.sizes] at h1
    simp only [Val.depth, Val.depths] at h2
    exact ⟨by show 1 + Val.sizes ys ≤ z; omega, by show Val.depths ys ≤ _; omega⟩
theorem sz_join {z d : Nat} {x y : Val} (h : Sz z d x) (g : Sz z d y) (hd : 0 < d) : Sz (2 * z + 1) (d + 1) (vjoin x y) := by
  have h1 := h.z
  have h2 := h.d
  have g1 := g.z
  have g2 := g.d
  match y with
  | .w s => exact ⟨by show 1 + (x.size + 0) ≤ _; omega, by show max (x.depth + 1) 1 ≤ _; omega⟩
  | .l ys =>
    simp only [Val.size] at g1
    simp only [Val.depth] at g2
    exact ⟨by show 1 + (x.size + Val.sizes ys) ≤ _; omega, by show max (x.depth + 1) (Val.depths ys) ≤ _; omega⟩
theorem sz_prim {z d : Nat} {o : Pr} {ws : List Val} (hl : ws.length = o.ar) (h : ∀ y ∈ ws, Sz z d y) (hz : 1 ≤ z) (hd : 0 < d) : Sz (2 * z + 1) (d + 1) ((prim o ws).getD nil) := by
  match o, ws, hl with
  | .same, [a, b], _ =>
    show Sz _ _ (vsame a b)
    unfold vsame
    split
    · exact ⟨by show 1 ≤ _; omega, Nat.zero_le _⟩
    · exact sz_nil (by omega) (by omega)
  | .word, [a], _ =>
    show Sz _ _ (vword a)
    cases a with
    | w s => exact ⟨by show 1 ≤ _; omega, Nat.zero_le _⟩
    | l xs => exact sz_nil (by omega) (by omega)
  | .head, [a], _ => exact (sz_head (h a List.mem_cons_self)).le (by omega) (Nat.le_refl _)
  | .tail, [a], _ => exact (sz_tail (h a List.mem_cons_self)).le (by omega) (Nat.le_refl _)
  | .join, [a, b], _ => exact sz_join (h a List.mem_cons_self) (h b (List.mem_cons_of_mem _ List.mem_cons_self)) hd
def bD (z : Nat) : Nat → Nat
  | 0 => z
  | h + 1 => 2 * bD z h + 1
theorem bD_pos {z : Nat} (hz : 1 ≤ z) : ∀ h, 1 ≤ bD z h
  | 0 => hz
  | h + 1 => by simp only [bD]; omega
theorem den_small {z d : Nat} {ps : List Str} {env : Str → Val} (hz : 13 ≤ z) (hd : 2 ≤ d) (he : ∀ x ∈ ps, Sz z d (env x)) : ∀ (h : Nat) (e : Ex), e.cf → e.qz → e.ok ps → e.ht ≤ h → Sz (bD z h) (d + h) (den env e) := by
  intro h
  induction h with
  | zero =>
    intro e hc hq ho hh
    cases e with
    | var x => exact he x ho
    | quo v => exact ⟨Nat.le_trans hq.1 hz, Nat.le_trans hq.2 hd⟩
    | ite a b c => simp only [Ex.ht] at hh; omega
    | app g as => simp only [Ex.ht] at hh; omega
  | succ h ih =>
    intro e hc hq ho hh
    have up : ∀ {x : Val}, Sz (bD z h) (d + h) x → Sz (bD z (h + 1)) (d + (h + 1)) x := fun g => g.le (by simp only [bD]; omega) (by omega)
    cases e with
    | var x => exact up (ih (.var x) hc hq ho (Nat.zero_le _))
    | quo v => exact up (ih (.quo v) hc hq ho (Nat.zero_le _))
    | ite a b c =>
      simp only [Ex.ht] at hh
      simp only [den]
      split
      · exact up (ih c hc.2.2 hq.2.2 ho.2.2 (by omega))
      · exact up (ih b hc.2.1 hq.2.1 ho.2.1 (by omega))
    | app g as =>
      cases g with
      | fn f => exact hc.elim
      | pr o =>
        simp only [Ex.ht] at hh
        obtain ⟨c1, c2⟩ := hc
        obtain ⟨_, o2⟩ := ho
        have hall : ∀ (es : List Ex), Ex.cfs es → Ex.qzs es → Ex.oks ps es → Ex.hts es ≤ h → ∀ y ∈ dens env es, Sz (bD z h) (d + h) y := by
          intro es
          induction es with
          | nil => intro _ _ _ _ y hy; simp [dens] at hy
          | cons e es ie =>
            intro a b c k y hy
            simp only [Ex.hts] at k
            rcases List.mem_cons.mp (show y ∈ den env e :: dens env es from hy) with rfl | hy
            · exact ih e a.1 b.1 c.1 (by omega)
            · exact ie a.2 b.2 c.2 (by omega) y hy
        exact sz_prim (z := bD z h) (d := d + h) (by rw [dens_len]; exact c1) (hall as c2 hq o2 (by omega)) (bD_pos (by omega) h) (by omega)
section
variable {p : Prog} {z d : Nat} {ps : List Str} {env : Str → Val}
theorem bd_of {x : Val} (hz : bD z 2 ≤ 5000000) (hd : d + 2 ≤ 64) (h : Sz (bD z 2) (d + 2) x) : Bd x := ⟨Nat.le_trans h.z hz, Nat.le_trans h.d hd⟩
mutual
theorem evok_cf (hz : 13 ≤ z) (hd : 2 ≤ d) (z2 : bD z 2 ≤ 5000000) (d2 : d + 2 ≤ 64) (he : ∀ x ∈ ps, Sz z d (env x)) : ∀ e : Ex, e.cf → e.qz → e.ok ps → e.ht ≤ 2 → EvOk p ps env e
  | .var x, _, _, o, _ => ⟨o, bd_of z2 d2 (den_small hz hd he 2 (.var x) trivial trivial o (Nat.zero_le _))⟩
  | .quo v, _, q, _, _ => bd_of z2 d2 (den_small (ps := ps) hz hd he 2 (.quo v) trivial q trivial (Nat.zero_le _))
  | .ite a b c, h, q, o, k => by
    simp only [Ex.ht] at k
    exact ⟨evok_cf hz hd z2 d2 he a h.1 q.1 o.1 (by omega), evok_cf hz hd z2 d2 he b h.2.1 q.2.1 o.2.1 (by omega), evok_cf hz hd z2 d2 he c h.2.2 q.2.2 o.2.2 (by omega)⟩
  | .app (.pr r) as, h, q, o, k => by
    have b := bd_of z2 d2 (den_small hz hd he 2 (.app (.pr r) as) h q o k)
    simp only [Ex.ht] at k
    exact ⟨h.1, evoks_cf hz hd z2 d2 he as h.2 q o.2 (by omega), b⟩
  | .app (.fn _) _, h, _, _, _ => h.elim
theorem evoks_cf (hz : 13 ≤ z) (hd : 2 ≤ d) (z2 : bD z 2 ≤ 5000000) (d2 : d + 2 ≤ 64) (he : ∀ x ∈ ps, Sz z d (env x)) : ∀ es : List Ex, Ex.cfs es → Ex.qzs es → Ex.oks ps es → Ex.hts es ≤ 2 → EvOks p ps env es
  | [], _, _, _, _ => trivial
  | e :: es, h, q, o, k => by
    simp only [Ex.hts] at k
    exact ⟨evok_cf hz hd z2 d2 he e h.1 q.1 o.1 (by omega), evoks_cf hz hd z2 d2 he es h.2 q.2 o.2 (by omega)⟩
end
end
theorem look_mem : ∀ {ps : List Str} {vs : List Val} {x : Str} {v : Val}, look ps vs x = some v → v ∈ vs
  | [], _, _, _, h => by simp [look] at h
  | _ :: _, [], _, _, h => by simp [look] at h
  | p :: ps, u :: vs, x, v, h => by
    simp only [look] at h
    split at h
    · rw [Option.some.inj h]; exact List.mem_cons_self
    · exact List.mem_cons_of_mem _ (look_mem h)
/-- the law's program's first function -/
def mainF (k : Nat) (t : Bool) (B : Ex) : Fn := ⟨"main", pk k, bB t "two" B⟩
theorem PP_head (k : Nat) (t : Bool) (B : Ex) : (PP k t B).head? = some (mainF k t B) := by cases t <;> rfl
theorem pval_all {k : Nat} {t : Bool} {B : Ex} {ws : List Val} (hB : BOk (pk k) 26 2 B) (hl : (pk k).length = ws.length) (hw : ∀ w ∈ ws, Sz 200001 41 w) :
    EvOk (PP k t B) (pk k) (envOf (pk k) ws) (mainF k t B).body ∧ den (envOf (pk k) ws) (mainF k t B).body = pval k t B ws ∧ (pval k t B ws).depth ≤ 50 ∧ (pval k t B ws).size ≤ 3000000 := by
  have he : ∀ x ∈ pk k, Sz 200001 41 (envOf (pk k) ws x) := fun x hx => hw _ (look_mem (look_some hx hl))
  have hs : ("s" : Str) ∈ pk k := by simp [pk]
  have z2 : bD 200001 2 ≤ 5000000 := by decide
  have e1 := evok_cf (p := PP k t B) (by decide) (by decide) z2 (by decide) he B hB.cf hB.qz hB.ok hB.ht
  have d1 := den_small (by decide) (by decide) he 2 B hB.cf hB.qz hB.ok hB.ht
  have dz : (den (envOf (pk k) ws) B).size ≤ 800007 := d1.z
  have dd : (den (envOf (pk k) ws) B).depth ≤ 43 := d1.d
  have s1 := he "s" hs
  have sz : (envOf (pk k) ws "s").size ≤ 200001 := s1.z
  have sd : (envOf (pk k) ws "s").depth ≤ 41 := s1.d
  cases t with
  | false =>
    refine ⟨e1, den_cf _ B hB.cf, ?_, ?_⟩
    · show (evE (envOf (pk k) ws) B).depth ≤ _
      rw [← den_cf _ B hB.cf]; omega
    · show (evE (envOf (pk k) ws) B).size ≤ _
      rw [← den_cf _ B hB.cf]; omega
  | true =>
    have ep : pval k true B ws = .l [den (envOf (pk k) ws) B, envOf (pk k) ws "s"] := by
      rw [den_cf _ B hB.cf]; rfl
    have zz : (Val.l [den (envOf (pk k) ws) B, envOf (pk k) ws "s"]).size ≤ 3000000 := by
      show 1 + ((den (envOf (pk k) ws) B).size + ((envOf (pk k) ws "s").size + 0)) ≤ _
      omega
    have zd : (Val.l [den (envOf (pk k) ws) B, envOf (pk k) ws "s"]).depth ≤ 50 := by
      show max ((den (envOf (pk k) ws) B).depth + 1) (max ((envOf (pk k) ws "s").depth + 1) 1) ≤ _
      omega
    refine ⟨⟨rfl, by simp [PP], rfl, ⟨e1, ⟨hs, ⟨by omega, by omega⟩⟩, trivial⟩, ⟨?_, ?_⟩, ⟨?_, ?_⟩⟩, ep.symm, by rw [ep]; exact zd, by rw [ep]; exact zz⟩
    · show (Val.l [den (envOf (pk k) ws) B, envOf (pk k) ws "s"]).size ≤ _
      omega
    · show (Val.l [den (envOf (pk k) ws) B, envOf (pk k) ws "s"]).depth ≤ _
      omega
    · show 1 + ((envOf (pk k) ws "s").size + 0) ≤ _
      omega
    · show max ((envOf (pk k) ws "s").depth + 1) 1 ≤ _
      omega
end Og

set_option Elab.async false
set_option linter.all false
set_option maxRecDepth 100000
set_option maxHeartbeats 4000000
/-! OgLaw: the law. -/
namespace Og
open PySem PySem.Spec PyProof.Rows L2
section
variable {P : Program} {w : World} {K : PySem.W.Frag} {mg : MG} {base : Heap} {CR : Addr}
def spLaw (K : PySem.W.Frag) : Sp := fun vs H Q _ => ∃ (a : Addr) (ns : List Int), vs = [.ref a] ∧ SqL K H a (ns.map .int) ∧ ns.length ≤ 63 ∧ ∀ H', Q (.bl true) H'
def teLaw (K : PySem.W.Frag) : TE := tOp (rIxL K) (tLst (tCons (tVar 6) (tCons (tCall (spVal K 2) [] E0 (tCons (tVar 1) (tCons (tC (.int 2)) tNil))) tNil))) (tCall spTake [] E0 (tCons (tVar 1) (tCons (tC (.int 2)) tNil)))
theorem sl_pk {K : PySem.W.Frag} {H : Hp} {T : Addr} {r : Nat} {Q : VK} (t : StrAt K H T ["s", "x", "y"]) (hr : r < 3) (q : ∀ pa H', Fr [] H H' → StrAt K H' pa (pk r) → Q (.ref pa) H') : rSlF K (.ref T) none (some (1 + (r : Int))) H Q := by
  have e1 : (1 + (r : Int)) = ((r + 1 : Nat) : Int) := by omega
  refine ⟨T, _, rfl, t.tup, fun z => ?_, fun z p o hp ho => ?_⟩
  · have h2 : r = 2 := by
      have := z.2
      rw [e1] at this
      rcases (show r = 0 ∨ r = 1 ∨ r = 2 by omega) with rfl | rfl | rfl
      · exact absurd this (by decide)
      · exact absurd this (by decide)
      · rfl
    subst h2
    exact q T H (Fr.refl _ _) t
  · refine q p _ (Fr.new hp _) ?_
    rw [e1, cut_take, ← List.map_take]
    exact .new (ps := pk r) ho
theorem PP_len (k : Nat) (t : Bool) (B : Ex) : (PP k t B).length ≤ 2 := by cases t <;> simp [PP]
theorem PP_nd (k : Nat) (t : Bool) (B : Ex) : ((PP k t B).map Fn.name).Nodup := by
  cases t with
  | false => show (["main"] : List Str).Nodup; decide
  | true => show (["main", "two"] : List Str).Nodup; decide
theorem pk_last {k : Nat} (hk : k ≤ 2) : ∃ x, ((pk k).map V.str).length = k + 1 ∧ atI ((pk k).map V.str) (-1) = some (.str x) ∧ x ∈ pk k := by
  rcases k3 hk with rfl | rfl | rfl
  · exact ⟨"s", by decide, by decide +kernel, by decide⟩
  · exact ⟨"x", by decide, by decide +kernel, by decide⟩
  · exact ⟨"y", by decide, by decide +kernel, by decide⟩
theorem sc_law : FnScope ["_law_script", "_law_hand", "_law_parameters", "_law_body", "_law_program", "_law_two", "_law_made", "_law_inputs", "_law_one", "_law_due", "_law_run_here"] ["_law_script"] (defScope s_law) := ⟨rfl, rfl, rfl, by decide +kernel, rfl, by decide +kernel, by decide +kernel⟩
theorem law_body (B : Bn mg) (cR : ClsR K CR) (D__law_draws : Df P w K mg base "_law_draws" ["_law_script", "_law_many"] 1 (spDraws K)) (D__law_take : Df P w K mg base "_law_take" ["_law_hand", "_law_many"] 1 spTake)
    (D__law_value : Df P w K mg base "_law_value" ["_law_hand", "_law_depth"] 4 (spVal K 2)) (D__law_expression : Df P w K mg base "_law_expression" ["_law_hand", "_law_parameters", "_law_calls", "_law_depth"] 7 (spExpr K 2))
    (D_know_own_machine : Df P w K mg base "know_own_machine" ["program"] 9 (spKOM K)) (D_check_machine : Df P w K mg base "check_machine" ["value"] 5 (spCM K)) (D__law_run : Df P w K mg base "_law_run" ["_law_program", "_law_inputs", "_law_limit"] 2 (spRun K))
    (D__law_small : Df P w K mg base "_law_small" ["_law_value_here"] 1 (spSmall K)) (D_run_machine : Df P w K mg base "run_machine" ["program", "inputs", "limit"] 6 (spRunM K CR)) : Body P w K mg base ["_law_script", "_law_hand", "_law_parameters", "_law_body", "_law_program", "_law_two", "_law_made", "_law_inputs", "_law_one", "_law_due", "_law_run_here"] "law" s_law 9 (spLaw K) := by
  intro f cdv A outer s H vs Q E hr h
  obtain ⟨a, ns, rfl, hsq, hnl, q⟩ := h
  have hu := hu_of hr
  have nd := sc_law.nd
  refine ⟨_, (pss_cons (ps_set (i := 1) nd rfl (.inr rfl) (pe_lst (pa_cons (pe_cf D__law_draws (hr.mono (by decide)) (pa_cons (pv 0) (pa_cons pe_int pa_nil))) (pa_cons pe_int pa_nil))))
    (pss_cons (ps_set (i := 2) nd rfl (.inl rfl) (pe_slice sl_tupF (pe_tupF (pa_cons pe_str (pa_cons pe_str (pa_cons pe_str pa_nil)))) po_none (po_some (pe_op op_add pe_int (pe_cf D__law_take (hr.mono (by decide)) (pa_cons (pv 1) (pa_cons pe_int pa_nil)))))))
    (pss_cons (ps_set (i := 3) nd rfl (.inl rfl) (pe_ix ix_list (pe_lst (pa_cons pe_str (pa_cons (pe_tup (pa_cons pe_str (pa_cons (pe_ix ix_tup (pv 2) (pe_un un_neg pe_int) (fun _ _ => rfl)) (pa_cons pe_str pa_nil)))) (pa_cons (pe_tup (pa_cons pe_str (pa_cons (pe_ix ix_tup (pv 2) (pe_un un_neg pe_int) (fun _ _ => rfl)) (pa_cons pe_str pa_nil)))) pa_nil)))) (pe_cf D__law_take (hr.mono (by decide)) (pa_cons (pv 1) (pa_cons pe_int pa_nil))) (fun _ _ => rfl)))
    (pss_cons (ps_if (pt_cmpR op_eq (pe_cf D__law_take (hr.mono (by decide)) (pa_cons (pv 1) (pa_cons pe_int pa_nil))) pe_int (nomark _))
      (pss_one (ps_set (i := 3) nd rfl (.inl rfl) (pe_cf D__law_expression (hr.mono (by decide)) (pa_cons (pv 1) (pa_cons (pv 2) (pa_cons (pe_lst pa_nil) (pa_cons pe_int pa_nil)))))))
      pss_nil)
    (pss_cons (ps_set (i := 4) nd rfl (.inl rfl) (pe_tup (pa_cons (pe_tup (pa_cons pe_str (pa_cons (pv 2) (pa_cons (pv 3) pa_nil)))) pa_nil)))
    (pss_cons (ps_if (pt_cmpR op_eq (pe_cf D__law_take (hr.mono (by decide)) (pa_cons (pv 1) (pa_cons pe_int pa_nil))) pe_int (nomark _))
      (pss_cons (ps_set (i := 5) nd rfl (.inl rfl) (pe_tup (pa_cons pe_str (pa_cons (pe_tupF (pa_cons pe_str (pa_cons pe_str pa_nil))) (pa_cons (pe_tup (pa_cons pe_str (pa_cons pe_str (pa_cons (pe_tup (pa_cons pe_str (pa_cons pe_str (pa_cons (pe_tup (pa_cons pe_str (pa_cons (pe_tup pa_nil) pa_nil))) pa_nil)))) pa_nil)))) pa_nil)))))
      (pss_one (ps_set (i := 4) nd rfl (.inl rfl) (pe_tup (pa_cons (pe_tup (pa_cons pe_str (pa_cons (pv 2) (pa_cons (pe_tup (pa_cons pe_str (pa_cons (pv 3) (pa_cons pe_str pa_nil)))) pa_nil)))) (pa_cons (pv 5) pa_nil))))))
      pss_nil)
    (pss_cons (ps_set (i := 6) nd rfl (.inr rfl) (pe_cf D_know_own_machine (hr.mono (by decide)) (pa_cons (pv 4) pa_nil)))
    (pss_cons (ps_if (pt_cmpR op_notN (pe_cf D_check_machine (hr.mono (by decide)) (pa_cons (pv 6) pa_nil)) pe_non (nomark _))
      (pss_one (ps_ret pe_bl))
      pss_nil)
    (pss_cons (ps_if (pt_cmpR op_gt (pe_cf D__law_take (hr.mono (by decide)) (pa_cons (pv 1) (pa_cons pe_int pa_nil))) pe_int (nomark _))
      (pss_one (ps_ret pe_bl))
      pss_nil)
    (pss_cons (ps_setLc (i := 7) (own := [("_law_one", 8)]) (g := gName 8) (te := teLaw K) (tt := tYes) rfl nd rfl rfl (sw_true rfl rfl rfl (by decide +kernel)) (pi_tup (pe_slice sl_tailR (pv 2) (po_some pe_int) po_none)) (blkOk_by (N := ["_law_script", "_law_hand", "_law_parameters", "_law_body", "_law_program", "_law_two", "_law_made", "_law_inputs", "_law_one", "_law_due", "_law_run_here"]) (sc := defScope s_law) (by decide +kernel)) (fun _ _ _ _ _ => pg_name (i := 8) nd rfl (.inl rfl)) (fun _ _ _ _ _ => pts_nil) (fun _ _ _ _ _ => (pe_ix ix_list (pe_lst (pa_cons (pv 6) (pa_cons (pe_cf D__law_value (hr.mono (by decide)) (pa_cons (pv 1) (pa_cons pe_int pa_nil))) pa_nil))) (pe_cf D__law_take (hr.mono (by decide)) (pa_cons (pv 1) (pa_cons pe_int pa_nil))) (fun _ _ => rfl))))
    (pss_cons (ps_set (i := 9) nd rfl (.inl rfl) (pe_cf D__law_run (hr.mono (by decide)) (pa_cons (pv 4) (pa_cons (pe_op op_cat (pe_lst (pa_cons (pv 6) pa_nil)) (pv 7)) (pa_cons pe_int pa_nil)))))
    (pss_cons (ps_if (PW.pt (pw_or (pt_cmpR op_ne (pe_ix ix_tup (pv 9) pe_int (fun _ _ => rfl)) pe_str (nomark _)) (pw_or1 (pt_not (pt_val (pe_cf D__law_small (hr.mono (by decide)) (pa_cons (pe_ix ix_tup (pv 9) pe_int (fun _ _ => rfl)) pa_nil)))))))
      (pss_one (ps_ret pe_bl))
      pss_nil)
    (pss_cons (ps_set (i := 10) nd rfl (.inl rfl) (pe_cf D_run_machine (hr.mono (by decide)) (pa_cons (pv 6) (pa_cons (pv 7) (pa_cons pe_int pa_nil)))))
    (pss_one (ps_ret (pe_cmpR (op_eqW hr.units) (pe_tup (pa_cons (pe_fld (pv 10) rfl) (pa_cons (pe_fld (pv 10) rfl) pa_nil))) (pe_tup (pa_cons pe_str (pa_cons (pe_ix ix_tup (pv 9) pe_int (fun _ _ => rfl)) pa_nil))) (nomark _))))))))))))))))), ?_⟩
  have sz3 : 3 ≤ sizeLine := by decide
  refine ⟨_, rfl, a, ns, rfl, hsq, hnl, fun H1 dl ds f1 hdl0 hdl => ⟨(by show 2 ≤ sizeLine; decide), fun h hh => ?_⟩⟩
  have k1 : Fr [] H1 (upd H1 h (.lst [.ref dl, .int 0])) := Fr.new hh _
  have hA : HandAt (upd H1 h (.lst [.ref dl, .int 0])) h dl := ⟨fun z => (by rw [← z, hh] at hdl; cases hdl), ds, 0, k1.keep _ _ (by simp) hdl, upd_same⟩
  generalize upd H1 h (.lst [.ref dl, .int 0]) = H2 at *
  -- the parameters
  refine ⟨sz3, fun T3 o3 hT3 ho3 => ?_⟩
  have k2 : Fr [] H2 (upd H2 T3 (.frz o3 (.tup [.str "s", .str "x", .str "y"]))) := Fr.new hT3 _
  have s3 : StrAt K (upd H2 T3 (.frz o3 (.tup [.str "s", .str "x", .str "y"]))) T3 ["s", "x", "y"] := .new (ps := ["s", "x", "y"]) ho3
  have hA3 := hA.fr k2 (by simp) (by simp)
  generalize upd H2 T3 (.frz o3 (.tup [.str "s", .str "x", .str "y"])) = H3 at *
  refine ⟨_, rfl, h, dl, 3, rfl, hA3, by decide, by decide, fun k H4 hk f4 hA4 => ⟨1, (k : Int), rfl, rfl, _, rfl, ?_⟩⟩
  refine sl_pk (s3.fr f4) hk fun pa H5 f5 sp5 => ?_
  have hA5 := hA4.fr f5 (by simp) (by simp)
  replace hk : k ≤ 2 := by omega
  clear hT3 s3 hA3 hA4 f5 f4 k2 hA hdl hdl0 hh k1 f1
  obtain ⟨lx, pl, plast, lmem⟩ := pk_last hk
  -- the body
  refine ⟨_, rfl, 1, rfl, pa, _, -1, _, rfl, rfl, sp5.tup.sq, plast, sz3, fun T6 hT6 => ?_⟩
  have k6 : Fr [] H5 (upd H5 T6 (.tup [.str "join", .str lx, .str "s"])) := Fr.new hT6 _
  have b6 : IsV K (upd H5 T6 (.tup [.str "join", .str lx, .str "s"])) (Ex.val (jn (.var lx) (.var "s"))) (.ref T6) := isV_l (.of upd_same) (IsVs.cons rfl (IsVs.cons rfl (IsVs.one rfl)))
  have hA6 := hA5.fr k6 (by simp) (by simp)
  have sp6 := sp5.fr k6
  generalize upd H5 T6 (.tup [.str "join", .str lx, .str "s"]) = H6 at *
  refine ⟨_, rfl, 1, rfl, pa, _, -1, _, rfl, rfl, sp6.tup.sq, plast, sz3, fun T7 hT7 => ?_⟩
  have k7 : Fr [] H6 (upd H6 T7 (.tup [.str "same", .str lx, .str "s"])) := Fr.new hT7 _
  have b7 : IsV K (upd H6 T7 (.tup [.str "same", .str lx, .str "s"])) (Ex.val (.app (.pr .same) [.var lx, .var "s"])) (.ref T7) := isV_l (.of upd_same) (IsVs.cons rfl (IsVs.cons rfl (IsVs.one rfl)))
  have b67 := b6.fr k7
  have hA7 := hA6.fr k7 (by simp) (by simp)
  have sp7 := sp6.fr k7
  generalize upd H6 T7 (.tup [.str "same", .str lx, .str "s"]) = H7 at *
  refine ⟨sz3, fun L8 hL8 => ?_⟩
  have k8 : Fr [] H7 (upd H7 L8 (.lst [.str "s", .ref T6, .ref T7])) := Fr.new hL8 _
  have e8 : upd H7 L8 (.lst [.str "s", .ref T6, .ref T7]) L8 = some (.lst [.str "s", .ref T6, .ref T7]) := upd_same
  have b68 := b67.fr k8
  have b78 := b7.fr k8
  have hA8 := hA7.fr k8 (by simp) (by simp)
  have sp8 := sp7.fr k8
  have nL := hA7.ne hL8
  generalize upd H7 L8 (.lst [.str "s", .ref T6, .ref T7]) = H8 at *
  refine ⟨_, rfl, h, dl, 3, rfl, hA8, by decide, by decide, fun r H9 hr9 f9 hA9 => ?_⟩
  have sp9 := sp8.fr f9
  have e9 := f9.keep L8 _ (by simp [nL.1]) e8
  have hs : ("s" : Str) ∈ pk k := by simp [pk]
  obtain ⟨vb, B, hvb, hB, bB⟩ : ∃ vb B, ([.str "s", .ref T6, .ref T7] : List V)[r]? = some vb ∧ IsV K H9 (Ex.val B) vb ∧ BOk (pk k) 26 2 B := by
    have o1 := bok_2 (o := .join) rfl (bok_var lmem) (bok_var hs) (Nat.le_refl _)
    have o2 := bok_2 (o := .same) rfl (bok_var lmem) (bok_var hs) (Nat.le_refl _)
    rcases (show r = 0 ∨ r = 1 ∨ r = 2 by omega) with rfl | rfl | rfl
    · exact ⟨_, .var "s", rfl, rfl, (bok_var hs).le (by decide) (by decide)⟩
    · exact ⟨_, _, rfl, b68.fr f9, o1.le (by decide) (by decide)⟩
    · exact ⟨_, _, rfl, b78.fr f9, o2.le (by decide) (by decide)⟩
  refine ⟨L8, _, _, vb, rfl, rfl, .of e9, atI_nat hvb, ?_⟩
  clear e9 e8 b68 b78 b67 b7 b6 k6 k7 k8 f9 sp8 sp7 sp6 sp5 hA5 hA6 hA7 hA8 hT6 hT7 hL8 nL
  -- another body
  refine ⟨_, rfl, h, dl, 3, rfl, hA9, by decide, by decide, fun r2 H10 hr2 f10 hA10 => ?_⟩
  have sp10 := sp9.fr f10
  have hB10 := hB.fr f10
  refine ⟨rfl, _, rfl, ?_⟩
  refine ite2 (fun _ => ?_) (fun _ => ?_)
  case' refine_1 =>
    clear hB10 hB bB hvb
    refine ⟨_, rfl, _, rfl, (by show 0 ≤ sizeLine; decide), fun cl hcl => ?_⟩
    have k11 : Fr [] H10 (upd H10 cl (.lst [])) := Fr.new hcl _
    have ncl := hA10.ne hcl
    refine ⟨h, dl, pa, cl, pk k, rfl, hA10.fr k11 (by simp) (by simp), (sp10.fr k11).tup, upd_same, ncl.1, ncl.2, by simp [pk], pk_len hk, fun H11 vb B f11 hA11 hB11 bB => ?_⟩
    have sp11 := (sp10.fr k11).fr f11
    clear k11 f11 hcl ncl
  case' refine_2 =>
    have sp11 := sp10
    have hB11 := hB10
    have hA11 := hA10
    generalize H10 = H11 at sp11 hB11 hA11
    clear hB10
  all_goals
    clear hA10 sp10 f10
    refine ⟨_, rfl, _, rfl, sz3, fun T12 hT12 => ?_⟩
    have k12 : Fr [] H11 (upd H11 T12 (.tup [.str "main", .ref pa, vb])) := Fr.new hT12 _
    have t12 : TupAt K (upd H11 T12 (.tup [.str "main", .ref pa, vb])) T12 [.str "main", .ref pa, vb] := .of upd_same
    have sp12 := sp11.fr k12
    have hB12 := hB11.fr k12
    have hA12 := hA11.fr k12 (by simp) (by simp)
    generalize upd H11 T12 (.tup [.str "main", .ref pa, vb]) = H12 at *
    refine ⟨(by show 1 ≤ sizeLine; decide), fun T13 hT13 => ?_⟩
    have k13 : Fr [] H12 (upd H12 T13 (.tup [.ref T12])) := Fr.new hT13 _
    have hP13 : IsP K (upd H12 T13 (.tup [.ref T12])) (PP k false B) (.ref T13) := ⟨T13, _, rfl, .of upd_same, All2.one ⟨T12, pa, vb, rfl, t12.fr k13, sp12.fr k13, hB12.fr k13⟩⟩
    have sp13 := sp12.fr k13
    have hB13 := hB12.fr k13
    have hA13 := hA12.fr k13 (by simp) (by simp)
    generalize upd H12 T13 (.tup [.ref T12]) = H13 at *
    clear k12 k13 hT12 hT13 t12 sp12 hB12 hA12 sp11 hB11 hA11
    refine ⟨_, rfl, h, dl, 2, rfl, hA13, by decide, by decide, fun r3 H14 hr3 f14 hA14 => ?_⟩
    have sp14 := sp13.fr f14
    have hB14 := hB13.fr f14
    have hP14 := hP13.fr f14
    clear sp13 hB13 hP13 hA13 f14
    refine ⟨rfl, _, rfl, ?_⟩
    refine ite2 (fun _ => ?_) (fun _ => ?_)
    case' refine_1 =>
      clear hP14
      refine ⟨(by show 2 ≤ sizeLine; decide), fun Ta oa hTa ha => ?_⟩
      have k15 : Fr [] H14 (upd H14 Ta (.frz oa (.tup [.str "a", .str "b"]))) := Fr.new hTa _
      have s15 : StrAt K (upd H14 Ta (.frz oa (.tup [.str "a", .str "b"]))) Ta ["a", "b"] := .new (ps := ["a", "b"]) ha
      generalize upd H14 Ta (.frz oa (.tup [.str "a", .str "b"])) = H15 at *
      refine ⟨(by show 0 ≤ sizeLine; decide), fun Te hTe => ?_⟩
      have k16 : Fr [] H15 (upd H15 Te (.tup [])) := Fr.new hTe _
      have v16 : IsV K (upd H15 Te (.tup [])) nil (.ref Te) := isV_l (.of upd_same) rfl
      generalize upd H15 Te (.tup []) = H16 at *
      refine ⟨(by show 2 ≤ sizeLine; decide), fun Tq hTq => ?_⟩
      have k17 : Fr [] H16 (upd H16 Tq (.tup [.str "quote", .ref Te])) := Fr.new hTq _
      have v17 : IsV K (upd H16 Tq (.tup [.str "quote", .ref Te])) (Ex.val (.quo nil)) (.ref Tq) := isV_l (.of upd_same) (IsVs.cons rfl (IsVs.one (v16.fr k17)))
      generalize upd H16 Tq (.tup [.str "quote", .ref Te]) = H17 at *
      refine ⟨sz3, fun Tj hTj => ?_⟩
      have k18 : Fr [] H17 (upd H17 Tj (.tup [.str "join", .str "b", .ref Tq])) := Fr.new hTj _
      have v18 : IsV K (upd H17 Tj (.tup [.str "join", .str "b", .ref Tq])) (Ex.val (jn (.var "b") (.quo nil))) (.ref Tj) := isV_l (.of upd_same) (IsVs.cons rfl (IsVs.cons rfl (IsVs.one (v17.fr k18))))
      generalize upd H17 Tj (.tup [.str "join", .str "b", .ref Tq]) = H18 at *
      refine ⟨sz3, fun Tk hTk => ?_⟩
      have k19 : Fr [] H18 (upd H18 Tk (.tup [.str "join", .str "a", .ref Tj])) := Fr.new hTk _
      have v19 : IsV K (upd H18 Tk (.tup [.str "join", .str "a", .ref Tj])) (Ex.val (jn (.var "a") (jn (.var "b") (.quo nil)))) (.ref Tk) := isV_l (.of upd_same) (IsVs.cons rfl (IsVs.cons rfl (IsVs.one (v18.fr k19))))
      generalize upd H18 Tk (.tup [.str "join", .str "a", .ref Tj]) = H19 at *
      refine ⟨sz3, fun T2 hT2 => ?_⟩
      have k20 : Fr [] H19 (upd H19 T2 (.tup [.str "two", .ref Ta, .ref Tk])) := Fr.new hT2 _
      have t20 : IsF K (upd H19 T2 (.tup [.str "two", .ref Ta, .ref Tk])) two (.ref T2) := ⟨T2, Ta, .ref Tk, rfl, .of upd_same, ((((s15.fr k16).fr k17).fr k18).fr k19).fr k20, v19.fr k20⟩
      have k14 := ((((k15.trans k16).trans k17).trans k18).trans k19).trans k20
      have sp20 := sp14.fr k14
      have hB20 := hB14.fr k14
      have hA20 := hA14.fr k14 (by simp) (by simp)
      generalize upd H19 T2 (.tup [.str "two", .ref Ta, .ref Tk]) = H20 at *
      clear k14 k15 k16 k17 k18 k19 k20 v16 v17 v18 v19 s15 hTa hTe hTq hTj hTk hT2 sp14 hB14 hA14
      refine ⟨_, rfl, _, rfl, sz3, fun Tb hTb => ?_⟩
      have k21 : Fr [] H20 (upd H20 Tb (.tup [.str "two", vb, .str "s"])) := Fr.new hTb _
      have v21 : IsV K (upd H20 Tb (.tup [.str "two", vb, .str "s"])) (Ex.val (.app (.fn "two") [B, .var "s"])) (.ref Tb) := isV_l (.of upd_same) (IsVs.cons rfl (IsVs.cons (hB20.fr k21) (IsVs.one rfl)))
      have sp21 := sp20.fr k21
      have t21 := t20.fr k21
      have hA21 := hA20.fr k21 (by simp) (by simp)
      generalize upd H20 Tb (.tup [.str "two", vb, .str "s"]) = H21 at *
      refine ⟨sz3, fun Tm hTm => ?_⟩
      have k22 : Fr [] H21 (upd H21 Tm (.tup [.str "main", .ref pa, .ref Tb])) := Fr.new hTm _
      have v22 : IsF K (upd H21 Tm (.tup [.str "main", .ref pa, .ref Tb])) ⟨"main", pk k, .app (.fn "two") [B, .var "s"]⟩ (.ref Tm) := ⟨Tm, pa, _, rfl, .of upd_same, sp21.fr k22, v21.fr k22⟩
      have sp22 := sp21.fr k22
      have t22 := t21.fr k22
      have hA22 := hA21.fr k22 (by simp) (by simp)
      generalize upd H21 Tm (.tup [.str "main", .ref pa, .ref Tb]) = H22 at *
      refine ⟨_, rfl, (by show 2 ≤ sizeLine; decide), fun Tp hTp => ?_⟩
      have k23 : Fr [] H22 (upd H22 Tp (.tup [.ref Tm, .ref T2])) := Fr.new hTp _
      have hP : IsP K (upd H22 Tp (.tup [.ref Tm, .ref T2])) (PP k true B) (.ref Tp) := ⟨Tp, _, rfl, .of upd_same, ⟨_, _, rfl, v22.fr k23, All2.one (t22.fr k23)⟩⟩
      have sp23 := sp22.fr k23
      have hA23 := hA22.fr k23 (by simp) (by simp)
      generalize upd H22 Tp (.tup [.ref Tm, .ref T2]) = H23 at *
      have hPt : ∃ t, IsP K H23 (PP k t B) (.ref Tp) := ⟨_, hP⟩
      clear hP k21 k22 k23 v21 v22 sp20 sp21 sp22 t20 t21 t22 hA20 hA21 hA22 hTb hTm hTp hB20
    case' refine_2 =>
      have hP := hP14
      have sp23 := sp14
      have hA23 := hA14
      generalize H14 = H23 at hP sp23 hA23
      have hPt : ∃ t, IsP K H23 (PP k t B) (.ref T13) := ⟨_, hP⟩
      clear hP hP14 sp14 hA14 hB14
    all_goals
      obtain ⟨t, hP⟩ := hPt
      obtain ⟨mz, md, ml⟩ := mac_val (t := t) hk bB
      have hqq := qq_eq k t B bB.cf
      have hrr := rr_eq k t B bB.cf
      have pkl : (pk k).length = k + 1 := by rw [List.length_map] at pl; exact pl
      refine ⟨_, rfl, PP k t B, mainF k t B, k, _, rfl, hP, ren_PP hk bB, ren_TR, PP_head k t B, pkl, by omega, Nat.le_trans (PP_len k t B) (by decide), ren_hand hk bB, by rw [hrr]; exact (ren_rr hk bB).good, by rw [hqq]; exact (ren_qq hk bB).good, fun f hf => by rw [hqq] at hf; exact ⟨qq_ok k hk t B bB.ok f hf, (qq_fc hk bB f hf).2.2⟩, by rw [hqq]; omega, fun H24 vm f24 hvm => ?_⟩
      rw [hqq] at hvm
      have hP24 := hP.fr f24
      have sp24 := sp23.fr f24
      have hA24 := hA23.fr f24 (by simp) (by simp)
      clear f24 hP sp23 hA23
      refine ⟨_, rfl, toM (qq k t B), vm, rfl, hvm, mac_qq hk bB, by omega, fun H25 f25 => ⟨rfl, _, rfl, ?_⟩⟩
      have hvm25 := hvm.fr f25
      have hP25 := hP24.fr f25
      have sp25 := sp24.fr f25
      have hA25 := hA24.fr f25 (by simp) (by simp)
      clear f25 hP24 sp24 hA24 hvm
      refine iteF ?_
      refine ⟨_, rfl, h, dl, 6, rfl, hA25, by decide, by decide, fun r6 H26 hr6 f26 hA26 => ?_⟩
      refine ⟨(r6 : Int), 0, rfl, rfl, _, rfl, ?_⟩
      refine ite2 (fun _ => q _) (fun _ => ?_)
      have hvm26 := hvm25.fr f26
      have hP26 := hP25.fr f26
      have sp26 := sp25.fr f26
      clear f26 hP25 sp25 hA25 hvm25
      -- the inputs
      have pne : (pk k).map V.str ≠ [] := fun z => by rw [z] at pl; simp at pl
      refine ⟨_, rfl, _, rfl, rfl, rfl, pa, _, rfl, sp26.tup, pne, fun p27 hp27 => ?_⟩
      have k27 : Fr [] H26 (upd H26 p27 (.tup (((pk k).map V.str).drop 1))) := Fr.new hp27 _
      have e27 : upd H26 p27 (.tup (((pk k).map V.str).drop 1)) p27 = some (.tup (((pk k).map V.str).drop 1)) := upd_same
      have hvm27 := hvm26.fr k27
      have hP27 := hP26.fr k27
      have hA27 := hA26.fr k27 (by simp) (by simp)
      clear k27 sp26 hP26 hvm26
      generalize upd H26 p27 (.tup (((pk k).map V.str).drop 1)) = H27 at *
      have dl27 : (((pk k).map V.str).drop 1).length = k := by rw [List.length_drop, pl]; omega
      refine ⟨p27, rfl, ⟨_, .inl (.inl e27)⟩, fun D hD => lc_tup (K := K) (a := p27) (xs := ((pk k).map V.str).drop 1) (fun i H' => ∃ (acc : List V) (ws : List Val), H' D = some (.lst acc) ∧ Fr [h] H27 H' ∧ HandAt H' h dl ∧ IsVs K H' ws acc ∧ ws.length = i ∧ ∀ x ∈ ws, Sz 200001 41 x)
        ⟨[], [], upd_same, Fr.new hD _, hA27.fr (Fr.new (S := []) hD _) (by simp) (by simp), rfl, rfl, fun x hx => nomatch hx⟩ (fun i H' _ ⟨_, _, _, f, _⟩ => .inl (.inl (f.tup _ _ e27))) ?_ ?_⟩
      · rintro i x H28 hx ⟨acc, ws, e28, f28, hA28, hws, hwl, hwz⟩
        have hi := (List.getElem?_eq_some_iff.mp hx).1
        have nD := hA27.ne hD
        have hal := hws.len
        refine ⟨rfl, ?_⟩
        refine ⟨_, rfl, _, rfl, h, dl, rfl, hA28, fun H29 vx xv f29 hA29 hvx sx dx => ?_⟩
        have nb : ∀ H', Fr [h] H28 H' → H' D = some (.lst acc) := fun H' f => f.keep D _ (by simp [nD.1]) e28
        have e29 := nb H29 f29
        refine ⟨(by show 2 ≤ sizeLine; decide), fun L30 hL30 => ?_⟩
        have nL := hA29.ne hL30
        have k30 : Fr [] H29 (upd H29 L30 (.lst [vm, vx])) := Fr.new hL30 _
        have e30 : upd H29 L30 (.lst [vm, vx]) L30 = some (.lst [vm, vx]) := upd_same
        have hA30 := hA29.fr k30 (by simp) (by simp)
        have d30 := k30.keep D _ (by simp) e29
        have hvx30 := hvx.fr k30
        have f30 := (f28.trans f29).trans (k30.mono (by simp))
        have hws30 := (hws.fr f29).fr k30
        generalize upd H29 L30 (.lst [vm, vx]) = H30 at *
        refine ⟨_, rfl, h, dl, 2, rfl, hA30, by decide, by decide, fun r7 H31 hr7 f31 hA31 => ?_⟩
        have e31 := f31.keep L30 _ (by simp [nL.1]) e30
        have d31 := f31.keep D _ (by simp [nD.1]) d30
        have hvm31 := (hvm27.fr f30).fr f31
        obtain ⟨vz, z, hvz, hz1, hz2⟩ : ∃ vz z, ([vm, vx] : List V)[r7]? = some vz ∧ IsV K H31 z vz ∧ Sz 200001 41 z := by
          rcases (show r7 = 0 ∨ r7 = 1 by omega) with rfl | rfl
          · exact ⟨vm, _, rfl, hvm31, ⟨mz, md⟩⟩
          · exact ⟨vx, xv, rfl, hvx30.fr f31, ⟨Nat.le_trans sx (by decide), Nat.le_trans dx (by decide)⟩⟩
        refine ⟨L30, _, _, vz, rfl, rfl, .of e31, atI_nat hvz, acc, d31, smallB (by omega), acc ++ [vz], ws ++ [z], upd_same, ?_⟩
        have k32 : Fr [D] H31 (upd H31 D (.lst (acc ++ [vz]))) := Fr.set (List.mem_singleton.mpr rfl) d31 (fun _ z => by cases z) _
        have nDh : D ≠ h := nD.1
        refine ⟨((f30.trans f31).over hD _), hA31.fr k32 (by simp [Ne.symm nD.1]) (by simp [Ne.symm nD.2]), ((hws30.fr f31).fr k32).app (IsVs.one (hz1.fr k32)), by rw [List.length_append, List.length_singleton, hwl], fun y hy => ?_⟩
        rcases List.mem_append.mp hy with hy | hy
        · exact hwz y hy
        · rw [List.mem_singleton.mp hy]; exact hz2
      · rintro H28 ⟨acc, ws, e28, f28, hA28, hws, hwl, hwz⟩
        rw [dl27] at hwl
        have hvm28 := hvm27.fr f28
        have hP28 := hP27.fr f28
        clear hvm27 hP27 e27 hA27 hD hp27
        refine ⟨_, rfl, _, rfl, (by show 1 ≤ sizeLine; decide), fun L33 hL33 => ?_⟩
        have k33 : Fr [] H28 (upd H28 L33 (.lst [vm])) := Fr.new hL33 _
        have e33 : upd H28 L33 (.lst [vm]) L33 = some (.lst [vm]) := upd_same
        have hvm33 := hvm28.fr k33
        have hP33 := hP28.fr k33
        have hws33 := hws.fr k33
        have d33 := k33.keep D _ (by simp) e28
        generalize upd H28 L33 (.lst [vm]) = H33 at *
        have hal := hws.len
        refine ⟨_, rfl, L33, D, _, _, rfl, rfl, e33, d33, Nat.le_of_lt (smallB (by show 1 + acc.length ≤ _; omega)), fun L34 hL34 => ?_⟩
        have k34 : Fr [] H33 (upd H33 L34 (.lst ([vm] ++ acc))) := Fr.new hL34 _
        have e34 : upd H33 L34 (.lst ([vm] ++ acc)) L34 = some (.lst (vm :: acc)) := upd_same
        have hvm34 := hvm33.fr k34
        have hP34 := hP33.fr k34
        have hws34 := hws33.fr k34
        have d34 := k34.keep D _ (by simp) d33
        generalize upd H33 L34 (.lst ([vm] ++ acc)) = H34 at *
        have hlw : (pk k).length = ((toM (qq k t B)).val :: ws).length := by rw [pkl, List.length_cons, hwl]
        have hall : ∀ x ∈ (toM (qq k t B)).val :: ws, Sz 200001 41 x := fun x hx => by
          rcases List.mem_cons.mp hx with rfl | hx
          · exact ⟨mz, md⟩
          · exact hwz x hx
        obtain ⟨pv1, pv2, pv3, pv4⟩ := pval_all (t := t) bB hlw hall
        have pnd : (pk k).Nodup := by rcases k3 hk with rfl | rfl | rfl <;> decide
        refine ⟨PP k t B, mainF k t B, _, L34, (toM (qq k t B)).val :: ws, vm :: acc, rfl, hP34, e34, IsVs.cons hvm34 hws34, PP_head k t B, hlw, pnd, PP_nd k t B, PP_len k t B, by rw [← hlw, pkl]; omega, pv1, fun H35 ra f35 hres => ?_⟩
        rw [show (mainF k t B).ps = pk k from rfl, pv2] at hres
        generalize hX : pval k t B ((toM (qq k t B)).val :: ws) = X at *
        have hvm35 := hvm34.fr f35
        have hws35 := hws34.fr f35
        have d35 := f35.keep D _ (by simp) d34
        clear hvm34 hws34 d34 hvm33 hvm28 hP33 hP28 hP34 hws33 hws e34 e33 k33 k34 hL33 hL34 f35 f28 d33 e28 hA28
        rcases hres with ⟨pv, stp, tr, hpv⟩ | tr
        · refine ⟨_, rfl, ra, _, 0, _, rfl, rfl, tr.sq, at0, rfl, _, rfl, ?_⟩
          rw [seq rfl]
          refine iteF ?_
          refine ⟨_, rfl, ra, _, 1, _, rfl, rfl, tr.sq, atI_nat (j := 1) rfl, X, pv, rfl, hpv, by omega, fun H36 bl f36 hbl => ⟨_, rfl, ?_⟩⟩
          cases bl with
          | false =>
            refine iteT ?_
            exact q _
          | true =>
            have xz := hbl rfl
            refine iteF ?_
            have hvm36 := hvm35.fr f36
            have hws36 := hws35.fr f36
            have d36 := f36.keep D _ (by simp) d35
            have tr36 := tr.fr f36
            have hpv36 := hpv.fr f36
            obtain ⟨n, j, f, hf, hn, hre⟩ := run_qq k hk t B bB.cf bB.ok bB.small ws hwl
            rw [hX] at hre
            have hhd : (toM (qq k t B)).head? = some ⟨.w f.name, f.code⟩ := by
              cases hq : qq k t B with
              | nil => rw [hq] at hf; cases hf
              | cons g r => rw [hq] at hf; cases hf; rfl
            have wz : Val.sizes ws ≤ 1000000 := by
              have := sizes_all (n := 200001) (xs := ws) fun x hx => (hwz x hx).z
              rw [hwl] at this
              have h2 : k * 200001 ≤ 2 * 200001 := Nat.mul_le_mul_right _ hk
              omega
            refine ⟨_, rfl, _, rfl, toM (qq k t B), ws, vm, D, acc, _, n, j, X, rfl, hvm36, d36, hws36, mac_qq hk bB, hhd, hre, hn, by omega, wz, by omega, by omega, by omega, fun H37 s37 dx37 val37 stp37 f37 e37 hval37 => ?_⟩
            have tr37 := tr36.fr f37
            have hpv37 := hpv36.fr f37
            refine ⟨_, rfl, s37, CR, dx37, _, _, rfl, e37, cR.cls, cR.nK, rfl, _, rfl, s37, CR, dx37, _, _, rfl, e37, cR.cls, cR.nV, rfl, (by show 2 ≤ sizeLine; decide), fun T38 hT38 => ?_⟩
            have k38 : Fr [] H37 (upd H37 T38 (.tup [.str "done", val37])) := Fr.new hT38 _
            have v38 : IsV K (upd H37 T38 (.tup [.str "done", val37])) (.l [.w "done", X]) (.ref T38) := isV_l (.of upd_same) (IsVs.cons rfl (IsVs.one (hval37.fr k38)))
            have tr38 := tr37.fr k38
            have hpv38 := hpv37.fr k38
            generalize upd H37 T38 (.tup [.str "done", val37]) = H38 at *
            refine ⟨_, rfl, ra, _, 1, _, rfl, rfl, tr38.sq, atI_nat (j := 1) rfl, (by show 2 ≤ sizeLine; decide), fun T39 hT39 => ?_⟩
            have k39 : Fr [] H38 (upd H38 T39 (.tup [.str "done", pv])) := Fr.new hT39 _
            have v39 : IsV K (upd H38 T39 (.tup [.str "done", pv])) (.l [.w "done", X]) (.ref T39) := isV_l (.of upd_same) (IsVs.cons rfl (IsVs.one (hpv38.fr k39)))
            refine ⟨_, _, v38.fr k39, v39, ?_, ?_⟩
            · have : (Val.l [.w "done", X]).depth ≤ 51 := by
                show max (0 + 1) (max (X.depth + 1) 1) ≤ 51
                omega
              omega
            · rw [decide_eq_true rfl]
              exact q _
        · refine ⟨_, rfl, ra, _, 0, _, rfl, rfl, tr.sq, at0, rfl, _, rfl, ?_⟩
          rw [sne (show ("tired" : Str) ≠ "done" by decide)]
          refine iteT ?_
          exact q _
end
end Og

set_option Elab.async false
set_option linter.all false
set_option maxRecDepth 100000
set_option maxHeartbeats 0
/-! OgHead: the head: what the top leaves. -/
namespace Og
open PySem PySem.Spec PyProof.Rows L2
theorem mem_upF : ∀ {n a b : Nat}, a ≤ b → b < a + n → b ∈ upF n a
  | 0, a, b, h, g => by omega
  | n + 1, a, b, h, g => by
    rcases Nat.lt_or_ge a b with l | l
    · exact List.mem_cons_of_mem _ (mem_upF (n := n) (a := a + 1) (by omega) (by omega))
    · have : b = a := by omega
      rw [this]
      exact List.mem_cons_self
theorem frG_mem {g : Addr → Option Obj} {a : Addr} {o : Obj} (e : g a = some o) : ∀ as : List Addr, a ∈ as → (He.frG g as).lookup a = some o
  | [], h => nomatch h
  | b :: r, h => by
    unfold He.frG
    cases hb : g b with
    | none =>
      have ne : a ≠ b := fun z => by rw [z, hb] at e; cases e
      rw [List.filterMap_cons, hb]
      exact frG_mem e r ((List.mem_cons.mp h).resolve_left ne)
    | some ob =>
      rw [List.filterMap_cons, hb]
      show (match a == b with | true => some ob | false => (He.frG g r).lookup a) = some o
      cases q : (a == b) with
      | true =>
        have : a = b := beq_iff_eq.mp q
        rw [this, hb] at e
        exact e
      | false => exact frG_mem e r ((List.mem_cons.mp h).resolve_left fun z => by rw [z, beq_self_eq_true] at q; cases q)
theorem frO_at {g : Addr → Option Obj} {a : Addr} {o : Obj} (h : a < lim) (e : g a = some o) : (frO g).lookup a = some o := frG_mem e _ (List.mem_append_right _ (mem_upF (Nat.zero_le _) (by rw [Nat.zero_add]; exact h)))
/-- a tuple of the part -/
structure TupK (K : PySem.W.Frag) (a : Addr) (its : List Value) : Prop where
  ex : ∃ (o : Obj) (ar : Array Value) (n : Nat), K.lookup a = some o ∧ o.dict = none ∧ o.cls = .type "tuple" ∧ o.data = .seq ar n ∧ ar.size ≤ sizeLine ∧ ar.toList = its
theorem TupK.at {K : PySem.W.Frag} {a : Addr} {its : List Value} {vs : List V} (t : TupK K a its) (h : Vals vs its) (H : Hp) : TupAt K H a vs := by
  obtain ⟨o, ar, n, h1, h2, h3, h4, h5, rfl⟩ := t.ex
  exact .inr ⟨o, ar, n, h1, h3, h4, h5, h⟩
theorem TupK.str {K : PySem.W.Frag} {a : Addr} {its : List Value} {ps : List Str} (t : TupK K a its) (h : Vals (ps.map V.str) its) (H : Hp) : StrAt K H a ps := by
  obtain ⟨o, ar, n, h1, h2, h3, h4, h5, rfl⟩ := t.ex
  exact .inr ⟨o, ar, n, h1, h2, h3, h4, h5, h⟩
section
variable {g : Addr → Option Obj}
theorem rdV_tup {n : Nat} {xs : List Val} {u : Value} (h : rdV g n u = (Val.l xs).rd) : ∃ m a its, u = .ref a ∧ TupK (frO g) a its ∧ its.map (rdV g m) = Val.rds xs := by
  cases n with
  | zero => cases h
  | succ n =>
    cases u with
    | ref a =>
      have h1 : (match Nat.blt a lim with
        | true => (match g a with
          | some ⟨.type c, none, .seq its _, _⟩ => Rd.l c (Nat.ble its.size sizeLine) (its.toList.map (rdV g n))
          | _ => .bad)
        | false => .bad) = Rd.l "tuple" true (Val.rds xs) := h
      cases q : Nat.blt a lim with
      | false =>
        rw [q] at h1
        cases h1
      | true =>
        rw [q] at h1
        have lt : a < lim := Nat.le_of_ble_eq_true q
        cases e : g a with
        | none =>
          rw [e] at h1
          cases h1
        | some o =>
          rw [e] at h1
          have e2 := frO_at lt e
          obtain ⟨oc, od, dt, osl⟩ := o
          cases oc with
          | type c =>
            cases od with
            | none =>
              cases dt with
              | seq its k =>
                have h2 : Rd.l c (Nat.ble its.size sizeLine) (its.toList.map (rdV g n)) = Rd.l "tuple" true (Val.rds xs) := h1
                injection h2 with h3 h4 h5
                exact ⟨n, a, its.toList, rfl, ⟨⟨_, its, k, e2, rfl, congrArg Value.type h3, rfl, Nat.le_of_ble_eq_true h4, rfl⟩⟩, h5⟩
              | _ => cases h1
            | some b => cases dt <;> cases h1
          | _ => cases od <;> cases dt <;> cases h1
    | _ => cases h
mutual
theorem rdV_ok (H : Hp) : ∀ (x : Val) (n : Nat) (u : Value), rdV g n u = x.rd → ∃ v, RelV v u ∧ IsV (frO g) H x v
  | .w s, n, u, h => by
    cases n with
    | zero => cases h
    | succ n =>
      cases u with
      | str x t =>
        have h1 : Rd.w x = Rd.w s := h
        injection h1 with h1
        subst h1
        exact ⟨.str x, ⟨t, rfl⟩, rfl⟩
      | ref a =>
        have h1 : (match Nat.blt a lim with
          | true => (match g a with
            | some ⟨.type c, none, .seq its _, _⟩ => Rd.l c (Nat.ble its.size sizeLine) (its.toList.map (rdV g n))
            | _ => .bad)
          | false => .bad) = Rd.w s := h
        split at h1
        · split at h1 <;> cases h1
        · cases h1
      | _ => cases h
  | .l xs, n, u, h => by
    obtain ⟨m, a, its, rfl, t, h2⟩ := rdV_tup h
    obtain ⟨vs, r, i⟩ := rdVs_ok H xs m its h2
    exact ⟨.ref a, rfl, isV_l (t.at r H) i⟩
theorem rdVs_ok (H : Hp) : ∀ (xs : List Val) (m : Nat) (us : List Value), us.map (rdV g m) = Val.rds xs → ∃ vs, Vals vs us ∧ IsVs (frO g) H xs vs
  | [], m, us, h => by
    cases us with
    | nil => exact ⟨[], .nil, rfl⟩
    | cons u us => cases h
  | x :: xs, m, us, h => by
    cases us with
    | nil => cases h
    | cons u us =>
      have h0 : rdV g m u :: us.map (rdV g m) = x.rd :: Val.rds xs := h
      injection h0 with h1 h2
      obtain ⟨v, r1, i1⟩ := rdV_ok H x m u h1
      obtain ⟨vs, r2, i2⟩ := rdVs_ok H xs m us h2
      exact ⟨v :: vs, .cons r1 r2, IsVs.cons i1 i2⟩
end
theorem strB {m : Nat} {l : List Str} {us : List Value} (h : us.map (rdV g m) = Val.rds (l.map .w)) : Vals (l.map V.str) us := by
  obtain ⟨vs, r, i⟩ := rdVs_ok (g := g) (fun _ => none) _ m us h
  rw [isVs_ws i] at r
  exact r
theorem tupleB {n : Nat} {l : List Str} {a : Addr} (h : rdV g n (.ref a) = (Val.l (l.map .w)).rd) (H : Hp) : TupAt (frO g) H a (l.map .str) := by
  obtain ⟨m, b, its, e, t, h2⟩ := rdV_tup h
  cases e
  exact t.at (strB h2) H
theorem fnB (H : Hp) {n : Nat} {f : Fn} {u : Value} (h : rdV g n u = f.val.rd) : ∃ v, RelV v u ∧ IsF (frO g) H f v := by
  obtain ⟨m, a, its, rfl, t, h2⟩ := rdV_tup (xs := [.w f.name, .l (f.ps.map .w), f.body.val]) h
  match its, h2, t with
  | [], h2, _ => cases h2
  | [_], h2, _ =>
    injection h2 with _ h2
    cases h2
  | [_, _], h2, _ =>
    injection h2 with _ h2
    injection h2 with _ h2
    cases h2
  | _ :: _ :: _ :: _ :: _, h2, _ =>
    injection h2 with _ h2
    injection h2 with _ h2
    injection h2 with _ h2
    cases h2
  | [u1, u2, u3], h2, t =>
    have h3 : [rdV g m u1, rdV g m u2, rdV g m u3] = [(Val.w f.name).rd, (Val.l (f.ps.map .w)).rd, f.body.val.rd] := h2
    injection h3 with a1 h3
    injection h3 with a2 h3
    injection h3 with a3 _
    obtain ⟨v1, q1, i1⟩ := rdV_ok H _ m _ a1
    obtain ⟨m2, b, its2, rfl, t2, s2⟩ := rdV_tup a2
    obtain ⟨v3, q3, i3⟩ := rdV_ok H _ m _ a3
    obtain rfl : v1 = .str f.name := i1
    exact ⟨.ref a, rfl, a, b, v3, rfl, t.at (.cons q1 (.cons (show RelV (.ref b) (Value.ref b) from rfl) (.cons q3 .nil))) H, t2.str (strB s2) H, i3⟩
theorem fnsB (H : Hp) {n : Nat} : ∀ {p : Prog} {us : List Value}, us.map (rdV g n) = Val.rds (p.map Fn.val) → ∃ vs, Vals vs us ∧ All2 (IsF (frO g) H) p vs
  | [], us, h => by
    cases us with
    | nil => exact ⟨[], .nil, rfl⟩
    | cons u us => cases h
  | f :: p, us, h => by
    cases us with
    | nil => cases h
    | cons u us =>
      have h0 : rdV g n u :: us.map (rdV g n) = f.val.rd :: Val.rds (p.map Fn.val) := h
      injection h0 with h1 h2
      obtain ⟨v, r1, i1⟩ := fnB H h1
      obtain ⟨vs, r2, i2⟩ := fnsB H h2
      exact ⟨v :: vs, .cons r1 r2, ⟨_, _, rfl, i1, i2⟩⟩
theorem progB {n : Nat} {p : Prog} {a : Addr} (h : rdV g n (.ref a) = (Prog.val p).rd) (H : Hp) : IsP (frO g) H p (.ref a) := by
  obtain ⟨m, b, its, e, t, h2⟩ := rdV_tup (xs := p.map Fn.val) h
  cases e
  obtain ⟨vs, r, i⟩ := fnsB H h2
  exact ⟨a, vs, rfl, t.at r H, i⟩
end
theorem ent_of {w : World} : ∀ {l : List DictEntry} {kvs : List (Str × Int)}, l.map entO = tabV w kvs → Paired (entT w) kvs l
  | [], [], _ => .nil
  | [], _ :: _, h => by cases h
  | _ :: _, [], h => by cases h
  | e :: r, p :: kvs, h => by
    have h1 : entO e :: r.map entO = some (p.1, PyData.keyHash w.params p.1, p.2) :: tabV w kvs := h
    injection h1 with h2 h3
    refine .cons ?_ (ent_of h3)
    unfold entO at h2
    split at h2
    · rename_i x t q
      split at h2
      · rename_i i t2 q2
        have h4 := Option.some.inj h2
        obtain ⟨h5, h6⟩ := Prod.mk.inj h4
        obtain ⟨h7, h8⟩ := Prod.mk.inj h6
        exact ⟨⟨t, by rw [q, h5]⟩, h7, ⟨t2, by rw [q2, h8]⟩⟩
      · cases h2
    · cases h2
theorem tabO_ok {K : PySem.W.Frag} {w : World} {a : Addr} {kvs : List (Str × Int)} (nd : (kvs.map (·.1)).Nodup) (h : tabO K a = some (tabV w kvs)) : KTab K w a kvs := by
  unfold tabO at h
  cases q : K.lookup a with
  | none =>
    rw [q] at h
    cases h
  | some o =>
    obtain ⟨oc, od, dt, osl⟩ := o
    rw [q] at h
    cases oc with
    | type c =>
      cases od with
      | none =>
        cases dt with
        | dict es n =>
          have h1 : (match decide (c = "dict") && (osl.isEmpty && !(a == sysModules)) with
            | true => some (es.toList.map entO)
            | false => none) = some (tabV w kvs) := h
          cases z : decide (c = "dict") && (osl.isEmpty && !(a == sysModules)) with
          | false =>
            rw [z] at h1
            cases h1
          | true =>
            rw [z] at h1
            obtain ⟨z1, z2⟩ := He.ba z
            obtain ⟨z3, z4⟩ := He.ba z2
            have e1 : c = "dict" := of_decide_eq_true z1
            have e2 : osl = #[] := Array.isEmpty_iff.mp z3
            have e3 : (a == sysModules) = false := by
              cases y : a == sysModules with
              | false => rfl
              | true =>
                rw [y] at z4
                cases z4
            subst e1 e2
            exact ⟨e3, nd, es, n, q, ent_of (Option.some.inj h1)⟩
        | _ => cases h
      | some b => cases dt <;> cases h
    | _ => cases od <;> cases dt <;> cases h
/-! ### the Hook -/
structure SaysO (w : World) (K : PySem.W.Frag) : Prop where
  d : He.SaysD fa fn K
  tr : ∀ H, IsP K H TR (.ref (He.ga K "TRANSLATOR"))
  sp : ∀ H, TupAt K H (He.ga K "SPECIAL") (SPL.map .str)
  sw : KTab K w (He.ga K "SPECIAL_WORDS") SWt
  ln : KTab K w (He.ga K "LENGTHS") LEN
theorem saysO {w : World} {g : Addr → Option Obj} (e : obsO g = valO w) : SaysO w (frO g) := by
  have e1 : He.obsD fa fn (frO g) = He.valD fn := congrArg (fun z : AlO => z.1) e
  have a1 : rdV g 60 (.ref (He.ga (frO g) "TRANSLATOR")) = (Prog.val TR).rd := congrArg (fun z : AlO => z.2.1.1) e
  have a2 : rdV g 60 (.ref (He.ga (frO g) "SPECIAL")) = (Val.l (SPL.map .w)).rd := congrArg (fun z : AlO => z.2.1.2) e
  have e3 : [tabO (frO g) (He.ga (frO g) "SPECIAL_WORDS"), tabO (frO g) (He.ga (frO g) "LENGTHS")] = [some (tabV w SWt), some (tabV w LEN)] := congrArg (fun z : AlO => z.2.2) e
  injection e3 with b1 b2
  injection b2 with b2 _
  exact ⟨e1, progB a1, tupleB a2, tabO_ok (by decide) b1, tabO_ok (by decide) b2⟩
def hookO : PySem.W.Hook where
  α := AlO
  obs := fun s => obsO s.heap.get?
  val := valO
  says := fun w h => ∃ K : PySem.W.Frag, K.In h ∧ SaysO w K
  of := fun _ _ e => ⟨_, He.frG_in, saysO e⟩
  keeps := fun _ _ _ ⟨K, hK, c⟩ k => ⟨K, PySem.W.Frag.In.keeps hK k, c⟩
theorem ob_eq (s : PySem.W.SharedT) : obO s = hookO.obs s.abs := by
  have e : HandSHeadRun.getT s = s.abs.heap.get? := funext (HandSHeadRun.getT_eq s)
  unfold obO
  rw [e]
  rfl
theorem runH (w : World) : HandSHeadRun.RunEq RR (PySem.W.view RR.prog [66]) hookO obO 6000 loose w := run0 w
end Og

set_option Elab.async false
set_option linter.all false
set_option maxRecDepth 100000
set_option maxHeartbeats 0
/-! OgEnd: the facts, the theorem. -/
namespace Og
open PySem PySem.Spec PyProof.Rows L2
theorem fun_of {K : PySem.W.Frag} {x qual : Str} {st : Stmt} {f : Addr} {fd : FuncData} {kws : List (Str × V)} (F : FunD K x qual (defArgs st) (defBody st) (defScope st) [] kws f fd) : Fun K x qual st f fd := by
  obtain ⟨⟨oc, od, dV, kV, doc, pm, an, cdv, ct, osl, e, lk, hcd, hd, _⟩, kp⟩ := F
  obtain rfl : dV = .none := hd.elim (fun h => h.2) fun h => absurd rfl h.1
  exact ⟨⟨oc, od, kV, doc, pm, an, cdv, ct, osl, e, lk, hcd⟩, kp⟩
theorem facts {P : Program} {w : World} {K : PySem.W.Frag} {h : Heap} {mg : MG} {base : Heap} (X : K.In h) (G : h.Ns mainGlobals mg) (c : SaysO w K) {f0 : Addr} {fd0 : FuncData} (F0 : Fun K "law" "law" s_law f0 fd0) : FnOk P w K mg base CX0 10 f0 fd0 ["_law_script"] (spLaw K) := by
  have F_is_word : Fg K mg "is_word" s_is_word := ⟨_, _, fun_of (c.d.def_ 0 (d := d_is_word) rfl).choose_spec, He.glo_ok X G (c.d.fact 1 (f := .glo "is_word") rfl)⟩
  have F_has_head : Fg K mg "has_head" s_has_head := ⟨_, _, fun_of (c.d.def_ 1 (d := d_has_head) rfl).choose_spec, He.glo_ok X G (c.d.fact 2 (f := .glo "has_head") rfl)⟩
  have F_counts_of : Fg K mg "counts_of" s_counts_of := ⟨_, _, fun_of (c.d.def_ 2 (d := d_counts_of) rfl).choose_spec, He.glo_ok X G (c.d.fact 3 (f := .glo "counts_of") rfl)⟩
  have F_name_fits : Fg K mg "name_fits" s_name_fits := ⟨_, _, fun_of (c.d.def_ 3 (d := d_name_fits) rfl).choose_spec, He.glo_ok X G (c.d.fact 4 (f := .glo "name_fits") rfl)⟩
  have F_parameters_fit : Fg K mg "parameters_fit" s_parameters_fit := ⟨_, _, fun_of (c.d.def_ 4 (d := d_parameters_fit) rfl).choose_spec, He.glo_ok X G (c.d.fact 5 (f := .glo "parameters_fit") rfl)⟩
  have F_body_fits : Fg K mg "body_fits" s_body_fits := ⟨_, _, fun_of (c.d.def_ 5 (d := d_body_fits) rfl).choose_spec, He.glo_ok X G (c.d.fact 6 (f := .glo "body_fits") rfl)⟩
  have F_check_program : Fg K mg "check_program" s_check_program := ⟨_, _, fun_of (c.d.def_ 6 (d := d_check_program) rfl).choose_spec, He.glo_ok X G (c.d.fact 7 (f := .glo "check_program") rfl)⟩
  have F_inputs_of : Fg K mg "inputs_of" s_inputs_of := ⟨_, _, fun_of (c.d.def_ 7 (d := d_inputs_of) rfl).choose_spec, He.glo_ok X G (c.d.fact 8 (f := .glo "inputs_of") rfl)⟩
  have F_made_name : Fg K mg "made_name" s_made_name := ⟨_, _, fun_of (c.d.def_ 8 (d := d_made_name) rfl).choose_spec, He.glo_ok X G (c.d.fact 10 (f := .glo "made_name") rfl)⟩
  have F_made_parameters : Fg K mg "made_parameters" s_made_parameters := ⟨_, _, fun_of (c.d.def_ 9 (d := d_made_parameters) rfl).choose_spec, He.glo_ok X G (c.d.fact 11 (f := .glo "made_parameters") rfl)⟩
  have F_renamed_expression : Fg K mg "renamed_expression" s_renamed_expression := ⟨_, _, fun_of (c.d.def_ 10 (d := d_renamed_expression) rfl).choose_spec, He.glo_ok X G (c.d.fact 12 (f := .glo "renamed_expression") rfl)⟩
  have F_renamed : Fg K mg "renamed" s_renamed := ⟨_, _, fun_of (c.d.def_ 11 (d := d_renamed) rfl).choose_spec, He.glo_ok X G (c.d.fact 13 (f := .glo "renamed") rfl)⟩
  have F_joined : Fg K mg "joined" s_joined := ⟨_, _, fun_of (c.d.def_ 12 (d := d_joined) rfl).choose_spec, He.glo_ok X G (c.d.fact 14 (f := .glo "joined") rfl)⟩
  have F_with_main : Fg K mg "with_main" s_with_main := ⟨_, _, fun_of (c.d.def_ 13 (d := d_with_main) rfl).choose_spec, He.glo_ok X G (c.d.fact 15 (f := .glo "with_main") rfl)⟩
  have F_fill_function : Fg K mg "fill_function" s_fill_function := ⟨_, _, fun_of (c.d.def_ 14 (d := d_fill_function) rfl).choose_spec, He.glo_ok X G (c.d.fact 16 (f := .glo "fill_function") rfl)⟩
  have F_fill : Fg K mg "fill" s_fill := ⟨_, _, fun_of (c.d.def_ 15 (d := d_fill) rfl).choose_spec, He.glo_ok X G (c.d.fact 17 (f := .glo "fill") rfl)⟩
  have F_quoted : Fg K mg "quoted" s_quoted := ⟨_, _, fun_of (c.d.def_ 16 (d := d_quoted) rfl).choose_spec, He.glo_ok X G (c.d.fact 18 (f := .glo "quoted") rfl)⟩
  have F_listed : Fg K mg "listed" s_listed := ⟨_, _, fun_of (c.d.def_ 17 (d := d_listed) rfl).choose_spec, He.glo_ok X G (c.d.fact 19 (f := .glo "listed") rfl)⟩
  have F_filled_tree : Fg K mg "filled_tree" s_filled_tree := ⟨_, _, fun_of (c.d.def_ 18 (d := d_filled_tree) rfl).choose_spec, He.glo_ok X G (c.d.fact 20 (f := .glo "filled_tree") rfl)⟩
  have F_know_own : Fg K mg "know_own" s_know_own := ⟨_, _, fun_of (c.d.def_ 19 (d := d_know_own) rfl).choose_spec, He.glo_ok X G (c.d.fact 21 (f := .glo "know_own") rfl)⟩
  have F_is_instruction : Fg K mg "is_instruction" s_is_instruction := ⟨_, _, fun_of (c.d.def_ 30 (d := d_is_instruction) rfl).choose_spec, He.glo_ok X G (c.d.fact 25 (f := .glo "is_instruction") rfl)⟩
  have F_check_machine : Fg K mg "check_machine" s_check_machine := ⟨_, _, fun_of (c.d.def_ 33 (d := d_check_machine) rfl).choose_spec, He.glo_ok X G (c.d.fact 27 (f := .glo "check_machine") rfl)⟩
  have F_run_machine : Fg K mg "run_machine" s_run_machine := ⟨_, _, fun_of (c.d.def_ 40 (d := d_run_machine) rfl).choose_spec, He.glo_ok X G (c.d.fact 29 (f := .glo "run_machine") rfl)⟩
  have F_part_path : Fg K mg "part_path" s_part_path := ⟨_, _, fun_of (c.d.def_ 41 (d := d_part_path) rfl).choose_spec, He.glo_ok X G (c.d.fact 30 (f := .glo "part_path") rfl)⟩
  have F_parts_of : Fg K mg "parts_of" s_parts_of := ⟨_, _, fun_of (c.d.def_ 42 (d := d_parts_of) rfl).choose_spec, He.glo_ok X G (c.d.fact 31 (f := .glo "parts_of") rfl)⟩
  have F_instructions_of : Fg K mg "instructions_of" s_instructions_of := ⟨_, _, fun_of (c.d.def_ 43 (d := d_instructions_of) rfl).choose_spec, He.glo_ok X G (c.d.fact 32 (f := .glo "instructions_of") rfl)⟩
  have F_routines_of : Fg K mg "routines_of" s_routines_of := ⟨_, _, fun_of (c.d.def_ 44 (d := d_routines_of) rfl).choose_spec, He.glo_ok X G (c.d.fact 33 (f := .glo "routines_of") rfl)⟩
  have F_to_machine : Fg K mg "to_machine" s_to_machine := ⟨_, _, fun_of (c.d.def_ 45 (d := d_to_machine) rfl).choose_spec, He.glo_ok X G (c.d.fact 34 (f := .glo "to_machine") rfl)⟩
  have F_translator : Fg K mg "translator" s_translator := ⟨_, _, fun_of (c.d.def_ 46 (d := d_translator) rfl).choose_spec, He.glo_ok X G (c.d.fact 36 (f := .glo "translator") rfl)⟩
  have F_knowing_machine : Fg K mg "knowing_machine" s_knowing_machine := ⟨_, _, fun_of (c.d.def_ 47 (d := d_knowing_machine) rfl).choose_spec, He.glo_ok X G (c.d.fact 37 (f := .glo "knowing_machine") rfl)⟩
  have F_know_own_machine : Fg K mg "know_own_machine" s_know_own_machine := ⟨_, _, fun_of (c.d.def_ 48 (d := d_know_own_machine) rfl).choose_spec, He.glo_ok X G (c.d.fact 38 (f := .glo "know_own_machine") rfl)⟩
  have F_law_draws : Fg K mg "_law_draws" s_law_draws := ⟨_, _, fun_of (c.d.def_ 49 (d := d_law_draws) rfl).choose_spec, He.glo_ok X G (c.d.fact 39 (f := .glo "_law_draws") rfl)⟩
  have F_law_take : Fg K mg "_law_take" s_law_take := ⟨_, _, fun_of (c.d.def_ 50 (d := d_law_take) rfl).choose_spec, He.glo_ok X G (c.d.fact 40 (f := .glo "_law_take") rfl)⟩
  have F_law_value : Fg K mg "_law_value" s_law_value := ⟨_, _, fun_of (c.d.def_ 51 (d := d_law_value) rfl).choose_spec, He.glo_ok X G (c.d.fact 41 (f := .glo "_law_value") rfl)⟩
  have F_law_expression : Fg K mg "_law_expression" s_law_expression := ⟨_, _, fun_of (c.d.def_ 52 (d := d_law_expression) rfl).choose_spec, He.glo_ok X G (c.d.fact 42 (f := .glo "_law_expression") rfl)⟩
  have F_law_do : Fg K mg "_law_do" s_law_do := ⟨_, _, fun_of (c.d.def_ 53 (d := d_law_do) rfl).choose_spec, He.glo_ok X G (c.d.fact 43 (f := .glo "_law_do") rfl)⟩
  have F_law_run : Fg K mg "_law_run" s_law_run := ⟨_, _, fun_of (c.d.def_ 54 (d := d_law_run) rfl).choose_spec, He.glo_ok X G (c.d.fact 44 (f := .glo "_law_run") rfl)⟩
  have F_law_small : Fg K mg "_law_small" s_law_small := ⟨_, _, fun_of (c.d.def_ 55 (d := d_law_small) rfl).choose_spec, He.glo_ok X G (c.d.fact 45 (f := .glo "_law_small") rfl)⟩
  have F_law : Fg K mg "law" s_law := ⟨_, _, fun_of (c.d.def_ 56 (d := d_law) rfl).choose_spec, He.glo_ok X G (c.d.fact 46 (f := .glo "law") rfl)⟩
  have K_Store : Fk K mg "Store" (He.ga K "Store") "Store.__init__" s_Store_init := ⟨_, _, fun_of (c.d.def_ 20 (d := d_Store_init) rfl).choose_spec, He.mkr_ok (c.d.fact 67 (f := .mkr "Store") rfl), He.glo_ok X G (c.d.fact 22 (f := .glo "Store") rfl)⟩
  have c_Store := He.cls_ok (c.d.fact 66 (f := .cls "Store") rfl)
  have K_Run : Fk K mg "Run" (He.ga K "Run") "Run.__init__" s_Run_init := ⟨_, _, fun_of (c.d.def_ 29 (d := d_Run_init) rfl).choose_spec, He.mkr_ok (c.d.fact 81 (f := .mkr "Run") rfl), He.glo_ok X G (c.d.fact 23 (f := .glo "Run") rfl)⟩
  have c_Run := He.cls_ok (c.d.fact 80 (f := .cls "Run") rfl)
  have K_Names : Fk K mg "Names" (He.ga K "Names") "Names.__init__" s_Names_init := ⟨_, _, fun_of (c.d.def_ 31 (d := d_Names_init) rfl).choose_spec, He.mkr_ok (c.d.fact 86 (f := .mkr "Names") rfl), He.glo_ok X G (c.d.fact 26 (f := .glo "Names") rfl)⟩
  have c_Names := He.cls_ok (c.d.fact 85 (f := .cls "Names") rfl)
  have K_StackMachine : Fk K mg "StackMachine" (He.ga K "StackMachine") "StackMachine.__init__" s_StackMachine_init := ⟨_, _, fun_of (c.d.def_ 34 (d := d_StackMachine_init) rfl).choose_spec, He.mkr_ok (c.d.fact 92 (f := .mkr "StackMachine") rfl), He.glo_ok X G (c.d.fact 28 (f := .glo "StackMachine") rfl)⟩
  have c_StackMachine := He.cls_ok (c.d.fact 91 (f := .cls "StackMachine") rfl)
  have M_Store_number_of : Fm K (He.ga K "Store") "number_of" "Store.number_of" s_Store_number_of := ⟨_, _, fun_of (c.d.def_ 21 (d := d_Store_number_of) rfl).choose_spec, He.meth_ok (c.d.fact 72 (f := .meth "Store" "number_of") rfl)⟩
  have M_Store_is_word : Fm K (He.ga K "Store") "is_word" "Store.is_word" s_Store_is_word := ⟨_, _, fun_of (c.d.def_ 22 (d := d_Store_is_word) rfl).choose_spec, He.meth_ok (c.d.fact 73 (f := .meth "Store" "is_word") rfl)⟩
  have M_Store_first : Fm K (He.ga K "Store") "first" "Store.first" s_Store_first := ⟨_, _, fun_of (c.d.def_ 23 (d := d_Store_first) rfl).choose_spec, He.meth_ok (c.d.fact 74 (f := .meth "Store" "first") rfl)⟩
  have M_Store_rest : Fm K (He.ga K "Store") "rest" "Store.rest" s_Store_rest := ⟨_, _, fun_of (c.d.def_ 24 (d := d_Store_rest) rfl).choose_spec, He.meth_ok (c.d.fact 75 (f := .meth "Store" "rest") rfl)⟩
  have M_Store_pair_up : Fm K (He.ga K "Store") "pair_up" "Store.pair_up" s_Store_pair_up := ⟨_, _, fun_of (c.d.def_ 25 (d := d_Store_pair_up) rfl).choose_spec, He.meth_ok (c.d.fact 76 (f := .meth "Store" "pair_up") rfl)⟩
  have M_Store_put : Fm K (He.ga K "Store") "put" "Store.put" s_Store_put := ⟨_, _, fun_of (c.d.def_ 26 (d := d_Store_put) rfl).choose_spec, He.meth_ok (c.d.fact 77 (f := .meth "Store" "put") rfl)⟩
  have M_Store_items_of : Fm K (He.ga K "Store") "items_of" "Store.items_of" s_Store_items_of := ⟨_, _, fun_of (c.d.def_ 27 (d := d_Store_items_of) rfl).choose_spec, He.meth_ok (c.d.fact 78 (f := .meth "Store" "items_of") rfl)⟩
  have M_Store_value_of : Fm K (He.ga K "Store") "value_of" "Store.value_of" s_Store_value_of := ⟨_, _, fun_of (c.d.def_ 28 (d := d_Store_value_of) rfl).choose_spec, He.meth_ok (c.d.fact 79 (f := .meth "Store" "value_of") rfl)⟩
  have M_Names_is_right : Fm K (He.ga K "Names") "is_right" "Names.is_right" s_Names_is_right := ⟨_, _, fun_of (c.d.def_ 32 (d := d_Names_is_right) rfl).choose_spec, He.meth_ok (c.d.fact 90 (f := .meth "Names" "is_right") rfl)⟩
  have M_StackMachine_made : Fm K (He.ga K "StackMachine") "made" "StackMachine.made" s_StackMachine_made := ⟨_, _, fun_of (c.d.def_ 35 (d := d_StackMachine_made) rfl).choose_spec, He.meth_ok (c.d.fact 99 (f := .meth "StackMachine" "made") rfl)⟩
  have M_StackMachine_pop : Fm K (He.ga K "StackMachine") "pop" "StackMachine.pop" s_StackMachine_pop := ⟨_, _, fun_of (c.d.def_ 36 (d := d_StackMachine_pop) rfl).choose_spec, He.meth_ok (c.d.fact 100 (f := .meth "StackMachine" "pop") rfl)⟩
  have M_StackMachine_go_on : Fm K (He.ga K "StackMachine") "go_on" "StackMachine.go_on" s_StackMachine_go_on := ⟨_, _, fun_of (c.d.def_ 37 (d := d_StackMachine_go_on) rfl).choose_spec, He.meth_ok (c.d.fact 101 (f := .meth "StackMachine" "go_on") rfl)⟩
  have M_StackMachine_carry_out : Fm K (He.ga K "StackMachine") "carry_out" "StackMachine.carry_out" s_StackMachine_carry_out := ⟨_, _, fun_of (c.d.def_ 38 (d := d_StackMachine_carry_out) rfl).choose_spec, He.meth_ok (c.d.fact 102 (f := .meth "StackMachine" "carry_out") rfl)⟩
  have M_StackMachine_found : Fm K (He.ga K "StackMachine") "found" "StackMachine.found" s_StackMachine_found := ⟨_, _, fun_of (c.d.def_ 39 (d := d_StackMachine_found) rfl).choose_spec, He.meth_ok (c.d.fact 103 (f := .meth "StackMachine" "found") rfl)⟩
  have ClsS_ : ClsS K (He.ga K "Store") := ⟨c_Store, He.noat_ok (c.d.fact 68 (f := .noat "Store" "entries") rfl), He.noat_ok (c.d.fact 69 (f := .noat "Store" "numbers") rfl), He.noat_ok (c.d.fact 70 (f := .noat "Store" "sizes") rfl), He.noat_ok (c.d.fact 71 (f := .noat "Store" "depths") rfl)⟩
  have ClsR_ : ClsR K (He.ga K "Run") := ⟨c_Run, He.noat_ok (c.d.fact 82 (f := .noat "Run" "kind") rfl), He.noat_ok (c.d.fact 83 (f := .noat "Run" "value") rfl), He.noat_ok (c.d.fact 84 (f := .noat "Run" "steps") rfl)⟩
  have ClsN_ : ClsN K (He.ga K "Names") := ⟨c_Names, He.noat_ok (c.d.fact 87 (f := .noat "Names" "store") rfl), He.noat_ok (c.d.fact 88 (f := .noat "Names" "kept") rfl), He.noat_ok (c.d.fact 89 (f := .noat "Names" "known") rfl)⟩
  have ClsM_ : ClsM K (He.ga K "StackMachine") := ⟨c_StackMachine, He.noat_ok (c.d.fact 93 (f := .noat "StackMachine" "store") rfl), He.noat_ok (c.d.fact 94 (f := .noat "StackMachine" "yes") rfl), He.noat_ok (c.d.fact 95 (f := .noat "StackMachine" "routines") rfl), He.noat_ok (c.d.fact 96 (f := .noat "StackMachine" "stack") rfl), He.noat_ok (c.d.fact 97 (f := .noat "StackMachine" "todo") rfl), He.noat_ok (c.d.fact 98 (f := .noat "StackMachine" "steps") rfl)⟩
  have B : Bn mg := ⟨He.free_ok X G (c.d.fact 53 (f := .free "isinstance") rfl), He.free_ok X G (c.d.fact 54 (f := .free "len") rfl), He.free_ok X G (c.d.fact 55 (f := .free "dict") rfl), He.free_ok X G (c.d.fact 56 (f := .free "str") rfl), He.free_ok X G (c.d.fact 57 (f := .free "enumerate") rfl), He.free_ok X G (c.d.fact 58 (f := .free "int") rfl), He.free_ok X G (c.d.fact 59 (f := .free "tuple") rfl), He.free_ok X G (c.d.fact 60 (f := .free "range") rfl), He.free_ok X G (c.d.fact 61 (f := .free "min") rfl), He.free_ok X G (c.d.fact 62 (f := .free "max") rfl), He.free_ok X G (c.d.fact 63 (f := .free "reversed") rfl), He.free_ok X G (c.d.fact 64 (f := .free "list") rfl), He.free_ok X G (c.d.fact 65 (f := .free "abs") rfl)⟩
  have gE : GInt mg "EMPTY" 0 := He.int_ok X G (c.d.fact 47 (f := .int "EMPTY" 0) rfl)
  have gMP : GInt mg "MOST_PARTS" 200000 := He.int_ok X G (c.d.fact 48 (f := .int "MOST_PARTS" 200000) rfl)
  have gMD : GInt mg "MOST_DEPTH" 200 := He.int_ok X G (c.d.fact 49 (f := .int "MOST_DEPTH" 200) rfl)
  have gMI : GInt mg "MOST_INPUTS" 8 := He.int_ok X G (c.d.fact 50 (f := .int "MOST_INPUTS" 8) rfl)
  have gMQ : GInt mg "MOST_PARAMETERS" 12 := He.int_ok X G (c.d.fact 51 (f := .int "MOST_PARAMETERS" 12) rfl)
  have gF : ∃ t, mg "FIGURES" = some (.str "0123456789" t) := He.str_ok X G (c.d.fact 52 (f := .str "FIGURES" "0123456789") rfl)
  have gSW : GTab K w mg "SPECIAL_WORDS" SWt := ⟨_, He.glo_ok X G (c.d.fact 0 (f := .glo "SPECIAL_WORDS") rfl), c.sw⟩
  have gLN : GTab K w mg "LENGTHS" LEN := ⟨_, He.glo_ok X G (c.d.fact 24 (f := .glo "LENGTHS") rfl), c.ln⟩
  have gSP : GTup K mg "SPECIAL" SPL := ⟨_, He.glo_ok X G (c.d.fact 9 (f := .glo "SPECIAL") rfl), c.sp⟩
  have gTR : GTr K mg := ⟨_, He.glo_ok X G (c.d.fact 35 (f := .glo "TRANSLATOR") rfl), c.tr⟩
  -- programs
  have D_is_word := ok_is_word (P := P) (w := w) (base := base) F_is_word B
  have D_has_head := ok_has_head F_has_head B D_is_word
  have D_counts_of := ok_counts_of F_counts_of B D_has_head gSW
  have D_name_fits := ok_name_fits (P := P) (w := w) (base := base) F_name_fits B gSW gF
  have D_pars := ok_pars F_parameters_fit B D_is_word gSW gMQ
  have D_body := ok_body F_body_fits B D_is_word
  have D_check := ok_check F_check_program B D_is_word D_has_head D_counts_of D_name_fits D_pars D_body
  have D_inputs := ok_inputs F_inputs_of B D_check
  have D_made := ok_made (P := P) (w := w) (base := base) F_made_name B
  have D_params := ok_params (P := P) (w := w) (base := base) F_made_parameters B
  have D_renE := ok_renE (P := P) (w := w) (base := base) F_renamed_expression B gSP
  have D_renamed := ok_renamed F_renamed B D_check D_made D_renE
  have D_with := ok_with_main F_with_main B D_made
  have D_fillF := ok_fill_function F_fill_function B D_made D_params
  have D_fill := ok_fill F_fill B D_check D_inputs D_fillF gMI
  have D_joined := ok_joined F_joined B D_made D_renamed
  have D_quoted := ok_quoted (P := P) (w := w) (base := base) F_quoted B
  have D_listed := ok_listed F_listed B D_quoted
  have D_tree := ok_filled_tree F_filled_tree B D_quoted D_listed D_made D_params
  have D_know := ok_know_own F_know_own B D_check D_inputs D_joined D_made D_tree D_params D_with D_fill gMI
  have D_path := ok_part_path (P := P) (w := w) (base := base) F_part_path B
  have D_parts := ok_parts_of F_parts_of B D_path
  have D_instr := ok_instr F_instructions_of B gSP D_parts
  have D_routs := ok_routs F_routines_of B D_parts D_instr
  have D_toM := ok_to_machine F_to_machine B D_check D_instr D_routs
  have D_transl := ok_translator (P := P) (w := w) (base := base) F_translator gTR
  have D_knowing := ok_knowing F_knowing_machine B D_inputs D_joined D_transl D_params D_with D_know
  have D_kom := ok_kom F_know_own_machine B D_check D_inputs D_toM D_knowing gMI
  -- the store
  have S_init := ok_SInit (P := P) (w := w) (base := base) K_Store ClsS_
  have S_word := ok_SWord (P := P) (w := w) (base := base) M_Store_is_word B ClsS_
  have S_num := ok_SNum (P := P) (w := w) (base := base) M_Store_number_of B ClsS_ gMP gMD
  have S_first := ok_SFirst M_Store_first ClsS_ gE S_word
  have S_rest := ok_SRest M_Store_rest ClsS_ gE S_word
  have S_pair := ok_SPair M_Store_pair_up ClsS_ gE S_word S_num
  have S_items := ok_SItems (P := P) (w := w) (base := base) M_Store_items_of ClsS_ gE
  have S_put := ok_SPut M_Store_put B ClsS_ gE S_num
  have S_val := ok_SVal M_Store_value_of B ClsS_ gE S_word S_items
  -- the machine
  have R_init := ok_RInit (P := P) (w := w) (base := base) K_Run ClsR_
  have D_isIns := ok_isIns (P := P) (w := w) (base := base) F_is_instruction B gLN
  have N_init := ok_NmInit K_Names B ClsN_ ClsS_ S_init S_put
  have N_right := ok_right M_Names_is_right B ClsN_ ClsS_ D_isIns S_put
  have D_CM := ok_CM F_check_machine B ClsN_ N_init N_right
  have M_made := ok_MMade M_StackMachine_made B ClsM_ ClsS_ S_put
  have M_pop := ok_MPop (P := P) (w := w) (base := base) M_StackMachine_pop B ClsM_ gE
  have M_found := ok_MFound M_StackMachine_found B ClsM_ ClsS_ gE M_pop S_word S_first S_rest S_pair
  have M_carry := ok_MCarry M_StackMachine_carry_out B ClsM_ gE M_pop M_found
  have M_go := ok_MGo M_StackMachine_go_on B ClsM_ M_carry
  have M_init := ok_MInit K_StackMachine B ClsM_ ClsS_ S_init S_put M_made
  have D_runM := ok_runM F_run_machine B ClsM_ ClsS_ gMP gMD D_CM M_init M_go M_pop S_val R_init
  -- the law
  have D_take := ok_take (P := P) (w := w) (base := base) F_law_take B
  have D_draws := ok_draws (P := P) (w := w) (base := base) F_law_draws B
  have V0 : Df P w K mg base "_law_value" ["_law_hand", "_law_depth"] 1 (fun _ _ _ _ => False) := Df.of F_law_value sc_law_value (fun _ _ _ _ _ _ us hl => match us, hl with | [_, _], _ => rfl) (fun _ _ _ _ h => h.elim) (fun _ _ _ _ _ _ _ _ _ _ h => h.elim)
  have V1 := ok_value F_law_value B D_take 0 1 _ V0 (Nat.le_refl _) (fun d' e => by cases e)
  have V2 := ok_value F_law_value B D_take 1 2 _ V1 (by decide) (fun d' e => by cases e; rfl)
  have V3 := ok_value F_law_value B D_take 2 3 _ V2 (by decide) (fun d' e => by cases e; rfl)
  have E0 : Df P w K mg base "_law_expression" ["_law_hand", "_law_parameters", "_law_calls", "_law_depth"] 1 (fun _ _ _ _ => False) := Df.of F_law_expression sc_law_expression (fun _ _ _ _ _ _ us hl => match us, hl with | [_, _, _, _], _ => rfl) (fun _ _ _ _ h => h.elim) (fun _ _ _ _ _ _ _ _ _ _ h => h.elim)
  have E1 := ok_expr F_law_expression B D_take V3 0 4 _ (E0.mono (by decide)) (Nat.le_refl _) (fun d' e => by cases e)
  have E2 := ok_expr F_law_expression B D_take V3 1 5 _ E1 (by decide) (fun d' e => by cases e; rfl)
  have E3 := ok_expr F_law_expression B D_take V3 2 6 _ E2 (by decide) (fun d' e => by cases e; rfl)
  have D_do := ok_do (P := P) (w := w) (base := base) F_law_do B
  have D_run := ok_run F_law_run B D_do
  have D_small := ok_small (P := P) (w := w) (base := base) F_law_small B
  exact F0.ok sc_law (fun vs H Q E h => by obtain ⟨_, _, rfl, _⟩ := h; rfl) (law_body B ClsR_ D_draws D_take V3 E3 D_kom D_CM D_run D_small D_runM f0)
end Og
open PySem PySem.W PySem.Calls PyProof.Rows
theorem PySem.Challenge.cw_ownglass_k56_whole_own_text_across_holds : PySem.Challenge.rw_ownglass_k56_whole_own_text_across.Holds := by
  w_on; o_law
  refine HandSHeadRun.head_any (r := OpenLaw.row PySem.Challenge.rw_ownglass_k56_whole_own_text_across) (q := view (OpenLaw.row PySem.Challenge.rw_ownglass_k56_whole_own_text_across).prog [66]) (H := Og.hookO) (ob := Og.obO) (M := 6000) (loose := Og.loose)
    (d := HandSHeadRun.topDef (OpenLaw.row PySem.Challenge.rw_ownglass_k56_whole_own_text_across).prog 66) (kwd := []) Og.ob_eq
    (by kernel_rfl) (fun s => by kernel_rfl) Og.runH (by kernel_rfl) (by kernel_rfl) (by kernel_rfl) (by rfl) (by first | assumption | decide +kernel) (by decide +kernel) ⟨rfl, rfl, rfl, rfl, rfl, by decide +kernel⟩ ?hw ?hc
  case hw => w_witness2
  case hc =>
    refine L2.walk_ofE (l := PySem.Challenge.rw_ownglass_k56_whole_own_text_across) (n := 63) (k := 10) (x := "_law_script") (CX := L2.CX0) rfl (by decide) (by kernel_rfl) ⟨rfl, by decide, by decide⟩ ?F (fun _ _ _ _ z => z)
    intro w mg fa h Y G hmg0
    obtain ⟨K, KX, c⟩ := Y
    have hmg : mg ("law" : PySem.Str) = some (.ref fa) := by
      have e : (HandSHeadRun.topDef (OpenLaw.row PySem.Challenge.rw_ownglass_k56_whole_own_text_across).prog 66).name = ("law" : PySem.Str) := by kernel_rfl
      rw [← e]
      exact hmg0
    obtain ⟨fd, F⟩ := c.d.def_ 56 (d := Og.d_law) rfl
    have e := hmg.symm.trans (He.glo_ok KX G (c.d.fact 46 (f := .glo "law") rfl))
    cases e
    have b := L2.FunD.bindsA (ps := ["_law_script"]) F fun _ _ _ _ _ _ us hl => match us, hl with | [_], _ => rfl
    exact ⟨K, fd, Og.spLaw K, KX, fun s v => b s [v] rfl, fun H a ns hl _ hS => ⟨a, ns, rfl, hS, hl, fun _ => rfl⟩, fun base _ _ => Og.facts KX G c (Og.fun_of F)⟩
