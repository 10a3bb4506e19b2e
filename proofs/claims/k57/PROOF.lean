import PyProof.Rows.All
import Wide.All
import OpenK.AllK
import Wide.FinOn
import HandS.ForMost
import HandS.StrMore
import HandS.Defaults
import HandS.IsInst
import HandS.Walk
import HandS.TupAny
import HandS.TupMul
import HandS.Rev
import HandS.RevRange
import HandS.Strs
import KE.GoesNew
import PyProof.DictRoadsH
import HandS.HeadHook2
import HandS.Wide
import HandS.More
import HandS.HeadHook3
import HandS.HeadEnd
import HandS.Head0
import HandS.Head1
import HandS.Head2
import KE.KStateDown
import HandS.RevTup
import HandS.GenList
import HandS.TryOnly
import HandS.MakeKwOnly
import HandS.DictComp
import HandS.Evl
import PySem.Challenge.RW_ownglass_k57_whole_rings_across
set_option Elab.async false
set_option linter.all false
set_option maxRecDepth 100000
set_option maxHeartbeats 4000000
/-! Gm: values as trees, expressions, functions; what the program's makers compute, as plain functions. -/
namespace G
open PySem

/-- a value: a word or a list -/
inductive T where
  | w (s : Str)
  | l (xs : List T)
/-- an expression of the first language: a parameter, a quoted value, anything with a first word -/
inductive Xp where
  | v (s : Str)
  | q (t : T)
  | n (f : Str) (as : List Xp)

/-! ### the words, by their codes -/
def kw (l : List Nat) : Str := ⟨l.toArray⟩
abbrev wQuote : Str := kw [113, 117, 111, 116, 101]
abbrev wIf : Str := kw [105, 102]
abbrev wSame : Str := kw [115, 97, 109, 101]
abbrev wWord : Str := kw [119, 111, 114, 100]
abbrev wHead : Str := kw [104, 101, 97, 100]
abbrev wTail : Str := kw [116, 97, 105, 108]
abbrev wJoin : Str := kw [106, 111, 105, 110]
abbrev wPush : Str := kw [112, 117, 115, 104]
abbrev wCopy : Str := kw [99, 111, 112, 121]
abbrev wSlide : Str := kw [115, 108, 105, 100, 101]
abbrev wCall : Str := kw [99, 97, 108, 108]
abbrev wA : Str := kw [97]
abbrev wS : Str := kw [115]
abbrev wYes : Str := kw [121, 101, 115]
/-- equality of words, for the kernel -/
def seq (a b : Str) : Bool := a.cps.toList == b.cps.toList
theorem seq_iff {a b : Str} : seq a b = true ↔ a = b := by
  unfold seq
  constructor
  · intro h
    have e : a.cps.toList = b.cps.toList := eq_of_beq h
    obtain ⟨x⟩ := a
    obtain ⟨y⟩ := b
    have e2 : x = y := Array.toList_inj.mp e
    rw [e2]
  · intro h
    rw [h]
    exact beq_self_eq_true _
theorem seq_self (a : Str) : seq a a = true := seq_iff.mpr rfl
theorem seq_ne {a b : Str} (h : a ≠ b) : seq a b = false := by
  cases e : seq a b with
  | false => rfl
  | true => exact absurd (seq_iff.mp e) h
theorem seq_dec (a b : Str) : seq a b = decide (a = b) := by
  by_cases h : a = b
  · rw [decide_eq_true h]
    exact seq_iff.mpr h
  · rw [decide_eq_false h]
    exact seq_ne h

/-! ### trees -/
mutual
def T.beq : T → T → Bool
  | .w a, .w b => seq a b
  | .l xs, .l ys => T.beqs xs ys
  | _, _ => false
def T.beqs : List T → List T → Bool
  | [], [] => true
  | x :: xs, y :: ys => T.beq x y && T.beqs xs ys
  | _, _ => false
end
mutual
theorem T.beq_eq : ∀ (x y : T), T.beq x y = true → x = y
  | .w a, .w b, h => by
    have e : a = b := seq_iff.mp (show seq a b = true from h)
    rw [e]
  | .l xs, .l ys, h => by
    have e := T.beqs_eq xs ys (show T.beqs xs ys = true from h)
    rw [e]
  | .w _, .l _, h => by cases h
  | .l _, .w _, h => by cases h
theorem T.beqs_eq : ∀ (xs ys : List T), T.beqs xs ys = true → xs = ys
  | [], [], _ => rfl
  | x :: xs, y :: ys, h => by
    have h2 : (T.beq x y && T.beqs xs ys) = true := h
    obtain ⟨a, b⟩ := Bool.and_eq_true_iff.mp h2
    rw [T.beq_eq x y a, T.beqs_eq xs ys b]
  | [], _ :: _, h => by cases h
  | _ :: _, [], h => by cases h
end
mutual
theorem T.beq_self : ∀ (x : T), T.beq x x = true
  | .w a => seq_self a
  | .l xs => T.beqs_self xs
theorem T.beqs_self : ∀ (xs : List T), T.beqs xs xs = true
  | [] => rfl
  | x :: xs => by
    show (T.beq x x && T.beqs xs xs) = true
    rw [T.beq_self x, T.beqs_self xs]
    rfl
end
instance : DecidableEq T := fun x y => if h : T.beq x y = true then .isTrue (T.beq_eq x y h) else .isFalse fun e => h (by rw [e]; exact T.beq_self y)

/-! parts, depth -/
mutual
def T.parts : T → Nat
  | .w _ => 1
  | .l xs => 1 + T.partsL xs
def T.partsL : List T → Nat
  | [] => 0
  | x :: xs => x.parts + T.partsL xs
end
mutual
def T.depth : T → Nat
  | .w _ => 0
  | .l xs => T.depthL xs
/-- of the list of these -/
def T.depthL : List T → Nat
  | [] => 1
  | x :: xs => max (x.depth + 1) (T.depthL xs)
end
theorem T.parts_pos : ∀ t : T, 1 ≤ t.parts
  | .w _ => Nat.le_refl 1
  | .l xs => by show 1 ≤ 1 + T.partsL xs; omega

/-! ### what the special words say of values -/
def T.isW : T → Bool
  | .w _ => true
  | .l _ => false
def T.hd : T → T
  | .l (x :: _) => x
  | _ => .l []
def T.tl : T → T
  | .l (_ :: xs) => .l xs
  | _ => .l []
def T.items : T → List T
  | .l xs => xs
  | .w _ => []
def T.join (a b : T) : T := .l (a :: b.items)
def T.ofB (b : Bool) : T := match b with
  | true => .w wYes
  | false => .l []
def T.nil : T := .l []

/-! ### expressions as trees -/
mutual
def Xp.t : Xp → T
  | .v s => .w s
  | .q t => .l [.w wQuote, t]
  | .n f as => .l (.w f :: Xp.ts as)
def Xp.ts : List Xp → List T
  | [] => []
  | a :: as => a.t :: Xp.ts as
end
theorem Xp.ts_map : ∀ as : List Xp, Xp.ts as = as.map Xp.t
  | [] => rfl
  | a :: as => by
    show a.t :: Xp.ts as = a.t :: as.map Xp.t
    rw [Xp.ts_map as]
mutual
def Xp.size : Xp → Nat
  | .v _ => 1
  | .q _ => 1
  | .n _ as => 1 + Xp.sizes as
def Xp.sizes : List Xp → Nat
  | [] => 0
  | a :: as => a.size + Xp.sizes as
end
theorem Xp.size_pos : ∀ e : Xp, 1 ≤ e.size
  | .v _ => Nat.le_refl 1
  | .q _ => Nat.le_refl 1
  | .n _ as => by show 1 ≤ 1 + Xp.sizes as; omega

structure Fn where
  name : Str
  ps : List Str
  body : Xp
def Fn.t (f : Fn) : T := .l [.w f.name, .l (f.ps.map .w), f.body.t]
def progT (fs : List Fn) : T := .l (fs.map Fn.t)

/-! ### good programs -/
def special : List Str := [wQuote, wIf, wSame, wWord, wHead, wTail, wJoin]
def specials : List (Str × Nat) := [(wQuote, 1), (wIf, 3), (wSame, 2), (wWord, 1), (wHead, 1), (wTail, 1), (wJoin, 2)]
def inS (s : Str) (l : List Str) : Bool := l.any fun x => seq x s
def lookN (s : Str) : List (Str × Nat) → Option Nat
  | [] => none
  | (k, n) :: r => match seq k s with
    | true => some n
    | false => lookN s r
/-- how many parts belong to a first word -/
def arity (fs : List Fn) (s : Str) : Option Nat := lookN s (specials ++ fs.map fun f => (f.name, f.ps.length))
/-- signs of a number -/
def digits (n : Nat) : List Nat := (toString n).toList.map Char.toNat
def mnL (n : Nat) : List Nat := 102 :: digits n
/-- a made name -/
def mn (n : Nat) : Str := kw (102 :: digits n)
def xn (k : Nat) : Str := kw (120 :: digits (k + 1))
def xns (k : Nat) : List Str := (List.range k).map xn
def wEmpty : Str := kw []
def wZero : Str := kw [48]
def wF : Str := kw [102]
def wFigures : Str := kw [48, 49, 50, 51, 52, 53, 54, 55, 56, 57]
/-- the i-th sign, as a text -/
def signAt (s : Str) (i : Nat) : Str := match s.cps.toList[i]? with
  | some c => kw [c]
  | none => wEmpty
/-- a name may stand in a program of so many -/
def nameOk (s : Str) (many : Nat) : Bool :=
  let fig := L2.cutS s (some 1) none
  Nat.ble 1 s.length && (Nat.ble s.length 12 && (!(seq (signAt s 0) wF) || (seq fig wEmpty || (!(seq (Txt.stripChars fig wFigures) wEmpty) ||
    ((seq fig wZero || !(seq (signAt fig 0) wZero)) && (Nat.ble 1 fig.length && match intText? fig with
      | some n => decide (n < (many : Int))
      | none => false))))))
mutual
def fits (ar : Str → Option Nat) (ps : List Str) : Xp → Bool
  | .v s => inS s ps
  | .q _ => true
  | .n f as => !(seq f wQuote) && (ar f == some as.length) && fitsL ar ps as
def fitsL (ar : Str → Option Nat) (ps : List Str) : List Xp → Bool
  | [] => true
  | a :: as => fits ar ps a && fitsL ar ps as
end
def nodupS : List Str → Bool
  | [] => true
  | x :: r => !(inS x r) && nodupS r
def fnOk (fs : List Fn) (f : Fn) : Bool :=
  !(inS f.name special) && (nameOk f.name fs.length && (Nat.ble f.ps.length 12 && (f.ps.all (fun p => !(inS p special)) && (nodupS f.ps && (Nat.ble f.body.size 100000 && fits (arity fs) f.ps f.body)))))
def good (fs : List Fn) : Bool := !(fs.isEmpty) && (nodupS (fs.map Fn.name) && (Nat.ble fs.length 1000 && fs.all (fnOk fs)))

/-! ### programs from programs -/
mutual
def Xp.ren (ρ : Str → Str) : Xp → Xp
  | .v s => .v s
  | .q t => .q t
  | .n f as => .n (match inS f special with | true => f | false => ρ f) (Xp.rens ρ as)
def Xp.rens (ρ : Str → Str) : List Xp → List Xp
  | [] => []
  | a :: as => a.ren ρ :: Xp.rens ρ as
end
/-- the made name of a function, counted from start -/
def renOf : List Fn → Nat → Str → Str
  | [], _, s => s
  | f :: r, k, s => match seq f.name s with
    | true => mn k
    | false => renOf r (k + 1) s
def renFrom (ρ : Str → Str) : Nat → List Fn → List Fn
  | _, [] => []
  | k, f :: r => ⟨mn k, f.ps, f.body.ren ρ⟩ :: renFrom ρ (k + 1) r
def renamed (fs : List Fn) (start : Nat) : List Fn := renFrom (renOf fs start) start fs
def joinedFrom (acc : List Fn) : List (List Fn) → List Fn
  | [] => acc
  | p :: r => joinedFrom (acc ++ renamed p acc.length) r
def mainsFrom (k : Nat) : List (List Fn) → List Str
  | [] => []
  | p :: r => mn k :: mainsFrom (k + p.length) r
def joined (ps : List (List Fn)) : List Fn := joinedFrom [] ps
def mains (ps : List (List Fn)) : List Str := mainsFrom 0 ps
def withMain (fs : List Fn) (ps : List Str) (body : Xp) : List Fn := ⟨mn fs.length, ps, body⟩ :: fs
def vs (l : List Str) : List Xp := l.map .v
def fillFn (main : Str) (number : Nat) (value : T) (many : Nat) : Fn := ⟨mn number, xns many, .n main (.q value :: vs (xns many))⟩
def inputsOf (fs : List Fn) : Nat := match fs with
  | [] => 0
  | f :: _ => f.ps.length
def mainOf (fs : List Fn) : Str := match fs with
  | [] => wS
  | f :: _ => f.name
def fill (fs : List Fn) (value : T) : List Fn := fillFn (mainOf fs) fs.length value (inputsOf fs - 1) :: fs
def listed : List Xp → Xp
  | [] => .q (.l [])
  | p :: r => .n wJoin [p, listed r]
def filledTree (main : Str) (number many : Nat) : Xp :=
  let inputs : Xp := .q (.l ((xns many).map .w))
  .n wJoin [listed [.q (.w (mn number)), inputs, .n wJoin [.q (.w main), .n wJoin [listed [.q (.w wQuote), .v wS], inputs]]], .v wS]
def knowing (fs : List Fn) : List Fn :=
  withMain (renamed fs 0) (wS :: xns (inputsOf fs - 1)) (.n (mn 0) (filledTree (mn fs.length) (fs.length + 1) (inputsOf fs - 1) :: vs (xns (inputsOf fs - 1))))
def knowOwn (fs : List Fn) : List Fn := fill (knowing fs) (progT (knowing fs))
def wn (k : Nat) : Str := kw (119 :: digits (k + 1))
def ringTexts (front : Str) (last many n : Nat) : Xp := listed ((List.range n).map fun k => .n wJoin [.q (fillFn front last (.w (wn k)) many).t, .v wS])
/-- the body of a ring of programs: from the first one on, k ones ahead of it -/
def ringBody (texts : Xp) (ins : List Xp) : Nat → List Str → Xp
  | _, [] => .v wS
  | _, [m] => .n m (texts :: ins)
  | k, m :: r => .n wIf [.n wSame [.v (xn 0), .q (.w (wn k))], .n m (texts :: ins), ringBody texts ins (k + 1) r]
def ringWhole (ps : List (List Fn)) : List Fn :=
  let many := inputsOf (ps.headD []) - 1
  let fs := joined ps
  withMain fs (wS :: xns (many + 1)) (ringBody (ringTexts (mn (fs.length + 2)) (fs.length + 3) many ps.length) (vs ((xns (many + 1)).drop 1)) 0 (mains ps))
def ring (ps : List (List Fn)) : List (List Fn) := (List.range ps.length).map fun k => fill (knowOwn (ringWhole ps)) (.w (wn k))
end G
set_option maxRecDepth 100000
set_option maxHeartbeats 4000000
/-! Gn: the translator, the machine's text of a program, the ring across. -/
namespace G
open PySem
def tr0 : Fn := ⟨(kw [109, 97, 105, 110]), [(kw [112])], .n wIf [.v (kw [112]), .n (kw [97, 112, 112]) [.n (kw [102, 117, 110, 99]) [.n wHead [.v (kw [112])]], .n (kw [109, 97, 105, 110]) [.n wTail [.v (kw [112])]]], .q (.l [])]⟩
def tr1 : Fn := ⟨(kw [102, 117, 110, 99]), [(kw [102])], .n (kw [102, 117, 110]) [.n wHead [.v (kw [102])], .n wHead [.n wTail [.v (kw [102])]], .n wHead [.n wTail [.n wTail [.v (kw [102])]]]]⟩
def tr2 : Fn := ⟨(kw [102, 117, 110]), [(kw [110]), (kw [112, 115]), (kw [98])], .n wJoin [.n wJoin [.v (kw [110]), .n (kw [97, 112, 112]) [.n (kw [111, 112, 115]) [.v (kw [98]), .v (kw [112, 115]), .q (.l []), .n (kw [111, 110, 101]) [.v (kw [110])]], .n (kw [111, 110, 101]) [.n wJoin [.q (.w wSlide), .n (kw [111, 110, 101]) [.v (kw [112, 115])]]]]], .n (kw [114, 111, 117, 116, 115]) [.v (kw [98]), .v (kw [112, 115]), .q (.l []), .n (kw [111, 110, 101]) [.v (kw [110])]]]⟩
def tr3 : Fn := ⟨(kw [111, 110, 101]), [(kw [120])], .n wJoin [.v (kw [120]), .q (.l [])]⟩
def tr4 : Fn := ⟨(kw [97, 112, 112]), [(kw [120]), (kw [121])], .n wIf [.v (kw [120]), .n wJoin [.n wHead [.v (kw [120])], .n (kw [97, 112, 112]) [.n wTail [.v (kw [120])], .v (kw [121])]], .v (kw [121])]⟩
def tr5 : Fn := ⟨(kw [97, 102, 116, 101, 114]), [(kw [101]), (kw [112, 115])], .n wIf [.n wSame [.v (kw [101]), .n wHead [.v (kw [112, 115])]], .n wTail [.v (kw [112, 115])], .n (kw [97, 102, 116, 101, 114]) [.v (kw [101]), .n wTail [.v (kw [112, 115])]]]⟩
def tr6 : Fn := ⟨(kw [111, 112, 115]), [(kw [101]), (kw [112, 115]), (kw [100]), (kw [119])], .n wIf [.n wWord [.v (kw [101])], .n (kw [111, 110, 101]) [.n wJoin [.q (.w wCopy), .n (kw [111, 110, 101]) [.n (kw [97, 112, 112]) [.n (kw [97, 102, 116, 101, 114]) [.v (kw [101]), .v (kw [112, 115])], .v (kw [100])]]]], .n (kw [111, 112, 108, 105, 115, 116]) [.n wHead [.v (kw [101])], .v (kw [101]), .v (kw [112, 115]), .v (kw [100]), .v (kw [119])]]⟩
def tr7 : Fn := ⟨(kw [111, 112, 108, 105, 115, 116]), [(kw [107]), (kw [101]), (kw [112, 115]), (kw [100]), (kw [119])], .n wIf [.n wSame [.v (kw [107]), .q (.w wQuote)], .n (kw [111, 110, 101]) [.n wJoin [.q (.w wPush), .n wTail [.v (kw [101])]]], .n wIf [.n wSame [.v (kw [107]), .q (.w wIf)], .n (kw [97, 112, 112]) [.n (kw [111, 112, 115]) [.n wHead [.n wTail [.v (kw [101])]], .v (kw [112, 115]), .v (kw [100]), .n wJoin [.q (.w (kw [112, 49])), .v (kw [119])]], .n (kw [111, 110, 101]) [.n wJoin [.q (.w wIf), .n wJoin [.n wJoin [.q (.w (kw [112, 50])), .v (kw [119])], .n (kw [111, 110, 101]) [.n wJoin [.q (.w (kw [112, 51])), .v (kw [119])]]]]]], .n (kw [97, 112, 112]) [.n (kw [97, 114, 103, 115]) [.n wTail [.v (kw [101])], .v (kw [112, 115]), .v (kw [100]), .v (kw [119]), .q (.l [.w (kw [112, 49]), .w (kw [112, 50]), .w (kw [112, 51]), .w (kw [112, 52]), .w (kw [112, 53]), .w (kw [112, 54]), .w (kw [112, 55]), .w (kw [112, 56]), .w (kw [112, 57]), .w (kw [112, 49, 48]), .w (kw [112, 49, 49]), .w (kw [112, 49, 50])])], .n (kw [111, 110, 101]) [.n (kw [108, 97, 115, 116, 111, 112]) [.v (kw [107]), .q (.l [.w wSame, .w wWord, .w wHead, .w wTail, .w wJoin])]]]]]⟩
def tr8 : Fn := ⟨(kw [108, 97, 115, 116, 111, 112]), [(kw [107]), (kw [108])], .n wIf [.v (kw [108]), .n wIf [.n wSame [.v (kw [107]), .n wHead [.v (kw [108])]], .n (kw [111, 110, 101]) [.v (kw [107])], .n (kw [108, 97, 115, 116, 111, 112]) [.v (kw [107]), .n wTail [.v (kw [108])]]], .n wJoin [.q (.w wCall), .n (kw [111, 110, 101]) [.v (kw [107])]]]⟩
def tr9 : Fn := ⟨(kw [97, 114, 103, 115]), [(kw [101, 115]), (kw [112, 115]), (kw [100]), (kw [119]), (kw [105, 115])], .n wIf [.v (kw [101, 115]), .n (kw [97, 112, 112]) [.n (kw [111, 112, 115]) [.n wHead [.v (kw [101, 115])], .v (kw [112, 115]), .v (kw [100]), .n wJoin [.n wHead [.v (kw [105, 115])], .v (kw [119])]], .n (kw [97, 114, 103, 115]) [.n wTail [.v (kw [101, 115])], .v (kw [112, 115]), .n wJoin [.q (.w wA), .v (kw [100])], .v (kw [119]), .n wTail [.v (kw [105, 115])]]], .q (.l [])]⟩
def tr10 : Fn := ⟨(kw [114, 111, 117, 116, 115]), [(kw [101]), (kw [112, 115]), (kw [100]), (kw [119])], .n wIf [.n wWord [.v (kw [101])], .q (.l []), .n (kw [114, 111, 117, 116, 108, 105, 115, 116]) [.n wHead [.v (kw [101])], .n wTail [.v (kw [101])], .v (kw [112, 115]), .v (kw [100]), .v (kw [119])]]⟩
def tr11 : Fn := ⟨(kw [114, 111, 117, 116, 108, 105, 115, 116]), [(kw [107]), (kw [101, 115]), (kw [112, 115]), (kw [100]), (kw [119])], .n wIf [.n wSame [.v (kw [107]), .q (.w wQuote)], .q (.l []), .n wIf [.n wSame [.v (kw [107]), .q (.w wIf)], .n (kw [97, 112, 112]) [.n (kw [114, 111, 117, 116, 115]) [.n wHead [.v (kw [101, 115])], .v (kw [112, 115]), .v (kw [100]), .n wJoin [.q (.w (kw [112, 49])), .v (kw [119])]], .n (kw [97, 112, 112]) [.n (kw [98, 114, 97, 110, 99, 104]) [.n wHead [.n wTail [.v (kw [101, 115])]], .v (kw [112, 115]), .v (kw [100]), .n wJoin [.q (.w (kw [112, 50])), .v (kw [119])]], .n (kw [98, 114, 97, 110, 99, 104]) [.n wHead [.n wTail [.n wTail [.v (kw [101, 115])]]], .v (kw [112, 115]), .v (kw [100]), .n wJoin [.q (.w (kw [112, 51])), .v (kw [119])]]]], .n (kw [114, 111, 117, 116, 97, 114, 103, 115]) [.v (kw [101, 115]), .v (kw [112, 115]), .v (kw [100]), .v (kw [119]), .q (.l [.w (kw [112, 49]), .w (kw [112, 50]), .w (kw [112, 51]), .w (kw [112, 52]), .w (kw [112, 53]), .w (kw [112, 54]), .w (kw [112, 55]), .w (kw [112, 56]), .w (kw [112, 57]), .w (kw [112, 49, 48]), .w (kw [112, 49, 49]), .w (kw [112, 49, 50])])]]]⟩
def tr12 : Fn := ⟨(kw [98, 114, 97, 110, 99, 104]), [(kw [101]), (kw [112, 115]), (kw [100]), (kw [119])], .n wJoin [.n wJoin [.v (kw [119]), .n (kw [111, 112, 115]) [.v (kw [101]), .v (kw [112, 115]), .v (kw [100]), .v (kw [119])]], .n (kw [114, 111, 117, 116, 115]) [.v (kw [101]), .v (kw [112, 115]), .v (kw [100]), .v (kw [119])]]⟩
def tr13 : Fn := ⟨(kw [114, 111, 117, 116, 97, 114, 103, 115]), [(kw [101, 115]), (kw [112, 115]), (kw [100]), (kw [119]), (kw [105, 115])], .n wIf [.v (kw [101, 115]), .n (kw [97, 112, 112]) [.n (kw [114, 111, 117, 116, 115]) [.n wHead [.v (kw [101, 115])], .v (kw [112, 115]), .v (kw [100]), .n wJoin [.n wHead [.v (kw [105, 115])], .v (kw [119])]], .n (kw [114, 111, 117, 116, 97, 114, 103, 115]) [.n wTail [.v (kw [101, 115])], .v (kw [112, 115]), .n wJoin [.q (.w wA), .v (kw [100])], .v (kw [119]), .n wTail [.v (kw [105, 115])]]], .q (.l [])]⟩
def translator : List Fn := [tr0, tr1, tr2, tr3, tr4, tr5, tr6, tr7, tr8, tr9, tr10, tr11, tr12, tr13]

/-! ### the machine's text -/
def pn (k : Nat) : Str := kw (112 :: digits k)
/-- behind the parameter s -/
def behind (s : Str) : List Str → List Str
  | [] => []
  | p :: r => match seq p s with
    | true => r
    | false => behind s r
def as_ (n : Nat) : List T := List.replicate n (.w wA)
def lastOp (f : Str) : T := match inS f special with
  | true => .l [.w f]
  | false => .l [.w wCall, .w f]
def way (k : Nat) (p : List T) : List T := .w (pn k) :: p
mutual
/-- the instructions of an expression: d its depth, p its path -/
def instrs (ps : List Str) : Xp → Nat → List T → List T
  | .v s, d, _ => [.l [.w wCopy, .l ((behind s ps).map .w ++ as_ d)]]
  | .q t, _, _ => [.l [.w wPush, t]]
  | .n f as, d, p => match seq f wIf, as with
    | true, c :: _ => instrs ps c d (way 1 p) ++ [.l [.w wIf, .l (way 2 p), .l (way 3 p)]]
    | _, as => instrsL ps as d p 1 ++ [lastOp f]
def instrsL (ps : List Str) : List Xp → Nat → List T → Nat → List T
  | [], _, _, _ => []
  | a :: as, d, p, k => instrs ps a d (way k p) ++ instrsL ps as (d + 1) p (k + 1)
end
mutual
/-- its routines -/
def routs (ps : List Str) : Xp → Nat → List T → List T
  | .v _, _, _ => []
  | .q _, _, _ => []
  | .n f as, d, p => match seq f wIf with
    | true => routsIf ps as d p 1
    | false => routsL ps as d p 1
def routsL (ps : List Str) : List Xp → Nat → List T → Nat → List T
  | [], _, _, _ => []
  | a :: as, d, p, k => routs ps a d (way k p) ++ routsL ps as (d + 1) p (k + 1)
def routsIf (ps : List Str) : List Xp → Nat → List T → Nat → List T
  | [], _, _, _ => []
  | a :: as, d, p, k => (match Nat.ble k 1 with
    | true => routs ps a d (way k p)
    | false => .l (.l (way k p) :: instrs ps a d (way k p)) :: routs ps a d (way k p)) ++ routsIf ps as d p (k + 1)
end
def fnMach (f : Fn) : List T := .l (.w f.name :: (instrs f.ps f.body 0 [.w f.name] ++ [.l [.w wSlide, .l (f.ps.map .w)]])) :: routs f.ps f.body 0 [.w f.name]
def toMachine (fs : List Fn) : T := .l (fs.flatMap fnMach)

/-! ### across -/
def tailsX : Nat → Xp → Xp
  | 0, e => e
  | k + 1, e => tailsX k (.n wTail [e])
/-- kinds: true is the machine -/
def textFrom (tr : Str) : Nat → List Bool → List Xp
  | _, [] => []
  | k, m :: r => (match m with
    | true => .n tr [.n wHead [tailsX k (.v (xn 0))]]
    | false => .n wHead [tailsX k (.v (xn 0))]) :: textFrom tr (k + 1) r
def withTexts (p : List Fn) (kinds : List Bool) : List Fn :=
  withMain (joined [translator, p]) (xns (inputsOf p)) (.n (mn translator.length) (listed (textFrom (mn 0) 0 kinds) :: vs ((xns (inputsOf p)).drop 1)))
def acrossRing (ps : List (List Fn)) (kinds : List Bool) : List (List Fn) := ring (ps.map fun p => withTexts p kinds)
def across (ps : List (List Fn)) (kinds : List Bool) : List T := ((acrossRing ps kinds).zip kinds).map fun q => match q.2 with
  | true => toMachine q.1
  | false => progT q.1
/-! ### the law's programs -/
def pAll : Str := kw [97, 108, 108]
def pX : Str := kw [120]
def nPick : Str := kw [112, 105, 99, 107]
def nList : Str := kw [108, 105, 115, 116]
def lawPs (x : Bool) : List Str := match x with
  | true => [pAll, pX]
  | false => [pAll]
def lawLast (x : Bool) : Str := match x with
  | true => pX
  | false => pAll
def lawPick (x : Bool) : Fn := ⟨nPick, [nList, pX], match x with
  | true => .n wJoin [.v pX, .n wHead [.v nList]]
  | false => .n wHead [.v nList]⟩
def lawFirst (x : Bool) : List Fn := [⟨kw [111, 110, 101], lawPs x, .n nPick [.n wTail [.v pAll], .v (lawLast x)]⟩, lawPick x]
def lawSecond (x : Bool) : List Fn := [⟨kw [116, 119, 111], lawPs x, .n nPick [.v pAll, .v (lawLast x)]⟩, lawPick x]
def lawKinds (at_ : Bool) : List Bool := match at_ with
  | true => [true, false]
  | false => [false, true]
def lawRing (x at_ : Bool) : List (List Fn) := acrossRing [lawFirst x, lawSecond x] (lawKinds at_)
def lawPlain (x at_ : Bool) : List Fn := match at_ with
  | true => (lawRing x at_).getD 1 []
  | false => (lawRing x at_).getD 0 []
def lawOther (x at_ : Bool) : List Fn := match at_ with
  | true => (lawRing x at_).getD 0 []
  | false => (lawRing x at_).getD 1 []
def lawMach (x at_ : Bool) : T := toMachine (lawOther x at_)
end G
set_option maxRecDepth 100000
set_option maxHeartbeats 4000000
/-! Gb: values stand for trees; what is kept; calls by a bundle of facts. -/
namespace G
open PySem PySem.Spec PyProof.Rows L2

/-! ### exact tuples: they have no dict of their own -/
def XT (K : PySem.W.Frag) (H : Hp) (a : Addr) (xs : List V) : Prop :=
  (∃ o : Obj, H a = some (.frz o (.tup xs)) ∧ o.dict = none) ∨
    ∃ (o : Obj) (its : Array Value) (n : Nat), K.lookup a = some o ∧ o.cls = .type "tuple" ∧ o.dict = none ∧ o.data = .seq its n ∧ its.size ≤ sizeLine ∧ Vals xs its.toList
theorem XT.sq {K : PySem.W.Frag} {H : Hp} {a : Addr} {xs : List V} (h : XT K H a xs) : SqT K H a xs := by
  rcases h with ⟨o, h, _⟩ | ⟨o, its, n, h1, h2, _, h3, h4, h5⟩
  · exact .inl (.inr ⟨o, h⟩)
  · exact .inr ⟨o, its, n, h1, h2, h3, h4, h5⟩
theorem XT.new {K : PySem.W.Frag} {H : Hp} {a : Addr} {xs : List V} {o : Obj} (h : o.dict = none) : XT K (upd H a (.frz o (.tup xs))) a xs := .inl ⟨o, upd_same, h⟩

/-! ### a value stands for a tree -/
mutual
def At (K : PySem.W.Frag) (H : Hp) : T → V → Prop
  | .w s, v => v = .str s
  | .l ts, v => ∃ a vs, v = .ref a ∧ XT K H a vs ∧ AtAll K H ts vs
def AtAll (K : PySem.W.Frag) (H : Hp) : List T → List V → Prop
  | [], vs => vs = []
  | t :: ts, vs => ∃ v r, vs = v :: r ∧ At K H t v ∧ AtAll K H ts r
end
section
variable {K : PySem.W.Frag} {H H' H2 : Hp}
theorem at_w {s : Str} {v : V} (h : At K H (.w s) v) : v = .str s := h
theorem at_l {ts : List T} {v : V} (h : At K H (.l ts) v) : ∃ a vs, v = .ref a ∧ XT K H a vs ∧ AtAll K H ts vs := h
theorem at_wi {s : Str} : At K H (.w s) (.str s) := (rfl : V.str s = .str s)
theorem at_li {ts : List T} {a : Addr} {vs : List V} (h : XT K H a vs) (h2 : AtAll K H ts vs) : At K H (.l ts) (.ref a) := ⟨a, vs, rfl, h, h2⟩
theorem aa_nil : AtAll K H [] [] := (rfl : ([] : List V) = [])
theorem aa_cons {t : T} {ts : List T} {v : V} {vs : List V} (h : At K H t v) (h2 : AtAll K H ts vs) : AtAll K H (t :: ts) (v :: vs) := ⟨v, vs, rfl, h, h2⟩
theorem aa_len : ∀ {ts : List T} {vs : List V}, AtAll K H ts vs → vs.length = ts.length
  | [], _, h => by
    cases (show _ = [] from h)
    rfl
  | _ :: _, _, h => by
    obtain ⟨v, r, rfl, _, h2⟩ := h
    rw [List.length_cons, List.length_cons, aa_len h2]
theorem aa_get : ∀ {ts : List T} {vs : List V} {i : Nat} {t : T}, AtAll K H ts vs → ts[i]? = some t → ∃ v, vs[i]? = some v ∧ At K H t v
  | [], _, i, t, h, e => by cases i <;> cases e
  | _ :: _, _, 0, t, h, e => by
    obtain ⟨v, r, rfl, h1, h2⟩ := h
    cases e
    exact ⟨v, rfl, h1⟩
  | _ :: _, _, i + 1, t, h, e => by
    obtain ⟨v, r, rfl, h1, h2⟩ := h
    exact aa_get (i := i) h2 e
theorem aa_at : ∀ {ts : List T} {vs : List V} {i : Nat} {v : V}, AtAll K H ts vs → vs[i]? = some v → ∃ t, ts[i]? = some t ∧ At K H t v
  | [], _, i, t, h, e => by
    cases (show _ = [] from h)
    cases i <;> cases e
  | t :: _, _, 0, _, h, e => by
    obtain ⟨v, r, rfl, h1, h2⟩ := h
    cases e
    exact ⟨t, rfl, h1⟩
  | _ :: _, _, i + 1, _, h, e => by
    obtain ⟨v, r, rfl, h1, h2⟩ := h
    exact aa_at (i := i) h2 e
theorem aa_app : ∀ {ts us : List T} {vs ws : List V}, AtAll K H ts vs → AtAll K H us ws → AtAll K H (ts ++ us) (vs ++ ws)
  | [], _, _, _, h, h2 => by
    cases (show _ = [] from h)
    exact h2
  | _ :: _, _, _, _, h, h2 => by
    obtain ⟨v, r, rfl, h1, h3⟩ := h
    exact aa_cons h1 (aa_app h3 h2)
theorem aa_drop : ∀ {ts : List T} {vs : List V} (n : Nat), AtAll K H ts vs → AtAll K H (ts.drop n) (vs.drop n)
  | _, _, 0, h => h
  | [], _, n + 1, h => by
    cases (show _ = [] from h)
    exact aa_nil
  | _ :: _, _, n + 1, h => by
    obtain ⟨v, r, rfl, _, h3⟩ := h
    exact aa_drop n h3
theorem aa_take : ∀ {ts : List T} {vs : List V} (n : Nat), AtAll K H ts vs → AtAll K H (ts.take n) (vs.take n)
  | _, _, 0, h => aa_nil
  | [], _, n + 1, h => by
    cases (show _ = [] from h)
    exact aa_nil
  | _ :: _, _, n + 1, h => by
    obtain ⟨v, r, rfl, h1, h3⟩ := h
    exact aa_cons h1 (aa_take n h3)
theorem aa_cons' {t : T} {ts : List T} {vs : List V} (h : AtAll K H (t :: ts) vs) : ∃ v r, vs = v :: r ∧ At K H t v ∧ AtAll K H ts r := h
theorem aa_nil' {vs : List V} (h : AtAll K H [] vs) : vs = [] := h
/-- words -/
theorem aa_words : ∀ {ss : List Str} {vs : List V}, AtAll K H (ss.map .w) vs → vs = ss.map V.str
  | [], _, h => h
  | s :: ss, _, h => by
    obtain ⟨v, r, rfl, h1, h2⟩ := h
    rw [at_w h1, aa_words h2]
    rfl
theorem aa_wordsI : ∀ ss : List Str, AtAll K H (ss.map .w) (ss.map V.str)
  | [] => aa_nil
  | s :: ss => aa_cons at_wi (aa_wordsI ss)

/-! ### what is kept: all but what is in F and may change -/
def Kp (F : List Addr) (H H' : Hp) : Prop := ∀ b o, H b = some o → (b ∉ F ∨ ¬ Mut (some o)) → H' b = some o
variable {F F2 : List Addr}
theorem Kp.refl : Kp F H H := fun _ _ h _ => h
theorem Kp.trans (a : Kp F H H') (b : Kp F H' H2) : Kp F H H2 := fun c o h q => b c o (a c o h q) q
theorem Kp.mono (a : Kp F H H') (h : ∀ b ∈ F, b ∈ F2) : Kp F2 H H' := fun c o e q => a c o e (q.imp (fun z w => z (h c w)) id)
theorem Kp.nil (a : Kp [] H H') : Kp F H H' := a.mono fun _ h => by cases h
theorem Kp.same (a : Kp [] H H') : Same H H' := fun b o e => a b o e (.inl (by simp))
theorem Same.kp (a : Same H H') : Kp F H H' := fun b o e _ => a b o e
theorem Kp.new {p : Addr} {o : HO} (h : H p = none) : Kp F H (upd H p o) := fun b u e _ => by
  rw [upd_ne (ne_of_none e h)]
  exact e
theorem Kp.upd {p : Addr} {o : HO} (hp : p ∈ F) (h : ∀ u, H p = some u → Mut (some u)) : Kp F H (upd H p o) := fun b u e q => by
  by_cases hb : b = p
  · subst hb
    rcases q with q | q
    · exact absurd hp q
    · exact absurd (h u e) q
  · rw [upd_ne hb]
    exact e
/-- a list that is changed -/
theorem Kp.lst {p : Addr} {xs : List V} {o : HO} (hp : p ∈ F) (h : H p = some (.lst xs)) : Kp F H (L2.upd H p o) := Kp.upd hp fun u e => by
  rw [h] at e
  cases e
  trivial
theorem Kp.ins {p C dx : Addr} {fs : List (Str × V)} {o : HO} (hp : p ∈ F) (h : H p = some (.ins C dx fs)) : Kp F H (L2.upd H p o) := Kp.upd hp fun u e => by
  rw [h] at e
  cases e
  trivial
theorem Kp.dic {p : Addr} {xs : List (Key × V)} {o : HO} (hp : p ∈ F) (h : H p = some (.dK xs)) : Kp F H (L2.upd H p o) := Kp.upd hp fun u e => by
  rw [h] at e
  cases e
  trivial
theorem Kp.ext {p : Addr} {f : Heap → Prop} {o : HO} (hp : p ∈ F) (h : H p = some (.ext f)) : Kp F H (L2.upd H p o) := Kp.upd hp fun u e => by
  rw [h] at e
  cases e
  trivial
theorem Kp.tup {a : Addr} {xs : List V} (k : Kp F H H') (h : H a = some (.tup xs)) : H' a = some (.tup xs) := k a _ h (.inr fun z => z)
theorem Kp.sqt {a : Addr} {xs : List V} (k : Kp F H H') (h : SqT K H a xs) : SqT K H' a xs := by
  rcases h with (h | ⟨o, h⟩) | h
  · exact .inl (.inl (k a _ h (.inr fun z => z)))
  · exact .inl (.inr ⟨o, k a _ h (.inr fun z => z)⟩)
  · exact .inr h
theorem Kp.keep {a : Addr} {o : HO} (k : Kp F H H') (h : H a = some o) (hn : a ∉ F) : H' a = some o := k a o h (.inl hn)
theorem Kp.xt {a : Addr} {xs : List V} (k : Kp F H H') (h : XT K H a xs) : XT K H' a xs := by
  rcases h with ⟨o, h, e⟩ | h
  · exact .inl ⟨o, k a _ h (.inr fun z => z), e⟩
  · exact .inr h
/-- what is new behind was new before -/
theorem Kp.free {a : Addr} (k : Kp F H H') (hn : a ∉ F) (h : H' a = none) : H a = none := by
  cases e : H a with
  | none => rfl
  | some o =>
    rw [k a o e (.inl hn)] at h
    cases h
mutual
theorem at_kp (k : Kp F H H') : ∀ (t : T) (v : V), At K H t v → At K H' t v
  | .w _, _, h => h
  | .l ts, v, h => by
    obtain ⟨a, vs, e, h1, h2⟩ := h
    exact ⟨a, vs, e, k.xt h1, aa_kp k ts vs h2⟩
theorem aa_kp (k : Kp F H H') : ∀ (ts : List T) (vs : List V), AtAll K H ts vs → AtAll K H' ts vs
  | [], _, h => h
  | t :: ts, vs, h => by
    obtain ⟨v, r, e, h1, h2⟩ := h
    exact ⟨v, r, e, at_kp k t v h1, aa_kp k ts r h2⟩
end
theorem Kp.at_ {t : T} {v : V} (k : Kp F H H') (h : At K H t v) : At K H' t v := at_kp k t v h
theorem Kp.aa {t : List T} {v : List V} (k : Kp F H H') (h : AtAll K H t v) : AtAll K H' t v := aa_kp k t v h
theorem st_tup {a : Addr} {xs : List V} (h : H a = some (.tup xs)) : SqT K H a xs := .inl (.inl h)
theorem sq_lst {a : Addr} {xs : List V} (h : H a = some (.lst xs)) : SqL K H a xs := .inl (.inl h)
/-- a new tuple of these -/
theorem at_new {ts : List T} {p : Addr} {vs : List V} {o : Obj} (h : AtAll K H ts vs) (hp : H p = none) (ho : o.dict = none) : At K (upd H p (.frz o (.tup vs))) (.l ts) (.ref p) :=
  at_li (XT.new ho) ((Kp.new (F := []) hp).aa h)
end

/-! ### defs by a bundle of facts -/
structure Clb (P : Program) (w : World) (K : PySem.W.Frag) (mg : Str → Option Value) (base : Heap) (x : Str) (k : Nat) (ps : List Str) (sp : Sp) : Prop where
  ex : ∃ f fd, FnOk P w K mg base CX0 k f fd ps sp ∧ mg x = some (.ref f) ∧ PySem.W.keepIn K (.ref f) = true ∧ Binds K fd ps []
structure Mtb (P : Program) (w : World) (K : PySem.W.Frag) (mg : Str → Option Value) (base : Heap) (C : Addr) (m : Str) (k : Nat) (ps : List Str) (sp : Sp) : Prop where
  ex : ∃ f fd, FnOk P w K mg base CX0 k f fd ps sp ∧ Meth K C m f ∧ Binds K fd ps []
/-- a def of the text, a method of the class at C -/
def HasDef (K : PySem.W.Frag) (mg : Str → Option Value) (st : Stmt) (x : Str) : Prop :=
  ∃ f fd, FunD K x x (defArgs st) (defBody st) (defScope st) [] [] f fd ∧ mg x = some (.ref f)
def HasMeth (K : PySem.W.Frag) (C : Addr) (st : Stmt) (m qual : Str) : Prop :=
  ∃ f fd, FunD K m qual (defArgs st) (defBody st) (defScope st) [] [] f fd ∧ Meth K C m f
section
variable {X : Cx} {k : Nat} {C : Addr} {ps : List Str} {sp : Sp} {x m : Str} {p pos apos : Pos} {e o : Expr} {es : List Expr} {ta : TE} {t : TA}
theorem pe_c (F : Clb X.prog X.w X.K X.mg X.base x k ps sp) (hr : Room k X.A) (ha : PA X (e :: es) t) (hg : Gl X x := by rfl)
    (hdb : (x == ("__debug__" : Str)) = false := by decide) (he : starEach (e :: es) X.env = (false, eval e X.env) :: starEach es X.env := by rfl) (hpl : (backTo pos (starEach es X.env)).any (·.1) = false := by rfl) :
    PE X (.Call (.Name x p) (e :: es) [] pos) (tCall sp [] E0 t) := by
  obtain ⟨f, fd, h1, h2, h3, h4⟩ := F.ex
  exact pe_call h1 hr hg h2 h3 h4 .nil pass0 ha hdb he hpl
theorem pe_c0 (F : Clb X.prog X.w X.K X.mg X.base x k ps sp) (hr : Room k X.A) (hg : Gl X x := by rfl) (hdb : (x == ("__debug__" : Str)) = false := by decide) :
    PE X (.Call (.Name x p) [] [] pos) (tCall sp [] E0 tNil) := by
  obtain ⟨f, fd, h1, h2, h3, h4⟩ := F.ex
  exact pe_call0 h1 hr hg h2 h3 h4 .nil pass0 hdb
theorem pe_m {pl : Sem Bool} (he : PE X o ta) (c : Cls X.K C) (F : Mtb X.prog X.w X.K X.mg X.base C m k ps sp) (hr : Room k X.A) (ha : PA X (e :: es) t)
    (hst : starEach (e :: es) X.env = (false, eval e X.env) :: starEach es X.env := by rfl) (hpl : (backTo pos (starEach es X.env)).any (·.1) = false := by rfl)
    (ht : eval (.Call (.Attribute o m apos) (e :: es) [] pos) X.env = (do
      let ov ← eval o X.env
      standAt apos.atName
      let (f, first) ← holding [ov] (getMethod ov m pl)
      callWith pos f first (backTo pos (starEach (e :: es) X.env)) (backToKw pos (keywordEach [] X.env))) := by rfl) :
    PE X (.Call (.Attribute o m apos) (e :: es) [] pos) (tMeth C m sp [] E0 ta t) := by
  obtain ⟨f, fd, h1, h2, h3⟩ := F.ex
  exact pe_meth he c h2 h1 hr h3 .nil pass0 ha hst hpl ht
theorem pe_m0 {pl : Sem Bool} (he : PE X o ta) (c : Cls X.K C) (F : Mtb X.prog X.w X.K X.mg X.base C m k ps sp) (hr : Room k X.A)
    (ht : eval (.Call (.Attribute o m apos) [] [] pos) X.env = (do
      let ov ← eval o X.env
      standAt apos.atName
      let (f, first) ← holding [ov] (getMethod ov m pl)
      callWith pos f first (backTo pos (starEach [] X.env)) (backToKw pos (keywordEach [] X.env))) := by rfl) :
    PE X (.Call (.Attribute o m apos) [] [] pos) (tMeth C m sp [] E0 ta tNil) := by
  obtain ⟨f, fd, h1, h2, h3⟩ := F.ex
  exact pe_meth0 he c h2 h1 hr h3 .nil pass0 ht
end
section
variable {P : Program} {w : World} {K : PySem.W.Frag} {mg : Str → Option Value} {base : Heap}
/-- a def keeps its promise, as its callers want it -/
theorem HasDef.clb {st : Stmt} {x : Str} {N ps : List Str} {k : Nat} {sp : Sp} (D : HasDef K mg st x) (S : FnScope N ps (defScope st))
    (hb : ∀ (kV doc pm : Value) (an : Option Addr) (cdv ct : Value) (us : List Value), us.length = ps.length → bindArgs (PySem.W.fnOf x x (defArgs st) (defBody st) (defScope st) .none kV doc pm an cdv ct) ⟨us, []⟩ = pure (ps.zip us))
    (len : ∀ vs H Q E, sp vs H Q E → vs.length = ps.length)
    (body : ∀ (f : Addr) (cdv : Value) (A : Around) (outer : List Env) (s : Shared) (H : Hp) (vs : List V) (Q : VK) (E : XK), Room k (A.deeper (envOfC x (defScope st) s.heap.objs.size f cdv)) → sp vs H Q E →
      ∃ t, PSs (cxOf CX0 P w K mg base N x (defScope st) f cdv A outer s H E).nox (defBody st) t ∧ t { nx := fun _ H' => Q .non H', rt := Q } (start N vs) H) : Clb P w K mg base x (k + 1) ps sp := by
  obtain ⟨f, fd, F, hm⟩ := D
  refine ⟨f, fd, F.ok S len fun cdv A outer s H vs Q E hr hsp => ?_, hm, F.kp, F.bindsN hb⟩
  obtain ⟨t, h1, h2⟩ := body f cdv A outer s H vs Q E hr hsp
  exact ⟨t, h1.nox, h2⟩
theorem HasMeth.mtb {C : Addr} {st : Stmt} {m qual : Str} {N ps : List Str} {k : Nat} {sp : Sp} (D : HasMeth K C st m qual) (S : FnScope N ps (defScope st))
    (hb : ∀ (kV doc pm : Value) (an : Option Addr) (cdv ct : Value) (us : List Value), us.length = ps.length → bindArgs (PySem.W.fnOf m qual (defArgs st) (defBody st) (defScope st) .none kV doc pm an cdv ct) ⟨us, []⟩ = pure (ps.zip us))
    (len : ∀ vs H Q E, sp vs H Q E → vs.length = ps.length)
    (body : ∀ (f : Addr) (cdv : Value) (A : Around) (outer : List Env) (s : Shared) (H : Hp) (vs : List V) (Q : VK) (E : XK), Room k (A.deeper (envOfC qual (defScope st) s.heap.objs.size f cdv)) → sp vs H Q E →
      ∃ t, PSs (cxOf CX0 P w K mg base N qual (defScope st) f cdv A outer s H E).nox (defBody st) t ∧ t { nx := fun _ H' => Q .non H', rt := Q } (start N vs) H) : Mtb P w K mg base C m (k + 1) ps sp := by
  obtain ⟨f, fd, F, hm⟩ := D
  refine ⟨f, fd, F.ok S len fun cdv A outer s H vs Q E hr hsp => ?_, hm, F.bindsN hb⟩
  obtain ⟨t, h1, h2⟩ := body f cdv A outer s H vs Q E hr hsp
  exact ⟨t, h1.nox, h2⟩
end
end G
set_option maxRecDepth 100000
set_option maxHeartbeats 4000000
/-! Gi: enumerate(tuple), zip(list, tuple) as sources of a for loop. -/
namespace G
open PySem PySem.Spec PyProof.Rows L2

set_option maxHeartbeats 1000000 in
theorem enumNew1 {v : Value} {o : Obj} {H : Heap → Prop} (B : Begins v o H) :
    Meets (Builtin.«enumerate.__new__» ⟨[.type "enumerate", v], []⟩) (fun _ R s => H s.heap ∧
      R (.ok (.ret (.ref (s.heap.push o).objs.size))) { s with heap := (s.heap.push o).push { cls := .type "enumerate", data := .fields #[.none, .bool false, .ref s.heap.objs.size, rawInt 0, .none, .none] } }) :=
  .of_wp fun prog w A R s h => by
    obtain ⟨hp, g, d, tk, os⟩ := s
    obtain ⟨h1, h⟩ := h
    have hsub := sub_enumerate
    have it1 : ∀ {A' : Around} {E : Value → Shared → Prop} {Q : Value → Shared → Prop}, Q (.ref hp.objs.size) ⟨hp.push o, g, d, tk, os⟩ → wpAny (model prog w) A' (pyIter v) Q E ⟨hp, g, d, tk, os⟩ :=
      fun q => B.iter prog w _ _ ⟨hp, g, d, tk, os⟩ _ h1 q
    wp_walk using it1
    refine wpAny_stack_any fun st => wpAny_pure ?_
    split
    · rename_i c _ _ _ _ _
      cases (c == Value.type "enumerate")
      all_goals
        wp_walk using it1
        exact ⟨_, rfl, h⟩
    · wp_walk using it1
      exact ⟨_, rfl, h⟩
section
variable {prog : Program} {w : World} {A : Around} {E : Value → Shared → Prop} {s : Shared}
theorem enumCall1 {v : Value} {o : Obj} {H : Heap → Prop} {Q : Value → Shared → Prop} (B : Begins v o H) (h1 : H s.heap)
    (h : ∀ h', IsEnum h' (s.heap.objs.size + 1) s.heap.objs.size 0 .none → h'.get? s.heap.objs.size = some o → h'.objs.size = s.heap.objs.size + 2 →
      (∀ b u, s.heap.get? b = some u → h'.get? b = some u) → Q (.ref (s.heap.objs.size + 1)) { s with heap := h' }) :
    wpAny (model prog w) A (call (.type "enumerate") [v]) Q E s := by
  refine callType_new F.called_enumerate (by decide) (F.typeCall_enumerate_1 _) (F.newCall_enumerate_1 _) (fun obj => F.args_object_init_2 obj _) F.entry_enumerate_new (enumNew1 B) ⟨h1, ?_⟩
  have hz : (s.heap.push o).objs.size = s.heap.objs.size + 1 := Heap.size_push ..
  show _ ∧ _
  rw [hz]
  have he : IsEnum ((s.heap.push o).push { cls := .type "enumerate", data := .fields #[.none, .bool false, .ref s.heap.objs.size, rawInt 0, .none, .none] }) (s.heap.objs.size + 1) s.heap.objs.size 0 .none := by
    have q := Heap.get?_push_size (s.heap.push o) (o := { cls := .type "enumerate", data := .fields #[.none, .bool false, .ref s.heap.objs.size, rawInt 0, .none, .none] }) rfl
    rw [hz] at q
    exact q
  exact ⟨⟨_, he, rfl⟩, h _ he (Heap.get?_push_of_some _ (Heap.get?_push_size _ B.free)) (by rw [Heap.size_push, hz]) fun b u x => Heap.get?_push_of_some _ (Heap.get?_push_of_some _ x)⟩
end
/-- the tuple at a, each item in a new pair behind its number -/
def IteT (K : PySem.W.Frag) (a : Addr) : It :=
  ⟨fun i H => ∃ (xs : List V) (x : V), SqT K H a xs ∧ xs[i]? = some x,
   fun i H v H' => ∃ p x, v = .ref p ∧ H p = none ∧ H' = upd H p (.tup [.int (i : Nat), x]) ∧ ∀ xs, SqT K H a xs → xs[i]? = some x,
   fun i H => ∃ xs : List V, SqT K H a xs ∧ xs.length = i⟩
theorem turnEnumT {P : Program} {w : World} {K : PySem.W.Frag} {elts : List Expr} {kk : Nat} {tpos : Pos} (a e it : Addr) (hai : a ≠ it) (hae : a ≠ e) :
    Turn P w K (.Tuple elts kk tpos) (IteT K a) [e, it] e (fun i h => (∃ old, IsEnum h e it ((0 : Int) + ((i : Nat) : Int)) old) ∧ h.IsTupleIter it a i ∧ e ≠ it) where
  mem := by simp
  obj := fun i h st b hb => by
    obtain ⟨⟨old, he⟩, ⟨o, ho, hc, hd⟩, _⟩ := st
    have e' : b = e ∨ b = it := by simpa using hb
    rcases e' with z | z
    · rw [z]
      exact ⟨_, he, fun v q => nomatch q⟩
    · rw [z]
      exact ⟨o, ho, fun v q => by
        rw [hd] at q
        cases q⟩
  keep := fun i h h' st k => by
    obtain ⟨⟨old, he⟩, hi, hne⟩ := st
    exact ⟨⟨old, k e (by simp) _ he⟩, hi.at fun o q => k it (by simp) o q, hne⟩
  item := by
    intro X hP hw hK hc i pins s σ H E I hf st hg
    subst hP hw hK
    obtain ⟨he, hit, hne⟩ := st
    obtain ⟨xs, x, hq, hx⟩ := hg
    obtain ⟨its, rv, p, hz⟩ := I.tuple hq
    obtain ⟨u, hu, ru⟩ := rv.get hx
    have hu2 : its.toArray[i]? = some u := by simpa using hu
    have hlt : i < its.toArray.size := by
      have q := (List.getElem?_eq_some_iff.mp hu).1
      simpa using q
    have hef : e ∉ [it, a] := by
      intro hm
      have e' : e = it ∨ e = a := by simpa using hm
      rcases e' with z | z
      · exact hne z
      · exact hae z.symm
    have W := GoesN.enumFrom (elts := elts) (x1 := kk) (pos := tpos) (prog := X.prog) (w := X.w) (A := X.A) 0 (Draws.tuple (show X.A.in1.handled = none from I.ok.hd hc) it a hai its.toArray) e hne hef (by simp)
    refine W.goes i s _ E hlt ⟨he, hit, p⟩ fun v h' tk hY st' hk _ => ?_
    obtain ⟨T', t, y, ev, hnew, hy, hT⟩ := hY
    subst ev
    have ey : y = u := Option.some.inj (hy.symm.trans hu2)
    subst ey
    obtain ⟨⟨old', he'⟩, hit', _⟩ := st'
    obtain ⟨oT, hoT, hcT, nT, hdT⟩ := hT
    have new : ObjOk X.prog X.w (upd H T' (.tup [.int (i : Nat), x])) h' T' (.tup [.int (i : Nat), x]) :=
      ⟨by show 2 ≤ sizeLine; decide, [.int (0 + (i : Nat)) t, y], .cons ⟨t, by rw [Int.zero_add]⟩ (.cons ru .nil), ⟨oT, hoT, hcT, nT, hdT⟩⟩
    have I1 : Inv X pins σ (upd H T' (.tup [.int (i : Nat), x])) { s with heap := h', toks := tk } := I.turnedNew (ch := [e, it]) (fun b o hb q => hk b o hb q) hf hnew new
    refine ⟨.ref T', _, I1, rfl, ⟨T', x, rfl, I.hok.fresh hnew, rfl, fun ys hy => by rw [I.tuple_inj hy hq]; exact hx⟩, ⟨⟨old', he'⟩, hit', hne⟩, fun b hb => ?_⟩
    have hb' : b < s.heap.objs.size := by
      have e' : b = e ∨ b = it := by simpa using hb
      rcases e' with z | z
      · rw [z]
        obtain ⟨_, h0⟩ := he
        exact Heap.lt_size h0
      · rw [z]
        obtain ⟨_, h0, _⟩ := hit
        exact Heap.lt_size h0
    rw [upd_ne (Nat.ne_of_lt (Nat.lt_of_lt_of_le hb' hnew))]
    exact (hf b hb).1
  done := by
    intro X hP hw hK hc i pins s σ H E I hf st hg
    subst hP hw hK
    obtain ⟨he, hit, hne⟩ := st
    obtain ⟨xs, hq, hx⟩ := hg
    obtain ⟨its, rv, p, hz⟩ := I.tuple hq
    have hl := rv.length
    have hef : e ∉ [it, a] := by
      intro hm
      have e' : e = it ∨ e = a := by simpa using hm
      rcases e' with z | z
      · exact hne z
      · exact hae z.symm
    obtain ⟨old, he0⟩ := he
    have ei : its.toArray.size = i := by
      rw [← hx, hl]
      simp
    have D := Draws.tuple (prog := X.prog) (w := X.w) (A := X.A.in1) (show X.A.in1.handled = none from I.ok.hd hc) it a hai its.toArray
    rw [ei] at D
    exact wpAny_pyNext_enum_endD D he0 ⟨hit, p⟩ fun h' hk => ⟨rfl, I.turnedL (t' := s.toks) (ch := [e, it]) (fun b o hb q => hk b o (fun z => hb (by simp [z])) q) hf⟩
  self := fun A i s Q E st h => by
    obtain ⟨⟨_, he⟩, _⟩ := st
    exact wpAny_pyIter_enum he h
def iEnumT (K : PySem.W.Frag) (ta : TA) : TI := fun σ H R => ta σ H fun vs H1 => ∃ a xs, vs = [.ref a] ∧ SqT K H1 a xs ∧ R (IteT K a) H1
theorem pi_enumT {X : Cx} {e : Expr} {ta : TA} {p pos tpos : Pos} {elts : List Expr} {kk : Nat} (hg : Gl X "enumerate") (hm : X.mg "enumerate" = none) (ha : PA X [e] ta) (hs : starEach [e] X.env = [(false, eval e X.env)] := by rfl) :
    PI X (.Tuple elts kk tpos) (.Call (.Name "enumerate" p) [e] [] pos) (iEnumT X.K ta) := by
  refine ⟨fun pins s σ H R I h => ?_⟩
  refine Call_ (ld_blt I hg hm boot_enumerate (PyProof.Rows.callWith_type1 (thn (ha.run pos pins s σ H _ I h) fun us s1 ⟨vs, H1, I1, r1, q1⟩ => ?_) hs rfl))
  obtain ⟨a, xs, ex, hq, q⟩ := q1
  subst ex
  cases r1 with
  | cons r rr =>
    cases rr
    cases r
    obtain ⟨its, rv, p', hz⟩ := I1.tuple hq
    have hal : a < s1.heap.objs.size := p'.lt
    refine enumCall1 (begins_tuple a its.toArray) p' fun h' he hit hsz hk => wpAny_pyIter_enum he ?_
    have I2 : Inv X pins σ H1 { s1 with heap := h' } := I1.kept (t' := s1.toks) hk
    refine ⟨s1.heap.objs.size + 1, [s1.heap.objs.size + 1, s1.heap.objs.size], _, _, H1, rfl, I2, turnEnumT a (s1.heap.objs.size + 1) s1.heap.objs.size (Nat.ne_of_lt hal) (Nat.ne_of_lt (Nat.lt_succ_of_lt hal)), ⟨⟨.none, he⟩, ⟨_, hit, rfl, rfl⟩, Nat.succ_ne_self _⟩, fun b hb => ?_, q⟩
    have e' : b = s1.heap.objs.size + 1 ∨ b = s1.heap.objs.size := by simpa using hb
    have hle : s1.heap.objs.size ≤ b := by
      rcases e' with z | z
      · rw [z]
        exact Nat.le_add_right _ _
      · rw [z]
        exact Nat.le_refl _
    exact I1.fpOk hle (I1.hok.fresh hle)
theorem walk_enumT {K : PySem.W.Frag} {a : Addr} {xs : List V} : Walk (IteT K a) xs.length (fun H => SqT K H a xs) (YPair (fun i => some (.int (i : Nat))) (fun i => xs[i]?)) := by
  refine ⟨fun i _ hi q => ⟨xs, xs[i], q, by simp [hi]⟩, fun _ q => ⟨xs, q, rfl⟩, fun i H v H' _ q y => ?_⟩
  obtain ⟨p, x, h1, h2, h3, h4⟩ := y
  exact ⟨p, .int (i : Nat), x, h1, h2, h3, rfl, h4 xs q⟩

/-- the list at a, the tuple at b: their items in new pairs -/
def ItzM (K : PySem.W.Frag) (a b : Addr) : It :=
  ⟨fun i H => ∃ (xs ys : List V) (x y : V), SqL K H a xs ∧ SqT K H b ys ∧ xs[i]? = some x ∧ ys[i]? = some y,
   fun i H v H' => ∃ p x y, v = .ref p ∧ H p = none ∧ H' = upd H p (.tup [x, y]) ∧ (∀ xs, SqL K H a xs → xs[i]? = some x) ∧ ∀ ys, SqT K H b ys → ys[i]? = some y,
   fun i H => ∃ xs ys : List V, SqL K H a xs ∧ SqT K H b ys ∧ xs.length = i ∧ ys.length = i⟩
theorem turnZipM {P : Program} {w : World} {K : PySem.W.Frag} {elts : List Expr} {kk : Nat} {tpos : Pos} {a b z TI TO i1 i2 : Addr} (S : ZipSep2 z TI TO i1 i2 [i1, a] [i2, b]) (ha : a ≠ i1) (hb : b ≠ i2) :
    Turn P w K (.Tuple elts kk tpos) (ItzM K a b) [z, TI, TO, i1, i2] z (fun i h => IsZip h z TI TO .none ∧ IsTupOf2 h TI (.ref i1) (.ref i2) ∧ (∃ x y, IsTupOf2 h TO x y) ∧ h.IsListIter i1 a i ∧ h.IsTupleIter i2 b i) where
  mem := by simp
  obj := fun i h st c hc => by
    obtain ⟨hz, hTI, ⟨x, y, hTO⟩, ⟨o1, e1, _, d1⟩, ⟨o2, e2, _, d2⟩⟩ := st
    have e' : c = z ∨ c = TI ∨ c = TO ∨ c = i1 ∨ c = i2 := by simpa using hc
    rcases e' with q | q | q | q | q
    · rw [q]
      exact ⟨_, hz, fun v q => nomatch q⟩
    · rw [q]
      exact ⟨_, hTI, fun v q => nomatch q⟩
    · rw [q]
      exact ⟨_, hTO, fun v q => nomatch q⟩
    · rw [q]
      exact ⟨o1, e1, fun v q => by
        rw [d1] at q
        cases q⟩
    · rw [q]
      exact ⟨o2, e2, fun v q => by
        rw [d2] at q
        cases q⟩
  keep := fun i h h' st k => by
    obtain ⟨hz, hTI, ⟨x, y, hTO⟩, h1, h2⟩ := st
    exact ⟨k z (by simp) _ hz, k TI (by simp) _ hTI, ⟨x, y, k TO (by simp) _ hTO⟩, h1.at fun o q => k i1 (by simp) o q, h2.at fun o q => k i2 (by simp) o q⟩
  item := by
    intro X hP hw hK hc i pins s σ H E I hf st hg
    subst hP hw hK
    obtain ⟨hz, hTI, hTO, h1, h2⟩ := st
    obtain ⟨xs, ys, x, y, hqx, hqy, hx, hy⟩ := hg
    obtain ⟨its, rv, p, _⟩ := I.list hqx
    obtain ⟨its2, rv2, p2, _⟩ := I.tuple hqy
    obtain ⟨u, hu, ru⟩ := rv.get hx
    obtain ⟨u2, hu2, ru2⟩ := rv2.get hy
    have hu' : its.toArray[i]? = some u := by simpa using hu
    have hu2' : its2.toArray[i]? = some u2 := by simpa using hu2
    have hlt : i < min its.toArray.size its2.toArray.size := by
      have q := (List.getElem?_eq_some_iff.mp hu).1
      have q2 := (List.getElem?_eq_some_iff.mp hu2).1
      simp
      omega
    have W := GoesN.zip2 (elts := elts) (x1 := kk) (pos := tpos) (prog := X.prog) (w := X.w) (A := X.A) S (Draws.list (show X.A.in1.handled = none from I.ok.hd hc) i1 a ha its.toArray) (Draws.tuple (show X.A.in1.handled = none from I.ok.hd hc) i2 b hb its2.toArray)
    refine W.goes i s _ E hlt ⟨hz, hTI, hTO, ⟨h1, p.isList⟩, ⟨h2, p2⟩⟩ fun v h' tk hY st' hk _ => ?_
    obtain ⟨T', y1, y2, ev, hnew, hy1, hy2, hT⟩ := hY
    subst ev
    have ey1 : y1 = u := Option.some.inj (hy1.symm.trans hu')
    have ey2 : y2 = u2 := Option.some.inj (hy2.symm.trans hu2')
    subst ey1 ey2
    obtain ⟨hz', hTI', hTO', ⟨h1', _⟩, ⟨h2', _⟩⟩ := st'
    obtain ⟨oT, hoT, hcT, nT, hdT⟩ := hT
    have new : ObjOk X.prog X.w (upd H T' (.tup [x, y])) h' T' (.tup [x, y]) :=
      ⟨by show 2 ≤ sizeLine; decide, [y1, y2], .cons ru (.cons ru2 .nil), ⟨oT, hoT, hcT, nT, hdT⟩⟩
    have I1 : Inv X pins σ (upd H T' (.tup [x, y])) { s with heap := h', toks := tk } := I.turnedNew (ch := [z, TI, TO, i1, i2]) (fun c o hb q => hk c o (fun q' => hb (by
      have e' : c = z ∨ c = TO ∨ c = i1 ∨ c = i2 := by simpa using q'
      rcases e' with r | r | r | r <;> simp [r])) q) hf hnew new
    refine ⟨.ref T', _, I1, rfl, ⟨T', x, y, rfl, I.hok.fresh hnew, rfl, fun l hl => by rw [I.list_inj hl hqx]; exact hx, fun l hl => by rw [I.tuple_inj hl hqy]; exact hy⟩, ⟨hz', hTI', hTO', h1', h2'⟩, fun c hcm => ?_⟩
    have hlt2 : c < s.heap.objs.size := by
      have e' : c = z ∨ c = TI ∨ c = TO ∨ c = i1 ∨ c = i2 := by simpa using hcm
      rcases e' with q | q | q | q | q
      · rw [q]
        exact Heap.lt_size hz
      · rw [q]
        exact Heap.lt_size hTI
      · rw [q]
        obtain ⟨_, _, h0⟩ := hTO
        exact Heap.lt_size h0
      · rw [q]
        obtain ⟨_, e1, _⟩ := h1
        exact Heap.lt_size e1
      · rw [q]
        obtain ⟨_, e2, _⟩ := h2
        exact Heap.lt_size e2
    rw [upd_ne (Nat.ne_of_lt (Nat.lt_of_lt_of_le hlt2 hnew))]
    exact (hf c hcm).1
  done := by
    intro X hP hw hK hc i pins s σ H E I hf st hg
    subst hP hw hK
    obtain ⟨hz, hTI, hTO, h1, h2⟩ := st
    obtain ⟨xs, ys, hqx, hqy, e1, e2⟩ := hg
    obtain ⟨its, rv, p, _⟩ := I.list hqx
    obtain ⟨its2, rv2, p2, _⟩ := I.tuple hqy
    have l1 := rv.length
    have l2 := rv2.length
    have ei : min its.toArray.size its2.toArray.size = i := by
      simp
      omega
    have W := GoesN.zip2 (elts := elts) (x1 := kk) (pos := tpos) (prog := X.prog) (w := X.w) (A := X.A) S (Draws.list (show X.A.in1.handled = none from I.ok.hd hc) i1 a ha its.toArray) (Draws.tuple (show X.A.in1.handled = none from I.ok.hd hc) i2 b hb its2.toArray)
    rw [ei] at W
    exact W.stops s (fun s1 => Inv X pins σ H s1) E ⟨hz, hTI, hTO, ⟨h1, p.isList⟩, ⟨h2, p2⟩⟩ fun h' tk hk _ => I.turnedL (ch := [z, TI, TO, i1, i2]) (fun c o hb q => hk c o (fun q' => hb (by
      have e' : c = z ∨ c = TO ∨ c = i1 ∨ c = i2 := by simpa using q'
      rcases e' with r | r | r | r <;> simp [r])) q) hf
  self := fun A i s Q E st h => wpAny_pyIter_zip st.1 h
def iZipM (K : PySem.W.Frag) (ta : TA) : TI := fun σ H R => ta σ H fun vs H1 => ∃ a b xs ys, vs = [.ref a, .ref b] ∧ SqL K H1 a xs ∧ SqT K H1 b ys ∧ R (ItzM K a b) H1
theorem pi_zipM {X : Cx} {e e2 : Expr} {ta : TA} {p pos tpos : Pos} {elts : List Expr} {kk : Nat} (hg : Gl X "zip") (hm : X.mg "zip" = none) (ha : PA X [e, e2] ta)
    (hs : starEach [e, e2] X.env = (false, eval e X.env) :: starEach [e2] X.env := by rfl) (hpl : (backTo pos (starEach [e2] X.env)).any (·.1) = false := by rfl) :
    PI X (.Tuple elts kk tpos) (.Call (.Name "zip" p) [e, e2] [] pos) (iZipM X.K ta) := by
  refine ⟨fun pins s σ H R I h => ?_⟩
  refine Call_ (ld_blt I hg hm PyProof.Rows.boot_zip (PyProof.Rows.callWith_type1 (thn (ha.run pos pins s σ H _ I h) fun us s1 ⟨vs, H1, I1, r1, q1⟩ => ?_) hs hpl))
  obtain ⟨a, b, xs, ys, ex, hqx, hqy, q⟩ := q1
  subst ex
  cases r1 with
  | cons r rr =>
    cases rr with
    | cons r' rr =>
      cases rr
      cases r
      cases r'
      obtain ⟨its, rv, p1, _⟩ := I1.list hqx
      obtain ⟨its2, rv2, p2, _⟩ := I1.tuple hqy
      have la : a < s1.heap.objs.size := p1.lt
      have lb : b < s1.heap.objs.size := p2.lt
      refine zip_begins2 (begins_list a its.toArray) (begins_tuple b its2.toArray) p1.isList p2 fun h' hz hTI hTO h1 h2 hsz hk => wpAny_pyIter_zip hz ?_
      have I2 : Inv X pins σ H1 { s1 with heap := h' } := I1.kept (t' := s1.toks) hk
      refine ⟨s1.heap.objs.size + 4, [s1.heap.objs.size + 4, s1.heap.objs.size + 2, s1.heap.objs.size + 3, s1.heap.objs.size, s1.heap.objs.size + 1], _, _, H1, rfl, I2,
        turnZipM (zip_sep2 (N := s1.heap.objs.size) (fp1 := [a]) (fp2 := [b]) (fun c hc => by rw [List.mem_singleton.mp hc]; exact la) (fun c hc => by rw [List.mem_singleton.mp hc]; exact lb)) (Nat.ne_of_lt la) (Nat.ne_of_lt (Nat.lt_succ_of_lt lb)),
        ⟨hz, hTI, ⟨_, _, hTO⟩, ⟨_, h1, rfl, rfl⟩, ⟨_, h2, rfl, rfl⟩⟩, fun c hcm => ?_, q⟩
      have e' : c = s1.heap.objs.size + 4 ∨ c = s1.heap.objs.size + 2 ∨ c = s1.heap.objs.size + 3 ∨ c = s1.heap.objs.size ∨ c = s1.heap.objs.size + 1 := by simpa using hcm
      have hle : s1.heap.objs.size ≤ c := by
        rcases e' with z | z | z | z | z
        · rw [z]
          exact Nat.le_add_right _ _
        · rw [z]
          exact Nat.le_add_right _ _
        · rw [z]
          exact Nat.le_add_right _ _
        · rw [z]
          exact Nat.le_refl _
        · rw [z]
          exact Nat.le_add_right _ _
      exact I1.fpOk hle (I1.hok.fresh hle)
theorem walk_zipM {K : PySem.W.Frag} {a b : Addr} {xs ys : List V} (hn : xs.length = ys.length) : Walk (ItzM K a b) xs.length (fun H => SqL K H a xs ∧ SqT K H b ys) (YPair (fun i => xs[i]?) (fun i => ys[i]?)) := by
  refine ⟨fun i _ hi q => ?_, fun _ q => ⟨xs, ys, q.1, q.2, rfl, hn.symm⟩, fun i H v H' _ q y => ?_⟩
  · have h2 : i < ys.length := by omega
    exact ⟨xs, ys, xs[i], ys[i], q.1, q.2, by simp [hi], by simp [h2]⟩
  · obtain ⟨p, x, z, h1, h2, h3, h4, h5⟩ := y
    exact ⟨p, x, z, h1, h2, h3, h4 xs q.1, h5 ys q.2⟩
end G
set_option maxRecDepth 100000
set_option maxHeartbeats 4000000
/-! Gd: a dict whose keys are texts and pairs of numbers. -/
namespace G
open PySem PySem.Spec PyProof.Rows L2

section
variable {prog : Program} {w : World} {A : Around} {E : Value → Shared → Prop} {s : Shared}
/-- looking for a key: j is the place where it stands, if it does -/
structure Seek (prog : Program) (w : World) (A : Around) (s : Shared) (es : Array DictEntry) (key : Value) (hk : Int) (j : Option Nat) : Prop where
  lt : ∀ i, j = some i → i < es.size
  hash : ∀ i (hi : i < es.size), j = some i → es[i].hash = hk
  eq : ∀ i (hi : i < es.size) (E : Value → Shared → Prop) (Q : Bool → Shared → Prop), Q (decide (j = some i)) s → wpAny (model prog w) A (eqBool es[i].key key) Q E s
  quietK : ∀ (E : Value → Shared → Prop) (Q : Bool → Shared → Prop), Q true s → wpAny (model prog w) A (eqIsQuiet 8 key) Q E s
  quiet : ∀ i (hi : i < es.size) (E : Value → Shared → Prop) (Q : Bool → Shared → Prop), Q true s → wpAny (model prog w) A (eqIsQuiet 8 es[i].key) Q E s
  apart : ∀ i (hi : i < es.size), es[i].key = key → es[i].hash = hk
  txt : ∀ x t, key = .str x t → ∀ i (hi : i < es.size), es[i].key.isStr x = decide (j = some i)
theorem tellNot {es : Array DictEntry} {key : Value} {hk : Int} {j : Option Nat} {l : List Value} {Q : Bool → Shared → Prop} (S : Seek prog w A s es key hk j) (hl : ∀ v ∈ l, ∃ i, ∃ hi : i < es.size, v = es[i].key) (h : Q false s) :
    wpAny (model prog w) A (tableMayTell key l) Q E s := by
  unfold tableMayTell
  split
  · exact wpAny_pure h
  · refine wpAny_bind (S.quietK _ _ ?_)
    simp only [Bool.not_true, Bool.false_eq_true, if_false]
    refine wpAny_bind ?_
    refine wpAny_forIn_list _ (fun rest r s' => s' = s ∧ r = (none, ()) ∧ ∀ v ∈ rest, ∃ i, ∃ hi : i < es.size, v = es[i].key) _ ?_ ?_ _ _ ⟨rfl, rfl, hl⟩
    · rintro x rest r s' ⟨rfl, rfl, hr⟩
      obtain ⟨i, hi, ex⟩ := hr x List.mem_cons_self
      rw [ex]
      refine wpAny_bind (S.quiet i hi _ _ ?_)
      simp only [Bool.not_true, Bool.false_eq_true, if_false]
      exact wpAny_pure ⟨rfl, rfl, fun v hv => hr v (List.mem_cons_of_mem _ hv)⟩
    · rintro r s' ⟨rfl, rfl, _⟩
      exact wpAny_pure h
/-- the places that are looked at -/
theorem places_mem {es : Array DictEntry} {hk : Int} {i : Nat} : i ∈ placesWithHash es.size (fun i => es[i]?.map (·.hash)) hk ↔ ∃ hi : i < es.size, es[i].hash = hk := by
  unfold placesWithHash
  rw [List.mem_filter, List.mem_range]
  constructor
  · rintro ⟨hi, e⟩
    refine ⟨hi, ?_⟩
    have e2 : (es[i]?.map (·.hash) == some hk) = true := e
    rw [Array.getElem?_eq_getElem hi] at e2
    simpa using e2
  · rintro ⟨hi, e⟩
    refine ⟨hi, ?_⟩
    show (es[i]?.map (·.hash) == some hk) = true
    rw [Array.getElem?_eq_getElem hi]
    simpa using e
theorem places_nodup {es : Array DictEntry} {hk : Int} : (placesWithHash es.size (fun i => es[i]?.map (·.hash)) hk).Nodup := List.Nodup.sublist List.filter_sublist List.nodup_range
theorem seek_plain {d : Addr} {o : Obj} {es : Array DictEntry} {ep : Nat} {key : Value} {hk : Int} {j : Option Nat} {Q : Option Nat → Shared → Prop} (S : Seek prog w A s es key hk j) (ho : s.heap.get? d = some o) (hd : o.data = .dict es ep) (h : Q j s)
    (ps : List Nat) (hps : ∀ i ∈ ps, ∃ hi : i < es.size, es[i].hash = hk) (hj : ∀ i, j = some i → i ∈ ps) : wpAny (model prog w) A (dictWalkPlain d key hk es ps) Q E s := by
  unfold dictWalkPlain
  refine wpAny_bind ?_
  refine wpAny_forIn_list _ (fun rest b s' => s' = s ∧ b = (none, ()) ∧ (∀ i ∈ rest, ∃ hi : i < es.size, es[i].hash = hk) ∧ ∀ i, j = some i → i ∈ rest) _ ?_ ?_ _ _ ⟨rfl, rfl, hps, hj⟩
  · rintro x rest b s' ⟨rfl, rfl, hr, hjr⟩
    obtain ⟨hx, eh⟩ := hr x List.mem_cons_self
    simp only [Array.getElem?_eq_getElem hx]
    rw [if_pos (by rw [eh]; exact beq_self_eq_true hk)]
    refine wpAny_bind (wpAny_dictEpoch ho hd (wpAny_bind (S.eq x hx _ _ (wpAny_bind (wpAny_dictEpoch ho hd ?_)))))
    show wpAny _ _ (if (ep != ep) = true then _ else _) _ E _
    rw [if_neg (by simp)]
    by_cases e : j = some x
    · rw [decide_eq_true e]
      rw [e] at h
      exact wpAny_bind (wpAny_rule (wpAny_pure (wpAny_pure h)))
    · rw [decide_eq_false e]
      refine wpAny_bind (wpAny_rule (wpAny_pure ⟨rfl, rfl, fun i hi => hr i (List.mem_cons_of_mem _ hi), fun i ei => ?_⟩))
      rcases List.mem_cons.mp (hjr i ei) with q | q
      · exact absurd (q ▸ ei) e
      · exact q
  · rintro b s' ⟨rfl, rfl, _, hjr⟩
    cases e : j with
    | none =>
      rw [e] at h
      exact wpAny_pure h
    | some i => exact absurd (hjr i e) (by simp)
/-- the road over all places -/
theorem seek_ok {d : Addr} {o : Obj} {es : Array DictEntry} {ep : Nat} {key : Value} {hk : Int} {j : Option Nat} {Q : Option Nat → Shared → Prop} (S : Seek prog w A s es key hk j) (kv : (∃ x t, key = .str x t) ∨ ∃ a, key = .ref a)
    (ho : s.heap.get? d = some o) (hd : o.data = .dict es ep) (h : Q j s) : wpAny (model prog w) A (dictFind d key hk) Q E s := by
  have hps : ∀ i ∈ placesWithHash es.size (fun i => es[i]?.map (·.hash)) hk, ∃ hi : i < es.size, es[i].hash = hk := fun i hi => places_mem.mp hi
  have hjp : ∀ i, j = some i → i ∈ placesWithHash es.size (fun i => es[i]?.map (·.hash)) hk := fun i e => places_mem.mpr ⟨S.lt i e, S.hash i (S.lt i e) e⟩
  have hnd : (placesWithHash es.size (fun i => es[i]?.map (·.hash)) hk).Nodup := places_nodup
  have hst : ∀ v ∈ (placesWithHash es.size (fun i => es[i]?.map (·.hash)) hk).filterMap (fun i => es[i]?.map (·.key)), ∃ i, ∃ hi : i < es.size, v = es[i].key := by
    intro v hv
    obtain ⟨i, him, hi⟩ := List.mem_filterMap.mp hv
    obtain ⟨hi2, _⟩ := hps i him
    rw [Array.getElem?_eq_getElem hi2] at hi
    exact ⟨i, hi2, (Option.some.inj hi).symm⟩
  have hany : ¬ (es.any fun e => e.key == key && e.hash != hk) = true := by
    rw [← Array.any_toList, List.any_eq_true]
    rintro ⟨e, hin, hc⟩
    obtain ⟨i, hi, rfl⟩ := Array.mem_iff_getElem.mp (Array.mem_toList_iff.mp hin)
    rw [Bool.and_eq_true, bne_iff_ne] at hc
    exact hc.2 (S.apart i hi (eq_of_beq hc.1))
  have hbv : ∀ i (hi : i < es.size), es[i].hash = hk → True := fun _ _ _ => trivial
  unfold dictFind
  try with_reducible refine wpAny_holding ?_
  refine wpAny_bind (wpAny_dictEntries ho hd ?_)
  dsimp only
  generalize hp : placesWithHash es.size (fun i => es[i]?.map (·.hash)) hk = ps at hps hjp hnd hst
  rcases kv with ⟨x, t, rfl⟩ | ⟨a, rfl⟩
  · by_cases c1 : (es.all fun e => isExactStrKey e.key) = true
    · dsimp only
      rw [if_pos c1]
      unfold foundByValue
      cases e : j with
      | none =>
        have hf : (es.findIdx? fun e => e.key.isStr x) = none := by
          rw [Array.findIdx?_eq_none_iff]
          intro u hu
          obtain ⟨i, hi, rfl⟩ := Array.mem_iff_getElem.mp hu
          rw [S.txt x t rfl i hi, e]
          simp
        rw [hf]
        rw [e] at h
        exact wpAny_pure h
      | some i =>
        have hi := S.lt i e
        have hf : (es.findIdx? fun e => e.key.isStr x) = some i := by
          rw [Array.findIdx?_eq_some_iff_getElem]
          refine ⟨hi, by rw [S.txt x t rfl i hi]; exact decide_eq_true e, fun m hm => ?_⟩
          rw [S.txt x t rfl m (by omega), e]
          simp
          omega
        rw [hf]
        simp only [Array.getElem?_eq_getElem hi]
        refine wpAny_bind (wpAny_dictEpoch ho hd (wpAny_bind (S.eq i hi _ _ (wpAny_bind (wpAny_dictEpoch ho hd ?_)))))
        show wpAny _ _ (if (ep != ep) = true then _ else _) _ E _
        rw [if_neg (by simp), decide_eq_true e]
        rw [e] at h
        exact wpAny_bind (wpAny_rule (wpAny_pure h))
    · dsimp only
      rw [if_neg c1]
      by_cases c2 : ((Value.str x t :: ps.filterMap (fun i => es[i]?.map (·.key))).all carriedByValue) = true
      · rw [if_pos c2]
        exact seek_plain S ho hd h ps hps hjp
      · rw [if_neg c2]
        by_cases hone : ((ps.filterMap (fun i => es[i]?.map (·.key))) == [Value.str x t]) = true <;>
        (first | rw [if_pos hone] | rw [if_neg hone]) <;> (first | refine wpAny_bind (wpAny_pure ?_) | refine wpAny_bind (tellNot S hst ?_)) <;> (
          rw [if_neg (by simp)]
          refine wpAny_bind ?_
          refine wpAny_forIn_list _ (fun rest b s' => s' = s ∧ ∃ hit done, b = (none, hit) ∧ ps = done ++ rest ∧ ((hit = none ∧ ∀ i, j = some i → i ∉ done) ∨ (hit = j ∧ ∃ i, j = some i ∧ i ∈ done))) _ ?_ ?_ _ _
            ⟨rfl, none, [], rfl, rfl, .inl ⟨rfl, fun _ _ => by simp⟩⟩
          · rintro x2 rest b s' ⟨rfl, hit, done, rfl, eps, hH⟩
            obtain ⟨hx, eh⟩ := hps x2 (by rw [eps]; simp)
            simp only [Array.getElem?_eq_getElem hx]
            rw [if_pos (by rw [eh]; exact beq_self_eq_true hk)]
            refine wpAny_bind (wpAny_dictEpoch ho hd (wpAny_bind (S.eq x2 hx _ _ (wpAny_bind (wpAny_dictEpoch ho hd ?_)))))
            show wpAny _ _ (if (ep != ep) = true then _ else _) _ E _
            rw [if_neg (by simp)]
            have nin : x2 ∉ done := fun q => by
              rw [eps, List.nodup_append] at hnd
              exact hnd.2.2 x2 q x2 List.mem_cons_self rfl
            by_cases e : j = some x2
            · rw [decide_eq_true e]
              rcases hH with ⟨rfl, hno⟩ | ⟨rfl, i, ei, hi⟩
              · first | rw [if_pos rfl] | skip
                simp only [Option.isSome_none, Bool.false_eq_true, if_false]
                first | refine wpAny_bind (wpAny_pure ?_) | skip
                refine wpAny_bind (wpAny_rule ?_)
                split
                · rw [e] at h
                  exact wpAny_pure (wpAny_pure h)
                · exact wpAny_pure ⟨rfl, some x2, done ++ [x2], rfl, by rw [eps]; simp, .inr ⟨e.symm, x2, e, by simp⟩⟩
              · rw [e] at ei
                exact absurd ((Option.some.inj ei) ▸ hi) nin
            · rw [decide_eq_false e]
              simp only [Bool.false_eq_true, if_false]
              refine wpAny_bind (wpAny_rule ?_)
              have nx : (hit = none ∧ ∀ i, j = some i → i ∉ done ++ [x2]) ∨ (hit = j ∧ ∃ i, j = some i ∧ i ∈ done ++ [x2]) := by
                rcases hH with ⟨r, hno⟩ | ⟨r, i, ei, hi⟩
                · refine .inl ⟨r, fun i ei hm => ?_⟩
                  rcases List.mem_append.mp hm with q | q
                  · exact hno i ei q
                  · rw [List.mem_singleton.mp q] at ei
                    exact e ei
                · exact .inr ⟨r, i, ei, List.mem_append_left _ hi⟩
              first | rw [if_neg (by simp)] | skip
              first
                | exact wpAny_pure ⟨rfl, hit, done ++ [x2], rfl, by rw [eps]; simp, nx⟩
                | exact wpAny_bind (wpAny_pure (wpAny_pure ⟨rfl, hit, done ++ [x2], rfl, by rw [eps]; simp, nx⟩))
          · rintro b s' ⟨rfl, hit, done, rfl, eps, hH⟩
            rw [List.append_nil] at eps
            rcases hH with ⟨rfl, hno⟩ | ⟨rfl, _⟩
            · cases e : j with
              | none =>
                rw [e] at h
                exact wpAny_pure h
              | some i => exact absurd (eps ▸ hjp i e) (hno i e)
            · exact wpAny_pure h)
  · dsimp only
    rw [if_neg (show ¬ ((Value.ref a :: ps.filterMap (fun i => es[i]?.map (·.key))).all carriedByValue) = true by simp [carriedByValue])]
    rw [if_neg hany]
    by_cases hone : ((ps.filterMap (fun i => es[i]?.map (·.key))) == [Value.ref a]) = true <;>
    (first | rw [if_pos hone] | rw [if_neg hone]) <;> (first | refine wpAny_bind (wpAny_pure ?_) | refine wpAny_bind (tellNot S hst ?_)) <;> (
      rw [if_neg (by simp)]
      refine wpAny_bind ?_
      refine wpAny_forIn_list _ (fun rest b s' => s' = s ∧ ∃ hit done, b = (none, hit) ∧ ps = done ++ rest ∧ ((hit = none ∧ ∀ i, j = some i → i ∉ done) ∨ (hit = j ∧ ∃ i, j = some i ∧ i ∈ done))) _ ?_ ?_ _ _
        ⟨rfl, none, [], rfl, rfl, .inl ⟨rfl, fun _ _ => by simp⟩⟩
      · rintro x2 rest b s' ⟨rfl, hit, done, rfl, eps, hH⟩
        obtain ⟨hx, eh⟩ := hps x2 (by rw [eps]; simp)
        simp only [Array.getElem?_eq_getElem hx]
        rw [if_pos (by rw [eh]; exact beq_self_eq_true hk)]
        refine wpAny_bind (wpAny_dictEpoch ho hd (wpAny_bind (S.eq x2 hx _ _ (wpAny_bind (wpAny_dictEpoch ho hd ?_)))))
        show wpAny _ _ (if (ep != ep) = true then _ else _) _ E _
        rw [if_neg (by simp)]
        have nin : x2 ∉ done := fun q => by
          rw [eps, List.nodup_append] at hnd
          exact hnd.2.2 x2 q x2 List.mem_cons_self rfl
        by_cases e : j = some x2
        · rw [decide_eq_true e]
          rcases hH with ⟨rfl, hno⟩ | ⟨rfl, i, ei, hi⟩
          · first | rw [if_pos rfl] | skip
            simp only [Option.isSome_none, Bool.false_eq_true, if_false]
            first | refine wpAny_bind (wpAny_pure ?_) | skip
            refine wpAny_bind (wpAny_rule ?_)
            split
            · rw [e] at h
              exact wpAny_pure (wpAny_pure h)
            · exact wpAny_pure ⟨rfl, some x2, done ++ [x2], rfl, by rw [eps]; simp, .inr ⟨e.symm, x2, e, by simp⟩⟩
          · rw [e] at ei
            exact absurd ((Option.some.inj ei) ▸ hi) nin
        · rw [decide_eq_false e]
          simp only [Bool.false_eq_true, if_false]
          refine wpAny_bind (wpAny_rule ?_)
          have nx : (hit = none ∧ ∀ i, j = some i → i ∉ done ++ [x2]) ∨ (hit = j ∧ ∃ i, j = some i ∧ i ∈ done ++ [x2]) := by
            rcases hH with ⟨r, hno⟩ | ⟨r, i, ei, hi⟩
            · refine .inl ⟨r, fun i ei hm => ?_⟩
              rcases List.mem_append.mp hm with q | q
              · exact hno i ei q
              · rw [List.mem_singleton.mp q] at ei
                exact e ei
            · exact .inr ⟨r, i, ei, List.mem_append_left _ hi⟩
          first | rw [if_neg (by simp)] | skip
          first
            | exact wpAny_pure ⟨rfl, hit, done ++ [x2], rfl, by rw [eps]; simp, nx⟩
            | exact wpAny_bind (wpAny_pure (wpAny_pure ⟨rfl, hit, done ++ [x2], rfl, by rw [eps]; simp, nx⟩))
      · rintro b s' ⟨rfl, hit, done, rfl, eps, hH⟩
        rw [List.append_nil] at eps
        rcases hH with ⟨rfl, hno⟩ | ⟨rfl, _⟩
        · cases e : j with
          | none =>
            rw [e] at h
            exact wpAny_pure h
          | some i => exact absurd (eps ▸ hjp i e) (hno i e)
        · exact wpAny_pure h)
end

/-! ### such a dict, as the object that Store.numbers is -/
/-- what a key says: a text, a pair of numbers -/
abbrev NK := Sum Str (Int × Int)
def prK (p : Int × Int) : List Key := [.inl p.1, .inl p.2]
def nkHash (P : Program) (w : World) : NK → Int
  | .inl x => hashStr w x
  | .inr p => tupleKeyHash (mixKind P w) (prK p)
def nkV (H : Hp) : NK → V → Prop
  | .inl x, v => v = .str x
  | .inr p, v => ∃ q, v = .ref q ∧ H q = some (.tup [.int p.1, .int p.2])
/-- the m-th key of ks (its content, the value itself) holds the number m + 1 -/
def numPhi (P : Program) (w : World) (d : Addr) (ks : List (NK × V)) (h : Heap) : Prop :=
  ∃ o es ep, h.get? d = some o ∧ o.ExactDict ∧ o.data = .dict es ep ∧ es.size = ks.length ∧
    ∀ m (hm : m < es.size) k v, ks[m]? = some (k, v) → RelV v es[m].key ∧ es[m].hash = nkHash P w k ∧ ∃ t, es[m].val = .int ((m : Int) + 1) t
def numO (P : Program) (w : World) (d : Addr) (ks : List (NK × V)) : HO := .ext (numPhi P w d ks)
def NKeys (H : Hp) (ks : List (NK × V)) : Prop := (∀ p ∈ ks, nkV H p.1 p.2) ∧ (ks.map (·.1)).Nodup
/-- where a key stands -/
def nAt (k : NK) : List (NK × V) → Option Nat
  | [] => none
  | p :: r => if p.1 = k then some 0 else (nAt k r).map (· + 1)
theorem nAt_iff {k : NK} : ∀ {ks : List (NK × V)}, (ks.map (·.1)).Nodup → ∀ {m : Nat} {p : NK × V}, ks[m]? = some p → (p.1 = k ↔ nAt k ks = some m)
  | [], _, m, p, h => by cases m <;> cases h
  | q :: r, hn, 0, p, h => by
    cases h
    unfold nAt
    by_cases e : q.1 = k
    · simp [e]
    · simp [e]
  | q :: r, hn, m + 1, p, h => by
    rw [List.map_cons, List.nodup_cons] at hn
    have ih := nAt_iff (k := k) hn.2 (show r[m]? = some p from h)
    have hmem : p.1 ∈ r.map (·.1) := List.mem_map.mpr ⟨p, List.mem_of_getElem? (show r[m]? = some p from h), rfl⟩
    unfold nAt
    by_cases e : q.1 = k
    · rw [if_pos e]
      constructor
      · intro e2
        exact absurd (by rw [e, ← e2]; exact hmem) hn.1
      · intro e2
        cases e2
    · rw [if_neg e]
      constructor
      · intro e2
        rw [ih.mp e2]
        rfl
      · intro e2
        cases e3 : nAt k r with
        | none =>
          rw [e3] at e2
          cases e2
        | some x =>
          rw [e3] at e2
          have e4 : x + 1 = m + 1 := Option.some.inj e2
          rw [e3] at ih
          exact ih.mpr (by rw [show x = m by omega])
theorem nAt_lt {k : NK} : ∀ {ks : List (NK × V)} {m : Nat}, nAt k ks = some m → m < ks.length
  | [], m, h => by cases h
  | q :: r, m, h => by
    unfold nAt at h
    by_cases e : q.1 = k
    · rw [if_pos e] at h
      cases h
      exact Nat.succ_pos _
    · rw [if_neg e] at h
      cases e3 : nAt k r with
      | none =>
        rw [e3] at h
        cases h
      | some x =>
        rw [e3] at h
        have e4 : x + 1 = m := Option.some.inj h
        have := nAt_lt e3
        rw [List.length_cons]
        omega
theorem nAt_none {k : NK} : ∀ {ks : List (NK × V)}, (∀ p ∈ ks, p.1 ≠ k) → nAt k ks = none
  | [], _ => rfl
  | q :: r, h => by
    unfold nAt
    rw [if_neg (h q List.mem_cons_self), nAt_none fun p hp => h p (List.mem_cons_of_mem _ hp)]
    rfl
section
variable {X : Cx} {pins : List (Addr × Obj)} {σ : L2.St} {H : Hp} {s : Shared} {d : Addr} {ks : List (NK × V)} {k : NK} {y : V} {u : Value} {A : Around} {E : Value → Shared → Prop}
theorem num_is (I : Inv X pins σ H s) {p : Int × Int} {q : Addr} (h : H q = some (.tup [.int p.1, .int p.2])) : (tupleKind (mixKind X.prog X.w)).is s.heap (prK p) q := key_of (ks := prK p) I.hok h
theorem num_hash (hu : A.units < cLine) (I : Inv X pins σ H s) (hk : nkV H k y) (ry : RelV y u) {Q : Int → Shared → Prop} (h : ∀ t, Q (nkHash X.prog X.w k) { s with toks := t }) : wpAny (model X.prog X.w) A (pyHash u) Q E s := by
  cases k with
  | inl x =>
    obtain rfl : y = .str x := hk
    obtain ⟨t, rfl⟩ := (show ∃ t, u = Value.str x t from ry)
    exact wpAny_pyHash_str (h _)
  | inr p =>
    obtain ⟨q, rfl, hq⟩ := hk
    obtain rfl : u = Value.ref q := ry
    exact wpAny_pyHash_tuple hu (num_is I hq) (h _)
theorem num_quiet (I : Inv X pins σ H s) (hk : nkV H k y) (ry : RelV y u) {Q : Bool → Shared → Prop} (h : Q true s) : wpAny (model X.prog X.w) A (eqIsQuiet 8 u) Q E s := by
  cases k with
  | inl x =>
    obtain rfl : y = .str x := hk
    obtain ⟨t, rfl⟩ := (show ∃ t, u = Value.str x t from ry)
    rw [eqIsQuiet_byValue 8 (show carriedByValue (Value.str x t) = true from rfl)]
    exact wpAny_pure h
  | inr p =>
    obtain ⟨q, rfl, hq⟩ := hk
    obtain rfl : u = Value.ref q := ry
    exact wpAny_eqIsQuiet_tuple (num_is I hq) h
theorem num_eq (hu : A.units < cLine) (I : Inv X pins σ H s) {k2 : NK} {y2 : V} {u2 : Value} (hk : nkV H k y) (ry : RelV y u) (hk2 : nkV H k2 y2) (ry2 : RelV y2 u2) {Q : Bool → Shared → Prop} (h : Q (decide (k2 = k)) s) :
    wpAny (model X.prog X.w) A (eqBool u2 u) Q E s := by
  cases k with
  | inl x =>
    obtain rfl : y = .str x := hk
    obtain ⟨t, rfl⟩ := (show ∃ t, u = Value.str x t from ry)
    cases k2 with
    | inl x2 =>
      obtain rfl : y2 = .str x2 := hk2
      obtain ⟨t2, rfl⟩ := (show ∃ t, u2 = Value.str x2 t from ry2)
      refine wpAny_eqBool_str ?_
      have e : decide (x2 = x) = decide ((Sum.inl x2 : NK) = Sum.inl x) := by
        by_cases e : x2 = x
        · simp [e]
        · simp [e]
      rw [e]
      exact h
    | inr p2 =>
      obtain ⟨q2, rfl, hq2⟩ := hk2
      obtain rfl : u2 = Value.ref q2 := ry2
      obtain ⟨_, its, _, o, h1, h2, n, h3⟩ := (show ObjOk X.prog X.w H s.heap q2 (.tup [.int p2.1, .int p2.2]) from I.hok q2 _ hq2)
      exact SeqAt.EqAt.tuple_str x t ⟨o, h1, h2, n, h3⟩ hu X.prog X.w E Q (by simpa using h)
  | inr p =>
    obtain ⟨q, rfl, hq⟩ := hk
    obtain rfl : u = Value.ref q := ry
    cases k2 with
    | inl x2 =>
      obtain rfl : y2 = .str x2 := hk2
      obtain ⟨t2, rfl⟩ := (show ∃ t, u2 = Value.str x2 t from ry2)
      obtain ⟨_, its, _, o, h1, h2, n, h3⟩ := (show ObjOk X.prog X.w H s.heap q (.tup [.int p.1, .int p.2]) from I.hok q _ hq)
      exact SeqAt.EqAt.str_tuple x2 t2 ⟨o, h1, h2, n, h3⟩ hu X.prog X.w E Q (by simpa using h)
    | inr p2 =>
      obtain ⟨q2, rfl, hq2⟩ := hk2
      obtain rfl : u2 = Value.ref q2 := ry2
      refine wpAny_eqBool_tuple hu (num_is I hq2) (num_is I hq) ?_
      have e : decide (prK p2 = prK p) = decide ((Sum.inr p2 : NK) = Sum.inr p) := by
        obtain ⟨a, b⟩ := p
        obtain ⟨a2, b2⟩ := p2
        simp [prK]
      rw [e]
      exact h
theorem num_same (hk : nkV H k y) {k2 : NK} {y2 : V} (hk2 : nkV H k2 y2) (ry : RelV y u) (ry2 : RelV y2 u) : k2 = k := by
  cases k with
  | inl x =>
    obtain rfl : y = .str x := hk
    obtain ⟨t, rfl⟩ := (show ∃ t, u = Value.str x t from ry)
    cases k2 with
    | inl x2 =>
      obtain rfl : y2 = .str x2 := hk2
      obtain ⟨t2, e⟩ := (show ∃ t2, Value.str x t = Value.str x2 t2 from ry2)
      cases e
      rfl
    | inr p2 =>
      obtain ⟨q2, rfl, hq2⟩ := hk2
      cases (show Value.str x t = Value.ref q2 from ry2)
  | inr p =>
    obtain ⟨q, rfl, hq⟩ := hk
    obtain rfl : u = Value.ref q := ry
    cases k2 with
    | inl x2 =>
      obtain rfl : y2 = .str x2 := hk2
      obtain ⟨t2, e⟩ := (show ∃ t2, Value.ref q = Value.str x2 t2 from ry2)
      cases e
    | inr p2 =>
      obtain ⟨q2, rfl, hq2⟩ := hk2
      cases (show Value.ref q = Value.ref q2 from ry2)
      rw [hq] at hq2
      obtain ⟨a, b⟩ := p
      obtain ⟨a2, b2⟩ := p2
      simp at hq2
      obtain ⟨rfl, rfl⟩ := hq2
      rfl
theorem num_seek (hu : A.units < cLine) (I : Inv X pins σ H s) (n : NKeys H ks) (hk : nkV H k y) (ry : RelV y u) {es : Array DictEntry} (hz : es.size = ks.length)
    (he : ∀ m (hm : m < es.size) k v, ks[m]? = some (k, v) → RelV v es[m].key ∧ es[m].hash = nkHash X.prog X.w k ∧ ∃ t, es[m].val = .int ((m : Int) + 1) t) :
    Seek X.prog X.w A s es u (nkHash X.prog X.w k) (nAt k ks) := by
  have at_ : ∀ m (hm : m < es.size), ∃ k2 v2, ks[m]? = some (k2, v2) ∧ nkV H k2 v2 ∧ RelV v2 es[m].key ∧ es[m].hash = nkHash X.prog X.w k2 ∧ (decide (nAt k ks = some m) = decide (k2 = k)) := fun m hm => by
    have hm2 : m < ks.length := by omega
    refine ⟨ks[m].1, ks[m].2, by simp [hm2], n.1 _ (List.getElem_mem hm2), ?_⟩
    obtain ⟨a, b, _⟩ := he m hm ks[m].1 ks[m].2 (by simp [hm2])
    refine ⟨a, b, ?_⟩
    have q := nAt_iff (k := k) n.2 (m := m) (p := ks[m]) (by simp [hm2])
    by_cases e : ks[m].1 = k
    · rw [decide_eq_true e, decide_eq_true (q.mp e)]
    · rw [decide_eq_false e, decide_eq_false fun z => e (q.mpr z)]
  refine ⟨fun i e => by rw [hz]; exact nAt_lt e, fun i hi e => ?_, fun i hi E Q h => ?_, fun E Q h => num_quiet I hk ry h, fun i hi E Q h => ?_, fun i hi e => ?_, fun x t e i hi => ?_⟩
  · obtain ⟨k2, v2, _, _, _, hh, hd⟩ := at_ i hi
    rw [decide_eq_true e] at hd
    rw [hh, of_decide_eq_true hd.symm]
  · obtain ⟨k2, v2, _, h1, h2, _, hd⟩ := at_ i hi
    exact num_eq hu I hk ry h1 h2 (by rw [← hd]; exact h)
  · obtain ⟨k2, v2, _, h1, h2, _, hd⟩ := at_ i hi
    exact num_quiet I h1 h2 h
  · obtain ⟨k2, v2, _, h1, h2, hh, hd⟩ := at_ i hi
    rw [hh, num_same hk h1 ry (by rw [← e]; exact h2)]
  · subst e
    obtain ⟨k2, v2, _, h1, h2, hh, hd⟩ := at_ i hi
    rw [hd]
    cases k with
    | inr p =>
      obtain ⟨q, rfl, hq⟩ := hk
      cases (show Value.str x t = Value.ref q from ry)
    | inl x0 =>
      obtain rfl : y = .str x0 := hk
      obtain ⟨t0, e0⟩ := (show ∃ t0, Value.str x t = Value.str x0 t0 from ry)
      cases e0
      cases k2 with
      | inl x2 =>
        obtain rfl : v2 = .str x2 := h1
        obtain ⟨t2, e2⟩ := (show ∃ t2, es[i].key = Value.str x2 t2 from h2)
        rw [e2]
        show (x2 == x) = _
        by_cases e : x2 = x
        · simp [e]
        · simp [e]
      | inr p2 =>
        obtain ⟨q2, rfl, hq2⟩ := h1
        have e2 : es[i].key = Value.ref q2 := h2
        rw [e2]
        simp [Value.isStr]
theorem num_shape (hk : nkV H k y) (ry : RelV y u) : (∃ x t, u = .str x t) ∨ ∃ a, u = .ref a := by
  cases k with
  | inl x =>
    obtain rfl : y = .str x := hk
    obtain ⟨t, rfl⟩ := (show ∃ t, u = Value.str x t from ry)
    exact .inl ⟨x, t, rfl⟩
  | inr p =>
    obtain ⟨q, rfl, hq⟩ := hk
    exact .inr ⟨q, ry⟩
theorem num_typeIs (I : Inv X pins σ H s) (e : H d = some (numO X.prog X.w d ks)) : s.TypeIs (.ref d) "dict" := by
  obtain ⟨⟨o, es, ep, ho, hc, _⟩, _⟩ := (show ObjOk X.prog X.w H s.heap d (numO X.prog X.w d ks) from I.hok d _ e)
  exact ⟨o, ho, hc.1⟩
/-- the value that stands at a key -/
theorem num_get (hu : A.units < cLine) (I : Inv X pins σ H s) (e : H d = some (numO X.prog X.w d ks)) (n : NKeys H ks) (hk : nkV H k y) (ry : RelV y u) {Q : Option Value → Shared → Prop}
    (h : ∀ t r, (match nAt k ks with | none => r = none | some m => ∃ t', r = some (Value.int ((m : Int) + 1) t')) → Q r { s with toks := t }) : wpAny (model X.prog X.w) A (dictGet d u) Q E s := by
  obtain ⟨⟨o, es, ep, ho, hc, hd, hz, he⟩, _⟩ := (show ObjOk X.prog X.w H s.heap d (numO X.prog X.w d ks) from I.hok d _ e)
  unfold dictGet
  try with_reducible refine wpAny_holding ?_
  refine wpAny_bind (num_hash hu I hk ry fun t => wpAny_bind ?_)
  have I2 : Inv X pins σ H { s with toks := t } := I.tok t
  refine seek_ok (num_seek hu I2 n hk ry hz he) (num_shape hk ry) ho hd ?_
  cases q : nAt k ks with
  | none => exact wpAny_pure (h t none (by rw [q]))
  | some m =>
    have hm : m < es.size := by rw [hz]; exact nAt_lt q
    refine wpAny_bind (wpAny_dictEntries (s := { s with toks := t }) ho hd (wpAny_pure (h t _ ?_)))
    rw [q]
    have hm2 : m < ks.length := by omega
    obtain ⟨_, _, t', ht⟩ := he m hm ks[m].1 ks[m].2 (by simp [hm2])
    exact ⟨t', by rw [Array.getElem?_eq_getElem hm, Option.map_some, ht]⟩
theorem num_getItem (hu : A.units + 1 < cLine) (I : Inv X pins σ H s) (e : H d = some (numO X.prog X.w d ks)) (n : NKeys H ks) (hk : nkV H k y) (ry : RelV y u) {m : Nat} (q : nAt k ks = some m) {Q : Value → Shared → Prop}
    (h : ∀ t t', Q (.int ((m : Int) + 1) t') { s with toks := t }) : wpAny (model X.prog X.w) A (getItem (.ref d) u) Q E s := by
  have hT := num_typeIs I e
  unfold getItem
  try with_reducible refine wpAny_holding ?_
  refine wpAny_bind (wpAny_sequenceKey hT (by decide) ?_)
  refine wpAny_bind (wpAny_callSpecial?_slot (name := Str.ofString "__getitem__") hT slot_dict_getitem (wpAny_call_entry slot_dict_getitem hT entry_dict_getitem ?_ (args_dict_getitem _ _)))
  show wpAny _ _ (dictGet d u >>= _) _ _ s
  refine wpAny_bind (num_get (show A.in1.units < cLine from hu) I e n hk ry fun t r hr => ?_)
  rw [q] at hr
  obtain ⟨t', rfl⟩ := hr
  exact wpAny_pure ⟨_, rfl, wpAny_pure (h t t')⟩
theorem num_notIn (hu : A.units + 1 < cLine) (I : Inv X pins σ H s) (e : H d = some (numO X.prog X.w d ks)) (hs : (d == sysModules) = false) (n : NKeys H ks) (hk : nkV H k y) (ry : RelV y u) {Q : Value → Shared → Prop}
    (h : ∀ t, Q (.bool (!(nAt k ks).isSome)) { s with toks := t }) : wpAny (model X.prog X.w) A (compareOp .NotIn u (.ref d)) Q E s := by
  have hT := num_typeIs I e
  show wpAny _ _ (do return .bool (!(← contains (.ref d) u))) Q E s
  refine wpAny_bind ?_
  unfold contains
  try with_reducible refine wpAny_holding ?_
  refine wpAny_bind (wpAny_specialOf hT slot_dict_contains.lookup ?_)
  show wpAny _ _ (if (some (Value.builtin "dict.__contains__") == some Value.none) = true then _ else _) _ E s
  rw [if_neg (by rw [beq_builtin_none]; exact Bool.false_ne_true)]
  refine wpAny_bind (wpAny_callSpecialUnlessNone?_slot (name := Str.ofString "__contains__") hT slot_dict_contains (wpAny_call_entry slot_dict_contains hT entry_dict_contains ?_ (args_dict_contains _ _)))
  show wpAny _ _ (dictGet d u >>= _) _ _ s
  refine wpAny_bind (num_get (show A.in1.units < cLine from hu) I e n hk ry fun t r hr => ?_)
  have h2 := h t
  cases q : nAt k ks with
  | none =>
    rw [q] at hr h2
    obtain rfl : r = none := hr
    show wpAny _ _ (Builtin.Dict.pendingKey? d u >>= _) _ _ _
    exact wpAny_bind (wpAny_pendingKey_other hs (wpAny_pure ⟨_, rfl, wpAny_truthy_bool (wpAny_pure h2)⟩))
  | some m =>
    rw [q] at hr h2
    obtain ⟨t', rfl⟩ := hr
    show wpAny _ _ (ret (.bool true)) _ _ _
    exact wpAny_pure ⟨_, rfl, wpAny_truthy_bool (wpAny_pure h2)⟩
/-- a new key gets the next number -/
theorem num_set (hu : A.units + 1 < cLine) (I : Inv X pins σ H s) (e : H d = some (numO X.prog X.w d ks)) (n : NKeys H ks) (hk : nkV H k y) (ry : RelV y u) (q : nAt k ks = none) (hl : ks.length < sizeLine) {r : Value} {t : Tok} (er : r = .int ((ks.length : Int) + 1) t)
    {Q : Unit → Shared → Prop} (h : ∀ s', Inv X pins σ (upd H d (numO X.prog X.w d (ks ++ [(k, y)]))) s' → Q () s') : wpAny (model X.prog X.w) A (setItem (.ref d) u r) Q E s := by
  have hT := num_typeIs I e
  obtain ⟨⟨o, es, ep, ho, hc, hd, hz, he⟩, _⟩ := (show ObjOk X.prog X.w H s.heap d (numO X.prog X.w d ks) from I.hok d _ e)
  unfold setItem
  try with_reducible refine wpAny_holding ?_
  refine wpAny_bind (wpAny_sequenceKey hT (by decide) ?_)
  refine wpAny_bind (wpAny_callSpecial?_slot (name := Str.ofString "__setitem__") hT slot_dict_setitem (wpAny_call_entry slot_dict_setitem hT entry_dict_setitem ?_ (args_dict_setitem _ _ _)))
  show wpAny _ _ (Builtin.Dict.notOrdered "__setitem__" ⟨[.ref d, u, r], []⟩ >>= _) _ _ s
  refine wpAny_bind (wpAny_notOrdered_dict hT ?_)
  show wpAny _ _ (dictSet d u r >>= _) _ _ s
  refine wpAny_bind ?_
  unfold dictSet
  try with_reducible refine wpAny_holding ?_
  refine wpAny_bind (num_hash (show A.in1.units < cLine from hu) I hk ry fun t1 => ?_)
  have I2 : Inv X pins σ H { s with toks := t1 } := I.tok t1
  unfold dictSetHashed
  try with_reducible refine wpAny_holding ?_
  refine wpAny_bind (seek_ok (num_seek (show A.in1.units < cLine from hu) I2 n hk ry hz he) (num_shape hk ry) ho hd ?_)
  rw [q]
  refine wpAny_bind (wpAny_rule (wpAny_updateDictKeys (hz := by omega) (s := { s with toks := t1 }) ho hd ?_))
  refine wpAny_pure ⟨.none, rfl, wpAny_pure (h _ ?_)⟩
  have hget := Heap.get?_update_self (Obj.mapDictKeys fun es => es.push ⟨nkHash X.prog X.w k, u, r⟩) ho (Obj.isFreed_of_dict (Obj.data_mapDictKeys hd _))
  refine d_write I2 (by rw [e]; exact True.intro) (Heap.SameBut.update ..) ⟨_, hget⟩ ?_
  refine ⟨⟨_, _, ep + 1, hget, hc.mapDictKeys _, Obj.data_mapDictKeys hd _, by rw [Array.size_push, hz, List.length_append]; rfl, fun m hm k2 v2 hkv => ?_⟩, ⟨_, hget⟩, fun h1 h2 x y => ?_⟩
  · by_cases hlt : m < es.size
    · rw [List.getElem?_append_left (by omega)] at hkv
      have e1 : (es.push ⟨nkHash X.prog X.w k, u, r⟩)[m] = es[m] := Array.getElem_push_lt hlt
      rw [e1]
      exact he m hlt k2 v2 hkv
    · have hm2 : m < es.size + 1 := by rw [Array.size_push] at hm; exact hm
      have em : m = es.size := by omega
      subst em
      rw [List.getElem?_append_right (by omega), hz] at hkv
      simp at hkv
      obtain ⟨rfl, rfl⟩ := hkv
      have e1 : (es.push ⟨nkHash X.prog X.w k, u, r⟩)[es.size] = ⟨nkHash X.prog X.w k, u, r⟩ := Array.getElem_push_eq
      rw [e1]
      exact ⟨ry, rfl, t, by rw [er, hz]⟩
  · obtain ⟨o2, es2, ep2, g1, g2⟩ := x
    exact ⟨o2, es2, ep2, y _ g1, g2⟩
end

/-! ### readings and rules -/
def tNumGet (P : Program) (w : World) (td ty : TE) : TE := fun σ H Q => td σ H fun x H1 => ty σ H1 fun y H2 => ∃ d ks k m, x = .ref d ∧ H2 d = some (numO P w d ks) ∧ NKeys H2 ks ∧ nkV H2 k y ∧ nAt k ks = some m ∧ Q (.int ((m : Int) + 1)) H2
def tNumNotIn (P : Program) (w : World) (ty td : TE) : TE := fun σ H Q => ty σ H fun y H1 => td σ H1 fun x H2 => ∃ d ks k, x = .ref d ∧ H2 d = some (numO P w d ks) ∧ (d == sysModules) = false ∧ NKeys H2 ks ∧ nkV H2 k y ∧ Q (.bl (!(nAt k ks).isSome)) H2
def sNumPut (P : Program) (w : World) (td ty tv : TE) : TS := fun D σ H => tv σ H fun z H1 => td σ H1 fun x H2 => ty σ H2 fun y H3 => ∃ d ks k, x = .ref d ∧ H3 d = some (numO P w d ks) ∧ NKeys H3 ks ∧ nkV H3 k y ∧ nAt k ks = none ∧ ks.length < sizeLine ∧
  z = .int ((ks.length : Int) + 1) ∧ D.nx σ (upd H3 d (numO P w d (ks ++ [(k, y)])))
section
variable {X : Cx} {o i value : Expr} {td ty tv : TE} {pos pos' : Pos}
theorem pe_numGet (hu : X.A.units + 1 < cLine) (ho : PE X o td) (hi : PE X i ty) (hs : NoSl i) : PE X (.Subscript o i pos) (tNumGet X.prog X.w td ty) := by
  refine ⟨fun pins s σ H Q I h => ?_⟩
  refine subD_of PySem.F.slot_dict_getitem.lookup hs (thn (ho.run pins s σ H _ I h) fun u s1 ⟨x, H1, I1, rx, q1⟩ => thn (hi.run pins s1 σ H1 _ I1 q1) fun iv s2 ⟨y, H2, I2, ry, d, ks, k, m, ex, e, n, hk, hm, q2⟩ => ?_)
  subst ex
  obtain rfl : u = Value.ref d := rx
  exact ⟨num_typeIs I2 e, num_getItem hu I2 e n hk ry hm fun t t' => ⟨.int ((m : Int) + 1), H2, I2.tok t, ⟨t', rfl⟩, q2⟩⟩
theorem pc_numNotIn (hu : X.A.units + 1 < cLine) (hi : PE X i ty) (ho : PE X o td) : PC X .NotIn i o (tNumNotIn X.prog X.w ty td) := by
  refine ⟨fun pins s σ H Q I h => ?_⟩
  refine thn (hi.run pins s σ H _ I h) fun iv s1 ⟨y, H1, I1, ry, q1⟩ => thn (ho.run pins s1 σ H1 _ I1 q1) fun u s2 ⟨x, H2, I2, rx, d, ks, k, ex, e, hs, n, hk, q2⟩ => ?_
  subst ex
  obtain rfl : u = Value.ref d := rx
  exact num_notIn hu I2 e hs n hk ry fun t => ⟨.bl (!(nAt k ks).isSome), H2, I2.tok t, rfl, q2⟩
theorem ps_numPut (hu : X.A.units + 1 < cLine) (ho : PE X o td) (hi : PE X i ty) (hv : PE X value tv) (hs : swapsWith value (some (.Subscript o i pos')) pos.line X.env = pure false) :
    PS X (.Assign [.Subscript o i pos'] value pos) (sNumPut X.prog X.w td ty tv) := by
  refine ⟨fun pins s σ H D I h => ?_⟩
  refine wpAny_Assign_Subscript (thn (hv.run pins s σ H _ I h) fun r s1 ⟨v, H1, I1, rv, q1⟩ => thn (ho.run pins s1 σ H1 _ I1 q1) fun u s2 ⟨x, H2, I2, rx, q2⟩ => thn (hi.run pins s2 σ H2 _ I2 q2) fun iv s3 ⟨y, H3, I3, ry, d, ks, k, ex, e, n, hk, hm, hl, ez, q3⟩ => ?_) hs
  subst ex ez
  obtain rfl : u = Value.ref d := rx
  obtain ⟨t, er⟩ := (show ∃ t, r = Value.int ((ks.length : Int) + 1) t from rv)
  exact num_set hu I3 e n hk ry hm hl er fun s4 I4 => ⟨σ, _, I4, q3⟩
end
/-- a new empty dict, as such a one -/
def tNumNew (P : Program) (w : World) : TE := fun _ H Q => ∀ p, H p = none → (p == sysModules) = false → Q (.ref p) (upd H p (numO P w p []))
theorem pe_numNew {X : Cx} {pos : Pos} : PE X (.Dict [] [] pos) (tNumNew X.prog X.w) := by
  refine ⟨fun pins s σ H Q I h => ?_⟩
  have hget : (s.heap.push { cls := .type "dict", data := .dict #[] }).get? s.heap.objs.size = some { cls := .type "dict", data := .dict #[] } := Heap.get?_push_size _ rfl
  have new : ObjOk X.prog X.w (upd H s.heap.objs.size (numO X.prog X.w s.heap.objs.size [])) (s.heap.push { cls := .type "dict", data := .dict #[] }) s.heap.objs.size (numO X.prog X.w s.heap.objs.size []) :=
    ⟨⟨_, #[], 0, hget, ⟨rfl, rfl, rfl⟩, rfl, rfl, fun m hm => absurd hm (Nat.not_lt_zero m)⟩, ⟨_, hget⟩, fun h1 h2 x y => by
      obtain ⟨o2, es2, ep2, g1, g2⟩ := x
      exact ⟨o2, es2, ep2, y _ g1, g2⟩⟩
  exact wpAny_Dict_empty ⟨.ref s.heap.objs.size, _, I.laid (a := s.heap.objs.size) (t' := s.toks) (fun _ _ q => Heap.get?_push_of_some _ q) (Nat.le_refl _) new, rfl, h _ (I.hok.fresh (Nat.le_refl _)) (beq_eq_false_iff_ne.mpr (Ne.symm (Nat.ne_of_lt I.big)))⟩
end G
set_option maxRecDepth 100000
set_option maxHeartbeats 4000000
/-! Gt: new tuples, told exactly; a tuple's index; isinstance(.., str); readings over trees. -/
namespace G
open PySem PySem.Spec PyProof.Rows L2 HT

theorem PE.imp {X : Cx} {e : Expr} {t t' : TE} (h : PE X e t) (f : ∀ σ H Q, t' σ H Q → t σ H Q) : PE X e t' := ⟨fun pins s σ H Q I q => h.run pins s σ H Q I (f σ H Q q)⟩
theorem PT.imp {X : Cx} {e : Expr} {t t' : TT} (h : PT X e t) (f : ∀ σ H Q, t' σ H Q → t σ H Q) : PT X e t' := ⟨fun pins s σ H Q I q => h.run pins s σ H Q I (f σ H Q q)⟩
theorem PS.imp {X : Cx} {e : Stmt} {t t' : TS} (h : PS X e t) (f : ∀ D σ H, t' D σ H → t D σ H) : PS X e t' := ⟨fun pins s σ H D I q => h.run pins s σ H D I (f D σ H q)⟩

section
variable {X : Cx} {pins : List (Addr × Obj)} {σ : L2.St} {H : Hp} {s : Shared}
theorem XT.tup {a : Addr} {xs : List V} (I : Inv X pins σ H s) (h : XT X.K H a xs) : ∃ its : List Value, Vals xs its ∧ (∃ o n, s.heap.get? a = some o ∧ o.cls = .type "tuple" ∧ o.data = .seq its.toArray n ∧ o.dict = none) ∧ xs.length ≤ sizeLine := by
  rcases h with ⟨o, h, e⟩ | ⟨o, its, n, h1, h2, h2d, h3, h4, h5⟩
  · obtain ⟨g, z, its, r, o2, g2, c2, n2, d2⟩ := (show ObjOk X.prog X.w H s.heap a (.frz o (.tup xs)) from I.hok a _ h)
    rw [g] at g2
    cases g2
    exact ⟨its, r, ⟨o, n2, g, c2, d2, e⟩, z⟩
  · refine ⟨its.toList, h5, ⟨o, n, I.kIn _ _ h1, h2, by simpa using h3, h2d⟩, ?_⟩
    rw [h5.length]
    simpa using h4
theorem laidX {xs : List V} {its : List Value} {tk : Nat} (I : Inv X pins σ H s) (r : Vals xs its) (z : xs.length ≤ sizeLine) {Q : VK} (q : ∀ p o, H p = none → o.dict = none → Q (.ref p) (upd H p (.frz o (.tup xs)))) :
    EP X pins σ Q (.ref s.heap.objs.size) { s with heap := s.heap.push { cls := .type "tuple", data := .seq its.toArray }, toks := tk } := by
  have g : (s.heap.push { cls := .type "tuple", data := .seq its.toArray }).get? s.heap.objs.size = some { cls := .type "tuple", data := .seq its.toArray } := Heap.get?_push_size _ rfl
  exact ⟨.ref s.heap.objs.size, _, I.laid (t' := tk) (fun b o e => Heap.get?_push_of_some _ e) (Nat.le_refl _) (show ObjOk X.prog X.w _ _ _ (.frz { cls := .type "tuple", data := .seq its.toArray } (.tup xs)) from ⟨g, z, its, r, _, g, rfl, _, rfl⟩), rfl,
    q _ _ (I.hok.fresh (Nat.le_refl _)) rfl⟩
end
/-- a new exact tuple of xs goes on by Q -/
def newX (xs : List V) (H : Hp) (Q : VK) : Prop := ∀ p o, H p = none → o.dict = none → Q (.ref p) (upd H p (.frz o (.tup xs)))
/-! ### (a, b, ..) -/
def tTupX (t : TA) : TE := fun σ H Q => t σ H fun xs H1 => xs.length ≤ sizeLine ∧ newX xs H1 Q
theorem pe_tupX {X : Cx} {es : List Expr} {t : TA} {x1} {pos : Pos} (h : PA X es t) : PE X (.Tuple es x1 pos) (tTupX t) := by
  refine ⟨fun pins s σ H Q I hq => ?_⟩
  refine wpAny_Tuple_spliced (thn (h.run pos pins s σ H _ I hq) fun us s1 ⟨xs, H1, I1, r, z, q⟩ => ⟨by rw [← r.length]; exact z, ?_⟩)
  exact laidX (tk := s1.toks) I1 r z q
/-! ### t + u -/
def rCatX (K : PySem.W.Frag) : R2 := fun x y H Q => ∃ a b xs ys, x = .ref a ∧ y = .ref b ∧ XT K H a xs ∧ XT K H b ys ∧ xs.length + ys.length ≤ sizeLine ∧
  (xs = [] → Q (.ref b) H) ∧ (xs ≠ [] → ys = [] → Q (.ref a) H) ∧ (xs ≠ [] → ys ≠ [] → newX (xs ++ ys) H Q)
theorem op_catX {X : Cx} : OpR X (binaryOp .Add) (rCatX X.K) := by
  intro pins s σ H x y v u Q I rx ry h
  obtain ⟨a, b, xs, ys, rfl, rfl, ha, hb, hz, q0, q1, q2⟩ := h
  cases rx
  cases ry
  obtain ⟨its, r1, ⟨o1, n1, g1, c1, d1, e1⟩, _⟩ := ha.tup I
  obtain ⟨its2, r2, ⟨o2, n2, g2, c2, d2, e2⟩, _⟩ := hb.tup I
  have p1 : IsTup s.heap a its.toArray := ⟨o1, g1, c1, n1, d1⟩
  have p2 : IsTup s.heap b its2.toArray := ⟨o2, g2, c2, n2, d2⟩
  by_cases hx : xs = []
  · subst hx
    cases r1
    exact cat_tup0 p1 p2 ⟨.ref b, H, I, rfl, q0 rfl⟩
  · refine HT.cat_tup p1 p2 (fun z => hx (r1.nil_iff.mp z)) (fun z => ⟨.ref a, H, I, rfl, q1 hx (r2.nil_iff.mp z)⟩) (fun z => ?_) (by rw [← r1.length, ← r2.length]; exact hz)
    exact laidX (tk := s.toks) I (r1.append r2) (by rw [List.length_append]; exact hz) (q2 hx fun w => z (r2.nil_iff.mpr w))
/-! ### t[lo:hi] -/
def rSlX (K : PySem.W.Frag) : V → Option Int → Option Int → Hp → VK → Prop := fun x lo hi H Q => ∃ a xs, x = .ref a ∧ XT K H a xs ∧
  (HT.sIx xs.length 0 lo = 0 ∧ HT.sIx xs.length xs.length hi = xs.length → Q (.ref a) H) ∧ (¬ (HT.sIx xs.length 0 lo = 0 ∧ HT.sIx xs.length xs.length hi = xs.length) → newX (cutV xs lo hi) H Q)
theorem sl_tupX {X : Cx} : SlR X (rSlX X.K) := by
  intro pins s σ H x v vl vu lo hi sl Q I rx hs pl pu h
  obtain ⟨a, xs, rfl, hx, q1, q2⟩ := h
  cases rx
  obtain ⟨its, r, ⟨o1, n1, g1, c1, d1, e1⟩, hz⟩ := hx.tup I
  have ht : IsTup s.heap a its.toArray := ⟨o1, g1, c1, n1, d1⟩
  have hlen : its.toArray.size = xs.length := by rw [List.size_toArray]; exact r.length.symm
  refine ⟨"tuple", _, PyProof.Rows.slot_tuple_getitem.lookup, ht.typeIs, ?_⟩
  by_cases hw : HT.sIx xs.length 0 lo = 0 ∧ HT.sIx xs.length xs.length hi = xs.length
  · exact getItem_tuple_whole ht hs pl pu (by rw [hlen]; exact hw) ⟨.ref a, H, I, rfl, q1 hw⟩
  · refine HT.getItem_tuple_cut ht hs pl pu (by rw [hlen]; exact hw) ?_ (by rw [hlen]; exact hz)
    rw [hlen]
    exact laidX (tk := s.toks) I ((r.drop (HT.sIx xs.length 0 lo)).take (HT.sIx xs.length xs.length hi - HT.sIx xs.length 0 lo)) (Nat.le_trans (cutV_length xs lo hi) hz) (q2 hw)
/-! ### tuple(list) -/
theorem call_tupleX {X : Cx} : CallR X (.type "tuple") (fun xs H Q => ∃ p ys, xs = [.ref p] ∧ SqL X.K H p ys ∧ newX ys H Q) := by
  intro pins s σ H xs us Q I r h
  obtain ⟨p, ys, rfl, hq, q⟩ := h
  obtain ⟨u, rfl, rx⟩ := vals1 r
  cases rx
  obtain ⟨its, r', pl, hz⟩ := I.list hq
  have hlen := r'.length
  refine call_tuple_list pl.isList (fun h' kp => ?_) (by simp only [List.size_toArray] <;> omega)
  have I1 : Inv X pins σ H { s with heap := h' } := I.kept (t' := s.toks) kp
  exact laidX (tk := s.toks) I1 r' hz q
/-! ### ("a",) * k -/
theorem tupMul0 (l : Addr) (items : Array Value) (n : Nat) (dd : Option Addr) (sl : Array (Option Value)) (u : Tok) :
    Meets (Builtin.«tuple.__mul__» ⟨[.ref l, .int 0 u], []⟩) (fun _ R s => s.heap.get? l = some { cls := .type "tuple", dict := dd, data := .seq items n, slots := sl } ∧ items.isEmpty = false ∧
      R (.ok (.ret (Value.ref s.heap.objs.size))) { s with heap := s.heap.push { cls := Value.type "tuple", data := Data.seq ([] : List Value).toArray } }) :=
  .of_wp fun prog w A R s h => by
    obtain ⟨hp, g, d, tk, os⟩ := s
    obtain ⟨hl, hi, h⟩ := h
    have f1 := AutoSeq1.idx_int
    have c1 : (items.isEmpty || (0 : Int) == 1) = false := by
      rw [hi]
      rfl
    wp_walk using AutoSeq1.wpAny_loadPart' hl
    repeat (first
      | (refine wpAny_ite_false (decide_eq_false (by rw [c1]; exact Bool.false_ne_true)) ?_; wp_walk using AutoSeq1.wpAny_loadPart' hl))
    exact ⟨_, rfl, h⟩
theorem tupMul1 (l : Addr) (items : Array Value) (n : Nat) (dd : Option Addr) (sl : Array (Option Value)) (u : Tok) :
    Meets (Builtin.«tuple.__mul__» ⟨[.ref l, .int 1 u], []⟩) (fun _ R s => s.heap.get? l = some { cls := .type "tuple", dict := dd, data := .seq items n, slots := sl } ∧ R (.ok (.ret (Value.ref l))) s) :=
  .of_wp fun prog w A R s h => by
    obtain ⟨hp, g, d, tk, os⟩ := s
    obtain ⟨hl, h⟩ := h
    have f1 := AutoSeq1.idx_int
    have c1 : (items.isEmpty || (1 : Int) == 1) = true := by simp
    wp_walk using AutoSeq1.wpAny_loadPart' hl
    repeat (first
      | (refine wpAny_ite_true (decide_eq_true (by rw [c1])) ?_; wp_walk using AutoSeq1.wpAny_loadPart' hl))
    exact ⟨_, rfl, h⟩
def rRepX (K : PySem.W.Frag) : R2 := fun x y H Q => ∃ l v, ∃ k : Nat, x = .ref l ∧ y = .int k ∧ XT K H l [v] ∧ k ≤ 1000 ∧ (k = 1 → Q (.ref l) H) ∧ (k ≠ 1 → newX (List.replicate k v) H Q)
theorem flat_rep {α : Type} (v : α) : ∀ k : Nat, (List.replicate k [v]).flatten = List.replicate k v
  | 0 => rfl
  | k + 1 => by
    rw [List.replicate_succ, List.flatten_cons, flat_rep v k]
    rfl
theorem op_repX {X : Cx} : OpR X (binaryOp .Mult) (rRepX X.K) := by
  intro pins s σ H x y v u Q I rx ry h
  obtain ⟨l, v1, k, rfl, rfl, hT, h2, q1, q⟩ := h
  cases rx
  obtain ⟨t, rfl⟩ := ry
  obtain ⟨its, r, ⟨⟨cls, dd, data, sl⟩, n, ho, hc, hd, _⟩, hs⟩ := hT.tup I
  simp only at hc hd
  subst hc hd
  obtain ⟨w1, rfl, r1⟩ := vals1 r
  have road : ∀ {Qx : Value → Shared → Prop}, wpAny (model X.prog X.w) X.A (call (.builtin "tuple.__mul__") [.ref l, .int k t]) Qx X.xe s → wpAny (model X.prog X.w) X.A (binaryOp .Mult (.ref l) (.int k t)) Qx X.xe s := fun hm =>
    wpAny_binaryOp_repeat_ref (T := "tuple") (U := "int") (by decide) ⟨_, ho, rfl⟩ (fun s' => typeIs_int s' k t) noFill_tuple_mul F.fills_int_mul F.slot_int_rmul repeat_tuple F.slot_int_index.lookup
      (call_meets F.slot_int_rmul (typeIs_int s k t) F.entry_int_rmul (F.args_int_rmul_2 _ _) (int_rmul_tuple k t l [w1].toArray n dd sl) ⟨ho, rfl, ⟨_, ho, rfl⟩, hm⟩)
  refine road ?_
  match k, h2, q1, q with
  | 0, _, _, q =>
    refine call_meets F.slot_tuple_mul ⟨_, ho, rfl⟩ F.entry_tuple_mul (F.args_tuple_mul_2 _ _) (tupMul0 l [w1].toArray n dd sl t) ⟨ho, rfl, ?_⟩
    exact laidX (xs := []) (its := []) (tk := s.toks) I .nil (Nat.zero_le _) (q (by decide))
  | 1, _, q1, _ =>
    exact call_meets F.slot_tuple_mul ⟨_, ho, rfl⟩ F.entry_tuple_mul (F.args_tuple_mul_2 _ _) (tupMul1 l [w1].toArray n dd sl t) ⟨ho, ⟨.ref l, H, I, rfl, q1 rfl⟩⟩
  | k + 2, h2, _, q =>
    have e1 : ((([w1] : List Value).toArray.size : Nat) : Int) * ((k + 2 : Nat) : Int) = ((k + 2 : Nat) : Int) := by simp
    have hlen : (List.replicate (k + 2) w1).length ≤ sizeLine := by
      rw [List.length_replicate, sizeLine_eq]
      omega
    have esz : (List.foldl (fun x1 x2 => x1 ++ x2) #[] (List.replicate (((k + 2 : Nat) : Int)).toNat ([w1] : List Value).toArray)) = (List.replicate (k + 2) w1).toArray := by
      rw [size_rep, Int.toNat_natCast, flat_rep]
    have M := tuple_mulW l ([w1] : List Value).toArray n dd sl ((k + 2 : Nat) : Int) t (by rw [decide_eq_false (by omega), decide_eq_false (by omega)] <;> rfl) (by
      show (false || _) = false
      rw [Bool.false_or]
      exact beq_eq_false_iff_ne.mpr (by omega)) (by
      rw [decide_eq_false (by omega)]
      rfl) (by rw [e1]; omega) (by
      rw [e1]
      unfold Builtin.Tuple.tupleTooMany
      rw [sizeLine_eq]
      exact decide_eq_false (by omega)) (by rw [esz, List.size_toArray]; exact hlen)
    refine call_meets F.slot_tuple_mul ⟨_, ho, rfl⟩ F.entry_tuple_mul (F.args_tuple_mul_2 _ _) M ⟨ho, ?_⟩
    rw [esz]
    have rr : Vals (List.replicate (k + 2) v1) (List.replicate (k + 2) w1) := by
      have := r.rep (k + 2)
      rw [flat_rep, flat_rep] at this
      exact this
    exact laidX (tk := s.toks) I rr (by rw [rr.length]; exact hlen) (q (by omega))
/-! ### t.index(x) -/
def tIndexX (K : PySem.W.Frag) (to : TE) (t : TA) : TE := fun σ H Q => to σ H fun x H1 => ∃ p, ∃ ys : List Str, x = .ref p ∧ XT K H1 p (ys.map V.str) ∧ t σ H1 fun vs H2 => ∃ z j, vs = [.str z] ∧ XT K H2 p (ys.map V.str) ∧ ys[j]? = some z ∧ (∀ m, m < j → ys[m]? ≠ some z) ∧ Q (.int (j : Nat)) H2
theorem pe_indexX {X : Cx} {o e : Expr} {to : TE} {t : TA} {apos cpos : Pos} (ho : PE X o to) (ha : PA X [e] t) (hbase : attributeBase o "index" X.env (eval o X.env) = eval o X.env := by rfl)
    (hfew : ((backTo cpos (starEach [e] X.env)).all (fun x => !x.1) && (backToKw cpos (keywordEach [] X.env)).all (fun x => x.1.isSome)
      && decide ([e].length + ([] : List Keyword).length + (if ([] : List Keyword).isEmpty then 0 else 1) < 30)) = true := by rfl)
    (hline : (apos.endLine == cpos.line) = true := by rfl) (hs : starEach [e] X.env = (false, eval e X.env) :: starEach [] X.env := by rfl) (hplain : (backTo cpos (starEach [] X.env)).any (·.1) = false := by rfl) :
    PE X (.Call (.Attribute o "index" apos) [e] [] cpos) (tIndexX X.K to t) := by
  refine ⟨fun pins s σ H Q I h => ?_⟩
  refine wpAny_Call_method_late hbase hfew hline rfl (thn (ho.run pins s σ H _ I h) fun v s1 ⟨x, H1, I1, r1, p, ys, ex, hX, q1⟩ => ?_)
  subst ex
  obtain rfl : v = Value.ref p := r1
  obtain ⟨its, _, ⟨ob, n, g, c, d, e0⟩, _⟩ := hX.tup I1
  refine ⟨"tuple", "tuple.index", PySem.F.plainAttrs_tuple, PySem.F.slot_tuple_index, PySem.F.type_tuple_index, ⟨ob, g, c⟩, fun a ea => ?_, ?_⟩
  · cases ea
    exact ⟨ob, g, e0⟩
  · have hA := ha.run cpos pins s1 σ H1 _ I1 q1
    rw [hs] at hA ⊢
    refine Calls.callWith_builtin (by show (false || (backTo cpos (starEach [] X.env)).any (·.1)) = false; rw [hplain] <;> rfl) (Calls.evalArgs_plain ?_)
    refine thn hA fun us s2 ⟨vs, H2, I2, r2, z, j, evs, hX2, h1, h2, q2⟩ => ?_
    subst evs
    exact mt_tup_index pins s2 σ H2 (.ref p) [.str z] (.ref p) us Q I2 rfl r2 ⟨p, ys, z, j, rfl, rfl, hX2.sq, h1, h2, q2⟩

/-! ### readings over trees -/
section
variable {X : Cx} {e f o i : Expr} {te ta tb : TE} {t : TA} {pos p1 p2 : Pos}
theorem at_ty {K : PySem.W.Frag} {H : Hp} {t : T} {x : V} (h : At K H t x) : TyX K H x (.type (match t with | .w _ => "str" | .l _ => "tuple")) := by
  cases t with
  | w s =>
    obtain rfl : x = .str s := h
    exact .base (.str s)
  | l ts =>
    obtain ⟨a, vs, rfl, h1, _⟩ := h
    rcases h1 with ⟨o, h1, _⟩ | ⟨o, its, n, h1, h2, _⟩
    · exact .fTuple h1
    · exact .kTuple h1 h2
end
abbrev Sm (H H' : Hp) : Prop := Kp [] H H'
/-- a tuple of these trees, at some place of a heap that keeps all, goes on by Q -/
def newT (K : PySem.W.Frag) (ts : List T) (H : Hp) (Q : VK) : Prop := ∀ p H', Sm H H' → At K H' (.l ts) (.ref p) → Q (.ref p) H'
theorem newT.x {K : PySem.W.Frag} {ts : List T} {vs : List V} {H : Hp} {Q : VK} (h : newT K ts H Q) (a : AtAll K H ts vs) : newX vs H Q := fun p o hp ho => h p _ (Kp.new hp) (at_new a hp ho)
section
variable {X : Cx}
theorem CallR.imp {f : Value} {r r' : List V → Hp → VK → Prop} (h : CallR X f r) (i : ∀ xs H Q, r' xs H Q → r xs H Q) : CallR X f r' := fun pins s σ H xs us Q I rx q => h pins s σ H xs us Q I rx (i _ _ _ q)
theorem OpR.imp {f : Value → Value → Sem Value} {r r' : R2} (h : OpR X f r) (i : ∀ x y H Q, r' x y H Q → r x y H Q) : OpR X f r' := fun pins s σ H x y v u Q I rx ry q => h pins s σ H x y v u Q I rx ry (i _ _ _ _ q)
theorem IxR.imp {r r' : R2} (h : IxR X r) (i : ∀ x y H Q, r' x y H Q → r x y H Q) : IxR X r' := fun ea eb pins s σ H x y v u Q I rx ry q => h ea eb pins s σ H x y v u Q I rx ry (i _ _ _ _ q)
theorem SlR.imp {r r' : V → Option Int → Option Int → Hp → VK → Prop} (h : SlR X r) (i : ∀ x lo hi H Q, r' x lo hi H Q → r x lo hi H Q) : SlR X r' := fun pins s σ H x v vl vu lo hi sl Q I rx hs pl pu q => h pins s σ H x v vl vu lo hi sl Q I rx hs pl pu (i _ _ _ _ _ q)
/-- isinstance(e, str) of a value that stands for a tree -/
def rIsS (K : PySem.W.Frag) : List V → Hp → VK → Prop := fun xs H Q => ∃ x t, xs = [x, .ty "str"] ∧ At K H t x ∧ Q (.bl t.isW) H
theorem kit_str {K : PySem.W.Frag} : PySem.W.kitOne K (.type "str") (.type "str") = some true := by
  exact kit_ty (by decide +kernel)
theorem kit_tup {K : PySem.W.Frag} : PySem.W.kitOne K (.type "tuple") (.type "str") = some false := by
  exact kit_ty (by decide +kernel)
theorem call_isS : CallR X (.builtin "isinstance") (rIsS X.K) := CallR.imp call_isi fun xs H Q ⟨x, t, e, h, q⟩ => by
  refine ⟨x, .ty "str", _, _, t.isW, e, .ty "str", at_ty h, ?_, q⟩
  cases t with
  | w s => exact kit_str
  | l ts => exact kit_tup
/-- len(t) -/
def rLenT (K : PySem.W.Frag) : List V → Hp → VK → Prop := fun xs H Q => ∃ x ts, xs = [x] ∧ At K H (.l ts) x ∧ Q (.int ts.length) H
theorem call_lenT : CallR X (.builtin "len") (rLenT X.K) := CallR.imp call_len_seq fun xs H Q ⟨x, ts, e, h, q⟩ => by
  obtain ⟨a, vs, rfl, h1, h2⟩ := h
  refine ⟨a, vs, e, .inr h1.sq, ?_⟩
  rw [aa_len h2]
  exact q
/-- t[n] -/
def rIxTr (K : PySem.W.Frag) : R2 := fun x y H Q => ∃ (ts : List T) (n : Nat) (t : T), At K H (.l ts) x ∧ y = .int (n : Int) ∧ ts[n]? = some t ∧ ∀ v, At K H t v → Q v H
theorem ix_T : IxR X (rIxTr X.K) := IxR.imp ix_tup fun x y H Q ⟨ts, n, t, h, e, g, q⟩ => by
  obtain ⟨a, vs, rfl, h1, h2⟩ := h
  obtain ⟨v, hv, h3⟩ := aa_get h2 g
  exact ⟨a, vs, (n : Int), v, rfl, e, h1.sq, atI_nat hv, q v h3⟩
/-- t[n:], n at least 1; t[:n], n below the length -/
def rSlTr (K : PySem.W.Frag) : V → Option Int → Option Int → Hp → VK → Prop := fun x lo hi H Q => ∃ ts : List T, At K H (.l ts) x ∧
  ((∃ n : Nat, lo = some (n : Int) ∧ hi = none ∧ 1 ≤ n ∧ n ≤ ts.length ∧ newT K (ts.drop n) H Q) ∨ ∃ n : Nat, lo = none ∧ hi = some (n : Int) ∧ n < ts.length ∧ newT K (ts.take n) H Q)
theorem sl_T : SlR X (rSlTr X.K) := SlR.imp sl_tupX fun x lo hi H Q ⟨ts, h, q⟩ => by
  obtain ⟨a, vs, rfl, h1, h2⟩ := h
  have hl := aa_len h2
  refine ⟨a, vs, rfl, h1, fun hw => ?_, fun _ => ?_⟩
  · rcases q with ⟨n, rfl, rfl, n1, n2, q⟩ | ⟨n, rfl, rfl, n2, q⟩
    · rw [HT.sIx_nat] at hw
      omega
    · rw [HT.sIx_nat] at hw
      omega
  · rcases q with ⟨n, rfl, rfl, n1, n2, q⟩ | ⟨n, rfl, rfl, n2, q⟩
    · have e : cutV vs (some (n : Int)) none = vs.drop n := by
        unfold cutV
        rw [HT.sIx_nat, HT.sIx_none, Nat.min_eq_left (by omega)]
        exact List.take_of_length_le (by rw [List.length_drop]; omega)
      rw [e]
      exact q.x (aa_drop n h2)
    · have e : cutV vs none (some (n : Int)) = vs.take n := by
        unfold cutV
        rw [HT.sIx_nat, HT.sIx_none, Nat.min_eq_left (by omega)]
        simp
      rw [e]
      exact q.x (aa_take n h2)
/-- t + u -/
def rCatTr (K : PySem.W.Frag) : R2 := fun x y H Q => ∃ ts us : List T, At K H (.l ts) x ∧ At K H (.l us) y ∧ ts.length + us.length ≤ sizeLine ∧ newT K (ts ++ us) H Q
theorem op_catTr : OpR X (binaryOp .Add) (rCatTr X.K) := OpR.imp op_catX fun x y H Q ⟨ts, us, h, h', z, q⟩ => by
  obtain ⟨a, vs, rfl, h1, h2⟩ := id h
  obtain ⟨b, ws, rfl, h3, h4⟩ := id h'
  have l1 := aa_len h2
  have l2 := aa_len h4
  refine ⟨a, b, vs, ws, rfl, rfl, h1, h3, by omega, fun e => ?_, fun _ e => ?_, fun _ _ => q.x (aa_app h2 h4)⟩
  · have : ts = [] := List.eq_nil_of_length_eq_zero (by rw [← l1, e]; rfl)
    subst this
    exact q b H Kp.refl h'
  · have : us = [] := List.eq_nil_of_length_eq_zero (by rw [← l2, e]; rfl)
    subst this
    rw [List.append_nil] at q
    exact q a H Kp.refl h
/-- ("a",) * k -/
def rRepTr (K : PySem.W.Frag) : R2 := fun x y H Q => ∃ (t : T) (k : Nat), At K H (.l [t]) x ∧ y = .int (k : Int) ∧ k ≤ 1000 ∧ newT K (List.replicate k t) H Q
theorem aa_rep {K : PySem.W.Frag} {H : Hp} {t : T} {v : V} (h : At K H t v) : ∀ k, AtAll K H (List.replicate k t) (List.replicate k v)
  | 0 => aa_nil
  | k + 1 => aa_cons h (aa_rep h k)
theorem op_repTr : OpR X (binaryOp .Mult) (rRepTr X.K) := OpR.imp op_repX fun x y H Q ⟨t, k, h, e, z, q⟩ => by
  obtain ⟨a, vs, rfl, h1, h2⟩ := id h
  obtain ⟨v, r, rfl, h3, h4⟩ := h2
  obtain rfl : r = [] := h4
  refine ⟨a, v, k, rfl, e, h1, z, fun e1 => ?_, fun _ => q.x (aa_rep h3 k)⟩
  subst e1
  exact q a H Kp.refl h
/-- tuple(list) -/
def rTupTr (K : PySem.W.Frag) : List V → Hp → VK → Prop := fun xs H Q => ∃ p ys ts, xs = [.ref p] ∧ SqL K H p ys ∧ AtAll K H ts ys ∧ newT K ts H Q
theorem call_tupTr : CallR X (.type "tuple") (rTupTr X.K) := CallR.imp call_tupleX fun xs H Q ⟨p, ys, ts, e, h, a, q⟩ => ⟨p, ys, e, h, q.x a⟩
/-- (a, b, ..) -/
def tTupTr (K : PySem.W.Frag) (t : TA) : TE := fun σ H Q => t σ H fun xs H1 => ∃ ts, AtAll K H1 ts xs ∧ ts.length ≤ sizeLine ∧ newT K ts H1 Q
theorem pe_tupT {es : List Expr} {t : TA} {x1} {pos : Pos} (h : PA X es t) : PE X (.Tuple es x1 pos) (tTupTr X.K t) := by
  refine ⟨fun pins s σ H Q I hq => ?_⟩
  refine wpAny_Tuple_spliced (thn (h.run pos pins s σ H _ I hq) fun us s1 ⟨xs, H1, I1, r, ts, a, z, q⟩ => ⟨by rw [← r.length, aa_len a]; exact z, ?_⟩)
  exact laidX (tk := s1.toks) I1 r (by rw [aa_len a]; exact z) (q.x a)
/-- a word compared with a word that is written -/
theorem at_eqw {K : PySem.W.Frag} {H : Hp} {t : T} {x : V} {z : Str} (h : At K H t x) (hw : t.isW = true) : scal x (.str z) = true := by
  cases t with
  | w s =>
    obtain rfl : x = .str s := h
    rfl
  | l _ => cases hw
end
end G
set_option maxRecDepth 100000
set_option maxHeartbeats 4000000
/-! Gx: the text by places, what its top has left (Txt), tables of the top. -/
namespace G
open PySem PySem.Spec PyProof.Rows L2
def topS (i : Nat) : Stmt := PySem.Challenge.pw_ownglass_k57_whole_rings_across.main.body.getD i (.Pass ⟨0, 0, 0, 0⟩)
/-! ### a written dict of numbers by texts -/
def KTab (w : World) (K : PySem.W.Frag) (a : Addr) (tab : List (Str × Int)) : Prop := (a == sysModules) = false ∧ ∃ es n, K.lookup a = some ⟨.type "dict", none, .dict es n, #[]⟩ ∧
  Paired (fun (p : Str × Int) (e : DictEntry) => (∃ t, e.key = .str p.1 t) ∧ e.hash = hashStr w p.1 ∧ ∃ t, e.val = .int p.2 t) tab es.toList
def tabK (tab : List (Str × Int)) : List (Key × V) := tab.map fun p => (Sum.inr p.1, V.int p.2)
theorem ktab_of {P : Program} {w : World} : ∀ {tab : List (Str × Int)} {es : List DictEntry}, Paired (fun (p : Str × Int) (e : DictEntry) => (∃ t, e.key = .str p.1 t) ∧ e.hash = hashStr w p.1 ∧ ∃ t, e.val = .int p.2 t) tab es →
    ∃ vs : List (Key × Value), KV (tabK tab) vs ∧ Pairs (mixKind P w) es vs ∧ (∀ e ∈ es, ∃ k, (mixKind P w).is k e.key = true ∧ e.hash = (mixKind P w).hash k) ∧ vs.map (·.1) = tab.map fun p => (Sum.inr p.1 : Key)
  | [], _, .nil => ⟨[], .nil, .nil, (fun _ h => by cases h), rfl⟩
  | p :: tab, e :: es, .cons ⟨⟨t, hk⟩, hh, t', hv⟩ r => by
    obtain ⟨vs, h1, h2, h3, h4⟩ := ktab_of (P := P) r
    refine ⟨(Sum.inr p.1, e.val) :: vs, .cons ⟨rfl, t', hv⟩ h1, .cons (by rw [hk]; exact mixKind_str P w p.1 t) rfl h2, fun e2 h => ?_, by rw [List.map_cons, List.map_cons, h4]⟩
    rcases List.mem_cons.mp h with q | q
    · subst q
      exact ⟨Sum.inr p.1, by rw [hk]; exact mixKind_str P w p.1 t, hh⟩
    · exact h3 e2 q
def NodupTab (tab : List (Str × Int)) : Prop := (tab.map fun p => (Sum.inr p.1 : Key)).Nodup
theorem ktab_dict {P : Program} {w : World} {K : PySem.W.Frag} {h : Heap} {a : Addr} {tab : List (Str × Int)} (X : K.In h) (t : KTab w K a tab) (n : NodupTab tab) : ∃ vs : List (Key × Value), KV (tabK tab) vs ∧ h.DictOf (mixKind P w) a vs := by
  obtain ⟨_, es, ep, hl, hp⟩ := t
  obtain ⟨vs, h1, h2, h3, h4⟩ := ktab_of (P := P) hp
  exact ⟨vs, h1, _, es, ep, X _ _ hl, ⟨rfl, rfl, rfl⟩, rfl, fun e he => h3 e (Array.mem_toList_iff.mpr he), h2, by rw [h4]; exact n⟩
section
variable {X : Cx}
/-- dict(d): a copy of a written one -/
theorem call_dictK : CallR X (.type "dict") (fun xs H Q => ∃ (a : Addr) (tab : List (Str × Int)), xs = [.ref a] ∧ KTab X.w X.K a tab ∧ NodupTab tab ∧ tab.length ≤ 1000 ∧ ∀ p, H p = none → Q (.ref p) (upd H p (.dK (tabK tab)))) := by
  intro pins s σ H xs us Q I r q
  obtain ⟨a, tab, ex, ht, hn, hz, q⟩ := q
  subst ex
  obtain ⟨u, eu, rx⟩ := vals1 r
  subst eu
  cases rx
  obtain ⟨vs, rel, dd⟩ := ktab_dict (P := X.prog) I.kIn ht hn
  have hl : vs.length = tab.length := by
    rw [← rel.length]
    unfold tabK
    rw [List.length_map]
  refine kt_call_dict ht.1 dd (by rw [hl, sizeLine_eq]; omega) fun h' d' hs => ?_
  have hm : (s.heap.objs.size == sysModules) = false := beq_eq_false_iff_ne.mpr (Nat.ne_of_gt I.big)
  exact ⟨.ref s.heap.objs.size, upd H s.heap.objs.size (.dK (tabK tab)), I.laid (t' := s.toks) (fun b u e => (hs.2 b (Nat.ne_of_lt (Heap.lt_size e))).trans (Heap.get?_push_of_some _ e)) (Nat.le_refl _)
    (show ObjOk X.prog X.w _ _ _ (.dK (tabK tab)) from ⟨by rw [rel.length, hl, sizeLine_eq]; omega, hm, vs, rel, d'⟩), rfl, q _ (I.hok.fresh (Nat.le_refl _))⟩
/-- x in d, x not in d, d[x], d a written one -/
def rKt (w : World) (K : PySem.W.Frag) (f : Option V → V) : R2 := fun x y H Q => ∃ (a : Addr) (tab : List (Str × Int)) (z : Str), y = .ref a ∧ x = .str z ∧ KTab w K a tab ∧ NodupTab tab ∧ Q (f (valV (tabK tab) (Sum.inr z))) H
theorem op_inK : OpR X (compareOp .In) (rKt X.w X.K fun o => .bl o.isSome) := by
  intro pins s σ H x y v u Q I rx ry h
  obtain ⟨a, tab, z, rfl, rfl, ht, hn, q⟩ := h
  cases ry
  obtain ⟨vs, rel, dd⟩ := ktab_dict (P := X.prog) I.kIn ht hn
  refine wpAny_in_of (kV_is (k := Sum.inr z) rx) ht.1 dd.mapOf ?_
  rw [← (rel.val (Sum.inr z)).isSome_eq]
  exact ⟨.bl _, H, I.tok _, rfl, q⟩
theorem op_notInK : OpR X (compareOp .NotIn) (rKt X.w X.K fun o => .bl (!o.isSome)) := by
  intro pins s σ H x y v u Q I rx ry h
  obtain ⟨a, tab, z, rfl, rfl, ht, hn, q⟩ := h
  cases ry
  obtain ⟨vs, rel, dd⟩ := ktab_dict (P := X.prog) I.kIn ht hn
  refine wpAny_notIn_of (kV_is (k := Sum.inr z) rx) ht.1 dd.mapOf ?_
  rw [← (rel.val (Sum.inr z)).isSome_eq]
  exact ⟨.bl _, H, I.tok _, rfl, q⟩
def tKtGet (w : World) (K : PySem.W.Frag) (td ty : TE) : TE := fun σ H Q => td σ H fun x H1 => ty σ H1 fun y H2 => ∃ (a : Addr) (tab : List (Str × Int)) (z : Str) (v : V), x = .ref a ∧ y = .str z ∧ KTab w K a tab ∧ NodupTab tab ∧ valV (tabK tab) (Sum.inr z) = some v ∧ Q v H2
theorem pe_ktGet {o i : Expr} {td ty : TE} {pos : Pos} (ho : PE X o td) (hi : PE X i ty) (hs : NoSl i) : PE X (.Subscript o i pos) (tKtGet X.w X.K td ty) := by
  refine ⟨fun pins s σ H Q I h => ?_⟩
  refine subD_of PySem.F.slot_dict_getitem.lookup hs (thn (ho.run pins s σ H _ I h) fun u s1 ⟨x, H1, I1, rx, q1⟩ => thn (hi.run pins s1 σ H1 _ I1 q1) fun iv s2 ⟨y, H2, I2, ry, a, tab, z, v, ex, ey, ht, hn, hv, q2⟩ => ?_)
  subst ex ey
  obtain rfl : u = Value.ref a := rx
  obtain ⟨vs, rel, dd⟩ := ktab_dict (P := X.prog) I2.kIn ht hn
  obtain ⟨w', hw, rw'⟩ := RelO.some_of (v := v) (o := valueAt vs (Sum.inr z)) (by rw [← hv]; exact rel.val (Sum.inr z))
  exact ⟨dd.typeIs, wpAny_getItem_of (kV_is (k := Sum.inr z) ry) dd.mapOf hw ⟨v, H2, I2.tok _, rw', q2⟩⟩
/-! ### names of the top -/
theorem pe_gi {x : Str} {i : Int} {pos : Pos} (h : ∃ t, X.mg x = some (.int i t)) (hg : Gl X x := by rfl) (hd : (x == ("__debug__" : Str)) = false := by decide) : PE X (.Name x pos) (tC (.int i)) := by
  obtain ⟨t, h⟩ := h
  exact pe_glob hg h ⟨t, rfl⟩ hd
theorem pe_gs {x z : Str} {pos : Pos} (h : ∃ t, X.mg x = some (.str z t)) (hg : Gl X x := by rfl) (hd : (x == ("__debug__" : Str)) = false := by decide) : PE X (.Name x pos) (tC (.str z)) := by
  obtain ⟨t, h⟩ := h
  exact pe_glob hg h ⟨t, rfl⟩ hd
/-- a name that stands for something of which p holds -/
theorem pe_gr {x : Str} {p : Addr → Prop} {pos : Pos} (h : ∃ a, X.mg x = some (.ref a) ∧ p a) (hg : Gl X x := by rfl) (hd : (x == ("__debug__" : Str)) = false := by decide) : PE X (.Name x pos) (fun _ H Q => ∀ a, p a → Q (.ref a) H) := by
  obtain ⟨a, h, ha⟩ := h
  exact ⟨fun pins s σ H Q I q => (pe_glob (X := X) (v := .ref a) (pos := pos) hg h rfl hd).run pins s σ H Q I (q a ha)⟩
end
/-! ### classes that are made -/
structure Mkb (P : Program) (w : World) (K : PySem.W.Frag) (mg : Str → Option Value) (base : Heap) (x : Str) (C : Addr) (k : Nat) (ps : List Str) (sp : Sp) : Prop where
  ex : ∃ f fd, FnOk P w K mg base CX0 k f fd ps sp ∧ Mk K C f ∧ mg x = some (.ref C) ∧ Binds K fd ps []
def HasMake (K : PySem.W.Frag) (C : Addr) (st : Stmt) (qual : Str) : Prop :=
  ∃ f fd, FunD K "__init__" qual (defArgs st) (defBody st) (defScope st) [] [] f fd ∧ Mk K C f
def HasMakeK (K : PySem.W.Frag) (C : Addr) (st : Stmt) (qual : Str) (kws : List (Str × V)) : Prop :=
  ∃ f fd, FunD K "__init__" qual (defArgs st) (defBody st) (defScope st) [] kws f fd ∧ Mk K C f
section
variable {X : Cx} {k : Nat} {C : Addr} {ps : List Str} {sp : Sp} {x : Str} {p pos : Pos} {e : Expr} {es : List Expr} {t : TA}
theorem pe_mk (F : Mkb X.prog X.w X.K X.mg X.base x C k ps sp) (hr : Room (k + 1) X.A) (ha : PA X (e :: es) t) (hg : Gl X x := by rfl)
    (hdb : (x == ("__debug__" : Str)) = false := by decide) (he : starEach (e :: es) X.env = (false, eval e X.env) :: starEach es X.env := by rfl) (hpl : (backTo pos (starEach es X.env)).any (·.1) = false := by rfl) :
    PE X (.Call (.Name x p) (e :: es) [] pos) (tMake C sp [] E0 t) := by
  obtain ⟨f, fd, h1, h2, h3, h4⟩ := F.ex
  exact pe_make h2 h1 hr hg h3 h4 .nil pass0 ha hdb he hpl
theorem pe_mk0 (F : Mkb X.prog X.w X.K X.mg X.base x C k ps sp) (hr : Room (k + 1) X.A) (hg : Gl X x := by rfl) (hdb : (x == ("__debug__" : Str)) = false := by decide) :
    PE X (.Call (.Name x p) [] [] pos) (tMake C sp [] E0 tNil) := by
  obtain ⟨f, fd, h1, h2, h3, h4⟩ := F.ex
  exact pe_make0 h2 h1 hr hg h3 h4 .nil pass0 hdb
end
theorem HasMake.mkb {P : Program} {w : World} {K : PySem.W.Frag} {mg : Str → Option Value} {base : Heap} {C : Addr} {st : Stmt} {x qual : Str} {N ps : List Str} {k : Nat} {sp : Sp} (D : HasMake K C st qual) (hm : mg x = some (.ref C)) (S : FnScope N ps (defScope st))
    (hb : ∀ (kV doc pm : Value) (an : Option Addr) (cdv ct : Value) (us : List Value), us.length = ps.length → bindArgs (PySem.W.fnOf "__init__" qual (defArgs st) (defBody st) (defScope st) .none kV doc pm an cdv ct) ⟨us, []⟩ = pure (ps.zip us))
    (len : ∀ vs H Q E, sp vs H Q E → vs.length = ps.length)
    (body : ∀ (f : Addr) (cdv : Value) (A : Around) (outer : List Env) (s : Shared) (H : Hp) (vs : List V) (Q : VK) (E : XK), Room k (A.deeper (envOfC qual (defScope st) s.heap.objs.size f cdv)) → sp vs H Q E →
      ∃ t, PSs (cxOf CX0 P w K mg base N qual (defScope st) f cdv A outer s H E).nox (defBody st) t ∧ t { nx := fun _ H' => Q .non H', rt := Q } (start N vs) H) : Mkb P w K mg base x C (k + 1) ps sp := by
  obtain ⟨f, fd, F, hM⟩ := D
  refine ⟨f, fd, F.ok S len fun cdv A outer s H vs Q E hr hsp => ?_, hM, hm, F.bindsN hb⟩
  obtain ⟨t, h1, h2⟩ := body f cdv A outer s H vs Q E hr hsp
  exact ⟨t, h1.nox, h2⟩
/-! ### the tables -/
def ks (s : String) : Str := s
def tab_SPECIAL_WORDS : List (Str × Int) := specials.map fun p => (p.1, (p.2 : Int))
def tab_LENGTHS : List (Str × Int) := [(wPush, 2), (wCopy, 2), (wSlide, 2), (wSame, 1), (wWord, 1), (wHead, 1), (wTail, 1), (wJoin, 1), (wCall, 2), (wIf, 3)]
def tup_SPECIAL : T := .l (special.map .w)
def plain : List Str := [wSame, wWord, wHead, wTail, wJoin]
def tup_PLAIN : T := .l (plain.map .w)
def tup_TRANSLATOR : T := progT translator
abbrev s_is_word : Stmt := topS 8
abbrev s_has_head : Stmt := topS 9
abbrev s_counts_of : Stmt := topS 10
abbrev s_name_fits : Stmt := topS 11
abbrev s_parameters_fit : Stmt := topS 12
abbrev s_body_fits : Stmt := topS 13
abbrev s_check_program : Stmt := topS 14
abbrev s_inputs_of : Stmt := topS 15
abbrev s_made_name : Stmt := topS 19
abbrev s_made_parameters : Stmt := topS 20
abbrev s_renamed_expression : Stmt := topS 21
abbrev s_renamed : Stmt := topS 22
abbrev s_joined : Stmt := topS 23
abbrev s_with_main : Stmt := topS 24
abbrev s_fill_function : Stmt := topS 25
abbrev s_fill : Stmt := topS 26
abbrev s_quoted : Stmt := topS 28
abbrev s_listed : Stmt := topS 29
abbrev s_filled_tree : Stmt := topS 30
abbrev s_know_own : Stmt := topS 31
abbrev s_ring : Stmt := topS 32
abbrev C_Store (K : PySem.W.Frag) : Addr := He.ga K "Store"
abbrev s_Store_init : Stmt := inClass (topS 37) 0
abbrev s_Store_number_of : Stmt := inClass (topS 37) 1
abbrev s_Store_is_word : Stmt := inClass (topS 37) 2
abbrev s_Store_first : Stmt := inClass (topS 37) 3
abbrev s_Store_rest : Stmt := inClass (topS 37) 4
abbrev s_Store_pair_up : Stmt := inClass (topS 37) 5
abbrev s_Store_put : Stmt := inClass (topS 37) 6
abbrev s_Store_items_of : Stmt := inClass (topS 37) 7
abbrev s_Store_value_of : Stmt := inClass (topS 37) 8
abbrev C_Run (K : PySem.W.Frag) : Addr := He.ga K "Run"
abbrev s_Run_init : Stmt := inClass (topS 40) 0
abbrev C_Machine (K : PySem.W.Frag) : Addr := He.ga K "Machine"
abbrev s_Machine_init : Stmt := inClass (topS 41) 0
abbrev s_Machine_begin : Stmt := inClass (topS 41) 1
abbrev s_Machine_is_done : Stmt := inClass (topS 41) 2
abbrev s_Machine_go_on : Stmt := inClass (topS 41) 3
abbrev s_Machine_evaluate : Stmt := inClass (topS 41) 4
abbrev s_Machine_do : Stmt := inClass (topS 41) 5
abbrev s_Machine_is_great : Stmt := inClass (topS 41) 6
abbrev s_Machine_result : Stmt := inClass (topS 41) 7
abbrev s_started : Stmt := topS 42
abbrev s_run_program : Stmt := topS 43
abbrev s_is_instruction : Stmt := topS 46
abbrev C_Names (K : PySem.W.Frag) : Addr := He.ga K "Names"
abbrev s_Names_init : Stmt := inClass (topS 47) 0
abbrev s_Names_is_right : Stmt := inClass (topS 47) 1
abbrev s_check_machine : Stmt := topS 48
abbrev C_StackMachine (K : PySem.W.Frag) : Addr := He.ga K "StackMachine"
abbrev s_StackMachine_init : Stmt := inClass (topS 49) 0
abbrev s_StackMachine_made : Stmt := inClass (topS 49) 1
abbrev s_StackMachine_pop : Stmt := inClass (topS 49) 2
abbrev s_StackMachine_go_on : Stmt := inClass (topS 49) 3
abbrev s_StackMachine_carry_out : Stmt := inClass (topS 49) 4
abbrev s_StackMachine_found : Stmt := inClass (topS 49) 5
abbrev s_run_machine : Stmt := topS 50
abbrev s_part_path : Stmt := topS 52
abbrev s_parts_of : Stmt := topS 53
abbrev s_instructions_of : Stmt := topS 54
abbrev s_routines_of : Stmt := topS 55
abbrev s_to_machine : Stmt := topS 56
abbrev s_tails : Stmt := topS 57
abbrev s_translator : Stmt := topS 60
abbrev s_with_texts : Stmt := topS 62
abbrev s_ring_across : Stmt := topS 63
abbrev s_law_draws : Stmt := topS 65
abbrev s_law_take : Stmt := topS 66
abbrev s_law_value : Stmt := topS 67
abbrev s_law : Stmt := topS 68
structure Txt (w : World) (K : PySem.W.Frag) (mg : Str → Option Value) : Prop where
  n_len : mg "len" = none
  n_isinstance : mg "isinstance" = none
  n_str : mg "str" = none
  n_int : mg "int" = none
  n_tuple : mg "tuple" = none
  n_list : mg "list" = none
  n_dict : mg "dict" = none
  n_range : mg "range" = none
  n_enumerate : mg "enumerate" = none
  n_zip : mg "zip" = none
  n_reversed : mg "reversed" = none
  n_min : mg "min" = none
  n_max : mg "max" = none
  n_abs : mg "abs" = none
  c_SPECIAL_WORDS : ∃ a, mg "SPECIAL_WORDS" = some (.ref a) ∧ KTab w K a tab_SPECIAL_WORDS
  c_FIGURES : ∃ t, mg "FIGURES" = some (.str "0123456789" t)
  c_MOST_PARAMETERS : ∃ t, mg "MOST_PARAMETERS" = some (.int 12 t)
  d_is_word : HasDef K mg s_is_word "is_word"
  d_has_head : HasDef K mg s_has_head "has_head"
  d_counts_of : HasDef K mg s_counts_of "counts_of"
  d_name_fits : HasDef K mg s_name_fits "name_fits"
  d_parameters_fit : HasDef K mg s_parameters_fit "parameters_fit"
  d_body_fits : HasDef K mg s_body_fits "body_fits"
  d_check_program : HasDef K mg s_check_program "check_program"
  d_inputs_of : HasDef K mg s_inputs_of "inputs_of"
  c_MOST_INPUTS : ∃ t, mg "MOST_INPUTS" = some (.int 8 t)
  c_SPECIAL : ∃ a, mg "SPECIAL" = some (.ref a) ∧ ∀ H, At K H tup_SPECIAL (.ref a)
  d_made_name : HasDef K mg s_made_name "made_name"
  d_made_parameters : HasDef K mg s_made_parameters "made_parameters"
  d_renamed_expression : HasDef K mg s_renamed_expression "renamed_expression"
  d_renamed : HasDef K mg s_renamed "renamed"
  d_joined : HasDef K mg s_joined "joined"
  d_with_main : HasDef K mg s_with_main "with_main"
  d_fill_function : HasDef K mg s_fill_function "fill_function"
  d_fill : HasDef K mg s_fill "fill"
  d_quoted : HasDef K mg s_quoted "quoted"
  d_listed : HasDef K mg s_listed "listed"
  d_filled_tree : HasDef K mg s_filled_tree "filled_tree"
  d_know_own : HasDef K mg s_know_own "know_own"
  d_ring : HasDef K mg s_ring "ring"
  c_EMPTY : ∃ t, mg "EMPTY" = some (.int 0 t)
  c_MOST_PARTS : ∃ t, mg "MOST_PARTS" = some (.int 200000 t)
  c_MOST_DEPTH : ∃ t, mg "MOST_DEPTH" = some (.int 200 t)
  g_Store : mg "Store" = some (.ref (C_Store K))
  cl_Store : Cls K (C_Store K)
  a_Store_entries : NoAttr K (C_Store K) "entries"
  a_Store_numbers : NoAttr K (C_Store K) "numbers"
  a_Store_sizes : NoAttr K (C_Store K) "sizes"
  a_Store_depths : NoAttr K (C_Store K) "depths"
  d_Store_init : HasMake K (C_Store K) s_Store_init "Store.__init__"
  d_Store_number_of : HasMeth K (C_Store K) s_Store_number_of "number_of" "Store.number_of"
  d_Store_is_word : HasMeth K (C_Store K) s_Store_is_word "is_word" "Store.is_word"
  d_Store_first : HasMeth K (C_Store K) s_Store_first "first" "Store.first"
  d_Store_rest : HasMeth K (C_Store K) s_Store_rest "rest" "Store.rest"
  d_Store_pair_up : HasMeth K (C_Store K) s_Store_pair_up "pair_up" "Store.pair_up"
  d_Store_put : HasMeth K (C_Store K) s_Store_put "put" "Store.put"
  d_Store_items_of : HasMeth K (C_Store K) s_Store_items_of "items_of" "Store.items_of"
  d_Store_value_of : HasMeth K (C_Store K) s_Store_value_of "value_of" "Store.value_of"
  c_PLAIN : ∃ a, mg "PLAIN" = some (.ref a) ∧ ∀ H, At K H tup_PLAIN (.ref a)
  g_Run : mg "Run" = some (.ref (C_Run K))
  cl_Run : Cls K (C_Run K)
  a_Run_kind : NoAttr K (C_Run K) "kind"
  a_Run_value : NoAttr K (C_Run K) "value"
  a_Run_steps : NoAttr K (C_Run K) "steps"
  d_Run_init : HasMake K (C_Run K) s_Run_init "Run.__init__"
  g_Machine : mg "Machine" = some (.ref (C_Machine K))
  cl_Machine : Cls K (C_Machine K)
  a_Machine_store : NoAttr K (C_Machine K) "store"
  a_Machine_yes : NoAttr K (C_Machine K) "yes"
  a_Machine_functions : NoAttr K (C_Machine K) "functions"
  a_Machine_keeping : NoAttr K (C_Machine K) "keeping"
  a_Machine_kept : NoAttr K (C_Machine K) "kept"
  a_Machine_pair : NoAttr K (C_Machine K) "pair"
  a_Machine_steps : NoAttr K (C_Machine K) "steps"
  a_Machine_found : NoAttr K (C_Machine K) "found"
  a_Machine_todo : NoAttr K (C_Machine K) "todo"
  d_Machine_init : HasMakeK K (C_Machine K) s_Machine_init "Machine.__init__" [("keeping", .bl false)]
  d_Machine_begin : HasMeth K (C_Machine K) s_Machine_begin "begin" "Machine.begin"
  d_Machine_is_done : HasMeth K (C_Machine K) s_Machine_is_done "is_done" "Machine.is_done"
  d_Machine_go_on : HasMeth K (C_Machine K) s_Machine_go_on "go_on" "Machine.go_on"
  d_Machine_evaluate : HasMeth K (C_Machine K) s_Machine_evaluate "evaluate" "Machine.evaluate"
  d_Machine_do : HasMeth K (C_Machine K) s_Machine_do "do" "Machine.do"
  d_Machine_is_great : HasMeth K (C_Machine K) s_Machine_is_great "is_great" "Machine.is_great"
  d_Machine_result : HasMeth K (C_Machine K) s_Machine_result "result" "Machine.result"
  d_started : HasDef K mg s_started "started"
  d_run_program : HasDef K mg s_run_program "run_program"
  c_LENGTHS : ∃ a, mg "LENGTHS" = some (.ref a) ∧ KTab w K a tab_LENGTHS
  d_is_instruction : HasDef K mg s_is_instruction "is_instruction"
  g_Names : mg "Names" = some (.ref (C_Names K))
  cl_Names : Cls K (C_Names K)
  a_Names_store : NoAttr K (C_Names K) "store"
  a_Names_kept : NoAttr K (C_Names K) "kept"
  a_Names_known : NoAttr K (C_Names K) "known"
  d_Names_init : HasMake K (C_Names K) s_Names_init "Names.__init__"
  d_Names_is_right : HasMeth K (C_Names K) s_Names_is_right "is_right" "Names.is_right"
  d_check_machine : HasDef K mg s_check_machine "check_machine"
  g_StackMachine : mg "StackMachine" = some (.ref (C_StackMachine K))
  cl_StackMachine : Cls K (C_StackMachine K)
  a_StackMachine_store : NoAttr K (C_StackMachine K) "store"
  a_StackMachine_yes : NoAttr K (C_StackMachine K) "yes"
  a_StackMachine_routines : NoAttr K (C_StackMachine K) "routines"
  a_StackMachine_stack : NoAttr K (C_StackMachine K) "stack"
  a_StackMachine_todo : NoAttr K (C_StackMachine K) "todo"
  a_StackMachine_steps : NoAttr K (C_StackMachine K) "steps"
  d_StackMachine_init : HasMake K (C_StackMachine K) s_StackMachine_init "StackMachine.__init__"
  d_StackMachine_made : HasMeth K (C_StackMachine K) s_StackMachine_made "made" "StackMachine.made"
  d_StackMachine_pop : HasMeth K (C_StackMachine K) s_StackMachine_pop "pop" "StackMachine.pop"
  d_StackMachine_go_on : HasMeth K (C_StackMachine K) s_StackMachine_go_on "go_on" "StackMachine.go_on"
  d_StackMachine_carry_out : HasMeth K (C_StackMachine K) s_StackMachine_carry_out "carry_out" "StackMachine.carry_out"
  d_StackMachine_found : HasMeth K (C_StackMachine K) s_StackMachine_found "found" "StackMachine.found"
  d_run_machine : HasDef K mg s_run_machine "run_machine"
  d_part_path : HasDef K mg s_part_path "part_path"
  d_parts_of : HasDef K mg s_parts_of "parts_of"
  d_instructions_of : HasDef K mg s_instructions_of "instructions_of"
  d_routines_of : HasDef K mg s_routines_of "routines_of"
  d_to_machine : HasDef K mg s_to_machine "to_machine"
  d_tails : HasDef K mg s_tails "tails"
  c_TRANSLATOR : ∃ a, mg "TRANSLATOR" = some (.ref a) ∧ ∀ H, At K H tup_TRANSLATOR (.ref a)
  d_translator : HasDef K mg s_translator "translator"
  d_with_texts : HasDef K mg s_with_texts "with_texts"
  d_ring_across : HasDef K mg s_ring_across "ring_across"
  d_law_draws : HasDef K mg s_law_draws "_law_draws"
  d_law_take : HasDef K mg s_law_take "_law_take"
  d_law_value : HasDef K mg s_law_value "_law_value"
  d_law : HasDef K mg s_law "law"
end G
set_option maxRecDepth 100000
set_option maxHeartbeats 4000000
/-! Gh: the head's facts: defs by names, tables of numbers, trees of texts. -/
namespace G
open PySem PySem.Spec PyProof.Rows L2 He
/-! ### trees -/
mutual
def atG (g : Addr → Option Obj) : T → Value → Bool
  | .w s, .str y _ => seq y s
  | .l ts, .ref a => (match g a with
    | some ⟨.type c, none, .seq its _, _⟩ => decide (c = "tuple") && (Nat.ble its.size 1000000 && atGs g ts its.toList)
    | _ => false)
  | _, _ => false
def atGs (g : Addr → Option Obj) : List T → List Value → Bool
  | [], [] => true
  | t :: ts, v :: vs => atG g t v && atGs g ts vs
  | _, _ => false
end
mutual
def adG (g : Addr → Option Obj) : T → Value → List Addr
  | .l ts, .ref a => a :: (match g a with
    | some ⟨_, _, .seq its _, _⟩ => adGs g ts its.toList
    | _ => [])
  | _, _ => []
def adGs (g : Addr → Option Obj) : List T → List Value → List Addr
  | t :: ts, v :: vs => adG g t v ++ adGs g ts vs
  | _, _ => []
end
theorem frG_look {g : Addr → Option Obj} {a : Addr} {o : Obj} (hg : g a = some o) : ∀ as : List Addr, a ∈ as → (frG g as).lookup a = some o
  | [], h => by cases h
  | b :: r, h => by
    unfold frG
    rw [List.filterMap_cons]
    by_cases e : a = b
    · subst e
      rw [hg]
      show (match a == a with | true => some o | false => _) = some o
      rw [beq_self_eq_true]
    · have hr : a ∈ r := by
        rcases List.mem_cons.mp h with h | h
        · exact absurd h e
        · exact h
      have ih := frG_look hg r hr
      cases q : g b with
      | none => exact ih
      | some ob =>
        show (match a == b with | true => some ob | false => (frG g r).lookup a) = some o
        rw [beq_eq_false_iff_ne.mpr e]
        exact ih
mutual
theorem atG_ok {g : Addr → Option Obj} {as : List Addr} (H : Hp) : ∀ (t : T) (u : Value), atG g t u = true → (∀ a ∈ adG g t u, a ∈ as) → ∃ v, RelV v u ∧ At (frG g as) H t v
  | .w s, .str y tk, h, _ => by
    have e : y = s := seq_iff.mp (show seq y s = true from h)
    subst e
    exact ⟨.str y, ⟨tk, rfl⟩, at_wi⟩
  | .l ts, .ref a, h, hs => by
    unfold atG at h
    have ha : a ∈ as := hs a (by unfold adG; exact List.mem_cons_self ..)
    cases q : g a with
    | none =>
      rw [q] at h
      cases h
    | some o =>
      obtain ⟨oc, od, dt, sl⟩ := o
      rw [q] at h
      cases oc with
      | type c =>
        cases od with
        | none =>
          cases dt with
          | seq its n =>
            obtain ⟨h1, h2⟩ := ba (show (decide (c = "tuple") && (Nat.ble its.size 1000000 && atGs g ts its.toList)) = true from h)
            obtain ⟨h3, h4⟩ := ba h2
            obtain ⟨vs, r, hA⟩ := atGs_ok H ts its.toList h4 (fun b hb => hs b (by
              unfold adG
              rw [q]
              exact List.mem_cons_of_mem _ hb))
            have e1 : c = "tuple" := of_decide_eq_true h1
            subst e1
            exact ⟨.ref a, rfl, at_li (.inr ⟨_, its, n, frG_look q as ha, rfl, rfl, rfl, by have := Nat.le_of_ble_eq_true h3; rw [sizeLine_eq]; omega, r⟩) hA⟩
          | _ => cases h
        | some d => cases dt <;> cases h
      | _ => cases od <;> cases dt <;> cases h
  | .w _, .none, h, _ => by cases h
  | .w _, .ref _, h, _ => by cases h
  | .l _, .str _ _, h, _ => by cases h
  | .l _, .none, h, _ => by cases h
  | .w _, .bool _, h, _ => by cases h
  | .w _, .int _ _, h, _ => by cases h
  | .l _, .bool _, h, _ => by cases h
  | .l _, .int _ _, h, _ => by cases h
  | .w _, .bytes _ _, h, _ => by cases h
  | .w _, .float _ _, h, _ => by cases h
  | .w _, .type _, h, _ => by cases h
  | .w _, .builtin _, h, _ => by cases h
  | .l _, .bytes _ _, h, _ => by cases h
  | .l _, .float _ _, h, _ => by cases h
  | .l _, .type _, h, _ => by cases h
  | .l _, .builtin _, h, _ => by cases h
theorem atGs_ok {g : Addr → Option Obj} {as : List Addr} (H : Hp) : ∀ (ts : List T) (us : List Value), atGs g ts us = true → (∀ a ∈ adGs g ts us, a ∈ as) → ∃ vs, Vals vs us ∧ AtAll (frG g as) H ts vs
  | [], [], _, _ => ⟨[], .nil, aa_nil⟩
  | t :: ts, u :: us, h, hs => by
    obtain ⟨h1, h2⟩ := ba (show (atG g t u && atGs g ts us) = true from h)
    obtain ⟨v, r, hA⟩ := atG_ok H t u h1 (fun a ha => hs a (by unfold adGs; exact List.mem_append_left _ ha))
    obtain ⟨vs, rs, hAs⟩ := atGs_ok H ts us h2 (fun a ha => hs a (by unfold adGs; exact List.mem_append_right _ ha))
    exact ⟨v :: vs, .cons r rs, aa_cons hA hAs⟩
  | [], _ :: _, h, _ => by cases h
  | _ :: _, [], h, _ => by cases h
end
/-! ### tables of numbers -/
def kdE (e : DictEntry) : Option (Str × Int × Int) := match e.key, e.val with
  | .str x _, .int i _ => some (x, e.hash, i)
  | _, _ => none
def kdIn (P : Params) (tab : List (Str × Int)) : List (Option (Str × Int × Int)) := tab.map fun p => some (p.1, PyData.keyHash P p.1, p.2)
def kdW (K : PySem.W.Frag) (a : Addr) : Option (List (Option (Str × Int × Int))) := match K.lookup a with
  | some ⟨.type c, none, .dict es _, sl⟩ => (match decide (c = "dict") && (sl.isEmpty && !(a == sysModules)) with
    | true => some (es.toList.map kdE)
    | false => none)
  | _ => none
theorem kd_pairs {w : World} : ∀ {l : List DictEntry} {tab : List (Str × Int)}, l.map kdE = kdIn w.params tab → Paired (fun (p : Str × Int) (e : DictEntry) => (∃ t, e.key = .str p.1 t) ∧ e.hash = hashStr w p.1 ∧ ∃ t, e.val = .int p.2 t) tab l
  | [], [], _ => .nil
  | [], _ :: _, h => by cases h
  | e :: r, [], h => by cases h
  | e :: r, p :: tab, h => by
    have h1 : kdE e :: r.map kdE = some (p.1, PyData.keyHash w.params p.1, p.2) :: kdIn w.params tab := h
    injection h1 with h2 h3
    refine .cons ?_ (kd_pairs h3)
    unfold kdE at h2
    split at h2
    · rename_i x t i u q1 q2
      obtain ⟨h4, h5⟩ := Prod.mk.inj (Option.some.inj h2)
      obtain ⟨h6, h7⟩ := Prod.mk.inj h5
      exact ⟨⟨t, by rw [q1, h4]⟩, h6, ⟨u, by rw [q2, h7]⟩⟩
    · cases h2
theorem kd_ok {K : PySem.W.Frag} {w : World} {a : Addr} {tab : List (Str × Int)} (h : kdW K a = some (kdIn w.params tab)) : KTab w K a tab := by
  unfold kdW at h
  cases q : K.lookup a with
  | none =>
    rw [q] at h
    cases h
  | some o =>
    obtain ⟨oc, od, dt, osl⟩ := o
    rw [q] at h
    cases oc with
    | type c =>
      cases od with
      | none =>
        cases dt with
        | dict es n =>
          have h1 : (match decide (c = "dict") && (osl.isEmpty && !(a == sysModules)) with
            | true => some (es.toList.map kdE)
            | false => none) = some (kdIn w.params tab) := h
          cases z : decide (c = "dict") && (osl.isEmpty && !(a == sysModules)) with
          | false =>
            rw [z] at h1
            cases h1
          | true =>
            rw [z] at h1
            obtain ⟨z1, z2⟩ := ba z
            obtain ⟨z3, z4⟩ := ba z2
            have e1 : c = "dict" := of_decide_eq_true z1
            have e2 : osl = #[] := Array.isEmpty_iff.mp z3
            have e3 : (a == sysModules) = false := by
              cases y : a == sysModules with
              | false => rfl
              | true =>
                rw [y] at z4
                cases z4
            subst e1 e2
            exact ⟨e3, es, n, q, kd_pairs (Option.some.inj h1)⟩
        | _ => cases h
      | some b => cases dt <;> cases h
    | _ => cases od <;> cases dt <;> cases h
/-! ### the Hook -/
def tups : List (T × Str) := [(tup_TRANSLATOR, "TRANSLATOR"), (tup_SPECIAL, "SPECIAL"), (tup_PLAIN, "PLAIN")]
/-- a def's code object, its keyword defaults -/
def fnAd (g : Addr → Option Obj) (a : Addr) : List Addr := match g a with
  | some ⟨_, _, .func fd, _⟩ => refV fd.code ++ refV fd.kwdefaults
  | _ => []
/-- a class's names, its methods -/
def clAd (g : Addr → Option Obj) (a : Addr) : List Addr := match g a with
  | some ⟨_, _, .cls cd, _⟩ => cd.ns :: (match g cd.ns with
    | some ⟨_, _, .dict es _, _⟩ => es.toList.flatMap fun e => match e.val with
      | .ref m => m :: fnAd g m
      | _ => []
    | _ => [])
  | _ => []
/-- what the module's names stand for, and what is looked at behind them -/
def topAd (g : Addr → Option Obj) : List Addr := mainGlobals :: (match g mainGlobals with
  | some ⟨_, _, .dict es _, _⟩ => es.toList.flatMap fun e => match e.val with
    | .ref a => a :: (fnAd g a ++ clAd g a)
    | _ => []
  | _ => [])
def K0 (g : Addr → Option Obj) : PySem.W.Frag := frG g (topAd g)
def asX (g : Addr → Option Obj) : List Addr := topAd g ++ tups.flatMap fun p => adG g p.1 (.ref (ga (K0 g) p.2))
def KX (g : Addr → Option Obj) : PySem.W.Frag := frG g (asX g)
def tupsB (g : Addr → Option Obj) : Bool := tups.all fun p => atG g p.1 (.ref (ga (K0 g) p.2)) && Nat.beq (ga (KX g) p.2) (ga (K0 g) p.2)
abbrev AlQ : Type := (AlD × List (Option (List (Option (Str × Int × Int))))) × Bool
def dicts : List (Str × List (Str × Int)) := [("SPECIAL_WORDS", tab_SPECIAL_WORDS), ("LENGTHS", tab_LENGTHS)]
def obsQ (fa : List Fa) (fn : List DefD) (g : Addr → Option Obj) : AlQ := ((obsD fa fn (KX g), dicts.map fun p => kdW (KX g) (ga (KX g) p.1)), tupsB g)
def valQ (fn : List DefD) (w : World) : AlQ := ((valD fn, dicts.map fun p => some (kdIn w.params p.2)), true)
structure SaysQ (fa : List Fa) (fn : List DefD) (w : World) (K : PySem.W.Frag) : Prop where
  d : SaysD fa fn K
  k : ∀ p ∈ dicts, KTab w K (ga K p.1) p.2
  t : ∀ p ∈ tups, ∀ H, At K H p.1 (.ref (ga K p.2))
theorem saysQ_of {fa : List Fa} {fn : List DefD} {w : World} {g : Addr → Option Obj} (e : obsQ fa fn g = valQ fn w) : SaysQ fa fn w (KX g) := by
  have e1 : obsD fa fn (KX g) = valD fn := congrArg (fun z : AlQ => z.1.1) e
  have e2 : (dicts.map fun p => kdW (KX g) (ga (KX g) p.1)) = dicts.map fun p => some (kdIn w.params p.2) := congrArg (fun z : AlQ => z.1.2) e
  have e3 : tupsB g = true := congrArg (fun z : AlQ => z.2) e
  refine ⟨e1, fun p hp => ?_, fun p hp H => ?_⟩
  · obtain ⟨i, hi⟩ := List.mem_iff_getElem?.mp hp
    have e4 : (dicts.map fun p => kdW (KX g) (ga (KX g) p.1))[i]? = (dicts.map fun p => some (kdIn w.params p.2))[i]? := by rw [e2]
    rw [List.getElem?_map, List.getElem?_map, hi] at e4
    exact kd_ok (Option.some.inj e4)
  · obtain ⟨h1, h2⟩ := ba (List.all_eq_true.mp e3 p hp)
    have h2 := Nat.eq_of_beq_eq_true h2
    rw [h2]
    obtain ⟨v, r, hA⟩ := atG_ok (as := asX g) H p.1 _ h1 (fun a ha => List.mem_append_right _ (List.mem_flatMap.mpr ⟨p, hp, ha⟩))
    have hv : v = .ref (ga (K0 g) p.2) := by
      cases v with
      | ref b =>
        have r : Value.ref (ga (K0 g) p.2) = .ref b := r
        rw [Value.ref.inj r]
      | non => cases r
      | bl b => cases r
      | int i =>
        obtain ⟨_, r⟩ := r
        cases r
      | str x =>
        obtain ⟨_, r⟩ := r
        cases r
      | byt x =>
        obtain ⟨_, r⟩ := r
        cases r
      | flt x =>
        obtain ⟨_, r⟩ := r
        cases r
      | ty x => cases r
    rw [hv] at hA
    exact hA
def hookQ (fa : List Fa) (fn : List DefD) : PySem.W.Hook where
  α := AlQ
  obs := fun s => obsQ fa fn s.heap.get?
  val := fun w => valQ fn w
  says := fun w h => ∃ K : PySem.W.Frag, K.In h ∧ SaysQ fa fn w K
  of := fun _ _ e => ⟨_, frG_in, saysQ_of e⟩
  keeps := fun _ _ _ ⟨K, hK, c⟩ k => ⟨K, PySem.W.Frag.In.keeps hK k, c⟩
theorem obsQ_eq {fa : List Fa} {fn : List DefD} {g : Addr → Option Obj} {s : Shared} (h : ∀ a, g a = s.heap.get? a) : obsQ fa fn g = (hookQ fa fn).obs s := by
  have e : g = s.heap.get? := funext h
  rw [e] <;> rfl
end G
set_option maxRecDepth 100000
set_option maxHeartbeats 4000000
/-! Gy: the head's facts, Txt. -/
namespace G
open PySem PySem.Spec PyProof.Rows L2 He
def fa0 : List Fa := [.free "len", .free "isinstance", .free "str", .free "int", .free "tuple", .free "list", .free "dict", .free "range", .free "enumerate", .free "zip", .free "reversed", .free "min", .free "max", .free "abs", .glo "SPECIAL_WORDS", .str "FIGURES" "0123456789", .int "MOST_PARAMETERS" 12, .glo "is_word", .glo "has_head", .glo "counts_of", .glo "name_fits", .glo "parameters_fit", .glo "body_fits", .glo "check_program", .glo "inputs_of", .int "MOST_INPUTS" 8, .glo "SPECIAL", .glo "made_name", .glo "made_parameters", .glo "renamed_expression"]
def fa1 : List Fa := [.glo "renamed", .glo "joined", .glo "with_main", .glo "fill_function", .glo "fill", .glo "quoted", .glo "listed", .glo "filled_tree", .glo "know_own", .glo "ring", .int "EMPTY" 0, .int "MOST_PARTS" 200000, .int "MOST_DEPTH" 200, .glo "Store", .cls "Store", .noat "Store" "entries", .noat "Store" "numbers", .noat "Store" "sizes", .noat "Store" "depths", .mkr "Store", .meth "Store" "number_of", .meth "Store" "is_word", .meth "Store" "first", .meth "Store" "rest", .meth "Store" "pair_up", .meth "Store" "put", .meth "Store" "items_of", .meth "Store" "value_of", .glo "PLAIN", .glo "Run"]
def fa2 : List Fa := [.cls "Run", .noat "Run" "kind", .noat "Run" "value", .noat "Run" "steps", .mkr "Run", .glo "Machine", .cls "Machine", .noat "Machine" "store", .noat "Machine" "yes", .noat "Machine" "functions", .noat "Machine" "keeping", .noat "Machine" "kept", .noat "Machine" "pair", .noat "Machine" "steps", .noat "Machine" "found", .noat "Machine" "todo", .mkr "Machine", .meth "Machine" "begin", .meth "Machine" "is_done", .meth "Machine" "go_on", .meth "Machine" "evaluate", .meth "Machine" "do", .meth "Machine" "is_great", .meth "Machine" "result", .glo "started", .glo "run_program", .glo "LENGTHS", .glo "is_instruction", .glo "Names", .cls "Names"]
def fa3 : List Fa := [.noat "Names" "store", .noat "Names" "kept", .noat "Names" "known", .mkr "Names", .meth "Names" "is_right", .glo "check_machine", .glo "StackMachine", .cls "StackMachine", .noat "StackMachine" "store", .noat "StackMachine" "yes", .noat "StackMachine" "routines", .noat "StackMachine" "stack", .noat "StackMachine" "todo", .noat "StackMachine" "steps", .mkr "StackMachine", .meth "StackMachine" "made", .meth "StackMachine" "pop", .meth "StackMachine" "go_on", .meth "StackMachine" "carry_out", .meth "StackMachine" "found", .glo "run_machine", .glo "part_path", .glo "parts_of", .glo "instructions_of", .glo "routines_of", .glo "to_machine", .glo "tails", .glo "TRANSLATOR", .glo "translator", .glo "with_texts"]
def fa4 : List Fa := [.glo "ring_across", .glo "_law_draws", .glo "_law_take", .glo "_law_value", .glo "law"]
def fa : List Fa := fa0 ++ fa1 ++ fa2 ++ fa3 ++ fa4
def fn0 : List DefD := [⟨("is_word", none), "is_word", "is_word", defArgs s_is_word, defBody s_is_word, defScope s_is_word, [], []⟩, ⟨("has_head", none), "has_head", "has_head", defArgs s_has_head, defBody s_has_head, defScope s_has_head, [], []⟩, ⟨("counts_of", none), "counts_of", "counts_of", defArgs s_counts_of, defBody s_counts_of, defScope s_counts_of, [], []⟩, ⟨("name_fits", none), "name_fits", "name_fits", defArgs s_name_fits, defBody s_name_fits, defScope s_name_fits, [], []⟩, ⟨("parameters_fit", none), "parameters_fit", "parameters_fit", defArgs s_parameters_fit, defBody s_parameters_fit, defScope s_parameters_fit, [], []⟩, ⟨("body_fits", none), "body_fits", "body_fits", defArgs s_body_fits, defBody s_body_fits, defScope s_body_fits, [], []⟩, ⟨("check_program", none), "check_program", "check_program", defArgs s_check_program, defBody s_check_program, defScope s_check_program, [], []⟩, ⟨("inputs_of", none), "inputs_of", "inputs_of", defArgs s_inputs_of, defBody s_inputs_of, defScope s_inputs_of, [], []⟩, ⟨("made_name", none), "made_name", "made_name", defArgs s_made_name, defBody s_made_name, defScope s_made_name, [], []⟩, ⟨("made_parameters", none), "made_parameters", "made_parameters", defArgs s_made_parameters, defBody s_made_parameters, defScope s_made_parameters, [], []⟩, ⟨("renamed_expression", none), "renamed_expression", "renamed_expression", defArgs s_renamed_expression, defBody s_renamed_expression, defScope s_renamed_expression, [], []⟩, ⟨("renamed", none), "renamed", "renamed", defArgs s_renamed, defBody s_renamed, defScope s_renamed, [], []⟩, ⟨("joined", none), "joined", "joined", defArgs s_joined, defBody s_joined, defScope s_joined, [], []⟩, ⟨("with_main", none), "with_main", "with_main", defArgs s_with_main, defBody s_with_main, defScope s_with_main, [], []⟩, ⟨("fill_function", none), "fill_function", "fill_function", defArgs s_fill_function, defBody s_fill_function, defScope s_fill_function, [], []⟩, ⟨("fill", none), "fill", "fill", defArgs s_fill, defBody s_fill, defScope s_fill, [], []⟩, ⟨("quoted", none), "quoted", "quoted", defArgs s_quoted, defBody s_quoted, defScope s_quoted, [], []⟩, ⟨("listed", none), "listed", "listed", defArgs s_listed, defBody s_listed, defScope s_listed, [], []⟩, ⟨("filled_tree", none), "filled_tree", "filled_tree", defArgs s_filled_tree, defBody s_filled_tree, defScope s_filled_tree, [], []⟩, ⟨("know_own", none), "know_own", "know_own", defArgs s_know_own, defBody s_know_own, defScope s_know_own, [], []⟩]
def fn1 : List DefD := [⟨("ring", none), "ring", "ring", defArgs s_ring, defBody s_ring, defScope s_ring, [], []⟩, ⟨("Store", some "__init__"), "__init__", "Store.__init__", defArgs s_Store_init, defBody s_Store_init, defScope s_Store_init, [], []⟩, ⟨("Store", some "number_of"), "number_of", "Store.number_of", defArgs s_Store_number_of, defBody s_Store_number_of, defScope s_Store_number_of, [], []⟩, ⟨("Store", some "is_word"), "is_word", "Store.is_word", defArgs s_Store_is_word, defBody s_Store_is_word, defScope s_Store_is_word, [], []⟩, ⟨("Store", some "first"), "first", "Store.first", defArgs s_Store_first, defBody s_Store_first, defScope s_Store_first, [], []⟩, ⟨("Store", some "rest"), "rest", "Store.rest", defArgs s_Store_rest, defBody s_Store_rest, defScope s_Store_rest, [], []⟩, ⟨("Store", some "pair_up"), "pair_up", "Store.pair_up", defArgs s_Store_pair_up, defBody s_Store_pair_up, defScope s_Store_pair_up, [], []⟩, ⟨("Store", some "put"), "put", "Store.put", defArgs s_Store_put, defBody s_Store_put, defScope s_Store_put, [], []⟩, ⟨("Store", some "items_of"), "items_of", "Store.items_of", defArgs s_Store_items_of, defBody s_Store_items_of, defScope s_Store_items_of, [], []⟩, ⟨("Store", some "value_of"), "value_of", "Store.value_of", defArgs s_Store_value_of, defBody s_Store_value_of, defScope s_Store_value_of, [], []⟩, ⟨("Run", some "__init__"), "__init__", "Run.__init__", defArgs s_Run_init, defBody s_Run_init, defScope s_Run_init, [], []⟩, ⟨("Machine", some "__init__"), "__init__", "Machine.__init__", defArgs s_Machine_init, defBody s_Machine_init, defScope s_Machine_init, [], [("keeping", .bl false)]⟩, ⟨("Machine", some "begin"), "begin", "Machine.begin", defArgs s_Machine_begin, defBody s_Machine_begin, defScope s_Machine_begin, [], []⟩, ⟨("Machine", some "is_done"), "is_done", "Machine.is_done", defArgs s_Machine_is_done, defBody s_Machine_is_done, defScope s_Machine_is_done, [], []⟩, ⟨("Machine", some "go_on"), "go_on", "Machine.go_on", defArgs s_Machine_go_on, defBody s_Machine_go_on, defScope s_Machine_go_on, [], []⟩, ⟨("Machine", some "evaluate"), "evaluate", "Machine.evaluate", defArgs s_Machine_evaluate, defBody s_Machine_evaluate, defScope s_Machine_evaluate, [], []⟩, ⟨("Machine", some "do"), "do", "Machine.do", defArgs s_Machine_do, defBody s_Machine_do, defScope s_Machine_do, [], []⟩, ⟨("Machine", some "is_great"), "is_great", "Machine.is_great", defArgs s_Machine_is_great, defBody s_Machine_is_great, defScope s_Machine_is_great, [], []⟩, ⟨("Machine", some "result"), "result", "Machine.result", defArgs s_Machine_result, defBody s_Machine_result, defScope s_Machine_result, [], []⟩, ⟨("started", none), "started", "started", defArgs s_started, defBody s_started, defScope s_started, [], []⟩]
def fn2 : List DefD := [⟨("run_program", none), "run_program", "run_program", defArgs s_run_program, defBody s_run_program, defScope s_run_program, [], []⟩, ⟨("is_instruction", none), "is_instruction", "is_instruction", defArgs s_is_instruction, defBody s_is_instruction, defScope s_is_instruction, [], []⟩, ⟨("Names", some "__init__"), "__init__", "Names.__init__", defArgs s_Names_init, defBody s_Names_init, defScope s_Names_init, [], []⟩, ⟨("Names", some "is_right"), "is_right", "Names.is_right", defArgs s_Names_is_right, defBody s_Names_is_right, defScope s_Names_is_right, [], []⟩, ⟨("check_machine", none), "check_machine", "check_machine", defArgs s_check_machine, defBody s_check_machine, defScope s_check_machine, [], []⟩, ⟨("StackMachine", some "__init__"), "__init__", "StackMachine.__init__", defArgs s_StackMachine_init, defBody s_StackMachine_init, defScope s_StackMachine_init, [], []⟩, ⟨("StackMachine", some "made"), "made", "StackMachine.made", defArgs s_StackMachine_made, defBody s_StackMachine_made, defScope s_StackMachine_made, [], []⟩, ⟨("StackMachine", some "pop"), "pop", "StackMachine.pop", defArgs s_StackMachine_pop, defBody s_StackMachine_pop, defScope s_StackMachine_pop, [], []⟩, ⟨("StackMachine", some "go_on"), "go_on", "StackMachine.go_on", defArgs s_StackMachine_go_on, defBody s_StackMachine_go_on, defScope s_StackMachine_go_on, [], []⟩, ⟨("StackMachine", some "carry_out"), "carry_out", "StackMachine.carry_out", defArgs s_StackMachine_carry_out, defBody s_StackMachine_carry_out, defScope s_StackMachine_carry_out, [], []⟩, ⟨("StackMachine", some "found"), "found", "StackMachine.found", defArgs s_StackMachine_found, defBody s_StackMachine_found, defScope s_StackMachine_found, [], []⟩, ⟨("run_machine", none), "run_machine", "run_machine", defArgs s_run_machine, defBody s_run_machine, defScope s_run_machine, [], []⟩, ⟨("part_path", none), "part_path", "part_path", defArgs s_part_path, defBody s_part_path, defScope s_part_path, [], []⟩, ⟨("parts_of", none), "parts_of", "parts_of", defArgs s_parts_of, defBody s_parts_of, defScope s_parts_of, [], []⟩, ⟨("instructions_of", none), "instructions_of", "instructions_of", defArgs s_instructions_of, defBody s_instructions_of, defScope s_instructions_of, [], []⟩, ⟨("routines_of", none), "routines_of", "routines_of", defArgs s_routines_of, defBody s_routines_of, defScope s_routines_of, [], []⟩, ⟨("to_machine", none), "to_machine", "to_machine", defArgs s_to_machine, defBody s_to_machine, defScope s_to_machine, [], []⟩, ⟨("tails", none), "tails", "tails", defArgs s_tails, defBody s_tails, defScope s_tails, [], []⟩, ⟨("translator", none), "translator", "translator", defArgs s_translator, defBody s_translator, defScope s_translator, [], []⟩, ⟨("with_texts", none), "with_texts", "with_texts", defArgs s_with_texts, defBody s_with_texts, defScope s_with_texts, [], []⟩]
def fn3 : List DefD := [⟨("ring_across", none), "ring_across", "ring_across", defArgs s_ring_across, defBody s_ring_across, defScope s_ring_across, [], []⟩, ⟨("_law_draws", none), "_law_draws", "_law_draws", defArgs s_law_draws, defBody s_law_draws, defScope s_law_draws, [], []⟩, ⟨("_law_take", none), "_law_take", "_law_take", defArgs s_law_take, defBody s_law_take, defScope s_law_take, [], []⟩, ⟨("_law_value", none), "_law_value", "_law_value", defArgs s_law_value, defBody s_law_value, defScope s_law_value, [], []⟩, ⟨("law", none), "law", "law", defArgs s_law, defBody s_law, defScope s_law, [], []⟩]
def fn : List DefD := fn0 ++ fn1 ++ fn2 ++ fn3
theorem txt {w : World} {K : PySem.W.Frag} {h : Heap} {mg : Str → Option Value} (X : K.In h) (G : h.Ns mainGlobals mg) (c : SaysQ fa fn w K) : Txt w K mg := by
  have fact : ∀ (i : Nat) (f : Fa), fa[i]? = some f → f.ok K = true := fun i f e => c.d.fact i e
  constructor
  case n_len => exact free_ok X G (fact 0 (.free "len") rfl)
  case n_isinstance => exact free_ok X G (fact 1 (.free "isinstance") rfl)
  case n_str => exact free_ok X G (fact 2 (.free "str") rfl)
  case n_int => exact free_ok X G (fact 3 (.free "int") rfl)
  case n_tuple => exact free_ok X G (fact 4 (.free "tuple") rfl)
  case n_list => exact free_ok X G (fact 5 (.free "list") rfl)
  case n_dict => exact free_ok X G (fact 6 (.free "dict") rfl)
  case n_range => exact free_ok X G (fact 7 (.free "range") rfl)
  case n_enumerate => exact free_ok X G (fact 8 (.free "enumerate") rfl)
  case n_zip => exact free_ok X G (fact 9 (.free "zip") rfl)
  case n_reversed => exact free_ok X G (fact 10 (.free "reversed") rfl)
  case n_min => exact free_ok X G (fact 11 (.free "min") rfl)
  case n_max => exact free_ok X G (fact 12 (.free "max") rfl)
  case n_abs => exact free_ok X G (fact 13 (.free "abs") rfl)
  case c_SPECIAL_WORDS => exact ⟨_, glo_ok X G (fact 14 (.glo "SPECIAL_WORDS") rfl), c.k ("SPECIAL_WORDS", tab_SPECIAL_WORDS) (by simp [dicts])⟩
  case c_FIGURES => exact str_ok X G (fact 15 (.str "FIGURES" "0123456789") rfl)
  case c_MOST_PARAMETERS => exact int_ok X G (fact 16 (.int "MOST_PARAMETERS" 12) rfl)
  case d_is_word =>
    obtain ⟨fd, F⟩ := c.d.def_ 0 rfl
    exact ⟨_, fd, F, glo_ok X G (fact 17 _ rfl)⟩
  case d_has_head =>
    obtain ⟨fd, F⟩ := c.d.def_ 1 rfl
    exact ⟨_, fd, F, glo_ok X G (fact 18 _ rfl)⟩
  case d_counts_of =>
    obtain ⟨fd, F⟩ := c.d.def_ 2 rfl
    exact ⟨_, fd, F, glo_ok X G (fact 19 _ rfl)⟩
  case d_name_fits =>
    obtain ⟨fd, F⟩ := c.d.def_ 3 rfl
    exact ⟨_, fd, F, glo_ok X G (fact 20 _ rfl)⟩
  case d_parameters_fit =>
    obtain ⟨fd, F⟩ := c.d.def_ 4 rfl
    exact ⟨_, fd, F, glo_ok X G (fact 21 _ rfl)⟩
  case d_body_fits =>
    obtain ⟨fd, F⟩ := c.d.def_ 5 rfl
    exact ⟨_, fd, F, glo_ok X G (fact 22 _ rfl)⟩
  case d_check_program =>
    obtain ⟨fd, F⟩ := c.d.def_ 6 rfl
    exact ⟨_, fd, F, glo_ok X G (fact 23 _ rfl)⟩
  case d_inputs_of =>
    obtain ⟨fd, F⟩ := c.d.def_ 7 rfl
    exact ⟨_, fd, F, glo_ok X G (fact 24 _ rfl)⟩
  case c_MOST_INPUTS => exact int_ok X G (fact 25 (.int "MOST_INPUTS" 8) rfl)
  case c_SPECIAL => exact ⟨_, glo_ok X G (fact 26 (.glo "SPECIAL") rfl), c.t (tup_SPECIAL, "SPECIAL") (by simp [tups])⟩
  case d_made_name =>
    obtain ⟨fd, F⟩ := c.d.def_ 8 rfl
    exact ⟨_, fd, F, glo_ok X G (fact 27 _ rfl)⟩
  case d_made_parameters =>
    obtain ⟨fd, F⟩ := c.d.def_ 9 rfl
    exact ⟨_, fd, F, glo_ok X G (fact 28 _ rfl)⟩
  case d_renamed_expression =>
    obtain ⟨fd, F⟩ := c.d.def_ 10 rfl
    exact ⟨_, fd, F, glo_ok X G (fact 29 _ rfl)⟩
  case d_renamed =>
    obtain ⟨fd, F⟩ := c.d.def_ 11 rfl
    exact ⟨_, fd, F, glo_ok X G (fact 30 _ rfl)⟩
  case d_joined =>
    obtain ⟨fd, F⟩ := c.d.def_ 12 rfl
    exact ⟨_, fd, F, glo_ok X G (fact 31 _ rfl)⟩
  case d_with_main =>
    obtain ⟨fd, F⟩ := c.d.def_ 13 rfl
    exact ⟨_, fd, F, glo_ok X G (fact 32 _ rfl)⟩
  case d_fill_function =>
    obtain ⟨fd, F⟩ := c.d.def_ 14 rfl
    exact ⟨_, fd, F, glo_ok X G (fact 33 _ rfl)⟩
  case d_fill =>
    obtain ⟨fd, F⟩ := c.d.def_ 15 rfl
    exact ⟨_, fd, F, glo_ok X G (fact 34 _ rfl)⟩
  case d_quoted =>
    obtain ⟨fd, F⟩ := c.d.def_ 16 rfl
    exact ⟨_, fd, F, glo_ok X G (fact 35 _ rfl)⟩
  case d_listed =>
    obtain ⟨fd, F⟩ := c.d.def_ 17 rfl
    exact ⟨_, fd, F, glo_ok X G (fact 36 _ rfl)⟩
  case d_filled_tree =>
    obtain ⟨fd, F⟩ := c.d.def_ 18 rfl
    exact ⟨_, fd, F, glo_ok X G (fact 37 _ rfl)⟩
  case d_know_own =>
    obtain ⟨fd, F⟩ := c.d.def_ 19 rfl
    exact ⟨_, fd, F, glo_ok X G (fact 38 _ rfl)⟩
  case d_ring =>
    obtain ⟨fd, F⟩ := c.d.def_ 20 rfl
    exact ⟨_, fd, F, glo_ok X G (fact 39 _ rfl)⟩
  case c_EMPTY => exact int_ok X G (fact 40 (.int "EMPTY" 0) rfl)
  case c_MOST_PARTS => exact int_ok X G (fact 41 (.int "MOST_PARTS" 200000) rfl)
  case c_MOST_DEPTH => exact int_ok X G (fact 42 (.int "MOST_DEPTH" 200) rfl)
  case g_Store => exact glo_ok X G (fact 43 (.glo "Store") rfl)
  case cl_Store => exact cls_ok (fact 44 (.cls "Store") rfl)
  case a_Store_entries => exact noat_ok (fact 45 (.noat "Store" "entries") rfl)
  case a_Store_numbers => exact noat_ok (fact 46 (.noat "Store" "numbers") rfl)
  case a_Store_sizes => exact noat_ok (fact 47 (.noat "Store" "sizes") rfl)
  case a_Store_depths => exact noat_ok (fact 48 (.noat "Store" "depths") rfl)
  case d_Store_init =>
    obtain ⟨fd, F⟩ := c.d.def_ 21 rfl
    exact ⟨_, fd, F, mkr_ok (fact 49 _ rfl)⟩
  case d_Store_number_of =>
    obtain ⟨fd, F⟩ := c.d.def_ 22 rfl
    exact ⟨_, fd, F, meth_ok (fact 50 _ rfl)⟩
  case d_Store_is_word =>
    obtain ⟨fd, F⟩ := c.d.def_ 23 rfl
    exact ⟨_, fd, F, meth_ok (fact 51 _ rfl)⟩
  case d_Store_first =>
    obtain ⟨fd, F⟩ := c.d.def_ 24 rfl
    exact ⟨_, fd, F, meth_ok (fact 52 _ rfl)⟩
  case d_Store_rest =>
    obtain ⟨fd, F⟩ := c.d.def_ 25 rfl
    exact ⟨_, fd, F, meth_ok (fact 53 _ rfl)⟩
  case d_Store_pair_up =>
    obtain ⟨fd, F⟩ := c.d.def_ 26 rfl
    exact ⟨_, fd, F, meth_ok (fact 54 _ rfl)⟩
  case d_Store_put =>
    obtain ⟨fd, F⟩ := c.d.def_ 27 rfl
    exact ⟨_, fd, F, meth_ok (fact 55 _ rfl)⟩
  case d_Store_items_of =>
    obtain ⟨fd, F⟩ := c.d.def_ 28 rfl
    exact ⟨_, fd, F, meth_ok (fact 56 _ rfl)⟩
  case d_Store_value_of =>
    obtain ⟨fd, F⟩ := c.d.def_ 29 rfl
    exact ⟨_, fd, F, meth_ok (fact 57 _ rfl)⟩
  case c_PLAIN => exact ⟨_, glo_ok X G (fact 58 (.glo "PLAIN") rfl), c.t (tup_PLAIN, "PLAIN") (by simp [tups])⟩
  case g_Run => exact glo_ok X G (fact 59 (.glo "Run") rfl)
  case cl_Run => exact cls_ok (fact 60 (.cls "Run") rfl)
  case a_Run_kind => exact noat_ok (fact 61 (.noat "Run" "kind") rfl)
  case a_Run_value => exact noat_ok (fact 62 (.noat "Run" "value") rfl)
  case a_Run_steps => exact noat_ok (fact 63 (.noat "Run" "steps") rfl)
  case d_Run_init =>
    obtain ⟨fd, F⟩ := c.d.def_ 30 rfl
    exact ⟨_, fd, F, mkr_ok (fact 64 _ rfl)⟩
  case g_Machine => exact glo_ok X G (fact 65 (.glo "Machine") rfl)
  case cl_Machine => exact cls_ok (fact 66 (.cls "Machine") rfl)
  case a_Machine_store => exact noat_ok (fact 67 (.noat "Machine" "store") rfl)
  case a_Machine_yes => exact noat_ok (fact 68 (.noat "Machine" "yes") rfl)
  case a_Machine_functions => exact noat_ok (fact 69 (.noat "Machine" "functions") rfl)
  case a_Machine_keeping => exact noat_ok (fact 70 (.noat "Machine" "keeping") rfl)
  case a_Machine_kept => exact noat_ok (fact 71 (.noat "Machine" "kept") rfl)
  case a_Machine_pair => exact noat_ok (fact 72 (.noat "Machine" "pair") rfl)
  case a_Machine_steps => exact noat_ok (fact 73 (.noat "Machine" "steps") rfl)
  case a_Machine_found => exact noat_ok (fact 74 (.noat "Machine" "found") rfl)
  case a_Machine_todo => exact noat_ok (fact 75 (.noat "Machine" "todo") rfl)
  case d_Machine_init =>
    obtain ⟨fd, F⟩ := c.d.def_ 31 rfl
    exact ⟨_, fd, F, mkr_ok (fact 76 _ rfl)⟩
  case d_Machine_begin =>
    obtain ⟨fd, F⟩ := c.d.def_ 32 rfl
    exact ⟨_, fd, F, meth_ok (fact 77 _ rfl)⟩
  case d_Machine_is_done =>
    obtain ⟨fd, F⟩ := c.d.def_ 33 rfl
    exact ⟨_, fd, F, meth_ok (fact 78 _ rfl)⟩
  case d_Machine_go_on =>
    obtain ⟨fd, F⟩ := c.d.def_ 34 rfl
    exact ⟨_, fd, F, meth_ok (fact 79 _ rfl)⟩
  case d_Machine_evaluate =>
    obtain ⟨fd, F⟩ := c.d.def_ 35 rfl
    exact ⟨_, fd, F, meth_ok (fact 80 _ rfl)⟩
  case d_Machine_do =>
    obtain ⟨fd, F⟩ := c.d.def_ 36 rfl
    exact ⟨_, fd, F, meth_ok (fact 81 _ rfl)⟩
  case d_Machine_is_great =>
    obtain ⟨fd, F⟩ := c.d.def_ 37 rfl
    exact ⟨_, fd, F, meth_ok (fact 82 _ rfl)⟩
  case d_Machine_result =>
    obtain ⟨fd, F⟩ := c.d.def_ 38 rfl
    exact ⟨_, fd, F, meth_ok (fact 83 _ rfl)⟩
  case d_started =>
    obtain ⟨fd, F⟩ := c.d.def_ 39 rfl
    exact ⟨_, fd, F, glo_ok X G (fact 84 _ rfl)⟩
  case d_run_program =>
    obtain ⟨fd, F⟩ := c.d.def_ 40 rfl
    exact ⟨_, fd, F, glo_ok X G (fact 85 _ rfl)⟩
  case c_LENGTHS => exact ⟨_, glo_ok X G (fact 86 (.glo "LENGTHS") rfl), c.k ("LENGTHS", tab_LENGTHS) (by simp [dicts])⟩
  case d_is_instruction =>
    obtain ⟨fd, F⟩ := c.d.def_ 41 rfl
    exact ⟨_, fd, F, glo_ok X G (fact 87 _ rfl)⟩
  case g_Names => exact glo_ok X G (fact 88 (.glo "Names") rfl)
  case cl_Names => exact cls_ok (fact 89 (.cls "Names") rfl)
  case a_Names_store => exact noat_ok (fact 90 (.noat "Names" "store") rfl)
  case a_Names_kept => exact noat_ok (fact 91 (.noat "Names" "kept") rfl)
  case a_Names_known => exact noat_ok (fact 92 (.noat "Names" "known") rfl)
  case d_Names_init =>
    obtain ⟨fd, F⟩ := c.d.def_ 42 rfl
    exact ⟨_, fd, F, mkr_ok (fact 93 _ rfl)⟩
  case d_Names_is_right =>
    obtain ⟨fd, F⟩ := c.d.def_ 43 rfl
    exact ⟨_, fd, F, meth_ok (fact 94 _ rfl)⟩
  case d_check_machine =>
    obtain ⟨fd, F⟩ := c.d.def_ 44 rfl
    exact ⟨_, fd, F, glo_ok X G (fact 95 _ rfl)⟩
  case g_StackMachine => exact glo_ok X G (fact 96 (.glo "StackMachine") rfl)
  case cl_StackMachine => exact cls_ok (fact 97 (.cls "StackMachine") rfl)
  case a_StackMachine_store => exact noat_ok (fact 98 (.noat "StackMachine" "store") rfl)
  case a_StackMachine_yes => exact noat_ok (fact 99 (.noat "StackMachine" "yes") rfl)
  case a_StackMachine_routines => exact noat_ok (fact 100 (.noat "StackMachine" "routines") rfl)
  case a_StackMachine_stack => exact noat_ok (fact 101 (.noat "StackMachine" "stack") rfl)
  case a_StackMachine_todo => exact noat_ok (fact 102 (.noat "StackMachine" "todo") rfl)
  case a_StackMachine_steps => exact noat_ok (fact 103 (.noat "StackMachine" "steps") rfl)
  case d_StackMachine_init =>
    obtain ⟨fd, F⟩ := c.d.def_ 45 rfl
    exact ⟨_, fd, F, mkr_ok (fact 104 _ rfl)⟩
  case d_StackMachine_made =>
    obtain ⟨fd, F⟩ := c.d.def_ 46 rfl
    exact ⟨_, fd, F, meth_ok (fact 105 _ rfl)⟩
  case d_StackMachine_pop =>
    obtain ⟨fd, F⟩ := c.d.def_ 47 rfl
    exact ⟨_, fd, F, meth_ok (fact 106 _ rfl)⟩
  case d_StackMachine_go_on =>
    obtain ⟨fd, F⟩ := c.d.def_ 48 rfl
    exact ⟨_, fd, F, meth_ok (fact 107 _ rfl)⟩
  case d_StackMachine_carry_out =>
    obtain ⟨fd, F⟩ := c.d.def_ 49 rfl
    exact ⟨_, fd, F, meth_ok (fact 108 _ rfl)⟩
  case d_StackMachine_found =>
    obtain ⟨fd, F⟩ := c.d.def_ 50 rfl
    exact ⟨_, fd, F, meth_ok (fact 109 _ rfl)⟩
  case d_run_machine =>
    obtain ⟨fd, F⟩ := c.d.def_ 51 rfl
    exact ⟨_, fd, F, glo_ok X G (fact 110 _ rfl)⟩
  case d_part_path =>
    obtain ⟨fd, F⟩ := c.d.def_ 52 rfl
    exact ⟨_, fd, F, glo_ok X G (fact 111 _ rfl)⟩
  case d_parts_of =>
    obtain ⟨fd, F⟩ := c.d.def_ 53 rfl
    exact ⟨_, fd, F, glo_ok X G (fact 112 _ rfl)⟩
  case d_instructions_of =>
    obtain ⟨fd, F⟩ := c.d.def_ 54 rfl
    exact ⟨_, fd, F, glo_ok X G (fact 113 _ rfl)⟩
  case d_routines_of =>
    obtain ⟨fd, F⟩ := c.d.def_ 55 rfl
    exact ⟨_, fd, F, glo_ok X G (fact 114 _ rfl)⟩
  case d_to_machine =>
    obtain ⟨fd, F⟩ := c.d.def_ 56 rfl
    exact ⟨_, fd, F, glo_ok X G (fact 115 _ rfl)⟩
  case d_tails =>
    obtain ⟨fd, F⟩ := c.d.def_ 57 rfl
    exact ⟨_, fd, F, glo_ok X G (fact 116 _ rfl)⟩
  case c_TRANSLATOR => exact ⟨_, glo_ok X G (fact 117 (.glo "TRANSLATOR") rfl), c.t (tup_TRANSLATOR, "TRANSLATOR") (by simp [tups])⟩
  case d_translator =>
    obtain ⟨fd, F⟩ := c.d.def_ 58 rfl
    exact ⟨_, fd, F, glo_ok X G (fact 118 _ rfl)⟩
  case d_with_texts =>
    obtain ⟨fd, F⟩ := c.d.def_ 59 rfl
    exact ⟨_, fd, F, glo_ok X G (fact 119 _ rfl)⟩
  case d_ring_across =>
    obtain ⟨fd, F⟩ := c.d.def_ 60 rfl
    exact ⟨_, fd, F, glo_ok X G (fact 120 _ rfl)⟩
  case d_law_draws =>
    obtain ⟨fd, F⟩ := c.d.def_ 61 rfl
    exact ⟨_, fd, F, glo_ok X G (fact 121 _ rfl)⟩
  case d_law_take =>
    obtain ⟨fd, F⟩ := c.d.def_ 62 rfl
    exact ⟨_, fd, F, glo_ok X G (fact 122 _ rfl)⟩
  case d_law_value =>
    obtain ⟨fd, F⟩ := c.d.def_ 63 rfl
    exact ⟨_, fd, F, glo_ok X G (fact 123 _ rfl)⟩
  case d_law =>
    obtain ⟨fd, F⟩ := c.d.def_ 64 rfl
    exact ⟨_, fd, F, glo_ok X G (fact 124 _ rfl)⟩
end G
set_option maxRecDepth 100000
set_option maxHeartbeats 0
/-! Gz: the run of the top. -/
namespace G
open PySem PySem.W PySem.Calls PyProof.Rows
abbrev RowR : OpenRow := OpenLaw.row PySem.Challenge.rw_ownglass_k57_whole_rings_across
abbrev qv : Program := view RowR.prog [68]
def names1 : List PySem.Str := ["GlassError", "BadProgram", "BadInputs", "SPECIAL_WORDS", "FIGURES", "MOST_PARAMETERS", "is_word", "has_head", "counts_of", "name_fits", "parameters_fit", "body_fits", "check_program", "inputs_of", "MOST_INPUTS", "SPECIAL", "made_name", "made_parameters", "renamed_expression", "renamed", "joined", "with_main", "fill_function", "fill", "quoted", "listed", "filled_tree", "know_own", "ring"]
def names2 : List PySem.Str := ["EMPTY", "MOST_PARTS", "MOST_DEPTH", "Store", "PLAIN", "Run", "Machine", "started", "run_program", "LENGTHS", "is_instruction", "Names", "check_machine", "StackMachine", "run_machine", "part_path", "parts_of", "instructions_of", "routines_of", "to_machine", "tails", "TRANSLATOR", "translator", "with_texts", "ring_across", "_law_draws", "_law_take", "_law_value"]
def names : List PySem.Str := names1 ++ names2
abbrev hkQ : Hook := hookQ fa fn
def obQ (s : SharedT) : AlQ := obsQ fa fn (HandSHeadRun.getT s)
theorem obQ_eq (s : SharedT) : obQ s = hkQ.obs s.abs := obsQ_eq (HandSHeadRun.getT_eq s)
theorem runF (w : World) : HandSHeadRun.RunEq RowR qv hkQ obQ 20000 names (w.withFollow "special-get-raises" false) := fun os => by kernel_rfl
theorem runT (w : World) : HandSHeadRun.RunEq RowR qv hkQ obQ 20000 names (w.withFollow "special-get-raises" true) := fun os => by kernel_rfl
theorem run (w : World) : HandSHeadRun.RunEq RowR qv hkQ obQ 20000 names w := byRow2 "special-get-raises" (P := fun w => HandSHeadRun.RunEq RowR qv hkQ obQ 20000 names w) runF runT w
end G
set_option maxRecDepth 100000
set_option maxHeartbeats 4000000
/-! F1: the defs of programs.py. -/
namespace G
open PySem PySem.Spec PyProof.Rows L2
section
variable {P : Program} {w : World} {K : PySem.W.Frag} {mg : Str → Option Value} {base : Heap}
def sp_is_word (K : PySem.W.Frag) : Sp := fun vs H Q _ => ∃ v t, vs = [v] ∧ At K H t v ∧ Q (.bl t.isW) H
theorem sc_is_word : FnScope ["value"] ["value"] (defScope s_is_word) := ⟨rfl, rfl, rfl, by decide +kernel, rfl, by decide +kernel, by decide +kernel⟩
theorem f_is_word (T : Txt w K mg) : Clb P w K mg base "is_word" 1 ["value"] (sp_is_word K) := by
  refine T.d_is_word.clb sc_is_word (fun _ _ _ _ _ _ us hl => match us, hl with | [_], _ => rfl) (fun vs H Q E h => ?_) (fun f cdv A outer s H vs Q E hr h => ?_)
  · obtain ⟨v, t, rfl, _⟩ := h
    rfl
  · obtain ⟨v, t, rfl, h, q⟩ := h
    refine ⟨_, (pss_one (ps_ret (pe_callB call_isS (by rfl) T.n_isinstance PyProof.Rows.boot_isinstance (pa_cons (pv 0) (pa_cons (pe_bltn (v := .ty "str") rfl T.n_str PyProof.Rows.boot_str rfl) pa_nil))))), ?_⟩
    exact ⟨_, rfl, _, t, rfl, h, q⟩
def sp_has_head (K : PySem.W.Frag) : Sp := fun vs H Q _ => ∃ v, ∃ f : Fn, vs = [v] ∧ At K H f.t v ∧ Q (.bl true) H
theorem sc_has_head : FnScope ["function"] ["function"] (defScope s_has_head) := ⟨rfl, rfl, rfl, by decide +kernel, rfl, by decide +kernel, by decide +kernel⟩
theorem f_has_head (T : Txt w K mg) : Clb P w K mg base "has_head" 2 ["function"] (sp_has_head K) := by
  have F_is_word : Clb P w K mg base "is_word" 1 ["value"] (sp_is_word K) := f_is_word T
  refine T.d_has_head.clb sc_has_head (fun _ _ _ _ _ _ us hl => match us, hl with | [_], _ => rfl) (fun vs H Q E h => ?_) (fun f cdv A outer s H vs Q E hr h => ?_)
  · obtain ⟨v, t, rfl, _⟩ := h
    rfl
  · obtain ⟨v, fn, rfl, h, q⟩ := h
    refine ⟨_, (pss_one (ps_ret (pe_and (pe_not (pe_c F_is_word hr (pa_cons (pv 0) pa_nil))) (pe_and (pe_cmpR op_eq (pe_callB call_lenT (by rfl) T.n_len PySem.boot_len (pa_cons (pv 0) pa_nil)) pe_int (nomark _)) (pe_and (pe_c F_is_word hr (pa_cons (pe_ix ix_T (pv 0) pe_int (fun _ _ => rfl)) pa_nil)) (pe_one (pe_not (pe_c F_is_word hr (pa_cons (pe_ix ix_T (pv 0) pe_int (fun _ _ => rfl)) pa_nil))))))))), ?_⟩
    refine ⟨_, rfl, _, _, rfl, h, false, rfl, true, rfl, iteT ?_⟩
    refine ⟨_, rfl, _, _, rfl, h, rfl, true, rfl, iteT ?_⟩
    refine ⟨_, rfl, _, 0, _, h, rfl, rfl, fun v1 h1 => ⟨_, _, rfl, h1, true, rfl, iteT ?_⟩⟩
    exact ⟨_, rfl, _, 1, _, h, rfl, rfl, fun v2 h2 => ⟨_, _, rfl, h2, false, rfl, q⟩⟩
end
end G
set_option maxRecDepth 100000
set_option maxHeartbeats 4000000
/-! F1b: counts_of, name_fits, parameters_fit. -/
namespace G
open PySem PySem.Spec PyProof.Rows L2
/-! ### words and texts -/
theorem lit_f : ("f" : Str) = wF := by decide +kernel
theorem lit_0 : ("0" : Str) = wZero := by decide +kernel
theorem lit_e : ("" : Str) = wEmpty := by decide +kernel
theorem lit_fig : ("0123456789" : Str) = wFigures := by decide +kernel
theorem lit_quote : ("quote" : Str) = wQuote := by decide +kernel
theorem lit_if : ("if" : Str) = wIf := by decide +kernel
theorem dec_ss (a b : Str) : decide (V.str a = V.str b) = seq a b := by
  rw [seq_dec]
  by_cases h : a = b
  · simp [h]
  · simp [h]
theorem ba2 {a b : Bool} (h : (a && b) = true) : a = true ∧ b = true := Bool.and_eq_true_iff.mp h
theorem seq_beq (a b : Str) : (a == b) = seq a b := by
  rw [seq_dec]
  by_cases h : a = b
  · simp [h]
  · simp [h]
theorem inS_iff {s : Str} : ∀ {l : List Str}, inS s l = true ↔ s ∈ l
  | [] => by simp [inS]
  | x :: l => by
    have ih := inS_iff (s := s) (l := l)
    unfold inS at ih ⊢
    rw [List.any_cons, Bool.or_eq_true, seq_iff, ih, List.mem_cons]
    constructor
    · rintro (h | h)
      · exact .inl h.symm
      · exact .inr h
    · rintro (h | h)
      · exact .inl h.symm
      · exact .inr h
theorem inV_strs (s : Str) (l : List Str) : inV (.str s) (l.map V.str) = inS s l := by
  unfold inV inS
  induction l with
  | nil => rfl
  | cons x l ih =>
    rw [List.map_cons, List.any_cons, List.any_cons, ih]
    show ((x == s) || _) = _
    rw [seq_beq]
theorem flatV_strs (l : List Str) : (l.map V.str).all flatV = true := by
  rw [List.all_map]
  exact List.all_eq_true.mpr fun _ _ => rfl
/-! ### how many parts belong to a word -/
theorem lookN_app (s : Str) : ∀ a b : List (Str × Nat), lookN s (a ++ b) = (match lookN s a with | some n => some n | none => lookN s b)
  | [], b => rfl
  | (k, n) :: r, b => by
    show (match seq k s with | true => some n | false => lookN s (r ++ b)) = _
    rw [lookN_app s r b]
    show _ = (match (match seq k s with | true => some n | false => lookN s r) with | some n => some n | none => lookN s b)
    cases seq k s <;> rfl
def CntOk (kvs : List (Key × V)) (tab : List (Str × Nat)) : Prop := ∀ s : Str, valV kvs (Sum.inr s) = (lookN s tab).map fun (n : Nat) => V.int (n : Int)
theorem cnt_tab (tab : List (Str × Nat)) : CntOk (tabK (tab.map fun p => (p.1, (p.2 : Int)))) tab := by
  intro s
  induction tab with
  | nil => rfl
  | cons p r ih =>
    obtain ⟨k, n⟩ := p
    show valV ((Sum.inr k, V.int (n : Int)) :: tabK (r.map fun p => (p.1, (p.2 : Int)))) (Sum.inr s) = (match seq k s with | true => some n | false => lookN s r).map fun (n : Nat) => V.int (n : Int)
    unfold valV at ih ⊢
    rw [List.find?_cons]
    by_cases e : k = s
    · subst e
      rw [seq_self]
      simp
    · rw [seq_ne e, decide_eq_false (fun q => e (Sum.inr.inj q))]
      exact ih
theorem nodup_SPECIAL : NodupTab tab_SPECIAL_WORDS := by
  unfold NodupTab tab_SPECIAL_WORDS specials
  decide +kernel
section
variable {P : Program} {w : World} {K : PySem.W.Frag} {mg : Str → Option Value} {base : Heap}
/-! ### counts_of -/
def sp_counts_of (K : PySem.W.Frag) : Sp := fun vs H Q _ => ∃ v, ∃ fs : List Fn, vs = [v] ∧ At K H (progT fs) v ∧ fs.length ≤ 1000 ∧
  ∀ d H' kvs, Sm H H' → H d = none → H' d = some (.dK kvs) → CntOk kvs (specials ++ fs.map fun f => (f.name, f.ps.length)) → Q (.ref d) H'
theorem sc_counts_of : FnScope ["program", "counts", "function"] ["program"] (defScope s_counts_of) := ⟨rfl, rfl, rfl, by decide +kernel, rfl, by decide +kernel, by decide +kernel⟩
theorem aa_prog {H : Hp} {fs : List Fn} {vs : List V} {i : Nat} {v : V} (h : AtAll K H (fs.map Fn.t) vs) (e : vs[i]? = some v) : ∃ f, fs[i]? = some f ∧ At K H f.t v := by
  obtain ⟨t, h1, h2⟩ := aa_at h e
  rw [List.getElem?_map] at h1
  cases q : fs[i]? with
  | none =>
    rw [q] at h1
    cases h1
  | some f =>
    rw [q] at h1
    cases h1
    exact ⟨f, rfl, h2⟩
theorem f_counts_of (T : Txt w K mg) : Clb P w K mg base "counts_of" 3 ["program"] (sp_counts_of K) := by
  have F_has_head : Clb P w K mg base "has_head" 2 ["function"] (sp_has_head K) := f_has_head T
  refine T.d_counts_of.clb sc_counts_of (fun _ _ _ _ _ _ us hl => match us, hl with | [_], _ => rfl) (fun vs H Q E h => ?_) (fun f cdv A outer s H vs Q E hr h => ?_)
  · obtain ⟨v, t, rfl, _⟩ := h
    rfl
  · obtain ⟨v, fs, rfl, h, hz, q⟩ := h
    have hu := hu_of hr
    obtain ⟨dS, gS, tS⟩ := T.c_SPECIAL_WORDS
    refine ⟨_, (pss_cons (ps_set (i := 1) sc_counts_of.nd rfl (Or.inl rfl) (pe_callTy call_dictK (by rfl) T.n_dict (by decide +kernel) (pa_cons (pe_gr T.c_SPECIAL_WORDS) pa_nil)))
      (pss_cons (ps_for PassesOwn.never rfl (pi_tup (pv 0)) (pg_name (i := 2) sc_counts_of.nd rfl (Or.inl rfl)) (pss_one (ps_if (PW.pt (pw_and (pt_val (pe_c F_has_head hr (pa_cons (pv 2) pa_nil))) (pw_and1 (pt_cmp (pc_dnotin hu (pe_ix ix_T (pv 2) pe_int (fun _ _ => rfl)) (pv 1)))))) (pss_one (ps_dput hu (pv 1) (pe_ix ix_T (pv 2) pe_int (fun _ _ => rfl)) (pe_callB call_lenT (by rfl) T.n_len PySem.boot_len (pa_cons (pe_ix ix_T (pv 2) pe_int (fun _ _ => rfl)) pa_nil)) rfl)) pss_nil)))
      (pss_one (ps_ret (pv 1))))), ?_⟩
    intro a ha
    refine ⟨a, tab_SPECIAL_WORDS, rfl, ha, nodup_SPECIAL, by decide +kernel, fun d hd => ?_⟩
    obtain ⟨p, xs, rfl, hX, hA⟩ := id h
    have k0 : Sm H (upd H d (.dK (tabK tab_SPECIAL_WORDS))) := Kp.new hd
    refine ⟨_, rfl, p, rfl, ⟨xs, (k0.xt hX).sq⟩, for_tup (K := K) (a := p) (xs := xs) (fun i σ H' => ∃ v3 kvs, σ = [some (.ref p), some (.ref d), v3] ∧ Sm H H' ∧ H' d = some (.dK kvs) ∧ kvs.length ≤ 7 + i ∧ CntOk kvs (specials ++ (fs.take i).map fun f => (f.name, f.ps.length)))
      ⟨none, _, rfl, k0, upd_same, by decide +kernel, by rw [List.take_zero, List.map_nil, List.append_nil]; exact cnt_tab specials⟩ (fun i σ H' _ ⟨_, _, _, k1, _⟩ => (k1.xt hX).sq) ?_ ?_⟩
    · rintro i x σ H' hi ⟨v3, kvs, rfl, k1, hD, hl, hC⟩
      obtain ⟨f, hf, hAt⟩ := aa_prog hA hi
      have hif : i < 1000 := by
        have := (List.getElem?_eq_some_iff.mp hf).1
        omega
      have hAt' := k1.at_ hAt
      have etake : fs.take (i + 1) = fs.take i ++ [f] := by
        rw [List.take_add_one, hf]
        rfl
      refine ⟨_, rfl, x, f, rfl, hAt', true, rfl, iteT ?_⟩
      refine ⟨_, rfl, _, 0, _, hAt', rfl, rfl, fun v1 h1 => ?_⟩
      obtain rfl := at_w h1
      refine ⟨_, rfl, d, _, rfl, DGet.k (k := Sum.inr f.name) hD, _, rfl, ?_⟩
      have hCf := hC f.name
      have ext : ∀ kvs', CntOk kvs' (specials ++ (fs.take i).map fun f => (f.name, f.ps.length)) → (lookN f.name (specials ++ (fs.take i).map fun f => (f.name, f.ps.length))).isSome = true → CntOk kvs' (specials ++ (fs.take (i + 1)).map fun f => (f.name, f.ps.length)) := fun kvs' h0 h1 s => by
        rw [etake, List.map_append, ← List.append_assoc, lookN_app, h0 s]
        by_cases e : f.name = s
        · subst e
          cases q : lookN f.name (specials ++ (fs.take i).map fun f => (f.name, f.ps.length)) with
          | none =>
            rw [q] at h1
            cases h1
          | some n => rfl
        · cases lookN s (specials ++ (fs.take i).map fun f => (f.name, f.ps.length)) with
          | some n => rfl
          | none =>
            show _ = Option.map _ (match seq f.name s with | true => some f.ps.length | false => none)
            rw [seq_ne e]
      cases hs : lookN f.name (specials ++ (fs.take i).map fun f => (f.name, f.ps.length)) with
      | some n =>
        rw [hs] at hCf
        rw [hCf]
        exact iteF ⟨_, kvs, rfl, k1, hD, by omega, ext kvs hC (by rw [hs]; rfl)⟩
      | none =>
        rw [hs] at hCf
        have hCf2 : valV kvs (Sum.inr f.name) = none := hCf
        rw [hCf2]
        refine iteT ?_
        refine ⟨_, rfl, _, 1, _, hAt', rfl, rfl, fun v2 h2 => ?_⟩
        refine ⟨_, _, rfl, h2, ?_⟩
        refine ⟨_, rfl, _, rfl, _, 0, _, hAt', rfl, rfl, fun v1 h1 => ?_⟩
        obtain rfl := at_w h1
        refine ⟨d, _, rfl, DPut.k (k := Sum.inr f.name) hD (by rw [sizeLine_eq]; omega), ?_⟩
        refine ⟨_, _, rfl, fun b o e hb => ?_, upd_same, Nat.le_trans (length_putK _ _ _) (by omega), fun s => ?_⟩
        · by_cases hbd : b = d
          · subst hbd
            rw [hd] at e
            cases e
          · rw [upd_ne hbd]
            exact k1 b o e hb
        · rw [valV_put, etake, List.map_append, ← List.append_assoc, lookN_app]
          by_cases e : f.name = s
          · subst e
            rw [hs, if_pos rfl]
            show some (V.int _) = Option.map _ (match seq f.name f.name with | true => some f.ps.length | false => none)
            rw [seq_self]
            simp
          · rw [if_neg (fun q => e (Sum.inr.inj q).symm), hC s]
            cases lookN s (specials ++ (fs.take i).map fun f => (f.name, f.ps.length)) with
            | some n => rfl
            | none =>
              show _ = Option.map _ (match seq f.name s with | true => some f.ps.length | false => none)
              rw [seq_ne e]
    · rintro σ H' ⟨v3, kvs, rfl, k1, hD, hl, hC⟩
      refine ⟨_, rfl, q d H' kvs k1 hd hD ?_⟩
      have hlen : xs.length = fs.length := by
        rw [aa_len hA, List.length_map]
      rw [hlen, List.take_length] at hC
      exact hC
end
end G
set_option maxRecDepth 100000
set_option maxHeartbeats 4000000
/-! F1c: name_fits, parameters_fit, body_fits. -/
namespace G
open PySem PySem.Spec PyProof.Rows L2
theorem atI_cps {s : Str} {i c : Nat} (h : s.cps.toList[i]? = some c) : atI s.cps.toList (i : Int) = some c := atI_nat h
theorem sign_some {s : Str} {i : Nat} (h : i < s.length) : ∃ c, s.cps.toList[i]? = some c ∧ signAt s i = kw [c] := by
  have h2 : i < s.cps.toList.length := by
    rw [Array.length_toList]
    exact h
  refine ⟨s.cps.toList[i], List.getElem?_eq_getElem h2, ?_⟩
  unfold signAt
  rw [List.getElem?_eq_getElem h2]
theorem kw_one (c : Nat) : (⟨#[c]⟩ : Str) = kw [c] := rfl
theorem cutS_le (s : Str) : (cutS s (some 1) none).length ≤ s.length := by
  unfold cutS
  show (List.toArray _).size ≤ _
  rw [List.size_toArray, List.length_take, List.length_drop]
  have : s.cps.toList.length = s.length := Array.length_toList
  omega
theorem not_not_eq {b : Bool} : (!b) = true ↔ b = false := by cases b <;> simp
section
variable {P : Program} {w : World} {K : PySem.W.Frag} {mg : Str → Option Value} {base : Heap}
/-- name_fits, where it says True -/
def sp_name_fits (K : PySem.W.Frag) : Sp := fun vs H Q _ => ∃ (s : Str) (d : Addr) (kvs : List (Key × V)) (many : Nat), vs = [.str s, .ref d, .int (many : Int)] ∧ H d = some (.dK kvs) ∧ valV kvs (Sum.inr s) = none ∧ lookN s specials = none ∧ nameOk s many = true ∧ Q (.bl true) H
theorem sc_name_fits : FnScope ["name", "names", "many", "figures"] ["name", "names", "many"] (defScope s_name_fits) := ⟨rfl, rfl, rfl, by decide +kernel, rfl, by decide +kernel, by decide +kernel⟩
theorem f_name_fits (T : Txt w K mg) : Clb P w K mg base "name_fits" 1 ["name", "names", "many"] (sp_name_fits K) := by
  refine T.d_name_fits.clb sc_name_fits (fun _ _ _ _ _ _ us hl => match us, hl with | [_, _, _], _ => rfl) (fun vs H Q E h => ?_) (fun f cdv A outer s H vs Q E hr h => ?_)
  · obtain ⟨_, _, _, _, rfl, _⟩ := h
    rfl
  · obtain ⟨z, d, kvs, many, rfl, hD, hN, hS, hO, q⟩ := h
    have hu := hu_of hr
    refine ⟨_, (pss_cons (ps_if (PW.pt (pw_or (pt_cmpR op_inK (pv 0) (pe_gr T.c_SPECIAL_WORDS) (by rfl)) (pw_or1 (pt_cmp (pc_din hu (pv 0) (pv 1)))))) (pss_one (ps_ret pe_bl)) pss_nil)
      (pss_cons (ps_set (i := 3) sc_name_fits.nd rfl (Or.inl rfl) (pe_slice sl_str (pv 0) (po_some pe_int) po_none))
      (pss_cons (ps_if (PW.pt (pw_or (pt_cmpR op_ne (pe_ix ix_str (pv 0) pe_int (fun _ _ => rfl)) pe_str (nomark _)) (pw_or (pt_cmpR op_eq (pv 3) pe_str (nomark _)) (pw_or1 (pt_cmpR op_ne (pe_bm PySem.F.plainAttrs_str PySem.F.slot_str_strip PySem.F.type_str_strip mt_stripChars (pv 3) (pa_cons (pe_gs T.c_FIGURES) pa_nil)) pe_str (nomark _)))))) (pss_one (ps_ret pe_bl)) pss_nil)
      (pss_one (ps_ret (pe_and (pe_or (pe_cmpR op_eq (pv 3) pe_str (nomark _)) (pe_one (pe_cmpR op_ne (pe_ix ix_str (pv 3) pe_int (fun _ _ => rfl)) pe_str (nomark _)))) (pe_one (pe_cmpR op_lt (pe_callTy call_int_str (by rfl) T.n_int (by decide +kernel) (pa_cons (pv 3) pa_nil)) (pv 2) (nomark _))))))))), ?_⟩
    -- the facts of nameOk
    have hO1 := hO
    unfold nameOk at hO1
    obtain ⟨l1, hO2⟩ := ba2 hO1
    obtain ⟨l2, hO3⟩ := ba2 hO2
    have l1 := Nat.le_of_ble_eq_true l1
    have l2 := Nat.le_of_ble_eq_true l2
    have hlen : z.length ≤ sizeLine := by
      rw [sizeLine_eq]
      omega
    have hfl : (cutS z (some 1) none).length ≤ 12 := Nat.le_trans (cutS_le z) l2
    generalize hfig : cutS z (some 1) none = fig at hO3 hfl
    refine ⟨_, rfl, fun a ha => ⟨a, tab_SPECIAL_WORDS, z, rfl, rfl, ha, nodup_SPECIAL, ?_⟩⟩
    have e1 : valV (tabK tab_SPECIAL_WORDS) (Sum.inr z) = none := by
      have c := cnt_tab specials z
      rw [hS] at c
      exact c
    refine ⟨_, rfl, ?_⟩
    rw [e1]
    refine iteF ?_
    refine ⟨_, rfl, _, rfl, d, _, rfl, DGet.k (k := Sum.inr z) hD, _, rfl, ?_⟩
    rw [hN]
    refine iteF ?_
    refine ⟨_, rfl, _, rfl, z, rfl, hlen, ?_⟩
    rw [hfig]
    obtain ⟨c0, g0, s0⟩ := sign_some (s := z) (i := 0) (by omega)
    refine ⟨_, rfl, z, _, c0, rfl, rfl, hlen, atI_cps (i := 0) g0, rfl, _, rfl, ?_⟩
    rw [dec_ss, lit_f, kw_one, ← s0]
    rw [s0] at hO3
    rw [s0]
    cases c1 : seq (kw [c0]) wF with
    | false => exact iteT (iteT q)
    | true =>
      rw [c1] at hO3
      refine iteF ?_
      refine ⟨_, rfl, rfl, _, rfl, ?_⟩
      rw [dec_ss, lit_e]
      cases c2 : seq fig wEmpty with
      | true => exact iteT (iteT q)
      | false =>
        rw [c2] at hO3
        refine iteF ?_
        refine ⟨_, rfl, rfl, fig, wFigures, rfl, by rw [← lit_fig], by rw [sizeLine_eq]; omega, rfl, _, rfl, ?_⟩
        rw [dec_ss]
        cases c3 : seq (Txt.stripChars fig wFigures) wEmpty with
        | false => exact iteT q
        | true =>
          rw [c3] at hO3
          refine iteF ?_
          obtain ⟨h1, h2⟩ := ba2 (show ((seq fig wZero || !(seq (signAt fig 0) wZero)) && (Nat.ble 1 fig.length && match intText? fig with | some n => decide (n < (many : Int)) | none => false)) = true from hO3)
          obtain ⟨h3, h4⟩ := ba2 h2
          have l3 := Nat.le_of_ble_eq_true h3
          have fin : tOp (rI0 fun i j => .bl (decide (i < j))) (tCB (fun xs H Q => ∃ a n, xs = [.str a] ∧ PySem.intText? a = some n ∧ a.length ≤ 640 ∧ Q (.int n) H) (tCons (tVar 3) tNil)) (tVar 2) [some (.str z), some (.ref d), some (.int (many : Int)), some (.str fig)] H Q := by
            cases c4 : intText? fig with
            | none =>
              rw [c4] at h4
              cases h4
            | some n =>
              rw [c4] at h4
              refine ⟨_, rfl, fig, n, rfl, c4, by omega, _, rfl, _, _, rfl, rfl, ?_⟩
              have h5 : decide (n < (many : Int)) = true := h4
              show Q (V.bl (decide (n < (many : Int)))) H
              rw [h5]
              exact q
          refine ⟨_, rfl, rfl, _, rfl, ?_⟩
          rw [dec_ss, lit_0]
          cases c5 : seq fig wZero with
          | true =>
            show ∃ c, V.bl true = V.bl c ∧ if c = true then _ else _
            exact ⟨true, rfl, iteT fin⟩
          | false =>
            rw [c5] at h1
            obtain ⟨c6, g6, s6⟩ := sign_some (s := fig) (i := 0) (by omega)
            refine ⟨_, rfl, fig, _, c6, rfl, rfl, by rw [sizeLine_eq]; omega, atI_cps (i := 0) g6, rfl, ?_⟩
            rw [dec_ss, kw_one, ← s6]
            have h7 : (!(seq (signAt fig 0) wZero)) = true := h1
            rw [h7]
            exact ⟨true, rfl, iteT fin⟩
end
end G
set_option maxRecDepth 100000
set_option maxHeartbeats 4000000
/-! F1d: parameters_fit, body_fits, check_program, inputs_of. -/
namespace G
open PySem PySem.Spec PyProof.Rows L2
theorem Kp.set {F : List Addr} {H H' : Hp} {p : Addr} {o : HO} (k : Kp F H H') (hp : H p = none) : Kp F H (L2.upd H' p o) := fun b u e q => by
  by_cases hb : b = p
  · subst hb
    rw [hp] at e
    cases e
  · rw [upd_ne hb]
    exact k b u e q
theorem Kp.none {H H' : Hp} {p : Addr} (k : Sm H H') (h : H' p = none) : H p = none := k.free (by simp) h
theorem Kp.own {H : Hp} {p : Addr} {xs : List V} {o : HO} (h : H p = some (.lst xs)) : Kp [p] H (L2.upd H p o) := Kp.lst (List.mem_singleton.mpr rfl) h
theorem Kp.ownD {H : Hp} {p : Addr} {xs : List (Key × V)} {o : HO} (h : H p = some (.dK xs)) : Kp [p] H (L2.upd H p o) := Kp.dic (List.mem_singleton.mpr rfl) h
theorem extendTup (l : Addr) (items : Array Value) (n : Nat) (b : Addr) (items2 : Array Value) (n2 : Nat) (dd : Option Addr) (sl : Array (Option Value))
    (hs0 : ¬(!items.isEmpty && Builtin.List.listTooLong (items.size + items2.size)) = true) (hs1 : items.size ≤ sizeLine) (hs2 : items.size + items2.size ≤ sizeLine + 1) :
    Meets (Builtin.«list.extend» ⟨[.ref l, .ref b], []⟩) (fun _ R s => s.heap.get? l = some { cls := .type "list", dict := none, data := .seq items n, slots := #[] } ∧ s.heap.get? b = some { cls := .type "tuple", dict := dd, data := .seq items2 n2, slots := sl } ∧
      R (.ok (.ret Value.none)) { s with heap := s.heap.update l (Obj.mapSeq fun x => x ++ items2), toks := s.toks }) :=
  .of_wp fun prog w A R s h => by
    obtain ⟨hp, g, d, tk, os⟩ := s
    obtain ⟨hl, hb, h⟩ := h
    have f1 := AutoSeq1.idx_int
    have f2 := AutoSeq1.sub_tuple_tuple
    have f3 := AutoSeq1.sub_list_list
    have f4 := AutoSeq1.sub_tuple_list
    have hz' : (items ++ items2).size ≤ sizeLine + 1 := by rw [Array.size_append]; exact hs2
    wp_walk using (wpAny_updateSeq hl rfl (hz := hs1) (_hz' := hz')), AutoSeq1.wpAny_loadPart' hl, AutoSeq1.wpAny_loadPart' hb
    exact ⟨_, rfl, h⟩
section
variable {X : Cx}
/-- list.extend of a tuple -/
def rExtendT (K : PySem.W.Frag) : V → List V → Hp → VK → Prop := fun x vs H Q => ∃ l b xs zs, x = .ref l ∧ vs = [.ref b] ∧ H l = some (.lst xs) ∧ XT K H b zs ∧ xs.length + zs.length ≤ sizeLine ∧ Q .non (upd H l (.lst (xs ++ zs)))
theorem mt_extendT : MtM X "list.extend" (rExtendT X.K) := by
  intro pins s σ H x vs v us Q I rx rv h
  obtain ⟨l, b, xs, zs, rfl, rfl, hH, hB, hz, q⟩ := h
  cases rx
  obtain ⟨u, rfl, ru⟩ := rv.one
  cases ru
  obtain ⟨z, its, n, r, hl, e⟩ := I.lstM hH
  obtain ⟨its2, r2, ⟨⟨c2, dd, da, sl⟩, n2, e2, hc2, hd2, _⟩, hl2⟩ := hB.tup I
  simp only at hc2 hd2
  subst hc2 hd2
  have hl3 : its2.length = zs.length := r2.length.symm
  have hl4 : its.length = xs.length := by omega
  have hsz : its.toArray.size + its2.toArray.size ≤ sizeLine := by rw [List.size_toArray, List.size_toArray]; omega
  have hlong : ¬ (!its.toArray.isEmpty && Builtin.List.listTooLong (its.toArray.size + its2.toArray.size)) = true := by
    rw [notLongL hsz, Bool.and_false]
    exact Bool.false_ne_true
  refine call_meets F.slot_list_extend ⟨_, e, rfl⟩ F.entry_list_extend (F.args_list_extend_2 _ _)
    (extendTup l its.toArray n b its2.toArray n2 dd sl hlong (by rw [List.size_toArray]; omega) (by omega)) ⟨e, e2, ?_⟩
  refine ⟨.non, _, I.lset (its' := its ++ its2) hH e (by simp) (r.append r2) ?_, rfl, q⟩
  rw [List.length_append]
  omega
end
section
variable {P : Program} {w : World} {K : PySem.W.Frag} {mg : Str → Option Value} {base : Heap}
def sp_parameters_fit (K : PySem.W.Frag) : Sp := fun vs H Q _ => ∃ v, ∃ ps : List Str, vs = [v] ∧ At K H (.l (ps.map .w)) v ∧ ps.length ≤ 12 ∧ (∀ p ∈ ps, lookN p specials = none) ∧ nodupS ps = true ∧ ∀ H', Sm H H' → Q (.bl true) H'
theorem sc_parameters_fit : FnScope ["parameters", "at", "parameter"] ["parameters"] (defScope s_parameters_fit) := ⟨rfl, rfl, rfl, by decide +kernel, rfl, by decide +kernel, by decide +kernel⟩
theorem nodup_take : ∀ {ps : List Str} {i : Nat} {s : Str}, nodupS ps = true → ps[i]? = some s → inS s (ps.take i) = false
  | [], i, s, _, h => by cases h
  | x :: r, 0, s, _, _ => rfl
  | x :: r, i + 1, s, hn, h => by
    obtain ⟨h1, h2⟩ := ba2 (show (!(inS x r) && nodupS r) = true from hn)
    have h3 : r[i]? = some s := h
    show (seq x s || inS s (r.take i)) = false
    rw [nodup_take h2 h3, Bool.or_false]
    cases e : seq x s with
    | false => rfl
    | true =>
      have e2 := seq_iff.mp e
      subst e2
      have : inS x r = true := inS_iff.mpr (List.mem_of_getElem? h3)
      rw [this] at h1
      cases h1
theorem f_parameters_fit (T : Txt w K mg) : Clb P w K mg base "parameters_fit" 2 ["parameters"] (sp_parameters_fit K) := by
  have F_is_word : Clb P w K mg base "is_word" 1 ["value"] (sp_is_word K) := f_is_word T
  refine T.d_parameters_fit.clb sc_parameters_fit (fun _ _ _ _ _ _ us hl => match us, hl with | [_], _ => rfl) (fun vs H Q E h => ?_) (fun f cdv A outer s H vs Q E hr h => ?_)
  · obtain ⟨v, t, rfl, _⟩ := h
    rfl
  · obtain ⟨v, ps, rfl, h, h12, hsp, hnd, q⟩ := h
    refine ⟨_, (pss_cons (ps_if (pt_cmpR op_gt (pe_callB call_lenT (by rfl) T.n_len PySem.boot_len (pa_cons (pv 0) pa_nil)) (pe_gi T.c_MOST_PARAMETERS) (nomark _)) (pss_one (ps_ret pe_bl)) pss_nil)
      (pss_cons (ps_for PassesOwn.never rfl (pi_enumT (by rfl) T.n_enumerate (pa_cons (pv 0) pa_nil)) (pg_tup rfl (pgs_cons (pg_name (i := 1) sc_parameters_fit.nd rfl (Or.inl rfl)) (pgs_cons (pg_name (i := 2) sc_parameters_fit.nd rfl (Or.inl rfl)) pgs_nil))) (pss_one (ps_if (PW.pt (pw_or (pt_not (pt_val (pe_c F_is_word hr (pa_cons (pv 2) pa_nil)))) (pw_or (pt_cmpR op_inK (pv 2) (pe_gr T.c_SPECIAL_WORDS) (by rfl)) (pw_or1 (pt_cmpR op_in_seq (pv 2) (pe_slice sl_T (pv 0) po_none (po_some (pv 1))) (by rfl)))))) (pss_one (ps_ret pe_bl)) pss_nil)))
      (pss_one (ps_ret pe_bl)))), ?_⟩
    obtain ⟨a, xs, rfl, hX, hA⟩ := id h
    obtain rfl := aa_words hA
    refine ⟨_, rfl, _, _, rfl, h, _, _, rfl, rfl, _, rfl, ?_⟩
    have e12 : decide ((((ps.map G.T.w).length : Nat) : Int) > 12) = false := decide_eq_false (by rw [List.length_map]; omega)
    rw [e12]
    refine iteF ?_
    refine ⟨_, rfl, a, _, rfl, hX.sq, for_it walk_enumT (fun i σ H' => ∃ v1 v2, σ = [some (.ref a), v1, v2] ∧ Sm H H') ⟨none, none, rfl, Kp.refl⟩ (fun i σ H' _ ⟨_, _, _, k⟩ => (k.xt hX).sq) ?_ ?_⟩
    · rintro i x σ H1 H2 hi ⟨v1, v2, rfl, k⟩ ⟨p, x1, x2, rfl, hp, rfl, e1, e2⟩
      cases e1
      have e2 : (ps.map V.str)[i]? = some x2 := e2
      rw [List.getElem?_map] at e2
      obtain ⟨s, hs, rfl⟩ : ∃ s, ps[i]? = some s ∧ x2 = .str s := by
        cases q : ps[i]? with
        | none =>
          rw [q] at e2
          cases e2
        | some s =>
          rw [q] at e2
          cases e2
          exact ⟨s, rfl, rfl⟩
      have k2 : Sm H (upd H1 p (.tup [.int (i : Nat), .str s])) := k.set (k.none hp)
      refine ⟨p, _, rfl, st_tup upd_same, rfl, _, _, rfl, _, _, rfl, rfl, ?_⟩
      refine ⟨_, rfl, _, .w s, rfl, at_wi, true, rfl, ?_⟩
      refine iteF ⟨_, rfl, fun a1 ha1 => ⟨a1, tab_SPECIAL_WORDS, s, rfl, rfl, ha1, nodup_SPECIAL, ?_⟩⟩
      have c := cnt_tab specials s
      rw [hsp s (List.mem_of_getElem? hs)] at c
      have c2 : valV (tabK tab_SPECIAL_WORDS) (Sum.inr s) = none := c
      refine ⟨_, rfl, ?_⟩
      rw [c2]
      refine iteF ?_
      have hil : i < ps.length := (List.getElem?_eq_some_iff.mp hs).1
      refine ⟨_, rfl, _, rfl, _, rfl, _, rfl, ps.map .w, k2.at_ h, .inr ⟨i, rfl, rfl, by rw [List.length_map]; exact hil, fun p3 H3 k3 h3 => ?_⟩⟩
      rw [← List.map_take] at h3
      obtain ⟨a3, xs3, e3, hX3, hA3⟩ := id h3
      cases e3
      obtain rfl := aa_words hA3
      refine ⟨p3, _, rfl, .inr hX3.sq, rfl, flatV_strs _, _, rfl, ?_⟩
      have e4 : inV (.str s) ((ps.take i).map V.str) = false := by
        rw [inV_strs]
        exact nodup_take hnd hs
      rw [e4]
      exact iteF ⟨_, _, rfl, k2.trans k3⟩
    · rintro σ H' ⟨v1, v2, rfl, k⟩
      exact q H' k
/-! ### body_fits -/
theorem aa_snoc {K : PySem.W.Frag} {H : Hp} {ts : List T} {t : T} {vs : List V} (h : AtAll K H (ts ++ [t]) vs) : ∃ vs0 v, vs = vs0 ++ [v] ∧ AtAll K H ts vs0 ∧ At K H t v := by
  have hl := aa_len h
  rw [List.length_append, List.length_singleton] at hl
  obtain ⟨vs0, v, rfl⟩ : ∃ vs0 v, vs = vs0 ++ [v] := by
    rcases List.eq_nil_or_concat vs with e | ⟨l, x, e⟩
    · rw [e] at hl
      cases hl
    · exact ⟨l, x, by rw [e, List.concat_eq_append]⟩
  have hl0 : vs0.length = ts.length := by
    rw [List.length_append, List.length_singleton] at hl
    omega
  have h1 := aa_take ts.length h
  have h2 := aa_drop ts.length h
  rw [List.take_left' rfl, List.take_left' hl0] at h1
  rw [List.drop_left' rfl, List.drop_left' hl0] at h2
  obtain ⟨x, r, e, h3, _⟩ := h2
  cases e
  exact ⟨vs0, v, rfl, h1, h3⟩
theorem tyL {K : PySem.W.Frag} {H : Hp} {p : Addr} {xs : List V} (h : H p = some (.lst xs)) : tyV K "list" (.ref p) H := .inl ⟨rfl, xs, sq_lst h⟩
theorem last_at (l : List V) (v : V) : (l ++ [v])[(l ++ [v]).length - 1]? = some v := by simp
theorem dl_at (l : List V) (v : V) : (l ++ [v]).dropLast = l := by simp
theorem Xp.sizes_app : ∀ a b : List Xp, Xp.sizes (a ++ b) = Xp.sizes a + Xp.sizes b
  | [], b => by simp [Xp.sizes]
  | x :: a, b => by
    show x.size + Xp.sizes (a ++ b) = x.size + Xp.sizes a + Xp.sizes b
    rw [Xp.sizes_app a b]
    omega
theorem Xp.len_sizes : ∀ a : List Xp, a.length ≤ Xp.sizes a
  | [] => Nat.zero_le _
  | x :: a => by
    have := Xp.len_sizes a
    have := x.size_pos
    show a.length + 1 ≤ x.size + Xp.sizes a
    omega
theorem fitsL_all {ar : Str → Option Nat} {ps : List Str} : ∀ {as : List Xp}, fitsL ar ps as = true → ∀ a ∈ as, fits ar ps a = true
  | [], _, a, h => by cases h
  | x :: as, h, a, m => by
    obtain ⟨h1, h2⟩ := ba2 (show (fits ar ps x && fitsL ar ps as) = true from h)
    rcases List.mem_cons.mp m with e | m
    · rw [e]
      exact h1
    · exact fitsL_all h2 a m
def sp_body_fits (K : PySem.W.Frag) : Sp := fun vs H Q _ => ∃ b p d, ∃ e : Xp, ∃ (ps : List Str) (tab : List (Str × Nat)) (kvs : List (Key × V)), vs = [b, p, .ref d] ∧ At K H e.t b ∧ At K H (.l (ps.map .w)) p ∧ H d = some (.dK kvs) ∧
  CntOk kvs (specials ++ tab) ∧ e.size ≤ 100000 ∧ fits (fun s => lookN s (specials ++ tab)) ps e = true ∧ ∀ H', Sm H H' → Q (.bl true) H'
theorem sc_body_fits : FnScope ["body", "parameters", "counts", "waiting", "expression"] ["body", "parameters", "counts"] (defScope s_body_fits) := ⟨rfl, rfl, rfl, by decide +kernel, rfl, by decide +kernel, by decide +kernel⟩
theorem f_body_fits (T : Txt w K mg) : Clb P w K mg base "body_fits" 2 ["body", "parameters", "counts"] (sp_body_fits K) := by
  have F_is_word : Clb P w K mg base "is_word" 1 ["value"] (sp_is_word K) := f_is_word T
  refine T.d_body_fits.clb sc_body_fits (fun _ _ _ _ _ _ us hl => match us, hl with | [_, _, _], _ => rfl) (fun vs H Q E h => ?_) (fun f cdv A outer s H vs Q E hr h => ?_)
  · obtain ⟨_, _, _, _, _, _, _, rfl, _⟩ := h
    rfl
  · obtain ⟨b, p, d, e, ps, tab, kvs, rfl, hB, hP, hD, hC, hz, hf, q⟩ := h
    have hu := hu_of hr
    refine ⟨_, (pss_cons (ps_set (i := 3) sc_body_fits.nd rfl (Or.inl rfl) (pe_lst (pa_cons (pv 0) pa_nil)))
      (pss_cons (ps_while PassesOwn.never (pt_cmpR op_gt (pe_callB call_len_seq (by rfl) T.n_len PySem.boot_len (pa_cons (pv 3) pa_nil)) pe_int (nomark _)) (pss_cons (ps_set (i := 4) sc_body_fits.nd rfl (Or.inl rfl) (pe_bm0 PySem.F.plainAttrs_list PySem.F.slot_list_pop PySem.F.type_list_pop mt_pop (pv 3)))
      (pss_one (ps_if (pt_val (pe_c F_is_word hr (pa_cons (pv 4) pa_nil))) (pss_one (ps_if (pt_cmpR op_notIn_seq (pv 4) (pv 1) (by rfl)) (pss_one (ps_ret pe_bl)) pss_nil)) (pss_one (ps_if (PW.pt (pw_or (pt_cmpR op_eq (pe_callB call_lenT (by rfl) T.n_len PySem.boot_len (pa_cons (pv 4) pa_nil)) pe_int (nomark _)) (pw_or1 (pt_not (pt_val (pe_c F_is_word hr (pa_cons (pe_ix ix_T (pv 4) pe_int (fun _ _ => rfl)) pa_nil))))))) (pss_one (ps_ret pe_bl)) (pss_one (ps_if (pt_cmpR op_ne (pe_dget1 hu (pv 2) (pe_ix ix_T (pv 4) pe_int (fun _ _ => rfl)) ⟨rfl, rfl, rfl, rfl⟩) (pe_op op_sub (pe_callB call_lenT (by rfl) T.n_len PySem.boot_len (pa_cons (pv 4) pa_nil)) pe_int) (nomark _)) (pss_one (ps_ret pe_bl)) (pss_one (ps_if (pt_cmpR op_ne (pe_ix ix_T (pv 4) pe_int (fun _ _ => rfl)) pe_str (nomark _)) (pss_one (ps_expr (pe_bm PySem.F.plainAttrs_list PySem.F.slot_list_extend PySem.F.type_list_extend mt_extendT (pv 3) (pa_cons (pe_slice sl_T (pv 4) (po_some pe_int) po_none) pa_nil)))) pss_nil))))))))))
      (pss_one (ps_ret pe_bl)))), ?_⟩
    refine ⟨_, rfl, (show 1 ≤ sizeLine by decide), fun wq hwq => ?_⟩
    have k0 : Sm H (upd H wq (.lst [b])) := Kp.new hwq
    refine ⟨fun m σ H' => ∃ v4, ∃ es : List Xp, ∃ us, σ = [some b, some p, some (.ref d), some (.ref wq), v4] ∧ Sm H H' ∧ H' wq = some (.lst us) ∧ AtAll K H' (es.map Xp.t) us ∧ (∀ x ∈ es, fits (fun s => lookN s (specials ++ tab)) ps x = true) ∧ m = Xp.sizes es ∧ m ≤ 100000,
      ⟨_, none, [e], [b], rfl, k0, upd_same, aa_cons (k0.at_ hB) aa_nil, fun x hx => by rw [List.mem_singleton.mp hx]; exact hf, rfl, by show e.size + 0 ≤ 100000; omega⟩, ?_⟩
    rintro m σ H1 ⟨v4, es, us, rfl, k1, hW, hA, hF, rfl, hm⟩
    have hlu : us.length = es.length := by
      rw [aa_len hA, List.length_map]
    refine ⟨_, rfl, wq, us, rfl, .inl (sq_lst hW), _, _, rfl, rfl, _, rfl, ?_⟩
    rcases List.eq_nil_or_concat es with e0 | ⟨es0, x, e0⟩
    · subst e0
      have hu0 : us.length = 0 := by rw [hlu]; rfl
      rw [hu0]
      exact iteF (q H1 k1)
    · have e1 : es = es0 ++ [x] := by rw [e0, List.concat_eq_append]
      subst e1
      rw [List.map_append] at hA
      obtain ⟨us0, v, rfl, hA0, hv⟩ := aa_snoc hA
      have hpos : decide ((((us0 ++ [v]).length : Nat) : Int) > 0) = true := decide_eq_true (by rw [List.length_append, List.length_singleton]; omega)
      have hsz : Xp.sizes (es0 ++ [x]) = Xp.sizes es0 + x.size := by
        rw [Xp.sizes_app]
        show _ + (x.size + 0) = _
        omega
      have hx := hF x (List.mem_append_right _ (List.mem_singleton.mpr rfl))
      have hF0 : ∀ y ∈ es0, fits (fun s => lookN s (specials ++ tab)) ps y = true := fun y hy => hF y (List.mem_append_left _ hy)
      rw [hpos]
      refine iteT ⟨_, fun σ' H' h => h, ?_⟩
      refine ⟨_, rfl, tyL hW, wq, _, v, rfl, rfl, hW, last_at _ _, ?_⟩
      rw [dl_at]
      have k2 : Sm H (upd H1 wq (.lst us0)) := k1.set hwq
      have k3 : Kp [wq] H1 (upd H1 wq (.lst us0)) := Kp.own hW
      have hv2 := k3.at_ hv
      have hA2 := k3.aa hA0
      have hW2 : upd H1 wq (.lst us0) wq = some (.lst us0) := upd_same
      generalize upd H1 wq (.lst us0) = H2 at k2 hv2 hA2 hW2
      refine ⟨_, rfl, v, x.t, rfl, hv2, ?_⟩
      have hx2 : (∃ s, x = .v s) ∨ ∃ g ts, ∃ as : List Xp, x.t = .l (.w g :: ts) ∧ lookN g (specials ++ tab) = some ts.length ∧ (seq g wQuote = true → as = []) ∧ (seq g wQuote = false → ts = as.map Xp.t) ∧ Xp.sizes as + 1 ≤ x.size ∧ ∀ a ∈ as, fits (fun s => lookN s (specials ++ tab)) ps a = true := by
        cases x with
        | v s => exact .inl ⟨s, rfl⟩
        | q t => exact .inr ⟨wQuote, [t], [], rfl, rfl, fun _ => rfl, (fun z => by rw [seq_self] at z; cases z), Nat.le_refl 1, fun a h => by cases h⟩
        | n g as =>
          obtain ⟨h12, h3⟩ := ba2 (show ((!(seq g wQuote) && (lookN g (specials ++ tab) == some as.length)) && fitsL (fun s => lookN s (specials ++ tab)) ps as) = true from hx)
          obtain ⟨h1, h2⟩ := ba2 h12
          refine .inr ⟨g, Xp.ts as, as, rfl, ?_, fun z => (by rw [z] at h1; cases h1), fun _ => Xp.ts_map as, ?_, fitsL_all h3⟩
          · rw [eq_of_beq h2, Xp.ts_map, List.length_map]
          · show Xp.sizes as + 1 ≤ 1 + Xp.sizes as
            omega
      rcases hx2 with ⟨s, rfl⟩ | ⟨g, ts, as, hxt, har, hq1, hq2, hsa, hfa⟩
      · obtain rfl := at_w hv2
        refine ⟨_, rfl, iteT ?_⟩
        obtain ⟨pa, pxs, rfl, pX, pA⟩ := id (k2.at_ hP)
        obtain rfl := aa_words pA
        refine ⟨_, rfl, _, rfl, pa, _, rfl, .inr pX.sq, rfl, flatV_strs _, _, rfl, ?_⟩
        rw [inV_strs, show inS s ps = true from hx]
        have : (Xp.v s).size = 1 := rfl
        exact iteF ⟨_, (by omega), some (.str s), es0, us0, rfl, k2, hW2, hA2, hF0, rfl, by omega⟩
      · rw [hxt] at hv2 ⊢
        refine ⟨_, rfl, iteF ?_⟩
        refine ⟨_, rfl, _, _, rfl, hv2, rfl, _, rfl, ?_⟩
        have e0 : decide (V.int (((G.T.w g :: ts).length : Nat) : Int) = V.int 0) = false := decide_eq_false (by
          intro z
          have z2 := V.int.inj z
          rw [List.length_cons] at z2
          omega)
        rw [e0]
        refine iteF ?_
        refine ⟨_, rfl, _, 0, _, hv2, rfl, rfl, fun v1 h1 => ⟨_, _, rfl, h1, true, rfl, iteF ?_⟩⟩
        have hC2 := hC g
        rw [har] at hC2
        refine ⟨_, rfl, d, rfl, .inl ⟨_, Or.inl (k2 _ _ hD (.inl (by simp)))⟩, _, rfl, _, 0, _, hv2, rfl, rfl, fun v1 h1 => ?_⟩
        obtain rfl := at_w h1
        refine ⟨_, DGet.k (k := Sum.inr g) (k2 _ _ hD (.inl (by simp))), _, rfl, _, _, rfl, hv2, _, _, rfl, rfl, ?_⟩
        rw [hC2]
        refine ⟨rfl, _, rfl, ?_⟩
        have e1 : (!decide (((fun (n : Nat) => V.int (n : Int)) ts.length) = V.int ((((G.T.w g :: ts).length : Nat) : Int) - 1))) = false := by
          rw [List.length_cons]
          simp
        show if (!decide (((fun (n : Nat) => V.int (n : Int)) ts.length) = V.int ((((G.T.w g :: ts).length : Nat) : Int) - 1))) = true then _ else _
        rw [e1]
        refine iteF ?_
        refine ⟨_, rfl, _, 0, _, hv2, rfl, rfl, fun v1 h1 => ?_⟩
        obtain rfl := at_w h1
        refine ⟨rfl, _, rfl, ?_⟩
        rw [dec_ss, lit_quote]
        cases eq : seq g wQuote with
        | true => exact iteF ⟨_, (by omega), _, es0, us0, rfl, k2, hW2, hA2, hF0, rfl, by omega⟩
        | false =>
          refine iteT ⟨_, rfl, tyL hW2, _, rfl, _, rfl, _, hv2, .inl ⟨1, rfl, rfl, Nat.le_refl 1, by rw [List.length_cons]; omega, fun p3 H3 k4 h3 => ?_⟩⟩
          have h3b : At K H3 (.l ts) (.ref p3) := h3
          rw [hq2 eq] at h3b
          obtain ⟨a3, xs3, e3, hX3, hA3⟩ := id h3b
          cases e3
          have hW3 := k4 _ _ hW2 (.inl (by simp))
          have l1 := aa_len hA3
          have l2 := aa_len hA2
          rw [List.length_map] at l1 l2
          have l3 := Xp.len_sizes as
          have l4 := Xp.len_sizes es0
          refine ⟨wq, p3, us0, xs3, rfl, rfl, hW3, hX3, by rw [sizeLine_eq]; omega, ?_⟩
          have k5 : Kp [wq] H3 (upd H3 wq (.lst (us0 ++ xs3))) := Kp.own hW3
          refine ⟨Xp.sizes (es0 ++ as), (by rw [Xp.sizes_app]; omega), _, es0 ++ as, us0 ++ xs3, rfl, (k2.trans k4).set hwq, upd_same, ?_, fun y hy => (List.mem_append.mp hy).elim (hF0 y) (hfa y), rfl, by rw [Xp.sizes_app]; omega⟩
          rw [List.map_append]
          exact aa_app (k5.aa (k4.aa hA2)) (k5.aa hA3)
/-! ### check_program, inputs_of -/
def sp_check_program (K : PySem.W.Frag) : Sp := fun vs H Q _ => ∃ v, ∃ fs : List Fn, vs = [v] ∧ At K H (progT fs) v ∧ good fs = true ∧ ∀ H', Sm H H' → Q .non H'
theorem sc_check_program : FnScope ["value", "counts", "names", "number", "function", "name", "parameters", "body"] ["value"] (defScope s_check_program) := ⟨rfl, rfl, rfl, by decide +kernel, rfl, by decide +kernel, by decide +kernel⟩
theorem good_parts {fs : List Fn} (h : good fs = true) : fs ≠ [] ∧ nodupS (fs.map Fn.name) = true ∧ fs.length ≤ 1000 ∧ ∀ f ∈ fs, fnOk fs f = true := by
  obtain ⟨h1, h2⟩ := ba2 h
  obtain ⟨h3, h4⟩ := ba2 h2
  obtain ⟨h5, h6⟩ := ba2 h4
  exact ⟨fun e => (by rw [e] at h1; cases h1), h3, Nat.le_of_ble_eq_true h5, List.all_eq_true.mp h6⟩
theorem lookN_none {s : Str} : ∀ {l : List (Str × Nat)}, inS s (l.map (·.1)) = false → lookN s l = none
  | [], _ => rfl
  | (k, n) :: r, h => by
    have h2 : (seq k s || inS s (r.map (·.1))) = false := h
    obtain ⟨a, b⟩ := Bool.or_eq_false_iff.mp h2
    show (match seq k s with | true => some n | false => lookN s r) = none
    rw [a]
    exact lookN_none b
theorem special_none {s : Str} (h : (!(inS s special)) = true) : lookN s specials = none := lookN_none (by
  have e : specials.map (·.1) = special := rfl
  rw [e]
  cases q : inS s special with
  | false => rfl
  | true =>
    rw [q] at h
    cases h)
structure FnP (fs : List Fn) (f : Fn) : Prop where
  sp : lookN f.name specials = none
  nm : nameOk f.name fs.length = true
  pl : f.ps.length ≤ 12
  psp : ∀ p ∈ f.ps, lookN p specials = none
  pnd : nodupS f.ps = true
  bz : f.body.size ≤ 100000
  fit : fits (arity fs) f.ps f.body = true
theorem fn_parts {fs : List Fn} {f : Fn} (h : fnOk fs f = true) : FnP fs f := by
  obtain ⟨h1, h2⟩ := ba2 h
  obtain ⟨h3, h4⟩ := ba2 h2
  obtain ⟨h5, h6⟩ := ba2 h4
  obtain ⟨h7, h8⟩ := ba2 h6
  obtain ⟨h9, h10⟩ := ba2 h8
  obtain ⟨h11, h12⟩ := ba2 h10
  exact ⟨special_none h1, h3, Nat.le_of_ble_eq_true h5, fun p hp => special_none (List.all_eq_true.mp h7 p hp), h9, Nat.le_of_ble_eq_true h11, h12⟩
theorem nodup_at : ∀ {l : List Str} {i j : Nat} {s : Str}, nodupS l = true → l[i]? = some s → l[j]? = some s → i = j
  | [], i, j, s, _, h, _ => by cases h
  | x :: r, 0, 0, s, _, _, _ => rfl
  | x :: r, 0, j + 1, s, hn, h, h' => by
    obtain ⟨h1, h2⟩ := ba2 (show (!(inS x r) && nodupS r) = true from hn)
    have e : x = s := Option.some.inj h
    subst e
    have : inS x r = true := inS_iff.mpr (List.mem_of_getElem? (show r[j]? = some x from h'))
    rw [this] at h1
    cases h1
  | x :: r, i + 1, 0, s, hn, h, h' => by
    obtain ⟨h1, h2⟩ := ba2 (show (!(inS x r) && nodupS r) = true from hn)
    have e : x = s := Option.some.inj h'
    subst e
    have : inS x r = true := inS_iff.mpr (List.mem_of_getElem? (show r[i]? = some x from h))
    rw [this] at h1
    cases h1
  | x :: r, i + 1, j + 1, s, hn, h, h' => by
    obtain ⟨h1, h2⟩ := ba2 (show (!(inS x r) && nodupS r) = true from hn)
    rw [nodup_at h2 (show r[i]? = some s from h) (show r[j]? = some s from h')]
theorem f_check_program (T : Txt w K mg) : Clb P w K mg base "check_program" 4 ["value"] (sp_check_program K) := by
  have F_is_word : Clb P w K mg base "is_word" 1 ["value"] (sp_is_word K) := f_is_word T
  have F_has_head : Clb P w K mg base "has_head" 2 ["function"] (sp_has_head K) := f_has_head T
  have F_counts_of : Clb P w K mg base "counts_of" 3 ["program"] (sp_counts_of K) := f_counts_of T
  have F_name_fits : Clb P w K mg base "name_fits" 1 ["name", "names", "many"] (sp_name_fits K) := f_name_fits T
  have F_parameters_fit : Clb P w K mg base "parameters_fit" 2 ["parameters"] (sp_parameters_fit K) := f_parameters_fit T
  have F_body_fits : Clb P w K mg base "body_fits" 2 ["body", "parameters", "counts"] (sp_body_fits K) := f_body_fits T
  refine T.d_check_program.clb sc_check_program (fun _ _ _ _ _ _ us hl => match us, hl with | [_], _ => rfl) (fun vs H Q E h => ?_) (fun f cdv A outer s H vs Q E hr h => ?_)
  · obtain ⟨_, _, rfl, _⟩ := h
    rfl
  · obtain ⟨v, fs, rfl, h, hg, q⟩ := h
    have hu := hu_of hr
    refine ⟨_, (pss_cons (ps_if (PW.pt (pw_or (pt_val (pe_c F_is_word (hr.mono (by decide)) (pa_cons (pv 0) pa_nil))) (pw_or1 (pt_cmpR op_eq (pe_callB call_lenT (by rfl) T.n_len PySem.boot_len (pa_cons (pv 0) pa_nil)) pe_int (nomark _))))) (pss_one ps_never) pss_nil)
      (pss_cons (ps_set (i := 1) sc_check_program.nd rfl (Or.inl rfl) (pe_c F_counts_of hr (pa_cons (pv 0) pa_nil)))
      (pss_cons (ps_set (i := 2) sc_check_program.nd rfl (Or.inl rfl) pe_dnewK)
      (pss_one (ps_for PassesOwn.never rfl (pi_enumT (by rfl) T.n_enumerate (pa_cons (pv 0) pa_nil)) (pg_tup rfl (pgs_cons (pg_name (i := 3) sc_check_program.nd rfl (Or.inl rfl)) (pgs_cons (pg_name (i := 4) sc_check_program.nd rfl (Or.inl rfl)) pgs_nil))) (pss_cons (ps_if (pt_not (pt_val (pe_c F_has_head (hr.mono (by decide)) (pa_cons (pv 4) pa_nil)))) (pss_one ps_never) pss_nil)
      (pss_cons (ps_asg (pv 4) (pg_tup rfl (pgs_cons (pg_name (i := 5) sc_check_program.nd rfl (Or.inl rfl)) (pgs_cons (pg_name (i := 6) sc_check_program.nd rfl (Or.inl rfl)) (pgs_cons (pg_name (i := 7) sc_check_program.nd rfl (Or.inl rfl)) pgs_nil)))))
      (pss_cons (ps_if (PW.pt (pw_or (pt_not (pt_val (pe_c F_name_fits (hr.mono (by decide)) (pa_cons (pv 5) (pa_cons (pv 2) (pa_cons (pe_callB call_lenT (by rfl) T.n_len PySem.boot_len (pa_cons (pv 0) pa_nil)) pa_nil)))))) (pw_or1 (pt_not (pt_val (pe_c F_parameters_fit (hr.mono (by decide)) (pa_cons (pv 6) pa_nil))))))) (pss_one ps_never) pss_nil)
      (pss_cons (ps_if (pt_not (pt_val (pe_c F_body_fits (hr.mono (by decide)) (pa_cons (pv 7) (pa_cons (pv 6) (pa_cons (pv 1) pa_nil)))))) (pss_one ps_never) pss_nil)
      (pss_one (ps_dput hu (pv 2) (pv 5) pe_bl rfl))))))))))), ?_⟩
    obtain ⟨hne, hnd, hlen, hok⟩ := good_parts hg
    refine ⟨_, rfl, v, _, rfl, h, false, rfl, iteF ?_⟩
    refine ⟨_, rfl, _, _, rfl, h, rfl, _, rfl, ?_⟩
    have e0 : decide (V.int (((fs.map Fn.t).length : Nat) : Int) = V.int 0) = false := decide_eq_false (by
      intro z
      have z2 := V.int.inj z
      rw [List.length_map] at z2
      have z3 : fs.length = 0 := by omega
      exact hne (List.length_eq_zero_iff.mp z3))
    rw [e0]
    refine iteF ?_
    refine ⟨_, rfl, v, fs, rfl, h, hlen, fun d1 H1 kvs k1 hd1 hD1 hC => ?_⟩
    intro d2 hd2
    have k2 : Sm H (upd H1 d2 (.dK [])) := k1.set (k1.none hd2)
    have hD1' : (upd H1 d2 (.dK [])) d1 = some (.dK kvs) := by
      rw [upd_ne]
      · exact hD1
      · rintro rfl
        rw [hD1] at hd2
        cases hd2
    have hD2 : (upd H1 d2 (.dK [])) d2 = some (.dK []) := upd_same
    have hd2' := k1.none hd2
    have hdd : d2 ≠ d1 := by
      rintro rfl
      rw [hD1] at hd2
      cases hd2
    generalize upd H1 d2 (.dK []) = H2 at k2 hD1' hD2
    obtain ⟨p, xs, rfl, hX, hA⟩ := id h
    have hxl : xs.length = fs.length := by rw [aa_len hA, List.length_map]
    refine ⟨_, rfl, p, xs, rfl, (k2.xt hX).sq, for_it walk_enumT (fun i σ H' => ∃ v3 v4 v5 v6 v7 ks, σ = [some (.ref p), some (.ref d1), some (.ref d2), v3, v4, v5, v6, v7] ∧ Sm H H' ∧ H' d1 = some (.dK kvs) ∧ H' d2 = some (.dK ks) ∧ ks.length ≤ i ∧
      ∀ s : Str, (∀ j, j < i → (fs.map Fn.name)[j]? ≠ some s) → valV ks (Sum.inr s) = none) ⟨none, none, none, none, none, [], rfl, k2, hD1', hD2, Nat.le_refl _, fun _ _ => rfl⟩ (fun i σ H' _ ⟨_, _, _, _, _, _, _, k, _⟩ => (k.xt hX).sq) ?_ ?_⟩
    · rintro i x σ Ha Hb hi ⟨v3, v4, v5, v6, v7, ks, rfl, k3, hE1, hE2, hkl, hks⟩ ⟨tp, x1, x2, rfl, htp, rfl, e1, e2⟩
      cases e1
      obtain ⟨fn, hfn, hAt⟩ := aa_prog hA (show xs[i]? = some x2 from e2)
      have hfok := fn_parts (hok fn (List.mem_of_getElem? hfn))
      have k4 : Sm H (upd Ha tp (.tup [.int (i : Nat), x2])) := k3.set (k3.none htp)
      have k4a : Sm Ha (upd Ha tp (.tup [.int (i : Nat), x2])) := Kp.new htp
      have hE1 := k4a _ _ hE1 (.inl (by simp))
      have hE2 := k4a _ _ hE2 (.inl (by simp))
      refine ⟨tp, _, rfl, st_tup upd_same, rfl, _, _, rfl, _, _, rfl, rfl, ?_⟩
      have hAt := k4.at_ hAt
      generalize upd Ha tp (.tup [.int (i : Nat), x2]) = Hc at k4 hE1 hE2 hAt
      refine ⟨_, rfl, x2, fn, rfl, hAt, true, rfl, iteF ?_⟩
      obtain ⟨a2, ys, rfl, hX2, hA2⟩ := id hAt
      obtain ⟨y1, r1, rfl, b1, hA3⟩ := hA2
      obtain ⟨y2, r2, rfl, b2, hA4⟩ := hA3
      obtain ⟨y3, r3, rfl, b3, hA5⟩ := hA4
      obtain rfl := aa_nil' hA5
      obtain rfl := at_w b1
      refine ⟨_, rfl, a2, _, rfl, hX2.sq, rfl, _, _, rfl, _, _, rfl, _, _, rfl, rfl, ?_⟩
      refine ⟨_, rfl, _, rfl, _, rfl, _, _, rfl, k4.at_ h, ?_⟩
      refine ⟨fn.name, d2, ks, fs.length, by rw [List.length_map] <;> rfl, hE2, hks fn.name (fun j hj z => ?_), hfok.sp, hfok.nm, true, rfl, iteF ?_⟩
      · have hi2 : (fs.map Fn.name)[i]? = some fn.name := by rw [List.getElem?_map, hfn]; rfl
        have := nodup_at hnd z hi2
        omega
      refine ⟨_, rfl, y2, fn.ps, rfl, b2, hfok.pl, hfok.psp, hfok.pnd, fun H3 k5 => ⟨true, rfl, iteF ?_⟩⟩
      refine ⟨_, rfl, _, rfl, _, rfl, y3, y2, d1, fn.body, fn.ps, fs.map (fun f : Fn => (f.name, f.ps.length)), kvs, rfl, k5.at_ b3, k5.at_ b2, k5 _ _ hE1 (.inl (by simp)), hC, hfok.bz, hfok.fit, fun H4 k6 => ⟨true, rfl, iteF ?_⟩⟩
      have k7 := (k4.trans k5).trans k6
      have hE2b := k6 _ _ (k5 _ _ hE2 (.inl (by simp))) (.inl (by simp))
      have hE1b := k6 _ _ (k5 _ _ hE1 (.inl (by simp))) (.inl (by simp))
      refine ⟨_, rfl, _, rfl, d2, _, rfl, DPut.k (k := Sum.inr fn.name) hE2b (by rw [sizeLine_eq]; rw [hxl] at hi; omega), ?_⟩
      refine ⟨_, _, _, _, _, _, rfl, k7.set hd2', ?_, upd_same, Nat.le_trans (length_putK _ _ _) (by omega), fun s hs => ?_⟩
      · rw [upd_ne (Ne.symm hdd)]
        exact hE1b
      · rw [valV_put]
        have hi2 : (fs.map Fn.name)[i]? = some fn.name := by rw [List.getElem?_map, hfn]; rfl
        rw [if_neg (fun z => hs i (Nat.lt_succ_self i) (by rw [Sum.inr.inj z]; exact hi2)), hks s (fun j hj => hs j (Nat.lt_succ_of_lt hj))]
    · rintro σ H' ⟨_, _, _, _, _, _, rfl, k, _⟩
      exact q H' k
end
end G
set_option maxRecDepth 100000
set_option maxHeartbeats 4000000
/-! F2a: names, parameters, quoted, listed, fill. -/
namespace G
open PySem PySem.Spec PyProof.Rows L2
/-- a value for the tree, things kept -/
def ans (K : PySem.W.Frag) (t : T) (H : Hp) (Q : VK) : Prop := ∀ v H', Sm H H' → At K H' t v → Q v H'
theorem ans.new {K : PySem.W.Frag} {ts : List T} {H H0 : Hp} {Q : VK} (h : ans K (.l ts) H0 Q) (k : Sm H0 H) : newT K ts H Q := fun p H' k2 a => h (.ref p) H' (k.trans k2) a
theorem toStr_nat (n : Nat) : (toString ((n : Nat) : Int) : String) = toString n := rfl
theorem str_nat (n : Nat) : Str.ofString (toString ((n : Nat) : Int)) = kw (digits n) := by
  rw [Str.ofString_eq_toList]
  rfl
theorem str_name (c : Nat) (z : Str) (hz : z = kw [c]) (n : Nat) : z ++ Str.ofString (toString ((n : Nat) : Int)) = kw (c :: digits n) := by
  subst hz
  rw [str_nat]
  show Str.append (kw [c]) (kw (digits n)) = _
  unfold Str.append kw
  simp
theorem str_len {n : Nat} (h : n < 10 ^ 10) : (Str.ofString (toString ((n : Nat) : Int))).length ≤ 10 := PyProof.Rows.toString_length_le (by omega) (by decide) (by omega)
/-- a comprehension with no if -/
theorem lc_y {J : It} {n : Nat} {G : Hp → Prop} {Y : Nat → Hp → V → Hp → Prop} (w : Walk J n G Y) {g : TG} {te : TE} {vs : List Nat} {σ : L2.St} {H1 : Hp} {D : Addr} {Qd : Hp → Prop} (Pv : Nat → Hp → Prop) (h0 : Pv 0 (upd H1 D (.lst []))) (hG : ∀ i H, i ≤ n → Pv i H → G H)
    (hs : ∀ i x H H', i < n → Pv i H → Y i H x H' → g x (wipe σ vs) H' fun σ2 H2 => wipe σ2 vs = wipe σ vs ∧ te σ2 H2 fun y H4 => ∃ acc, H4 D = some (.lst acc) ∧ acc.length < sizeLine ∧ Pv (i + 1) (upd H4 D (.lst (acc ++ [y])))) (hd : ∀ H, Pv n H → Qd H) :
    ∃ W : Nat → Nat → Hp → Prop, (∃ m, W 0 m (upd H1 D (.lst []))) ∧ ∀ i m H, W i m H →
      (J.stop i H ∧ Qd H) ∨ (J.go i H ∧ ∃ Nx : Hp → Prop, (∀ H', Nx H' → ∃ m', m' < m ∧ W (i + 1) m' H') ∧ ∀ x H', J.yld i H x H' → g x (wipe σ vs) H' fun σ2 H2 => wipe σ2 vs = wipe σ vs ∧ tYes σ2 H2 fun b H3 =>
        if b = true then te σ2 H3 fun y H4 => ∃ acc, H4 D = some (.lst acc) ∧ acc.length < sizeLine ∧ Nx (upd H4 D (.lst (acc ++ [y]))) else Nx H3) :=
  lc_it w Pv h0 hG (fun i x H H' a b c => hs i x H H' a b c) hd
theorem zle {n : Nat} (h : n ≤ 1000) : n ≤ sizeLine := by
  rw [sizeLine_eq]
  omega
section
variable {P : Program} {w : World} {K : PySem.W.Frag} {mg : Str → Option Value} {base : Heap}
def sp_inputs_of (K : PySem.W.Frag) : Sp := fun vs H Q _ => ∃ v, ∃ fs : List Fn, vs = [v] ∧ At K H (progT fs) v ∧ good fs = true ∧ ∀ H', Sm H H' → Q (.int (inputsOf fs : Nat)) H'
theorem sc_inputs_of : FnScope ["program"] ["program"] (defScope s_inputs_of) := ⟨rfl, rfl, rfl, by decide +kernel, rfl, by decide +kernel, by decide +kernel⟩
theorem f_inputs_of (T : Txt w K mg) : Clb P w K mg base "inputs_of" 5 ["program"] (sp_inputs_of K) := by
  have F_check_program : Clb P w K mg base "check_program" 4 ["value"] (sp_check_program K) := f_check_program T
  refine T.d_inputs_of.clb sc_inputs_of (fun _ _ _ _ _ _ us hl => match us, hl with | [_], _ => rfl) (fun vs H Q E h => ?_) (fun f cdv A outer s H vs Q E hr h => ?_)
  · obtain ⟨_, _, rfl, _⟩ := h
    rfl
  · obtain ⟨v, fs, rfl, h, hg, q⟩ := h
    refine ⟨_, (pss_cons (ps_expr (pe_c F_check_program hr (pa_cons (pv 0) pa_nil)))
      (pss_one (ps_ret (pe_callB call_lenT (by rfl) T.n_len PySem.boot_len (pa_cons (pe_ix ix_T (pe_ix ix_T (pv 0) pe_int (fun _ _ => rfl)) pe_int (fun _ _ => rfl)) pa_nil))))), ?_⟩
    refine ⟨_, rfl, v, fs, rfl, h, hg, fun H1 k1 => ?_⟩
    match fs, h, hg, q with
    | [], _, hg, _ => cases hg
    | f :: r, h, _, q =>
      refine ⟨_, rfl, _, 0, _, k1.at_ h, rfl, rfl, fun v1 h1 => ?_⟩
      refine ⟨_, 1, _, h1, rfl, rfl, fun v2 h2 => ?_⟩
      refine ⟨_, _, rfl, h2, ?_⟩
      rw [List.length_map]
      exact q H1 k1
def sp_made_name : Sp := fun vs H Q _ => ∃ n : Nat, vs = [.int (n : Int)] ∧ n ≤ 1000000 ∧ Q (.str (mn n)) H
theorem sc_made_name : FnScope ["number"] ["number"] (defScope s_made_name) := ⟨rfl, rfl, rfl, by decide +kernel, rfl, by decide +kernel, by decide +kernel⟩
theorem log2_small {n : Nat} (h : n ≤ 10000000) : (((n : Nat) : Int)).natAbs.log2 < 1920 := by
  have : n < 2 ^ 24 := by omega
  rw [Int.natAbs_natCast]
  by_cases h0 : n = 0
  · subst h0
    decide
  · have := (Nat.log2_lt h0).mpr this
    omega
theorem f_made_name (T : Txt w K mg) : Clb P w K mg base "made_name" 1 ["number"] sp_made_name := by
  refine T.d_made_name.clb sc_made_name (fun _ _ _ _ _ _ us hl => match us, hl with | [_], _ => rfl) (fun vs H Q E h => ?_) (fun f cdv A outer s H vs Q E hr h => ?_)
  · obtain ⟨_, rfl, _⟩ := h
    rfl
  · obtain ⟨n, rfl, hn, q⟩ := h
    refine ⟨_, (pss_one (ps_ret (pe_op op_add_str pe_str (pe_callTy call_str_int (by rfl) T.n_str PyProof.Rows.boot_str (pa_cons (pv 0) pa_nil))))), ?_⟩
    refine ⟨_, rfl, _, rfl, log2_small (by omega), _, _, rfl, rfl, ?_, ?_⟩
    · have := str_len (n := n) (by omega)
      have h1 : (("f" : Str)).length = 1 := by decide +kernel
      rw [h1, sizeLine_eq]
      omega
    · rw [str_name 102 _ (by decide +kernel)]
      exact q
def sp_made_parameters (K : PySem.W.Frag) : Sp := fun vs H Q _ => ∃ n : Nat, vs = [.int (n : Int)] ∧ n ≤ 1000 ∧ ans K (.l ((xns n).map .w)) H Q
theorem sc_made_parameters : FnScope ["many", "k"] ["many"] (defScope s_made_parameters) := ⟨rfl, rfl, rfl, by decide +kernel, rfl, by decide +kernel, by decide +kernel⟩
theorem xns_succ (n : Nat) : xns (n + 1) = xns n ++ [xn n] := by
  unfold xns
  rw [List.range_succ, List.map_append]
  rfl
theorem xns_len (n : Nat) : (xns n).length = n := by
  unfold xns
  rw [List.length_map, List.length_range]
theorem f_made_parameters (T : Txt w K mg) : Clb P w K mg base "made_parameters" 1 ["many"] (sp_made_parameters K) := by
  refine T.d_made_parameters.clb sc_made_parameters (fun _ _ _ _ _ _ us hl => match us, hl with | [_], _ => rfl) (fun vs H Q E h => ?_) (fun f cdv A outer s H vs Q E hr h => ?_)
  · obtain ⟨_, rfl, _⟩ := h
    rfl
  · obtain ⟨n, rfl, hn, q⟩ := h
    refine ⟨_, (pss_one (ps_ret (pe_callTy call_tupTr (by rfl) T.n_tuple PyProof.Rows.boot_tuple (pa_cons (pe_lc (own := [("k", 1)]) rfl sc_made_parameters.nd (pi_range1 rfl T.n_range (pa_cons (pv 0) pa_nil)) (blkOk_by (N := ["many", "k"]) (sc := defScope s_made_parameters) (by decide +kernel)) (fun _ _ _ _ _ => (pg_name (i := 1) sc_made_parameters.nd rfl (Or.inl rfl))) (fun _ _ _ _ _ => pts_nil) (fun _ _ _ _ _ => (pe_op op_add_str pe_str (pe_callTy call_str_int (by rfl) T.n_str PyProof.Rows.boot_str (pa_cons (pe_op op_add (pv 1) pe_int) pa_nil))))) pa_nil)))), ?_⟩
    refine ⟨_, rfl, _, rfl, by omega, by omega, fun D hD => lc_y walk_range (fun i H' => H' D = some (.lst ((xns i).map V.str)) ∧ Sm H H') ⟨upd_same, Kp.new hD⟩ (fun _ _ _ _ => trivial) ?_ ?_⟩
    · rintro i x H1 H2 hi ⟨h1, h2⟩ ⟨rfl, rfl⟩
      have hi2 : i < n := by simpa using hi
      refine ⟨rfl, ?_⟩
      have e1 : ((0 : Int) + ((i : Nat) : Int)) + 1 = ((i + 1 : Nat) : Int) := by omega
      refine ⟨_, rfl, _, _, rfl, rfl, ?_⟩
      have hlx := str_len (n := i + 1) (by omega)
      refine ⟨((i + 1 : Nat) : Int), by rw [← e1] <;> rfl, log2_small (by omega), _, _, rfl, rfl, ?_, ?_⟩
      · have h1 : (("x" : Str)).length = 1 := by decide +kernel
        rw [h1, sizeLine_eq]
        omega
      · rw [str_name 120 _ (by decide +kernel)]
        refine ⟨_, h1, by rw [List.length_map, xns_len, sizeLine_eq]; omega, ?_, h2.set hD⟩
        rw [xns_succ, List.map_append]
        exact upd_same
    · rintro H1 ⟨h1, h2⟩
      rw [Int.toNat_natCast] at h1
      refine ⟨D, _, _, rfl, sq_lst h1, aa_wordsI _, q.new h2⟩

/-! ### with_main, fill_function, fill -/
def sp_with_main (K : PySem.W.Frag) : Sp := fun vs H Q _ => ∃ a b c, ∃ (fs : List Fn) (ps : List Str) (e : Xp), vs = [a, b, c] ∧ At K H (progT fs) a ∧ At K H (.l (ps.map .w)) b ∧ At K H e.t c ∧ fs.length ≤ 100000 ∧ ans K (progT (withMain fs ps e)) H Q
theorem sc_with_main : FnScope ["functions", "parameters", "body"] ["functions", "parameters", "body"] (defScope s_with_main) := ⟨rfl, rfl, rfl, by decide +kernel, rfl, by decide +kernel, by decide +kernel⟩
theorem f_with_main (T : Txt w K mg) : Clb P w K mg base "with_main" 2 ["functions", "parameters", "body"] (sp_with_main K) := by
  have F_made_name : Clb P w K mg base "made_name" 1 ["number"] sp_made_name := f_made_name T
  refine T.d_with_main.clb sc_with_main (fun _ _ _ _ _ _ us hl => match us, hl with | [_, _, _], _ => rfl) (fun vs H Q E h => ?_) (fun f cdv A outer s H vs Q E hr h => ?_)
  · obtain ⟨_, _, _, _, _, _, rfl, _⟩ := h
    rfl
  · obtain ⟨a, b, c, fs, ps, e, rfl, ha, hb, hc, hl, q⟩ := h
    refine ⟨_, (pss_one (ps_ret (pe_op op_catTr (pe_tupT (pa_cons (pe_tupT (pa_cons (pe_c F_made_name (hr.mono (by decide)) (pa_cons (pe_callB call_lenT (by rfl) T.n_len PySem.boot_len (pa_cons (pv 0) pa_nil)) pa_nil)) (pa_cons (pv 1) (pa_cons (pv 2) pa_nil)))) pa_nil)) (pv 0)))), ?_⟩
    refine ⟨_, rfl, _, _, rfl, ha, fs.length, (by rw [List.length_map] <;> rfl), by omega, _, rfl, _, rfl, [.w (mn fs.length), .l (ps.map .w), e.t], aa_cons at_wi (aa_cons hb (aa_cons hc aa_nil)), zle (Nat.le_of_ble_eq_true rfl), fun p1 H1 k1 h1 => ?_⟩
    refine ⟨[_], aa_cons h1 aa_nil, zle (Nat.le_of_ble_eq_true rfl), fun p2 H2 k2 h2 => ?_⟩
    exact ⟨_, rfl, _, _, h2, (k1.trans k2).at_ ha, by rw [List.length_map, sizeLine_eq]; show 1 + _ ≤ _; omega, q.new (k1.trans k2)⟩
def sp_fill_function (K : PySem.W.Frag) : Sp := fun vs H Q _ => ∃ (main : Str) (number : Nat) (v : V) (t : T) (many : Nat), vs = [.str main, .int (number : Int), v, .int (many : Int)] ∧ At K H t v ∧ number ≤ 1000000 ∧ many ≤ 1000 ∧ ans K (fillFn main number t many).t H Q
theorem sc_fill_function : FnScope ["main", "number", "value", "many", "parameters"] ["main", "number", "value", "many"] (defScope s_fill_function) := ⟨rfl, rfl, rfl, by decide +kernel, rfl, by decide +kernel, by decide +kernel⟩
theorem vs_ts (l : List Str) : Xp.ts (vs l) = l.map .w := by
  rw [Xp.ts_map]
  unfold vs
  rw [List.map_map]
  rfl
theorem f_fill_function (T : Txt w K mg) : Clb P w K mg base "fill_function" 2 ["main", "number", "value", "many"] (sp_fill_function K) := by
  have F_made_name : Clb P w K mg base "made_name" 1 ["number"] sp_made_name := f_made_name T
  have F_made_parameters : Clb P w K mg base "made_parameters" 1 ["many"] (sp_made_parameters K) := f_made_parameters T
  refine T.d_fill_function.clb sc_fill_function (fun _ _ _ _ _ _ us hl => match us, hl with | [_, _, _, _], _ => rfl) (fun vs H Q E h => ?_) (fun f cdv A outer s H vs Q E hr h => ?_)
  · obtain ⟨_, _, _, _, _, rfl, _⟩ := h
    rfl
  · obtain ⟨main, number, v, t, many, rfl, hv, h1, h2, q⟩ := h
    refine ⟨_, (pss_cons (ps_set (i := 4) sc_fill_function.nd rfl (Or.inl rfl) (pe_c F_made_parameters (hr.mono (by decide)) (pa_cons (pv 3) pa_nil)))
      (pss_one (ps_ret (pe_tupT (pa_cons (pe_c F_made_name (hr.mono (by decide)) (pa_cons (pv 1) pa_nil)) (pa_cons (pv 4) (pa_cons (pe_op op_catTr (pe_tupT (pa_cons (pv 0) (pa_cons (pe_tupT (pa_cons pe_str (pa_cons (pv 2) pa_nil))) pa_nil))) (pv 4)) pa_nil))))))), ?_⟩
    refine ⟨_, rfl, many, rfl, h2, fun pv H1 k1 hp => ?_⟩
    refine ⟨_, rfl, number, rfl, h1, _, rfl, _, rfl, _, rfl, [.w wQuote, t], aa_cons (by rw [lit_quote]; exact at_wi) (aa_cons (k1.at_ hv) aa_nil), zle (Nat.le_of_ble_eq_true rfl), fun p1 H2 k2 h3 => ?_⟩
    refine ⟨[.w main, _], aa_cons at_wi (aa_cons h3 aa_nil), zle (Nat.le_of_ble_eq_true rfl), fun p2 H3 k3 h4 => ?_⟩
    refine ⟨_, rfl, _, _, h4, (k2.trans k3).at_ hp, by rw [List.length_map, xns_len, sizeLine_eq]; show 2 + _ ≤ _; omega, fun p3 H4 k4 h5 => ?_⟩
    refine ⟨[.w (mn number), .l ((xns many).map .w), _], aa_cons at_wi (aa_cons ((k2.trans (k3.trans k4)).at_ hp) (aa_cons h5 aa_nil)), zle (Nat.le_of_ble_eq_true rfl), fun p4 H5 k5 h6 => ?_⟩
    refine q _ _ (k1.trans (k2.trans (k3.trans (k4.trans k5)))) ?_
    have e : (fillFn main number t many).t = .l [.w (mn number), .l ((xns many).map .w), .l ([.w main, .l [.w wQuote, t]] ++ (xns many).map .w)] := by
      show G.T.l [_, _, G.T.l (.w main :: G.T.l [.w wQuote, t] :: Xp.ts (vs (xns many)))] = _
      rw [vs_ts]
      rfl
    rw [e]
    exact h6
def sp_fill (K : PySem.W.Frag) : Sp := fun vs H Q _ => ∃ a b, ∃ (fs : List Fn) (t : T), vs = [a, b] ∧ At K H (progT fs) a ∧ At K H t b ∧ good fs = true ∧ 1 ≤ inputsOf fs ∧ inputsOf fs ≤ 9 ∧ ans K (progT (fill fs t)) H Q
theorem sc_fill : FnScope ["program", "value", "many"] ["program", "value"] (defScope s_fill) := ⟨rfl, rfl, rfl, by decide +kernel, rfl, by decide +kernel, by decide +kernel⟩
theorem f_fill (T : Txt w K mg) : Clb P w K mg base "fill" 6 ["program", "value"] (sp_fill K) := by
  have F_check_program : Clb P w K mg base "check_program" 4 ["value"] (sp_check_program K) := f_check_program T
  have F_inputs_of : Clb P w K mg base "inputs_of" 5 ["program"] (sp_inputs_of K) := f_inputs_of T
  have F_fill_function : Clb P w K mg base "fill_function" 2 ["main", "number", "value", "many"] (sp_fill_function K) := f_fill_function T
  refine T.d_fill.clb sc_fill (fun _ _ _ _ _ _ us hl => match us, hl with | [_, _], _ => rfl) (fun vs H Q E h => ?_) (fun f cdv A outer s H vs Q E hr h => ?_)
  · obtain ⟨_, _, _, _, rfl, _⟩ := h
    rfl
  · obtain ⟨a, b, fs, t, rfl, ha, hb, hg, h1, h2, q⟩ := h
    refine ⟨_, (pss_cons (ps_expr (pe_c F_check_program (hr.mono (by decide)) (pa_cons (pv 0) pa_nil)))
      (pss_cons (ps_set (i := 2) sc_fill.nd rfl (Or.inl rfl) (pe_c F_inputs_of (hr.mono (by decide)) (pa_cons (pv 0) pa_nil)))
      (pss_cons (ps_if (PW.pt (pw_or (pt_cmpR op_eq (pv 2) pe_int (nomark _)) (pw_or1 (pt_cmpR op_gt (pv 2) (pe_op op_add (pe_gi T.c_MOST_INPUTS) pe_int) (nomark _))))) (pss_one ps_never) pss_nil)
      (pss_one (ps_ret (pe_op op_catTr (pe_tupT (pa_cons (pe_c F_fill_function (hr.mono (by decide)) (pa_cons (pe_ix ix_T (pe_ix ix_T (pv 0) pe_int (fun _ _ => rfl)) pe_int (fun _ _ => rfl)) (pa_cons (pe_callB call_lenT (by rfl) T.n_len PySem.boot_len (pa_cons (pv 0) pa_nil)) (pa_cons (pv 1) (pa_cons (pe_op op_sub (pv 2) pe_int) pa_nil))))) pa_nil)) (pv 0))))))), ?_⟩
    refine ⟨_, rfl, a, fs, rfl, ha, hg, fun H1 k1 => ⟨_, rfl, a, fs, rfl, k1.at_ ha, hg, fun H2 k2 => ?_⟩⟩
    have hne := (good_parts hg).1
    have hlen := (good_parts hg).2.2.1
    refine ⟨_, rfl, rfl, _, rfl, ?_⟩
    have e0 : decide (V.int ((inputsOf fs : Nat) : Int) = V.int 0) = false := decide_eq_false fun z => by
      have := V.int.inj z
      omega
    rw [e0]
    refine iteF ⟨_, rfl, _, _, rfl, rfl, _, _, rfl, rfl, _, rfl, ?_⟩
    have e1 : decide (((inputsOf fs : Nat) : Int) > 8 + 1) = false := decide_eq_false (by omega)
    rw [e1]
    refine iteF ?_
    have k3 := k1.trans k2
    have ha2 := k3.at_ ha
    obtain ⟨f0, r0, rfl⟩ : ∃ f r, fs = f :: r := by
      cases fs with
      | nil => exact absurd rfl hne
      | cons f r => exact ⟨f, r, rfl⟩
    refine ⟨_, rfl, _, 0, _, ha2, rfl, rfl, fun v1 h1' => ⟨_, 0, _, h1', rfl, rfl, fun v2 h2' => ?_⟩⟩
    obtain rfl := at_w h2'
    refine ⟨_, rfl, _, _, rfl, ha2, _, rfl, _, rfl, _, _, rfl, rfl, f0.name, (f0 :: r0).length, b, t, inputsOf (f0 :: r0) - 1, ?_, k3.at_ hb, by omega, by omega, fun v3 H3 k4 h3 => ?_⟩
    · rw [List.length_map, Int.ofNat_sub h1]
      rfl
    · refine ⟨[_], aa_cons h3 aa_nil, zle (Nat.le_of_ble_eq_true rfl), fun p4 H4 k5 h4 => ?_⟩
      exact ⟨_, rfl, _, _, h4, (k4.trans k5).at_ ha2, by rw [List.length_map, sizeLine_eq]; show 1 + _ ≤ _; omega, q.new (k3.trans (k4.trans k5))⟩
/-! ### quoted, listed -/
def sp_quoted (K : PySem.W.Frag) : Sp := fun vs H Q _ => ∃ v t, vs = [v] ∧ At K H t v ∧ ans K (.l [.w wQuote, t]) H Q
theorem sc_quoted : FnScope ["value"] ["value"] (defScope s_quoted) := ⟨rfl, rfl, rfl, by decide +kernel, rfl, by decide +kernel, by decide +kernel⟩
theorem f_quoted (T : Txt w K mg) : Clb P w K mg base "quoted" 1 ["value"] (sp_quoted K) := by
  refine T.d_quoted.clb sc_quoted (fun _ _ _ _ _ _ us hl => match us, hl with | [_], _ => rfl) (fun vs H Q E h => ?_) (fun f cdv A outer s H vs Q E hr h => ?_)
  · obtain ⟨_, _, rfl, _⟩ := h
    rfl
  · obtain ⟨v, t, rfl, h, q⟩ := h
    refine ⟨_, (pss_one (ps_ret (pe_tupT (pa_cons pe_str (pa_cons (pv 0) pa_nil))))), ?_⟩
    exact ⟨_, rfl, [.w wQuote, t], aa_cons (by rw [lit_quote]; exact at_wi) (aa_cons h aa_nil), zle (Nat.le_of_ble_eq_true rfl), q.new Kp.refl⟩
def sp_listed (K : PySem.W.Frag) : Sp := fun vs H Q _ => ∃ p xs, ∃ es : List Xp, vs = [.ref p] ∧ H p = some (.lst xs) ∧ AtAll K H (es.map Xp.t) xs ∧ ans K (listed es).t H Q
theorem sc_listed : FnScope ["parts", "found", "part"] ["parts"] (defScope s_listed) := ⟨rfl, rfl, rfl, by decide +kernel, rfl, by decide +kernel, by decide +kernel⟩
theorem lit_join : ("join" : Str) = wJoin := by decide +kernel
theorem f_listed (T : Txt w K mg) : Clb P w K mg base "listed" 2 ["parts"] (sp_listed K) := by
  have F_quoted : Clb P w K mg base "quoted" 1 ["value"] (sp_quoted K) := f_quoted T
  refine T.d_listed.clb sc_listed (fun _ _ _ _ _ _ us hl => match us, hl with | [_], _ => rfl) (fun vs H Q E h => ?_) (fun f cdv A outer s H vs Q E hr h => ?_)
  · obtain ⟨_, _, _, rfl, _⟩ := h
    rfl
  · obtain ⟨p, xs, es, rfl, hp, hA, q⟩ := h
    refine ⟨_, (pss_cons (ps_set (i := 1) sc_listed.nd rfl (Or.inl rfl) (pe_c F_quoted (hr.mono (by decide)) (pa_cons (pe_tupT pa_nil) pa_nil)))
      (pss_cons (ps_for PassesOwn.never rfl (pi_reversed (by rfl) T.n_reversed (pa_cons (pv 0) pa_nil)) (pg_name (i := 2) sc_listed.nd rfl (Or.inl rfl)) (pss_one (ps_set (i := 1) sc_listed.nd rfl (Or.inl rfl) (pe_tupT (pa_cons pe_str (pa_cons (pv 2) (pa_cons (pv 1) pa_nil)))))))
      (pss_one (ps_ret (pv 1))))), ?_⟩
    refine ⟨[], aa_nil, zle (Nat.le_of_ble_eq_true rfl), fun p1 H1 k1 h1 => ⟨_, .l [], rfl, h1, fun v2 H2 k2 h2 => ?_⟩⟩
    have k3 := k1.trans k2
    have hl := aa_len hA
    rw [List.length_map] at hl
    refine ⟨_, rfl, p, xs, rfl, sq_lst (k3 _ _ hp (.inl (by simp))), for_it walk_rev (fun i σ H' => ∃ v v2, σ = [some (.ref p), some v, v2] ∧ Sm H H' ∧ At K H' (listed (es.drop (es.length - i))).t v) ⟨v2, none, rfl, k3, by rw [Nat.sub_zero, List.drop_length]; exact h2⟩ (fun i σ H' _ ⟨_, _, _, k, _⟩ => sq_lst (k _ _ hp (.inl (by simp)))) ?_ ?_⟩
    · rintro i x σ Ha Hb hi ⟨v, v2', rfl, k4, h3⟩ ⟨rfl, hx⟩
      obtain ⟨t, ht, hAt⟩ := aa_at hA hx
      rw [List.getElem?_map] at ht
      obtain ⟨e, he, rfl⟩ : ∃ e, es[xs.length - 1 - i]? = some e ∧ t = e.t := by
        cases z : es[xs.length - 1 - i]? with
        | none =>
          rw [z] at ht
          cases ht
        | some e =>
          rw [z] at ht
          cases ht
          exact ⟨e, rfl, rfl⟩
      refine ⟨_, rfl, _, rfl, [.w wJoin, e.t, _], aa_cons (by rw [lit_join]; exact at_wi) (aa_cons (k4.at_ hAt) (aa_cons h3 aa_nil)), zle (Nat.le_of_ble_eq_true rfl), fun p5 H5 k5 h5 => ?_⟩
      refine ⟨_, _, rfl, k4.trans k5, ?_⟩
      have e2 : es.drop (es.length - (i + 1)) = e :: es.drop (es.length - i) := by
        have hj : es.length - (i + 1) < es.length := by omega
        rw [List.drop_eq_getElem_cons hj]
        have e3 : es.length - (i + 1) + 1 = es.length - i := by omega
        rw [e3]
        have e4 : xs.length - 1 - i = es.length - (i + 1) := by omega
        rw [e4, List.getElem?_eq_getElem hj] at he
        rw [Option.some.inj he]
      rw [e2]
      exact h5
    · rintro σ H' ⟨v, v2', rfl, k4, h3⟩
      rw [hl, Nat.sub_self] at h3
      exact ⟨_, rfl, q _ _ k4 h3⟩
end
end G
set_option maxRecDepth 100000
set_option maxHeartbeats 4000000
/-! F2b: renamed_expression. -/
namespace G
open PySem PySem.Spec PyProof.Rows L2
/-! ### lists related item by item -/
def A2 {α : Type} (R : α → V → Prop) : List α → List V → Prop
  | [], vs => vs = []
  | a :: as, vs => ∃ v r, vs = v :: r ∧ R a v ∧ A2 R as r
section
variable {α : Type} {R R' : α → V → Prop}
theorem A2.len : ∀ {as : List α} {vs : List V}, A2 R as vs → vs.length = as.length
  | [], vs, h => by rw [show vs = [] from h]; rfl
  | a :: as, vs, h => by
    obtain ⟨v, r, rfl, _, h2⟩ := h
    rw [List.length_cons, List.length_cons, h2.len]
theorem A2.mono (f : ∀ a v, R a v → R' a v) : ∀ {as : List α} {vs : List V}, A2 R as vs → A2 R' as vs
  | [], vs, h => h
  | a :: as, vs, h => by
    obtain ⟨v, r, rfl, h1, h2⟩ := h
    exact ⟨v, r, rfl, f a v h1, h2.mono f⟩
theorem A2.app : ∀ {as bs : List α} {vs us : List V}, A2 R as vs → A2 R bs us → A2 R (as ++ bs) (vs ++ us)
  | [], bs, vs, us, h, h' => by rw [show vs = [] from h]; exact h'
  | a :: as, bs, vs, us, h, h' => by
    obtain ⟨v, r, rfl, h1, h2⟩ := h
    exact ⟨v, r ++ us, rfl, h1, h2.app h'⟩
theorem A2.one {a : α} {v : V} (h : R a v) : A2 R [a] [v] := ⟨v, [], rfl, h, rfl⟩
theorem A2.snoc : ∀ {as : List α} {a : α} {vs : List V}, A2 R (as ++ [a]) vs → ∃ vs0 v, vs = vs0 ++ [v] ∧ A2 R as vs0 ∧ R a v
  | [], a, vs, h => by
    obtain ⟨v, r, rfl, h1, h2⟩ := h
    rw [show r = [] from h2]
    exact ⟨[], v, rfl, rfl, h1⟩
  | b :: as, a, vs, h => by
    obtain ⟨v, r, rfl, h1, h2⟩ := h
    obtain ⟨vs0, u, rfl, h3, h4⟩ := A2.snoc h2
    exact ⟨v :: vs0, u, rfl, ⟨v, vs0, rfl, h1, h3⟩, h4⟩
theorem A2.get {as : List α} : ∀ {vs : List V} {i : Nat} {a : α}, A2 R as vs → as[i]? = some a → ∃ v, vs[i]? = some v ∧ R a v := by
  induction as with
  | nil => intro vs i a h e; cases e
  | cons b as ih =>
    intro vs i a h e
    obtain ⟨v, r, rfl, h1, h2⟩ := h
    cases i with
    | zero =>
      cases e
      exact ⟨v, rfl, h1⟩
    | succ i => exact ih (vs := r) h2 e
theorem A2.at_ {as : List α} : ∀ {vs : List V} {i : Nat} {v : V}, A2 R as vs → vs[i]? = some v → ∃ a, as[i]? = some a ∧ R a v := by
  induction as with
  | nil =>
    intro vs i v h e
    rw [show vs = [] from h] at e
    cases e
  | cons b as ih =>
    intro vs i v h e
    obtain ⟨u, r, rfl, h1, h2⟩ := h
    cases i with
    | zero =>
      cases e
      exact ⟨b, rfl, h1⟩
    | succ i => exact ih (vs := r) h2 e
end
theorem pe_K {X : Cx} {e : Expr} {te : PySem.W.Frag → TE} (K : PySem.W.Frag) (hK : X.K = K) (h : PE X e (te X.K)) : PE X e (te K) := hK ▸ h
/-! ### the stack of renamed_expression -/
def rw_ (ρ : Str → Str) (f : Str) : Str := match inS f special with
  | true => f
  | false => ρ f
def fin (ρ : Str → Str) : List (Xp × Bool) → List T → Option (List T)
  | [], ms => some ms
  | (e, false) :: ws, ms => fin ρ ws ((e.ren ρ).t :: ms)
  | (.n f as, true) :: ws, ms => if as.length ≤ ms.length then fin ρ ws (.l (.w (rw_ ρ f) :: ms.take as.length) :: ms.drop as.length) else none
  | (_, true) :: _, _ => none
def mu : List (Xp × Bool) → Nat
  | [] => 0
  | (e, false) :: ws => 2 * e.size + mu ws
  | (_, true) :: ws => 1 + mu ws
theorem mu_app : ∀ a b : List (Xp × Bool), mu (a ++ b) = mu a + mu b
  | [], b => by simp [mu]
  | (e, false) :: a, b => by
    show 2 * e.size + mu (a ++ b) = 2 * e.size + mu a + mu b
    rw [mu_app a b]
    omega
  | (e, true) :: a, b => by
    show 1 + mu (a ++ b) = 1 + mu a + mu b
    rw [mu_app a b]
    omega
theorem mu_len : ∀ a : List (Xp × Bool), a.length ≤ mu a
  | [] => Nat.zero_le _
  | (e, false) :: a => by
    have := mu_len a
    have := e.size_pos
    show a.length + 1 ≤ 2 * e.size + mu a
    omega
  | (e, true) :: a => by
    have := mu_len a
    show a.length + 1 ≤ 1 + mu a
    omega
def low (as : List Xp) : List (Xp × Bool) := as.map fun a => (a, false)
theorem mu_low : ∀ as : List Xp, mu (low as) = 2 * Xp.sizes as
  | [] => rfl
  | a :: as => by
    show 2 * a.size + mu (low as) = 2 * (a.size + Xp.sizes as)
    rw [mu_low as]
    omega
theorem rens_map (ρ : Str → Str) : ∀ as : List Xp, Xp.rens ρ as = as.map (Xp.ren ρ)
  | [] => rfl
  | a :: as => by
    show a.ren ρ :: Xp.rens ρ as = _
    rw [rens_map ρ as]
    rfl
theorem ren_n (ρ : Str → Str) (f : Str) (as : List Xp) : (Xp.n f as).ren ρ = .n (rw_ ρ f) (as.map (Xp.ren ρ)) := by
  rw [← rens_map]
  rfl
theorem fin_low (ρ : Str → Str) (ws : List (Xp × Bool)) : ∀ (as : List Xp) (ms : List T), fin ρ ((low as).reverse ++ ws) ms = fin ρ ws (as.map (fun a => (a.ren ρ).t) ++ ms) := by
  intro as
  induction as generalizing ws with
  | nil => intro ms; rfl
  | cons a as ih =>
    intro ms
    show fin ρ (((a, false) :: low as).reverse ++ ws) ms = _
    rw [List.reverse_cons, List.append_assoc, ih]
    rfl
theorem fin_n (ρ : Str → Str) (f : Str) (as : List Xp) (ws : List (Xp × Bool)) (ms : List T) : fin ρ ((low as).reverse ++ ((Xp.n f as, true) :: ws)) ms = fin ρ ((Xp.n f as, false) :: ws) ms := by
  rw [fin_low]
  show (if as.length ≤ _ then fin ρ ws _ else none) = fin ρ ws _
  have e1 : (as.map (fun a => (a.ren ρ).t)).length = as.length := List.length_map _
  rw [if_pos (by rw [List.length_append, e1]; omega), List.take_left' e1, List.drop_left' e1, ren_n]
  show fin ρ ws (T.l (.w (rw_ ρ f) :: _) :: ms) = fin ρ ws (T.l (.w (rw_ ρ f) :: Xp.ts _) :: ms)
  rw [Xp.ts_map, List.map_map]
  rfl
/-- a pair of a tree and a bool -/
def AtP (K : PySem.W.Frag) (H : Hp) (p : Xp × Bool) (v : V) : Prop := ∃ a x, v = .ref a ∧ XT K H a [x, .bl p.2] ∧ At K H p.1.t x
theorem AtP.kp {K : PySem.W.Frag} {F : List Addr} {H H' : Hp} (k : Kp F H H') (p : Xp × Bool) (v : V) (h : AtP K H p v) : AtP K H' p v := by
  obtain ⟨a, x, rfl, h1, h2⟩ := h
  exact ⟨a, x, rfl, k.xt h1, k.at_ h2⟩
theorem AtP.new {K : PySem.W.Frag} {H : Hp} {e : Xp} {b : Bool} {x : V} {p : Addr} {o : Obj} (h : At K H e.t x) (hp : H p = none) (ho : o.dict = none) : AtP K (upd H p (.frz o (.tup [x, .bl b]))) (e, b) (.ref p) :=
  ⟨p, x, rfl, XT.new ho, (Kp.new (F := []) hp).at_ h⟩
theorem lit_quote2 : V.str ("quote" : Str) = V.str wQuote := by rw [lit_quote]
section
variable {P : Program} {w : World} {K : PySem.W.Frag} {mg : Str → Option Value} {base : Heap}
def sp_renamed_expression (K : PySem.W.Frag) : Sp := fun vs H Q _ => ∃ v d, ∃ (e : Xp) (ps : List Str) (ar : Str → Option Nat) (ρ : Str → Str) (kvs : List (Key × V)), vs = [v, .ref d] ∧ At K H e.t v ∧ H d = some (.dK kvs) ∧
  fits ar ps e = true ∧ e.size ≤ 100000 ∧ (∀ f, (ar f).isSome = true → inS f special = false → valV kvs (Sum.inr f) = some (.str (ρ f))) ∧ ans K (e.ren ρ).t H Q
theorem sc_renamed_expression : FnScope ["expression", "names", "waiting", "made", "one", "is_ready", "word", "part", "_"] ["expression", "names"] (defScope s_renamed_expression) := ⟨rfl, rfl, rfl, by decide +kernel, rfl, by decide +kernel, by decide +kernel⟩
theorem fits_n {ar : Str → Option Nat} {ps : List Str} {f : Str} {as : List Xp} (h : fits ar ps (.n f as) = true) : seq f wQuote = false ∧ ar f = some as.length ∧ ∀ a ∈ as, fits ar ps a = true := by
  obtain ⟨h12, h3⟩ := ba2 (show ((!(seq f wQuote) && (ar f == some as.length)) && fitsL ar ps as) = true from h)
  obtain ⟨h1, h2⟩ := ba2 h12
  refine ⟨?_, eq_of_beq h2, fitsL_all h3⟩
  cases e : seq f wQuote with
  | false => rfl
  | true =>
    rw [e] at h1
    cases h1
theorem f_renamed_expression (T : Txt w K mg) : Clb P w K mg base "renamed_expression" 1 ["expression", "names"] (sp_renamed_expression K) := by
  refine T.d_renamed_expression.clb sc_renamed_expression (fun _ _ _ _ _ _ us hl => match us, hl with | [_, _], _ => rfl) (fun vs H Q E h => ?_) (fun f cdv A outer s H vs Q E hr h => ?_)
  · obtain ⟨_, _, _, _, _, _, _, rfl, _⟩ := h
    rfl
  · obtain ⟨v0, d, e0, ps, ar, ρ, kvs, rfl, hv0, hD, hf, hz, hρ, q⟩ := h
    have hu := hu_of hr
    refine ⟨_, (pss_cons (ps_set (i := 2) sc_renamed_expression.nd rfl (Or.inl rfl) (pe_lst (pa_cons (pe_tupX (pa_cons (pv 0) (pa_cons pe_bl pa_nil))) pa_nil)))
      (pss_cons (ps_set (i := 3) sc_renamed_expression.nd rfl (Or.inr rfl) (pe_lst pa_nil))
      (pss_cons (ps_while PassesOwn.never (pt_cmpR op_gt (pe_callB call_len_seq (by rfl) T.n_len PySem.boot_len (pa_cons (pv 2) pa_nil)) pe_int (nomark _)) (pss_cons (ps_asg (pe_bm0 PySem.F.plainAttrs_list PySem.F.slot_list_pop PySem.F.type_list_pop mt_pop (pv 2)) (pg_tup rfl (pgs_cons (pg_name (i := 4) sc_renamed_expression.nd rfl (Or.inl rfl)) (pgs_cons (pg_name (i := 5) sc_renamed_expression.nd rfl (Or.inl rfl)) pgs_nil))))
      (pss_one (ps_if (PW.pt (pw_or (pt_val (pe_callB call_isS (by rfl) T.n_isinstance PyProof.Rows.boot_isinstance (pa_cons (pv 4) (pa_cons (pe_bltn (v := .ty "str") rfl T.n_str PyProof.Rows.boot_str rfl) pa_nil)))) (pw_or1 (pt_cmpR op_eq (pe_ix ix_T (pv 4) pe_int (fun _ _ => rfl)) pe_str (nomark _))))) (pss_one (ps_expr (pe_bm PySem.F.plainAttrs_list PySem.F.slot_list_append PySem.F.type_list_append mt_append (pv 3) (pa_cons (pv 4) pa_nil)))) (pss_one (ps_if (pt_not (pt_val (pv 5))) (pss_cons (ps_expr (pe_bm PySem.F.plainAttrs_list PySem.F.slot_list_append PySem.F.type_list_append mt_append (pv 2) (pa_cons (pe_tupX (pa_cons (pv 4) (pa_cons pe_bl pa_nil))) pa_nil)))
      (pss_one (ps_expr (pe_bm PySem.F.plainAttrs_list PySem.F.slot_list_extend PySem.F.type_list_extend mt_extend (pv 2) (pa_cons (pe_lc (own := [("part", 7)]) rfl sc_renamed_expression.nd (pi_tup (pe_slice sl_T (pv 4) (po_some pe_int) po_none)) (blkOk_by (N := ["expression", "names", "waiting", "made", "one", "is_ready", "word", "part", "_"]) (sc := defScope s_renamed_expression) (by decide +kernel)) (fun _ _ _ _ _ => (pg_name (i := 7) sc_renamed_expression.nd rfl (Or.inl rfl))) (fun _ _ _ _ _ => pts_nil) (fun _ _ _ _ _ => (pe_tupX (pa_cons (pv 7) (pa_cons pe_bl pa_nil))))) pa_nil))))) (pss_cons (ps_set (i := 6) sc_renamed_expression.nd rfl (Or.inl rfl) (pe_ifExp (pt_cmpR op_in_seq (pe_ix ix_T (pv 4) pe_int (fun _ _ => rfl)) (pe_gr T.c_SPECIAL) (by rfl)) (pe_ix ix_T (pv 4) pe_int (fun _ _ => rfl)) (pe_dget hu (pv 1) (pe_ix ix_T (pv 4) pe_int (fun _ _ => rfl)) (fun _ _ => rfl))))
      (pss_one (ps_expr (pe_bm PySem.F.plainAttrs_list PySem.F.slot_list_append PySem.F.type_list_append mt_append (pv 3) (pa_cons (pe_op op_catTr (pe_tupT (pa_cons (pv 6) pa_nil)) (pe_callTy call_tupTr (by rfl) T.n_tuple PyProof.Rows.boot_tuple (pa_cons (pe_lc (own := [("_", 8)]) rfl sc_renamed_expression.nd (pi_tup (pe_slice sl_T (pv 4) (po_some pe_int) po_none)) (blkOk_by (N := ["expression", "names", "waiting", "made", "one", "is_ready", "word", "part", "_"]) (sc := defScope s_renamed_expression) (by decide +kernel)) (fun _ _ _ _ _ => (pg_name (i := 8) sc_renamed_expression.nd rfl (Or.inl rfl))) (fun _ _ _ _ _ => pts_nil) (fun _ _ _ _ _ => (pe_K (te := fun K => tBM0 K "list" rPop (tVar 3)) K rfl <| pe_bm0 PySem.F.plainAttrs_list PySem.F.slot_list_pop PySem.F.type_list_pop mt_pop (pv 3)))) pa_nil))) pa_nil)))))))))))
      (pss_one (ps_ret (pe_ix ix_list (pv 3) pe_int (fun _ _ => rfl))))))), ?_⟩
    refine ⟨_, rfl, zle (Nat.le_of_ble_eq_true rfl), fun p1 o1 hp1 ho1 => ⟨zle (Nat.le_of_ble_eq_true rfl), fun wq hwq => ⟨zle (Nat.le_of_ble_eq_true rfl), fun mq hmq => ?_⟩⟩⟩
    have hw1 : H wq = none := (Kp.new hp1 : Sm H _).none hwq
    have k1 : Sm H (upd H p1 (.frz o1 (.tup [v0, .bl false]))) := Kp.new hp1
    have a1 : AtP K (upd H p1 (.frz o1 (.tup [v0, .bl false]))) (e0, false) (.ref p1) := AtP.new hv0 hp1 ho1
    generalize upd H p1 (.frz o1 (.tup [v0, .bl false])) = H1 at hwq hmq k1 a1
    have k2 : Sm H1 (upd H1 wq (.lst [.ref p1])) := Kp.new hwq
    have hm0 : H mq = none := (k1.trans k2).none hmq
    have hne : mq ≠ wq := by
      rintro rfl
      rw [upd_same] at hmq
      cases hmq
    have hW0 : (upd (upd H1 wq (.lst [.ref p1])) mq (.lst [])) wq = some (.lst [.ref p1]) := by
      rw [upd_ne (Ne.symm hne), upd_same]
    have k3 : Sm (upd H1 wq (.lst [.ref p1])) (upd (upd H1 wq (.lst [.ref p1])) mq (.lst [])) := Kp.new hmq
    refine ⟨fun m σ H' => ∃ v4 v5 v6 v7 v8, ∃ (W : List (Xp × Bool)) (M : List G.T) (us ms : List V), σ = [some v0, some (.ref d), some (.ref wq), some (.ref mq), v4, v5, v6, v7, v8] ∧ Sm H H' ∧ H' wq = some (.lst us) ∧ H' mq = some (.lst ms) ∧ A2 (AtP K H') W us ∧ AtAll K H' M ms ∧
        (∀ p ∈ W, fits ar ps p.1 = true) ∧ fin ρ W.reverse M.reverse = some [(e0.ren ρ).t] ∧ m = mu W ∧ m + M.length ≤ 200000,
      ⟨_, none, none, none, none, none, [(e0, false)], [], [.ref p1], [], rfl, (k1.trans k2).trans k3, hW0, upd_same, A2.one (AtP.kp (k2.trans k3) _ _ a1), aa_nil, fun p hp => by rw [List.mem_singleton.mp hp]; exact hf, rfl, rfl, by show 2 * e0.size + 0 + 0 ≤ 200000; omega⟩, ?_⟩
    rintro m σ Ha ⟨v4, v5, v6, v7, v8, W, M, us, ms, rfl, kA, hW, hM, aW, aM, hF, hfin, rfl, hm⟩
    have hlu := aW.len
    refine ⟨_, rfl, wq, us, rfl, .inl (sq_lst hW), _, _, rfl, rfl, _, rfl, ?_⟩
    rcases List.eq_nil_or_concat W with e | ⟨W0, x, e⟩
    · subst e
      have hu0 : us.length = 0 := hlu
      rw [hu0]
      refine iteF ?_
      have hfin2 : some M.reverse = some [(e0.ren ρ).t] := hfin
      have hM2 : M = [(e0.ren ρ).t] := by
        have := Option.some.inj hfin2
        rw [← List.reverse_reverse M, this]
        rfl
      subst hM2
      obtain ⟨x, r, rfl, hx, hr2⟩ := aM
      rw [show r = [] from hr2] at hM
      exact ⟨_, rfl, mq, [x], 0, x, rfl, rfl, sq_lst hM, rfl, q _ _ kA hx⟩
    · rw [List.concat_eq_append] at e
      subst e
      obtain ⟨us0, v, rfl, aW0, av⟩ := aW.snoc
      have hpos : decide ((((us0 ++ [v]).length : Nat) : Int) > 0) = true := decide_eq_true (by rw [List.length_append, List.length_singleton]; omega)
      rw [hpos]
      refine iteT ⟨_, fun σ' H' h => h, ?_⟩
      obtain ⟨x, b⟩ := x
      have hx := hF (x, b) (List.mem_append_right _ (List.mem_singleton.mpr rfl))
      have hF0 : ∀ p ∈ W0, fits ar ps p.1 = true := fun p hp => hF p (List.mem_append_left _ hp)
      rw [List.reverse_append] at hfin
      have hfin : fin ρ ((x, b) :: W0.reverse) M.reverse = some [(e0.ren ρ).t] := hfin
      have hmu : mu (W0 ++ [(x, b)]) = mu W0 + mu [(x, b)] := mu_app _ _
      refine ⟨_, rfl, tyL hW, wq, us0 ++ [v], v, rfl, rfl, hW, last_at _ _, ?_⟩
      rw [dl_at]
      have kB : Kp [wq] Ha (upd Ha wq (.lst us0)) := Kp.own hW
      have kAB : Sm H (upd Ha wq (.lst us0)) := kA.set hw1
      have hWB : (upd Ha wq (.lst us0)) wq = some (.lst us0) := upd_same
      have hMB : (upd Ha wq (.lst us0)) mq = some (.lst ms) := by rw [upd_ne hne]; exact hM
      have aW0 := aW0.mono (AtP.kp kB)
      have aM := kB.aa aM
      have av := AtP.kp kB _ _ av
      generalize upd Ha wq (.lst us0) = Hb at kAB hWB hMB aW0 aM av
      obtain ⟨pa, xv, rfl, hX, hxv⟩ := av
      refine ⟨pa, _, rfl, hX.sq, rfl, _, _, rfl, _, _, rfl, rfl, ?_⟩
      refine ⟨_, rfl, xv, x.t, rfl, hxv, ?_⟩
      have hlM := aa_len aM
      -- a leaf
      have leaf : ∀ {Hc : Hp}, Hc = Hb → b = false → (x.ren ρ).t = x.t → 2 ≤ mu [(x, b)] → tBM K "list" rAppend (tVar 3) (tCons (tVar 4) tNil) [some v0, some (.ref d), some (.ref wq), some (.ref mq), some xv, some (.bl b), v6, v7, v8] Hc fun _ H' => (fun σ' H' => ∃ m', m' < mu (W0 ++ [(x, b)]) ∧ ∃ v4 v5 v6 v7 v8, ∃ (W : List (Xp × Bool)) (M : List G.T) (us ms : List V), σ' = [some v0, some (.ref d), some (.ref wq), some (.ref mq), v4, v5, v6, v7, v8] ∧ Sm H H' ∧ H' wq = some (.lst us) ∧ H' mq = some (.lst ms) ∧ A2 (AtP K H') W us ∧ AtAll K H' M ms ∧
          (∀ p ∈ W, fits ar ps p.1 = true) ∧ fin ρ W.reverse M.reverse = some [(e0.ren ρ).t] ∧ m' = mu W ∧ m' + M.length ≤ 200000) [some v0, some (.ref d), some (.ref wq), some (.ref mq), some xv, some (.bl b), v6, v7, v8] H' := by
        rintro Hc rfl rfl hren h2
        have kC : Kp [mq] Hc (upd Hc mq (.lst (ms ++ [xv]))) := Kp.own hMB
        refine ⟨_, rfl, tyL hMB, _, rfl, mq, ms, xv, rfl, rfl, hMB, by rw [sizeLine_eq]; omega, ?_⟩
        refine ⟨mu W0, by omega, _, _, _, _, _, W0, M ++ [x.t], us0, ms ++ [xv], rfl, kAB.set hm0, by rw [upd_ne (Ne.symm hne)]; exact hWB, upd_same, aW0.mono (AtP.kp kC), aa_app (kC.aa aM) (aa_cons (kC.at_ hxv) aa_nil), hF0, ?_, rfl, by rw [List.length_append, List.length_singleton]; omega⟩
        rw [List.reverse_append]
        show fin ρ W0.reverse (x.t :: M.reverse) = _
        rw [← hren]
        exact hfin
      cases x with
      | v s =>
        have hb : b = false := by
          cases b with
          | false => rfl
          | true => cases hfin
        refine ⟨_, rfl, iteT ?_⟩
        exact leaf rfl hb rfl (by rw [hb]; exact Nat.le_refl 2)
      | q t =>
        have hb : b = false := by
          cases b with
          | false => rfl
          | true => cases hfin
        refine ⟨_, rfl, iteF ?_⟩
        refine ⟨_, rfl, _, 0, _, hxv, rfl, rfl, fun v1 h1 => ?_⟩
        obtain rfl := at_w h1
        refine ⟨rfl, _, rfl, ?_⟩
        rw [dec_ss, lit_quote, seq_self]
        refine iteT ?_
        exact leaf rfl hb rfl (by rw [hb]; exact Nat.le_refl 2)
      | n f as =>
        obtain ⟨hq1, har, hfa⟩ := fits_n hx
        refine ⟨_, rfl, iteF ?_⟩
        refine ⟨_, rfl, _, 0, _, hxv, rfl, rfl, fun v1 h1 => ?_⟩
        obtain rfl := at_w h1
        refine ⟨rfl, _, rfl, ?_⟩
        rw [dec_ss, lit_quote, hq1]
        refine iteF ?_
        have htl : Xp.ts as = as.map Xp.t := Xp.ts_map as
        cases b with
        | false =>
          refine ⟨_, rfl, _, rfl, iteT ?_⟩
          refine ⟨_, rfl, tyL hWB, _, rfl, zle (Nat.le_of_ble_eq_true rfl), fun p2 o2 hp2 ho2 => ?_⟩
          have kC : Sm Hb (upd Hb p2 (.frz o2 (.tup [xv, .bl true]))) := Kp.new hp2
          have aN : AtP K (upd Hb p2 (.frz o2 (.tup [xv, .bl true]))) (.n f as, true) (.ref p2) := AtP.new hxv hp2 ho2
          generalize upd Hb p2 (.frz o2 (.tup [xv, .bl true])) = Hc at kC aN
          have hWC := kC _ _ hWB (.inl (by simp))
          have hMC := kC _ _ hMB (.inl (by simp))
          have aW1 := aW0.mono (AtP.kp kC)
          have aM1 := kC.aa aM
          have hxv1 := kC.at_ hxv
          have hl0 : us0.length ≤ 200000 := by
            have h1 := aW0.len
            have h2 := mu_len W0
            omega
          refine ⟨wq, us0, .ref p2, rfl, rfl, hWC, by rw [sizeLine_eq]; omega, ?_⟩
          have kD : Kp [wq] Hc (upd Hc wq (.lst (us0 ++ [.ref p2]))) := Kp.own hWC
          have kAD : Sm H (upd Hc wq (.lst (us0 ++ [.ref p2]))) := (kAB.trans kC).set hw1
          have hWD : (upd Hc wq (.lst (us0 ++ [.ref p2]))) wq = some (.lst (us0 ++ [.ref p2])) := upd_same
          have hMD : (upd Hc wq (.lst (us0 ++ [.ref p2]))) mq = some (.lst ms) := by rw [upd_ne hne]; exact hMC
          have aW2 := (aW1.app (A2.one aN)).mono (AtP.kp kD)
          have aM2 := kD.aa aM1
          have hxv2 := kD.at_ hxv1
          generalize upd Hc wq (.lst (us0 ++ [.ref p2])) = Hd at kAD hWD hMD aW2 aM2 hxv2
          refine ⟨_, rfl, tyL hWD, _, rfl, _, rfl, _, hxv2, .inl ⟨1, rfl, rfl, Nat.le_refl 1, by rw [List.length_cons]; omega, fun p3 H3 k3 h3 => ?_⟩⟩
          have h3 : At K H3 (.l (Xp.ts as)) (.ref p3) := h3
          rw [htl] at h3
          obtain ⟨p3', xs3, e3, hX3, hA3⟩ := id h3
          cases e3
          have hl3 : xs3.length = as.length := by rw [aa_len hA3, List.length_map]
          have hsz : Xp.sizes as + 1 ≤ (Xp.n f as).size := by show Xp.sizes as + 1 ≤ 1 + Xp.sizes as; omega
          have hls := Xp.len_sizes as
          have hmub : mu [((Xp.n f as), false)] = 2 * (Xp.n f as).size := rfl
          refine ⟨p3, rfl, ⟨xs3, hX3.sq⟩, fun D hD => lc_y walk_tup (fun i H' => Sm H3 H' ∧ ∃ acc, H' D = some (.lst acc) ∧ A2 (AtP K H') (low (as.take i)) acc) ⟨Kp.new hD, [], upd_same, rfl⟩ (fun i H' _ ⟨k, _⟩ => (k.xt hX3).sq) ?_ ?_⟩
          · rintro i x H5 H4 hi ⟨k4, acc, hacc, aacc⟩ ⟨rfl, hx4⟩
            obtain ⟨t4, ht4, hAt4⟩ := aa_at hA3 hx4
            rw [List.getElem?_map] at ht4
            obtain ⟨a4, ha4, rfl⟩ : ∃ a, as[i]? = some a ∧ t4 = a.t := by
              cases z : as[i]? with
              | none =>
                rw [z] at ht4
                cases ht4
              | some a =>
                rw [z] at ht4
                cases ht4
                exact ⟨a, rfl, rfl⟩
            refine ⟨rfl, _, rfl, zle (Nat.le_of_ble_eq_true rfl), fun p6 o6 hp6 ho6 => ?_⟩
            have k6 : Sm H4 (upd H4 p6 (.frz o6 (.tup [x, .bl false]))) := Kp.new hp6
            have aN6 : AtP K (upd H4 p6 (.frz o6 (.tup [x, .bl false]))) (a4, false) (.ref p6) := AtP.new (k4.at_ hAt4) hp6 ho6
            have hacc6 := k6 _ _ hacc (.inl (by simp))
            have e4 : low (as.take (i + 1)) = low (as.take i) ++ [(a4, false)] := by
              rw [List.take_add_one, ha4]
              show (as.take i ++ [a4]).map _ = _
              rw [List.map_append]
              rfl
            have hla := aacc.len
            have hll : (low (as.take i)).length ≤ as.length := by
              show (List.map _ _).length ≤ _
              rw [List.length_map, List.length_take]
              omega
            have k7 : Kp [D] (upd H4 p6 (.frz o6 (.tup [x, .bl false]))) (upd (upd H4 p6 (.frz o6 (.tup [x, .bl false]))) D (.lst (acc ++ [.ref p6]))) := Kp.own hacc6
            refine ⟨acc, hacc6, by rw [sizeLine_eq]; omega, (k4.trans k6).set hD, _, upd_same, ?_⟩
            rw [e4]
            exact ((aacc.mono (AtP.kp k6)).app (A2.one aN6)).mono (AtP.kp k7)
          · rintro H4 ⟨k4, acc, hacc, aacc⟩
            rw [hl3, List.take_length] at aacc
            have hWE := k4 _ _ (k3 _ _ hWD (.inl (by simp))) (.inl (by simp))
            have hME := k4 _ _ (k3 _ _ hMD (.inl (by simp))) (.inl (by simp))
            have hla := aacc.len
            have hll : (low as).length = as.length := List.length_map _
            refine ⟨wq, D, us0 ++ [.ref p2], acc, rfl, rfl, hWE, hacc, by rw [List.length_append, List.length_singleton, sizeLine_eq]; omega, ?_⟩
            have k5 : Kp [wq] H4 (upd H4 wq (.lst (us0 ++ [.ref p2] ++ acc))) := Kp.own hWE
            refine ⟨mu (W0 ++ [(.n f as, true)] ++ low as), ?_, _, _, _, _, _, W0 ++ [(.n f as, true)] ++ low as, M, _, ms, rfl, ((kAD.trans k3).trans k4).set hw1, upd_same, by rw [upd_ne hne]; exact hME, ?_, k5.aa (k4.aa (k3.aa aM2)), ?_, ?_, rfl, ?_⟩
            · rw [mu_app, mu_app, mu_low]
              show mu W0 + (1 + 0) + 2 * Xp.sizes as < _
              omega
            · exact ((aW2.mono (AtP.kp k3)).mono (AtP.kp k4)).app aacc |>.mono (AtP.kp k5)
            · intro p hp
              rcases List.mem_append.mp hp with hp | hp
              · rcases List.mem_append.mp hp with hp | hp
                · exact hF0 p hp
                · rw [List.mem_singleton.mp hp]
                  exact hx
              · obtain ⟨a, ha, rfl⟩ := List.mem_map.mp hp
                exact hfa a ha
            · rw [List.reverse_append, List.reverse_append]
              show fin ρ ((low as).reverse ++ ((Xp.n f as, true) :: W0.reverse)) M.reverse = _
              rw [fin_n]
              exact hfin
            · rw [mu_app, mu_app, mu_low]
              show mu W0 + (1 + 0) + 2 * Xp.sizes as + M.length ≤ 200000
              omega
        | true =>
          refine ⟨_, rfl, _, rfl, iteF ?_⟩
          have hlr : as.length ≤ M.reverse.length := by
            by_cases z : as.length ≤ M.reverse.length
            · exact z
            · have : fin ρ ((.n f as, true) :: W0.reverse) M.reverse = none := if_neg z
              rw [hfin] at this
              cases this
          have hfin2 : fin ρ W0.reverse (.l (.w (rw_ ρ f) :: M.reverse.take as.length) :: M.reverse.drop as.length) = some [(e0.ren ρ).t] := by
            rw [← hfin]
            exact (if_pos hlr).symm
          refine ⟨_, rfl, _, 0, _, hxv, rfl, rfl, fun v1 h1 => ?_⟩
          obtain rfl := at_w h1
          refine fun aS hS => ?_
          obtain ⟨aS', xS, eS, hXS, hAS⟩ := hS Hb
          cases eS
          obtain rfl := aa_words hAS
          refine ⟨aS, _, rfl, .inr hXS.sq, rfl, flatV_strs _, _, rfl, ?_⟩
          rw [show (if false = true then !inV (V.str f) (special.map V.str) else inV (V.str f) (special.map V.str)) = inS f special from inV_strs f special]
          have hrw : rw_ ρ f = (match inS f special with | true => f | false => ρ f) := rfl
          cases hsp : inS f special
          · rw [hsp] at hrw
            have hrw : rw_ ρ f = ρ f := hrw
            refine iteF ⟨_, rfl, _, rfl, _, 0, _, hxv, rfl, rfl, fun v1 h1 => ?_⟩
            obtain rfl := at_w h1
            have hg := DGet.k (k := Sum.inr f) (kAB _ _ hD (.inl (by simp)))
            rw [hρ f (by rw [har]; rfl) hsp, ← hrw] at hg
            refine ⟨d, .str (rw_ ρ f), rfl, hg, ?_⟩
            clear hrw hsp hg
            refine ⟨_, rfl, tyL hMB, _, rfl, [.w (rw_ ρ f)], aa_cons at_wi aa_nil, zle (Nat.le_of_ble_eq_true rfl), fun p2 H2 k2 h2 => ?_⟩
            have hMC := k2 _ _ hMB (.inl (by simp))
            have hWC := k2 _ _ hWB (.inl (by simp))
            have aM1 := k2.aa aM
            have kAC := kAB.trans k2
            refine ⟨_, rfl, _, rfl, _, k2.at_ hxv, .inl ⟨1, rfl, rfl, Nat.le_refl 1, by rw [List.length_cons]; omega, fun p3 H3 k3 h3 => ?_⟩⟩
            have h3 : At K H3 (.l (Xp.ts as)) (.ref p3) := h3
            rw [htl] at h3
            obtain ⟨p3', xs3, e3, hX3, hA3⟩ := id h3
            cases e3
            have hl3 : xs3.length = as.length := by rw [aa_len hA3, List.length_map]
            have hMD := k3 _ _ hMC (.inl (by simp))
            have hWD := k3 _ _ hWC (.inl (by simp))
            have aM2 := k3.aa aM1
            have kAD := kAC.trans k3
            have h2D := k3.at_ h2
            have aWD := (aW0.mono (AtP.kp k2)).mono (AtP.kp k3)
            -- the results, in order
            have hMsplit : M = (M.reverse.drop as.length).reverse ++ (M.reverse.take as.length).reverse := by
              rw [← List.reverse_append, List.take_append_drop, List.reverse_reverse]
            have hRl : (M.reverse.take as.length).length = as.length := by rw [List.length_take]; omega
            have hM0l : (M.reverse.drop as.length).length + as.length = M.length := by
              rw [List.length_drop, List.length_reverse]
              rw [List.length_reverse] at hlr
              omega
            generalize hR : M.reverse.take as.length = R at hMsplit hRl hfin2
            generalize hM0 : M.reverse.drop as.length = M0 at hMsplit hM0l hfin2
            rw [hMsplit] at aM2
            have hmub : mu [((Xp.n f as), true)] = 1 := rfl
            refine ⟨p3, rfl, ⟨xs3, hX3.sq⟩, fun D hD => lc_y walk_tup (fun i H' => ∃ acc ms', Kp [mq] H3 H' ∧ Sm H H' ∧ H' D = some (.lst acc) ∧ H' mq = some (.lst ms') ∧ H' wq = some (.lst us0) ∧ AtAll K H' (R.take i) acc ∧ AtAll K H' (M0.reverse ++ (R.drop i).reverse) ms') ?_ (fun i H' _ ⟨_, _, k, _⟩ => (k.xt hX3).sq) ?_ ?_⟩
            · have hDm : mq ≠ D := by
                rintro rfl
                rw [hMD] at hD
                cases hD
              have hDw : wq ≠ D := by
                rintro rfl
                rw [hWD] at hD
                cases hD
              have kE : Sm H3 (upd H3 D (.lst [])) := Kp.new hD
              exact ⟨[], ms, kE.nil, kAD.trans kE, upd_same, by rw [upd_ne hDm]; exact hMD, by rw [upd_ne hDw]; exact hWD, aa_nil, kE.aa aM2⟩
            · rintro i x H5 H4 hi ⟨acc, ms', k4, kAE, hacc, hME, hWE, aacc, aMs⟩ ⟨rfl, hx4⟩
              have hi2 : i < R.length := by omega
              have eR : R.drop i = R[i] :: R.drop (i + 1) := List.drop_eq_getElem_cons hi2
              have eT : R.take (i + 1) = R.take i ++ [R[i]] := by
                rw [List.take_add_one, List.getElem?_eq_getElem hi2]
                rfl
              rw [eR, List.reverse_cons, ← List.append_assoc] at aMs
              obtain ⟨ms0, y, rfl, aMs0, hy⟩ := aa_snoc aMs
              have hDm : mq ≠ D := by
                rintro rfl
                rw [hMD] at hD
                cases hD
              have hDw : wq ≠ D := by
                rintro rfl
                rw [hWD] at hD
                cases hD
              refine ⟨rfl, _, rfl, tyL hME, mq, _, y, rfl, rfl, hME, last_at _ _, ?_⟩
              rw [dl_at]
              have k5 : Kp [mq] H4 (upd H4 mq (.lst ms0)) := Kp.own hME
              have hacc5 : (upd H4 mq (.lst ms0)) D = some (.lst acc) := by rw [upd_ne (Ne.symm hDm)]; exact hacc
              have hla := aa_len aacc
              rw [List.length_take] at hla
              refine ⟨acc, hacc5, by rw [sizeLine_eq]; omega, acc ++ [y], ms0, ?_⟩
              have k6 : Kp [D] (upd H4 mq (.lst ms0)) (upd (upd H4 mq (.lst ms0)) D (.lst (acc ++ [y]))) := Kp.own hacc5
              refine ⟨(k4.trans k5).set hD, (kAE.set hm0).set (kAD.none hD), upd_same, by rw [upd_ne hDm, upd_same], by rw [upd_ne hDw, upd_ne (Ne.symm hne)]; exact hWE, ?_, k6.aa (k5.aa aMs0)⟩
              rw [eT]
              exact aa_app (k6.aa (k5.aa aacc)) (aa_cons (k6.at_ (k5.at_ hy)) aa_nil)
            · rintro H4 ⟨acc, ms', k4, kAE, hacc, hME, hWE, aacc, aMs⟩
              rw [hl3, ← hRl, List.take_length] at aacc
              rw [hl3, ← hRl, List.drop_length, List.reverse_nil, List.append_nil] at aMs
              have hlM0 := aa_len aMs
              rw [List.length_reverse] at hlM0
              refine ⟨D, acc, R, rfl, sq_lst hacc, aacc, fun p4 H5 k5 h5 => ?_⟩
              refine ⟨_, R, k5.at_ (k4.at_ h2D), h5, by rw [hRl, sizeLine_eq]; show 1 + _ ≤ _; omega, fun p5 H6 k6 h6 => ?_⟩
              have h6 : At K H6 (.l (.w (rw_ ρ f) :: R)) (.ref p5) := h6
              have kE6 := k5.trans k6
              have hMF := kE6 _ _ hME (.inl (by simp))
              have hWF := kE6 _ _ hWE (.inl (by simp))
              refine ⟨mq, ms', .ref p5, rfl, rfl, hMF, by rw [sizeLine_eq]; omega, ?_⟩
              have k7 : Kp [mq] H6 (upd H6 mq (.lst (ms' ++ [.ref p5]))) := Kp.own hMF
              refine ⟨mu W0, by omega, _, _, _, _, _, W0, M0.reverse ++ [.l (.w (rw_ ρ f) :: R)], us0, ms' ++ [.ref p5], rfl, (kAE.trans kE6).set hm0, by rw [upd_ne (Ne.symm hne)]; exact hWF, upd_same, ?_, aa_app (k7.aa (kE6.aa aMs)) (aa_cons (k7.at_ h6) aa_nil), hF0, ?_, rfl, ?_⟩
              · exact ((aWD.mono (AtP.kp k4)).mono (AtP.kp kE6)).mono (AtP.kp k7)
              · rw [List.reverse_append, List.reverse_reverse]
                exact hfin2
              · rw [List.length_append, List.length_singleton, List.length_reverse]
                omega
          · rw [hsp] at hrw
            have hrw : rw_ ρ f = f := hrw
            refine iteT ⟨_, rfl, _, 0, _, hxv, rfl, rfl, fun v1 h1 => ?_⟩
            have hv1 : v1 = V.str (rw_ ρ f) := by rw [hrw]; exact at_w h1
            subst hv1
            clear hrw hsp
            refine ⟨_, rfl, tyL hMB, _, rfl, [.w (rw_ ρ f)], aa_cons at_wi aa_nil, zle (Nat.le_of_ble_eq_true rfl), fun p2 H2 k2 h2 => ?_⟩
            have hMC := k2 _ _ hMB (.inl (by simp))
            have hWC := k2 _ _ hWB (.inl (by simp))
            have aM1 := k2.aa aM
            have kAC := kAB.trans k2
            refine ⟨_, rfl, _, rfl, _, k2.at_ hxv, .inl ⟨1, rfl, rfl, Nat.le_refl 1, by rw [List.length_cons]; omega, fun p3 H3 k3 h3 => ?_⟩⟩
            have h3 : At K H3 (.l (Xp.ts as)) (.ref p3) := h3
            rw [htl] at h3
            obtain ⟨p3', xs3, e3, hX3, hA3⟩ := id h3
            cases e3
            have hl3 : xs3.length = as.length := by rw [aa_len hA3, List.length_map]
            have hMD := k3 _ _ hMC (.inl (by simp))
            have hWD := k3 _ _ hWC (.inl (by simp))
            have aM2 := k3.aa aM1
            have kAD := kAC.trans k3
            have h2D := k3.at_ h2
            have aWD := (aW0.mono (AtP.kp k2)).mono (AtP.kp k3)
            -- the results, in order
            have hMsplit : M = (M.reverse.drop as.length).reverse ++ (M.reverse.take as.length).reverse := by
              rw [← List.reverse_append, List.take_append_drop, List.reverse_reverse]
            have hRl : (M.reverse.take as.length).length = as.length := by rw [List.length_take]; omega
            have hM0l : (M.reverse.drop as.length).length + as.length = M.length := by
              rw [List.length_drop, List.length_reverse]
              rw [List.length_reverse] at hlr
              omega
            generalize hR : M.reverse.take as.length = R at hMsplit hRl hfin2
            generalize hM0 : M.reverse.drop as.length = M0 at hMsplit hM0l hfin2
            rw [hMsplit] at aM2
            have hmub : mu [((Xp.n f as), true)] = 1 := rfl
            refine ⟨p3, rfl, ⟨xs3, hX3.sq⟩, fun D hD => lc_y walk_tup (fun i H' => ∃ acc ms', Kp [mq] H3 H' ∧ Sm H H' ∧ H' D = some (.lst acc) ∧ H' mq = some (.lst ms') ∧ H' wq = some (.lst us0) ∧ AtAll K H' (R.take i) acc ∧ AtAll K H' (M0.reverse ++ (R.drop i).reverse) ms') ?_ (fun i H' _ ⟨_, _, k, _⟩ => (k.xt hX3).sq) ?_ ?_⟩
            · have hDm : mq ≠ D := by
                rintro rfl
                rw [hMD] at hD
                cases hD
              have hDw : wq ≠ D := by
                rintro rfl
                rw [hWD] at hD
                cases hD
              have kE : Sm H3 (upd H3 D (.lst [])) := Kp.new hD
              exact ⟨[], ms, kE.nil, kAD.trans kE, upd_same, by rw [upd_ne hDm]; exact hMD, by rw [upd_ne hDw]; exact hWD, aa_nil, kE.aa aM2⟩
            · rintro i x H5 H4 hi ⟨acc, ms', k4, kAE, hacc, hME, hWE, aacc, aMs⟩ ⟨rfl, hx4⟩
              have hi2 : i < R.length := by omega
              have eR : R.drop i = R[i] :: R.drop (i + 1) := List.drop_eq_getElem_cons hi2
              have eT : R.take (i + 1) = R.take i ++ [R[i]] := by
                rw [List.take_add_one, List.getElem?_eq_getElem hi2]
                rfl
              rw [eR, List.reverse_cons, ← List.append_assoc] at aMs
              obtain ⟨ms0, y, rfl, aMs0, hy⟩ := aa_snoc aMs
              have hDm : mq ≠ D := by
                rintro rfl
                rw [hMD] at hD
                cases hD
              have hDw : wq ≠ D := by
                rintro rfl
                rw [hWD] at hD
                cases hD
              refine ⟨rfl, _, rfl, tyL hME, mq, _, y, rfl, rfl, hME, last_at _ _, ?_⟩
              rw [dl_at]
              have k5 : Kp [mq] H4 (upd H4 mq (.lst ms0)) := Kp.own hME
              have hacc5 : (upd H4 mq (.lst ms0)) D = some (.lst acc) := by rw [upd_ne (Ne.symm hDm)]; exact hacc
              have hla := aa_len aacc
              rw [List.length_take] at hla
              refine ⟨acc, hacc5, by rw [sizeLine_eq]; omega, acc ++ [y], ms0, ?_⟩
              have k6 : Kp [D] (upd H4 mq (.lst ms0)) (upd (upd H4 mq (.lst ms0)) D (.lst (acc ++ [y]))) := Kp.own hacc5
              refine ⟨(k4.trans k5).set hD, (kAE.set hm0).set (kAD.none hD), upd_same, by rw [upd_ne hDm, upd_same], by rw [upd_ne hDw, upd_ne (Ne.symm hne)]; exact hWE, ?_, k6.aa (k5.aa aMs0)⟩
              rw [eT]
              exact aa_app (k6.aa (k5.aa aacc)) (aa_cons (k6.at_ (k5.at_ hy)) aa_nil)
            · rintro H4 ⟨acc, ms', k4, kAE, hacc, hME, hWE, aacc, aMs⟩
              rw [hl3, ← hRl, List.take_length] at aacc
              rw [hl3, ← hRl, List.drop_length, List.reverse_nil, List.append_nil] at aMs
              have hlM0 := aa_len aMs
              rw [List.length_reverse] at hlM0
              refine ⟨D, acc, R, rfl, sq_lst hacc, aacc, fun p4 H5 k5 h5 => ?_⟩
              refine ⟨_, R, k5.at_ (k4.at_ h2D), h5, by rw [hRl, sizeLine_eq]; show 1 + _ ≤ _; omega, fun p5 H6 k6 h6 => ?_⟩
              have h6 : At K H6 (.l (.w (rw_ ρ f) :: R)) (.ref p5) := h6
              have kE6 := k5.trans k6
              have hMF := kE6 _ _ hME (.inl (by simp))
              have hWF := kE6 _ _ hWE (.inl (by simp))
              refine ⟨mq, ms', .ref p5, rfl, rfl, hMF, by rw [sizeLine_eq]; omega, ?_⟩
              have k7 : Kp [mq] H6 (upd H6 mq (.lst (ms' ++ [.ref p5]))) := Kp.own hMF
              refine ⟨mu W0, by omega, _, _, _, _, _, W0, M0.reverse ++ [.l (.w (rw_ ρ f) :: R)], us0, ms' ++ [.ref p5], rfl, (kAE.trans kE6).set hm0, by rw [upd_ne (Ne.symm hne)]; exact hWF, upd_same, ?_, aa_app (k7.aa (kE6.aa aMs)) (aa_cons (k7.at_ h6) aa_nil), hF0, ?_, rfl, ?_⟩
              · exact ((aWD.mono (AtP.kp k4)).mono (AtP.kp kE6)).mono (AtP.kp k7)
              · rw [List.reverse_append, List.reverse_reverse]
                exact hfin2
              · rw [List.length_append, List.length_singleton, List.length_reverse]
                omega
end
end G
set_option maxRecDepth 100000
set_option maxHeartbeats 4000000
/-! F2c: renamed, joined, filled_tree. -/
namespace G
open PySem PySem.Spec PyProof.Rows L2
theorem pe_tupK {X : Cx} {es : List Expr} {t : TA} {x1} {pos : Pos} (K : PySem.W.Frag) (hK : X.K = K) (h : PA X es t) : PE X (.Tuple es x1 pos) (tTupTr K t) := by
  subst hK
  exact pe_tupT h
theorem pg_tupK {X : Cx} {es : List Expr} {k : Nat} {pos : Pos} {t : TGs} (K : PySem.W.Frag) (hK : X.K = K) (n : Nat) (hc : X.calm = true) (h : PGs X es t)
    (hn : (assignEach es X.env).length = n := by rfl) (hst : (assignEach es X.env).findIdx? (·.1) = none := by rfl) : PG X (.Tuple es k pos) (gTup K n t) := by
  subst hK
  exact pg_tup hc h hn hst
theorem ren_get (ρ : Str → Str) : ∀ (fs : List Fn) (k i : Nat), (renFrom ρ k fs)[i]? = fs[i]?.map fun f => ⟨mn (k + i), f.ps, f.body.ren ρ⟩
  | [], k, i => rfl
  | f :: r, k, 0 => rfl
  | f :: r, k, i + 1 => by
    show (renFrom ρ (k + 1) r)[i]? = r[i]?.map _
    rw [ren_get ρ r (k + 1) i, show k + 1 + i = k + (i + 1) by omega]
theorem ren_len (ρ : Str → Str) : ∀ (fs : List Fn) (k : Nat), (renFrom ρ k fs).length = fs.length
  | [], k => rfl
  | f :: r, k => by
    show (renFrom ρ (k + 1) r).length + 1 = r.length + 1
    rw [ren_len ρ r (k + 1)]
theorem renOf_at : ∀ {fs : List Fn} {k i : Nat} {f : Fn}, nodupS (fs.map Fn.name) = true → fs[i]? = some f → renOf fs k f.name = mn (k + i)
  | [], k, i, f, _, h => by cases h
  | g :: r, k, 0, f, _, h => by
    cases h
    show (match seq g.name g.name with | true => mn k | false => renOf r (k + 1) g.name) = _
    rw [seq_self]
    rfl
  | g :: r, k, i + 1, f, hn, h => by
    obtain ⟨h1, h2⟩ := ba2 (show (!(inS g.name (r.map Fn.name)) && nodupS (r.map Fn.name)) = true from hn)
    have h3 : r[i]? = some f := h
    show (match seq g.name f.name with | true => mn k | false => renOf r (k + 1) f.name) = _
    have hne : g.name ≠ f.name := fun e => by
      have : inS g.name (r.map Fn.name) = true := inS_iff.mpr (by rw [e]; exact List.mem_map_of_mem (List.mem_of_getElem? h3))
      rw [this] at h1
      cases h1
    rw [seq_ne hne]
    show renOf r (k + 1) f.name = _
    rw [renOf_at h2 h3, show k + 1 + i = k + (i + 1) by omega]
theorem lookN_mem {s : Str} : ∀ {l : List (Str × Nat)}, (lookN s l).isSome = true → ∃ (i : Nat) (p : Str × Nat), l[i]? = some p ∧ p.1 = s
  | [], h => by cases h
  | (k, n) :: r, h => by
    have h : (match seq k s with | true => some n | false => lookN s r).isSome = true := h
    cases e : seq k s with
    | true => exact ⟨0, (k, n), rfl, seq_iff.mp e⟩
    | false =>
      rw [e] at h
      obtain ⟨i, p, h1, h2⟩ := lookN_mem (l := r) h
      exact ⟨i + 1, p, h1, h2⟩
theorem arity_fn {fs : List Fn} {f : Str} (h : (arity fs f).isSome = true) (hs : inS f special = false) : ∃ (i : Nat) (g : Fn), fs[i]? = some g ∧ g.name = f := by
  unfold arity at h
  rw [lookN_app, special_none (by rw [hs]; rfl)] at h
  obtain ⟨i, p, h1, h2⟩ := lookN_mem h
  rw [List.getElem?_map] at h1
  cases z : fs[i]? with
  | none =>
    rw [z] at h1
    cases h1
  | some g =>
    rw [z] at h1
    cases h1
    exact ⟨i, g, z, h2⟩
theorem aa_snocI {K : PySem.W.Frag} {H : Hp} {ts : List T} {t : T} {vs : List V} {v : V} (h : AtAll K H ts vs) (h2 : At K H t v) : AtAll K H (ts ++ [t]) (vs ++ [v]) := aa_app h (aa_cons h2 aa_nil)
section
variable {P : Program} {w : World} {K : PySem.W.Frag} {mg : Str → Option Value} {base : Heap}
def sp_renamed (K : PySem.W.Frag) : Sp := fun vs H Q _ => ∃ v, ∃ (fs : List Fn) (start : Nat), vs = [v, .int (start : Int)] ∧ At K H (progT fs) v ∧ good fs = true ∧ start ≤ 100000 ∧ ans K (progT (renamed fs start)) H Q
theorem sc_renamed : FnScope ["program", "start", "names", "number", "name", "parameters", "body"] ["program", "start"] (defScope s_renamed) := ⟨rfl, rfl, rfl, by decide +kernel, rfl, by decide +kernel, by decide +kernel⟩
theorem f_renamed (T : Txt w K mg) : Clb P w K mg base "renamed" 5 ["program", "start"] (sp_renamed K) := by
  have F_check_program : Clb P w K mg base "check_program" 4 ["value"] (sp_check_program K) := f_check_program T
  have F_made_name : Clb P w K mg base "made_name" 1 ["number"] sp_made_name := f_made_name T
  have F_renamed_expression : Clb P w K mg base "renamed_expression" 1 ["expression", "names"] (sp_renamed_expression K) := f_renamed_expression T
  refine T.d_renamed.clb sc_renamed (fun _ _ _ _ _ _ us hl => match us, hl with | [_, _], _ => rfl) (fun vs H Q E h => ?_) (fun f cdv A outer s H vs Q E hr h => ?_)
  · obtain ⟨_, _, _, rfl, _⟩ := h
    rfl
  · obtain ⟨v, fs, start, rfl, h, hg, hst, q⟩ := h
    have hu := hu_of hr
    obtain ⟨hne, hnd, hlen, hok⟩ := good_parts hg
    refine ⟨_, (pss_cons (ps_expr (pe_c F_check_program (hr.mono (by decide)) (pa_cons (pv 0) pa_nil)))
      (pss_cons (ps_set (i := 2) sc_renamed.nd rfl (Or.inr rfl) pe_dnewK)
      (pss_cons (ps_for PassesOwn.never rfl (pi_enumT (by rfl) T.n_enumerate (pa_cons (pv 0) pa_nil)) (pg_tupK K rfl 2 rfl (pgs_cons (pg_name (i := 3) sc_renamed.nd rfl (Or.inl rfl)) (pgs_cons (pg_tupK K rfl 3 rfl (pgs_cons (pg_name (i := 4) sc_renamed.nd rfl (Or.inl rfl)) (pgs_cons (pg_name (i := 5) sc_renamed.nd rfl (Or.inl rfl)) (pgs_cons (pg_name (i := 6) sc_renamed.nd rfl (Or.inl rfl)) pgs_nil)))) pgs_nil))) (pss_one (ps_dput hu (pv 2) (pv 4) (pe_c F_made_name (hr.mono (by decide)) (pa_cons (pe_op op_add (pv 1) (pv 3)) pa_nil)) rfl)))
      (pss_one (ps_ret (pe_callTy call_tupTr (by rfl) T.n_tuple PyProof.Rows.boot_tuple (pa_cons (pe_lc (own := [("name", 4), ("parameters", 5), ("body", 6)]) rfl sc_renamed.nd (pi_tup (pv 0)) (blkOk_by (N := ["program", "start", "names", "number", "name", "parameters", "body"]) (sc := defScope s_renamed) (by decide +kernel)) (fun _ _ _ _ _ => (pg_tupK K rfl 3 rfl (pgs_cons (pg_name (i := 4) sc_renamed.nd rfl (Or.inl rfl)) (pgs_cons (pg_name (i := 5) sc_renamed.nd rfl (Or.inl rfl)) (pgs_cons (pg_name (i := 6) sc_renamed.nd rfl (Or.inl rfl)) pgs_nil))))) (fun _ _ _ _ _ => pts_nil) (fun _ _ _ _ _ => (pe_tupK K rfl (pa_cons (pe_dget hu (pv 2) (pv 4) (fun _ _ => rfl)) (pa_cons (pv 5) (pa_cons (pe_c F_renamed_expression (hr.mono (by decide)) (pa_cons (pv 6) (pa_cons (pv 2) pa_nil))) pa_nil)))))) pa_nil))))))), ?_⟩
    refine ⟨_, rfl, v, fs, rfl, h, hg, fun H1 k1 => ?_⟩
    intro d hd
    have k2 : Sm H (upd H1 d (.dK [])) := k1.set (k1.none hd)
    have hd0 := k1.none hd
    have hD2 : (upd H1 d (.dK [])) d = some (.dK []) := upd_same
    generalize upd H1 d (.dK []) = H2 at k2 hD2
    obtain ⟨p, xs, rfl, hX, hA⟩ := id h
    have hxl : xs.length = fs.length := by rw [aa_len hA, List.length_map]
    refine ⟨_, rfl, p, xs, rfl, (k2.xt hX).sq, for_it walk_enumT (fun i σ H' => ∃ v3 v4 v5 v6 ks, σ = [some (.ref p), some (.int (start : Int)), some (.ref d), v3, v4, v5, v6] ∧ Sm H H' ∧ H' d = some (.dK ks) ∧ ks.length ≤ i ∧
      ∀ j g, j < i → fs[j]? = some g → valV ks (Sum.inr g.name) = some (.str (mn (start + j)))) ⟨none, none, none, none, [], rfl, k2, hD2, Nat.le_refl _, fun j _ hj => absurd hj (Nat.not_lt_zero j)⟩ (fun i σ H' _ ⟨_, _, _, _, _, _, k, _⟩ => (k.xt hX).sq) ?_ ?_⟩
    · rintro i x σ Ha Hb hi ⟨v3, v4, v5, v6, ks, rfl, k3, hE, hkl, hks⟩ ⟨tp, x1, x2, rfl, htp, rfl, e1, e2⟩
      cases e1
      obtain ⟨fn, hfn, hAt⟩ := aa_prog hA (show xs[i]? = some x2 from e2)
      have k4 : Sm H (upd Ha tp (.tup [.int (i : Nat), x2])) := k3.set (k3.none htp)
      have k4a : Sm Ha (upd Ha tp (.tup [.int (i : Nat), x2])) := Kp.new htp
      have hE := k4a _ _ hE (.inl (by simp))
      refine ⟨tp, _, rfl, st_tup upd_same, rfl, _, _, rfl, _, _, rfl, ?_⟩
      have hAt := k4.at_ hAt
      generalize upd Ha tp (.tup [.int (i : Nat), x2]) = Hc at k4 hE hAt
      obtain ⟨a2, ys, rfl, hX2, hA2⟩ := id hAt
      obtain ⟨y1, r1, rfl, b1, hA3⟩ := hA2
      obtain ⟨y2, r2, rfl, b2, hA4⟩ := hA3
      obtain ⟨y3, r3, rfl, b3, hA5⟩ := hA4
      obtain rfl := aa_nil' hA5
      obtain rfl := at_w b1
      refine ⟨a2, _, rfl, hX2.sq, rfl, _, _, rfl, _, _, rfl, _, _, rfl, rfl, rfl, ?_⟩
      refine ⟨_, rfl, _, rfl, _, _, rfl, rfl, start + i, ?_, by omega, ?_⟩
      · rw [Int.natCast_add] <;> rfl
      · refine ⟨_, rfl, _, rfl, d, _, rfl, DPut.k (k := Sum.inr fn.name) hE (by rw [sizeLine_eq]; omega), ?_⟩
        refine ⟨_, _, _, _, _, rfl, k4.set hd0, upd_same, Nat.le_trans (length_putK _ _ _) (by omega), fun j g hj hgj => ?_⟩
        have hi2 : (fs.map Fn.name)[i]? = some fn.name := by rw [List.getElem?_map, hfn]; rfl
        rw [valV_put]
        by_cases hji : j = i
        · subst hji
          rw [hfn] at hgj
          cases hgj
          rw [if_pos rfl]
        · rw [if_neg (fun z => hji (nodup_at hnd (by rw [List.getElem?_map, hgj]; exact congrArg some (Sum.inr.inj z)) hi2)), hks j g (by omega) hgj]
    · rintro σ Ha ⟨v3, v4, v5, v6, ks, rfl, k3, hE, hkl, hks⟩
      have hρ : ∀ f, (arity fs f).isSome = true → inS f special = false → valV ks (Sum.inr f) = some (.str (renOf fs start f)) := fun f h1 h2 => by
        obtain ⟨i, g, h3, rfl⟩ := arity_fn h1 h2
        rw [hks i g (by rw [hxl]; exact (List.getElem?_eq_some_iff.mp h3).1) h3, renOf_at hnd h3]
      refine ⟨_, rfl, p, rfl, ⟨xs, (k3.xt hX).sq⟩, fun D hD => lc_y walk_tup (fun i H' => Sm Ha H' ∧ ∃ acc, H' D = some (.lst acc) ∧ AtAll K H' (((renamed fs start).take i).map Fn.t) acc) ⟨Kp.new hD, [], upd_same, aa_nil⟩ (fun i H' _ ⟨k, _⟩ => ((k3.trans k).xt hX).sq) ?_ ?_⟩
      · rintro i x Hc Hb hi ⟨k4, acc, hacc, aacc⟩ ⟨rfl, hx⟩
        obtain ⟨fn, hfn, hAt⟩ := aa_prog hA hx
        have hfok := fn_parts (hok fn (List.mem_of_getElem? hfn))
        have hAt := (k3.trans k4).at_ hAt
        obtain ⟨a2, ys, rfl, hX2, hA2⟩ := id hAt
        obtain ⟨y1, r1, rfl, b1, hA3⟩ := hA2
        obtain ⟨y2, r2, rfl, b2, hA4⟩ := hA3
        obtain ⟨y3, r3, rfl, b3, hA5⟩ := hA4
        obtain rfl := aa_nil' hA5
        obtain rfl := at_w b1
        refine ⟨a2, _, rfl, hX2.sq, rfl, _, _, rfl, _, _, rfl, _, _, rfl, rfl, rfl, ?_⟩
        have hg1 := DGet.k (k := Sum.inr fn.name) (k4 _ _ hE (.inl (by simp)))
        have hil : i < fs.length := (List.getElem?_eq_some_iff.mp hfn).1
        rw [hks i fn (by omega) hfn] at hg1
        refine ⟨_, rfl, _, rfl, d, _, rfl, hg1, _, rfl, _, rfl, _, rfl, y3, d, fn.body, fn.ps, arity fs, renOf fs start, ks, rfl, b3, k4 _ _ hE (.inl (by simp)), hfok.fit, hfok.bz, hρ, fun v9 H9 k9 h9 => ?_⟩
        have e9 : (renamed fs start).take (i + 1) = (renamed fs start).take i ++ [⟨mn (start + i), fn.ps, fn.body.ren (renOf fs start)⟩] := by
          rw [List.take_add_one]
          unfold renamed
          rw [ren_get, hfn]
          rfl
        refine ⟨[.w (mn (start + i)), .l (fn.ps.map .w), (fn.body.ren (renOf fs start)).t], aa_cons at_wi (aa_cons (k9.at_ b2) (aa_cons h9 aa_nil)), zle (Nat.le_of_ble_eq_true rfl), fun p8 H8 k8 h8 => ?_⟩
        have hacc8 := k8 _ _ (k9 _ _ hacc (.inl (by simp))) (.inl (by simp))
        have hla := aa_len aacc
        rw [List.length_map, List.length_take] at hla
        have k7 : Kp [D] H8 (upd H8 D (.lst (acc ++ [.ref p8]))) := Kp.own hacc8
        refine ⟨acc, hacc8, by rw [sizeLine_eq]; omega, ((k4.trans k9).trans k8).set hD, _, upd_same, ?_⟩
        rw [e9, List.map_append]
        exact aa_snocI (k7.aa (k8.aa (k9.aa aacc))) (k7.at_ h8)
      · rintro Hc ⟨k4, acc, hacc, aacc⟩
        rw [hxl, show fs.length = (renamed fs start).length from (ren_len _ _ _).symm, List.take_length] at aacc
        exact ⟨D, acc, _, rfl, sq_lst hacc, aacc, q.new (k3.trans k4)⟩
/-! ### joined -/
def sp_joined (K : PySem.W.Frag) : Sp := fun vs H Q _ => ∃ p xs, ∃ ps : List (List Fn), vs = [.ref p] ∧ H p = some (.lst xs) ∧ AtAll K H (ps.map progT) xs ∧ (∀ q ∈ ps, good q = true) ∧ ps.length ≤ 12 ∧
  ∀ t fv m H', Sm H H' → XT K H' t [fv, .ref m] → At K H' (progT (joined ps)) fv → H' m = some (.lst ((mains ps).map V.str)) → Q (.ref t) H'
theorem sc_joined : FnScope ["programs", "functions", "mains", "program"] ["programs"] (defScope s_joined) := ⟨rfl, rfl, rfl, by decide +kernel, rfl, by decide +kernel, by decide +kernel⟩
theorem renamed_len (fs : List Fn) (k : Nat) : (renamed fs k).length = fs.length := ren_len _ _ _
theorem f_joined (T : Txt w K mg) : Clb P w K mg base "joined" 6 ["programs"] (sp_joined K) := by
  have F_made_name : Clb P w K mg base "made_name" 1 ["number"] sp_made_name := f_made_name T
  have F_renamed : Clb P w K mg base "renamed" 5 ["program", "start"] (sp_renamed K) := f_renamed T
  refine T.d_joined.clb sc_joined (fun _ _ _ _ _ _ us hl => match us, hl with | [_], _ => rfl) (fun vs H Q E h => ?_) (fun f cdv A outer s H vs Q E hr h => ?_)
  · obtain ⟨_, _, _, rfl, _⟩ := h
    rfl
  · obtain ⟨p, xs, ps, rfl, hp, hA, hg, h12, q⟩ := h
    refine ⟨_, (pss_cons (ps_set (i := 1) sc_joined.nd rfl (Or.inl rfl) (pe_tupT pa_nil))
      (pss_cons (ps_set (i := 2) sc_joined.nd rfl (Or.inl rfl) (pe_lst pa_nil))
      (pss_cons (ps_for PassesOwn.never rfl (pi_list (pv 0)) (pg_name (i := 3) sc_joined.nd rfl (Or.inl rfl)) (pss_cons (ps_expr (pe_bm PySem.F.plainAttrs_list PySem.F.slot_list_append PySem.F.type_list_append mt_append (pv 2) (pa_cons (pe_c F_made_name (hr.mono (by decide)) (pa_cons (pe_callB call_lenT (by rfl) T.n_len PySem.boot_len (pa_cons (pv 1) pa_nil)) pa_nil)) pa_nil)))
      (pss_one (ps_set (i := 1) sc_joined.nd rfl (Or.inl rfl) (pe_op op_catTr (pv 1) (pe_c F_renamed (hr.mono (by decide)) (pa_cons (pv 3) (pa_cons (pe_callB call_lenT (by rfl) T.n_len PySem.boot_len (pa_cons (pv 1) pa_nil)) pa_nil))))))))
      (pss_one (ps_ret (pe_tupX (pa_cons (pv 1) (pa_cons (pv 2) pa_nil)))))))), ?_⟩
    refine ⟨[], aa_nil, zle (Nat.le_of_ble_eq_true rfl), fun p1 H1 k1 h1 => ⟨zle (Nat.le_of_ble_eq_true rfl), fun m hm => ?_⟩⟩
    have hm0 := k1.none hm
    have k2 : Sm H (upd H1 m (.lst [])) := k1.set hm0
    have h1 := (show Sm H1 (upd H1 m (.lst [])) from Kp.new hm).at_ h1
    have hM : (upd H1 m (.lst [])) m = some (.lst []) := upd_same
    generalize upd H1 m (.lst []) = H2 at k2 h1 hM
    have hxl : xs.length = ps.length := by rw [aa_len hA, List.length_map]
    refine ⟨_, rfl, p, rfl, ⟨xs, sq_lst (k2 _ _ hp (.inl (by simp)))⟩, for_list (K := K) (a := p) (xs := xs) (fun i σ H' => ∃ v1 v3, ∃ (acc : List Fn) (ms : List Str), σ = [some (.ref p), some v1, some (.ref m), v3] ∧ Sm H H' ∧ At K H' (progT acc) v1 ∧ H' m = some (.lst (ms.map V.str)) ∧
      joinedFrom acc (ps.drop i) = joined ps ∧ ms ++ mainsFrom acc.length (ps.drop i) = mains ps ∧ acc.length ≤ 1000 * i ∧ ms.length = i)
      ⟨_, none, [], [], rfl, k2, h1, hM, rfl, rfl, Nat.zero_le _, rfl⟩ (fun i σ H' _ ⟨_, _, _, _, _, k, _⟩ => sq_lst (k _ _ hp (.inl (by simp)))) ?_ ?_⟩
    · rintro i x σ Ha hi ⟨v1, v3, acc, ms, rfl, k3, hacc, hM, hj, hms, hal, hml⟩
      obtain ⟨t, ht, hAt⟩ := aa_at hA hi
      rw [List.getElem?_map] at ht
      obtain ⟨pr, hpr, rfl⟩ : ∃ pr, ps[i]? = some pr ∧ t = progT pr := by
        cases z : ps[i]? with
        | none =>
          rw [z] at ht
          cases ht
        | some pr =>
          rw [z] at ht
          cases ht
          exact ⟨pr, rfl, rfl⟩
      have hil : i < ps.length := (List.getElem?_eq_some_iff.mp hpr).1
      have hgp := hg pr (List.mem_of_getElem? hpr)
      have hprl := (good_parts hgp).2.2.1
      have hdrop : ps.drop i = pr :: ps.drop (i + 1) := by
        rw [List.drop_eq_getElem_cons hil]
        rw [List.getElem?_eq_getElem hil] at hpr
        rw [Option.some.inj hpr]
      rw [hdrop] at hj hms
      refine ⟨_, rfl, tyL hM, _, rfl, _, _, rfl, hacc, acc.length, by rw [List.length_map] <;> rfl, by omega, m, _, _, rfl, rfl, hM, by rw [List.length_map, sizeLine_eq]; omega, ?_⟩
      have k4 : Kp [m] Ha (upd Ha m (.lst (ms.map V.str ++ [.str (mn acc.length)]))) := Kp.own hM
      have k5 : Sm H (upd Ha m (.lst (ms.map V.str ++ [.str (mn acc.length)]))) := k3.set hm0
      have hM5 : (upd Ha m (.lst (ms.map V.str ++ [.str (mn acc.length)]))) m = some (.lst ((ms ++ [mn acc.length]).map V.str)) := by rw [List.map_append]; exact upd_same
      have hacc5 := k4.at_ hacc
      have hAt5 := k5.at_ hAt
      generalize upd Ha m (.lst (ms.map V.str ++ [.str (mn acc.length)])) = Hb at k5 hM5 hacc5 hAt5
      refine ⟨_, rfl, _, rfl, _, rfl, _, _, rfl, hacc5, x, pr, acc.length, by rw [List.length_map] <;> rfl, hAt5, hgp, by omega, fun v6 H6 k6 h6 => ?_⟩
      refine ⟨acc.map Fn.t, (renamed pr acc.length).map Fn.t, k6.at_ hacc5, h6, by rw [List.length_map, List.length_map, renamed_len, sizeLine_eq]; omega, fun p7 H7 k7 h7 => ?_⟩
      refine ⟨_, _, acc ++ renamed pr acc.length, ms ++ [mn acc.length], rfl, (k5.trans k6).trans k7, ?_, k7 _ _ (k6 _ _ hM5 (.inl (by simp))) (.inl (by simp)), hj, ?_, by rw [List.length_append, renamed_len]; omega, by rw [List.length_append, hml]; rfl⟩
      · show At K H7 (.l ((acc ++ renamed pr acc.length).map Fn.t)) _
        rw [List.map_append]
        exact h7
      · rw [← hms, List.append_assoc, List.length_append, renamed_len]
        rfl
    · rintro σ Ha ⟨v1, v3, acc, ms, rfl, k3, hacc, hM, hj, hms, hal, hml⟩
      rw [hxl, List.drop_length] at hj hms
      have hj2 : acc = joined ps := hj
      have hms2 : ms = mains ps := by rw [← hms]; exact (List.append_nil _).symm
      subst hj2
      subst hms2
      refine ⟨_, rfl, _, rfl, zle (Nat.le_of_ble_eq_true rfl), fun t o ht ho => q t v1 m _ (k3.set (k3.none ht)) (XT.new ho) ((Kp.new (F := []) ht).at_ hacc) ((Kp.new (F := []) ht) _ _ hM (.inl (by simp)))⟩

/-! ### filled_tree -/
theorem lit_s : ("s" : Str) = wS := by decide +kernel
def sp_filled_tree (K : PySem.W.Frag) : Sp := fun vs H Q _ => ∃ (main : Str) (number many : Nat), vs = [.str main, .int (number : Int), .int (many : Int)] ∧ number ≤ 1000000 ∧ many ≤ 1000 ∧ ans K (filledTree main number many).t H Q
theorem sc_filled_tree : FnScope ["main", "number", "many", "inputs", "value", "body", "function"] ["main", "number", "many"] (defScope s_filled_tree) := ⟨rfl, rfl, rfl, by decide +kernel, rfl, by decide +kernel, by decide +kernel⟩
theorem f_filled_tree (T : Txt w K mg) : Clb P w K mg base "filled_tree" 3 ["main", "number", "many"] (sp_filled_tree K) := by
  have F_made_name : Clb P w K mg base "made_name" 1 ["number"] sp_made_name := f_made_name T
  have F_made_parameters : Clb P w K mg base "made_parameters" 1 ["many"] (sp_made_parameters K) := f_made_parameters T
  have F_quoted : Clb P w K mg base "quoted" 1 ["value"] (sp_quoted K) := f_quoted T
  have F_listed : Clb P w K mg base "listed" 2 ["parts"] (sp_listed K) := f_listed T
  refine T.d_filled_tree.clb sc_filled_tree (fun _ _ _ _ _ _ us hl => match us, hl with | [_, _, _], _ => rfl) (fun vs H Q E h => ?_) (fun f cdv A outer s H vs Q E hr h => ?_)
  · obtain ⟨_, _, _, rfl, _⟩ := h
    rfl
  · obtain ⟨main, number, many, rfl, hn, hm, q⟩ := h
    refine ⟨_, (pss_cons (ps_set (i := 3) sc_filled_tree.nd rfl (Or.inl rfl) (pe_c F_made_parameters (hr.mono (by decide)) (pa_cons (pv 2) pa_nil)))
      (pss_cons (ps_set (i := 4) sc_filled_tree.nd rfl (Or.inl rfl) (pe_c F_listed (hr.mono (by decide)) (pa_cons (pe_lst (pa_cons (pe_c F_quoted (hr.mono (by decide)) (pa_cons pe_str pa_nil)) (pa_cons pe_str pa_nil))) pa_nil)))
      (pss_cons (ps_set (i := 5) sc_filled_tree.nd rfl (Or.inl rfl) (pe_tupT (pa_cons pe_str (pa_cons (pe_c F_quoted (hr.mono (by decide)) (pa_cons (pv 0) pa_nil)) (pa_cons (pe_tupT (pa_cons pe_str (pa_cons (pv 4) (pa_cons (pe_c F_quoted (hr.mono (by decide)) (pa_cons (pv 3) pa_nil)) pa_nil)))) pa_nil)))))
      (pss_cons (ps_set (i := 6) sc_filled_tree.nd rfl (Or.inl rfl) (pe_c F_listed (hr.mono (by decide)) (pa_cons (pe_lst (pa_cons (pe_c F_quoted (hr.mono (by decide)) (pa_cons (pe_c F_made_name (hr.mono (by decide)) (pa_cons (pv 1) pa_nil)) pa_nil)) (pa_cons (pe_c F_quoted (hr.mono (by decide)) (pa_cons (pv 3) pa_nil)) (pa_cons (pv 5) pa_nil)))) pa_nil)))
      (pss_one (ps_ret (pe_tupT (pa_cons pe_str (pa_cons (pv 6) (pa_cons pe_str pa_nil)))))))))), ?_⟩
    refine ⟨_, rfl, many, rfl, hm, fun inp H1 k1 hi => ?_⟩
    have hi : At K H1 (.l ((xns many).map .w)) inp := hi
    -- value
    refine ⟨_, .w wQuote, rfl, by rw [lit_quote]; exact at_wi, fun v2 H2 k2 h2 => ⟨zle (Nat.le_of_ble_eq_true rfl), fun p3 hp3 => ?_⟩⟩
    have k3 : Sm H2 (upd H2 p3 (.lst [v2, .str "s"])) := Kp.new hp3
    have hl3 : (upd H2 p3 (.lst [v2, .str "s"])) p3 = some (.lst [v2, .str "s"]) := upd_same
    have h2b := k3.at_ h2
    have k13 := k2.trans k3
    generalize upd H2 p3 (.lst [v2, .str "s"]) = H3 at k3 hl3 h2b k13
    refine ⟨p3, _, [.q (.w wQuote), .v wS], rfl, hl3, aa_cons h2b (aa_cons (by rw [lit_s]; exact at_wi) aa_nil), fun v4 H4 k4 h4 => ?_⟩
    have k14 := k13.trans k4
    -- body
    refine ⟨_, rfl, _, .w main, rfl, at_wi, fun v5 H5 k5 h5 => ?_⟩
    refine ⟨_, rfl, _, rfl, _, _, rfl, k5.at_ (k14.at_ hi), fun v6 H6 k6 h6 => ?_⟩
    refine ⟨[.w wJoin, _, _], aa_cons (by rw [lit_join]; exact at_wi) (aa_cons ((k5.trans k6).at_ h4) (aa_cons h6 aa_nil)), zle (Nat.le_of_ble_eq_true rfl), fun p7 H7 k7 h7 => ?_⟩
    refine ⟨[.w wJoin, _, _], aa_cons (by rw [lit_join]; exact at_wi) (aa_cons ((k6.trans k7).at_ h5) (aa_cons h7 aa_nil)), zle (Nat.le_of_ble_eq_true rfl), fun p8 H8 k8 h8 => ?_⟩
    have k18 := (k14.trans k5).trans (k6.trans (k7.trans k8))
    -- function
    refine ⟨_, rfl, number, rfl, hn, _, .w (mn number), rfl, at_wi, fun v9 H9 k9 h9 => ?_⟩
    refine ⟨_, rfl, _, _, rfl, k9.at_ (k18.at_ hi), fun v10 H10 k10 h10 => ?_⟩
    refine ⟨_, rfl, zle (Nat.le_of_ble_eq_true rfl), fun p11 hp11 => ?_⟩
    have k11 : Sm H10 (upd H10 p11 (.lst [v9, v10, .ref p8])) := Kp.new hp11
    have hl11 : (upd H10 p11 (.lst [v9, v10, .ref p8])) p11 = some (.lst [v9, v10, .ref p8]) := upd_same
    have g9 := k11.at_ (k10.at_ h9)
    have g10 := k11.at_ h10
    have g8 := k11.at_ (k10.at_ (k9.at_ h8))
    have k1b := (k18.trans k9).trans (k10.trans k11)
    generalize upd H10 p11 (.lst [v9, v10, .ref p8]) = H11 at k11 hl11 g9 g10 g8 k1b
    refine ⟨p11, _, [.q (.w (mn number)), .q (.l ((xns many).map .w)), .n wJoin [.q (.w main), .n wJoin [listed [.q (.w wQuote), .v wS], .q (.l ((xns many).map .w))]]], rfl, hl11, aa_cons g9 (aa_cons g10 (aa_cons g8 aa_nil)), fun v12 H12 k12 h12 => ?_⟩
    exact ⟨_, rfl, [.w wJoin, _, .w wS], aa_cons (by rw [lit_join]; exact at_wi) (aa_cons h12 (aa_cons (by rw [lit_s]; exact at_wi) aa_nil)), zle (Nat.le_of_ble_eq_true rfl), q.new ((k1.trans k1b).trans k12)⟩
end
end G
set_option maxRecDepth 100000
set_option maxHeartbeats 4000000
/-! F2d: know_own, ring. -/
namespace G
open PySem PySem.Spec PyProof.Rows L2
theorem joinedFrom_len : ∀ (ps : List (List Fn)) (acc : List Fn), (∀ q ∈ ps, good q = true) → (joinedFrom acc ps).length ≤ acc.length + 1000 * ps.length
  | [], acc, _ => by show acc.length ≤ acc.length + 0; omega
  | p :: r, acc, h => by
    have h1 := joinedFrom_len r (acc ++ renamed p acc.length) (fun q hq => h q (List.mem_cons_of_mem _ hq))
    have h2 := (good_parts (h p (List.mem_cons_self ..))).2.2.1
    rw [List.length_append, renamed_len] at h1
    show (joinedFrom (acc ++ renamed p acc.length) r).length ≤ _
    rw [List.length_cons]
    omega
theorem mains_len : ∀ (ps : List (List Fn)) (k : Nat), (mainsFrom k ps).length = ps.length
  | [], k => rfl
  | p :: r, k => by
    show (mainsFrom _ r).length + 1 = r.length + 1
    rw [mains_len r]
section
variable {P : Program} {w : World} {K : PySem.W.Frag} {mg : Str → Option Value} {base : Heap}
def sp_know_own (K : PySem.W.Frag) : Sp := fun vs H Q _ => ∃ v, ∃ fs : List Fn, vs = [v] ∧ At K H (progT fs) v ∧ good fs = true ∧ 1 ≤ inputsOf fs ∧ inputsOf fs ≤ 9 ∧ good (knowing fs) = true ∧ ans K (progT (knowOwn fs)) H Q
theorem sc_know_own : FnScope ["program", "many", "main", "tree", "inputs", "knowing", "functions", "mains"] ["program"] (defScope s_know_own) := ⟨rfl, rfl, rfl, by decide +kernel, rfl, by decide +kernel, by decide +kernel⟩
theorem f_know_own (T : Txt w K mg) : Clb P w K mg base "know_own" 7 ["program"] (sp_know_own K) := by
  have F_check_program : Clb P w K mg base "check_program" 4 ["value"] (sp_check_program K) := f_check_program T
  have F_inputs_of : Clb P w K mg base "inputs_of" 5 ["program"] (sp_inputs_of K) := f_inputs_of T
  have F_joined : Clb P w K mg base "joined" 6 ["programs"] (sp_joined K) := f_joined T
  have F_made_name : Clb P w K mg base "made_name" 1 ["number"] sp_made_name := f_made_name T
  have F_filled_tree : Clb P w K mg base "filled_tree" 3 ["main", "number", "many"] (sp_filled_tree K) := f_filled_tree T
  have F_made_parameters : Clb P w K mg base "made_parameters" 1 ["many"] (sp_made_parameters K) := f_made_parameters T
  have F_with_main : Clb P w K mg base "with_main" 2 ["functions", "parameters", "body"] (sp_with_main K) := f_with_main T
  have F_fill : Clb P w K mg base "fill" 6 ["program", "value"] (sp_fill K) := f_fill T
  refine T.d_know_own.clb sc_know_own (fun _ _ _ _ _ _ us hl => match us, hl with | [_], _ => rfl) (fun vs H Q E h => ?_) (fun f cdv A outer s H vs Q E hr h => ?_)
  · obtain ⟨_, _, rfl, _⟩ := h
    rfl
  · obtain ⟨v, fs, rfl, h, hg, h1, h9, hgk, q⟩ := h
    refine ⟨_, (pss_cons (ps_expr (pe_c F_check_program (hr.mono (by decide)) (pa_cons (pv 0) pa_nil)))
      (pss_cons (ps_set (i := 1) sc_know_own.nd rfl (Or.inl rfl) (pe_op op_sub (pe_c F_inputs_of (hr.mono (by decide)) (pa_cons (pv 0) pa_nil)) pe_int))
      (pss_cons (ps_if (PW.pt (pw_or (pt_cmpR op_lt (pv 1) pe_int (nomark _)) (pw_or1 (pt_cmpR op_gt (pv 1) (pe_gi T.c_MOST_INPUTS) (nomark _))))) (pss_one ps_never) pss_nil)
      (pss_cons (ps_asg (pe_c F_joined (hr.mono (by decide)) (pa_cons (pe_lst (pa_cons (pv 0) pa_nil)) pa_nil)) (pg_tupK K rfl 2 rfl (pgs_cons (pg_name (i := 6) sc_know_own.nd rfl (Or.inl rfl)) (pgs_cons (pg_name (i := 7) sc_know_own.nd rfl (Or.inl rfl)) pgs_nil))))
      (pss_cons (ps_set (i := 2) sc_know_own.nd rfl (Or.inl rfl) (pe_c F_made_name (hr.mono (by decide)) (pa_cons (pe_callB call_lenT (by rfl) T.n_len PySem.boot_len (pa_cons (pv 6) pa_nil)) pa_nil)))
      (pss_cons (ps_set (i := 3) sc_know_own.nd rfl (Or.inl rfl) (pe_c F_filled_tree (hr.mono (by decide)) (pa_cons (pv 2) (pa_cons (pe_op op_add (pe_callB call_lenT (by rfl) T.n_len PySem.boot_len (pa_cons (pv 6) pa_nil)) pe_int) (pa_cons (pv 1) pa_nil)))))
      (pss_cons (ps_set (i := 4) sc_know_own.nd rfl (Or.inl rfl) (pe_c F_made_parameters (hr.mono (by decide)) (pa_cons (pv 1) pa_nil)))
      (pss_cons (ps_set (i := 5) sc_know_own.nd rfl (Or.inl rfl) (pe_c F_with_main (hr.mono (by decide)) (pa_cons (pv 6) (pa_cons (pe_op op_catTr (pe_tupT (pa_cons pe_str pa_nil)) (pv 4)) (pa_cons (pe_op op_catTr (pe_tupT (pa_cons (pe_ix ix_list (pv 7) pe_int (fun _ _ => rfl)) (pa_cons (pv 3) pa_nil))) (pv 4)) pa_nil)))))
      (pss_one (ps_ret (pe_c F_fill (hr.mono (by decide)) (pa_cons (pv 5) (pa_cons (pv 5) pa_nil))))))))))))), ?_⟩
    have hlen := (good_parts hg).2.2.1
    refine ⟨_, rfl, v, fs, rfl, h, hg, fun H1 k1 => ⟨_, rfl, v, fs, rfl, k1.at_ h, hg, fun H2 k2 => ?_⟩⟩
    refine ⟨_, _, rfl, rfl, ?_⟩
    refine ⟨_, rfl, _, _, rfl, rfl, _, rfl, ?_⟩
    have e1 : decide (((inputsOf fs : Nat) : Int) - 1 < 0) = false := decide_eq_false (by omega)
    rw [e1]
    refine iteF ⟨_, rfl, _, _, rfl, rfl, _, rfl, ?_⟩
    have e2 : decide (((inputsOf fs : Nat) : Int) - 1 > 8) = false := decide_eq_false (by omega)
    rw [e2]
    refine iteF ?_
    have em : ((inputsOf fs : Nat) : Int) - 1 = ((inputsOf fs - 1 : Nat) : Int) := by omega
    have kA := k1.trans k2
    refine ⟨_, rfl, zle (Nat.le_of_ble_eq_true rfl), fun l hl => ?_⟩
    have k3 : Sm H2 (upd H2 l (.lst [v])) := Kp.new hl
    have hL : (upd H2 l (.lst [v])) l = some (.lst [v]) := upd_same
    generalize upd H2 l (.lst [v]) = H3 at k3 hL
    have kB := kA.trans k3
    refine ⟨l, [v], [fs], rfl, hL, aa_cons (kB.at_ h) aa_nil, fun q hq => by rw [List.mem_singleton.mp hq]; exact hg, (Nat.le_of_ble_eq_true rfl), fun t fv m H4 k4 hX hf hM => ?_⟩
    have hj : joined [fs] = renamed fs 0 := List.nil_append _
    have hfl : (joined [fs]).length = fs.length := by rw [hj, renamed_len]
    have kC := kB.trans k4
    refine ⟨t, _, rfl, hX.sq, rfl, _, _, rfl, _, _, rfl, rfl, ?_⟩
    refine ⟨_, rfl, _, _, rfl, hf, (joined [fs]).length, by rw [List.length_map] <;> rfl, by rw [hfl]; omega, ?_⟩
    refine ⟨_, rfl, _, rfl, _, _, rfl, hf, _, _, rfl, rfl, _, rfl, mn (joined [fs]).length, fs.length + 1, inputsOf fs - 1, ?_, by omega, by omega, fun v5 H5 k5 h5 => ?_⟩
    · show [_, V.int (((((joined [fs]).map Fn.t).length : Nat) : Int) + 1), V.int (((inputsOf fs : Nat) : Int) - 1)] = _
      rw [em, List.length_map, hfl]
      rfl
    refine ⟨_, rfl, inputsOf fs - 1, by show [V.int (((inputsOf fs : Nat) : Int) - 1)] = _; rw [em], by omega, fun v6 H6 k6 h6 => ?_⟩
    have kD := kC.trans (k5.trans k6)
    have k56 := k5.trans k6
    refine ⟨_, rfl, [.w wS], aa_cons (by rw [lit_s]; exact at_wi) aa_nil, zle (Nat.le_of_ble_eq_true rfl), fun p7 H7 k7 h7 => ?_⟩
    refine ⟨_, rfl, [.w wS], (xns (inputsOf fs - 1)).map .w, h7, k7.at_ h6, by rw [List.length_map, xns_len, sizeLine_eq]; show 1 + _ ≤ _; omega, fun p8 H8 k8 h8 => ?_⟩
    have hM8 := (k56.trans (k7.trans k8)) _ _ hM (.inl (by simp))
    refine ⟨_, rfl, m, _, 0, .str (mn 0), rfl, rfl, sq_lst hM8, rfl, ?_⟩
    refine ⟨_, rfl, [.w (mn 0), _], aa_cons at_wi (aa_cons ((k6.trans (k7.trans k8)).at_ h5) aa_nil), zle (Nat.le_of_ble_eq_true rfl), fun p9 H9 k9 h9 => ?_⟩
    refine ⟨_, rfl, _, _, h9, (k7.trans (k8.trans k9)).at_ h6, by rw [List.length_map, xns_len, sizeLine_eq]; show 2 + _ ≤ _; omega, fun p10 H10 k10 h10 => ?_⟩
    have k710 := (k7.trans k8).trans (k9.trans k10)
    refine ⟨_, _, _, joined [fs], wS :: xns (inputsOf fs - 1), .n (mn 0) (filledTree (mn fs.length) (fs.length + 1) (inputsOf fs - 1) :: vs (xns (inputsOf fs - 1))), rfl, (k56.trans k710).at_ hf, (k9.trans k10).at_ h8, ?_, by omega, fun v11 H11 k11 h11 => ?_⟩
    · show At K H10 (.l (.w (mn 0) :: (filledTree (mn fs.length) (fs.length + 1) (inputsOf fs - 1)).t :: Xp.ts (vs (xns (inputsOf fs - 1))))) _
      rw [vs_ts]
      rw [hfl] at h10
      exact h10
    have h11 : At K H11 (progT (knowing fs)) v11 := by
      have : knowing fs = withMain (joined [fs]) (wS :: xns (inputsOf fs - 1)) (.n (mn 0) (filledTree (mn fs.length) (fs.length + 1) (inputsOf fs - 1) :: vs (xns (inputsOf fs - 1)))) := by
        rw [hj]
        rfl
      rw [this]
      exact h11
    have hik : inputsOf (knowing fs) = inputsOf fs := by
      show (wS :: xns (inputsOf fs - 1)).length = _
      rw [List.length_cons, xns_len]
      omega
    refine ⟨_, rfl, _, rfl, v11, v11, knowing fs, progT (knowing fs), rfl, h11, h11, hgk, by omega, by omega, fun v12 H12 k12 h12 => ?_⟩
    exact q _ _ ((kD.trans k710).trans (k11.trans k12)) h12
/-! ### ring -/
structure RingOk (ps : List (List Fn)) (many : Nat) : Prop where
  gs : ∀ q ∈ ps, good q = true
  n1 : 1 ≤ ps.length
  n12 : ps.length ≤ 12
  ins : ∀ q ∈ ps, inputsOf q = many + 1
  m7 : many ≤ 7
  gw : good (ringWhole ps) = true
  gk : good (knowing (ringWhole ps)) = true
  go : good (knowOwn (ringWhole ps)) = true
def sp_ring (K : PySem.W.Frag) : Sp := fun vs H Q _ => ∃ p xs, ∃ (ps : List (List Fn)) (many : Nat), vs = [.ref p] ∧ H p = some (.lst xs) ∧ AtAll K H (ps.map progT) xs ∧ RingOk ps many ∧
  ∀ r us H', Sm H H' → H' r = some (.lst us) → AtAll K H' ((ring ps).map progT) us → Q (.ref r) H'
theorem sc_ring : FnScope ["programs", "program", "many", "inputs", "front", "last", "words", "texts", "body", "k", "whole", "functions", "mains", "word"] ["programs"] (defScope s_ring) := ⟨rfl, rfl, rfl, by decide +kernel, rfl, by decide +kernel, by decide +kernel⟩
theorem wn_succ (n : Nat) : (List.range (n + 1)).map wn = (List.range n).map wn ++ [wn n] := by
  rw [List.range_succ, List.map_append]
  rfl
theorem aa_progs {K : PySem.W.Frag} {H : Hp} {ps : List (List Fn)} {vs : List V} {i : Nat} {v : V} (h : AtAll K H (ps.map progT) vs) (e : vs[i]? = some v) : ∃ f, ps[i]? = some f ∧ At K H (progT f) v := by
  obtain ⟨t, h1, h2⟩ := aa_at h e
  rw [List.getElem?_map] at h1
  cases q : ps[i]? with
  | none =>
    rw [q] at h1
    cases h1
  | some f =>
    rw [q] at h1
    cases h1
    exact ⟨f, rfl, h2⟩
theorem f_ring (T : Txt w K mg) : Clb P w K mg base "ring" 8 ["programs"] (sp_ring K) := by
  have F_check_program : Clb P w K mg base "check_program" 4 ["value"] (sp_check_program K) := f_check_program T
  have F_inputs_of : Clb P w K mg base "inputs_of" 5 ["program"] (sp_inputs_of K) := f_inputs_of T
  have F_joined : Clb P w K mg base "joined" 6 ["programs"] (sp_joined K) := f_joined T
  have F_made_name : Clb P w K mg base "made_name" 1 ["number"] sp_made_name := f_made_name T
  have F_made_parameters : Clb P w K mg base "made_parameters" 1 ["many"] (sp_made_parameters K) := f_made_parameters T
  have F_with_main : Clb P w K mg base "with_main" 2 ["functions", "parameters", "body"] (sp_with_main K) := f_with_main T
  have F_fill : Clb P w K mg base "fill" 6 ["program", "value"] (sp_fill K) := f_fill T
  have F_fill_function : Clb P w K mg base "fill_function" 2 ["main", "number", "value", "many"] (sp_fill_function K) := f_fill_function T
  have F_quoted : Clb P w K mg base "quoted" 1 ["value"] (sp_quoted K) := f_quoted T
  have F_listed : Clb P w K mg base "listed" 2 ["parts"] (sp_listed K) := f_listed T
  have F_know_own : Clb P w K mg base "know_own" 7 ["program"] (sp_know_own K) := f_know_own T
  refine T.d_ring.clb sc_ring (fun _ _ _ _ _ _ us hl => match us, hl with | [_], _ => rfl) (fun vs H Q E h => ?_) (fun f cdv A outer s H vs Q E hr h => ?_)
  · obtain ⟨_, _, _, _, rfl, _⟩ := h
    rfl
  · obtain ⟨p, xs, ps, many, rfl, hp, hA, ok, q⟩ := h
    refine ⟨_, (pss_cons (ps_for PassesOwn.never rfl (pi_list (pv 0)) (pg_name (i := 1) sc_ring.nd rfl (Or.inl rfl)) (pss_one (ps_expr (pe_c F_check_program (hr.mono (by decide)) (pa_cons (pv 1) pa_nil)))))
      (pss_cons (ps_if (pt_not (pt_chain op_le op_le pe_int (pe_callB call_len_seq (by rfl) T.n_len PySem.boot_len (pa_cons (pv 0) pa_nil)) pe_int)) (pss_one ps_never) pss_nil)
      (pss_cons (ps_set (i := 2) sc_ring.nd rfl (Or.inr rfl) (pe_op op_sub (pe_c F_inputs_of (hr.mono (by decide)) (pa_cons (pe_ix ix_list (pv 0) pe_int (fun _ _ => rfl)) pa_nil)) pe_int))
      (pss_cons (ps_for PassesOwn.never rfl (pi_list (pv 0)) (pg_name (i := 1) sc_ring.nd rfl (Or.inl rfl)) (pss_one (ps_if (PW.pt (pw_or (pt_cmpR op_ne (pe_c F_inputs_of (hr.mono (by decide)) (pa_cons (pv 1) pa_nil)) (pe_op op_add (pv 2) pe_int) (nomark _)) (pw_or (pt_cmpR op_lt (pv 2) pe_int (nomark _)) (pw_or1 (pt_cmpR op_gt (pe_op op_add (pv 2) pe_int) (pe_gi T.c_MOST_INPUTS) (nomark _)))))) (pss_one ps_never) pss_nil)))
      (pss_cons (ps_asg (pe_c F_joined (hr.mono (by decide)) (pa_cons (pv 0) pa_nil)) (pg_tupK K rfl 2 rfl (pgs_cons (pg_name (i := 11) sc_ring.nd rfl (Or.inl rfl)) (pgs_cons (pg_name (i := 12) sc_ring.nd rfl (Or.inl rfl)) pgs_nil))))
      (pss_cons (ps_set (i := 3) sc_ring.nd rfl (Or.inl rfl) (pe_c F_made_parameters (hr.mono (by decide)) (pa_cons (pe_op op_add (pv 2) pe_int) pa_nil)))
      (pss_cons (ps_set (i := 4) sc_ring.nd rfl (Or.inr rfl) (pe_c F_made_name (hr.mono (by decide)) (pa_cons (pe_op op_add (pe_callB call_lenT (by rfl) T.n_len PySem.boot_len (pa_cons (pv 11) pa_nil)) pe_int) pa_nil)))
      (pss_cons (ps_set (i := 5) sc_ring.nd rfl (Or.inr rfl) (pe_op op_add (pe_callB call_lenT (by rfl) T.n_len PySem.boot_len (pa_cons (pv 11) pa_nil)) pe_int))
      (pss_cons (ps_setLc (i := 6) (own := [("k", 9)]) rfl sc_ring.nd rfl rfl (sw_true rfl rfl rfl (by decide +kernel)) (pi_range1 rfl T.n_range (pa_cons (pe_callB call_len_seq (by rfl) T.n_len PySem.boot_len (pa_cons (pv 0) pa_nil)) pa_nil)) (blkOk_by (N := ["programs", "program", "many", "inputs", "front", "last", "words", "texts", "body", "k", "whole", "functions", "mains", "word"]) (sc := defScope s_ring) (by decide +kernel)) (fun _ _ _ _ _ => (pg_name (i := 9) sc_ring.nd rfl (Or.inl rfl))) (fun _ _ _ _ _ => pts_nil) (fun _ _ _ _ _ => (pe_op op_add_str pe_str (pe_callTy call_str_int (by rfl) T.n_str PyProof.Rows.boot_str (pa_cons (pe_op op_add (pv 9) pe_int) pa_nil)))))
      (pss_cons (ps_set (i := 7) sc_ring.nd rfl (Or.inl rfl) (pe_c F_listed (hr.mono (by decide)) (pa_cons (pe_lc (own := [("word", 13)]) rfl sc_ring.nd (pi_list (pv 6)) (blkOk_by (N := ["programs", "program", "many", "inputs", "front", "last", "words", "texts", "body", "k", "whole", "functions", "mains", "word"]) (sc := defScope s_ring) (by decide +kernel)) (fun _ _ _ _ _ => (pg_name (i := 13) sc_ring.nd rfl (Or.inl rfl))) (fun _ _ _ _ _ => pts_nil) (fun _ _ _ _ _ => (pe_tupK K rfl (pa_cons pe_str (pa_cons (pe_c F_quoted (hr.mono (by decide)) (pa_cons (pe_c F_fill_function (hr.mono (by decide)) (pa_cons (pv 4) (pa_cons (pv 5) (pa_cons (pv 13) (pa_cons (pv 2) pa_nil))))) pa_nil)) (pa_cons pe_str pa_nil)))))) pa_nil)))
      (pss_cons (ps_set (i := 8) sc_ring.nd rfl (Or.inl rfl) (pe_op op_catTr (pe_tupT (pa_cons (pe_ix ix_list (pv 12) (pe_un un_neg pe_int) (fun _ _ => rfl)) (pa_cons (pv 7) pa_nil))) (pe_slice sl_T (pv 3) (po_some pe_int) po_none)))
      (pss_cons (ps_for PassesOwn.never rfl (pi_revR (by rfl) T.n_reversed (prg_1 (by rfl) T.n_range (pe_op op_sub (pe_callB call_len_seq (by rfl) T.n_len PySem.boot_len (pa_cons (pv 0) pa_nil)) pe_int))) (pg_name (i := 9) sc_ring.nd rfl (Or.inl rfl)) (pss_one (ps_set (i := 8) sc_ring.nd rfl (Or.inl rfl) (pe_tupT (pa_cons pe_str (pa_cons (pe_tupT (pa_cons pe_str (pa_cons pe_str (pa_cons (pe_c F_quoted (hr.mono (by decide)) (pa_cons (pe_ix ix_list (pv 6) (pv 9) (fun _ _ => rfl)) pa_nil)) pa_nil)))) (pa_cons (pe_op op_catTr (pe_tupT (pa_cons (pe_ix ix_list (pv 12) (pv 9) (fun _ _ => rfl)) (pa_cons (pv 7) pa_nil))) (pe_slice sl_T (pv 3) (po_some pe_int) po_none)) (pa_cons (pv 8) pa_nil))))))))
      (pss_cons (ps_set (i := 10) sc_ring.nd rfl (Or.inr rfl) (pe_c F_know_own (hr.mono (by decide)) (pa_cons (pe_c F_with_main (hr.mono (by decide)) (pa_cons (pv 11) (pa_cons (pe_op op_catTr (pe_tupT (pa_cons pe_str pa_nil)) (pv 3)) (pa_cons (pv 8) pa_nil)))) pa_nil)))
      (pss_one (ps_ret (pe_lc (own := [("word", 13)]) rfl sc_ring.nd (pi_list (pv 6)) (blkOk_by (N := ["programs", "program", "many", "inputs", "front", "last", "words", "texts", "body", "k", "whole", "functions", "mains", "word"]) (sc := defScope s_ring) (by decide +kernel)) (fun _ _ _ _ _ => (pg_name (i := 13) sc_ring.nd rfl (Or.inl rfl))) (fun _ _ _ _ _ => pts_nil) (fun _ _ _ _ _ => (pe_c F_fill (hr.mono (by decide)) (pa_cons (pv 10) (pa_cons (pv 13) pa_nil)))))))))))))))))))), ?_⟩
    have hxl : xs.length = ps.length := by rw [aa_len hA, List.length_map]
    have n1 := ok.n1
    have n12 := ok.n12
    have m7 := ok.m7
    refine ⟨_, rfl, p, rfl, ⟨xs, sq_lst hp⟩, for_list (K := K) (a := p) (xs := xs) (fun i σ H' => ∃ v1, σ = [some (.ref p), v1, none, none, none, none, none, none, none, none, none, none, none, none] ∧ Sm H H') ⟨none, rfl, Kp.refl⟩ (fun i σ H' _ ⟨_, _, k⟩ => sq_lst (k _ _ hp (.inl (by simp)))) ?_ ?_⟩
    · rintro i x σ Ha hi ⟨v1, rfl, k⟩
      obtain ⟨pr, hpr, hAt⟩ := aa_progs hA hi
      exact ⟨_, rfl, x, pr, rfl, k.at_ hAt, ok.gs pr (List.mem_of_getElem? hpr), fun H2 k2 => ⟨_, rfl, k.trans k2⟩⟩
    rintro σ H1 ⟨v1, rfl, k1⟩
    have hp1 := k1 _ _ hp (.inl (by simp))
    refine ⟨_, rfl, p, xs, rfl, .inl (sq_lst hp1), _, _, rfl, rfl, ?_⟩
    rw [hxl]
    have c1 : decide ((1 : Int) ≤ ((ps.length : Nat) : Int)) = true := decide_eq_true (by omega)
    have c2 : decide (((ps.length : Nat) : Int) ≤ 12) = true := decide_eq_true (by omega)
    refine ⟨true, congrArg V.bl c1, iteT ⟨_, _, rfl, rfl, true, congrArg V.bl c2, iteF ?_⟩⟩
    obtain ⟨p0, pr, hps⟩ : ∃ p0 pr, ps = p0 :: pr := by
      cases ps with
      | nil => exact absurd n1 (by decide)
      | cons a b => exact ⟨a, b, rfl⟩
    have hp0 : ps[0]? = some p0 := by rw [hps]; rfl
    obtain ⟨x0, hx0, hA0⟩ := aa_get hA (show (ps.map progT)[0]? = some (progT p0) by rw [List.getElem?_map, hp0]; rfl)
    have hi0 := ok.ins p0 (List.mem_of_getElem? hp0)
    refine ⟨_, rfl, p, xs, 0, x0, rfl, rfl, sq_lst hp1, atI_nat (j := 0) hx0, _, p0, rfl, k1.at_ hA0, ok.gs p0 (List.mem_of_getElem? hp0), fun H2 k2 => ⟨_, _, rfl, rfl, ?_⟩⟩
    rw [hi0]
    have e1 : ((many + 1 : Nat) : Int) - 1 = (many : Int) := by omega
    dsimp only
    rw [e1]
    have k2 := k1.trans k2
    have hp2 := k2 _ _ hp (.inl (by simp))
    refine ⟨_, rfl, p, rfl, ⟨xs, sq_lst hp2⟩, for_list (K := K) (a := p) (xs := xs) (fun i σ H' => ∃ v1, σ = [some (.ref p), v1, some (.int (many : Int)), none, none, none, none, none, none, none, none, none, none, none] ∧ Sm H H') ⟨_, rfl, k2⟩ (fun i σ H' _ ⟨_, _, k⟩ => sq_lst (k _ _ hp (.inl (by simp)))) ?_ ?_⟩
    · rintro i x σ Ha hi ⟨v1, rfl, k⟩
      obtain ⟨pr, hpr, hAt⟩ := aa_progs hA hi
      refine ⟨_, rfl, x, pr, rfl, k.at_ hAt, ok.gs pr (List.mem_of_getElem? hpr), fun H3 k3 => ?_⟩
      rw [ok.ins pr (List.mem_of_getElem? hpr)]
      refine ⟨_, rfl, _, _, rfl, rfl, rfl, _, rfl, ?_⟩
      have e2 : (!decide (V.int ((many + 1 : Nat) : Int) = V.int ((many : Int) + 1))) = false := by
        rw [show ((many + 1 : Nat) : Int) = (many : Int) + 1 by omega]
        simp
      rw [e2]
      refine iteF ⟨_, rfl, _, _, rfl, rfl, _, rfl, ?_⟩
      have e3 : decide ((many : Int) < 0) = false := decide_eq_false (by omega)
      rw [e3]
      refine iteF ⟨_, rfl, _, _, rfl, rfl, _, _, rfl, rfl, _, rfl, ?_⟩
      have e4 : decide ((many : Int) + 1 > 8) = false := decide_eq_false (by omega)
      rw [e4]
      exact iteF ⟨_, rfl, k.trans k3⟩
    rintro σ H3 ⟨v1, rfl, k3⟩
    have hp3 := k3 _ _ hp (.inl (by simp))
    refine ⟨_, rfl, p, xs, ps, rfl, hp3, k3.aa hA, ok.gs, n12, fun t fv m H4 k4 hX hf hM => ?_⟩
    have hjl : (joined ps).length ≤ 12000 := by
      have := joinedFrom_len ps [] ok.gs
      have e : ([] : List Fn).length = 0 := rfl
      have : (joined ps).length ≤ 0 + 1000 * ps.length := this
      omega
    have kA := k3.trans k4
    refine ⟨t, _, rfl, hX.sq, rfl, _, _, rfl, _, _, rfl, rfl, ?_⟩
    -- inputs
    refine ⟨_, rfl, _, _, rfl, rfl, many + 1, by show [V.int ((many : Int) + 1)] = _; rw [show ((many + 1 : Nat) : Int) = (many : Int) + 1 by omega], by omega, fun v5 H5 k5 h5 => ?_⟩
    have h5 : At K H5 (.l ((xns (many + 1)).map .w)) v5 := h5
    have hf5 := k5.at_ hf
    have hM5 := k5 _ _ hM (.inl (by simp))
    -- front, last
    refine ⟨_, rfl, _, _, rfl, hf5, _, _, rfl, rfl, (joined ps).length + 2, by show [V.int (((((joined ps).map Fn.t).length : Nat) : Int) + 2)] = _; rw [List.length_map] <;> rfl, by omega, ?_⟩
    refine ⟨_, rfl, _, _, rfl, hf5, _, _, rfl, rfl, ?_⟩
    have e6 : ((((joined ps).map Fn.t).length : Nat) : Int) + 3 = (((joined ps).length + 3 : Nat) : Int) := by rw [List.length_map] <;> rfl
    dsimp only
    rw [e6]
    have kB := kA.trans k5
    have hp5 := kB _ _ hp (.inl (by simp))
    -- words
    refine ⟨_, rfl, p, xs, rfl, .inl (sq_lst hp5), _, rfl, by omega, by omega, fun D hD => lc_y walk_range (fun i H' => H' D = some (.lst (((List.range i).map wn).map V.str)) ∧ Sm H5 H') ⟨upd_same, Kp.new hD⟩ (fun _ _ _ _ => trivial) ?_ ?_⟩
    · rintro i x Ha Hb hi ⟨g1, g2⟩ ⟨rfl, rfl⟩
      have hi2 : i < ps.length := by rw [← hxl]; simpa using hi
      refine ⟨rfl, ?_⟩
      have e1 : ((0 : Int) + ((i : Nat) : Int)) + 1 = ((i + 1 : Nat) : Int) := by omega
      refine ⟨_, rfl, _, _, rfl, rfl, ?_⟩
      have hlx := str_len (n := i + 1) (by omega)
      refine ⟨((i + 1 : Nat) : Int), by rw [← e1] <;> rfl, log2_small (by omega), _, _, rfl, rfl, ?_, ?_⟩
      · have h1 : (("w" : Str)).length = 1 := by decide +kernel
        rw [h1, sizeLine_eq]
        omega
      · rw [str_name 119 _ (by decide +kernel)]
        refine ⟨_, g1, by rw [List.length_map, List.length_map, List.length_range, sizeLine_eq]; omega, ?_, g2.set hD⟩
        rw [wn_succ, List.map_append]
        exact upd_same
    rintro H6 ⟨g1, k6⟩
    rw [hxl, Int.toNat_natCast] at g1
    have hf6 := k6.at_ hf5
    have h56 := k6.at_ h5
    have hM6 := k6 _ _ hM5 (.inl (by simp))
    have hwl : (((List.range ps.length).map wn).map V.str).length = ps.length := by rw [List.length_map, List.length_map, List.length_range]
    have hwat : ∀ k, k < ps.length → (((List.range ps.length).map wn).map V.str)[k]? = some (.str (wn k)) := fun k hk => by
      rw [List.getElem?_map, List.getElem?_map, List.getElem?_range hk]
      rfl
    -- texts
    refine ⟨_, rfl, D, rfl, ⟨_, sq_lst g1⟩, fun L hL => lc_y walk_list (fun i H' => Sm H6 H' ∧ ∃ acc, H' L = some (.lst acc) ∧ AtAll K H' (((List.range i).map fun k => Xp.n wJoin [.q (fillFn (mn ((joined ps).length + 2)) ((joined ps).length + 3) (.w (wn k)) many).t, .v wS]).map Xp.t) acc) ⟨Kp.new hL, [], upd_same, aa_nil⟩ (fun i H' _ ⟨k, _⟩ => sq_lst (k _ _ g1 (.inl (by simp)))) ?_ ?_⟩
    · rintro i x Ha Hb hi ⟨k7, acc, hacc, aacc⟩ ⟨rfl, hx⟩
      rw [hwl] at hi
      rw [hwat i hi] at hx
      cases hx
      refine ⟨rfl, _, rfl, _, rfl, _, rfl, _, rfl, mn ((joined ps).length + 2), (joined ps).length + 3, .str (wn i), .w (wn i), many, rfl, at_wi, by omega, by omega, fun v8 H8 k8 h8 => ?_⟩
      refine ⟨_, _, rfl, h8, fun v9 H9 k9 h9 => ?_⟩
      refine ⟨[.w wJoin, _, .w wS], aa_cons (by rw [lit_join]; exact at_wi) (aa_cons h9 (aa_cons (by rw [lit_s]; exact at_wi) aa_nil)), zle (Nat.le_of_ble_eq_true rfl), fun p10 H10 k10 h10 => ?_⟩
      have hacc10 := (k8.trans (k9.trans k10)) _ _ hacc (.inl (by simp))
      have hla := aa_len aacc
      rw [List.length_map, List.length_map, List.length_range] at hla
      have k11 : Kp [L] H10 (upd H10 L (.lst (acc ++ [.ref p10]))) := Kp.own hacc10
      refine ⟨acc, hacc10, by rw [sizeLine_eq]; omega, (k7.trans (k8.trans (k9.trans k10))).set hL, _, upd_same, ?_⟩
      rw [List.range_succ, List.map_append, List.map_append]
      exact aa_snocI (k11.aa ((k8.trans (k9.trans k10)).aa aacc)) (k11.at_ h10)
    rintro H7 ⟨k7, acc, hacc, aacc⟩
    rw [hwl] at aacc
    refine ⟨L, acc, _, rfl, hacc, aacc, fun v8 H8 k8 h8 => ?_⟩
    have h8 : At K H8 (ringTexts (mn ((joined ps).length + 2)) ((joined ps).length + 3) many ps.length).t v8 := h8
    have k68 := k6.trans (k7.trans k8)
    have k78 := k7.trans k8
    have kC := kB.trans k68
    have hM8 := k78 _ _ hM6 (.inl (by simp))
    have h58 := k78.at_ h56
    have hf8 := k78.at_ hf6
    have hW8 := k78 _ _ g1 (.inl (by simp))
    have hp8 := kC _ _ hp (.inl (by simp))
    have hml : (mains ps).length = ps.length := mains_len ps 0
    generalize htx : ringTexts (mn ((joined ps).length + 2)) ((joined ps).length + 3) many ps.length = tx at h8
    have hmat : ∀ k, k < ps.length → ∃ s, (mains ps)[k]? = some s ∧ ((mains ps).map V.str)[k]? = some (.str s) ∧ (mains ps).drop k = s :: (mains ps).drop (k + 1) := fun k hk => by
      have hk2 : k < (mains ps).length := by omega
      refine ⟨(mains ps)[k], List.getElem?_eq_getElem hk2, ?_, List.drop_eq_getElem_cons hk2⟩
      rw [List.getElem?_map, List.getElem?_eq_getElem hk2]
      rfl
    obtain ⟨N1, hN1⟩ : ∃ N1, ps.length = N1 + 1 := ⟨ps.length - 1, by omega⟩
    obtain ⟨sl, hsl, hsl2, hsl3⟩ := hmat N1 (by omega)
    have hneg : atI ((mains ps).map V.str) (-1) = some (.str sl) := by
      have e : (mains ps).map V.str = ((mains ps).take N1).map V.str ++ [.str sl] := by
        have e2 : (mains ps).drop N1 = [sl] := by rw [hsl3, List.drop_eq_nil_of_le (by omega)]
        rw [← List.take_append_drop N1 (mains ps), e2, List.map_append, List.take_left' (by rw [List.length_take]; omega)]
        rfl
      rw [e]
      exact atI_last _ _
    refine ⟨_, rfl, 1, rfl, m, _, -1, _, rfl, rfl, sq_lst hM8, hneg, ?_⟩
    refine ⟨_, rfl, [.w sl, _], aa_cons at_wi (aa_cons h8 aa_nil), zle (Nat.le_of_ble_eq_true rfl), fun p9 H9 k9 h9 => ?_⟩
    refine ⟨_, rfl, _, rfl, _, k9.at_ h58, .inl ⟨1, rfl, rfl, Nat.le_refl 1, by rw [List.length_map, xns_len]; omega, fun p10 H10 k10 h10 => ?_⟩⟩
    rw [← List.map_drop] at h10
    refine ⟨_, _, k10.at_ h9, h10, by rw [List.length_map, List.length_drop, xns_len, sizeLine_eq]; show 2 + _ ≤ _; omega, fun p11 H11 k11 h11 => ?_⟩
    have k811 := k9.trans (k10.trans k11)
    have h11 : At K H11 (ringBody tx (vs ((xns (many + 1)).drop 1)) N1 ((mains ps).drop N1)).t (.ref p11) := by
      have e : (mains ps).drop N1 = [sl] := by
        rw [hsl3, List.drop_eq_nil_of_le (by omega)]
      rw [e]
      show At K H11 (.l (.w sl :: tx.t :: Xp.ts (vs ((xns (many + 1)).drop 1)))) _
      rw [vs_ts]
      exact h11
    have hp11 := k811 _ _ hp8 (.inl (by simp))
    have hrn : ((((xs.length : Nat) : Int) - 1) - 0).toNat = N1 := by omega
    refine ⟨_, rfl, p, xs, rfl, .inl (sq_lst hp11), _, _, rfl, rfl, _, rfl, by omega, by omega, by omega, by omega, for_it walk_rangeC (fun i σ H' => ∃ vb v9, σ = [some (.ref p), v1, some (.int (many : Int)), some v5, some (.str (mn ((joined ps).length + 2))), some (.int (((joined ps).length + 3 : Nat) : Int)), some (.ref D), some v8, some vb, v9, none, some fv, some (.ref m), none] ∧ Sm H11 H' ∧
      At K H' (ringBody tx (vs ((xns (many + 1)).drop 1)) (N1 - i) ((mains ps).drop (N1 - i))).t vb) ⟨_, none, rfl, Kp.refl, h11⟩ (fun _ _ _ _ _ => trivial) ?_ ?_⟩
    · rintro i x σ Ha Hb hi ⟨vb, v9, rfl, kI, hI⟩ ⟨rfl, hx⟩
      rw [hrn] at hi
      obtain ⟨k, hk⟩ : ∃ k, N1 - i = k + 1 := ⟨N1 - i - 1, by omega⟩
      have hx2 : x = .int (k : Int) := by
        rw [hx]
        show V.int ((0 + (((((xs.length : Nat) : Int) - 1 - 0).toNat : Nat) : Int) - 1) + ((i : Nat) : Int) * (-1)) = _
        rw [hrn]
        congr 1
        omega
      subst hx2
      have hk1 : N1 - (i + 1) = k := by omega
      rw [hk] at hI
      obtain ⟨sk, hsk, hsk2, hsk3⟩ := hmat k (by omega)
      obtain ⟨sk', _, _, hsk4⟩ := hmat (k + 1) (by omega)
      have kIa := k811.trans kI
      have hWa := kIa _ _ hW8 (.inl (by simp))
      have hMa := kIa _ _ hM8 (.inl (by simp))
      have h5a := kIa.at_ h58
      have h8a := kIa.at_ h8
      refine ⟨_, rfl, _, rfl, D, _, (k : Int), .str (wn k), rfl, rfl, sq_lst hWa, atI_nat (hwat k (by omega)), _, .w (wn k), rfl, at_wi, fun v12 H12 k12 h12 => ?_⟩
      refine ⟨[.w wSame, .w (xn 0), _], aa_cons (by rw [show ("same" : Str) = wSame by decide +kernel]; exact at_wi) (aa_cons (by rw [show ("x1" : Str) = xn 0 by decide +kernel]; exact at_wi) (aa_cons h12 aa_nil)), zle (Nat.le_of_ble_eq_true rfl), fun p13 H13 k13 h13 => ?_⟩
      have kc := k12.trans k13
      refine ⟨_, rfl, _, rfl, m, _, (k : Int), .str sk, rfl, rfl, sq_lst (kc _ _ hMa (.inl (by simp))), atI_nat hsk2, _, rfl, [.w sk, _], aa_cons at_wi (aa_cons (kc.at_ h8a) aa_nil), zle (Nat.le_of_ble_eq_true rfl), fun p14 H14 k14 h14 => ?_⟩
      refine ⟨_, rfl, _, rfl, _, (kc.trans k14).at_ h5a, .inl ⟨1, rfl, rfl, Nat.le_refl 1, by rw [List.length_map, xns_len]; omega, fun p15 H15 k15 h15 => ?_⟩⟩
      rw [← List.map_drop] at h15
      refine ⟨_, _, k15.at_ h14, h15, by rw [List.length_map, List.length_drop, xns_len, sizeLine_eq]; show 2 + _ ≤ _; omega, fun p16 H16 k16 h16 => ?_⟩
      have kd := (k14.trans k15).trans k16
      refine ⟨_, rfl, [.w wIf, _, _, _], aa_cons (by rw [show ("if" : Str) = wIf by decide +kernel]; exact at_wi) (aa_cons (kd.at_ h13) (aa_cons h16 (aa_cons ((kc.trans kd).at_ hI) aa_nil))), zle (Nat.le_of_ble_eq_true rfl), fun p17 H17 k17 h17 => ?_⟩
      refine ⟨_, _, rfl, kI.trans ((kc.trans kd).trans k17), ?_⟩
      rw [hk1, hsk3, hsk4]
      rw [hsk4] at h17
      show At K H17 (.l [.w wIf, .l [.w wSame, .w (xn 0), .l [.w wQuote, .w (wn k)]], .l (.w sk :: tx.t :: Xp.ts (vs ((xns (many + 1)).drop 1))), _]) _
      rw [vs_ts]
      exact h17
    rintro σ H12 ⟨vb, v9, rfl, kI, hI⟩
    rw [hrn, Nat.sub_self, List.drop_zero] at hI
    have kIa := k811.trans kI
    have hWa := kIa _ _ hW8 (.inl (by simp))
    have h5a := kIa.at_ h58
    have hfa := kIa.at_ hf8
    have kD := kC.trans kIa
    refine ⟨_, rfl, [.w wS], aa_cons (by rw [lit_s]; exact at_wi) aa_nil, zle (Nat.le_of_ble_eq_true rfl), fun p13 H13 k13 h13 => ?_⟩
    refine ⟨_, rfl, [.w wS], _, h13, k13.at_ h5a, by rw [List.length_map, xns_len, sizeLine_eq]; show 1 + _ ≤ _; omega, fun p14 H14 k14 h14 => ?_⟩
    have k134 := k13.trans k14
    refine ⟨_, rfl, _, _, _, joined ps, wS :: xns (many + 1), ringBody tx (vs ((xns (many + 1)).drop 1)) 0 (mains ps), rfl, k134.at_ hfa, h14, k134.at_ hI, by omega, fun v15 H15 k15 h15 => ?_⟩
    have hrw : ringWhole ps = withMain (joined ps) (wS :: xns (many + 1)) (ringBody tx (vs ((xns (many + 1)).drop 1)) 0 (mains ps)) := by
      have e0 : inputsOf (ps.headD []) - 1 = many := by
        rw [hps]
        show inputsOf p0 - 1 = many
        omega
      rw [← htx]
      unfold ringWhole
      rw [e0]
    rw [← hrw] at h15
    have hir : inputsOf (ringWhole ps) = many + 2 := by
      rw [hrw]
      show (wS :: xns (many + 1)).length = _
      rw [List.length_cons, xns_len]
    refine ⟨_, ringWhole ps, rfl, h15, ok.gw, by omega, by omega, ok.gk, fun v16 H16 k16 h16 => ?_⟩
    have hio : inputsOf (knowOwn (ringWhole ps)) = many + 1 := by
      show (xns (inputsOf (knowing (ringWhole ps)) - 1)).length = _
      rw [xns_len]
      show (wS :: xns (inputsOf (ringWhole ps) - 1)).length - 1 = _
      rw [List.length_cons, xns_len]
      omega
    have kE := kD.trans (k134.trans (k15.trans k16))
    have hW16 := (k134.trans (k15.trans k16)) _ _ hWa (.inl (by simp))
    refine ⟨_, rfl, D, rfl, ⟨_, sq_lst hW16⟩, fun R hR => lc_y walk_list (fun i H' => Sm H16 H' ∧ ∃ acc, H' R = some (.lst acc) ∧ AtAll K H' (((List.range i).map fun k => fill (knowOwn (ringWhole ps)) (.w (wn k))).map progT) acc) ⟨Kp.new hR, [], upd_same, aa_nil⟩ (fun i H' _ ⟨k, _⟩ => sq_lst (k _ _ hW16 (.inl (by simp)))) ?_ ?_⟩
    · rintro i x Ha Hb hi ⟨k7, acc, hacc, aacc⟩ ⟨rfl, hx⟩
      rw [hwl] at hi
      rw [hwat i hi] at hx
      cases hx
      refine ⟨rfl, _, rfl, _, rfl, _, _, knowOwn (ringWhole ps), .w (wn i), rfl, k7.at_ h16, at_wi, ok.go, by omega, by omega, fun v8 H8 k8 h8 => ?_⟩
      have hacc8 := k8 _ _ hacc (.inl (by simp))
      have hla := aa_len aacc
      rw [List.length_map, List.length_map, List.length_range] at hla
      have k11 : Kp [R] H8 (upd H8 R (.lst (acc ++ [v8]))) := Kp.own hacc8
      refine ⟨acc, hacc8, by rw [sizeLine_eq]; omega, (k7.trans k8).set hR, _, upd_same, ?_⟩
      rw [List.range_succ, List.map_append, List.map_append]
      exact aa_snocI (k11.aa (k8.aa aacc)) (k11.at_ h8)
    rintro H17 ⟨k17, acc, hacc, aacc⟩
    rw [hwl] at aacc
    exact q R acc H17 (kE.trans k17) hacc aacc
end
end G
set_option maxRecDepth 100000
set_option maxHeartbeats 4000000
/-! Gr: list(reversed(xs)). -/
namespace G
open PySem PySem.Spec PyProof.Rows L2
section
variable {prog : Program} {w : World} {A : Around} {E : Value → Shared → Prop} {s : Shared}
theorem call_list_revI {it l : Addr} {items : Array Value} {Q : Value → Shared → Prop} (hh : A.handled = none) (hit : s.heap.IsRevIter it l ((items.size : Int) - 1)) (hl : s.heap.IsList l items) (hne : l ≠ it) (hn : items.size ≤ sizeLine)
    (hQ : ∀ (h' : Heap) (tk : Nat) (acc : Array Value) (c : Nat), (∀ b o, b ≠ it → s.heap.get? b = some o → h'.get? b = some o) → h'.get? s.heap.objs.size = some { cls := .type "list", dict := none, data := .seq acc c, slots := #[] } →
      ItemsOf (fun i v => items[items.size - 1 - i]? = some v) acc items.size → Q (.ref s.heap.objs.size) { s with heap := h', toks := tk }) :
    wpAny (model prog w) A (call (.type "list") [.ref it]) Q E s := by
  have W := (Walks.listRev (prog := prog) (w := w) (A := A.in1.in1) hh it l hne items).toS
  obtain ⟨oi, hoi, _⟩ := id hit
  obtain ⟨ol, hol, _⟩ := id hl
  have hSi : s.heap.objs.size ≠ it := Nat.ne_of_gt (Heap.lt_size hoi)
  have hSl : s.heap.objs.size ≠ l := Nat.ne_of_gt (Heap.lt_size hol)
  have hSf : s.heap.objs.size ∉ [it, l] := by simp only [List.mem_cons, List.not_mem_nil, or_false, not_or]; exact ⟨hSi, hSl⟩
  refine callType_codes (Q₁ := fun obj s₁ => obj = .ref s.heap.objs.size ∧ s₁ = { s with heap := s.heap.push { cls := .type "list", data := .seq #[] } }) PySem.F.called_list (PySem.F.typeCall_list_1 _) PySem.F.entry_list_init
    (code_list_new _ ⟨rfl, rfl⟩) fun obj s₁ h₁ => ?_
  obtain ⟨rfl, rfl⟩ := h₁
  have hS : (s.heap.push { cls := .type "list", data := .seq #[] }).get? s.heap.objs.size = some { cls := .type "list", data := .seq #[] } := Heap.get?_push_size _ rfl
  refine ⟨⟨_, hS, rfl⟩, PySem.F.args_list_init_2 _ _, ?_⟩
  show wpAny _ A.in1.in1 (do let old ← Builtin.List.listItems (.ref s.heap.objs.size); Builtin.List.listUpdate (.ref s.heap.objs.size) (fun _ => #[]); letGo old.toList.reverse; Builtin.List.listExtendWith (.ref s.heap.objs.size) (.ref it) .none) _ _ _
  refine wpAny_bind ?_
  unfold Builtin.List.listItems
  refine wpAny_bind (wpAny_seqItems hS rfl (wpAny_pure ?_))
  show wpAny _ A.in1.in1 (updateSeq s.heap.objs.size (fun _ => #[]) >>= fun _ => letGo (#[] : Array Value).toList.reverse >>= fun _ => Builtin.List.listExtendWith (.ref s.heap.objs.size) (.ref it) .none) _ _ _
  refine wpAny_bind (wpAny_updateSeq hS rfl ?_)
  have hS2 := Heap.get?_update_self (Obj.mapSeq (fun _ => (#[] : Array Value))) hS rfl
  have kp : ∀ b o, s.heap.get? b = some o → ((s.heap.push { cls := .type "list", data := .seq #[] }).update s.heap.objs.size (Obj.mapSeq (fun _ => (#[] : Array Value)))).get? b = some o := fun b o e =>
    (Heap.get?_update_other _ _ (Ne.symm (Nat.ne_of_lt (Heap.lt_size e)))).trans (Heap.get?_push_of_some _ e)
  generalize (s.heap.push { cls := .type "list", data := .seq #[] }).update s.heap.objs.size (Obj.mapSeq (fun _ => (#[] : Array Value))) = h2 at hS2 kp
  refine wpAny_bind (wpAny_letGo ?_)
  have hit1 : h2.IsRevIter it l ((items.size : Int) - 1) := hit.at fun o e => kp _ _ e
  have hl1 : h2.IsList l items := by
    obtain ⟨o, ho, hc, n, hd⟩ := hl
    exact ⟨o, kp _ _ ho, hc, n, hd⟩
  have hT : ({ s with heap := h2 } : Shared).TypeIs (.ref it) "list_reverseiterator" := Heap.IsRevIter.typeIs (s := { s with heap := h2 }) hit1
  have h1 : Builtin.List.listSameRef (.ref s.heap.objs.size) (.ref it) = false := by simp [Builtin.List.listSameRef, hSi]
  unfold Builtin.List.listExtendWith
  refine wpAny_bind (wpAny_typeOf hT ?_)
  rw [if_neg (by rw [h1]; decide)]
  refine wpAny_bind (wpAny_pyIter_revIter (s := { s with heap := h2 }) hit1 ?_)
  refine wpAny_bind (wpAny_holding ?_)
  unfold Builtin.List.listLengthHint
  refine wpAny_bind (wpAny_specialOf hT RT.nolen_lri ?_)
  show wpAny _ A.in1.in1 (specialOf (Value.ref it) (Str.ofString "__length_hint__") >>= _) _ _ _
  refine wpAny_bind (wpAny_specialOf hT RT.hint_lri ?_)
  generalize hid : ("list_reverseiterator.__length_hint__" : String) = id0
  wp_delta
  rw [show splitId id0 = some ("list_reverseiterator", "__length_hint__") from by subst hid; decide +kernel]
  subst hid
  refine wpAny_bind (wpAny_isInstance (b := true) hT (by rw [isSubtype_type]; kernel_rfl) ?_)
  refine wpAny_pure ?_
  rw [if_neg (by decide)]
  have e0 : ((items.size : Nat) : Int) - 1 - ((0 : Nat) : Int) = (items.size : Int) - 1 := by omega
  refine wpAny_pure ⟨plainId_quiet PySem.F.plain_extend_loop _, codeAny_extend_loopS W hn _ hSf _ items.size 0 _ _ _ rfl (Nat.zero_le _) ⟨Nat.zero_le _, by rw [e0]; exact hit1, hl1⟩ hS2 (ItemsOf.nil _) fun s' acc' c' hm hS' hacc => ?_⟩
  rw [Moved.eq_with hm]
  refine (show _ ∧ _ from ⟨rfl, hQ s'.heap s'.toks acc' c' (fun b o hb e => hm.heap b o (fun hmem => ?_) (kp _ _ e)) hS' hacc⟩)
  rcases List.mem_cons.mp hmem with e' | hmem
  · exact absurd (Heap.lt_size e) (by rw [e']; exact Nat.lt_irrefl _)
  · exact hb (List.mem_singleton.mp hmem)
end
def tLstRev (K : PySem.W.Frag) (te : TE) : TE := fun σ H Q => te σ H fun v H1 => ∃ (a : Addr) (xs : List V), v = .ref a ∧ SqL K H1 a xs ∧ ∀ p, H1 p = none → Q (.ref p) (upd H1 p (.lst xs.reverse))
section
variable {X : Cx}
theorem pe_lstRev {e : Expr} {te : TE} {p p2 pos pos2 : Pos} (hc : X.calm = true) (hg : Gl X "list") (hm : X.mg "list" = none) (hg2 : Gl X "reversed") (hm2 : X.mg "reversed" = none) (he : PE X e te)
    (hs : starEach [e] X.env = (false, eval e X.env) :: starEach [] X.env := by rfl)
    (hs2 : starEach [.Call (.Name "reversed" p2) [e] [] pos2] X.env = (false, eval (.Call (.Name "reversed" p2) [e] [] pos2) X.env) :: starEach [] X.env := by rfl) :
    PE X (.Call (.Name "list" p) [.Call (.Name "reversed" p2) [e] [] pos2] [] pos) (tLstRev X.K te) := by
  refine ⟨fun pins s σ H Q I h => ?_⟩
  refine Call_ (ld_blt I hg hm boot_list (PyProof.Rows.callWith_type1 (args_cons (Call_ (ld_blt I hg2 hm2 PyProof.Rows.boot_reversed (PyProof.Rows.callWith_type1 (args_cons (thn (he.run pins s σ H _ I h) fun u s1 ⟨v, H1, I1, r1, q1⟩ => args_nil ?_) hs) hs rfl))) hs2) hs2 rfl))
  obtain ⟨a, xs, ev, hq, q⟩ := q1
  subst ev
  obtain rfl : u = Value.ref a := r1
  obtain ⟨its, rv, p', hz⟩ := I1.list hq
  refine call_reversed_list p'.isList (args_nil ?_)
  have hl := p'.isList
  obtain ⟨ol, hol, _⟩ := id hl
  have hne : a ≠ s1.heap.objs.size := Nat.ne_of_lt (Heap.lt_size hol)
  have hn : its.toArray.size ≤ sizeLine := by rw [List.size_toArray, ← rv.length]; exact hz
  refine call_list_revI (s := { s1 with heap := s1.heap.push (revObj a ((its.toArray.size : Int) - 1)) }) (I1.ok.hd hc) ⟨_, Heap.get?_push_size _ rfl, rfl, rfl⟩ (hl.push _) hne hn fun h' tk acc c hk hnew hi => ?_
  have hk2 : ∀ b o, s1.heap.get? b = some o → h'.get? b = some o := fun b o e => hk b o (Nat.ne_of_lt (Heap.lt_size e)) (Heap.get?_push_of_some _ e)
  have hsz : s1.heap.objs.size ≤ (s1.heap.push (revObj a ((its.toArray.size : Int) - 1))).objs.size := by simp [Heap.push]
  refine ⟨.ref (s1.heap.push (revObj a ((its.toArray.size : Int) - 1))).objs.size, _, I1.laid (t' := tk) hk2 hsz (show ObjOk X.prog X.w _ _ _ (.lst xs.reverse) from ⟨by rw [List.length_reverse]; exact hz, acc.toList, c, RT.vals_rev rv hi, ?_⟩), rfl, q _ (I1.hok.fresh hsz)⟩
  rw [Array.toArray_toList]
  exact hnew
end
end G
set_option maxRecDepth 100000
set_option maxHeartbeats 4000000
/-! F3a: part_path, parts_of, tails, translator. -/
namespace G
open PySem PySem.Spec PyProof.Rows L2
theorem lit_p : ("p" : Str) = kw [112] := by decide +kernel
theorem lit_a : ("a" : Str) = wA := by decide +kernel
theorem lit_tail : ("tail" : Str) = wTail := by decide +kernel
theorem lit_head : ("head" : Str) = wHead := by decide +kernel
theorem as_app (k d : Nat) : List.replicate k (T.w wA) ++ as_ d = as_ (k + d) := by
  unfold as_
  rw [List.replicate_append_replicate]
/-- the parts of an expression with their depths and paths, as trees; the first is the k-th -/
def partT (f : Str) (d : Nat) (p : List T) (k : Nat) (t : T) : T := .l [t, .l (as_ (match seq f wIf with
  | true => d
  | false => k + d)), .l (way (k + 1) p)]
def partsT (f : Str) (d : Nat) (p : List T) : Nat → List T → List T
  | _, [] => []
  | k, t :: ts => partT f d p k t :: partsT f d p (k + 1) ts
theorem partsT_len (f : Str) (d : Nat) (p : List T) : ∀ (k : Nat) (ts : List T), (partsT f d p k ts).length = ts.length
  | k, [] => rfl
  | k, t :: ts => by
    show (partsT f d p (k + 1) ts).length + 1 = _
    rw [partsT_len f d p (k + 1) ts]
    rfl
theorem partsT_snoc (f : Str) (d : Nat) (p : List T) : ∀ (k : Nat) (ts : List T) (t : T), partsT f d p k (ts ++ [t]) = partsT f d p k ts ++ [partT f d p (k + ts.length) t]
  | k, [], t => rfl
  | k, u :: ts, t => by
    show partT f d p k u :: partsT f d p (k + 1) (ts ++ [t]) = partT f d p k u :: partsT f d p (k + 1) ts ++ [_]
    rw [partsT_snoc f d p (k + 1) ts t, List.length_cons, show k + 1 + ts.length = k + (ts.length + 1) by omega]
    rfl
theorem partsT_get (f : Str) (d : Nat) (p : List T) : ∀ (k : Nat) (ts : List T) (i : Nat) (t : T), ts[i]? = some t → (partsT f d p k ts)[i]? = some (partT f d p (k + i) t)
  | k, [], i, t, h => by cases h
  | k, u :: ts, 0, t, h => by
    cases h
    rfl
  | k, u :: ts, i + 1, t, h => by
    show (partsT f d p (k + 1) ts)[i]? = _
    rw [partsT_get f d p (k + 1) ts i t h, show k + 1 + i = k + (i + 1) by omega]
section
variable {P : Program} {w : World} {K : PySem.W.Frag} {mg : Str → Option Value} {base : Heap}
def sp_part_path (K : PySem.W.Frag) : Sp := fun vs H Q _ => ∃ (n : Nat) (v : V) (p : List T), vs = [.int (n : Int), v] ∧ At K H (.l p) v ∧ n ≤ 1000 ∧ p.length ≤ 5000000 ∧ ans K (.l (way n p)) H Q
theorem sc_part_path : FnScope ["number", "path"] ["number", "path"] (defScope s_part_path) := ⟨rfl, rfl, rfl, by decide +kernel, rfl, by decide +kernel, by decide +kernel⟩
theorem f_part_path (T : Txt w K mg) : Clb P w K mg base "part_path" 1 ["number", "path"] (sp_part_path K) := by
  refine T.d_part_path.clb sc_part_path (fun _ _ _ _ _ _ us hl => match us, hl with | [_, _], _ => rfl) (fun vs H Q E h => ?_) (fun f cdv A outer s H vs Q E hr h => ?_)
  · obtain ⟨_, _, _, rfl, _⟩ := h
    rfl
  · obtain ⟨n, v, p, rfl, h, hn, hp, q⟩ := h
    refine ⟨_, (pss_one (ps_ret (pe_op op_catTr (pe_tupT (pa_cons (pe_op op_add_str pe_str (pe_callTy call_str_int (by rfl) T.n_str PyProof.Rows.boot_str (pa_cons (pv 0) pa_nil))) pa_nil)) (pv 1)))), ?_⟩
    have hlx := str_len (n := n) (by omega)
    refine ⟨_, rfl, _, rfl, log2_small (by omega), _, _, rfl, rfl, ?_, [.w (pn n)], ?_, zle (Nat.le_of_ble_eq_true rfl), fun p1 H1 k1 h1 => ?_⟩
    · have h1 : (("p" : Str)).length = 1 := by decide +kernel
      rw [h1, sizeLine_eq]
      omega
    · rw [str_name 112 _ lit_p]
      exact aa_cons at_wi aa_nil
    · exact ⟨_, rfl, _, _, h1, k1.at_ h, by rw [sizeLine_eq]; show 1 + _ ≤ _; omega, q.new k1⟩
def sp_parts_of (K : PySem.W.Frag) : Sp := fun vs H Q _ => ∃ (a b c : V) (f : Str) (ts : List T) (d : Nat) (p : List T), vs = [a, b, c] ∧ At K H (.l (.w f :: ts)) a ∧ At K H (.l (as_ d)) b ∧ At K H (.l p) c ∧ ts.length ≤ 100 ∧ d ≤ 5000000 ∧ p.length ≤ 5000000 ∧
  ∀ r us H', Sm H H' → H r = none → H' r = some (.lst us) → AtAll K H' (partsT f d p 0 ts) us → Q (.ref r) H'
theorem sc_parts_of : FnScope ["expression", "depth", "path", "found", "k", "part", "deeper"] ["expression", "depth", "path"] (defScope s_parts_of) := ⟨rfl, rfl, rfl, by decide +kernel, rfl, by decide +kernel, by decide +kernel⟩
theorem f_parts_of (T : Txt w K mg) : Clb P w K mg base "parts_of" 2 ["expression", "depth", "path"] (sp_parts_of K) := by
  have F_part_path : Clb P w K mg base "part_path" 1 ["number", "path"] (sp_part_path K) := f_part_path T
  refine T.d_parts_of.clb sc_parts_of (fun _ _ _ _ _ _ us hl => match us, hl with | [_, _, _], _ => rfl) (fun vs H Q E h => ?_) (fun f cdv A outer s H vs Q E hr h => ?_)
  · obtain ⟨_, _, _, _, _, _, _, rfl, _⟩ := h
    rfl
  · obtain ⟨a, b, c, f, ts, d, p, rfl, ha, hb, hc, ht, hd, hp, q⟩ := h
    refine ⟨_, (pss_cons (ps_set (i := 3) sc_parts_of.nd rfl (Or.inl rfl) (pe_lst pa_nil))
      (pss_cons (ps_for PassesOwn.never rfl (pi_enumT (by rfl) T.n_enumerate (pa_cons (pe_slice sl_T (pv 0) (po_some pe_int) po_none) pa_nil)) (pg_tupK K rfl 2 rfl (pgs_cons (pg_name (i := 4) sc_parts_of.nd rfl (Or.inl rfl)) (pgs_cons (pg_name (i := 5) sc_parts_of.nd rfl (Or.inl rfl)) pgs_nil))) (pss_cons (ps_set (i := 6) sc_parts_of.nd rfl (Or.inl rfl) (pe_ifExp (pt_cmpR op_eq (pe_ix ix_T (pv 0) pe_int (fun _ _ => rfl)) pe_str (nomark _)) (pv 1) (pe_op op_catTr (pe_op op_repTr (pe_tupT (pa_cons pe_str pa_nil)) (pv 4)) (pv 1))))
      (pss_one (ps_expr (pe_bm PySem.F.plainAttrs_list PySem.F.slot_list_append PySem.F.type_list_append mt_append (pv 3) (pa_cons (pe_tupT (pa_cons (pv 5) (pa_cons (pv 6) (pa_cons (pe_c F_part_path (hr.mono (by decide)) (pa_cons (pe_op op_add (pv 4) pe_int) (pa_cons (pv 2) pa_nil))) pa_nil)))) pa_nil))))))
      (pss_one (ps_ret (pv 3))))), ?_⟩
    refine ⟨zle (Nat.le_of_ble_eq_true rfl), fun L hL => ?_⟩
    have k1 : Sm H (upd H L (.lst [])) := Kp.new hL
    have hl1 : (upd H L (.lst [])) L = some (.lst []) := upd_same
    generalize upd H L (.lst []) = H1 at k1 hl1
    refine ⟨_, rfl, _, rfl, _, k1.at_ ha, .inl ⟨1, rfl, rfl, Nat.le_refl 1, by rw [List.length_cons]; omega, fun p2 H2 k2 h2 => ?_⟩⟩
    have h2 : At K H2 (.l ts) (.ref p2) := h2
    obtain ⟨p2', xs, e2, hX, hA⟩ := id h2
    cases e2
    have hxl : xs.length = ts.length := aa_len hA
    have k12 := k1.trans k2
    refine ⟨p2, xs, rfl, hX.sq, for_it walk_enumT (fun i σ H' => ∃ v4 v5 v6 acc, σ = [some a, some b, some c, some (.ref L), v4, v5, v6] ∧ Kp [L] H2 H' ∧ Sm H H' ∧ H' L = some (.lst acc) ∧ AtAll K H' (partsT f d p 0 (ts.take i)) acc) ⟨none, none, none, [], rfl, Kp.refl, k12, k2 _ _ hl1 (.inl (by simp)), aa_nil⟩ (fun i σ H' _ ⟨_, _, _, _, _, k, _⟩ => (k.xt hX).sq) ?_ ?_⟩
    · rintro i x σ Ha Hb hi ⟨v4, v5, v6, acc, rfl, kL, kS, hacc, aacc⟩ ⟨tp, x1, x2, rfl, htp, rfl, e1, e2⟩
      cases e1
      obtain ⟨t, hti, hAt⟩ := aa_at hA (show xs[i]? = some x2 from e2)
      have k4a : Sm Ha (upd Ha tp (.tup [.int (i : Nat), x2])) := Kp.new htp
      have kS4 := kS.trans k4a
      have kL4 := kL.trans k4a.nil
      have hacc4 := k4a _ _ hacc (.inl (by simp))
      have aacc4 := k4a.aa aacc
      refine ⟨tp, _, rfl, st_tup upd_same, rfl, _, _, rfl, _, _, rfl, rfl, ?_⟩
      have hAt := kL4.at_ hAt
      generalize upd Ha tp (.tup [.int (i : Nat), x2]) = Hc at kS4 kL4 hacc4 aacc4 hAt
      have hil : i < ts.length := by omega
      -- deeper
      refine ⟨_, rfl, _, 0, _, kS4.at_ ha, rfl, rfl, fun v1 h1 => ?_⟩
      obtain rfl := at_w h1
      refine ⟨rfl, _, rfl, ?_⟩
      rw [dec_ss, show ("if" : Str) = wIf by decide +kernel]
      have fin : ∀ (dv : V) (H5 : Hp), Sm Hc H5 → At K H5 (.l (as_ (match seq f wIf with | true => d | false => i + d))) dv →
          tBM K "list" rAppend (tVar 3) (tCons (tTupTr K (tCons (tVar 5) (tCons (tVar 6) (tCons (tCall (sp_part_path K) [] E0 (tCons (tOp (rI0 fun i j => .int (i + j)) (tVar 4) (tC (.int 1))) (tCons (tVar 2) tNil))) tNil)))) tNil)
            [some a, some b, some c, some (.ref L), some (.int (i : Nat)), some x2, some dv] H5 fun _ H' => ∃ v4 v5 v6 acc, [some a, some b, some c, some (.ref L), some (.int (i : Nat)), some x2, some dv] = [some a, some b, some c, some (.ref L), v4, v5, v6] ∧ Kp [L] H2 H' ∧ Sm H H' ∧ H' L = some (.lst acc) ∧ AtAll K H' (partsT f d p 0 (ts.take (i + 1))) acc := by
        intro dv H5 k5 h5
        have hacc5 := k5 _ _ hacc4 (.inl (by simp))
        refine ⟨_, rfl, tyL hacc5, _, rfl, _, rfl, _, rfl, _, _, rfl, rfl, _, rfl, i + 1, c, p, by rw [Int.natCast_add] <;> rfl, (kS4.trans k5).at_ hc, by omega, by omega, fun v6 H6 k6 h6 => ?_⟩
        refine ⟨[t, _, _], aa_cons ((k5.trans k6).at_ hAt) (aa_cons (k6.at_ h5) (aa_cons h6 aa_nil)), zle (Nat.le_of_ble_eq_true rfl), fun p7 H7 k7 h7 => ?_⟩
        have k57 := k5.trans (k6.trans k7)
        have hacc7 := k57 _ _ hacc4 (.inl (by simp))
        have hla := aa_len aacc4
        rw [partsT_len, List.length_take] at hla
        refine ⟨L, acc, .ref p7, rfl, rfl, hacc7, by rw [sizeLine_eq]; omega, ?_⟩
        have k8 : Kp [L] H7 (upd H7 L (.lst (acc ++ [.ref p7]))) := Kp.own hacc7
        refine ⟨_, _, _, _, rfl, (kL4.trans k57.nil).trans k8, (kS4.trans k57).set hL, upd_same, ?_⟩
        have e : ts.take (i + 1) = ts.take i ++ [t] := by
          rw [List.take_add_one, hti]
          rfl
        rw [e, partsT_snoc, List.length_take, Nat.min_eq_left (Nat.le_of_lt hil)]
        refine aa_snocI (k8.aa (k57.aa aacc4)) (k8.at_ ?_)
        have e0 : 0 + i = i := by omega
        rw [e0]
        exact h7
      cases hif : seq f wIf with
      | true =>
        refine iteT ⟨_, rfl, fin b Hc Kp.refl ?_⟩
        rw [hif]
        exact kS4.at_ hb
      | false =>
        refine iteF ⟨[.w wA], aa_cons (by rw [lit_a]; exact at_wi) aa_nil, zle (Nat.le_of_ble_eq_true rfl), fun p5 H5 k5 h5 => ?_⟩
        refine ⟨_, rfl, .w wA, i, h5, rfl, by omega, fun p6 H6 k6 h6 => ?_⟩
        refine ⟨_, rfl, _, _, h6, (k5.trans k6).at_ (kS4.at_ hb), by rw [List.length_replicate]; unfold as_; rw [List.length_replicate, sizeLine_eq]; omega, fun p7 H7 k7 h7 => ?_⟩
        refine fin (.ref p7) H7 (k5.trans (k6.trans k7)) ?_
        rw [hif]
        rw [as_app] at h7
        exact h7
    · rintro σ H3 ⟨v4, v5, v6, acc, rfl, kL, kS, hacc, aacc⟩
      rw [hxl, List.take_length] at aacc
      exact ⟨_, rfl, q L acc H3 kS hL hacc aacc⟩
def sp_tails (K : PySem.W.Frag) : Sp := fun vs H Q _ => ∃ (n : Nat) (v : V) (e : Xp), vs = [.int (n : Int), v] ∧ At K H e.t v ∧ n ≤ 1000 ∧ ans K (tailsX n e).t H Q
theorem sc_tails : FnScope ["many", "expression", "_"] ["many", "expression"] (defScope s_tails) := ⟨rfl, rfl, rfl, by decide +kernel, rfl, by decide +kernel, by decide +kernel⟩
theorem tailsX_succ : ∀ (n : Nat) (e : Xp), tailsX (n + 1) e = .n wTail [tailsX n e]
  | 0, e => rfl
  | n + 1, e => by
    show tailsX (n + 1) (.n wTail [e]) = _
    rw [tailsX_succ n (.n wTail [e])]
    rfl
theorem f_tails (T : Txt w K mg) : Clb P w K mg base "tails" 1 ["many", "expression"] (sp_tails K) := by
  refine T.d_tails.clb sc_tails (fun _ _ _ _ _ _ us hl => match us, hl with | [_, _], _ => rfl) (fun vs H Q E h => ?_) (fun f cdv A outer s H vs Q E hr h => ?_)
  · obtain ⟨_, _, _, rfl, _⟩ := h
    rfl
  · obtain ⟨n, v, e, rfl, h, hn, q⟩ := h
    refine ⟨_, (pss_cons (ps_for PassesOwn.never rfl (pi_range1 rfl T.n_range (pa_cons (pv 0) pa_nil)) (pg_name (i := 2) sc_tails.nd rfl (Or.inl rfl)) (pss_one (ps_set (i := 1) sc_tails.nd rfl (Or.inl rfl) (pe_tupT (pa_cons pe_str (pa_cons (pv 1) pa_nil))))))
      (pss_one (ps_ret (pv 1)))), ?_⟩
    refine ⟨_, rfl, _, rfl, by omega, by omega, for_it walk_range (fun i σ H' => ∃ v1 v2, σ = [some (.int (n : Int)), some v1, v2] ∧ Sm H H' ∧ At K H' (tailsX i e).t v1) ⟨v, none, rfl, Kp.refl, h⟩ (fun _ _ _ _ _ => trivial) ?_ ?_⟩
    · rintro i x σ Ha Hb hi ⟨v1, v2, rfl, k, h1⟩ ⟨rfl, hx⟩
      refine ⟨_, rfl, [.w wTail, _], aa_cons (by rw [lit_tail]; exact at_wi) (aa_cons h1 aa_nil), zle (Nat.le_of_ble_eq_true rfl), fun p3 H3 k3 h3 => ⟨_, _, rfl, k.trans k3, ?_⟩⟩
      rw [tailsX_succ]
      exact h3
    · rintro σ H1 ⟨v1, v2, rfl, k, h1⟩
      rw [Int.toNat_natCast] at h1
      exact ⟨_, rfl, q _ _ k h1⟩
def sp_translator (K : PySem.W.Frag) : Sp := fun vs H Q _ => vs = [] ∧ ∀ a, At K H (progT translator) (.ref a) → Q (.ref a) H
theorem sc_translator : FnScope [] [] (defScope s_translator) := ⟨rfl, rfl, rfl, by decide +kernel, rfl, by decide +kernel, by decide +kernel⟩
theorem f_translator (T : Txt w K mg) : Clb P w K mg base "translator" 1 [] (sp_translator K) := by
  refine T.d_translator.clb sc_translator (fun _ _ _ _ _ _ us hl => match us, hl with | [], _ => rfl) (fun vs H Q E h => ?_) (fun f cdv A outer s H vs Q E hr h => ?_)
  · obtain ⟨rfl, _⟩ := h
    rfl
  · obtain ⟨rfl, q⟩ := h
    refine ⟨_, (pss_one (ps_ret (pe_gr T.c_TRANSLATOR))), ?_⟩
    exact fun a ha => q a (ha H)
end
end G
set_option maxRecDepth 100000
set_option maxHeartbeats 4000000
/-! F3b: instructions_of. -/
namespace G
open PySem PySem.Spec PyProof.Rows L2
theorem A2.rev {α : Type} {R : α → V → Prop} : ∀ {as : List α} {vs : List V}, A2 R as vs → A2 R as.reverse vs.reverse
  | [], vs, h => by rw [show vs = [] from h]; rfl
  | a :: as, vs, h => by
    obtain ⟨v, r, rfl, h1, h2⟩ := h
    rw [List.reverse_cons, List.reverse_cons]
    exact h2.rev.app (A2.one h1)
inductive Wt where
  | e (x : Xp) (d : Nat) (p : List T)
  | dn (t : T)
def AtW (K : PySem.W.Frag) (H : Hp) : Wt → V → Prop
  | .e x d p, v => ∃ a x1 x2 x3, v = .ref a ∧ XT K H a [x1, x2, x3] ∧ At K H x.t x1 ∧ At K H (.l (as_ d)) x2 ∧ At K H (.l p) x3
  | .dn t, v => ∃ a x1, v = .ref a ∧ XT K H a [x1, .non, .non] ∧ At K H t x1
theorem AtW.kp {K : PySem.W.Frag} {F : List Addr} {H H' : Hp} (k : Kp F H H') : ∀ (q : Wt) (v : V), AtW K H q v → AtW K H' q v
  | .e x d p, v, h => by
    obtain ⟨a, x1, x2, x3, rfl, h1, h2, h3, h4⟩ := h
    exact ⟨a, x1, x2, x3, rfl, k.xt h1, k.at_ h2, k.at_ h3, k.at_ h4⟩
  | .dn t, v, h => by
    obtain ⟨a, x1, rfl, h1, h2⟩ := h
    exact ⟨a, x1, rfl, k.xt h1, k.at_ h2⟩
theorem AtW.of {K : PySem.W.Frag} {H : Hp} {x : Xp} {d : Nat} {p : List T} {v : V} (h : At K H (.l [x.t, .l (as_ d), .l p]) v) : AtW K H (.e x d p) v := by
  obtain ⟨a, vs, rfl, hX, hA⟩ := h
  obtain ⟨x1, r1, rfl, h1, hA⟩ := hA
  obtain ⟨x2, r2, rfl, h2, hA⟩ := hA
  obtain ⟨x3, r3, rfl, h3, hA⟩ := hA
  rw [show r3 = [] from hA] at hX
  exact ⟨a, x1, x2, x3, rfl, hX, h1, h2, h3⟩
def out (ps : List Str) : List Wt → List T
  | [] => []
  | .e x d p :: ws => instrs ps x d p ++ out ps ws
  | .dn t :: ws => t :: out ps ws
def mw : List Wt → Nat
  | [] => 0
  | .e x _ _ :: ws => 2 * x.size + mw ws
  | .dn _ :: ws => 1 + mw ws
theorem mw_app : ∀ a b : List Wt, mw (a ++ b) = mw a + mw b
  | [], b => by simp [mw]
  | .e x d p :: a, b => by
    show 2 * x.size + mw (a ++ b) = 2 * x.size + mw a + mw b
    rw [mw_app a b]
    omega
  | .dn t :: a, b => by
    show 1 + mw (a ++ b) = 1 + mw a + mw b
    rw [mw_app a b]
    omega
theorem mw_rev : ∀ a : List Wt, mw a.reverse = mw a
  | [] => rfl
  | q :: a => by
    rw [List.reverse_cons, mw_app, mw_rev a]
    cases q with
    | e x d p =>
      show mw a + (2 * x.size + 0) = 2 * x.size + mw a
      omega
    | dn t =>
      show mw a + (1 + 0) = 1 + mw a
      omega
theorem mw_len : ∀ a : List Wt, a.length ≤ mw a
  | [] => Nat.zero_le _
  | .e x d p :: a => by
    have := mw_len a
    have := x.size_pos
    show a.length + 1 ≤ 2 * x.size + mw a
    omega
  | .dn t :: a => by
    have := mw_len a
    show a.length + 1 ≤ 1 + mw a
    omega
/-- the parts of a word that is no if -/
def pw (d : Nat) (p : List T) : Nat → List Xp → List Wt
  | _, [] => []
  | k, a :: as => .e a (k + d) (way (k + 1) p) :: pw d p (k + 1) as
theorem pw_len (d : Nat) (p : List T) : ∀ (k : Nat) (as : List Xp), (pw d p k as).length = as.length
  | k, [] => rfl
  | k, a :: as => by
    show (pw d p (k + 1) as).length + 1 = _
    rw [pw_len d p (k + 1) as]
    rfl
theorem mw_pw (d : Nat) (p : List T) : ∀ (k : Nat) (as : List Xp), mw (pw d p k as) = 2 * Xp.sizes as
  | k, [] => rfl
  | k, a :: as => by
    show 2 * a.size + mw (pw d p (k + 1) as) = 2 * (a.size + Xp.sizes as)
    rw [mw_pw d p (k + 1) as]
    omega
theorem out_pw (ps : List Str) (d : Nat) (p : List T) (ws : List Wt) : ∀ (k : Nat) (as : List Xp), out ps (pw d p k as ++ ws) = instrsL ps as (k + d) p (k + 1) ++ out ps ws
  | k, [] => rfl
  | k, a :: as => by
    show instrs ps a (k + d) (way (k + 1) p) ++ out ps (pw d p (k + 1) as ++ ws) = (instrs ps a (k + d) (way (k + 1) p) ++ instrsL ps as (k + d + 1) p (k + 1 + 1)) ++ out ps ws
    rw [out_pw ps d p ws (k + 1) as, List.append_assoc, show k + 1 + d = k + d + 1 by omega]
theorem pw_at {K : PySem.W.Frag} {H : Hp} {f : Str} {d : Nat} {p : List T} (hf : seq f wIf = false) : ∀ {k : Nat} {as : List Xp} {us : List V}, AtAll K H (partsT f d p k (as.map Xp.t)) us → A2 (AtW K H) (pw d p k as) us
  | k, [], us, h => h
  | k, a :: as, us, h => by
    obtain ⟨v, r, rfl, h1, h2⟩ := h
    refine ⟨v, r, rfl, ?_, pw_at hf h2⟩
    unfold partT at h1
    rw [hf] at h1
    exact AtW.of h1
theorem pw_mem {d : Nat} {p : List T} : ∀ {k : Nat} {as : List Xp} {q : Wt}, q ∈ pw d p k as → ∃ a i, a ∈ as ∧ i < k + as.length ∧ q = .e a (i + d) (way (i + 1) p)
  | k, [], q, h => by cases h
  | k, a :: as, q, h => by
    rcases List.mem_cons.mp h with e | h
    · exact ⟨a, k, List.mem_cons_self .., by rw [List.length_cons]; omega, e⟩
    · obtain ⟨b, i, h1, h2, h3⟩ := pw_mem h
      exact ⟨b, i, List.mem_cons_of_mem _ h1, by rw [List.length_cons]; omega, h3⟩
theorem instrs_if {ps : List Str} {f : Str} {c : Xp} {r : List Xp} {d : Nat} {p : List T} (h : seq f wIf = true) : instrs ps (.n f (c :: r)) d p = instrs ps c d (way 1 p) ++ [.l [.w wIf, .l (way 2 p), .l (way 3 p)]] := by
  simp only [instrs, h]
theorem instrs_nil {ps : List Str} {f : Str} {d : Nat} {p : List T} : instrs ps (.n f []) d p = [lastOp f] := by
  rw [instrs]
  · rw [instrsL]
    rfl
  · intro c tail _ h
    cases h
theorem instrs_no {ps : List Str} {f : Str} {as : List Xp} {d : Nat} {p : List T} (h : seq f wIf = false) : instrs ps (.n f as) d p = instrsL ps as d p 1 ++ [lastOp f] := by
  rw [instrs]
  intro c tail h1 h2
  rw [h] at h1
  cases h1
mutual
theorem instrs_len (ps : List Str) : ∀ (x : Xp) (d : Nat) (p : List T), (instrs ps x d p).length ≤ x.size
  | .v s, d, p => Nat.le_refl 1
  | .q t, d, p => Nat.le_refl 1
  | .n f [], d, p => by
    rw [instrs_nil]
    exact Nat.le_refl 1
  | .n f (c :: as), d, p => by
    have h1 := instrs_len ps c d (way 1 p)
    have h2 := instrsL_len ps (c :: as) d p 1
    cases h : seq f wIf with
    | true =>
      rw [instrs_if h, List.length_append, List.length_singleton]
      show _ ≤ 1 + (c.size + Xp.sizes as)
      omega
    | false =>
      rw [instrs_no h, List.length_append, List.length_singleton]
      show _ ≤ 1 + Xp.sizes (c :: as)
      omega
theorem instrsL_len (ps : List Str) : ∀ (as : List Xp) (d : Nat) (p : List T) (k : Nat), (instrsL ps as d p k).length ≤ Xp.sizes as
  | [], d, p, k => Nat.le_refl 0
  | a :: as, d, p, k => by
    have h1 := instrs_len ps a d (way k p)
    have h2 := instrsL_len ps as (d + 1) p (k + 1)
    show (instrs ps a d (way k p) ++ instrsL ps as (d + 1) p (k + 1)).length ≤ a.size + Xp.sizes as
    rw [List.length_append]
    omega
end
theorem behind_at : ∀ {ps : List Str} {s : Str}, inS s ps = true → ∃ j, j < ps.length ∧ ps[j]? = some s ∧ (∀ m, m < j → ps[m]? ≠ some s) ∧ ps.drop (j + 1) = behind s ps
  | [], s, h => by cases h
  | x :: r, s, h => by
    cases e : seq x s with
    | true =>
      have e2 := seq_iff.mp e
      subst e2
      refine ⟨0, Nat.succ_pos _, rfl, fun m hm => absurd hm (Nat.not_lt_zero m), ?_⟩
      show r = (match seq x x with | true => r | false => behind x r)
      rw [e]
    | false =>
      have h2 : (seq x s || inS s r) = true := h
      rw [e, Bool.false_or] at h2
      obtain ⟨j, h3, h4, h5, h6⟩ := behind_at h2
      refine ⟨j + 1, by rw [List.length_cons]; omega, h4, fun m hm => ?_, ?_⟩
      · cases m with
        | zero =>
          intro z
          have z2 : x = s := Option.some.inj z
          rw [z2, seq_self] at e
          cases e
        | succ m => exact h5 m (by omega)
      · show r.drop (j + 1) = (match seq x s with | true => r | false => behind s r)
        rw [e]
        exact h6
theorem size_mem {a : Xp} : ∀ {as : List Xp}, a ∈ as → a.size ≤ Xp.sizes as
  | [], h => by cases h
  | x :: as, h => by
    show a.size ≤ x.size + Xp.sizes as
    rcases List.mem_cons.mp h with e | h
    · rw [e]
      omega
    · have := size_mem h
      omega
theorem lit_if2 : ("if" : Str) = wIf := by decide +kernel
theorem lit_copy : ("copy" : Str) = wCopy := by decide +kernel
theorem lit_push : ("push" : Str) = wPush := by decide +kernel
theorem lit_call : ("call" : Str) = wCall := by decide +kernel
section
variable {P : Program} {w : World} {K : PySem.W.Frag} {mg : Str → Option Value} {base : Heap}
def sp_instructions_of (K : PySem.W.Frag) : Sp := fun vs H Q _ => ∃ (a b c v : V) (e : Xp) (ps : List Str) (d : Nat) (p : List T) (ar : Str → Option Nat), vs = [a, b, c, v] ∧ At K H e.t a ∧ At K H (.l (ps.map .w)) b ∧ At K H (.l (as_ d)) c ∧ At K H (.l p) v ∧
  fits ar ps e = true ∧ ar wIf = some 3 ∧ (∀ f n, ar f = some n → n ≤ 12) ∧ e.size ≤ 100000 ∧ ps.length ≤ 12 ∧ d + 12 * e.size ≤ 4000000 ∧ p.length + e.size ≤ 4000000 ∧ ans K (.l (instrs ps e d p)) H Q
theorem sc_instructions_of : FnScope ["expression", "parameters", "depth", "path", "found", "waiting", "one", "deep", "way", "behind", "parts", "last"] ["expression", "parameters", "depth", "path"] (defScope s_instructions_of) := ⟨rfl, rfl, rfl, by decide +kernel, rfl, by decide +kernel, by decide +kernel⟩
theorem f_instructions_of (T : Txt w K mg) : Clb P w K mg base "instructions_of" 3 ["expression", "parameters", "depth", "path"] (sp_instructions_of K) := by
  have F_parts_of : Clb P w K mg base "parts_of" 2 ["expression", "depth", "path"] (sp_parts_of K) := f_parts_of T
  refine T.d_instructions_of.clb sc_instructions_of (fun _ _ _ _ _ _ us hl => match us, hl with | [_, _, _, _], _ => rfl) (fun vs H Q E h => ?_) (fun f cdv A outer s H vs Q E hr h => ?_)
  · obtain ⟨_, _, _, _, _, _, _, _, _, rfl, _⟩ := h
    rfl
  · obtain ⟨a0, b0, c0, v0, e0, ps, d0, p0, ar, rfl, ha, hb, hc, hv, hfit, har3, har12, hz, hpl, hd0, hp0, q⟩ := h
    refine ⟨_, (pss_cons (ps_set (i := 4) sc_instructions_of.nd rfl (Or.inl rfl) (pe_lst pa_nil))
      (pss_cons (ps_set (i := 5) sc_instructions_of.nd rfl (Or.inl rfl) (pe_lst (pa_cons (pe_tupT (pa_cons (pv 0) (pa_cons (pv 2) (pa_cons (pv 3) pa_nil)))) pa_nil)))
      (pss_cons (ps_while PassesOwn.never (pt_cmpR op_gt (pe_callB call_len_seq (by rfl) T.n_len PySem.boot_len (pa_cons (pv 5) pa_nil)) pe_int (nomark _)) (pss_cons (ps_asg (pe_bm0 PySem.F.plainAttrs_list PySem.F.slot_list_pop PySem.F.type_list_pop mt_pop (pv 5)) (pg_tupK K rfl 3 rfl (pgs_cons (pg_name (i := 6) sc_instructions_of.nd rfl (Or.inl rfl)) (pgs_cons (pg_name (i := 7) sc_instructions_of.nd rfl (Or.inl rfl)) (pgs_cons (pg_name (i := 8) sc_instructions_of.nd rfl (Or.inl rfl)) pgs_nil)))))
      (pss_one (ps_if (pt_cmpR op_isN (pv 7) pe_non (nomark _)) (pss_one (ps_expr (pe_bm PySem.F.plainAttrs_list PySem.F.slot_list_append PySem.F.type_list_append mt_append (pv 4) (pa_cons (pv 6) pa_nil)))) (pss_one (ps_if (pt_val (pe_callB call_isS (by rfl) T.n_isinstance PyProof.Rows.boot_isinstance (pa_cons (pv 6) (pa_cons (pe_bltn (v := .ty "str") rfl T.n_str PyProof.Rows.boot_str rfl) pa_nil)))) (pss_cons (ps_set (i := 9) sc_instructions_of.nd rfl (Or.inl rfl) (pe_slice sl_T (pv 1) (po_some (pe_op op_add (pe_indexX (pv 1) (pa_cons (pv 6) pa_nil)) pe_int)) po_none))
      (pss_one (ps_expr (pe_bm PySem.F.plainAttrs_list PySem.F.slot_list_append PySem.F.type_list_append mt_append (pv 4) (pa_cons (pe_tupT (pa_cons pe_str (pa_cons (pe_op op_catTr (pv 9) (pv 7)) pa_nil))) pa_nil))))) (pss_one (ps_if (pt_cmpR op_eq (pe_ix ix_T (pv 6) pe_int (fun _ _ => rfl)) pe_str (nomark _)) (pss_one (ps_expr (pe_bm PySem.F.plainAttrs_list PySem.F.slot_list_append PySem.F.type_list_append mt_append (pv 4) (pa_cons (pe_tupT (pa_cons pe_str (pa_cons (pe_ix ix_T (pv 6) pe_int (fun _ _ => rfl)) pa_nil))) pa_nil)))) (pss_cons (ps_set (i := 10) sc_instructions_of.nd rfl (Or.inl rfl) (pe_c F_parts_of (hr.mono (by decide)) (pa_cons (pv 6) (pa_cons (pv 7) (pa_cons (pv 8) pa_nil)))))
      (pss_cons (ps_if (pt_cmpR op_eq (pe_ix ix_T (pv 6) pe_int (fun _ _ => rfl)) pe_str (nomark _)) (pss_cons (ps_set (i := 11) sc_instructions_of.nd rfl (Or.inl rfl) (pe_tupT (pa_cons pe_str (pa_cons (pe_ix ix_T (pe_ix ix_list (pv 10) pe_int (fun _ _ => rfl)) pe_int (fun _ _ => rfl)) (pa_cons (pe_ix ix_T (pe_ix ix_list (pv 10) pe_int (fun _ _ => rfl)) pe_int (fun _ _ => rfl)) pa_nil)))))
      (pss_one (ps_set (i := 10) sc_instructions_of.nd rfl (Or.inl rfl) (pe_slice sl_list (pv 10) po_none (po_some pe_int))))) (pss_one (ps_set (i := 11) sc_instructions_of.nd rfl (Or.inl rfl) (pe_ifExp (pt_cmpR op_in_seq (pe_ix ix_T (pv 6) pe_int (fun _ _ => rfl)) (pe_gr T.c_SPECIAL) (by rfl)) (pe_tupT (pa_cons (pe_ix ix_T (pv 6) pe_int (fun _ _ => rfl)) pa_nil)) (pe_tupT (pa_cons pe_str (pa_cons (pe_ix ix_T (pv 6) pe_int (fun _ _ => rfl)) pa_nil)))))))
      (pss_cons (ps_expr (pe_bm PySem.F.plainAttrs_list PySem.F.slot_list_append PySem.F.type_list_append mt_append (pv 5) (pa_cons (pe_tupX (pa_cons (pv 11) (pa_cons pe_non (pa_cons pe_non pa_nil)))) pa_nil)))
      (pss_one (ps_expr (pe_bm PySem.F.plainAttrs_list PySem.F.slot_list_extend PySem.F.type_list_extend mt_extend (pv 5) (pa_cons (pe_lstRev (by rfl) (by rfl) T.n_list (by rfl) T.n_reversed (pv 10)) pa_nil)))))))))))))))
      (pss_one (ps_ret (pe_callTy call_tupTr (by rfl) T.n_tuple PyProof.Rows.boot_tuple (pa_cons (pv 4) pa_nil))))))), ?_⟩
    refine ⟨zle (Nat.le_of_ble_eq_true rfl), fun fq hfq => ?_⟩
    have k1 : Sm H (upd H fq (.lst [])) := Kp.new hfq
    have hF1 : (upd H fq (.lst [])) fq = some (.lst []) := upd_same
    generalize upd H fq (.lst []) = H1 at k1 hF1
    refine ⟨_, rfl, _, rfl, _, rfl, [e0.t, .l (as_ d0), .l p0], aa_cons (k1.at_ ha) (aa_cons (k1.at_ hc) (aa_cons (k1.at_ hv) aa_nil)), zle (Nat.le_of_ble_eq_true rfl), fun p2 H2 k2 h2 => ⟨zle (Nat.le_of_ble_eq_true rfl), fun wq hwq => ?_⟩⟩
    have k12 := k1.trans k2
    have hw0 : H wq = none := k12.none hwq
    have k3 : Sm H2 (upd H2 wq (.lst [.ref p2])) := Kp.new hwq
    have hne : fq ≠ wq := by
      rintro rfl
      rw [k2 _ _ hF1 (.inl (by simp))] at hwq
      cases hwq
    refine ⟨fun m σ H' => ∃ v6 v7 v8 v9 v10 v11, ∃ (W : List Wt) (F : List G.T) (us fs : List V), σ = [some a0, some b0, some c0, some v0, some (.ref fq), some (.ref wq), v6, v7, v8, v9, v10, v11] ∧ Sm H H' ∧ H' wq = some (.lst us) ∧ H' fq = some (.lst fs) ∧ A2 (AtW K H') W us ∧ AtAll K H' F fs ∧
        (∀ x d p, Wt.e x d p ∈ W → fits ar ps x = true ∧ d + 12 * x.size ≤ 4000000 ∧ p.length + x.size ≤ 4000000 ∧ x.size ≤ 100000) ∧ F ++ out ps W.reverse = instrs ps e0 d0 p0 ∧ m = mw W ∧ m ≤ 200000,
      ⟨_, none, none, none, none, none, none, [.e e0 d0 p0], [], [.ref p2], [], rfl, k12.trans k3, upd_same, k3 _ _ (k2 _ _ hF1 (.inl (by simp))) (.inl (by simp)), A2.one (AtW.of (k3.at_ h2)), aa_nil, fun x d p hx => (by
        have := List.mem_singleton.mp hx
        cases this
        exact ⟨hfit, hd0, hp0, hz⟩), List.append_nil _, rfl, by show 2 * e0.size + 0 ≤ 200000; omega⟩, ?_⟩
    rintro m σ Ha ⟨v6, v7, v8, v9, v10, v11, W, F, us, fs, rfl, kA, hW, hF, aW, aF, hOk, hout, rfl, hm⟩
    have hlu := aW.len
    refine ⟨_, rfl, wq, us, rfl, .inl (sq_lst hW), _, _, rfl, rfl, _, rfl, ?_⟩
    rcases List.eq_nil_or_concat W with e | ⟨W0, x, e⟩
    · subst e
      have hu0 : us.length = 0 := hlu
      rw [hu0]
      refine iteF ?_
      have hF2 : F = instrs ps e0 d0 p0 := by rw [← hout]; exact (List.append_nil _).symm
      rw [← hF2] at q
      exact ⟨_, rfl, fq, fs, F, rfl, sq_lst hF, aF, q.new kA⟩
    · rw [List.concat_eq_append] at e
      subst e
      obtain ⟨us0, v, rfl, aW0, av⟩ := aW.snoc
      have hpos : decide ((((us0 ++ [v]).length : Nat) : Int) > 0) = true := decide_eq_true (by rw [List.length_append, List.length_singleton]; omega)
      rw [hpos]
      refine iteT ⟨_, fun σ' H' h => h, ?_⟩
      have hOk0 : ∀ y d p, Wt.e y d p ∈ W0 → fits ar ps y = true ∧ d + 12 * y.size ≤ 4000000 ∧ p.length + y.size ≤ 4000000 ∧ y.size ≤ 100000 := fun y d p hy => hOk y d p (List.mem_append_left _ hy)
      have hOkx := fun y d p (z : x = Wt.e y d p) => hOk y d p (by rw [z]; exact List.mem_append_right _ (List.mem_singleton.mpr rfl))
      rw [List.reverse_append] at hout
      have hout : F ++ out ps (x :: W0.reverse) = instrs ps e0 d0 p0 := hout
      have hmu : mw (W0 ++ [x]) = mw W0 + mw [x] := mw_app _ _
      have hFl : F.length ≤ 100000 := by
        have h1 := instrs_len ps e0 d0 p0
        rw [← hout, List.length_append] at h1
        omega
      refine ⟨_, rfl, tyL hW, wq, us0 ++ [v], v, rfl, rfl, hW, last_at _ _, ?_⟩
      rw [dl_at]
      have kB : Kp [wq] Ha (upd Ha wq (.lst us0)) := Kp.own hW
      have kAB : Sm H (upd Ha wq (.lst us0)) := kA.set hw0
      have hWB : (upd Ha wq (.lst us0)) wq = some (.lst us0) := upd_same
      have hFB : (upd Ha wq (.lst us0)) fq = some (.lst fs) := by rw [upd_ne hne]; exact hF
      have aW0 := aW0.mono (AtW.kp kB)
      have aF := kB.aa aF
      have av := AtW.kp kB _ _ av
      generalize upd Ha wq (.lst us0) = Hb at kAB hWB hFB aW0 aF av
      have hlF := aa_len aF
      -- found.append
      have app : ∀ (Hc : Hp) (t : G.T) (tv : V), Sm Hb Hc → At K Hc t tv → out ps [x] = [t] → 1 ≤ mw [x] → ∀ (v6 v7 v8 v9 v10 v11 : Option V),
          fq ≠ fq ∨ (∃ xs, Hc fq = some (.lst xs) ∧ xs.length < sizeLine ∧ (∃ m', m' < mw (W0 ++ [x]) ∧ ∃ w6 w7 w8 w9 w10 w11, ∃ (W : List Wt) (F : List G.T) (us fs : List V), [some a0, some b0, some c0, some v0, some (.ref fq), some (.ref wq), v6, v7, v8, v9, v10, v11] = [some a0, some b0, some c0, some v0, some (.ref fq), some (.ref wq), w6, w7, w8, w9, w10, w11] ∧ Sm H (upd Hc fq (.lst (xs ++ [tv]))) ∧ (upd Hc fq (.lst (xs ++ [tv]))) wq = some (.lst us) ∧ (upd Hc fq (.lst (xs ++ [tv]))) fq = some (.lst fs) ∧ A2 (AtW K (upd Hc fq (.lst (xs ++ [tv])))) W us ∧ AtAll K (upd Hc fq (.lst (xs ++ [tv]))) F fs ∧
        (∀ x d p, Wt.e x d p ∈ W → fits ar ps x = true ∧ d + 12 * x.size ≤ 4000000 ∧ p.length + x.size ≤ 4000000 ∧ x.size ≤ 100000) ∧ F ++ out ps W.reverse = instrs ps e0 d0 p0 ∧ m' = mw W ∧ m' ≤ 200000)) := by
        intro Hc t tv kC ht ho h1 v6 v7 v8 v9 v10 v11
        have hFC := kC _ _ hFB (.inl (by simp))
        have hWC := kC _ _ hWB (.inl (by simp))
        have k4 : Kp [fq] Hc (upd Hc fq (.lst (fs ++ [tv]))) := Kp.own hFC
        refine .inr ⟨fs, hFC, by rw [sizeLine_eq]; omega, mw W0, by omega, _, _, _, _, _, _, W0, F ++ [t], us0, fs ++ [tv], rfl, (kAB.trans kC).set hfq, by rw [upd_ne (Ne.symm hne)]; exact hWC, upd_same, (aW0.mono (AtW.kp kC)).mono (AtW.kp k4), aa_snocI (k4.aa (kC.aa aF)) (k4.at_ ht), hOk0, ?_, rfl, by omega⟩
        rw [← hout, List.append_assoc]
        congr 1
        have e1 : out ps (x :: W0.reverse) = out ps [x] ++ out ps W0.reverse := by
          cases x with
          | e x d p =>
            show instrs ps x d p ++ _ = (instrs ps x d p ++ []) ++ _
            rw [List.append_nil]
          | dn t => rfl
        rw [e1, ho]
      cases x with
      | dn t =>
        obtain ⟨pa, x1, rfl, hX, h1⟩ := av
        refine ⟨pa, _, rfl, hX.sq, rfl, _, _, rfl, _, _, rfl, _, _, rfl, rfl, ?_⟩
        refine ⟨_, rfl, rfl, _, rfl, iteT ?_⟩
        rcases app Hb t x1 Kp.refl h1 rfl (Nat.le_refl 1) (some x1) (some .non) (some .non) v9 v10 v11 with z | ⟨xs, z1, z2, z3⟩
        · exact absurd rfl z
        · exact ⟨_, rfl, tyL z1, _, rfl, fq, xs, x1, rfl, rfl, z1, z2, z3⟩
      | e x d p =>
        obtain ⟨hfx, hdx, hpx, hzx⟩ := hOkx x d p rfl
        obtain ⟨pa, x1, x2, x3, rfl, hX, h1, h2, h3⟩ := av
        refine ⟨pa, _, rfl, hX.sq, rfl, _, _, rfl, _, _, rfl, _, _, rfl, rfl, ?_⟩
        obtain ⟨q2, xs2, rfl, hX2, hA2⟩ := id h2
        refine ⟨_, rfl, rfl, _, rfl, iteF ?_⟩
        refine ⟨_, rfl, x1, x.t, rfl, h1, ?_⟩
        cases x with
        | v s =>
          obtain rfl := at_w h1
          refine ⟨_, rfl, iteT ?_⟩
          obtain ⟨j, hj1, hj2, hj3, hj4⟩ := behind_at (show inS s ps = true from hfx)
          have hbB := kAB.at_ hb
          obtain ⟨pb, pxs, rfl, hXb, hAb⟩ := id hbB
          obtain rfl := aa_words hAb
          refine ⟨_, rfl, _, rfl, pb, ps, rfl, hXb, _, rfl, s, j, rfl, hXb, hj2, hj3, _, _, rfl, rfl, _, rfl, ps.map .w, hbB, .inl ⟨j + 1, ?_, rfl, by omega, by rw [List.length_map]; omega, fun p4 H4 k4 h4 => ?_⟩⟩
          · rw [Int.natCast_add] <;> rfl
          rw [← List.map_drop, hj4] at h4
          have hbl : (behind s ps).length ≤ 12 := by
            rw [← hj4, List.length_drop]
            omega
          refine ⟨_, rfl, tyL (k4 _ _ hFB (.inl (by simp))), _, rfl, _, rfl, _, as_ d, h4, k4.at_ h2, by rw [List.length_map]; unfold as_; rw [List.length_replicate, sizeLine_eq]; omega, fun p5 H5 k5 h5 => ?_⟩
          refine ⟨[.w wCopy, _], aa_cons (by rw [lit_copy]; exact at_wi) (aa_cons h5 aa_nil), zle (Nat.le_of_ble_eq_true rfl), fun p6 H6 k6 h6 => ?_⟩
          rcases app H6 _ _ (k4.trans (k5.trans k6)) h6 rfl (by show 1 ≤ 2 * 1 + 0; omega) (some (.str s)) (some (.ref q2)) (some x3) (some (.ref p4)) v10 v11 with z | ⟨xs, z1, z2, z3⟩
          · exact absurd rfl z
          · exact ⟨fq, xs, .ref p6, rfl, rfl, z1, z2, z3⟩
        | q t =>
          refine ⟨_, rfl, iteF ?_⟩
          refine ⟨_, rfl, _, 0, _, h1, rfl, rfl, fun v1 g1 => ?_⟩
          obtain rfl := at_w g1
          refine ⟨rfl, _, rfl, ?_⟩
          rw [dec_ss, lit_quote, seq_self]
          refine iteT ⟨_, rfl, tyL hFB, _, rfl, _, 1, _, h1, rfl, rfl, fun v1 g1 => ?_⟩
          refine ⟨[.w wPush, t], aa_cons (by rw [lit_push]; exact at_wi) (aa_cons g1 aa_nil), zle (Nat.le_of_ble_eq_true rfl), fun p6 H6 k6 h6 => ?_⟩
          rcases app H6 _ _ k6 h6 rfl (by show 1 ≤ 2 * 1 + 0; omega) (some x1) (some (.ref q2)) (some x3) v9 v10 v11 with z | ⟨xs, z1, z2, z3⟩
          · exact absurd rfl z
          · exact ⟨fq, xs, .ref p6, rfl, rfl, z1, z2, z3⟩
        | n f as =>
          obtain ⟨hq1, har, hfa⟩ := fits_n hfx
          have hal := har12 f _ har
          have hszx : (Xp.n f as).size = 1 + Xp.sizes as := rfl
          have hmux : mw [Wt.e (.n f as) d p] = 2 * (Xp.n f as).size := rfl
          refine ⟨_, rfl, iteF ?_⟩
          refine ⟨_, rfl, _, 0, _, h1, rfl, rfl, fun v1 g1 => ?_⟩
          obtain rfl := at_w g1
          refine ⟨rfl, _, rfl, ?_⟩
          rw [dec_ss, lit_quote, hq1]
          refine iteF ⟨_, rfl, _, rfl, _, rfl, x1, .ref q2, x3, f, Xp.ts as, d, p, rfl, h1, h2, h3, by rw [Xp.ts_map, List.length_map]; omega, by omega, by omega, fun r0 rs0 Hp kP hr0 hRp aRp => ?_⟩
          have hrw0 : r0 ≠ wq := by
            rintro rfl
            rw [hWB] at hr0
            cases hr0
          have h1p := kP.at_ h1
          have hlW0 := aW0.len
          have hlW1 := mw_len W0
          refine ⟨_, rfl, _, 0, _, h1p, rfl, rfl, fun v1 g1 => ?_⟩
          obtain rfl := at_w g1
          refine ⟨rfl, _, rfl, ?_⟩
          rw [dec_ss, lit_if2]
          have hxs : ∀ a ∈ as, fits ar ps a = true := hfa
          have hsa : ∀ a ∈ as, a.size ≤ Xp.sizes as := fun a ha => size_mem ha
          cases hif : seq f wIf with
          | true =>
            have hfe := seq_iff.mp hif
            rw [hfe, har3] at har
            obtain ⟨c1, c2, c3, has⟩ : ∃ c1 c2 c3, as = [c1, c2, c3] := by
              match as, har with
              | [c1, c2, c3], _ => exact ⟨c1, c2, c3, rfl⟩
            subst has
            have hP0 : partsT f d p 0 (Xp.ts [c1, c2, c3]) = [.l [c1.t, .l (as_ d), .l (way 1 p)], .l [c2.t, .l (as_ d), .l (way 2 p)], .l [c3.t, .l (as_ d), .l (way 3 p)]] := by
              show [partT f d p 0 c1.t, partT f d p 1 c2.t, partT f d p 2 c3.t] = _
              unfold partT
              rw [hif]
            rw [hP0] at aRp
            obtain ⟨y1, r1, rfl, g1, aRp⟩ := aRp
            obtain ⟨y2, r2, rfl, g2, aRp⟩ := aRp
            obtain ⟨y3, r3, rfl, g3, aRp⟩ := aRp
            rw [show r3 = [] from aRp] at hRp
            refine iteT ?_
            refine ⟨_, rfl, r0, _, 1, y2, rfl, rfl, sq_lst hRp, rfl, _, 2, _, g2, rfl, rfl, fun w2 b2 => ?_⟩
            refine ⟨_, rfl, r0, _, 2, y3, rfl, rfl, sq_lst hRp, rfl, _, 2, _, g3, rfl, rfl, fun w3 b3 => ?_⟩
            refine ⟨[.w wIf, _, _], aa_cons at_wi (aa_cons b2 (aa_cons b3 aa_nil)), zle (Nat.le_of_ble_eq_true rfl), fun p9 H9 k9 h9 => ?_⟩
            refine ⟨_, rfl, _, rfl, r0, _, rfl, sq_lst (k9 _ _ hRp (.inl (by simp))), fun r hr => ?_⟩
            have hcut : cutV [y1, y2, y3] none (some 1) = [y1] := rfl
            rw [hcut]
            have kr : Sm H9 (upd H9 r (.lst [y1])) := Kp.new hr
            have kBC : Sm Hb (upd H9 r (.lst [y1])) := (kP.trans k9).trans kr
            have hRc : (upd H9 r (.lst [y1])) r = some (.lst [y1]) := upd_same
            have hrw : r ≠ wq := by
              rintro rfl
              rw [(kP.trans k9) _ _ hWB (.inl (by simp))] at hr
              cases hr
            have aR : A2 (AtW K (upd H9 r (.lst [y1]))) [.e c1 d (way 1 p)] [y1] := A2.one (AtW.of (kr.at_ (k9.at_ g1)))
            have hlast := kr.at_ h9
            generalize upd H9 r (.lst [y1]) = Hc at kBC hRc aR hlast
            have hWc := kBC _ _ hWB (.inl (by simp))
            have hPWz : mw [Wt.e c1 d (way 1 p)] = 2 * c1.size := rfl
            have hs1 := hsa c1 (by simp)
            have hOkPW : ∀ y d' p', Wt.e y d' p' ∈ [Wt.e c1 d (way 1 p)] → fits ar ps y = true ∧ d' + 12 * y.size ≤ 4000000 ∧ p'.length + y.size ≤ 4000000 ∧ y.size ≤ 100000 := by
              intro y d' p' hy
              cases List.mem_singleton.mp hy
              exact ⟨hxs c1 (by simp), by omega, by show p.length + 1 + _ ≤ _; omega, by omega⟩
            have hOutPW : out ps ([Wt.e c1 d (way 1 p)] ++ (.dn (.l [.w wIf, .l (way 2 p), .l (way 3 p)]) :: W0.reverse)) = out ps (Wt.e (.n f [c1, c2, c3]) d p :: W0.reverse) := by
              show instrs ps c1 d (way 1 p) ++ (_ :: out ps W0.reverse) = instrs ps (.n f [c1, c2, c3]) d p ++ out ps W0.reverse
              rw [instrs_if hif, List.append_assoc]
              rfl
            generalize hPW : [Wt.e c1 d (way 1 p)] = PW at aR hPWz hOkPW hOutPW
            generalize [y1] = rs at hRc aR
            generalize hLT : (G.T.l [.w wIf, .l (way 2 p), .l (way 3 p)]) = lastT at hOutPW hlast
            generalize (V.ref p9) = lv at hlast ⊢
            refine ⟨_, rfl, tyL hWc, _, rfl, zle (Nat.le_of_ble_eq_true rfl), fun p5 o5 hp5 ho5 => ?_⟩
            have kD : Sm Hc (upd Hc p5 (.frz o5 (.tup [lv, .non, .non]))) := Kp.new hp5
            have aN : AtW K (upd Hc p5 (.frz o5 (.tup [lv, .non, .non]))) (.dn lastT) (.ref p5) := ⟨p5, lv, rfl, XT.new ho5, kD.at_ hlast⟩
            generalize upd Hc p5 (.frz o5 (.tup [lv, .non, .non])) = Hd at kD aN
            have hWd := kD _ _ hWc (.inl (by simp))
            have hRd := kD _ _ hRc (.inl (by simp))
            have kBD := kBC.trans kD
            refine ⟨wq, us0, .ref p5, rfl, rfl, hWd, by rw [sizeLine_eq]; omega, ?_⟩
            have kE : Kp [wq] Hd (upd Hd wq (.lst (us0 ++ [.ref p5]))) := Kp.own hWd
            have hWe : (upd Hd wq (.lst (us0 ++ [.ref p5]))) wq = some (.lst (us0 ++ [.ref p5])) := upd_same
            have hRe : (upd Hd wq (.lst (us0 ++ [.ref p5]))) r = some (.lst rs) := by rw [upd_ne hrw]; exact hRd
            have hFe : (upd Hd wq (.lst (us0 ++ [.ref p5]))) fq = some (.lst fs) := by rw [upd_ne hne]; exact kBD _ _ hFB (.inl (by simp))
            have kHe : Sm H (upd Hd wq (.lst (us0 ++ [.ref p5]))) := (kAB.trans kBD).set hw0
            have aWe := (((aW0.mono (AtW.kp kBC)).mono (AtW.kp kD)).app (A2.one aN)).mono (AtW.kp kE)
            have aRe := (aR.mono (AtW.kp kD)).mono (AtW.kp kE)
            have aFe := kE.aa (kBD.aa aF)
            generalize upd Hd wq (.lst (us0 ++ [.ref p5])) = He at hWe hRe hFe kHe aWe aRe aFe
            refine ⟨_, rfl, tyL hWe, _, rfl, r, rs, rfl, sq_lst hRe, fun p6 hp6 => ?_⟩
            have kF : Sm He (upd He p6 (.lst rs.reverse)) := Kp.new hp6
            have hWf := kF _ _ hWe (.inl (by simp))
            have hFf := kF _ _ hFe (.inl (by simp))
            have hlR := aR.len
            have hlR2 := mw_len PW
            refine ⟨wq, p6, us0 ++ [.ref p5], rs.reverse, rfl, rfl, hWf, upd_same, by rw [List.length_append, List.length_singleton, List.length_reverse, sizeLine_eq]; omega, ?_⟩
            have kG : Kp [wq] (upd He p6 (.lst rs.reverse)) (upd (upd He p6 (.lst rs.reverse)) wq (.lst (us0 ++ [.ref p5] ++ rs.reverse))) := Kp.own hWf
            have hmz : mw (W0 ++ [.dn lastT] ++ PW.reverse) = mw W0 + 1 + mw PW := by
              rw [mw_app, mw_app, mw_rev]
              rfl
            refine ⟨mw (W0 ++ [.dn lastT] ++ PW.reverse), by omega, _, _, _, _, _, _, W0 ++ [.dn lastT] ++ PW.reverse, F, _, fs, rfl, (kHe.trans kF).set hw0, upd_same, by rw [upd_ne hne]; exact hFf, ?_, kG.aa (kF.aa aFe), ?_, ?_, rfl, by omega⟩
            · exact ((aWe.mono (AtW.kp kF)).app (aRe.mono (AtW.kp kF)).rev).mono (AtW.kp kG)
            · intro y d' p' hy
              rcases List.mem_append.mp hy with hy | hy
              · rcases List.mem_append.mp hy with hy | hy
                · exact hOk0 y d' p' hy
                · cases List.mem_singleton.mp hy
              · exact hOkPW y d' p' (List.mem_reverse.mp hy)
            · rw [List.reverse_append, List.reverse_append, List.reverse_reverse]
              show F ++ out ps (PW ++ (.dn lastT :: W0.reverse)) = _
              rw [hOutPW, ← hout]
          | false =>
            refine iteF ?_
            have hlt : ∃ lastT, lastT = lastOp f := ⟨_, rfl⟩
            obtain ⟨lastT, hLT⟩ := hlt
            have aR0 := pw_at (k := 0) hif (as := as) (by rw [← Xp.ts_map]; exact aRp)
            have hPWz := mw_pw d p 0 as
            have hOkPW : ∀ y d' p', Wt.e y d' p' ∈ pw d p 0 as → fits ar ps y = true ∧ d' + 12 * y.size ≤ 4000000 ∧ p'.length + y.size ≤ 4000000 ∧ y.size ≤ 100000 := by
              intro y d' p' hy
              obtain ⟨a, i, m1, m2, m3⟩ := pw_mem hy
              cases m3
              have := hsa y m1
              exact ⟨hxs y m1, by omega, by show p.length + 1 + _ ≤ _; omega, by omega⟩
            have hOutPW : out ps (pw d p 0 as ++ (.dn lastT :: W0.reverse)) = out ps (Wt.e (.n f as) d p :: W0.reverse) := by
              rw [out_pw, Nat.zero_add]
              show instrsL ps as d p 1 ++ (lastT :: out ps W0.reverse) = instrs ps (.n f as) d p ++ out ps W0.reverse
              rw [instrs_no hif, List.append_assoc, hLT]
              rfl
            generalize pw d p 0 as = PW at aR0 hPWz hOkPW hOutPW
            refine ⟨_, rfl, _, 0, _, h1p, rfl, rfl, fun v1 g1 => ?_⟩
            obtain rfl := at_w g1
            refine fun aS hS => ?_
            obtain ⟨aS', xS, eS, hXS, hAS⟩ := hS Hp
            cases eS
            obtain rfl := aa_words hAS
            refine ⟨aS, _, rfl, .inr hXS.sq, rfl, flatV_strs _, _, rfl, ?_⟩
            rw [show (if false = true then !inV (V.str f) (special.map V.str) else inV (V.str f) (special.map V.str)) = inS f special from inV_strs f special]
            cases hsp : inS f special with
            | true =>
              have hL2 : lastT = .l [.w f] := by rw [hLT]; unfold lastOp; rw [hsp]
              refine iteT ⟨_, rfl, _, 0, _, h1p, rfl, rfl, fun v1 g1 => ?_⟩
              refine ⟨[.w f], aa_cons g1 aa_nil, zle (Nat.le_of_ble_eq_true rfl), fun p9 Hc k9 hlast => ?_⟩
              rw [← hL2] at hlast
              have kBC := kP.trans k9
              have hWc := kBC _ _ hWB (.inl (by simp))
              have hRc := k9 _ _ hRp (.inl (by simp))
              have aR := aR0.mono (AtW.kp k9)
              generalize (V.ref p9) = lv at hlast ⊢
              generalize rs0 = rs at hRc aR
              have hrw := hrw0
              generalize r0 = r at hRc hrw ⊢
              refine ⟨_, rfl, tyL hWc, _, rfl, zle (Nat.le_of_ble_eq_true rfl), fun p5 o5 hp5 ho5 => ?_⟩
              have kD : Sm Hc (upd Hc p5 (.frz o5 (.tup [lv, .non, .non]))) := Kp.new hp5
              have aN : AtW K (upd Hc p5 (.frz o5 (.tup [lv, .non, .non]))) (.dn lastT) (.ref p5) := ⟨p5, lv, rfl, XT.new ho5, kD.at_ hlast⟩
              generalize upd Hc p5 (.frz o5 (.tup [lv, .non, .non])) = Hd at kD aN
              have hWd := kD _ _ hWc (.inl (by simp))
              have hRd := kD _ _ hRc (.inl (by simp))
              have kBD := kBC.trans kD
              refine ⟨wq, us0, .ref p5, rfl, rfl, hWd, by rw [sizeLine_eq]; omega, ?_⟩
              have kE : Kp [wq] Hd (upd Hd wq (.lst (us0 ++ [.ref p5]))) := Kp.own hWd
              have hWe : (upd Hd wq (.lst (us0 ++ [.ref p5]))) wq = some (.lst (us0 ++ [.ref p5])) := upd_same
              have hRe : (upd Hd wq (.lst (us0 ++ [.ref p5]))) r = some (.lst rs) := by rw [upd_ne hrw]; exact hRd
              have hFe : (upd Hd wq (.lst (us0 ++ [.ref p5]))) fq = some (.lst fs) := by rw [upd_ne hne]; exact kBD _ _ hFB (.inl (by simp))
              have kHe : Sm H (upd Hd wq (.lst (us0 ++ [.ref p5]))) := (kAB.trans kBD).set hw0
              have aWe := (((aW0.mono (AtW.kp kBC)).mono (AtW.kp kD)).app (A2.one aN)).mono (AtW.kp kE)
              have aRe := (aR.mono (AtW.kp kD)).mono (AtW.kp kE)
              have aFe := kE.aa (kBD.aa aF)
              generalize upd Hd wq (.lst (us0 ++ [.ref p5])) = He at hWe hRe hFe kHe aWe aRe aFe
              refine ⟨_, rfl, tyL hWe, _, rfl, r, rs, rfl, sq_lst hRe, fun p6 hp6 => ?_⟩
              have kF : Sm He (upd He p6 (.lst rs.reverse)) := Kp.new hp6
              have hWf := kF _ _ hWe (.inl (by simp))
              have hFf := kF _ _ hFe (.inl (by simp))
              have hlR := aR.len
              have hlR2 := mw_len PW
              refine ⟨wq, p6, us0 ++ [.ref p5], rs.reverse, rfl, rfl, hWf, upd_same, by rw [List.length_append, List.length_singleton, List.length_reverse, sizeLine_eq]; omega, ?_⟩
              have kG : Kp [wq] (upd He p6 (.lst rs.reverse)) (upd (upd He p6 (.lst rs.reverse)) wq (.lst (us0 ++ [.ref p5] ++ rs.reverse))) := Kp.own hWf
              have hmz : mw (W0 ++ [.dn lastT] ++ PW.reverse) = mw W0 + 1 + mw PW := by
                rw [mw_app, mw_app, mw_rev]
                rfl
              refine ⟨mw (W0 ++ [.dn lastT] ++ PW.reverse), by omega, _, _, _, _, _, _, W0 ++ [.dn lastT] ++ PW.reverse, F, _, fs, rfl, (kHe.trans kF).set hw0, upd_same, by rw [upd_ne hne]; exact hFf, ?_, kG.aa (kF.aa aFe), ?_, ?_, rfl, by omega⟩
              · exact ((aWe.mono (AtW.kp kF)).app (aRe.mono (AtW.kp kF)).rev).mono (AtW.kp kG)
              · intro y d' p' hy
                rcases List.mem_append.mp hy with hy | hy
                · rcases List.mem_append.mp hy with hy | hy
                  · exact hOk0 y d' p' hy
                  · cases List.mem_singleton.mp hy
                · exact hOkPW y d' p' (List.mem_reverse.mp hy)
              · rw [List.reverse_append, List.reverse_append, List.reverse_reverse]
                show F ++ out ps (PW ++ (.dn lastT :: W0.reverse)) = _
                rw [hOutPW, ← hout]
            | false =>
              have hL2 : lastT = .l [.w wCall, .w f] := by rw [hLT]; unfold lastOp; rw [hsp]
              refine iteF ⟨_, rfl, _, 0, _, h1p, rfl, rfl, fun v1 g1 => ?_⟩
              refine ⟨[.w wCall, .w f], aa_cons (by rw [lit_call]; exact at_wi) (aa_cons g1 aa_nil), zle (Nat.le_of_ble_eq_true rfl), fun p9 Hc k9 hlast => ?_⟩
              rw [← hL2] at hlast
              have kBC := kP.trans k9
              have hWc := kBC _ _ hWB (.inl (by simp))
              have hRc := k9 _ _ hRp (.inl (by simp))
              have aR := aR0.mono (AtW.kp k9)
              generalize (V.ref p9) = lv at hlast ⊢
              generalize rs0 = rs at hRc aR
              have hrw := hrw0
              generalize r0 = r at hRc hrw ⊢
              refine ⟨_, rfl, tyL hWc, _, rfl, zle (Nat.le_of_ble_eq_true rfl), fun p5 o5 hp5 ho5 => ?_⟩
              have kD : Sm Hc (upd Hc p5 (.frz o5 (.tup [lv, .non, .non]))) := Kp.new hp5
              have aN : AtW K (upd Hc p5 (.frz o5 (.tup [lv, .non, .non]))) (.dn lastT) (.ref p5) := ⟨p5, lv, rfl, XT.new ho5, kD.at_ hlast⟩
              generalize upd Hc p5 (.frz o5 (.tup [lv, .non, .non])) = Hd at kD aN
              have hWd := kD _ _ hWc (.inl (by simp))
              have hRd := kD _ _ hRc (.inl (by simp))
              have kBD := kBC.trans kD
              refine ⟨wq, us0, .ref p5, rfl, rfl, hWd, by rw [sizeLine_eq]; omega, ?_⟩
              have kE : Kp [wq] Hd (upd Hd wq (.lst (us0 ++ [.ref p5]))) := Kp.own hWd
              have hWe : (upd Hd wq (.lst (us0 ++ [.ref p5]))) wq = some (.lst (us0 ++ [.ref p5])) := upd_same
              have hRe : (upd Hd wq (.lst (us0 ++ [.ref p5]))) r = some (.lst rs) := by rw [upd_ne hrw]; exact hRd
              have hFe : (upd Hd wq (.lst (us0 ++ [.ref p5]))) fq = some (.lst fs) := by rw [upd_ne hne]; exact kBD _ _ hFB (.inl (by simp))
              have kHe : Sm H (upd Hd wq (.lst (us0 ++ [.ref p5]))) := (kAB.trans kBD).set hw0
              have aWe := (((aW0.mono (AtW.kp kBC)).mono (AtW.kp kD)).app (A2.one aN)).mono (AtW.kp kE)
              have aRe := (aR.mono (AtW.kp kD)).mono (AtW.kp kE)
              have aFe := kE.aa (kBD.aa aF)
              generalize upd Hd wq (.lst (us0 ++ [.ref p5])) = He at hWe hRe hFe kHe aWe aRe aFe
              refine ⟨_, rfl, tyL hWe, _, rfl, r, rs, rfl, sq_lst hRe, fun p6 hp6 => ?_⟩
              have kF : Sm He (upd He p6 (.lst rs.reverse)) := Kp.new hp6
              have hWf := kF _ _ hWe (.inl (by simp))
              have hFf := kF _ _ hFe (.inl (by simp))
              have hlR := aR.len
              have hlR2 := mw_len PW
              refine ⟨wq, p6, us0 ++ [.ref p5], rs.reverse, rfl, rfl, hWf, upd_same, by rw [List.length_append, List.length_singleton, List.length_reverse, sizeLine_eq]; omega, ?_⟩
              have kG : Kp [wq] (upd He p6 (.lst rs.reverse)) (upd (upd He p6 (.lst rs.reverse)) wq (.lst (us0 ++ [.ref p5] ++ rs.reverse))) := Kp.own hWf
              have hmz : mw (W0 ++ [.dn lastT] ++ PW.reverse) = mw W0 + 1 + mw PW := by
                rw [mw_app, mw_app, mw_rev]
                rfl
              refine ⟨mw (W0 ++ [.dn lastT] ++ PW.reverse), by omega, _, _, _, _, _, _, W0 ++ [.dn lastT] ++ PW.reverse, F, _, fs, rfl, (kHe.trans kF).set hw0, upd_same, by rw [upd_ne hne]; exact hFf, ?_, kG.aa (kF.aa aFe), ?_, ?_, rfl, by omega⟩
              · exact ((aWe.mono (AtW.kp kF)).app (aRe.mono (AtW.kp kF)).rev).mono (AtW.kp kG)
              · intro y d' p' hy
                rcases List.mem_append.mp hy with hy | hy
                · rcases List.mem_append.mp hy with hy | hy
                  · exact hOk0 y d' p' hy
                  · cases List.mem_singleton.mp hy
                · exact hOkPW y d' p' (List.mem_reverse.mp hy)
              · rw [List.reverse_append, List.reverse_append, List.reverse_reverse]
                show F ++ out ps (PW ++ (.dn lastT :: W0.reverse)) = _
                rw [hOutPW, ← hout]
end
end G
set_option maxRecDepth 100000
set_option maxHeartbeats 4000000
/-! F3c: routines_of, to_machine. -/
namespace G
open PySem PySem.Spec PyProof.Rows L2
structure Rt where
  x : Xp
  d : Nat
  p : List T
  b : Bool
def AtR (K : PySem.W.Frag) (H : Hp) (q : Rt) (v : V) : Prop := ∃ a x1 x2 x3, v = .ref a ∧ XT K H a [x1, x2, x3, .bl q.b] ∧ At K H q.x.t x1 ∧ At K H (.l (as_ q.d)) x2 ∧ At K H (.l q.p) x3
theorem AtR.kp {K : PySem.W.Frag} {F : List Addr} {H H' : Hp} (k : Kp F H H') (q : Rt) (v : V) (h : AtR K H q v) : AtR K H' q v := by
  obtain ⟨a, x1, x2, x3, rfl, h1, h2, h3, h4⟩ := h
  exact ⟨a, x1, x2, x3, rfl, k.xt h1, k.at_ h2, k.at_ h3, k.at_ h4⟩
def named (ps : List Str) (x : Xp) (d : Nat) (p : List T) (b : Bool) : List T := match b with
  | true => [.l (.l p :: instrs ps x d p)]
  | false => []
def outR (ps : List Str) : List Rt → List T
  | [] => []
  | q :: ws => named ps q.x q.d q.p q.b ++ (routs ps q.x q.d q.p ++ outR ps ws)
def mr : List Rt → Nat
  | [] => 0
  | q :: ws => q.x.size + mr ws
theorem mr_app : ∀ a b : List Rt, mr (a ++ b) = mr a + mr b
  | [], b => by simp [mr]
  | q :: a, b => by
    show q.x.size + mr (a ++ b) = q.x.size + mr a + mr b
    rw [mr_app a b]
    omega
theorem mr_rev : ∀ a : List Rt, mr a.reverse = mr a
  | [] => rfl
  | q :: a => by
    rw [List.reverse_cons, mr_app, mr_rev a]
    show mr a + (q.x.size + 0) = q.x.size + mr a
    omega
theorem mr_len : ∀ a : List Rt, a.length ≤ mr a
  | [] => Nat.zero_le _
  | q :: a => by
    have := mr_len a
    have := q.x.size_pos
    show a.length + 1 ≤ q.x.size + mr a
    omega
def prE (f : Str) (d : Nat) (p : List T) (k : Nat) (a : Xp) : Rt := ⟨a, (match seq f wIf with | true => d | false => k + d), way (k + 1) p, (match seq f wIf with | true => !(Nat.ble k 0) | false => false)⟩
def pr (f : Str) (d : Nat) (p : List T) : Nat → List Xp → List Rt
  | _, [] => []
  | k, a :: as => prE f d p k a :: pr f d p (k + 1) as
theorem pr_len (f : Str) (d : Nat) (p : List T) : ∀ (k : Nat) (as : List Xp), (pr f d p k as).length = as.length
  | k, [] => rfl
  | k, a :: as => by
    show (pr f d p (k + 1) as).length + 1 = _
    rw [pr_len f d p (k + 1) as]
    rfl
theorem pr_get (f : Str) (d : Nat) (p : List T) : ∀ (k : Nat) (as : List Xp) (i : Nat) (a : Xp), as[i]? = some a → (pr f d p k as)[i]? = some (prE f d p (k + i) a)
  | k, [], i, a, h => by cases h
  | k, b :: as, 0, a, h => by
    cases h
    rfl
  | k, b :: as, i + 1, a, h => by
    show (pr f d p (k + 1) as)[i]? = _
    rw [pr_get f d p (k + 1) as i a h, show k + 1 + i = k + (i + 1) by omega]
theorem mr_pr (f : Str) (d : Nat) (p : List T) : ∀ (k : Nat) (as : List Xp), mr (pr f d p k as) = Xp.sizes as
  | k, [] => rfl
  | k, a :: as => by
    show a.size + mr (pr f d p (k + 1) as) = a.size + Xp.sizes as
    rw [mr_pr f d p (k + 1) as]
theorem routs_n {ps : List Str} {f : Str} {as : List Xp} {d : Nat} {p : List T} : routs ps (.n f as) d p = match seq f wIf with
    | true => routsIf ps as d p 1
    | false => routsL ps as d p 1 := by
  rw [routs] <;> (cases seq f wIf <;> rfl)
theorem out_prL (ps : List Str) (f : Str) (d : Nat) (p : List T) (ws : List Rt) (hf : seq f wIf = false) : ∀ (k : Nat) (as : List Xp), outR ps (pr f d p k as ++ ws) = routsL ps as (k + d) p (k + 1) ++ outR ps ws
  | k, [] => by rw [routsL]; rfl
  | k, a :: as => by
    have e : prE f d p k a = ⟨a, k + d, way (k + 1) p, false⟩ := by unfold prE; rw [hf]
    show named ps (prE f d p k a).x (prE f d p k a).d (prE f d p k a).p (prE f d p k a).b ++ (routs ps (prE f d p k a).x (prE f d p k a).d (prE f d p k a).p ++ outR ps (pr f d p (k + 1) as ++ ws)) = _
    rw [e, out_prL ps f d p ws hf (k + 1) as, routsL, List.append_assoc, show k + 1 + d = k + d + 1 by omega]
    rfl
theorem out_prI (ps : List Str) (f : Str) (d : Nat) (p : List T) (ws : List Rt) (hf : seq f wIf = true) : ∀ (k : Nat) (as : List Xp), outR ps (pr f d p k as ++ ws) = routsIf ps as d p (k + 1) ++ outR ps ws
  | k, [] => by rw [routsIf]; rfl
  | k, a :: as => by
    have e : prE f d p k a = ⟨a, d, way (k + 1) p, !(Nat.ble k 0)⟩ := by unfold prE; rw [hf]
    show named ps (prE f d p k a).x (prE f d p k a).d (prE f d p k a).p (prE f d p k a).b ++ (routs ps (prE f d p k a).x (prE f d p k a).d (prE f d p k a).p ++ outR ps (pr f d p (k + 1) as ++ ws)) = _
    rw [e, out_prI ps f d p ws hf (k + 1) as, routsIf]
    cases k with
    | zero =>
      show [] ++ (routs ps a d (way 1 p) ++ _) = (routs ps a d (way 1 p) ++ _) ++ _
      rw [List.nil_append, List.append_assoc]
    | succ k =>
      show [_] ++ (routs ps a d (way (k + 1 + 1) p) ++ _) = ((_ :: routs ps a d (way (k + 1 + 1) p)) ++ _) ++ _
      rw [List.append_assoc]
      rfl
theorem out_pr (ps : List Str) (f : Str) (d : Nat) (p : List T) (ws : List Rt) (as : List Xp) : outR ps (pr f d p 0 as ++ ws) = routs ps (.n f as) d p ++ outR ps ws := by
  rw [routs_n]
  cases hf : seq f wIf with
  | true => exact out_prI ps f d p ws hf 0 as
  | false =>
    rw [out_prL ps f d p ws hf 0 as, Nat.zero_add]
mutual
theorem routs_len (ps : List Str) : ∀ (x : Xp) (d : Nat) (p : List T), (routs ps x d p).length + 1 ≤ x.size
  | .v s, d, p => by rw [routs]; exact Nat.le_refl 1
  | .q t, d, p => by rw [routs]; exact Nat.le_refl 1
  | .n f as, d, p => by
    rw [routs_n]
    have h1 := routsL_len ps as d p 1
    have h2 := routsIf_len ps as d p 1
    cases seq f wIf with
    | true =>
      show (routsIf ps as d p 1).length + 1 ≤ 1 + Xp.sizes as
      omega
    | false =>
      show (routsL ps as d p 1).length + 1 ≤ 1 + Xp.sizes as
      omega
theorem routsL_len (ps : List Str) : ∀ (as : List Xp) (d : Nat) (p : List T) (k : Nat), (routsL ps as d p k).length ≤ Xp.sizes as
  | [], d, p, k => by rw [routsL]; exact Nat.le_refl 0
  | a :: as, d, p, k => by
    have h1 := routs_len ps a d (way k p)
    have h2 := routsL_len ps as (d + 1) p (k + 1)
    rw [routsL, List.length_append]
    show _ ≤ a.size + Xp.sizes as
    omega
theorem routsIf_len (ps : List Str) : ∀ (as : List Xp) (d : Nat) (p : List T) (k : Nat), (routsIf ps as d p k).length ≤ Xp.sizes as
  | [], d, p, k => by rw [routsIf]; exact Nat.le_refl 0
  | a :: as, d, p, k => by
    have h1 := routs_len ps a d (way k p)
    have h2 := routsIf_len ps as d p (k + 1)
    rw [routsIf, List.length_append]
    show _ ≤ a.size + Xp.sizes as
    cases Nat.ble k 1 with
    | true =>
      show (routs ps a d (way k p)).length + _ ≤ _
      omega
    | false =>
      show (routs ps a d (way k p)).length + 1 + _ ≤ _
      omega
end
section
variable {P : Program} {w : World} {K : PySem.W.Frag} {mg : Str → Option Value} {base : Heap}
def sp_routines_of (K : PySem.W.Frag) : Sp := fun vs H Q _ => ∃ (a b c v : V) (e : Xp) (ps : List Str) (d : Nat) (p : List T) (ar : Str → Option Nat), vs = [a, b, c, v] ∧ At K H e.t a ∧ At K H (.l (ps.map .w)) b ∧ At K H (.l (as_ d)) c ∧ At K H (.l p) v ∧
  fits ar ps e = true ∧ ar wIf = some 3 ∧ (∀ f n, ar f = some n → n ≤ 12) ∧ e.size ≤ 100000 ∧ ps.length ≤ 12 ∧ d + 12 * e.size ≤ 4000000 ∧ p.length + e.size ≤ 4000000 ∧ ans K (.l (routs ps e d p)) H Q
theorem sc_routines_of : FnScope ["expression", "parameters", "depth", "path", "found", "waiting", "one", "deep", "way", "is_named", "parts", "k"] ["expression", "parameters", "depth", "path"] (defScope s_routines_of) := ⟨rfl, rfl, rfl, by decide +kernel, rfl, by decide +kernel, by decide +kernel⟩
theorem f_routines_of (T : Txt w K mg) : Clb P w K mg base "routines_of" 4 ["expression", "parameters", "depth", "path"] (sp_routines_of K) := by
  have F_parts_of : Clb P w K mg base "parts_of" 2 ["expression", "depth", "path"] (sp_parts_of K) := f_parts_of T
  have F_instructions_of : Clb P w K mg base "instructions_of" 3 ["expression", "parameters", "depth", "path"] (sp_instructions_of K) := f_instructions_of T
  refine T.d_routines_of.clb sc_routines_of (fun _ _ _ _ _ _ us hl => match us, hl with | [_, _, _, _], _ => rfl) (fun vs H Q E h => ?_) (fun f cdv A outer s H vs Q E hr h => ?_)
  · obtain ⟨_, _, _, _, _, _, _, _, _, rfl, _⟩ := h
    rfl
  · obtain ⟨a0, b0, c0, v0, e0, ps, d0, p0, ar, rfl, ha, hb, hc, hv, hfit, har3, har12, hz, hpl, hd0, hp0, q⟩ := h
    refine ⟨_, (pss_cons (ps_set (i := 4) sc_routines_of.nd rfl (Or.inl rfl) (pe_lst pa_nil))
      (pss_cons (ps_set (i := 5) sc_routines_of.nd rfl (Or.inl rfl) (pe_lst (pa_cons (pe_tupX (pa_cons (pv 0) (pa_cons (pv 2) (pa_cons (pv 3) (pa_cons pe_bl pa_nil))))) pa_nil)))
      (pss_cons (ps_while PassesOwn.never (pt_cmpR op_gt (pe_callB call_len_seq (by rfl) T.n_len PySem.boot_len (pa_cons (pv 5) pa_nil)) pe_int (nomark _)) (pss_cons (ps_asg (pe_bm0 PySem.F.plainAttrs_list PySem.F.slot_list_pop PySem.F.type_list_pop mt_pop (pv 5)) (pg_tupK K rfl 4 rfl (pgs_cons (pg_name (i := 6) sc_routines_of.nd rfl (Or.inl rfl)) (pgs_cons (pg_name (i := 7) sc_routines_of.nd rfl (Or.inl rfl)) (pgs_cons (pg_name (i := 8) sc_routines_of.nd rfl (Or.inl rfl)) (pgs_cons (pg_name (i := 9) sc_routines_of.nd rfl (Or.inl rfl)) pgs_nil))))))
      (pss_cons (ps_if (pt_val (pv 9)) (pss_one (ps_expr (pe_bm PySem.F.plainAttrs_list PySem.F.slot_list_append PySem.F.type_list_append mt_append (pv 4) (pa_cons (pe_op op_catTr (pe_tupT (pa_cons (pv 8) pa_nil)) (pe_c F_instructions_of (hr.mono (by decide)) (pa_cons (pv 6) (pa_cons (pv 1) (pa_cons (pv 7) (pa_cons (pv 8) pa_nil)))))) pa_nil)))) pss_nil)
      (pss_one (ps_if (PW.pt (pw_and (pt_not (pt_val (pe_callB call_isS (by rfl) T.n_isinstance PyProof.Rows.boot_isinstance (pa_cons (pv 6) (pa_cons (pe_bltn (v := .ty "str") rfl T.n_str PyProof.Rows.boot_str rfl) pa_nil))))) (pw_and1 (pt_cmpR op_ne (pe_ix ix_T (pv 6) pe_int (fun _ _ => rfl)) pe_str (nomark _))))) (pss_cons (ps_set (i := 10) sc_routines_of.nd rfl (Or.inl rfl) (pe_c F_parts_of (hr.mono (by decide)) (pa_cons (pv 6) (pa_cons (pv 7) (pa_cons (pv 8) pa_nil)))))
      (pss_one (ps_for PassesOwn.never rfl (pi_revR (by rfl) T.n_reversed (prg_1 (by rfl) T.n_range (pe_callB call_len_seq (by rfl) T.n_len PySem.boot_len (pa_cons (pv 10) pa_nil)))) (pg_name (i := 11) sc_routines_of.nd rfl (Or.inl rfl)) (pss_one (ps_expr (pe_bm PySem.F.plainAttrs_list PySem.F.slot_list_append PySem.F.type_list_append mt_append (pv 5) (pa_cons (pe_op op_catX (pe_ix ix_list (pv 10) (pv 11) (fun _ _ => rfl)) (pe_tupX (pa_cons (pe_and (pe_cmpR op_eq (pe_ix ix_T (pv 6) pe_int (fun _ _ => rfl)) pe_str (nomark _)) (pe_one (pe_cmpR op_gt (pv 11) pe_int (nomark _)))) pa_nil))) pa_nil))))))) pss_nil)))))
      (pss_one (ps_ret (pe_callTy call_tupTr (by rfl) T.n_tuple PyProof.Rows.boot_tuple (pa_cons (pv 4) pa_nil))))))), ?_⟩
    refine ⟨zle (Nat.le_of_ble_eq_true rfl), fun fq hfq => ?_⟩
    have k1 : Sm H (upd H fq (.lst [])) := Kp.new hfq
    have hF1 : (upd H fq (.lst [])) fq = some (.lst []) := upd_same
    generalize upd H fq (.lst []) = H1 at k1 hF1
    refine ⟨_, rfl, _, rfl, _, rfl, zle (Nat.le_of_ble_eq_true rfl), fun p2 o2 hp2 ho2 => ⟨zle (Nat.le_of_ble_eq_true rfl), fun wq hwq => ?_⟩⟩
    have k2 : Sm H1 (upd H1 p2 (.frz o2 (.tup [a0, c0, v0, .bl false]))) := Kp.new hp2
    have h2 : AtR K (upd H1 p2 (.frz o2 (.tup [a0, c0, v0, .bl false]))) ⟨e0, d0, p0, false⟩ (.ref p2) := ⟨p2, a0, c0, v0, rfl, XT.new ho2, (k1.trans k2).at_ ha, (k1.trans k2).at_ hc, (k1.trans k2).at_ hv⟩
    generalize upd H1 p2 (.frz o2 (.tup [a0, c0, v0, .bl false])) = H2 at hwq k2 h2
    have k12 := k1.trans k2
    have hw0 : H wq = none := k12.none hwq
    have k3 : Sm H2 (upd H2 wq (.lst [.ref p2])) := Kp.new hwq
    have hne : fq ≠ wq := by
      rintro rfl
      rw [k2 _ _ hF1 (.inl (by simp))] at hwq
      cases hwq
    refine ⟨fun m σ H' => ∃ v6 v7 v8 v9 v10 v11, ∃ (W : List Rt) (F : List G.T) (us fs : List V), σ = [some a0, some b0, some c0, some v0, some (.ref fq), some (.ref wq), v6, v7, v8, v9, v10, v11] ∧ Sm H H' ∧ H' wq = some (.lst us) ∧ H' fq = some (.lst fs) ∧ A2 (AtR K H') W us ∧ AtAll K H' F fs ∧
        (∀ q ∈ W, fits ar ps q.x = true ∧ q.d + 12 * q.x.size ≤ 4000000 ∧ q.p.length + q.x.size ≤ 4000000 ∧ q.x.size ≤ 100000) ∧ F ++ outR ps W.reverse = routs ps e0 d0 p0 ∧ m = mr W ∧ m ≤ 100000,
      ⟨_, none, none, none, none, none, none, [⟨e0, d0, p0, false⟩], [], [.ref p2], [], rfl, k12.trans k3, upd_same, k3 _ _ (k2 _ _ hF1 (.inl (by simp))) (.inl (by simp)), A2.one (AtR.kp k3 _ _ h2), aa_nil, fun q hq => (by
        cases List.mem_singleton.mp hq
        exact ⟨hfit, hd0, hp0, hz⟩), List.append_nil _, rfl, by show e0.size + 0 ≤ 100000; omega⟩, ?_⟩
    rintro m σ Ha ⟨v6, v7, v8, v9, v10, v11, W, F, us, fs, rfl, kA, hW, hF, aW, aF, hOk, hout, rfl, hm⟩
    have hlu := aW.len
    refine ⟨_, rfl, wq, us, rfl, .inl (sq_lst hW), _, _, rfl, rfl, _, rfl, ?_⟩
    rcases List.eq_nil_or_concat W with e | ⟨W0, x, e⟩
    · subst e
      have hu0 : us.length = 0 := hlu
      rw [hu0]
      refine iteF ?_
      have hF2 : F = routs ps e0 d0 p0 := by rw [← hout]; exact (List.append_nil _).symm
      rw [← hF2] at q
      exact ⟨_, rfl, fq, fs, F, rfl, sq_lst hF, aF, q.new kA⟩
    · rw [List.concat_eq_append] at e
      subst e
      obtain ⟨us0, v, rfl, aW0, av⟩ := aW.snoc
      have hpos : decide ((((us0 ++ [v]).length : Nat) : Int) > 0) = true := decide_eq_true (by rw [List.length_append, List.length_singleton]; omega)
      rw [hpos]
      refine iteT ⟨_, fun σ' H' h => h, ?_⟩
      have hOk0 : ∀ q ∈ W0, fits ar ps q.x = true ∧ q.d + 12 * q.x.size ≤ 4000000 ∧ q.p.length + q.x.size ≤ 4000000 ∧ q.x.size ≤ 100000 := fun q hq => hOk q (List.mem_append_left _ hq)
      obtain ⟨hfx, hdx, hpx, hzx⟩ := hOk x (List.mem_append_right _ (List.mem_singleton.mpr rfl))
      rw [List.reverse_append] at hout
      have hout : F ++ outR ps (x :: W0.reverse) = routs ps e0 d0 p0 := hout
      have hmu : mr (W0 ++ [x]) = mr W0 + mr [x] := mr_app _ _
      have hFl : F.length ≤ 100000 := by
        have h1 := routs_len ps e0 d0 p0
        rw [← hout, List.length_append] at h1
        omega
      refine ⟨_, rfl, tyL hW, wq, us0 ++ [v], v, rfl, rfl, hW, last_at _ _, ?_⟩
      rw [dl_at]
      have kB : Kp [wq] Ha (upd Ha wq (.lst us0)) := Kp.own hW
      have kAB : Sm H (upd Ha wq (.lst us0)) := kA.set hw0
      have hWB : (upd Ha wq (.lst us0)) wq = some (.lst us0) := upd_same
      have hFB : (upd Ha wq (.lst us0)) fq = some (.lst fs) := by rw [upd_ne hne]; exact hF
      have aW0 := aW0.mono (AtR.kp kB)
      have aF := kB.aa aF
      have av := AtR.kp kB _ _ av
      generalize upd Ha wq (.lst us0) = Hb at kAB hWB hFB aW0 aF av
      have hlF := aa_len aF
      obtain ⟨x, d, p, b⟩ := x
      obtain ⟨pa, x1, x2, x3, rfl, hX, h1, h2, h3⟩ := av
      have h1 : At K Hb x.t x1 := h1
      have h2 : At K Hb (.l (as_ d)) x2 := h2
      have h3 : At K Hb (.l p) x3 := h3
      have hfx : fits ar ps x = true := hfx
      have hdx : d + 12 * x.size ≤ 4000000 := hdx
      have hpx : p.length + x.size ≤ 4000000 := hpx
      have hzx : x.size ≤ 100000 := hzx
      have hmx : mr [Rt.mk x d p b] = x.size := Nat.add_zero _
      refine ⟨pa, _, rfl, hX.sq, rfl, _, _, rfl, _, _, rfl, _, _, rfl, _, _, rfl, rfl, ?_⟩
      cases b with
      | false =>
        refine ⟨_, rfl, _, rfl, iteF ?_⟩
        have h1c := h1
        have h2c := h2
        have h3c := h3
        have kHc := kAB
        have hWc := hWB
        have hFc := hFB
        have aWc := aW0
        have aFc := aF
        have hFx : F ++ (routs ps x d p ++ outR ps W0.reverse) = routs ps e0 d0 p0 := hout
        generalize F = F' at hFx hFl aFc
        generalize fs = fs' at hFc aFc
        generalize hbz : false = b at hmu hmx hm ⊢
        refine ⟨_, rfl, x1, x.t, rfl, h1c, ?_⟩
        cases x with
        | v s =>
          refine ⟨_, rfl, iteF (iteF ?_)⟩
          have hr0 : routs ps (.v s) d p = [] := by rw [routs]
          rw [hr0] at hFx
          refine ⟨mr W0, by rw [hmu, hmx]; show _ < _ + 1; omega, _, _, _, _, v10, v11, W0, F', us0, fs', rfl, kHc, hWc, hFc, aWc, aFc, hOk0, hFx, rfl, by omega⟩
        | q t =>
          refine ⟨_, rfl, iteT ?_⟩
          refine ⟨_, rfl, _, 0, _, h1c, rfl, rfl, fun v1 g1 => ?_⟩
          obtain rfl := at_w g1
          refine ⟨rfl, _, rfl, ?_⟩
          rw [dec_ss, lit_quote, seq_self]
          refine iteF ?_
          have hr0 : routs ps (.q t) d p = [] := by rw [routs]
          rw [hr0] at hFx
          refine ⟨mr W0, by rw [hmu, hmx]; show _ < _ + 1; omega, _, _, _, _, v10, v11, W0, F', us0, fs', rfl, kHc, hWc, hFc, aWc, aFc, hOk0, hFx, rfl, by omega⟩
        | n f as =>
          obtain ⟨hq1, har, hfa⟩ := fits_n hfx
          have hal := har12 f _ har
          have hszx : (Xp.n f as).size = 1 + Xp.sizes as := rfl
          refine ⟨_, rfl, iteT ?_⟩
          refine ⟨_, rfl, _, 0, _, h1c, rfl, rfl, fun v1 g1 => ?_⟩
          obtain rfl := at_w g1
          refine ⟨rfl, _, rfl, ?_⟩
          rw [dec_ss, lit_quote, hq1]
          refine iteT ⟨_, rfl, _, rfl, _, rfl, x1, x2, x3, f, Xp.ts as, d, p, rfl, h1c, h2c, h3c, by rw [Xp.ts_map, List.length_map]; omega, by omega, by omega, fun r rs Hp kP hr hRp aRp => ?_⟩
          have hrw : r ≠ wq := by
            rintro rfl
            rw [hWc] at hr
            cases hr
          have hrf : r ≠ fq := by
            rintro rfl
            rw [hFc] at hr
            cases hr
          have hrl : rs.length = as.length := by rw [aa_len aRp, partsT_len, Xp.ts_map, List.length_map]
          have kPa := kHc.trans kP
          have h1p := kP.at_ h1c
          have hWp := kP _ _ hWc (.inl (by simp))
          have hFp := kP _ _ hFc (.inl (by simp))
          have aWp := aWc.mono (AtR.kp kP)
          have aFp := kP.aa aFc
          have hlW0 := aWp.len
          have hlW1 := mr_len W0
          have hprl := pr_len f d p 0 as
          refine ⟨_, rfl, r, rs, rfl, .inl (sq_lst hRp), _, rfl, by omega, by omega, by omega, by omega, for_it walk_rangeC (fun i σ H' => ∃ us w11, σ = [some a0, some b0, some c0, some v0, some (.ref fq), some (.ref wq), some x1, some x2, some x3, some (.bl b), some (.ref r), w11] ∧ Sm H H' ∧ Kp [wq] Hp H' ∧ H' wq = some (.lst us) ∧
            A2 (AtR K H') (W0 ++ ((pr f d p 0 as).drop (as.length - i)).reverse) us) ⟨us0, v11, rfl, kPa, Kp.refl, hWp, by rw [Nat.sub_zero, ← hprl, List.drop_length, List.reverse_nil, List.append_nil]; exact aWp⟩ (fun _ _ _ _ _ => trivial) ?_ ?_⟩
          · rintro i x9 σ Hq Hq2 hi ⟨us, w11, rfl, kI, kL, hWi, aWi⟩ ⟨rfl, hx9⟩
            have hi2 : i < as.length := by omega
            obtain ⟨k, hk⟩ : ∃ k, as.length - i = k + 1 := ⟨as.length - i - 1, by omega⟩
            have hx2 : x9 = .int (k : Int) := by
              rw [hx9]
              show V.int ((0 + (((((rs.length : Nat) : Int) - 0).toNat : Nat) : Int) - 1) + ((i : Nat) : Int) * (-1)) = _
              congr 1
              omega
            subst hx2
            have hk1 : as.length - (i + 1) = k := by omega
            have hka : k < as.length := by omega
            rw [hk] at aWi
            have hRi := kL _ _ hRp (.inl (by simp [hrw]))
            obtain ⟨y, hy, ay⟩ := aa_get (kL.aa aRp) (partsT_get f d p 0 (Xp.ts as) k (as[k]).t (by rw [Xp.ts_map, List.getElem?_map, List.getElem?_eq_getElem hka]; rfl))
            rw [Nat.zero_add] at ay
            obtain ⟨ya, yvs, rfl, hXy, hAy⟩ := ay
            obtain ⟨y1, r1, rfl, b1, hAy⟩ := hAy
            obtain ⟨y2, r2, rfl, b2, hAy⟩ := hAy
            obtain ⟨y3, r3, rfl, b3, hAy⟩ := hAy
            rw [show r3 = [] from hAy] at hXy
            have h1q := kL.at_ h1p
            refine ⟨_, rfl, tyL hWi, _, rfl, _, rfl, r, rs, (k : Int), .ref ya, rfl, rfl, sq_lst hRi, atI_nat hy, ?_⟩
            have hgetk : (pr f d p 0 as)[k]? = some (prE f d p k as[k]) := by
              have := pr_get f d p 0 as k as[k] (List.getElem?_eq_getElem hka)
              rw [Nat.zero_add] at this
              exact this
            have hdrop : (pr f d p 0 as).drop k = prE f d p k as[k] :: (pr f d p 0 as).drop (k + 1) := by
              have hk2 : k < (pr f d p 0 as).length := by omega
              rw [List.drop_eq_getElem_cons hk2]
              rw [List.getElem?_eq_getElem hk2] at hgetk
              rw [Option.some.inj hgetk]
            have hll := aWi.len
            rw [List.length_append, List.length_reverse, List.length_drop] at hll
            have hlas := Xp.len_sizes as
            -- the last steps
            have fin : ∀ (bb : Bool), bb = (prE f d p k as[k]).b → ∀ p7 o7, Hq2 p7 = none → o7.dict = none → ∃ (a b2 : Addr) (xs ys : List V), V.ref ya = .ref a ∧ V.ref p7 = .ref b2 ∧ XT K (upd Hq2 p7 (.frz o7 (.tup [.bl bb]))) a xs ∧ XT K (upd Hq2 p7 (.frz o7 (.tup [.bl bb]))) b2 ys ∧ xs.length + ys.length ≤ sizeLine ∧
                (xs = [] → False) ∧ (xs ≠ [] → ys = [] → False) ∧ (xs ≠ [] → ys ≠ [] → newX (xs ++ ys) (upd Hq2 p7 (.frz o7 (.tup [.bl bb]))) fun x H1 => rAppend (.ref wq) [x] H1 fun _ H' => ∃ us w11', [some a0, some b0, some c0, some v0, some (.ref fq), some (.ref wq), some x1, some x2, some x3, some (.bl b), some (.ref r), some (.int (k : Int))] = [some a0, some b0, some c0, some v0, some (.ref fq), some (.ref wq), some x1, some x2, some x3, some (.bl b), some (.ref r), w11'] ∧ Sm H H' ∧ Kp [wq] Hp H' ∧ H' wq = some (.lst us) ∧
            A2 (AtR K H') (W0 ++ ((pr f d p 0 as).drop (as.length - (i + 1))).reverse) us) := by
              intro bb hbb p7 o7 hp7 ho7
              have k7 : Sm Hq2 (upd Hq2 p7 (.frz o7 (.tup [.bl bb]))) := Kp.new hp7
              refine ⟨ya, p7, [y1, y2, y3], [.bl bb], rfl, rfl, k7.xt hXy, XT.new ho7, zle (Nat.le_of_ble_eq_true rfl), (fun z => by cases z), (fun _ z => by cases z), fun _ _ p8 o8 hp8 ho8 => ?_⟩
              have k8 : Sm (upd Hq2 p7 (.frz o7 (.tup [.bl bb]))) (upd (upd Hq2 p7 (.frz o7 (.tup [.bl bb]))) p8 (.frz o8 (.tup ([y1, y2, y3] ++ [.bl bb])))) := Kp.new hp8
              have k78 := k7.trans k8
              have aN : AtR K (upd (upd Hq2 p7 (.frz o7 (.tup [.bl bb]))) p8 (.frz o8 (.tup ([y1, y2, y3] ++ [.bl bb])))) (prE f d p k as[k]) (.ref p8) := by
                refine ⟨p8, y1, y2, y3, rfl, ?_, k78.at_ b1, k78.at_ b2, k78.at_ b3⟩
                rw [← hbb]
                exact XT.new ho8
              generalize upd (upd Hq2 p7 (.frz o7 (.tup [.bl bb]))) p8 (.frz o8 (.tup ([y1, y2, y3] ++ [.bl bb]))) = Hr at k8 k78 aN
              have hWr := k78 _ _ hWi (.inl (by simp))
              refine ⟨wq, us, .ref p8, rfl, rfl, hWr, by rw [sizeLine_eq]; omega, ?_⟩
              have k9 : Kp [wq] Hr (upd Hr wq (.lst (us ++ [.ref p8]))) := Kp.own hWr
              refine ⟨_, _, rfl, (kI.trans k78).set hw0, (kL.trans k78.nil).trans k9, upd_same, ?_⟩
              rw [hk1, hdrop, List.reverse_cons, ← List.append_assoc]
              exact ((aWi.mono (AtR.kp k78)).app (A2.one aN)).mono (AtR.kp k9)
            refine ⟨_, rfl, _, 0, _, h1q, rfl, rfl, fun v1 g1 => ?_⟩
            obtain rfl := at_w g1
            refine ⟨rfl, _, rfl, ?_⟩
            rw [dec_ss, lit_if2]
            cases hif : seq f wIf with
            | true =>
              refine iteT ⟨_, rfl, _, _, rfl, rfl, zle (Nat.le_of_ble_eq_true rfl), fun p7 o7 hp7 ho7 => ?_⟩
              obtain ⟨a, b', xs, ys, e1, e2, g3, g4, g5, g6, g7, g8⟩ := fin (decide ((k : Int) > 0)) (by
                unfold prE
                rw [hif]
                cases k with
                | zero => rfl
                | succ k =>
                  show decide _ = true
                  exact decide_eq_true (by omega)) p7 o7 hp7 ho7
              exact ⟨a, b', xs, ys, e1, e2, g3, g4, g5, fun z => (g6 z).elim, fun z z2 => (g7 z z2).elim, g8⟩
            | false =>
              refine iteF ⟨zle (Nat.le_of_ble_eq_true rfl), fun p7 o7 hp7 ho7 => ?_⟩
              obtain ⟨a, b', xs, ys, e1, e2, g3, g4, g5, g6, g7, g8⟩ := fin false (by
                unfold prE
                rw [hif]) p7 o7 hp7 ho7
              exact ⟨a, b', xs, ys, e1, e2, g3, g4, g5, fun z => (g6 z).elim, fun z z2 => (g7 z z2).elim, g8⟩
          · rintro σ Hq ⟨us, w11, rfl, kI, kL, hWi, aWi⟩
            have hn : ((((rs.length : Nat) : Int)) - 0).toNat = as.length := by omega
            rw [hn, Nat.sub_self, List.drop_zero] at aWi
            have hmz : mr (W0 ++ (pr f d p 0 as).reverse) = mr W0 + Xp.sizes as := by
              rw [mr_app, mr_rev, mr_pr]
            refine ⟨mr (W0 ++ (pr f d p 0 as).reverse), by omega, _, _, _, _, _, _, W0 ++ (pr f d p 0 as).reverse, F', us, fs', rfl, kI, hWi, kL _ _ hFp (.inl (by simp [hne])), aWi, kL.aa aFp, ?_, ?_, rfl, by omega⟩
            · intro q hq
              rcases List.mem_append.mp hq with hq | hq
              · exact hOk0 q hq
              · obtain ⟨j, hj⟩ := List.mem_iff_getElem?.mp (List.mem_reverse.mp hq)
                have hjl : j < as.length := by
                  have := (List.getElem?_eq_some_iff.mp hj).1
                  omega
                have hj2 := pr_get f d p 0 as j as[j] (List.getElem?_eq_getElem hjl)
                rw [hj, Nat.zero_add] at hj2
                cases hj2
                have hm1 := List.getElem_mem hjl
                have hs1 := size_mem hm1
                refine ⟨hfa _ hm1, ?_, by show p.length + 1 + (as[j]).size ≤ _; omega, by show (as[j]).size ≤ _; omega⟩
                show (match seq f wIf with | true => d | false => j + d) + 12 * (as[j]).size ≤ _
                cases seq f wIf with
                | true =>
                  show d + _ ≤ _
                  omega
                | false =>
                  show j + d + _ ≤ _
                  omega
            · rw [List.reverse_append, List.reverse_reverse, out_pr]
              exact hFx
      | true =>
        refine ⟨_, rfl, _, rfl, iteT ?_⟩
        refine ⟨_, rfl, tyL hFB, _, rfl, [_], aa_cons h3 aa_nil, zle (Nat.le_of_ble_eq_true rfl), fun p4 H4 k4 h4 => ?_⟩
        refine ⟨_, rfl, _, rfl, _, rfl, _, rfl, x1, b0, x2, x3, x, ps, d, p, ar, rfl, k4.at_ h1, (kAB.trans k4).at_ hb, k4.at_ h2, k4.at_ h3, hfx, har3, har12, hzx, hpl, hdx, hpx, fun v5 H5 k5 h5 => ?_⟩
        have hil := instrs_len ps x d p
        refine ⟨_, _, k5.at_ h4, h5, by rw [sizeLine_eq]; show 1 + _ ≤ _; omega, fun p6 H6 k6 h6 => ?_⟩
        have k46 := k4.trans (k5.trans k6)
        have hF6 := k46 _ _ hFB (.inl (by simp))
        refine ⟨fq, fs, .ref p6, rfl, rfl, hF6, by rw [sizeLine_eq]; omega, ?_⟩
        have k7 : Kp [fq] H6 (upd H6 fq (.lst (fs ++ [.ref p6]))) := Kp.own hF6
        have h1c := k7.at_ (k46.at_ h1)
        have h2c := k7.at_ (k46.at_ h2)
        have h3c := k7.at_ (k46.at_ h3)
        have kHc : Sm H (upd H6 fq (.lst (fs ++ [.ref p6]))) := (kAB.trans k46).set hfq
        have hWc : (upd H6 fq (.lst (fs ++ [.ref p6]))) wq = some (.lst us0) := by rw [upd_ne (Ne.symm hne)]; exact k46 _ _ hWB (.inl (by simp))
        have hFc : (upd H6 fq (.lst (fs ++ [.ref p6]))) fq = some (.lst (fs ++ [.ref p6])) := upd_same
        have aWc := (aW0.mono (AtR.kp k46)).mono (AtR.kp k7)
        have h6 : At K H6 (.l (.l p :: instrs ps x d p)) (.ref p6) := h6
        have aFc := aa_snocI (k7.aa (k46.aa aF)) (k7.at_ h6)
        have hFx : (F ++ [.l (.l p :: instrs ps x d p)]) ++ (routs ps x d p ++ outR ps W0.reverse) = routs ps e0 d0 p0 := by
          rw [← hout, List.append_assoc]
          rfl
        have hFl : (F ++ [G.T.l (.l p :: instrs ps x d p)]).length ≤ 100000 := by
          have h1 := routs_len ps e0 d0 p0
          rw [← hFx, List.length_append] at h1
          omega
        generalize upd H6 fq (.lst (fs ++ [.ref p6])) = Hc at h1c h2c h3c kHc hWc hFc aWc aFc
        generalize (F ++ [G.T.l (.l p :: instrs ps x d p)]) = F' at hFx hFl aFc
        generalize (fs ++ [.ref p6]) = fs' at hFc aFc
        refine ⟨_, rfl, x1, x.t, rfl, h1c, ?_⟩
        cases x with
        | v s =>
          refine ⟨_, rfl, iteF (iteF ?_)⟩
          have hr0 : routs ps (.v s) d p = [] := by rw [routs]
          rw [hr0] at hFx
          refine ⟨mr W0, by rw [hmu, hmx]; show _ < _ + 1; omega, _, _, _, _, v10, v11, W0, F', us0, fs', rfl, kHc, hWc, hFc, aWc, aFc, hOk0, hFx, rfl, by omega⟩
        | q t =>
          refine ⟨_, rfl, iteT ?_⟩
          refine ⟨_, rfl, _, 0, _, h1c, rfl, rfl, fun v1 g1 => ?_⟩
          obtain rfl := at_w g1
          refine ⟨rfl, _, rfl, ?_⟩
          rw [dec_ss, lit_quote, seq_self]
          refine iteF ?_
          have hr0 : routs ps (.q t) d p = [] := by rw [routs]
          rw [hr0] at hFx
          refine ⟨mr W0, by rw [hmu, hmx]; show _ < _ + 1; omega, _, _, _, _, v10, v11, W0, F', us0, fs', rfl, kHc, hWc, hFc, aWc, aFc, hOk0, hFx, rfl, by omega⟩
        | n f as =>
          obtain ⟨hq1, har, hfa⟩ := fits_n hfx
          have hal := har12 f _ har
          have hszx : (Xp.n f as).size = 1 + Xp.sizes as := rfl
          refine ⟨_, rfl, iteT ?_⟩
          refine ⟨_, rfl, _, 0, _, h1c, rfl, rfl, fun v1 g1 => ?_⟩
          obtain rfl := at_w g1
          refine ⟨rfl, _, rfl, ?_⟩
          rw [dec_ss, lit_quote, hq1]
          refine iteT ⟨_, rfl, _, rfl, _, rfl, x1, x2, x3, f, Xp.ts as, d, p, rfl, h1c, h2c, h3c, by rw [Xp.ts_map, List.length_map]; omega, by omega, by omega, fun r rs Hp kP hr hRp aRp => ?_⟩
          have hrw : r ≠ wq := by
            rintro rfl
            rw [hWc] at hr
            cases hr
          have hrf : r ≠ fq := by
            rintro rfl
            rw [hFc] at hr
            cases hr
          have hrl : rs.length = as.length := by rw [aa_len aRp, partsT_len, Xp.ts_map, List.length_map]
          have kPa := kHc.trans kP
          have h1p := kP.at_ h1c
          have hWp := kP _ _ hWc (.inl (by simp))
          have hFp := kP _ _ hFc (.inl (by simp))
          have aWp := aWc.mono (AtR.kp kP)
          have aFp := kP.aa aFc
          have hlW0 := aWp.len
          have hlW1 := mr_len W0
          have hprl := pr_len f d p 0 as
          refine ⟨_, rfl, r, rs, rfl, .inl (sq_lst hRp), _, rfl, by omega, by omega, by omega, by omega, for_it walk_rangeC (fun i σ H' => ∃ us w11, σ = [some a0, some b0, some c0, some v0, some (.ref fq), some (.ref wq), some x1, some x2, some x3, some (.bl true), some (.ref r), w11] ∧ Sm H H' ∧ Kp [wq] Hp H' ∧ H' wq = some (.lst us) ∧
            A2 (AtR K H') (W0 ++ ((pr f d p 0 as).drop (as.length - i)).reverse) us) ⟨us0, v11, rfl, kPa, Kp.refl, hWp, by rw [Nat.sub_zero, ← hprl, List.drop_length, List.reverse_nil, List.append_nil]; exact aWp⟩ (fun _ _ _ _ _ => trivial) ?_ ?_⟩
          · rintro i x9 σ Hq Hq2 hi ⟨us, w11, rfl, kI, kL, hWi, aWi⟩ ⟨rfl, hx9⟩
            have hi2 : i < as.length := by omega
            obtain ⟨k, hk⟩ : ∃ k, as.length - i = k + 1 := ⟨as.length - i - 1, by omega⟩
            have hx2 : x9 = .int (k : Int) := by
              rw [hx9]
              show V.int ((0 + (((((rs.length : Nat) : Int) - 0).toNat : Nat) : Int) - 1) + ((i : Nat) : Int) * (-1)) = _
              congr 1
              omega
            subst hx2
            have hk1 : as.length - (i + 1) = k := by omega
            have hka : k < as.length := by omega
            rw [hk] at aWi
            have hRi := kL _ _ hRp (.inl (by simp [hrw]))
            obtain ⟨y, hy, ay⟩ := aa_get (kL.aa aRp) (partsT_get f d p 0 (Xp.ts as) k (as[k]).t (by rw [Xp.ts_map, List.getElem?_map, List.getElem?_eq_getElem hka]; rfl))
            rw [Nat.zero_add] at ay
            obtain ⟨ya, yvs, rfl, hXy, hAy⟩ := ay
            obtain ⟨y1, r1, rfl, b1, hAy⟩ := hAy
            obtain ⟨y2, r2, rfl, b2, hAy⟩ := hAy
            obtain ⟨y3, r3, rfl, b3, hAy⟩ := hAy
            rw [show r3 = [] from hAy] at hXy
            have h1q := kL.at_ h1p
            refine ⟨_, rfl, tyL hWi, _, rfl, _, rfl, r, rs, (k : Int), .ref ya, rfl, rfl, sq_lst hRi, atI_nat hy, ?_⟩
            have hgetk : (pr f d p 0 as)[k]? = some (prE f d p k as[k]) := by
              have := pr_get f d p 0 as k as[k] (List.getElem?_eq_getElem hka)
              rw [Nat.zero_add] at this
              exact this
            have hdrop : (pr f d p 0 as).drop k = prE f d p k as[k] :: (pr f d p 0 as).drop (k + 1) := by
              have hk2 : k < (pr f d p 0 as).length := by omega
              rw [List.drop_eq_getElem_cons hk2]
              rw [List.getElem?_eq_getElem hk2] at hgetk
              rw [Option.some.inj hgetk]
            have hll := aWi.len
            rw [List.length_append, List.length_reverse, List.length_drop] at hll
            have hlas := Xp.len_sizes as
            -- the last steps
            have fin : ∀ (bb : Bool), bb = (prE f d p k as[k]).b → ∀ p7 o7, Hq2 p7 = none → o7.dict = none → ∃ (a b2 : Addr) (xs ys : List V), V.ref ya = .ref a ∧ V.ref p7 = .ref b2 ∧ XT K (upd Hq2 p7 (.frz o7 (.tup [.bl bb]))) a xs ∧ XT K (upd Hq2 p7 (.frz o7 (.tup [.bl bb]))) b2 ys ∧ xs.length + ys.length ≤ sizeLine ∧
                (xs = [] → False) ∧ (xs ≠ [] → ys = [] → False) ∧ (xs ≠ [] → ys ≠ [] → newX (xs ++ ys) (upd Hq2 p7 (.frz o7 (.tup [.bl bb]))) fun x H1 => rAppend (.ref wq) [x] H1 fun _ H' => ∃ us w11', [some a0, some b0, some c0, some v0, some (.ref fq), some (.ref wq), some x1, some x2, some x3, some (.bl true), some (.ref r), some (.int (k : Int))] = [some a0, some b0, some c0, some v0, some (.ref fq), some (.ref wq), some x1, some x2, some x3, some (.bl true), some (.ref r), w11'] ∧ Sm H H' ∧ Kp [wq] Hp H' ∧ H' wq = some (.lst us) ∧
            A2 (AtR K H') (W0 ++ ((pr f d p 0 as).drop (as.length - (i + 1))).reverse) us) := by
              intro bb hbb p7 o7 hp7 ho7
              have k7 : Sm Hq2 (upd Hq2 p7 (.frz o7 (.tup [.bl bb]))) := Kp.new hp7
              refine ⟨ya, p7, [y1, y2, y3], [.bl bb], rfl, rfl, k7.xt hXy, XT.new ho7, zle (Nat.le_of_ble_eq_true rfl), (fun z => by cases z), (fun _ z => by cases z), fun _ _ p8 o8 hp8 ho8 => ?_⟩
              have k8 : Sm (upd Hq2 p7 (.frz o7 (.tup [.bl bb]))) (upd (upd Hq2 p7 (.frz o7 (.tup [.bl bb]))) p8 (.frz o8 (.tup ([y1, y2, y3] ++ [.bl bb])))) := Kp.new hp8
              have k78 := k7.trans k8
              have aN : AtR K (upd (upd Hq2 p7 (.frz o7 (.tup [.bl bb]))) p8 (.frz o8 (.tup ([y1, y2, y3] ++ [.bl bb])))) (prE f d p k as[k]) (.ref p8) := by
                refine ⟨p8, y1, y2, y3, rfl, ?_, k78.at_ b1, k78.at_ b2, k78.at_ b3⟩
                rw [← hbb]
                exact XT.new ho8
              generalize upd (upd Hq2 p7 (.frz o7 (.tup [.bl bb]))) p8 (.frz o8 (.tup ([y1, y2, y3] ++ [.bl bb]))) = Hr at k8 k78 aN
              have hWr := k78 _ _ hWi (.inl (by simp))
              refine ⟨wq, us, .ref p8, rfl, rfl, hWr, by rw [sizeLine_eq]; omega, ?_⟩
              have k9 : Kp [wq] Hr (upd Hr wq (.lst (us ++ [.ref p8]))) := Kp.own hWr
              refine ⟨_, _, rfl, (kI.trans k78).set hw0, (kL.trans k78.nil).trans k9, upd_same, ?_⟩
              rw [hk1, hdrop, List.reverse_cons, ← List.append_assoc]
              exact ((aWi.mono (AtR.kp k78)).app (A2.one aN)).mono (AtR.kp k9)
            refine ⟨_, rfl, _, 0, _, h1q, rfl, rfl, fun v1 g1 => ?_⟩
            obtain rfl := at_w g1
            refine ⟨rfl, _, rfl, ?_⟩
            rw [dec_ss, lit_if2]
            cases hif : seq f wIf with
            | true =>
              refine iteT ⟨_, rfl, _, _, rfl, rfl, zle (Nat.le_of_ble_eq_true rfl), fun p7 o7 hp7 ho7 => ?_⟩
              obtain ⟨a, b', xs, ys, e1, e2, g3, g4, g5, g6, g7, g8⟩ := fin (decide ((k : Int) > 0)) (by
                unfold prE
                rw [hif]
                cases k with
                | zero => rfl
                | succ k =>
                  show decide _ = true
                  exact decide_eq_true (by omega)) p7 o7 hp7 ho7
              exact ⟨a, b', xs, ys, e1, e2, g3, g4, g5, fun z => (g6 z).elim, fun z z2 => (g7 z z2).elim, g8⟩
            | false =>
              refine iteF ⟨zle (Nat.le_of_ble_eq_true rfl), fun p7 o7 hp7 ho7 => ?_⟩
              obtain ⟨a, b', xs, ys, e1, e2, g3, g4, g5, g6, g7, g8⟩ := fin false (by
                unfold prE
                rw [hif]) p7 o7 hp7 ho7
              exact ⟨a, b', xs, ys, e1, e2, g3, g4, g5, fun z => (g6 z).elim, fun z z2 => (g7 z z2).elim, g8⟩
          · rintro σ Hq ⟨us, w11, rfl, kI, kL, hWi, aWi⟩
            have hn : ((((rs.length : Nat) : Int)) - 0).toNat = as.length := by omega
            rw [hn, Nat.sub_self, List.drop_zero] at aWi
            have hmz : mr (W0 ++ (pr f d p 0 as).reverse) = mr W0 + Xp.sizes as := by
              rw [mr_app, mr_rev, mr_pr]
            refine ⟨mr (W0 ++ (pr f d p 0 as).reverse), by omega, _, _, _, _, _, _, W0 ++ (pr f d p 0 as).reverse, F', us, fs', rfl, kI, hWi, kL _ _ hFp (.inl (by simp [hne])), aWi, kL.aa aFp, ?_, ?_, rfl, by omega⟩
            · intro q hq
              rcases List.mem_append.mp hq with hq | hq
              · exact hOk0 q hq
              · obtain ⟨j, hj⟩ := List.mem_iff_getElem?.mp (List.mem_reverse.mp hq)
                have hjl : j < as.length := by
                  have := (List.getElem?_eq_some_iff.mp hj).1
                  omega
                have hj2 := pr_get f d p 0 as j as[j] (List.getElem?_eq_getElem hjl)
                rw [hj, Nat.zero_add] at hj2
                cases hj2
                have hm1 := List.getElem_mem hjl
                have hs1 := size_mem hm1
                refine ⟨hfa _ hm1, ?_, by show p.length + 1 + (as[j]).size ≤ _; omega, by show (as[j]).size ≤ _; omega⟩
                show (match seq f wIf with | true => d | false => j + d) + 12 * (as[j]).size ≤ _
                cases seq f wIf with
                | true =>
                  show d + _ ≤ _
                  omega
                | false =>
                  show j + d + _ ≤ _
                  omega
            · rw [List.reverse_append, List.reverse_reverse, out_pr]
              exact hFx
theorem arity_le {fs : List Fn} (h : ∀ f ∈ fs, fnOk fs f = true) : ∀ f n, arity fs f = some n → n ≤ 12 := by
  intro f n hn
  unfold arity at hn
  have key : ∀ (l : List (Str × Nat)), (∀ p ∈ l, p.2 ≤ 12) → ∀ n, lookN f l = some n → n ≤ 12 := by
    intro l
    induction l with
    | nil => intro _ n h; cases h
    | cons p r ih =>
      intro hl n h
      obtain ⟨k, m⟩ := p
      have h : (match seq k f with | true => some m | false => lookN f r) = some n := h
      cases e : seq k f with
      | true =>
        rw [e] at h
        cases h
        exact hl _ (List.mem_cons_self ..)
      | false =>
        rw [e] at h
        exact ih (fun p hp => hl p (List.mem_cons_of_mem _ hp)) n h
  refine key _ (fun p hp => ?_) n hn
  rcases List.mem_append.mp hp with hp | hp
  · exact (show ∀ p ∈ specials, p.2 ≤ 12 by decide +kernel) p hp
  · obtain ⟨g, hg, rfl⟩ := List.mem_map.mp hp
    exact (fn_parts (h g hg)).pl
theorem arity_if (fs : List Fn) : arity fs wIf = some 3 := rfl
def sp_to_machine (K : PySem.W.Frag) : Sp := fun vs H Q _ => ∃ v, ∃ fs : List Fn, vs = [v] ∧ At K H (progT fs) v ∧ good fs = true ∧ (fs.flatMap fnMach).length ≤ 1000000 ∧ ans K (toMachine fs) H Q
theorem sc_to_machine : FnScope ["program", "found", "name", "parameters", "body", "instructions"] ["program"] (defScope s_to_machine) := ⟨rfl, rfl, rfl, by decide +kernel, rfl, by decide +kernel, by decide +kernel⟩
theorem lit_slide : ("slide" : Str) = wSlide := by decide +kernel
theorem f_to_machine (T : Txt w K mg) : Clb P w K mg base "to_machine" 5 ["program"] (sp_to_machine K) := by
  have F_check_program : Clb P w K mg base "check_program" 4 ["value"] (sp_check_program K) := f_check_program T
  have F_instructions_of : Clb P w K mg base "instructions_of" 3 ["expression", "parameters", "depth", "path"] (sp_instructions_of K) := f_instructions_of T
  have F_routines_of : Clb P w K mg base "routines_of" 4 ["expression", "parameters", "depth", "path"] (sp_routines_of K) := f_routines_of T
  refine T.d_to_machine.clb sc_to_machine (fun _ _ _ _ _ _ us hl => match us, hl with | [_], _ => rfl) (fun vs H Q E h => ?_) (fun f cdv A outer s H vs Q E hr h => ?_)
  · obtain ⟨_, _, rfl, _⟩ := h
    rfl
  · obtain ⟨v, fs, rfl, h, hg, hz, q⟩ := h
    obtain ⟨hne, hnd, hlen, hok⟩ := good_parts hg
    refine ⟨_, (pss_cons (ps_expr (pe_c F_check_program (hr.mono (by decide)) (pa_cons (pv 0) pa_nil)))
      (pss_cons (ps_set (i := 1) sc_to_machine.nd rfl (Or.inl rfl) (pe_tupT pa_nil))
      (pss_cons (ps_for PassesOwn.never rfl (pi_tup (pv 0)) (pg_tupK K rfl 3 rfl (pgs_cons (pg_name (i := 2) sc_to_machine.nd rfl (Or.inl rfl)) (pgs_cons (pg_name (i := 3) sc_to_machine.nd rfl (Or.inl rfl)) (pgs_cons (pg_name (i := 4) sc_to_machine.nd rfl (Or.inl rfl)) pgs_nil)))) (pss_cons (ps_set (i := 5) sc_to_machine.nd rfl (Or.inl rfl) (pe_c F_instructions_of (hr.mono (by decide)) (pa_cons (pv 4) (pa_cons (pv 3) (pa_cons (pe_tupT pa_nil) (pa_cons (pe_tupT (pa_cons (pv 2) pa_nil)) pa_nil))))))
      (pss_cons (ps_set (i := 1) sc_to_machine.nd rfl (Or.inl rfl) (pe_op op_catTr (pv 1) (pe_tupT (pa_cons (pe_op op_catTr (pe_op op_catTr (pe_tupT (pa_cons (pv 2) pa_nil)) (pv 5)) (pe_tupT (pa_cons (pe_tupT (pa_cons pe_str (pa_cons (pv 3) pa_nil))) pa_nil))) pa_nil))))
      (pss_one (ps_set (i := 1) sc_to_machine.nd rfl (Or.inl rfl) (pe_op op_catTr (pv 1) (pe_c F_routines_of (hr.mono (by decide)) (pa_cons (pv 4) (pa_cons (pv 3) (pa_cons (pe_tupT pa_nil) (pa_cons (pe_tupT (pa_cons (pv 2) pa_nil)) pa_nil)))))))))))
      (pss_one (ps_ret (pv 1)))))), ?_⟩
    refine ⟨_, rfl, v, fs, rfl, h, hg, fun H1 k1 => ⟨[], aa_nil, zle (Nat.le_of_ble_eq_true rfl), fun p2 H2 k2 h2 => ?_⟩⟩
    obtain ⟨p, xs, rfl, hX, hA⟩ := id h
    have hxl : xs.length = fs.length := by rw [aa_len hA, List.length_map]
    have k12 := k1.trans k2
    refine ⟨_, rfl, p, rfl, ⟨xs, (k12.xt hX).sq⟩, for_tup (K := K) (a := p) (xs := xs) (fun i σ H' => ∃ v1 v2 v3 v4 v5, σ = [some (.ref p), some v1, v2, v3, v4, v5] ∧ Sm H H' ∧ At K H' (.l ((fs.take i).flatMap fnMach)) v1) ⟨_, none, none, none, none, rfl, k12, h2⟩ (fun i σ H' _ ⟨_, _, _, _, _, _, k, _⟩ => (k.xt hX).sq) ?_ ?_⟩
    · rintro i x σ Ha hi ⟨v1, v2, v3, v4, v5, rfl, kA, hv1⟩
      obtain ⟨fn, hfn, hAt⟩ := aa_prog hA hi
      have hfok := fn_parts (hok fn (List.mem_of_getElem? hfn))
      have hil : i < fs.length := (List.getElem?_eq_some_iff.mp hfn).1
      have hAt := kA.at_ hAt
      obtain ⟨a2, ys, rfl, hX2, hA2⟩ := id hAt
      obtain ⟨y1, r1, rfl, b1, hA3⟩ := hA2
      obtain ⟨y2, r2, rfl, b2, hA4⟩ := hA3
      obtain ⟨y3, r3, rfl, b3, hA5⟩ := hA4
      obtain rfl := aa_nil' hA5
      obtain rfl := at_w b1
      -- sizes
      have e9 : fs.take (i + 1) = fs.take i ++ [fn] := by
        rw [List.take_add_one, hfn]
        rfl
      have hzz : ((fs.take (i + 1)).flatMap fnMach).length ≤ 1000000 := by
        refine Nat.le_trans ?_ hz
        conv => rhs; rw [← List.take_append_drop (i + 1) fs]
        rw [List.flatMap_append, List.length_append]
        omega
      have e10 : (fs.take (i + 1)).flatMap fnMach = (fs.take i).flatMap fnMach ++ fnMach fn := by
        rw [e9, List.flatMap_append]
        simp
      rw [e10, List.length_append] at hzz
      have hfm : (fnMach fn).length = 1 + (routs fn.ps fn.body 0 [.w fn.name]).length := by
        unfold fnMach
        rw [List.length_cons]
        omega
      have hil2 := instrs_len fn.ps fn.body 0 [.w fn.name]
      have hbz := hfok.bz
      refine ⟨a2, _, rfl, hX2.sq, rfl, _, _, rfl, _, _, rfl, _, _, rfl, rfl, ?_⟩
      refine ⟨_, rfl, _, rfl, [], aa_nil, zle (Nat.le_of_ble_eq_true rfl), fun p4 H4 k4 h4 => ⟨_, rfl, [.w fn.name], aa_cons at_wi aa_nil, zle (Nat.le_of_ble_eq_true rfl), fun p5 H5 k5 h5 => ?_⟩⟩
      have k45 := k4.trans k5
      refine ⟨y3, y2, _, _, fn.body, fn.ps, 0, [.w fn.name], arity fs, rfl, k45.at_ b3, k45.at_ b2, k5.at_ h4, h5, hfok.fit, arity_if fs, arity_le hok, hbz, hfok.pl, by omega, by show 1 + _ ≤ _; omega, fun v6 H6 k6 h6 => ?_⟩
      have k46 := k45.trans k6
      refine ⟨_, rfl, _, rfl, [.w fn.name], aa_cons at_wi aa_nil, zle (Nat.le_of_ble_eq_true rfl), fun p7 H7 k7 h7 => ?_⟩
      refine ⟨_, rfl, _, _, h7, k7.at_ h6, by rw [sizeLine_eq]; show 1 + _ ≤ _; omega, fun p8 H8 k8 h8 => ?_⟩
      have k48 := k46.trans (k7.trans k8)
      refine ⟨_, rfl, [.w wSlide, .l (fn.ps.map .w)], aa_cons (by rw [lit_slide]; exact at_wi) (aa_cons (k48.at_ b2) aa_nil), zle (Nat.le_of_ble_eq_true rfl), fun p9 H9 k9 h9 => ?_⟩
      refine ⟨[_], aa_cons h9 aa_nil, zle (Nat.le_of_ble_eq_true rfl), fun p10 H10 k10 h10 => ?_⟩
      refine ⟨_, _, (k9.trans k10).at_ h8, h10, by rw [List.length_append, sizeLine_eq]; show 1 + _ + 1 ≤ _; omega, fun p11 H11 k11 h11 => ?_⟩
      refine ⟨[_], aa_cons h11 aa_nil, zle (Nat.le_of_ble_eq_true rfl), fun p12 H12 k12 h12 => ?_⟩
      have k412 := k48.trans (k9.trans (k10.trans (k11.trans k12)))
      refine ⟨_, _, k412.at_ hv1, h12, by rw [sizeLine_eq]; show _ + 1 ≤ _; omega, fun p13 H13 k13 h13 => ?_⟩
      have k413 := k412.trans k13
      refine ⟨_, rfl, _, rfl, _, rfl, [], aa_nil, zle (Nat.le_of_ble_eq_true rfl), fun p14 H14 k14 h14 => ⟨_, rfl, [.w fn.name], aa_cons at_wi aa_nil, zle (Nat.le_of_ble_eq_true rfl), fun p15 H15 k15 h15 => ?_⟩⟩
      have k145 := k14.trans k15
      refine ⟨y3, y2, _, _, fn.body, fn.ps, 0, [.w fn.name], arity fs, rfl, (k413.trans k145).at_ b3, (k413.trans k145).at_ b2, k15.at_ h14, h15, hfok.fit, arity_if fs, arity_le hok, hbz, hfok.pl, by omega, by show 1 + _ ≤ _; omega, fun v16 H16 k16 h16 => ?_⟩
      refine ⟨_, _, (k145.trans k16).at_ h13, h16, by rw [List.length_append, sizeLine_eq]; show _ + 1 + _ ≤ _; omega, fun p17 H17 k17 h17 => ?_⟩
      refine ⟨_, _, _, _, _, rfl, kA.trans ((k413.trans k145).trans (k16.trans k17)), ?_⟩
      rw [e10]
      have e11 : (fs.take i).flatMap fnMach ++ fnMach fn = (fs.take i).flatMap fnMach ++ [.l ([.w fn.name] ++ instrs fn.ps fn.body 0 [.w fn.name] ++ [.l [.w wSlide, .l (fn.ps.map .w)]])] ++ routs fn.ps fn.body 0 [.w fn.name] := by
        unfold fnMach
        rw [List.append_assoc]
        rfl
      rw [e11]
      exact h17
    · rintro σ Ha ⟨v1, v2, v3, v4, v5, rfl, kA, hv1⟩
      rw [hxl, List.take_length] at hv1
      exact ⟨_, rfl, q _ _ kA hv1⟩
end
end G
set_option maxRecDepth 100000
set_option maxHeartbeats 4000000
/-! F3d: with_texts, ring_across. -/
namespace G
open PySem PySem.Spec PyProof.Rows L2
def kindW (b : Bool) : Str := match b with
  | true => kw [109, 97, 99, 104, 105, 110, 101]
  | false => kw [112, 108, 97, 105, 110]
def kindsT (ks : List Bool) : T := .l ((ks.map kindW).map .w)
theorem lit_machine : ("machine" : Str) = kindW true := by decide +kernel
theorem lit_plain : ("plain" : Str) = kindW false := by decide +kernel
theorem kind_seq (b : Bool) : seq (kindW b) (kindW true) = b := by cases b <;> decide +kernel
theorem textFrom_snoc (tr : Str) : ∀ (k : Nat) (ks : List Bool) (b : Bool), textFrom tr k (ks ++ [b]) = textFrom tr k ks ++ textFrom tr (k + ks.length) [b]
  | k, [], b => rfl
  | k, c :: ks, b => by
    have ih := textFrom_snoc tr (k + 1) ks b
    have e : ∀ l, textFrom tr k (c :: l) = textFrom tr k [c] ++ textFrom tr (k + 1) l := fun _ => rfl
    have e2 := e (ks ++ [b])
    have e3 := e ks
    show textFrom tr k (c :: (ks ++ [b])) = textFrom tr k (c :: ks) ++ _
    rw [e2, ih, e3, List.length_cons, show k + 1 + ks.length = k + (ks.length + 1) by omega, List.append_assoc]
theorem textFrom_len (tr : Str) : ∀ (k : Nat) (ks : List Bool), (textFrom tr k ks).length = ks.length
  | k, [] => rfl
  | k, c :: ks => by
    show (textFrom tr (k + 1) ks).length + 1 = ks.length + 1
    rw [textFrom_len tr (k + 1) ks]
section
variable {P : Program} {w : World} {K : PySem.W.Frag} {mg : Str → Option Value} {base : Heap}
def sp_with_texts (K : PySem.W.Frag) : Sp := fun vs H Q _ => ∃ (a b : V) (p : List Fn) (ks : List Bool), vs = [a, b] ∧ At K H (progT p) a ∧ At K H (kindsT ks) b ∧ good p = true ∧ good translator = true ∧ 1 ≤ inputsOf p ∧ inputsOf p ≤ 100 ∧ ks.length ≤ 100 ∧ ans K (progT (withTexts p ks)) H Q
theorem sc_with_texts : FnScope ["program", "kinds", "inputs", "texts", "functions", "mains", "k", "kind", "text"] ["program", "kinds"] (defScope s_with_texts) := ⟨rfl, rfl, rfl, by decide +kernel, rfl, by decide +kernel, by decide +kernel⟩
theorem f_with_texts (T : Txt w K mg) : Clb P w K mg base "with_texts" 7 ["program", "kinds"] (sp_with_texts K) := by
  have F_joined : Clb P w K mg base "joined" 6 ["programs"] (sp_joined K) := f_joined T
  have F_translator : Clb P w K mg base "translator" 1 [] (sp_translator K) := f_translator T
  have F_made_parameters : Clb P w K mg base "made_parameters" 1 ["many"] (sp_made_parameters K) := f_made_parameters T
  have F_inputs_of : Clb P w K mg base "inputs_of" 5 ["program"] (sp_inputs_of K) := f_inputs_of T
  have F_tails : Clb P w K mg base "tails" 1 ["many", "expression"] (sp_tails K) := f_tails T
  have F_with_main : Clb P w K mg base "with_main" 2 ["functions", "parameters", "body"] (sp_with_main K) := f_with_main T
  have F_listed : Clb P w K mg base "listed" 2 ["parts"] (sp_listed K) := f_listed T
  refine T.d_with_texts.clb sc_with_texts (fun _ _ _ _ _ _ us hl => match us, hl with | [_, _], _ => rfl) (fun vs H Q E h => ?_) (fun f cdv A outer s H vs Q E hr h => ?_)
  · obtain ⟨_, _, _, _, rfl, _⟩ := h
    rfl
  · obtain ⟨a, b, p, ks, rfl, ha, hb, hg, hgt, hi1, hi2, hkl, q⟩ := h
    refine ⟨_, (pss_cons (ps_asg (pe_c F_joined (hr.mono (by decide)) (pa_cons (pe_lst (pa_cons (pe_c0 F_translator (hr.mono (by decide))) (pa_cons (pv 0) pa_nil))) pa_nil)) (pg_tupK K rfl 2 rfl (pgs_cons (pg_name (i := 4) sc_with_texts.nd rfl (Or.inl rfl)) (pgs_cons (pg_name (i := 5) sc_with_texts.nd rfl (Or.inl rfl)) pgs_nil))))
      (pss_cons (ps_set (i := 2) sc_with_texts.nd rfl (Or.inl rfl) (pe_c F_made_parameters (hr.mono (by decide)) (pa_cons (pe_c F_inputs_of (hr.mono (by decide)) (pa_cons (pv 0) pa_nil)) pa_nil)))
      (pss_cons (ps_set (i := 3) sc_with_texts.nd rfl (Or.inl rfl) (pe_lst pa_nil))
      (pss_cons (ps_for PassesOwn.never rfl (pi_enumT (by rfl) T.n_enumerate (pa_cons (pv 1) pa_nil)) (pg_tupK K rfl 2 rfl (pgs_cons (pg_name (i := 6) sc_with_texts.nd rfl (Or.inl rfl)) (pgs_cons (pg_name (i := 7) sc_with_texts.nd rfl (Or.inl rfl)) pgs_nil))) (pss_cons (ps_set (i := 8) sc_with_texts.nd rfl (Or.inl rfl) (pe_tupT (pa_cons pe_str (pa_cons (pe_c F_tails (hr.mono (by decide)) (pa_cons (pv 6) (pa_cons pe_str pa_nil))) pa_nil))))
      (pss_one (ps_expr (pe_bm PySem.F.plainAttrs_list PySem.F.slot_list_append PySem.F.type_list_append mt_append (pv 3) (pa_cons (pe_ifExp (pt_cmpR op_eq (pv 7) pe_str (nomark _)) (pe_tupT (pa_cons (pe_ix ix_list (pv 5) pe_int (fun _ _ => rfl)) (pa_cons (pv 8) pa_nil))) (pv 8)) pa_nil))))))
      (pss_one (ps_ret (pe_c F_with_main (hr.mono (by decide)) (pa_cons (pv 4) (pa_cons (pv 2) (pa_cons (pe_op op_catTr (pe_tupT (pa_cons (pe_ix ix_list (pv 5) pe_int (fun _ _ => rfl)) (pa_cons (pe_c F_listed (hr.mono (by decide)) (pa_cons (pv 3) pa_nil)) pa_nil))) (pe_slice sl_T (pv 2) (po_some pe_int) po_none)) pa_nil)))))))))), ?_⟩
    refine ⟨rfl, fun at_ hat => ⟨_, rfl, zle (Nat.le_of_ble_eq_true rfl), fun L hL => ?_⟩⟩
    have k1 : Sm H (upd H L (.lst [.ref at_, a])) := Kp.new hL
    have hl1 : (upd H L (.lst [.ref at_, a])) L = some (.lst [.ref at_, a]) := upd_same
    have hat1 := k1.at_ hat
    generalize upd H L (.lst [.ref at_, a]) = H1 at k1 hl1 hat1
    have h12 : [translator, p].length ≤ 12 := (Nat.le_of_ble_eq_true rfl)
    refine ⟨L, _, [translator, p], rfl, hl1, aa_cons hat1 (aa_cons (k1.at_ ha) aa_nil), fun q hq => (by
      rcases List.mem_cons.mp hq with e | hq
      · rw [e]
        exact hgt
      · rw [List.mem_singleton.mp hq]
        exact hg), h12, fun t fv m H2 k2 hX hf hM => ?_⟩
    have k12 := k1.trans k2
    have hjl : (joined [translator, p]).length ≤ 2000 := by
      have := joinedFrom_len [translator, p] [] (fun q hq => (by
        rcases List.mem_cons.mp hq with e | hq
        · rw [e]
          exact hgt
        · rw [List.mem_singleton.mp hq]
          exact hg))
      exact this
    refine ⟨t, _, rfl, hX.sq, rfl, _, _, rfl, _, _, rfl, rfl, ?_⟩
    refine ⟨_, rfl, a, p, rfl, k12.at_ ha, hg, fun H3 k3 => ⟨inputsOf p, rfl, by omega, fun v4 H4 k4 h4 => ?_⟩⟩
    have h4 : At K H4 (.l ((xns (inputsOf p)).map .w)) v4 := h4
    have k34 := k3.trans k4
    have k14 := k12.trans k34
    refine ⟨zle (Nat.le_of_ble_eq_true rfl), fun X hX0 => ?_⟩
    have k5 : Sm H4 (upd H4 X (.lst [])) := Kp.new hX0
    have hx5 : (upd H4 X (.lst [])) X = some (.lst []) := upd_same
    have hXH := k14.none hX0
    have h45 := k5.at_ h4
    have hf5 := k5.at_ (k34.at_ hf)
    have hM5 := k5 _ _ (k34 _ _ hM (.inl (by simp))) (.inl (by simp))
    have hXm : X ≠ m := by
      rintro rfl
      rw [k34 _ _ hM (.inl (by simp))] at hX0
      cases hX0
    have k15 := k14.trans k5
    generalize upd H4 X (.lst []) = H5 at hx5 h45 hf5 hM5 k15
    obtain ⟨pb, xs, rfl, hXb, hAb⟩ := id (k15.at_ hb)
    obtain rfl := aa_words hAb
    have hxl : ((ks.map kindW).map V.str).length = ks.length := by rw [List.length_map, List.length_map]
    refine ⟨_, rfl, pb, _, rfl, hXb.sq, for_it walk_enumT (fun i σ H' => ∃ v6 v7 v8 acc, σ = [some a, some (.ref pb), some v4, some (.ref X), some fv, some (.ref m), v6, v7, v8] ∧ Kp [X] H5 H' ∧ Sm H H' ∧ H' X = some (.lst acc) ∧ AtAll K H' ((textFrom (mn 0) 0 (ks.take i)).map Xp.t) acc) ⟨none, none, none, [], rfl, Kp.refl, k15, hx5, aa_nil⟩ (fun i σ H' _ ⟨_, _, _, _, _, k, _⟩ => (k.xt hXb).sq) ?_ ?_⟩
    · rintro i x σ Ha Hb hi ⟨v6, v7, v8, acc, rfl, kL, kS, hacc, aacc⟩ ⟨tp, x1, x2, rfl, htp, rfl, e1, e2⟩
      cases e1
      rw [hxl] at hi
      have e2 : ((ks.map kindW).map V.str)[i]? = some x2 := e2
      rw [List.getElem?_map, List.getElem?_map, List.getElem?_eq_getElem hi] at e2
      cases e2
      have k6 : Sm Ha (upd Ha tp (.tup [.int (i : Nat), .str (kindW ks[i])])) := Kp.new htp
      have kL6 := kL.trans k6.nil
      have kS6 := kS.trans k6
      have hacc6 := k6 _ _ hacc (.inl (by simp))
      have aacc6 := k6.aa aacc
      refine ⟨tp, _, rfl, st_tup upd_same, rfl, _, _, rfl, _, _, rfl, rfl, ?_⟩
      show tSeq _ _ _ _ (upd Ha tp (.tup [.int (i : Nat), .str (kindW ks[i])]))
      generalize upd Ha tp (.tup [.int (i : Nat), .str (kindW ks[i])]) = Hc at kL6 kS6 hacc6 aacc6
      refine ⟨_, rfl, i, _, .v (xn 0), rfl, by rw [show ("x1" : Str) = xn 0 by decide +kernel]; exact at_wi, by omega, fun v7 H7 k7 h7 => ?_⟩
      refine ⟨[.w wHead, _], aa_cons (by rw [lit_head]; exact at_wi) (aa_cons h7 aa_nil), zle (Nat.le_of_ble_eq_true rfl), fun p8 H8 k8 h8 => ?_⟩
      have k78 := k7.trans k8
      have kL8 := kL6.trans k78.nil
      have kS8 := kS6.trans k78
      have hacc8 := k78 _ _ hacc6 (.inl (by simp))
      have aacc8 := k78.aa aacc6
      have hla := aa_len aacc8
      rw [List.length_map, textFrom_len, List.length_take] at hla
      have e9 : ks.take (i + 1) = ks.take i ++ [ks[i]] := by
        rw [List.take_add_one, List.getElem?_eq_getElem hi]
        rfl
      have hmi : 0 + (ks.take i).length = i := by rw [List.length_take]; omega
      refine ⟨_, rfl, tyL hacc8, _, rfl, rfl, _, rfl, ?_⟩
      rw [dec_ss, lit_machine, kind_seq]
      cases hb9 : ks[i] with
      | true =>
        refine iteT ⟨_, rfl, m, _, 0, .str (mn 0), rfl, rfl, sq_lst (kL8 _ _ hM5 (.inl (by simp [Ne.symm hXm]))), rfl, _, rfl, [.w (mn 0), _], aa_cons at_wi (aa_cons h8 aa_nil), zle (Nat.le_of_ble_eq_true rfl), fun p9 H9 k9 h9 => ?_⟩
        have hacc9 := k9 _ _ hacc8 (.inl (by simp))
        refine ⟨X, acc, .ref p9, rfl, rfl, hacc9, by rw [sizeLine_eq]; omega, ?_⟩
        have k10 : Kp [X] H9 (upd H9 X (.lst (acc ++ [.ref p9]))) := Kp.own hacc9
        refine ⟨_, _, _, _, rfl, (kL8.trans k9.nil).trans k10, (kS8.trans k9).set hXH, upd_same, ?_⟩
        rw [e9, textFrom_snoc, hmi, List.map_append, hb9]
        exact aa_snocI (k10.aa (k9.aa aacc8)) (k10.at_ h9)
      | false =>
        refine iteF ⟨_, rfl, X, acc, .ref p8, rfl, rfl, hacc8, by rw [sizeLine_eq]; omega, ?_⟩
        have k10 : Kp [X] H8 (upd H8 X (.lst (acc ++ [.ref p8]))) := Kp.own hacc8
        refine ⟨_, _, _, _, rfl, kL8.trans k10, kS8.set hXH, upd_same, ?_⟩
        rw [e9, textFrom_snoc, hmi, List.map_append, hb9]
        exact aa_snocI (k10.aa aacc8) (k10.at_ h8)
    · rintro σ H6 ⟨v6, v7, v8, acc, rfl, kL, kS, hacc, aacc⟩
      rw [hxl, List.take_length] at aacc
      have hM6 := kL _ _ hM5 (.inl (by simp [Ne.symm hXm]))
      refine ⟨_, rfl, _, rfl, _, rfl, m, _, 1, .str (mn translator.length), rfl, rfl, sq_lst hM6, rfl, _, rfl, X, acc, _, rfl, hacc, aacc, fun v7 H7 k7 h7 => ?_⟩
      refine ⟨[.w (mn translator.length), _], aa_cons at_wi (aa_cons h7 aa_nil), zle (Nat.le_of_ble_eq_true rfl), fun p8 H8 k8 h8 => ?_⟩
      have k78 := k7.trans k8
      refine ⟨_, rfl, _, rfl, _, k78.at_ (kL.at_ h45), .inl ⟨1, rfl, rfl, Nat.le_refl 1, by rw [List.length_map, xns_len]; omega, fun p9 H9 k9 h9 => ?_⟩⟩
      rw [← List.map_drop] at h9
      refine ⟨_, _, k9.at_ h8, h9, by rw [List.length_map, List.length_drop, xns_len, sizeLine_eq]; show 2 + _ ≤ _; omega, fun p10 H10 k10 h10 => ?_⟩
      have k710 := k78.trans (k9.trans k10)
      refine ⟨_, _, _, joined [translator, p], xns (inputsOf p), .n (mn translator.length) (listed (textFrom (mn 0) 0 ks) :: vs ((xns (inputsOf p)).drop 1)), rfl, k710.at_ (kL.at_ hf5), k710.at_ (kL.at_ h45), ?_, by omega, fun v11 H11 k11 h11 => ?_⟩
      · show At K H10 (.l (.w (mn translator.length) :: (listed (textFrom (mn 0) 0 ks)).t :: Xp.ts (vs ((xns (inputsOf p)).drop 1)))) _
        rw [vs_ts]
        exact h10
      · exact q _ _ (kS.trans (k710.trans k11)) h11
/-! ### ring_across -/
def acr (b : Bool) (q : List Fn) : T := match b with
  | true => toMachine q
  | false => progT q
theorem across_get {ps : List (List Fn)} {ks : List Bool} {i : Nat} {pr : List Fn} {b : Bool} (h1 : (acrossRing ps ks)[i]? = some pr) (h2 : ks[i]? = some b) : (across ps ks)[i]? = some (acr b pr) := by
  unfold across
  rw [List.getElem?_map, show ((acrossRing ps ks).zip ks)[i]? = some (pr, b) from List.getElem?_zip_eq_some.mpr ⟨h1, h2⟩]
  rfl
structure AcrossOk (ps : List (List Fn)) (ks : List Bool) (many : Nat) : Prop where
  gs : ∀ q ∈ ps, good q = true
  gt : good translator = true
  n1 : 1 ≤ ps.length
  n6 : ps.length ≤ 6
  kl : ks.length = ps.length
  ins : ∀ q ∈ ps, inputsOf q = many + 1
  m7 : many ≤ 7
  ro : RingOk (ps.map fun p => withTexts p ks) many
  gr : ∀ q ∈ acrossRing ps ks, good q = true ∧ (q.flatMap fnMach).length ≤ 1000000
def sp_ring_across (K : PySem.W.Frag) : Sp := fun vs H Q _ => ∃ p xs v, ∃ (ps : List (List Fn)) (ks : List Bool) (many : Nat), vs = [.ref p, v] ∧ H p = some (.lst xs) ∧ AtAll K H (ps.map progT) xs ∧ At K H (kindsT ks) v ∧ AcrossOk ps ks many ∧
  ∀ r us H', Sm H H' → H' r = some (.lst us) → AtAll K H' (across ps ks) us → Q (.ref r) H'
theorem sc_ring_across : FnScope ["programs", "kinds", "program", "many", "made", "kind", "one"] ["programs", "kinds"] (defScope s_ring_across) := ⟨rfl, rfl, rfl, by decide +kernel, rfl, by decide +kernel, by decide +kernel⟩
theorem ring_len (ps : List (List Fn)) : (ring ps).length = ps.length := by
  unfold ring
  rw [List.length_map, List.length_range]
theorem f_ring_across (T : Txt w K mg) : Clb P w K mg base "ring_across" 9 ["programs", "kinds"] (sp_ring_across K) := by
  have F_check_program : Clb P w K mg base "check_program" 4 ["value"] (sp_check_program K) := f_check_program T
  have F_inputs_of : Clb P w K mg base "inputs_of" 5 ["program"] (sp_inputs_of K) := f_inputs_of T
  have F_with_texts : Clb P w K mg base "with_texts" 7 ["program", "kinds"] (sp_with_texts K) := f_with_texts T
  have F_ring : Clb P w K mg base "ring" 8 ["programs"] (sp_ring K) := f_ring T
  have F_to_machine : Clb P w K mg base "to_machine" 5 ["program"] (sp_to_machine K) := f_to_machine T
  refine T.d_ring_across.clb sc_ring_across (fun _ _ _ _ _ _ us hl => match us, hl with | [_, _], _ => rfl) (fun vs H Q E h => ?_) (fun f cdv A outer s H vs Q E hr h => ?_)
  · obtain ⟨_, _, _, _, _, _, rfl, _⟩ := h
    rfl
  · obtain ⟨p, xs, v, ps, ks, many, rfl, hp, hA, hv, ok, q⟩ := h
    refine ⟨_, (pss_cons (ps_for PassesOwn.never rfl (pi_list (pv 0)) (pg_name (i := 2) sc_ring_across.nd rfl (Or.inl rfl)) (pss_one (ps_expr (pe_c F_check_program (hr.mono (by decide)) (pa_cons (pv 2) pa_nil)))))
      (pss_cons (ps_if (PW.pt (pw_or (pt_not (pt_chain op_le op_le pe_int (pe_callB call_len_seq (by rfl) T.n_len PySem.boot_len (pa_cons (pv 0) pa_nil)) pe_int)) (pw_or1 (pt_cmpR op_ne (pe_callB call_lenT (by rfl) T.n_len PySem.boot_len (pa_cons (pv 1) pa_nil)) (pe_callB call_len_seq (by rfl) T.n_len PySem.boot_len (pa_cons (pv 0) pa_nil)) (nomark _))))) (pss_one ps_never) pss_nil)
      (pss_cons (ps_set (i := 3) sc_ring_across.nd rfl (Or.inl rfl) (pe_c F_inputs_of (hr.mono (by decide)) (pa_cons (pe_ix ix_list (pv 0) pe_int (fun _ _ => rfl)) pa_nil)))
      (pss_cons (ps_for PassesOwn.never rfl (pi_zipM (by rfl) T.n_zip (pa_cons (pv 0) (pa_cons (pv 1) pa_nil))) (pg_tupK K rfl 2 rfl (pgs_cons (pg_name (i := 2) sc_ring_across.nd rfl (Or.inl rfl)) (pgs_cons (pg_name (i := 5) sc_ring_across.nd rfl (Or.inl rfl)) pgs_nil))) (pss_one (ps_if (PW.pt (pw_or (pt_cmpR op_ne (pe_c F_inputs_of (hr.mono (by decide)) (pa_cons (pv 2) pa_nil)) (pv 3) (nomark _)) (pw_or (pt_not (pt_chain op_le op_le pe_int (pv 3) (pe_gi T.c_MOST_INPUTS))) (pw_or1 (pt_cmpR op_notIn_seq (pv 5) (pe_tupT (pa_cons pe_str (pa_cons pe_str pa_nil))) (by rfl)))))) (pss_one ps_never) pss_nil)))
      (pss_cons (ps_set (i := 4) sc_ring_across.nd rfl (Or.inl rfl) (pe_c F_ring (hr.mono (by decide)) (pa_cons (pe_lc (own := [("program", 2)]) rfl sc_ring_across.nd (pi_list (pv 0)) (blkOk_by (N := ["programs", "kinds", "program", "many", "made", "kind", "one"]) (sc := defScope s_ring_across) (by decide +kernel)) (fun _ _ _ _ _ => (pg_name (i := 2) sc_ring_across.nd rfl (Or.inl rfl))) (fun _ _ _ _ _ => pts_nil) (fun _ _ _ _ _ => (pe_c F_with_texts (hr.mono (by decide)) (pa_cons (pv 2) (pa_cons (pv 1) pa_nil))))) pa_nil)))
      (pss_one (ps_ret (pe_lc (own := [("one", 6), ("kind", 5)]) rfl sc_ring_across.nd (pi_zipM (by rfl) T.n_zip (pa_cons (pv 4) (pa_cons (pv 1) pa_nil))) (blkOk_by (N := ["programs", "kinds", "program", "many", "made", "kind", "one"]) (sc := defScope s_ring_across) (by decide +kernel)) (fun _ _ _ _ _ => (pg_tupK K rfl 2 rfl (pgs_cons (pg_name (i := 6) sc_ring_across.nd rfl (Or.inl rfl)) (pgs_cons (pg_name (i := 5) sc_ring_across.nd rfl (Or.inl rfl)) pgs_nil)))) (fun _ _ _ _ _ => pts_nil) (fun _ _ _ _ _ => (pe_ifExp (pt_cmpR op_eq (pv 5) pe_str (nomark _)) (pe_c F_to_machine (hr.mono (by decide)) (pa_cons (pv 6) pa_nil)) (pv 6))))))))))), ?_⟩
    have hxl : xs.length = ps.length := by rw [aa_len hA, List.length_map]
    have n1 := ok.n1
    have n6 := ok.n6
    have m7 := ok.m7
    have hkl := ok.kl
    refine ⟨_, rfl, p, rfl, ⟨xs, sq_lst hp⟩, for_list (K := K) (a := p) (xs := xs) (fun i σ H' => ∃ v2, σ = [some (.ref p), some v, v2, none, none, none, none] ∧ Sm H H') ⟨none, rfl, Kp.refl⟩ (fun i σ H' _ ⟨_, _, k⟩ => sq_lst (k _ _ hp (.inl (by simp)))) ?_ ?_⟩
    · rintro i x σ Ha hi ⟨v1, rfl, k⟩
      obtain ⟨pr, hpr, hAt⟩ := aa_progs hA hi
      exact ⟨_, rfl, x, pr, rfl, k.at_ hAt, ok.gs pr (List.mem_of_getElem? hpr), fun H2 k2 => ⟨_, rfl, k.trans k2⟩⟩
    rintro σ H1 ⟨v1, rfl, k1⟩
    have hp1 := k1 _ _ hp (.inl (by simp))
    refine ⟨_, rfl, p, xs, rfl, .inl (sq_lst hp1), _, _, rfl, rfl, ?_⟩
    rw [hxl]
    have c1 : decide ((1 : Int) ≤ ((ps.length : Nat) : Int)) = true := decide_eq_true (by omega)
    have c2 : decide (((ps.length : Nat) : Int) ≤ 6) = true := decide_eq_true (by omega)
    refine ⟨true, congrArg V.bl c1, iteT ⟨_, _, rfl, rfl, true, congrArg V.bl c2, iteF ?_⟩⟩
    refine ⟨_, rfl, v, _, rfl, k1.at_ hv, _, rfl, p, xs, rfl, .inl (sq_lst hp1), rfl, false, ?_, iteF ?_⟩
    · rw [hxl, List.length_map, List.length_map, hkl]
      simp
    obtain ⟨p0, pr, hps⟩ : ∃ p0 pr, ps = p0 :: pr := by
      cases ps with
      | nil => exact absurd n1 (by decide)
      | cons a b => exact ⟨a, b, rfl⟩
    have hp0 : ps[0]? = some p0 := by rw [hps]; rfl
    obtain ⟨x0, hx0, hA0⟩ := aa_get hA (show (ps.map progT)[0]? = some (progT p0) by rw [List.getElem?_map, hp0]; rfl)
    have hi0 := ok.ins p0 (List.mem_of_getElem? hp0)
    refine ⟨_, rfl, p, xs, 0, x0, rfl, rfl, sq_lst hp1, atI_nat (j := 0) hx0, _, p0, rfl, k1.at_ hA0, ok.gs p0 (List.mem_of_getElem? hp0), fun H2 k2 => ?_⟩
    rw [hi0]
    have k2 := k1.trans k2
    have hp2 := k2 _ _ hp (.inl (by simp))
    obtain ⟨pk, kxs, rfl, hXk, hAk⟩ := id hv
    obtain rfl := aa_words hAk
    have hkxl : ((ks.map kindW).map V.str).length = ks.length := by rw [List.length_map, List.length_map]
    have hkat : ∀ (i : Nat) (x : V), ((ks.map kindW).map V.str)[i]? = some x → ∃ b, ks[i]? = some b ∧ x = V.str (kindW b) := fun i x hx => by
      rw [List.getElem?_map, List.getElem?_map] at hx
      cases z : ks[i]? with
      | none =>
        rw [z] at hx
        cases hx
      | some b =>
        rw [z] at hx
        cases hx
        exact ⟨b, rfl, rfl⟩
    refine ⟨_, rfl, _, rfl, p, pk, xs, _, rfl, sq_lst hp2, (k2.xt hXk).sq, for_it (walk_zipM (K := K) (xs := xs) (ys := (ks.map kindW).map V.str) (by omega)) (fun i σ H' => ∃ v2 v5, σ = [some (.ref p), some (.ref pk), v2, some (.int ((many + 1 : Nat) : Int)), none, v5, none] ∧ Sm H H') ⟨_, none, rfl, k2⟩ (fun i σ H' _ ⟨_, _, _, k⟩ => ⟨sq_lst (k _ _ hp (.inl (by simp))), (k.xt hXk).sq⟩) ?_ ?_⟩
    · rintro i x σ Ha Hb hi ⟨v2, v5, rfl, k⟩ ⟨tp, x1, x2, rfl, htp, rfl, e1, e2⟩
      obtain ⟨pr, hpr, hAt⟩ := aa_progs hA e1
      obtain ⟨b, hb, rfl⟩ := hkat i x2 e2
      have k6 : Sm H (upd Ha tp (.tup [x1, .str (kindW b)])) := k.set (k.none htp)
      refine ⟨tp, _, rfl, st_tup upd_same, rfl, _, _, rfl, _, _, rfl, rfl, ?_⟩
      refine ⟨_, rfl, x1, pr, rfl, k6.at_ hAt, ok.gs pr (List.mem_of_getElem? hpr), fun H3 k3 => ?_⟩
      rw [ok.ins pr (List.mem_of_getElem? hpr)]
      refine ⟨_, rfl, rfl, false, by simp, iteF ?_⟩
      have d1 : decide ((1 : Int) ≤ ((many + 1 : Nat) : Int)) = true := decide_eq_true (by omega)
      have d2 : decide (((many + 1 : Nat) : Int) ≤ 8) = true := decide_eq_true (by omega)
      refine ⟨_, rfl, _, _, rfl, rfl, true, congrArg V.bl d1, iteT ⟨_, _, rfl, rfl, true, congrArg V.bl d2, iteF ?_⟩⟩
      refine ⟨_, rfl, [.w (kindW false), .w (kindW true)], aa_cons (by rw [lit_plain]; exact at_wi) (aa_cons (by rw [lit_machine]; exact at_wi) aa_nil), zle (Nat.le_of_ble_eq_true rfl), fun p4 H4 k4 h4 => ?_⟩
      obtain ⟨p4', xs4, e4, hX4, hA4⟩ := id h4
      cases e4
      obtain rfl := aa_words (ss := [kindW false, kindW true]) hA4
      refine ⟨p4, _, rfl, .inr hX4.sq, rfl, flatV_strs [kindW false, kindW true], false, ?_, iteF ?_⟩
      · have : inV (V.str (kindW b)) ([kindW false, kindW true].map V.str) = true := by
          rw [inV_strs]
          cases b <;> decide +kernel
        rw [this]
        rfl
      · exact ⟨_, _, rfl, (k6.trans k3).trans k4⟩
    rintro σ H3 ⟨v2, v5, rfl, k3⟩
    have hp3 := k3 _ _ hp (.inl (by simp))
    refine ⟨_, rfl, p, rfl, ⟨xs, sq_lst hp3⟩, fun D hD => lc_y walk_list (fun i H' => Sm H3 H' ∧ ∃ acc, H' D = some (.lst acc) ∧ AtAll K H' (((ps.take i).map fun q => withTexts q ks).map progT) acc) ⟨Kp.new hD, [], upd_same, aa_nil⟩ (fun i H' _ ⟨k, _⟩ => sq_lst (k _ _ hp3 (.inl (by simp)))) ?_ ?_⟩
    · rintro i x Ha Hb hi ⟨k7, acc, hacc, aacc⟩ ⟨rfl, hx⟩
      obtain ⟨pr, hpr, hAt⟩ := aa_progs hA hx
      have hm := List.mem_of_getElem? hpr
      have k37 := k3.trans k7
      refine ⟨rfl, _, rfl, _, rfl, x, .ref pk, pr, ks, rfl, k37.at_ hAt, k37.at_ hv, ok.gs pr hm, ok.gt, by rw [ok.ins pr hm]; omega, by rw [ok.ins pr hm]; omega, by omega, fun v8 H8 k8 h8 => ?_⟩
      have hacc8 := k8 _ _ hacc (.inl (by simp))
      have hla := aa_len aacc
      rw [List.length_map, List.length_map, List.length_take] at hla
      have k11 : Kp [D] H8 (upd H8 D (.lst (acc ++ [v8]))) := Kp.own hacc8
      refine ⟨acc, hacc8, by rw [sizeLine_eq]; omega, (k7.trans k8).set hD, _, upd_same, ?_⟩
      have e9 : ps.take (i + 1) = ps.take i ++ [pr] := by
        rw [List.take_add_one, hpr]
        rfl
      rw [e9, List.map_append, List.map_append]
      exact aa_snocI (k11.aa (k8.aa aacc)) (k11.at_ h8)
    rintro H4 ⟨k4, acc, hacc, aacc⟩
    rw [hxl, List.take_length] at aacc
    have k34 := k3.trans k4
    refine ⟨D, acc, ps.map fun q => withTexts q ks, many, rfl, hacc, aacc, ok.ro, fun M ms H5 k5 hM aM => ?_⟩
    have k35 := k34.trans k5
    have hml : ms.length = ps.length := by
      rw [aa_len aM, List.length_map, ring_len, List.length_map]
    have aM : AtAll K H5 ((acrossRing ps ks).map progT) ms := aM
    refine ⟨_, rfl, _, rfl, M, pk, ms, _, rfl, sq_lst hM, (k35.xt hXk).sq, fun R hR => lc_y (walk_zipM (K := K) (xs := ms) (ys := (ks.map kindW).map V.str) (by omega)) (fun i H' => Sm H5 H' ∧ ∃ acc, H' R = some (.lst acc) ∧ AtAll K H' ((across ps ks).take i) acc) ⟨Kp.new hR, [], upd_same, aa_nil⟩ (fun i H' _ ⟨k, _⟩ => ⟨sq_lst (k _ _ hM (.inl (by simp))), ((k35.trans k).xt hXk).sq⟩) ?_ ?_⟩
    · rintro i x Ha Hb hi ⟨k7, acc, hacc, aacc⟩ ⟨tp, x1, x2, rfl, htp, rfl, e1, e2⟩
      obtain ⟨pr, hpr, hAt⟩ := aa_progs aM e1
      obtain ⟨b, hb, rfl⟩ := hkat i x2 e2
      have hgr := ok.gr pr (List.mem_of_getElem? hpr)
      have k8 : Sm Ha (upd Ha tp (.tup [x1, .str (kindW b)])) := Kp.new htp
      have k78 := k7.trans k8
      have hacc8 := k8 _ _ hacc (.inl (by simp))
      have aacc8 := k8.aa aacc
      have hla := aa_len aacc
      rw [List.length_take] at hla
      have hAt8 := k78.at_ hAt
      have hacr := across_get hpr hb
      have e9 : (across ps ks).take (i + 1) = (across ps ks).take i ++ [acr b pr] := by
        rw [List.take_add_one, hacr]
        rfl
      refine ⟨tp, _, rfl, st_tup upd_same, rfl, _, _, rfl, _, _, rfl, rfl, rfl, ?_⟩
      refine ⟨_, rfl, rfl, _, rfl, ?_⟩
      rw [dec_ss, lit_machine, kind_seq]
      cases b with
      | true =>
        refine iteT ⟨_, rfl, x1, pr, rfl, hAt8, hgr.1, hgr.2, fun v9 H9 k9 h9 => ?_⟩
        have hacc9 := k9 _ _ hacc8 (.inl (by simp))
        have k11 : Kp [R] H9 (upd H9 R (.lst (acc ++ [v9]))) := Kp.own hacc9
        refine ⟨acc, hacc9, by rw [sizeLine_eq]; omega, (k78.trans k9).set hR, _, upd_same, ?_⟩
        rw [e9]
        exact aa_snocI (k11.aa (k9.aa aacc8)) (k11.at_ h9)
      | false =>
        refine iteF ⟨_, rfl, ?_⟩
        have k11 : Kp [R] (upd Ha tp (.tup [x1, .str (kindW false)])) (upd (upd Ha tp (.tup [x1, .str (kindW false)])) R (.lst (acc ++ [x1]))) := Kp.own hacc8
        refine ⟨acc, hacc8, by rw [sizeLine_eq]; omega, k78.set hR, _, upd_same, ?_⟩
        rw [e9]
        exact aa_snocI (k11.aa aacc8) (k11.at_ hAt8)
    rintro H6 ⟨k6, acc, hacc, aacc⟩
    have hal : (across ps ks).length = ms.length := by
      unfold across acrossRing
      rw [List.length_map, List.length_zip, ring_len, List.length_map, hkl, hml]
      omega
    rw [← hal, List.take_length] at aacc
    exact q R acc H6 (k35.trans k6) hacc aacc
end
end G
set_option maxRecDepth 100000
set_option maxHeartbeats 4000000
/-! F4a: the store. -/
namespace G
open PySem PySem.Spec PyProof.Rows L2
/-- the addresses of a store -/
structure SA where
  a : Addr
  ea : Addr
  na : Addr
  sa : Addr
  da : Addr
def SA.F (A : SA) : List Addr := [A.ea, A.na, A.sa, A.da]
/-- the key of a tree -/
def KeyT (S : List T) : NK → T → Prop
  | .inl s, t => t = .w s
  | .inr p, t => ∃ (x : T) (xs : List T) (i j : Nat), p = ((i : Int), (j : Int)) ∧ S[i]? = some x ∧ S[j]? = some (.l xs) ∧ t = .l (x :: xs)
def szV (t : T) : V := .int ((min t.parts 200001 : Nat) : Int)
def dpV (t : T) : V := .int ((min t.depth 201 : Nat) : Int)
structure NoM (fs : List (Str × V)) : Prop where
  m_number_of : fs.lookup ("number_of" : Str) = none
  m_is_word : fs.lookup ("is_word" : Str) = none
  m_first : fs.lookup ("first" : Str) = none
  m_rest : fs.lookup ("rest" : Str) = none
  m_pair_up : fs.lookup ("pair_up" : Str) = none
  m_put : fs.lookup ("put" : Str) = none
  m_items_of : fs.lookup ("items_of" : Str) = none
  m_value_of : fs.lookup ("value_of" : Str) = none
structure StoreB (P : Program) (w : World) (K : PySem.W.Frag) (H : Hp) (A : SA) (S : List T) (ents : List V) (ks : List (NK × V)) : Prop where
  ob : ∃ dx fs, H A.a = some (.ins (C_Store K) dx fs) ∧ fs.lookup ("entries" : Str) = some (.ref A.ea) ∧ fs.lookup ("numbers" : Str) = some (.ref A.na) ∧ fs.lookup ("sizes" : Str) = some (.ref A.sa) ∧ fs.lookup ("depths" : Str) = some (.ref A.da) ∧ NoM fs
  e : H A.ea = some (.lst ents)
  n : H A.na = some (numO P w A.na ks)
  ns : (A.na == sysModules) = false
  s : H A.sa = some (.lst (S.map szV))
  d : H A.da = some (.lst (S.map dpV))
  el : ents.length = S.length
  kl : ks.length + 1 = S.length
  nk : NKeys H ks
  nd : ∀ (i j : Nat) (t : T), S[i]? = some t → S[j]? = some t → i = j
  z : S[0]? = some (.l [])
  e0 : ∃ p0, ents[0]? = some (.ref p0) ∧ XT K H p0 []
  k : ∀ (i : Nat) (k : NK) (v : V), ks[i]? = some (k, v) → ents[i + 1]? = some v ∧ ∃ t, S[i + 1]? = some t ∧ KeyT S k t
  lt : ∀ (i a b : Nat) (v : V), ks[i]? = some (Sum.inr ((a : Int), (b : Int)), v) → a < i + 1 ∧ b < i + 1
  ne : A.ea ≠ A.na ∧ A.ea ≠ A.sa ∧ A.ea ≠ A.da ∧ A.na ≠ A.sa ∧ A.na ≠ A.da ∧ A.sa ≠ A.da
def StoreAt (P : Program) (w : World) (K : PySem.W.Frag) (H : Hp) (A : SA) (S : List T) : Prop := ∃ ents ks, StoreB P w K H A S ents ks
section
variable {P : Program} {w : World} {K : PySem.W.Frag} {H H' : Hp} {A : SA} {S : List T}
theorem nkV.kp {F : List Addr} (k : Kp F H H') {q : NK} {v : V} (h : nkV H q v) : nkV H' q v := by
  cases q with
  | inl s => exact h
  | inr p =>
    obtain ⟨q, e, h⟩ := h
    exact ⟨q, e, k.tup h⟩
theorem NKeys.kp {F : List Addr} (k : Kp F H H') {ks : List (NK × V)} (h : NKeys H ks) : NKeys H' ks := ⟨fun p hp => nkV.kp k (h.1 p hp), h.2⟩
theorem StoreAt.kp {F : List Addr} (k : Kp F H H') (hF : ∀ b ∈ F, b ≠ A.a ∧ b ∉ A.F) (h : StoreAt P w K H A S) : StoreAt P w K H' A S := by
  obtain ⟨ents, ks, h⟩ := h
  obtain ⟨dx, fs, h1, h2⟩ := h.ob
  have nm : ∀ b ∈ A.F, b ∉ F := fun b hb hf => (hF b hf).2 hb
  obtain ⟨p0, e1, e2⟩ := h.e0
  refine ⟨ents, ks, ⟨dx, fs, k.keep h1 (fun hf => (hF _ hf).1 rfl), h2⟩, k.keep h.e (nm _ (by simp [SA.F])), k.keep h.n (nm _ (by simp [SA.F])), h.ns, k.keep h.s (nm _ (by simp [SA.F])), k.keep h.d (nm _ (by simp [SA.F])), h.el, h.kl, h.nk.kp k, h.nd, h.z, ⟨p0, e1, k.xt e2⟩, h.k, h.lt, h.ne⟩
theorem StoreAt.sm (k : Sm H H') (h : StoreAt P w K H A S) : StoreAt P w K H' A S := h.kp k (fun b hb => by cases hb)
end
/-! isinstance of an entry -/
def IsEnt (K : PySem.W.Frag) (H : Hp) (v : V) (b : Bool) : Prop := match b with
  | true => ∃ s, v = .str s
  | false => (∃ q xs, v = .ref q ∧ H q = some (.tup xs)) ∨ (∃ p0, v = .ref p0 ∧ XT K H p0 [])
def rIsV (K : PySem.W.Frag) : List V → Hp → VK → Prop := fun xs H Q => ∃ x b, xs = [x, .ty "str"] ∧ IsEnt K H x b ∧ Q (.bl b) H
section
variable {X : Cx}
theorem call_isV : CallR X (.builtin "isinstance") (rIsV X.K) := CallR.imp call_isi fun xs H Q ⟨x, b, e, h, q⟩ => by
  cases b with
  | true =>
    obtain ⟨s, rfl⟩ := h
    exact ⟨_, .ty "str", _, _, true, e, .ty "str", .base (.str s), kit_str, q⟩
  | false =>
    rcases h with ⟨p, ys, rfl, h⟩ | ⟨p, rfl, h⟩
    · exact ⟨_, .ty "str", _, _, false, e, .ty "str", .base (.tup h), kit_tup, q⟩
    · exact ⟨_, .ty "str", _, _, false, e, .ty "str", at_ty (t := .l []) (at_li h aa_nil), kit_tup, q⟩
end
theorem StoreB.ent {P : Program} {w : World} {K : PySem.W.Frag} {H : Hp} {A : SA} {S : List T} {ents : List V} {ks : List (NK × V)} (h : StoreB P w K H A S ents ks) {n : Nat} {t : T} (ht : S[n]? = some t) : ∃ v, ents[n]? = some v ∧ IsEnt K H v t.isW ∧
    (∀ s, t = .w s → v = .str s) ∧ ∀ x xs, t = .l (x :: xs) → ∃ q a b, v = .ref q ∧ H q = some (.tup [.int ((a : Nat) : Int), .int ((b : Nat) : Int)]) ∧ S[a]? = some x ∧ S[b]? = some (.l xs) ∧ a < n ∧ b < n := by
  cases n with
  | zero =>
    have hz := h.z
    rw [ht] at hz
    cases hz
    obtain ⟨p0, e1, e2⟩ := h.e0
    exact ⟨_, e1, .inr ⟨p0, rfl, e2⟩, (fun s z => by cases z), (fun x xs z => by cases z)⟩
  | succ i =>
    have hi : i < ks.length := by
      have := (List.getElem?_eq_some_iff.mp ht).1
      have := h.kl
      omega
    obtain ⟨k, v, hkv⟩ : ∃ k v, ks[i]? = some (k, v) := ⟨ks[i].1, ks[i].2, List.getElem?_eq_getElem hi⟩
    obtain ⟨hv, t', ht', hk⟩ := h.k i k v hkv
    rw [ht] at ht'
    cases ht'
    have hnk := h.nk.1 (k, v) (List.mem_of_getElem? hkv)
    refine ⟨v, hv, ?_⟩
    cases k with
    | inl s =>
      obtain rfl : t = .w s := hk
      obtain rfl : v = .str s := hnk
      exact ⟨⟨s, rfl⟩, (fun s' z => by cases z; rfl), (fun x xs z => by cases z)⟩
    | inr p =>
      obtain ⟨x, xs, a, b, rfl, h1, h2, rfl⟩ := hk
      obtain ⟨q, rfl, h3⟩ := hnk
      obtain ⟨l1, l2⟩ := h.lt i a b _ hkv
      exact ⟨.inl ⟨q, _, rfl, h3⟩, (fun s' z => by cases z), (fun x' xs' z => by cases z; exact ⟨q, a, b, rfl, h3, h1, h2, l1, l2⟩)⟩
theorem nAt_of {S : List T} {ks : List (NK × V)} {k : NK} {t : T} {P : Program} {w : World} {K : PySem.W.Frag} {H : Hp} {A : SA} {ents : List V} (h : StoreB P w K H A S ents ks) (hk : KeyT S k t) :
    (∀ m : Nat, nAt k ks = some m → S[m + 1]? = some t) ∧ (nAt k ks = none → ∀ i : Nat, S[i]? ≠ some t) := by
  have same : ∀ (i : Nat) (k' : NK) (v : V), ks[i]? = some (k', v) → k' = k → S[i + 1]? = some t := fun i k' v hi e => by
    obtain ⟨_, t', h1, h2⟩ := h.k i k' v hi
    subst e
    cases k' with
    | inl s =>
      obtain rfl : t = .w s := hk
      obtain rfl : t' = .w s := h2
      exact h1
    | inr p =>
      obtain ⟨x, xs, a, b, rfl, g1, g2, rfl⟩ := hk
      obtain ⟨x', xs', a', b', e, g3, g4, rfl⟩ := h2
      obtain ⟨e1, e2⟩ := Prod.mk.inj e
      have e1 : a = a' := by omega
      have e2 : b = b' := by omega
      subst e1 e2
      rw [g1] at g3
      rw [g2] at g4
      cases g3
      cases g4
      exact h1
  refine ⟨fun m hm => ?_, fun hn i hi => ?_⟩
  · have hl := nAt_lt hm
    have e := List.getElem?_eq_getElem hl
    exact same m ks[m].1 ks[m].2 e ((nAt_iff h.nk.2 e).mpr hm)
  · cases i with
    | zero =>
      rw [h.z] at hi
      cases hi
      cases k with
      | inl s => cases hk
      | inr p =>
        obtain ⟨x, xs, a, b, _, _, _, e⟩ := hk
        cases e
    | succ i =>
      have hil : i < ks.length := by
        have := (List.getElem?_eq_some_iff.mp hi).1
        have := h.kl
        omega
      have e := List.getElem?_eq_getElem hil
      obtain ⟨_, t', h1, h2⟩ := h.k i ks[i].1 ks[i].2 e
      rw [hi] at h1
      cases h1
      have hkk : ks[i].1 = k := by
        generalize ks[i].1 = k' at h2
        cases k' with
        | inl s =>
          obtain rfl : t = .w s := h2
          cases k with
          | inl s' =>
            have : T.w s = .w s' := hk
            cases this
            rfl
          | inr p =>
            obtain ⟨x, xs, a, b, _, _, _, e⟩ := hk
            cases e
        | inr p =>
          obtain ⟨x, xs, a, b, rfl, g1, g2, rfl⟩ := h2
          cases k with
          | inl s' =>
            have : T.l (x :: xs) = .w s' := hk
            cases this
          | inr p' =>
            obtain ⟨x', xs', a', b', rfl, g3, g4, e⟩ := hk
            cases e
            rw [h.nd a a' x g1 g3, h.nd b b' _ g2 g4]
      rw [(nAt_iff h.nk.2 e).mp hkk] at hn
      cases hn
theorem KeyT.mono {S : List T} {t' : T} {k : NK} {t : T} (h : KeyT S k t) : KeyT (S ++ [t']) k t := by
  cases k with
  | inl s => exact h
  | inr p =>
    obtain ⟨x, xs, a, b, e, h1, h2, h3⟩ := h
    exact ⟨x, xs, a, b, e, by rw [List.getElem?_append_left (List.getElem?_eq_some_iff.mp h1).1]; exact h1, by rw [List.getElem?_append_left (List.getElem?_eq_some_iff.mp h2).1]; exact h2, h3⟩
theorem snoc_get {α : Type} {l : List α} {x y : α} {i : Nat} (h : (l ++ [x])[i]? = some y) : l[i]? = some y ∨ (i = l.length ∧ y = x) := by
  by_cases hi : i < l.length
  · rw [List.getElem?_append_left hi] at h
    exact .inl h
  · rw [List.getElem?_append_right (by omega)] at h
    have : i - l.length = 0 := by
      cases z : i - l.length with
      | zero => rfl
      | succ n =>
        rw [z] at h
        cases h
    rw [this] at h
    exact .inr ⟨by omega, (Option.some.inj h).symm⟩
theorem StoreB.grow {P : Program} {w : World} {K : PySem.W.Frag} {H H' : Hp} {A : SA} {S : List T} {ents : List V} {ks : List (NK × V)} {k : NK} {t : T} {entry : V} (h : StoreB P w K H A S ents ks) (hk : KeyT S k t) (hnk : nkV H k entry) (hn : nAt k ks = none)
    (kp : Kp A.F H H') (ho : H' A.a = H A.a) (he : H' A.ea = some (.lst (ents ++ [entry]))) (hna : H' A.na = some (numO P w A.na (ks ++ [(k, entry)]))) (hs : H' A.sa = some (.lst (S.map szV ++ [szV t]))) (hd : H' A.da = some (.lst (S.map dpV ++ [dpV t]))) : StoreAt P w K H' A (S ++ [t]) := by
  obtain ⟨_, hnot⟩ := nAt_of h hk
  have hnot := hnot hn
  obtain ⟨dx, fs, o1, o2⟩ := h.ob
  obtain ⟨p0, e1, e2⟩ := h.e0
  have hel := h.el
  have hkl := h.kl
  refine ⟨ents ++ [entry], ks ++ [(k, entry)], ⟨dx, fs, by rw [ho]; exact o1, o2⟩, he, hna, h.ns, by rw [List.map_append]; exact hs, by rw [List.map_append]; exact hd, by rw [List.length_append, List.length_append, hel]; rfl, by rw [List.length_append, List.length_append]; show ks.length + 1 + 1 = S.length + 1; omega, ?_, ?_, ?_, ?_, ?_, ?_, h.ne⟩
  · refine ⟨fun p hp => ?_, ?_⟩
    · rcases List.mem_append.mp hp with hp | hp
      · exact nkV.kp kp (h.nk.1 p hp)
      · rw [List.mem_singleton.mp hp]
        exact nkV.kp kp hnk
    · rw [List.map_append, List.nodup_append]
      refine ⟨h.nk.2, by simp, fun a ha b hb => ?_⟩
      have hb : b = k := by simpa using hb
      subst hb
      rintro rfl
      obtain ⟨p, hp, e⟩ := List.mem_map.mp ha
      obtain ⟨i, hi⟩ := List.mem_iff_getElem?.mp hp
      rw [(nAt_iff h.nk.2 hi).mp e] at hn
      cases hn
  · intro i j t' hi hj
    rcases snoc_get hi with hi | ⟨i1, i2⟩
    · rcases snoc_get hj with hj | ⟨j1, j2⟩
      · exact h.nd i j t' hi hj
      · rw [j2] at hi
        exact absurd hi (hnot i)
    · rcases snoc_get hj with hj | ⟨j1, j2⟩
      · rw [i2] at hj
        exact absurd hj (hnot j)
      · omega
  · rw [List.getElem?_append_left (by omega)]
    exact h.z
  · exact ⟨p0, by rw [List.getElem?_append_left (by omega)]; exact e1, kp.xt e2⟩
  · intro i k' v hi
    rcases snoc_get hi with hi | ⟨i1, i2⟩
    · obtain ⟨g1, t', g2, g3⟩ := h.k i k' v hi
      exact ⟨by rw [List.getElem?_append_left (List.getElem?_eq_some_iff.mp g1).1]; exact g1, t', by rw [List.getElem?_append_left (List.getElem?_eq_some_iff.mp g2).1]; exact g2, g3.mono⟩
    · cases i2
      subst i1
      refine ⟨?_, t, ?_, hk.mono⟩
      · rw [List.getElem?_append_right (by omega), show ks.length + 1 - ents.length = 0 by omega]
        rfl
      · rw [List.getElem?_append_right (by omega), show ks.length + 1 - S.length = 0 by omega]
        rfl
  · intro i a b v hi
    rcases snoc_get hi with hi | ⟨i1, i2⟩
    · exact h.lt i a b v hi
    · obtain ⟨e3, e4⟩ := Prod.mk.inj i2
      subst e3
      obtain ⟨x, xs, a', b', e, h1, h2, h3⟩ := hk
      obtain ⟨e5, e6⟩ := Prod.mk.inj e
      have l1 := (List.getElem?_eq_some_iff.mp h1).1
      have l2 := (List.getElem?_eq_some_iff.mp h2).1
      omega
theorem sz_join (x : T) (xs : List T) : (if (((200000 : Int) + 1) < ((min x.parts 200001 : Nat) : Int) + ((min (T.l xs).parts 200001 : Nat) : Int)) then ((200000 : Int) + 1) else ((min x.parts 200001 : Nat) : Int) + ((min (T.l xs).parts 200001 : Nat) : Int)) = ((min (T.l (x :: xs)).parts 200001 : Nat) : Int) := by
  have e : (T.l (x :: xs)).parts = x.parts + (T.l xs).parts := by
    show 1 + (x.parts + T.partsL xs) = x.parts + (1 + T.partsL xs)
    omega
  rw [e]
  split <;> omega
theorem dp_join (x : T) (xs : List T) : (let m := (if ((min (T.l xs).depth 201 : Nat) : Int) > ((min x.depth 201 : Nat) : Int) + 1 then ((min (T.l xs).depth 201 : Nat) : Int) else ((min x.depth 201 : Nat) : Int) + 1); if ((200 : Int) + 1) < m then ((200 : Int) + 1) else m) = ((min (T.l (x :: xs)).depth 201 : Nat) : Int) := by
  have e : (T.l (x :: xs)).depth = max (x.depth + 1) (T.l xs).depth := rfl
  rw [e]
  simp only
  split <;> split <;> omega
section
variable {P : Program} {w : World} {K : PySem.W.Frag} {mg : Str → Option Value} {base : Heap}
def ansN (P : Program) (w : World) (K : PySem.W.Frag) (A : SA) (S : List T) (t : T) (g : Nat) (H : Hp) (Q : VK) : Prop := ∀ S' n H', Kp A.F H H' → StoreAt P w K H' A S' → S <+: S' → S'.length ≤ S.length + g → S'[n]? = some t → Q (.int (n : Nat)) H'
def sp_Store_number_of (P : Program) (w : World) (K : PySem.W.Frag) : Sp := fun vs H Q _ => ∃ entry A S t k, vs = [.ref A.a, entry] ∧ StoreAt P w K H A S ∧ nkV H k entry ∧ KeyT S k t ∧ S.length ≤ 10000000 ∧ ansN P w K A S t 1 H Q
theorem sc_Store_number_of : FnScope ["self", "entry", "item", "items"] ["self", "entry"] (defScope s_Store_number_of) := ⟨rfl, rfl, rfl, by decide +kernel, rfl, by decide +kernel, by decide +kernel⟩
theorem f_Store_number_of (T : Txt w K mg) : Mtb P w K mg base (C_Store K) "number_of" 1 ["self", "entry"] (sp_Store_number_of P w K) := by
  refine T.d_Store_number_of.mtb sc_Store_number_of (fun _ _ _ _ _ _ us hl => match us, hl with | [_, _], _ => rfl) (fun vs H Q E h => ?_) (fun f cdv A outer s H vs Q E hr h => ?_)
  · obtain ⟨_, _, _, _, _, rfl, _⟩ := h
    rfl
  · obtain ⟨entry, A0, S, t, k, rfl, hS, hnk, hkt, hSl, q⟩ := h
    have hu := hu_of hr
    refine ⟨_, (pss_cons (ps_if (pt_cmp (pc_numNotIn hu (pv 1) (pe_fld (pv 0) rfl))) (pss_cons (ps_numPut hu (pe_fld (pv 0) rfl) (pv 1) (pe_callB call_len_seq (by rfl) T.n_len PySem.boot_len (pa_cons (pe_fld (pv 0) rfl) pa_nil)) rfl)
      (pss_cons (ps_expr (pe_bm PySem.F.plainAttrs_list PySem.F.slot_list_append PySem.F.type_list_append mt_append (pe_fld (pv 0) rfl) (pa_cons (pv 1) pa_nil)))
      (pss_one (ps_if (pt_val (pe_callB call_isV (by rfl) T.n_isinstance PyProof.Rows.boot_isinstance (pa_cons (pv 1) (pa_cons (pe_bltn (v := .ty "str") rfl T.n_str PyProof.Rows.boot_str rfl) pa_nil)))) (pss_cons (ps_expr (pe_bm PySem.F.plainAttrs_list PySem.F.slot_list_append PySem.F.type_list_append mt_append (pe_fld (pv 0) rfl) (pa_cons pe_int pa_nil)))
      (pss_one (ps_expr (pe_bm PySem.F.plainAttrs_list PySem.F.slot_list_append PySem.F.type_list_append mt_append (pe_fld (pv 0) rfl) (pa_cons pe_int pa_nil))))) (pss_cons (ps_asg (pv 1) (pg_tupK K rfl 2 rfl (pgs_cons (pg_name (i := 2) sc_Store_number_of.nd rfl (Or.inl rfl)) (pgs_cons (pg_name (i := 3) sc_Store_number_of.nd rfl (Or.inl rfl)) pgs_nil))))
      (pss_cons (ps_expr (pe_bm PySem.F.plainAttrs_list PySem.F.slot_list_append PySem.F.type_list_append mt_append (pe_fld (pv 0) rfl) (pa_cons (pe_callB (call_min2 rfl) (by rfl) T.n_min (by decide +kernel) (pa_cons (pe_op op_add (pe_ix ix_list (pe_fld (pv 0) rfl) (pv 2) (fun _ _ => rfl)) (pe_ix ix_list (pe_fld (pv 0) rfl) (pv 3) (fun _ _ => rfl))) (pa_cons (pe_op op_add (pe_gi T.c_MOST_PARTS) pe_int) pa_nil))) pa_nil)))
      (pss_one (ps_expr (pe_bm PySem.F.plainAttrs_list PySem.F.slot_list_append PySem.F.type_list_append mt_append (pe_fld (pv 0) rfl) (pa_cons (pe_callB (call_min2 rfl) (by rfl) T.n_min (by decide +kernel) (pa_cons (pe_callB (call_max2 rfl) (by rfl) T.n_max (by decide +kernel) (pa_cons (pe_op op_add (pe_ix ix_list (pe_fld (pv 0) rfl) (pv 2) (fun _ _ => rfl)) pe_int) (pa_cons (pe_ix ix_list (pe_fld (pv 0) rfl) (pv 3) (fun _ _ => rfl)) pa_nil))) (pa_cons (pe_op op_add (pe_gi T.c_MOST_DEPTH) pe_int) pa_nil))) pa_nil)))))))))) pss_nil)
      (pss_one (ps_ret (pe_numGet hu (pe_fld (pv 0) rfl) (pv 1) (fun _ _ => rfl))))), ?_⟩
    obtain ⟨ents, ks, hB⟩ := id hS
    obtain ⟨dx, fs, ho, l1, l2, l3, l4, nm⟩ := hB.ob
    obtain ⟨hin, hout⟩ := nAt_of hB hkt
    obtain ⟨n1, n2, n3, n4, n5, n6⟩ := hB.ne
    have ma : A0.a ≠ A0.ea ∧ A0.a ≠ A0.na ∧ A0.a ≠ A0.sa ∧ A0.a ≠ A0.da := by
      refine ⟨fun z => ?_, fun z => ?_, fun z => ?_, fun z => ?_⟩
      · rw [z, hB.e] at ho; cases ho
      · rw [z, hB.n] at ho; cases ho
      · rw [z, hB.s] at ho; cases ho
      · rw [z, hB.d] at ho; cases ho
    obtain ⟨m1, m2, m3, m4⟩ := ma
    have hkl := hB.kl
    have hel := hB.el
    refine ⟨_, rfl, _, rfl, A0.a, _, dx, fs, _, rfl, ho, T.cl_Store, T.a_Store_numbers, l2, A0.na, ks, k, rfl, hB.n, hB.ns, hB.nk, hnk, ?_⟩
    cases hat : nAt k ks with
    | some m =>
      refine ⟨false, rfl, iteF ⟨_, rfl, A0.a, _, dx, fs, _, rfl, ho, T.cl_Store, T.a_Store_numbers, l2, _, rfl, A0.na, ks, k, m, rfl, hB.n, hB.nk, hnk, hat, ?_⟩⟩
      exact q S (m + 1) H Kp.refl hS (List.prefix_refl _) (Nat.le_succ _) (hin m hat)
    | none =>
      refine ⟨true, rfl, iteT ⟨_, rfl, A0.a, _, dx, fs, _, rfl, ho, T.cl_Store, T.a_Store_entries, l1, A0.ea, ents, rfl, .inl (sq_lst hB.e), _, rfl, A0.a, _, dx, fs, _, rfl, ho, T.cl_Store, T.a_Store_numbers, l2, _, rfl, A0.na, ks, k, rfl, hB.n, hB.nk, hnk, hat, by rw [sizeLine_eq]; omega, by rw [hel, ← hkl] <;> rfl, ?_⟩⟩
      have hn1 : (upd H A0.na (numO P w A0.na (ks ++ [(k, entry)]))) A0.na = some (numO P w A0.na (ks ++ [(k, entry)])) := upd_same
      have ho1 : (upd H A0.na (numO P w A0.na (ks ++ [(k, entry)]))) A0.a = H A0.a := upd_ne m2
      have he1 : (upd H A0.na (numO P w A0.na (ks ++ [(k, entry)]))) A0.ea = some (.lst ents) := by rw [upd_ne n1]; exact hB.e
      have hs1 : (upd H A0.na (numO P w A0.na (ks ++ [(k, entry)]))) A0.sa = some (.lst (S.map szV)) := by rw [upd_ne (Ne.symm n4)]; exact hB.s
      have hd1 : (upd H A0.na (numO P w A0.na (ks ++ [(k, entry)]))) A0.da = some (.lst (S.map dpV)) := by rw [upd_ne (Ne.symm n5)]; exact hB.d
      have k1 : Kp A0.F H (upd H A0.na (numO P w A0.na (ks ++ [(k, entry)]))) := Kp.ext (by simp [SA.F]) hB.n
      show tSeq _ _ _ _ (upd H A0.na (numO P w A0.na (ks ++ [(k, entry)])))
      generalize upd H A0.na (numO P w A0.na (ks ++ [(k, entry)])) = H1 at hn1 ho1 he1 hs1 hd1 k1
      refine ⟨_, rfl, A0.a, _, dx, fs, _, rfl, by rw [ho1]; exact ho, T.cl_Store, T.a_Store_entries, l1, tyL he1, _, rfl, A0.ea, ents, entry, rfl, rfl, he1, by rw [sizeLine_eq]; omega, ?_⟩
      have hn2 : (upd H1 A0.ea (.lst (ents ++ [entry]))) A0.na = some (numO P w A0.na (ks ++ [(k, entry)])) := by rw [upd_ne (Ne.symm n1)]; exact hn1
      have ho2 : (upd H1 A0.ea (.lst (ents ++ [entry]))) A0.a = H A0.a := by rw [upd_ne m1]; exact ho1
      have he2 : (upd H1 A0.ea (.lst (ents ++ [entry]))) A0.ea = some (.lst (ents ++ [entry])) := upd_same
      have hs2 : (upd H1 A0.ea (.lst (ents ++ [entry]))) A0.sa = some (.lst (S.map szV)) := by rw [upd_ne (Ne.symm n2)]; exact hs1
      have hd2 : (upd H1 A0.ea (.lst (ents ++ [entry]))) A0.da = some (.lst (S.map dpV)) := by rw [upd_ne (Ne.symm n3)]; exact hd1
      have k2 : Kp A0.F H (upd H1 A0.ea (.lst (ents ++ [entry]))) := k1.trans (Kp.lst (by simp [SA.F]) he1)
      generalize upd H1 A0.ea (.lst (ents ++ [entry])) = H2 at hn2 ho2 he2 hs2 hd2 k2
      have hnk2 := nkV.kp k2 hnk
      have ho2' : H2 A0.a = some (.ins (C_Store K) dx fs) := by rw [ho2]; exact ho
      have hsl : (S.map szV).length = S.length := List.length_map _
      have hdl : (S.map dpV).length = S.length := List.length_map _
      -- the rest
      have fin : ∀ (z1 z2 : V), z1 = szV t → z2 = dpV t → ∀ {H3 H4 : Hp}, H3 = upd H2 A0.sa (.lst (S.map szV ++ [z1])) → H4 = upd H3 A0.da (.lst (S.map dpV ++ [z2])) → H3 A0.da = some (.lst (S.map dpV)) ∧ H3 A0.a = some (.ins (C_Store K) dx fs) ∧
          (∃ d ks2 k m, V.ref A0.na = .ref d ∧ H4 d = some (numO P w d ks2) ∧ NKeys H4 ks2 ∧ nkV H4 k entry ∧ nAt k ks2 = some m ∧ Q (.int ((m : Int) + 1)) H4) ∧ H4 A0.a = some (.ins (C_Store K) dx fs) := by
        rintro z1 z2 rfl rfl H3 H4 rfl rfl
        have hd3 : (upd H2 A0.sa (.lst (S.map szV ++ [szV t]))) A0.da = some (.lst (S.map dpV)) := by rw [upd_ne (Ne.symm n6)]; exact hd2
        have ho3 : (upd H2 A0.sa (.lst (S.map szV ++ [szV t]))) A0.a = some (.ins (C_Store K) dx fs) := by rw [upd_ne m3]; exact ho2'
        have k3 : Kp A0.F H (upd H2 A0.sa (.lst (S.map szV ++ [szV t]))) := k2.trans (Kp.lst (by simp [SA.F]) hs2)
        have k4 : Kp A0.F H (upd (upd H2 A0.sa (.lst (S.map szV ++ [szV t]))) A0.da (.lst (S.map dpV ++ [dpV t]))) := k3.trans (Kp.lst (by simp [SA.F]) hd3)
        have ho4 : (upd (upd H2 A0.sa (.lst (S.map szV ++ [szV t]))) A0.da (.lst (S.map dpV ++ [dpV t]))) A0.a = some (.ins (C_Store K) dx fs) := by rw [upd_ne m4]; exact ho3
        have hn4 : (upd (upd H2 A0.sa (.lst (S.map szV ++ [szV t]))) A0.da (.lst (S.map dpV ++ [dpV t]))) A0.na = some (numO P w A0.na (ks ++ [(k, entry)])) := by rw [upd_ne n5, upd_ne n4]; exact hn2
        have G := hB.grow hkt hnk hat k4 (by rw [ho4, ho]) (by rw [upd_ne n3, upd_ne n2]; exact he2) hn4 (by rw [upd_ne n6]; exact upd_same) upd_same
        have hnk4 := nkV.kp k4 hnk
        refine ⟨hd3, ho3, ⟨A0.na, ks ++ [(k, entry)], k, ks.length, rfl, hn4, ?_, hnk4, ?_, ?_⟩, ho4⟩
        · refine ⟨fun p hp => ?_, ?_⟩
          · rcases List.mem_append.mp hp with hp | hp
            · exact nkV.kp k4 (hB.nk.1 p hp)
            · rw [List.mem_singleton.mp hp]
              exact hnk4
          · obtain ⟨e1, k1', G⟩ := G
            have hkk : k1' = ks ++ [(k, entry)] ∨ True := .inr trivial
            rw [List.map_append, List.nodup_append]
            refine ⟨hB.nk.2, by simp, fun a ha b hb => ?_⟩
            have hb : b = k := by simpa using hb
            subst hb
            rintro rfl
            obtain ⟨p, hp, e⟩ := List.mem_map.mp ha
            obtain ⟨i, hi⟩ := List.mem_iff_getElem?.mp hp
            rw [(nAt_iff hB.nk.2 hi).mp e] at hat
            cases hat
        · have hnd : ((ks ++ [(k, entry)]).map (·.1)).Nodup := by
            rw [List.map_append, List.nodup_append]
            refine ⟨hB.nk.2, by simp, fun a ha b hb => ?_⟩
            have hb : b = k := by simpa using hb
            subst hb
            rintro rfl
            obtain ⟨p, hp, e⟩ := List.mem_map.mp ha
            obtain ⟨i, hi⟩ := List.mem_iff_getElem?.mp hp
            rw [(nAt_iff hB.nk.2 hi).mp e] at hat
            cases hat
          have hg : (ks ++ [(k, entry)])[ks.length]? = some (k, entry) := by rw [List.getElem?_append_right (Nat.le_refl _), Nat.sub_self]; rfl
          exact (nAt_iff hnd hg).mp rfl
        · refine q (S ++ [t]) (ks.length + 1) _ k4 G (List.prefix_append _ _) (by rw [List.length_append]; exact Nat.le_refl _) ?_
          rw [List.getElem?_append_right (by omega), show ks.length + 1 - S.length = 0 by omega]
          rfl
      cases k with
      | inl s =>
        obtain rfl : entry = .str s := hnk
        obtain rfl : t = .w s := hkt
        obtain ⟨f1, f2, f3, f4⟩ := fin (.int 1) (.int 0) rfl rfl rfl rfl
        refine ⟨_, rfl, _, true, rfl, ⟨s, rfl⟩, true, rfl, iteT ?_⟩
        refine ⟨_, rfl, A0.a, _, dx, fs, _, rfl, ho2', T.cl_Store, T.a_Store_sizes, l3, tyL hs2, A0.sa, S.map szV, .int 1, rfl, rfl, hs2, by rw [sizeLine_eq]; omega, ?_⟩
        refine ⟨_, rfl, A0.a, _, dx, fs, _, rfl, f2, T.cl_Store, T.a_Store_depths, l4, tyL f1, A0.da, S.map dpV, .int 0, rfl, rfl, f1, by rw [sizeLine_eq]; omega, ?_⟩
        exact ⟨_, rfl, A0.a, _, dx, fs, _, rfl, f4, T.cl_Store, T.a_Store_numbers, l2, _, rfl, f3⟩
      | inr p =>
        obtain ⟨x, xs, a, b, rfl, g1, g2, rfl⟩ := hkt
        obtain ⟨q9, rfl, hq2⟩ := hnk2
        have ga : (S.map szV)[a]? = some (szV x) := by rw [List.getElem?_map, g1]; rfl
        have gb : (S.map szV)[b]? = some (szV (.l xs)) := by rw [List.getElem?_map, g2]; rfl
        have da : (S.map dpV)[a]? = some (dpV x) := by rw [List.getElem?_map, g1]; rfl
        have db : (S.map dpV)[b]? = some (dpV (.l xs)) := by rw [List.getElem?_map, g2]; rfl
        obtain ⟨f1, f2, f3, f4⟩ := fin _ _ (congrArg V.int (sz_join x xs)) (congrArg V.int (dp_join x xs)) rfl rfl
        refine ⟨_, rfl, _, false, rfl, .inl ⟨q9, _, rfl, hq2⟩, false, rfl, iteF ?_⟩
        refine ⟨_, rfl, q9, _, rfl, st_tup hq2, rfl, _, _, rfl, _, _, rfl, rfl, ?_⟩
        refine ⟨_, rfl, A0.a, _, dx, fs, _, rfl, ho2', T.cl_Store, T.a_Store_sizes, l3, tyL hs2, ?_⟩
        refine ⟨_, rfl, A0.a, _, dx, fs, _, rfl, ho2', T.cl_Store, T.a_Store_sizes, l3, _, rfl, A0.sa, _, (a : Int), szV x, rfl, rfl, sq_lst hs2, atI_nat ga, ?_⟩
        refine ⟨_, rfl, A0.a, _, dx, fs, _, rfl, ho2', T.cl_Store, T.a_Store_sizes, l3, _, rfl, A0.sa, _, (b : Int), szV (.l xs), rfl, rfl, sq_lst hs2, atI_nat gb, ?_⟩
        refine ⟨_, _, rfl, rfl, _, _, rfl, rfl, _, _, rfl, A0.sa, S.map szV, _, rfl, rfl, hs2, by rw [sizeLine_eq]; omega, ?_⟩
        refine ⟨_, rfl, A0.a, _, dx, fs, _, rfl, f2, T.cl_Store, T.a_Store_depths, l4, tyL f1, ?_⟩
        refine ⟨_, rfl, A0.a, _, dx, fs, _, rfl, f2, T.cl_Store, T.a_Store_depths, l4, _, rfl, A0.da, _, (a : Int), dpV x, rfl, rfl, sq_lst f1, atI_nat da, _, _, rfl, rfl, ?_⟩
        refine ⟨_, rfl, A0.a, _, dx, fs, _, rfl, f2, T.cl_Store, T.a_Store_depths, l4, _, rfl, A0.da, _, (b : Int), dpV (.l xs), rfl, rfl, sq_lst f1, atI_nat db, ?_⟩
        refine ⟨_, _, rfl, _, _, rfl, rfl, _, _, rfl, A0.da, S.map dpV, _, rfl, rfl, f1, by rw [sizeLine_eq]; omega, ?_⟩
        exact ⟨_, rfl, A0.a, _, dx, fs, _, rfl, f4, T.cl_Store, T.a_Store_numbers, l2, _, rfl, f3⟩
end
end G
set_option maxRecDepth 100000
set_option maxHeartbeats 4000000
/-! F4b: is_word, first, rest, pair_up, items_of of the store. -/
namespace G
open PySem PySem.Spec PyProof.Rows L2
section
variable {P : Program} {w : World} {K : PySem.W.Frag} {mg : Str → Option Value} {base : Heap}
def sp_Store_is_word (P : Program) (w : World) (K : PySem.W.Frag) : Sp := fun vs H Q _ => ∃ A S t, ∃ n : Nat, vs = [.ref A.a, .int (n : Int)] ∧ StoreAt P w K H A S ∧ S[n]? = some t ∧ Q (.bl t.isW) H
theorem sc_Store_is_word : FnScope ["self", "number"] ["self", "number"] (defScope s_Store_is_word) := ⟨rfl, rfl, rfl, by decide +kernel, rfl, by decide +kernel, by decide +kernel⟩
theorem f_Store_is_word (T : Txt w K mg) : Mtb P w K mg base (C_Store K) "is_word" 1 ["self", "number"] (sp_Store_is_word P w K) := by
  refine T.d_Store_is_word.mtb sc_Store_is_word (fun _ _ _ _ _ _ us hl => match us, hl with | [_, _], _ => rfl) (fun vs H Q E h => ?_) (fun f cdv A outer s H vs Q E hr h => ?_)
  · obtain ⟨_, _, _, _, rfl, _⟩ := h
    rfl
  · obtain ⟨A0, S, t, n, rfl, hS, ht, q⟩ := h
    refine ⟨_, (pss_one (ps_ret (pe_callB call_isV (by rfl) T.n_isinstance PyProof.Rows.boot_isinstance (pa_cons (pe_ix ix_list (pe_fld (pv 0) rfl) (pv 1) (fun _ _ => rfl)) (pa_cons (pe_bltn (v := .ty "str") rfl T.n_str PyProof.Rows.boot_str rfl) pa_nil))))), ?_⟩
    obtain ⟨ents, ks, hB⟩ := id hS
    obtain ⟨dx, fs, ho, l1, l2, l3, l4, nm⟩ := hB.ob
    obtain ⟨v, hv, hi, _⟩ := hB.ent ht
    exact ⟨_, rfl, A0.a, _, dx, fs, _, rfl, ho, T.cl_Store, T.a_Store_entries, l1, _, rfl, A0.ea, ents, (n : Int), v, rfl, rfl, sq_lst hB.e, atI_nat hv, _, _, rfl, hi, q⟩
/-- EMPTY, or the tree at this number -/
def numT (S : List T) (t : T) (n : Nat) : Prop := S[n]? = some t
theorem zero_iff {P : Program} {w : World} {K : PySem.W.Frag} {H : Hp} {A : SA} {S : List T} {ents : List V} {ks : List (NK × V)} (h : StoreB P w K H A S ents ks) {n : Nat} {t : T} (ht : S[n]? = some t) : n = 0 ↔ t = .l [] := by
  constructor
  · rintro rfl
    rw [h.z] at ht
    cases ht
    rfl
  · rintro rfl
    exact h.nd n 0 _ ht h.z
def sp_Store_first (P : Program) (w : World) (K : PySem.W.Frag) : Sp := fun vs H Q _ => ∃ A S t, ∃ n : Nat, vs = [.ref A.a, .int (n : Int)] ∧ StoreAt P w K H A S ∧ S[n]? = some t ∧ ∀ m : Nat, S[m]? = some t.hd → Q (.int (m : Int)) H
theorem sc_Store_first : FnScope ["self", "number"] ["self", "number"] (defScope s_Store_first) := ⟨rfl, rfl, rfl, by decide +kernel, rfl, by decide +kernel, by decide +kernel⟩
theorem f_Store_first (T : Txt w K mg) : Mtb P w K mg base (C_Store K) "first" 2 ["self", "number"] (sp_Store_first P w K) := by
  have F_Store_is_word : Mtb P w K mg base (C_Store K) "is_word" 1 ["self", "number"] (sp_Store_is_word P w K) := f_Store_is_word T
  refine T.d_Store_first.mtb sc_Store_first (fun _ _ _ _ _ _ us hl => match us, hl with | [_, _], _ => rfl) (fun vs H Q E h => ?_) (fun f cdv A outer s H vs Q E hr h => ?_)
  · obtain ⟨_, _, _, _, rfl, _⟩ := h
    rfl
  · obtain ⟨A0, S, t, n, rfl, hS, ht, q⟩ := h
    refine ⟨_, (pss_cons (ps_if (PW.pt (pw_or (pt_cmpR op_eq (pv 1) (pe_gi T.c_EMPTY) (nomark _)) (pw_or1 (pt_val (pe_m (pv 0) T.cl_Store F_Store_is_word (hr.mono (by decide)) (pa_cons (pv 1) pa_nil)))))) (pss_one (ps_ret (pe_gi T.c_EMPTY))) pss_nil)
      (pss_one (ps_ret (pe_ix ix_tup (pe_ix ix_list (pe_fld (pv 0) rfl) (pv 1) (fun _ _ => rfl)) pe_int (fun _ _ => rfl))))), ?_⟩
    obtain ⟨ents, ks, hB⟩ := id hS
    obtain ⟨dx, fs, ho, l1, l2, l3, l4, nm⟩ := hB.ob
    obtain ⟨v, hv, hi, hw, hp⟩ := hB.ent ht
    have hz := zero_iff hB ht
    refine ⟨_, rfl, rfl, _, rfl, ?_⟩
    by_cases hn : n = 0
    · subst hn
      obtain rfl := hz.mp rfl
      exact iteT (q 0 hB.z)
    · have e0 : decide (V.int ((n : Nat) : Int) = V.int 0) = false := decide_eq_false fun z => hn (by have := V.int.inj z; omega)
      rw [e0]
      refine iteF ?_
      refine ⟨_, rfl, A0.a, dx, fs, rfl, ho, nm.m_is_word, _, rfl, A0, S, t, n, rfl, hS, ht, t.isW, rfl, ?_⟩
      cases t with
      | w s => exact iteT (q 0 hB.z)
      | l xs =>
        cases xs with
        | nil => exact absurd (hz.mpr rfl) hn
        | cons x xs =>
          obtain ⟨q9, a, b, rfl, h9, g1, g2, _⟩ := hp x xs rfl
          exact iteF ⟨_, rfl, A0.a, _, dx, fs, _, rfl, ho, T.cl_Store, T.a_Store_entries, l1, _, rfl, A0.ea, ents, (n : Int), _, rfl, rfl, sq_lst hB.e, atI_nat hv, q9, _, 0, _, rfl, rfl, st_tup h9, rfl, q a g1⟩
def sp_Store_rest (P : Program) (w : World) (K : PySem.W.Frag) : Sp := fun vs H Q _ => ∃ A S t, ∃ n : Nat, vs = [.ref A.a, .int (n : Int)] ∧ StoreAt P w K H A S ∧ S[n]? = some t ∧ ∀ m : Nat, S[m]? = some t.tl → Q (.int (m : Int)) H
theorem sc_Store_rest : FnScope ["self", "number"] ["self", "number"] (defScope s_Store_rest) := ⟨rfl, rfl, rfl, by decide +kernel, rfl, by decide +kernel, by decide +kernel⟩
theorem f_Store_rest (T : Txt w K mg) : Mtb P w K mg base (C_Store K) "rest" 2 ["self", "number"] (sp_Store_rest P w K) := by
  have F_Store_is_word : Mtb P w K mg base (C_Store K) "is_word" 1 ["self", "number"] (sp_Store_is_word P w K) := f_Store_is_word T
  refine T.d_Store_rest.mtb sc_Store_rest (fun _ _ _ _ _ _ us hl => match us, hl with | [_, _], _ => rfl) (fun vs H Q E h => ?_) (fun f cdv A outer s H vs Q E hr h => ?_)
  · obtain ⟨_, _, _, _, rfl, _⟩ := h
    rfl
  · obtain ⟨A0, S, t, n, rfl, hS, ht, q⟩ := h
    refine ⟨_, (pss_cons (ps_if (PW.pt (pw_or (pt_cmpR op_eq (pv 1) (pe_gi T.c_EMPTY) (nomark _)) (pw_or1 (pt_val (pe_m (pv 0) T.cl_Store F_Store_is_word (hr.mono (by decide)) (pa_cons (pv 1) pa_nil)))))) (pss_one (ps_ret (pe_gi T.c_EMPTY))) pss_nil)
      (pss_one (ps_ret (pe_ix ix_tup (pe_ix ix_list (pe_fld (pv 0) rfl) (pv 1) (fun _ _ => rfl)) pe_int (fun _ _ => rfl))))), ?_⟩
    obtain ⟨ents, ks, hB⟩ := id hS
    obtain ⟨dx, fs, ho, l1, l2, l3, l4, nm⟩ := hB.ob
    obtain ⟨v, hv, hi, hw, hp⟩ := hB.ent ht
    have hz := zero_iff hB ht
    refine ⟨_, rfl, rfl, _, rfl, ?_⟩
    by_cases hn : n = 0
    · subst hn
      obtain rfl := hz.mp rfl
      exact iteT (q 0 hB.z)
    · have e0 : decide (V.int ((n : Nat) : Int) = V.int 0) = false := decide_eq_false fun z => hn (by have := V.int.inj z; omega)
      rw [e0]
      refine iteF ?_
      refine ⟨_, rfl, A0.a, dx, fs, rfl, ho, nm.m_is_word, _, rfl, A0, S, t, n, rfl, hS, ht, t.isW, rfl, ?_⟩
      cases t with
      | w s => exact iteT (q 0 hB.z)
      | l xs =>
        cases xs with
        | nil => exact absurd (hz.mpr rfl) hn
        | cons x xs =>
          obtain ⟨q9, a, b, rfl, h9, g1, g2, _⟩ := hp x xs rfl
          exact iteF ⟨_, rfl, A0.a, _, dx, fs, _, rfl, ho, T.cl_Store, T.a_Store_entries, l1, _, rfl, A0.ea, ents, (n : Int), _, rfl, rfl, sq_lst hB.e, atI_nat hv, q9, _, 1, _, rfl, rfl, st_tup h9, rfl, q b g2⟩
def sp_Store_pair_up (P : Program) (w : World) (K : PySem.W.Frag) : Sp := fun vs H Q _ => ∃ A S x y, ∃ n m : Nat, vs = [.ref A.a, .int (n : Int), .int (m : Int)] ∧ StoreAt P w K H A S ∧ S[n]? = some x ∧ S[m]? = some y ∧ S.length ≤ 10000000 ∧ ansN P w K A S (T.join x y) 1 H Q
theorem sc_Store_pair_up : FnScope ["self", "item", "items"] ["self", "item", "items"] (defScope s_Store_pair_up) := ⟨rfl, rfl, rfl, by decide +kernel, rfl, by decide +kernel, by decide +kernel⟩
theorem f_Store_pair_up (T : Txt w K mg) : Mtb P w K mg base (C_Store K) "pair_up" 2 ["self", "item", "items"] (sp_Store_pair_up P w K) := by
  have F_Store_is_word : Mtb P w K mg base (C_Store K) "is_word" 1 ["self", "number"] (sp_Store_is_word P w K) := f_Store_is_word T
  have F_Store_number_of : Mtb P w K mg base (C_Store K) "number_of" 1 ["self", "entry"] (sp_Store_number_of P w K) := f_Store_number_of T
  refine T.d_Store_pair_up.mtb sc_Store_pair_up (fun _ _ _ _ _ _ us hl => match us, hl with | [_, _, _], _ => rfl) (fun vs H Q E h => ?_) (fun f cdv A outer s H vs Q E hr h => ?_)
  · obtain ⟨_, _, _, _, _, _, rfl, _⟩ := h
    rfl
  · obtain ⟨A0, S, x, y, n, m, rfl, hS, hx, hy, hl, q⟩ := h
    refine ⟨_, (pss_cons (ps_if (pt_val (pe_m (pv 0) T.cl_Store F_Store_is_word (hr.mono (by decide)) (pa_cons (pv 2) pa_nil))) (pss_one (ps_set (i := 2) sc_Store_pair_up.nd rfl (Or.inl rfl) (pe_gi T.c_EMPTY))) pss_nil)
      (pss_one (ps_ret (pe_m (pv 0) T.cl_Store F_Store_number_of (hr.mono (by decide)) (pa_cons (pe_tup (pa_cons (pv 1) (pa_cons (pv 2) pa_nil))) pa_nil))))), ?_⟩
    obtain ⟨ents, ks, hB⟩ := id hS
    obtain ⟨dx, fs, ho, l1, l2, l3, l4, nm⟩ := hB.ob
    refine ⟨_, rfl, A0.a, dx, fs, rfl, ho, nm.m_is_word, _, rfl, A0, S, y, m, rfl, hS, hy, y.isW, rfl, ?_⟩
    have hk : ∀ (i : Nat) (xs : List G.T), S[i]? = some (.l xs) → G.T.join x y = .l (x :: xs) → KeyT S (Sum.inr ((n : Int), (i : Int))) (G.T.join x y) := fun i xs h1 h2 => ⟨x, xs, n, i, rfl, hx, h1, h2⟩
    cases y with
    | w s =>
      refine iteT ⟨_, rfl, A0.a, dx, fs, rfl, ho, nm.m_number_of, _, rfl, _, rfl, zle (Nat.le_of_ble_eq_true rfl), fun p hp => ?_⟩
      have k1 : Sm H (upd H p (.tup [.int (n : Int), .int 0])) := Kp.new hp
      exact ⟨_, A0, S, _, Sum.inr ((n : Int), ((0 : Nat) : Int)), rfl, hS.sm k1, ⟨p, rfl, upd_same⟩, hk 0 [] hB.z rfl, hl, fun S' n' H' k2 => q S' n' H' (k1.nil.trans k2)⟩
    | l xs =>
      refine iteF ⟨_, rfl, A0.a, dx, fs, rfl, ho, nm.m_number_of, _, rfl, _, rfl, zle (Nat.le_of_ble_eq_true rfl), fun p hp => ?_⟩
      have k1 : Sm H (upd H p (.tup [.int (n : Int), .int (m : Int)])) := Kp.new hp
      exact ⟨_, A0, S, _, Sum.inr ((n : Int), (m : Int)), rfl, hS.sm k1, ⟨p, rfl, upd_same⟩, hk m xs hy rfl, hl, fun S' n' H' k2 => q S' n' H' (k1.nil.trans k2)⟩
/-- numbers of these trees -/
def NumT (S : List T) (t : T) (v : V) : Prop := ∃ n : Nat, v = .int (n : Int) ∧ S[n]? = some t
def sp_Store_items_of (P : Program) (w : World) (K : PySem.W.Frag) : Sp := fun vs H Q _ => ∃ A S xs, ∃ n : Nat, vs = [.ref A.a, .int (n : Int)] ∧ StoreAt P w K H A S ∧ S[n]? = some (.l xs) ∧ S.length ≤ 10000000 ∧
  ∀ r us H', Sm H H' → H r = none → H' r = some (.lst us) → A2 (NumT S) xs us → Q (.ref r) H'
theorem sc_Store_items_of : FnScope ["self", "number", "found", "item"] ["self", "number"] (defScope s_Store_items_of) := ⟨rfl, rfl, rfl, by decide +kernel, rfl, by decide +kernel, by decide +kernel⟩
theorem f_Store_items_of (T : Txt w K mg) : Mtb P w K mg base (C_Store K) "items_of" 1 ["self", "number"] (sp_Store_items_of P w K) := by
  refine T.d_Store_items_of.mtb sc_Store_items_of (fun _ _ _ _ _ _ us hl => match us, hl with | [_, _], _ => rfl) (fun vs H Q E h => ?_) (fun f cdv A outer s H vs Q E hr h => ?_)
  · obtain ⟨_, _, _, _, rfl, _⟩ := h
    rfl
  · obtain ⟨A0, S, xs, n, rfl, hS, ht, hl, q⟩ := h
    refine ⟨_, (pss_cons (ps_set (i := 2) sc_Store_items_of.nd rfl (Or.inl rfl) (pe_lst pa_nil))
      (pss_cons (ps_while PassesOwn.never (pt_cmpR op_ne (pv 1) (pe_gi T.c_EMPTY) (nomark _)) (pss_cons (ps_asg (pe_ix ix_list (pe_fld (pv 0) rfl) (pv 1) (fun _ _ => rfl)) (pg_tupK K rfl 2 rfl (pgs_cons (pg_name (i := 3) sc_Store_items_of.nd rfl (Or.inl rfl)) (pgs_cons (pg_name (i := 1) sc_Store_items_of.nd rfl (Or.inl rfl)) pgs_nil))))
      (pss_one (ps_expr (pe_bm PySem.F.plainAttrs_list PySem.F.slot_list_append PySem.F.type_list_append mt_append (pv 2) (pa_cons (pv 3) pa_nil))))))
      (pss_one (ps_ret (pv 2))))), ?_⟩
    refine ⟨zle (Nat.le_of_ble_eq_true rfl), fun L hL => ?_⟩
    have k1 : Sm H (upd H L (.lst [])) := Kp.new hL
    refine ⟨fun m σ H' => ∃ (c : Nat) (v3 : Option V) (ds rs : List G.T) (us : List V), σ = [some (.ref A0.a), some (.int (c : Int)), some (.ref L), v3] ∧ Sm H H' ∧ H' L = some (.lst us) ∧ A2 (NumT S) ds us ∧ S[c]? = some (.l rs) ∧ ds ++ rs = xs ∧ m = rs.length ∧ ds.length + c ≤ S.length,
      ⟨_, n, none, [], xs, [], rfl, k1, upd_same, rfl, ht, rfl, rfl, by show 0 + n ≤ _; have := (List.getElem?_eq_some_iff.mp ht).1; omega⟩, ?_⟩
    rintro m σ Ha ⟨c, v3, ds, rs, us, rfl, kA, hLa, aL, hc, hdr, rfl, hlen⟩
    obtain ⟨ents, ks, hB⟩ := id (hS.sm kA)
    obtain ⟨dx, fs, ho, l1, l2, l3, l4, nm⟩ := hB.ob
    obtain ⟨v, hv, hi, hw, hp⟩ := hB.ent hc
    have hz := zero_iff hB hc
    refine ⟨_, rfl, rfl, _, rfl, ?_⟩
    by_cases hn : c = 0
    · subst hn
      have hrs := hz.mp rfl
      have hrs : rs = [] := by cases hrs; rfl
      subst hrs
      rw [List.append_nil] at hdr
      subst hdr
      exact iteF ⟨_, rfl, q L us Ha kA hL hLa aL⟩
    · have e0 : (!decide (V.int ((c : Nat) : Int) = V.int 0)) = true := by
        rw [decide_eq_false fun z => hn (by have := V.int.inj z; omega)]
        rfl
      rw [e0]
      refine iteT ⟨_, fun σ' H' h => h, ?_⟩
      cases rs with
      | nil => exact absurd (hz.mpr rfl) hn
      | cons x rs =>
        obtain ⟨q9, a, b, rfl, h9, g1, g2, l5, l6⟩ := hp x rs rfl
        refine ⟨_, rfl, A0.a, _, dx, fs, _, rfl, ho, T.cl_Store, T.a_Store_entries, l1, _, rfl, A0.ea, ents, (c : Int), _, rfl, rfl, sq_lst hB.e, atI_nat hv, q9, _, rfl, st_tup h9, rfl, _, _, rfl, _, _, rfl, rfl, ?_⟩
        have hul := aL.len
        have hcl := (List.getElem?_eq_some_iff.mp hc).1
        refine ⟨_, rfl, tyL hLa, _, rfl, L, us, .int (a : Int), rfl, rfl, hLa, by rw [sizeLine_eq]; omega, ?_⟩
        exact ⟨rs.length, Nat.lt_succ_self _, b, _, ds ++ [x], rs, us ++ [.int (a : Int)], rfl, kA.set hL, upd_same, aL.app (A2.one ⟨a, rfl, g1⟩), g2, by rw [List.append_assoc]; exact hdr, rfl, by rw [List.length_append]; show ds.length + 1 + b ≤ _; omega⟩
end
end G
set_option maxRecDepth 100000
set_option maxHeartbeats 4000000
/-! F4c: Store(), put. -/
namespace G
open PySem PySem.Spec PyProof.Rows L2
theorem StoreAt.fresh {P : Program} {w : World} {K : PySem.W.Frag} {H : Hp} {A : SA} {S : List T} (h : StoreAt P w K H A S) {b : Addr} (hb : H b = none) : b ≠ A.a ∧ b ∉ A.F := by
  obtain ⟨ents, ks, h⟩ := h
  obtain ⟨dx, fs, ho, _⟩ := h.ob
  refine ⟨fun z => ?_, fun z => ?_⟩
  · rw [← z, hb] at ho
    cases ho
  · have he := h.e
    have hn := h.n
    have hs := h.s
    have hd := h.d
    simp only [SA.F, List.mem_cons, List.not_mem_nil, or_false] at z
    rcases z with z | z | z | z
    · rw [← z, hb] at he
      cases he
    · rw [← z, hb] at hn
      cases hn
    · rw [← z, hb] at hs
      cases hs
    · rw [← z, hb] at hd
      cases hd
theorem StoreAt.upd {P : Program} {w : World} {K : PySem.W.Frag} {H H0 : Hp} {A : SA} {S S0 : List T} {b : Addr} {o : HO} (h : StoreAt P w K H A S) (h0 : StoreAt P w K H0 A S0) (hb : H0 b = none) (k : Kp [b] H (L2.upd H b o)) : StoreAt P w K (L2.upd H b o) A S :=
  h.kp k (fun c hc => by rw [List.mem_singleton.mp hc]; exact h0.fresh hb)
theorem NumT.mono {S S' : List T} (p : S <+: S') (t : T) (v : V) (h : NumT S t v) : NumT S' t v := by
  obtain ⟨n, e, h⟩ := h
  obtain ⟨r, rfl⟩ := p
  exact ⟨n, e, by rw [List.getElem?_append_left (List.getElem?_eq_some_iff.mp h).1]; exact h⟩
theorem pre_get {S S' : List T} (p : S <+: S') {n : Nat} {t : T} (h : S[n]? = some t) : S'[n]? = some t := by
  obtain ⟨r, rfl⟩ := p
  rw [List.getElem?_append_left (List.getElem?_eq_some_iff.mp h).1]
  exact h
section
variable {P : Program} {w : World} {K : PySem.W.Frag} {mg : Str → Option Value} {base : Heap}
def sp_Store_init (P : Program) (w : World) (K : PySem.W.Frag) : Sp := fun vs H Q _ => ∃ x dx, vs = [.ref x] ∧ H x = some (.ins (C_Store K) dx []) ∧
  ∀ (A : SA) H', A.a = x → Kp [x] H H' → (∀ b ∈ A.F, H b = none) → StoreAt P w K H' A [.l []] → Q .non H'
theorem sc_Store_init : FnScope ["self"] ["self"] (defScope s_Store_init) := ⟨rfl, rfl, rfl, by decide +kernel, rfl, by decide +kernel, by decide +kernel⟩
theorem mk_Store (T : Txt w K mg) : Mkb P w K mg base "Store" (C_Store K) 1 ["self"] (sp_Store_init P w K) := by
  refine T.d_Store_init.mkb T.g_Store sc_Store_init (fun _ _ _ _ _ _ us hl => match us, hl with | [_], _ => rfl) (fun vs H Q E h => ?_) (fun f cdv A outer s H vs Q E hr h => ?_)
  · obtain ⟨_, _, rfl, _⟩ := h
    rfl
  · obtain ⟨x, dx, rfl, hx, q⟩ := h
    refine ⟨_, (pss_cons (ps_fld (pv 0) (pe_lst (pa_cons (pe_tupT pa_nil) pa_nil)) rfl)
      (pss_cons (ps_fld (pv 0) pe_numNew rfl)
      (pss_cons (ps_fld (pv 0) (pe_lst (pa_cons pe_int pa_nil)) rfl)
      (pss_one (ps_fld (pv 0) (pe_lst (pa_cons pe_int pa_nil)) rfl))))), ?_⟩
    refine ⟨[], aa_nil, zle (Nat.le_of_ble_eq_true rfl), fun p1 H1 k1 h1 => ⟨zle (Nat.le_of_ble_eq_true rfl), fun ea hea => ?_⟩⟩
    obtain ⟨p1', vs1, e1, hX1, hA1⟩ := h1
    cases e1
    obtain rfl : vs1 = [] := hA1
    have hx1 := k1 _ _ hx (.inl (by simp))
    have ne1 : ea ≠ x := by rintro rfl; rw [hx1] at hea; cases hea
    have k2 : Sm H1 (upd H1 ea (.lst [.ref p1])) := Kp.new hea
    have he2 : (upd H1 ea (.lst [.ref p1])) ea = some (.lst [.ref p1]) := upd_same
    have hx2 := k2 _ _ hx1 (.inl (by simp))
    have hea0 := k1.none hea
    have k12 := k1.trans k2
    have hX2 := k2.xt hX1
    generalize upd H1 ea (.lst [.ref p1]) = H2 at k2 he2 hx2 k12 hX2
    refine ⟨_, rfl, x, _, dx, [], rfl, hx2, T.cl_Store, T.a_Store_entries, (Nat.le_of_ble_eq_true rfl), ?_⟩
    have k3 : Kp [x] H2 (upd H2 x (.ins (C_Store K) dx (putF "entries" (.ref ea) []))) := Kp.ins (by simp) hx2
    have hx3 : (upd H2 x (.ins (C_Store K) dx (putF "entries" (.ref ea) []))) x = some (.ins (C_Store K) dx (putF "entries" (.ref ea) [])) := upd_same
    have k13 := k12.nil.trans k3
    have he3 := k3 _ _ he2 (.inl (by simp [ne1]))
    have hX3 := k3.xt hX2
    show tSeq _ _ _ _ (upd H2 x (.ins (C_Store K) dx (putF "entries" (.ref ea) [])))
    generalize upd H2 x (.ins (C_Store K) dx (putF "entries" (.ref ea) [])) = H3 at k3 hx3 k13 he3 hX3
    intro na hna hsys
    have ne2 : na ≠ x := by rintro rfl; rw [hx3] at hna; cases hna
    have ne3 : na ≠ ea := by rintro rfl; rw [he3] at hna; cases hna
    have hna0 : H na = none := k13.free (by simp [ne2]) hna
    have k4 : Sm H3 (upd H3 na (numO P w na [])) := Kp.new hna
    have hn4 : (upd H3 na (numO P w na [])) na = some (numO P w na []) := upd_same
    have hx4 := k4 _ _ hx3 (.inl (by simp))
    have he4 := k4 _ _ he3 (.inl (by simp))
    have k14 := k13.trans k4.nil
    have hX4 := k4.xt hX3
    refine ⟨_, rfl, x, _, dx, _, rfl, hx4, T.cl_Store, T.a_Store_numbers, (Nat.le_of_ble_eq_true rfl), ?_⟩
    show tSeq _ _ _ _ (upd (upd H3 na (numO P w na [])) x (.ins (C_Store K) dx (putF "numbers" (.ref na) (putF "entries" (.ref ea) []))))
    generalize upd H3 na (numO P w na []) = H4 at hn4 hx4 he4 k14 hX4
    have k5 : Kp [x] H4 (upd H4 x (.ins (C_Store K) dx (putF "numbers" (.ref na) (putF "entries" (.ref ea) [])))) := Kp.ins (by simp) hx4
    have hx5 : (upd H4 x (.ins (C_Store K) dx (putF "numbers" (.ref na) (putF "entries" (.ref ea) [])))) x = some (.ins (C_Store K) dx (putF "numbers" (.ref na) (putF "entries" (.ref ea) []))) := upd_same
    have k15 := k14.trans k5
    have he5 := k5 _ _ he4 (.inl (by simp [ne1]))
    have hn5 := k5 _ _ hn4 (.inl (by simp [ne2]))
    have hX5 := k5.xt hX4
    generalize upd H4 x (.ins (C_Store K) dx (putF "numbers" (.ref na) (putF "entries" (.ref ea) []))) = H5 at k5 hx5 k15 he5 hn5 hX5
    refine ⟨zle (Nat.le_of_ble_eq_true rfl), fun sa hsa => ?_⟩
    have ne4 : sa ≠ x := by rintro rfl; rw [hx5] at hsa; cases hsa
    have ne5 : sa ≠ ea := by rintro rfl; rw [he5] at hsa; cases hsa
    have ne6 : sa ≠ na := by rintro rfl; rw [hn5] at hsa; cases hsa
    have hsa0 : H sa = none := k15.free (by simp [ne4]) hsa
    have k6 : Sm H5 (upd H5 sa (.lst [.int 1])) := Kp.new hsa
    have hs6 : (upd H5 sa (.lst [.int 1])) sa = some (.lst [.int 1]) := upd_same
    have hx6 := k6 _ _ hx5 (.inl (by simp))
    refine ⟨_, rfl, x, _, dx, _, rfl, hx6, T.cl_Store, T.a_Store_sizes, (Nat.le_of_ble_eq_true rfl), ?_⟩
    have he6 := k6 _ _ he5 (.inl (by simp))
    have hn6 := k6 _ _ hn5 (.inl (by simp))
    have hX6 := k6.xt hX5
    have k16 := k15.trans k6.nil
    generalize upd H5 sa (.lst [.int 1]) = H6 at hs6 hx6 he6 hn6 hX6 k16
    have k7 : Kp [x] H6 (upd H6 x (.ins (C_Store K) dx (putF "sizes" (.ref sa) (putF "numbers" (.ref na) (putF "entries" (.ref ea) []))))) := Kp.ins (by simp) hx6
    have hx7 : (upd H6 x (.ins (C_Store K) dx (putF "sizes" (.ref sa) (putF "numbers" (.ref na) (putF "entries" (.ref ea) []))))) x = some (.ins (C_Store K) dx (putF "sizes" (.ref sa) (putF "numbers" (.ref na) (putF "entries" (.ref ea) [])))) := upd_same
    have k17 := k16.trans k7
    have he7 := k7 _ _ he6 (.inl (by simp [ne1]))
    have hn7 := k7 _ _ hn6 (.inl (by simp [ne2]))
    have hs7 := k7 _ _ hs6 (.inl (by simp [ne4]))
    have hX7 := k7.xt hX6
    generalize upd H6 x (.ins (C_Store K) dx (putF "sizes" (.ref sa) (putF "numbers" (.ref na) (putF "entries" (.ref ea) [])))) = H7 at k7 hx7 k17 he7 hn7 hs7 hX7
    refine ⟨zle (Nat.le_of_ble_eq_true rfl), fun da hda => ?_⟩
    have ne7 : da ≠ x := by rintro rfl; rw [hx7] at hda; cases hda
    have ne8 : da ≠ ea := by rintro rfl; rw [he7] at hda; cases hda
    have ne9 : da ≠ na := by rintro rfl; rw [hn7] at hda; cases hda
    have ne10 : da ≠ sa := by rintro rfl; rw [hs7] at hda; cases hda
    have hda0 : H da = none := k17.free (by simp [ne7]) hda
    have k8 : Sm H7 (upd H7 da (.lst [.int 1])) := Kp.new hda
    have hd8 : (upd H7 da (.lst [.int 1])) da = some (.lst [.int 1]) := upd_same
    have hx8 := k8 _ _ hx7 (.inl (by simp))
    refine ⟨_, rfl, x, _, dx, _, rfl, hx8, T.cl_Store, T.a_Store_depths, (Nat.le_of_ble_eq_true rfl), ?_⟩
    have he8 := k8 _ _ he7 (.inl (by simp))
    have hn8 := k8 _ _ hn7 (.inl (by simp))
    have hs8 := k8 _ _ hs7 (.inl (by simp))
    have hX8 := k8.xt hX7
    have k18 := k17.trans k8.nil
    generalize upd H7 da (.lst [.int 1]) = H8 at hd8 hx8 he8 hn8 hs8 hX8 k18
    have k9 : Kp [x] H8 (upd H8 x (.ins (C_Store K) dx (putF "depths" (.ref da) (putF "sizes" (.ref sa) (putF "numbers" (.ref na) (putF "entries" (.ref ea) [])))))) := Kp.ins (by simp) hx8
    refine q ⟨x, ea, na, sa, da⟩ _ rfl (k18.trans k9) (fun b hb => ?_) ?_
    · simp only [SA.F, List.mem_cons, List.not_mem_nil, or_false] at hb
      rcases hb with rfl | rfl | rfl | rfl
      · exact hea0
      · exact hna0
      · exact hsa0
      · exact hda0
    · refine ⟨[.ref p1], [], ⟨dx, _, upd_same, ?_, ?_, ?_, ?_, ?_⟩, k9 _ _ he8 (.inl (by simp [ne1])), k9 _ _ hn8 (.inl (by simp [ne2])), hsys, k9 _ _ hs8 (.inl (by simp [ne4])), k9 _ _ hd8 (.inl (by simp [ne7])), rfl, rfl, ⟨(fun p hp => by cases hp), List.nodup_nil⟩, ?_, rfl, ⟨p1, rfl, k9.xt hX8⟩, (fun i k v h => by cases h), (fun i a b v h => by cases h), Ne.symm ne3, Ne.symm ne5, Ne.symm ne8, Ne.symm ne6, Ne.symm ne9, Ne.symm ne10⟩
      · rfl
      · rfl
      · rfl
      · rfl
      · constructor <;> rfl
      · intro i j t h1 h2
        cases i with
        | succ i => cases h1
        | zero =>
          cases j with
          | succ j => cases h2
          | zero => rfl
end
end G
set_option maxRecDepth 100000
set_option maxHeartbeats 4000000
/-! F4d: Store.put. -/
namespace G
open PySem PySem.Spec PyProof.Rows L2
def finP : List (T × Bool) → List T → Option (List T)
  | [], ms => some ms
  | (t, false) :: ws, ms => finP ws (t :: ms)
  | (.l xs, true) :: ws, ms => if xs.length ≤ ms.length then finP ws (.l (ms.take xs.length) :: ms.drop xs.length) else none
  | (.w _, true) :: _, _ => none
mutual
def cT : T → Nat
  | .w _ => 2
  | .l xs => 2 + cTs xs
def cTs : List T → Nat
  | [] => 0
  | x :: xs => cT x + 1 + cTs xs
end
mutual
theorem cT_parts : ∀ t : T, cT t + 1 ≤ 3 * t.parts
  | .w _ => Nat.le_refl 3
  | .l xs => by
    have := cTs_parts xs
    show 2 + cTs xs + 1 ≤ 3 * (1 + T.partsL xs)
    omega
theorem cTs_parts : ∀ xs : List T, cTs xs ≤ 3 * T.partsL xs
  | [] => Nat.le_refl 0
  | x :: xs => by
    have h1 := cT_parts x
    have h2 := cTs_parts xs
    show cT x + 1 + cTs xs ≤ 3 * (x.parts + T.partsL xs)
    omega
end
theorem cTs_len : ∀ xs : List T, xs.length ≤ cTs xs
  | [] => Nat.le_refl 0
  | x :: xs => by
    have := cTs_len xs
    show xs.length + 1 ≤ cT x + 1 + cTs xs
    omega
theorem cT_pos : ∀ t : T, 2 ≤ cT t
  | .w _ => Nat.le_refl 2
  | .l xs => by show 2 ≤ 2 + cTs xs; omega
def muT : List (T × Bool) → Nat
  | [] => 0
  | (t, false) :: ws => cT t + muT ws
  | (.l xs, true) :: ws => 1 + xs.length + muT ws
  | (.w _, true) :: ws => 1 + muT ws
theorem muT_cons (q : T × Bool) (ws : List (T × Bool)) : muT (q :: ws) = muT [q] + muT ws := by
  obtain ⟨t, b⟩ := q
  cases b with
  | false => rfl
  | true =>
    cases t with
    | w s => rfl
    | l xs =>
      show 1 + xs.length + muT ws = 1 + xs.length + 0 + muT ws
      omega
theorem muT_app : ∀ a b : List (T × Bool), muT (a ++ b) = muT a + muT b
  | [], b => by simp [muT]
  | q :: a, b => by
    rw [List.cons_append, muT_cons, muT_app a b, muT_cons q a]
    omega
theorem muT_len : ∀ a : List (T × Bool), a.length ≤ muT a
  | [] => Nat.zero_le _
  | (t, b) :: a => by
    have h1 := muT_len a
    rw [muT_cons, List.length_cons]
    have h2 : 1 ≤ muT [(t, b)] := by
      cases b with
      | false =>
        have := cT_pos t
        show 1 ≤ cT t + 0
        omega
      | true =>
        cases t with
        | w s => exact Nat.le_refl 1
        | l xs =>
          show 1 ≤ 1 + xs.length + 0
          omega
    omega
def lowT (xs : List T) : List (T × Bool) := xs.map fun x => (x, false)
theorem muT_low : ∀ xs : List T, muT (lowT xs) + xs.length = cTs xs
  | [] => rfl
  | x :: xs => by
    have := muT_low xs
    show cT x + muT (lowT xs) + (xs.length + 1) = cT x + 1 + cTs xs
    omega
theorem finP_low (ws : List (T × Bool)) : ∀ (xs ms : List T), finP ((lowT xs).reverse ++ ws) ms = finP ws (xs ++ ms) := by
  intro xs
  induction xs generalizing ws with
  | nil => intro ms; rfl
  | cons x xs ih =>
    intro ms
    show finP (((x, false) :: lowT xs).reverse ++ ws) ms = _
    rw [List.reverse_cons, List.append_assoc, ih]
    rfl
theorem finP_l (xs : List T) (ws : List (T × Bool)) (ms : List T) : finP ((lowT xs).reverse ++ ((.l xs, true) :: ws)) ms = finP ((.l xs, false) :: ws) ms := by
  rw [finP_low]
  show (if xs.length ≤ _ then finP ws _ else none) = finP ws _
  rw [if_pos (by rw [List.length_append]; omega), List.take_left' rfl, List.drop_left' rfl]
def AtQ (K : PySem.W.Frag) (H : Hp) (p : T × Bool) (v : V) : Prop := ∃ a x, v = .ref a ∧ XT K H a [x, .bl p.2] ∧ At K H p.1 x
theorem AtQ.kp {K : PySem.W.Frag} {F : List Addr} {H H' : Hp} (k : Kp F H H') (p : T × Bool) (v : V) (h : AtQ K H p v) : AtQ K H' p v := by
  obtain ⟨a, x, rfl, h1, h2⟩ := h
  exact ⟨a, x, rfl, k.xt h1, k.at_ h2⟩
theorem AtQ.new {K : PySem.W.Frag} {H : Hp} {e : T} {b : Bool} {x : V} {p : Addr} {o : Obj} (h : At K H e x) (hp : H p = none) (ho : o.dict = none) : AtQ K (upd H p (.frz o (.tup [x, .bl b]))) (e, b) (.ref p) :=
  ⟨p, x, rfl, XT.new ho, (Kp.new (F := []) hp).at_ h⟩
section
variable {P : Program} {w : World} {K : PySem.W.Frag} {mg : Str → Option Value} {base : Heap}
def sp_Store_put (P : Program) (w : World) (K : PySem.W.Frag) : Sp := fun vs H Q _ => ∃ A S t v, vs = [.ref A.a, v] ∧ StoreAt P w K H A S ∧ At K H t v ∧ S.length + cT t ≤ 8000000 ∧ ansN P w K A S t (cT t) H Q
theorem sc_Store_put : FnScope ["self", "value", "waiting", "made", "one", "is_ready", "found", "items", "item", "_"] ["self", "value"] (defScope s_Store_put) := ⟨rfl, rfl, rfl, by decide +kernel, rfl, by decide +kernel, by decide +kernel⟩
theorem f_Store_put (T : Txt w K mg) : Mtb P w K mg base (C_Store K) "put" 2 ["self", "value"] (sp_Store_put P w K) := by
  have F_Store_number_of : Mtb P w K mg base (C_Store K) "number_of" 1 ["self", "entry"] (sp_Store_number_of P w K) := f_Store_number_of T
  refine T.d_Store_put.mtb sc_Store_put (fun _ _ _ _ _ _ us hl => match us, hl with | [_, _], _ => rfl) (fun vs H Q E h => ?_) (fun f cdv A outer s H vs Q E hr h => ?_)
  · obtain ⟨_, _, _, _, rfl, _⟩ := h
    rfl
  · obtain ⟨A0, S, t0, v0, rfl, hS, hv0, hz, q⟩ := h
    have hu := hu_of hr
    refine ⟨_, (pss_cons (ps_set (i := 2) sc_Store_put.nd rfl (Or.inl rfl) (pe_lst (pa_cons (pe_tupX (pa_cons (pv 1) (pa_cons pe_bl pa_nil))) pa_nil)))
      (pss_cons (ps_set (i := 3) sc_Store_put.nd rfl (Or.inr rfl) (pe_lst pa_nil))
      (pss_cons (ps_while PassesOwn.never (pt_cmpR op_gt (pe_callB call_len_seq (by rfl) T.n_len PySem.boot_len (pa_cons (pv 2) pa_nil)) pe_int (nomark _)) (pss_cons (ps_asg (pe_bm0 PySem.F.plainAttrs_list PySem.F.slot_list_pop PySem.F.type_list_pop mt_pop (pv 2)) (pg_tupK K rfl 2 rfl (pgs_cons (pg_name (i := 4) sc_Store_put.nd rfl (Or.inl rfl)) (pgs_cons (pg_name (i := 5) sc_Store_put.nd rfl (Or.inl rfl)) pgs_nil))))
      (pss_one (ps_if (pt_val (pe_callB call_isS (by rfl) T.n_isinstance PyProof.Rows.boot_isinstance (pa_cons (pv 4) (pa_cons (pe_bltn (v := .ty "str") rfl T.n_str PyProof.Rows.boot_str rfl) pa_nil)))) (pss_one (ps_expr (pe_bm PySem.F.plainAttrs_list PySem.F.slot_list_append PySem.F.type_list_append mt_append (pv 3) (pa_cons (pe_m (pv 0) T.cl_Store F_Store_number_of (hr.mono (by decide)) (pa_cons (pv 4) pa_nil)) pa_nil)))) (pss_one (ps_if (pt_not (pt_val (pv 5))) (pss_cons (ps_expr (pe_bm PySem.F.plainAttrs_list PySem.F.slot_list_append PySem.F.type_list_append mt_append (pv 2) (pa_cons (pe_tupX (pa_cons (pv 4) (pa_cons pe_bl pa_nil))) pa_nil)))
      (pss_one (ps_expr (pe_bm PySem.F.plainAttrs_list PySem.F.slot_list_extend PySem.F.type_list_extend mt_extend (pv 2) (pa_cons (pe_lc (own := [("item", 8)]) rfl sc_Store_put.nd (pi_tup (pv 4)) (blkOk_by (N := ["self", "value", "waiting", "made", "one", "is_ready", "found", "items", "item", "_"]) (sc := defScope s_Store_put) (by decide +kernel)) (fun _ _ _ _ _ => (pg_name (i := 8) sc_Store_put.nd rfl (Or.inl rfl))) (fun _ _ _ _ _ => pts_nil) (fun _ _ _ _ _ => (pe_tupX (pa_cons (pv 8) (pa_cons pe_bl pa_nil))))) pa_nil))))) (pss_cons (ps_set (i := 6) sc_Store_put.nd rfl (Or.inl rfl) (pe_gi T.c_EMPTY))
      (pss_cons (ps_setLc (i := 7) (own := [("_", 9)]) rfl sc_Store_put.nd rfl rfl (sw_true rfl rfl rfl (by decide +kernel)) (pi_tup (pv 4)) (blkOk_by (N := ["self", "value", "waiting", "made", "one", "is_ready", "found", "items", "item", "_"]) (sc := defScope s_Store_put) (by decide +kernel)) (fun _ _ _ _ _ => (pg_name (i := 9) sc_Store_put.nd rfl (Or.inl rfl))) (fun _ _ _ _ _ => pts_nil) (fun _ _ _ _ _ => (pe_K (te := fun K => tBM0 K "list" rPop (tVar 3)) K rfl <| pe_bm0 PySem.F.plainAttrs_list PySem.F.slot_list_pop PySem.F.type_list_pop mt_pop (pv 3))))
      (pss_cons (ps_for PassesOwn.never rfl (pi_reversed (by rfl) T.n_reversed (pa_cons (pv 7) pa_nil)) (pg_name (i := 8) sc_Store_put.nd rfl (Or.inl rfl)) (pss_one (ps_set (i := 6) sc_Store_put.nd rfl (Or.inl rfl) (pe_m (pv 0) T.cl_Store F_Store_number_of (hr.mono (by decide)) (pa_cons (pe_tup (pa_cons (pv 8) (pa_cons (pv 6) pa_nil))) pa_nil)))))
      (pss_one (ps_expr (pe_bm PySem.F.plainAttrs_list PySem.F.slot_list_append PySem.F.type_list_append mt_append (pv 3) (pa_cons (pv 6) pa_nil)))))))))))))
      (pss_one (ps_ret (pe_ix ix_list (pv 3) pe_int (fun _ _ => rfl))))))), ?_⟩
    refine ⟨_, rfl, zle (Nat.le_of_ble_eq_true rfl), fun p1 o1 hp1 ho1 => ⟨zle (Nat.le_of_ble_eq_true rfl), fun wq hwq => ⟨zle (Nat.le_of_ble_eq_true rfl), fun mq hmq => ?_⟩⟩⟩
    have k1 : Sm H (upd H p1 (.frz o1 (.tup [v0, .bl false]))) := Kp.new hp1
    have a1 : AtQ K (upd H p1 (.frz o1 (.tup [v0, .bl false]))) (t0, false) (.ref p1) := AtQ.new hv0 hp1 ho1
    generalize upd H p1 (.frz o1 (.tup [v0, .bl false])) = H1 at hwq hmq k1 a1
    have hw0 : H wq = none := k1.none hwq
    have k2 : Sm H1 (upd H1 wq (.lst [.ref p1])) := Kp.new hwq
    have hm0 : H mq = none := (k1.trans k2).none hmq
    have hne : mq ≠ wq := by
      rintro rfl
      rw [upd_same] at hmq
      cases hmq
    have hW0 : (upd (upd H1 wq (.lst [.ref p1])) mq (.lst [])) wq = some (.lst [.ref p1]) := by
      rw [upd_ne (Ne.symm hne), upd_same]
    have k3 : Sm (upd H1 wq (.lst [.ref p1])) (upd (upd H1 wq (.lst [.ref p1])) mq (.lst [])) := Kp.new hmq
    obtain ⟨fw1, fw2⟩ := hS.fresh hw0
    obtain ⟨fm1, fm2⟩ := hS.fresh hm0
    refine ⟨fun m σ H' => ∃ v4 v5 v6 v7 v8 v9, ∃ (W : List (G.T × Bool)) (M S' : List G.T) (us ms : List V), σ = [some (.ref A0.a), some v0, some (.ref wq), some (.ref mq), v4, v5, v6, v7, v8, v9] ∧ Kp A0.F H H' ∧ StoreAt P w K H' A0 S' ∧ S <+: S' ∧ H' wq = some (.lst us) ∧ H' mq = some (.lst ms) ∧ A2 (AtQ K H') W us ∧ A2 (NumT S') M ms ∧
        finP W.reverse M.reverse = some [t0] ∧ m = muT W ∧ S'.length + m ≤ S.length + cT t0 ∧ m + M.length ≤ cT t0,
      ⟨_, none, none, none, none, none, none, [(t0, false)], [], S, [.ref p1], [], rfl, ((k1.trans k2).trans k3).nil, hS.sm ((k1.trans k2).trans k3), List.prefix_refl _, hW0, upd_same, A2.one (AtQ.kp (k2.trans k3) _ _ a1), rfl, rfl, rfl, by show S.length + (cT t0 + 0) ≤ _; omega, by show cT t0 + 0 + 0 ≤ _; omega⟩, ?_⟩
    rintro m σ Ha ⟨v4, v5, v6, v7, v8, v9, W, M, S1, us, ms, rfl, kA, hS1, hp1', hW, hM, aW, aM, hfin, rfl, hm, hm2⟩
    have hlu := aW.len
    refine ⟨_, rfl, wq, us, rfl, .inl (sq_lst hW), _, _, rfl, rfl, _, rfl, ?_⟩
    rcases List.eq_nil_or_concat W with e | ⟨W0, x, e⟩
    · subst e
      have hu0 : us.length = 0 := hlu
      rw [hu0]
      refine iteF ?_
      have hfin2 : some M.reverse = some [t0] := hfin
      have hM2 : M = [t0] := by
        have := Option.some.inj hfin2
        rw [← List.reverse_reverse M, this]
        rfl
      subst hM2
      obtain ⟨x, r, rfl, hx, hr2⟩ := aM
      rw [show r = [] from hr2] at hM
      obtain ⟨n, rfl, hn⟩ := hx
      exact ⟨_, rfl, mq, [.int (n : Int)], 0, _, rfl, rfl, sq_lst hM, rfl, q S1 n _ kA hS1 hp1' (by omega) hn⟩
    · rw [List.concat_eq_append] at e
      subst e
      obtain ⟨us0, v, rfl, aW0, av⟩ := aW.snoc
      have hpos : decide ((((us0 ++ [v]).length : Nat) : Int) > 0) = true := decide_eq_true (by rw [List.length_append, List.length_singleton]; omega)
      rw [hpos]
      refine iteT ⟨_, fun σ' H' h => h, ?_⟩
      obtain ⟨x, b⟩ := x
      rw [List.reverse_append] at hfin
      have hfin : finP ((x, b) :: W0.reverse) M.reverse = some [t0] := hfin
      have hmu : muT (W0 ++ [(x, b)]) = muT W0 + muT [(x, b)] := muT_app _ _
      refine ⟨_, rfl, tyL hW, wq, us0 ++ [v], v, rfl, rfl, hW, last_at _ _, ?_⟩
      rw [dl_at]
      have kB : Kp [wq] Ha (upd Ha wq (.lst us0)) := Kp.own hW
      have kAB : Kp A0.F H (upd Ha wq (.lst us0)) := kA.set hw0
      have hSB : StoreAt P w K (upd Ha wq (.lst us0)) A0 S1 := hS1.upd hS hw0 kB
      have hWB : (upd Ha wq (.lst us0)) wq = some (.lst us0) := upd_same
      have hMB : (upd Ha wq (.lst us0)) mq = some (.lst ms) := by rw [upd_ne hne]; exact hM
      have aW0 := aW0.mono (AtQ.kp kB)
      have av := AtQ.kp kB _ _ av
      generalize upd Ha wq (.lst us0) = Hb at kAB hSB hWB hMB aW0 av
      obtain ⟨pa, xv, rfl, hX, hxv⟩ := av
      have hxv : At K Hb x xv := hxv
      have hlM := aM.len
      have hlW := aW0.len
      have hlW2 := muT_len W0
      refine ⟨pa, _, rfl, hX.sq, rfl, _, _, rfl, _, _, rfl, rfl, ?_⟩
      refine ⟨_, rfl, xv, x, rfl, hxv, ?_⟩
      obtain ⟨ents, ks, hB⟩ := id hSB
      obtain ⟨dx, fs, ho, l1, l2, l3, l4, nm⟩ := hB.ob
      cases x with
      | w s =>
        obtain rfl := at_w hxv
        have hb : b = false := by
          cases b with
          | false => rfl
          | true => cases hfin
        subst hb
        have hmx : muT [(G.T.w s, false)] = 2 := rfl
        refine ⟨_, rfl, iteT ?_⟩
        refine ⟨_, rfl, tyL hMB, _, rfl, A0.a, dx, fs, rfl, ho, nm.m_number_of, _, rfl, .str s, A0, S1, .w s, Sum.inl s, rfl, hSB, rfl, rfl, by omega, fun S2 n H2 k2 hS2 pre hl2 hn => ?_⟩
        have hM2 := k2.keep hMB fm2
        have hW2 := k2.keep hWB fw2
        refine ⟨mq, ms, .int (n : Int), rfl, rfl, hM2, by rw [sizeLine_eq]; omega, ?_⟩
        have k5 : Kp [mq] H2 (upd H2 mq (.lst (ms ++ [.int (n : Int)]))) := Kp.own hM2
        refine ⟨muT W0, by omega, _, _, _, _, _, _, W0, M ++ [.w s], S2, us0, _, rfl, (kAB.trans k2).set hm0, hS2.upd hS hm0 k5, hp1'.trans pre, by rw [upd_ne (Ne.symm hne)]; exact hW2, upd_same, (aW0.mono (AtQ.kp k2)).mono (AtQ.kp k5), (aM.mono (NumT.mono pre)).app (A2.one ⟨n, rfl, hn⟩), ?_, rfl, by omega, by rw [List.length_append, List.length_singleton]; omega⟩
        rw [List.reverse_append]
        exact hfin
      | l xs =>
        refine ⟨_, rfl, iteF ?_⟩
        cases b with
        | false =>
          have hmx : muT [(G.T.l xs, false)] = 2 + cTs xs := rfl
          have hml := muT_low xs
          have hlx := cTs_len xs
          refine ⟨_, rfl, _, rfl, iteT ?_⟩
          refine ⟨_, rfl, tyL hWB, _, rfl, zle (Nat.le_of_ble_eq_true rfl), fun p2 o2 hp2 ho2 => ?_⟩
          have kC : Sm Hb (upd Hb p2 (.frz o2 (.tup [xv, .bl true]))) := Kp.new hp2
          have aN : AtQ K (upd Hb p2 (.frz o2 (.tup [xv, .bl true]))) (.l xs, true) (.ref p2) := AtQ.new hxv hp2 ho2
          generalize upd Hb p2 (.frz o2 (.tup [xv, .bl true])) = Hc at kC aN
          have hWC := kC _ _ hWB (.inl (by simp))
          have hMC := kC _ _ hMB (.inl (by simp))
          have aW1 := aW0.mono (AtQ.kp kC)
          have hxv1 := kC.at_ hxv
          refine ⟨wq, us0, .ref p2, rfl, rfl, hWC, by rw [sizeLine_eq]; omega, ?_⟩
          have kD : Kp [wq] Hc (upd Hc wq (.lst (us0 ++ [.ref p2]))) := Kp.own hWC
          have kAD : Kp A0.F H (upd Hc wq (.lst (us0 ++ [.ref p2]))) := (kAB.trans kC.nil).set hw0
          have hSD : StoreAt P w K (upd Hc wq (.lst (us0 ++ [.ref p2]))) A0 S1 := (hSB.sm kC).upd hS hw0 kD
          have hWD : (upd Hc wq (.lst (us0 ++ [.ref p2]))) wq = some (.lst (us0 ++ [.ref p2])) := upd_same
          have hMD : (upd Hc wq (.lst (us0 ++ [.ref p2]))) mq = some (.lst ms) := by rw [upd_ne hne]; exact hMC
          have aW2 := (aW1.app (A2.one aN)).mono (AtQ.kp kD)
          have hxv2 := kD.at_ hxv1
          generalize upd Hc wq (.lst (us0 ++ [.ref p2])) = Hd at kAD hSD hWD hMD aW2 hxv2
          obtain ⟨p3, xs3, rfl, hX3, hA3⟩ := id hxv2
          have hl3 : xs3.length = xs.length := aa_len hA3
          refine ⟨_, rfl, tyL hWD, _, rfl, p3, rfl, ⟨xs3, hX3.sq⟩, fun D hD => lc_y walk_tup (fun i H' => Sm Hd H' ∧ ∃ acc, H' D = some (.lst acc) ∧ A2 (AtQ K H') (lowT (xs.take i)) acc) ⟨Kp.new hD, [], upd_same, rfl⟩ (fun i H' _ ⟨k, _⟩ => (k.xt hX3).sq) ?_ ?_⟩
          · rintro i x H5 H4 hi ⟨k4, acc, hacc, aacc⟩ ⟨rfl, hx4⟩
            obtain ⟨a4, ha4, hAt4⟩ := aa_at hA3 hx4
            refine ⟨rfl, _, rfl, zle (Nat.le_of_ble_eq_true rfl), fun p6 o6 hp6 ho6 => ?_⟩
            have k6 : Sm H4 (upd H4 p6 (.frz o6 (.tup [x, .bl false]))) := Kp.new hp6
            have aN6 : AtQ K (upd H4 p6 (.frz o6 (.tup [x, .bl false]))) (a4, false) (.ref p6) := AtQ.new (k4.at_ hAt4) hp6 ho6
            have hacc6 := k6 _ _ hacc (.inl (by simp))
            have e4 : lowT (xs.take (i + 1)) = lowT (xs.take i) ++ [(a4, false)] := by
              rw [List.take_add_one, ha4]
              show (xs.take i ++ [a4]).map _ = _
              rw [List.map_append]
              rfl
            have hla := aacc.len
            have hll : (lowT (xs.take i)).length ≤ xs.length := by
              show (List.map _ _).length ≤ _
              rw [List.length_map, List.length_take]
              omega
            have k7 : Kp [D] (upd H4 p6 (.frz o6 (.tup [x, .bl false]))) (upd (upd H4 p6 (.frz o6 (.tup [x, .bl false]))) D (.lst (acc ++ [.ref p6]))) := Kp.own hacc6
            refine ⟨acc, hacc6, by rw [sizeLine_eq]; omega, (k4.trans k6).set hD, _, upd_same, ?_⟩
            rw [e4]
            exact ((aacc.mono (AtQ.kp k6)).app (A2.one aN6)).mono (AtQ.kp k7)
          · rintro H4 ⟨k4, acc, hacc, aacc⟩
            rw [hl3, List.take_length] at aacc
            have hWE := k4 _ _ hWD (.inl (by simp))
            have hME := k4 _ _ hMD (.inl (by simp))
            have hla := aacc.len
            have hll : (lowT xs).length = xs.length := List.length_map _
            refine ⟨wq, D, us0 ++ [.ref p2], acc, rfl, rfl, hWE, hacc, by rw [List.length_append, List.length_singleton, sizeLine_eq]; omega, ?_⟩
            have k5 : Kp [wq] H4 (upd H4 wq (.lst (us0 ++ [.ref p2] ++ acc))) := Kp.own hWE
            have hmz : muT (W0 ++ [(.l xs, true)] ++ lowT xs) = muT W0 + (1 + xs.length) + muT (lowT xs) := by
              rw [muT_app, muT_app]
              rfl
            refine ⟨muT (W0 ++ [(.l xs, true)] ++ lowT xs), by omega, _, _, _, _, _, _, W0 ++ [(.l xs, true)] ++ lowT xs, M, S1, _, ms, rfl, (kAD.trans k4.nil).set hw0, (hSD.sm k4).upd hS hw0 k5, hp1', upd_same, by rw [upd_ne hne]; exact hME, ?_, aM, ?_, rfl, by omega, by omega⟩
            · exact ((aW2.mono (AtQ.kp k4)).app aacc).mono (AtQ.kp k5)
            · rw [List.reverse_append, List.reverse_append]
              show finP ((lowT xs).reverse ++ ((G.T.l xs, true) :: W0.reverse)) M.reverse = _
              rw [finP_l]
              exact hfin
        | true =>
          have hmx : muT [(G.T.l xs, true)] = 1 + xs.length := rfl
          refine ⟨_, rfl, _, rfl, iteF ?_⟩
          have hlr : xs.length ≤ M.reverse.length := by
            by_cases z : xs.length ≤ M.reverse.length
            · exact z
            · have : finP ((.l xs, true) :: W0.reverse) M.reverse = none := if_neg z
              rw [hfin] at this
              cases this
          have hfin2 : finP W0.reverse (.l (M.reverse.take xs.length) :: M.reverse.drop xs.length) = some [t0] := by
            rw [← hfin]
            exact (if_pos hlr).symm
          obtain ⟨p3, xs3, rfl, hX3, hA3⟩ := id hxv
          have hl3 : xs3.length = xs.length := aa_len hA3
          have hMsplit : M = (M.reverse.drop xs.length).reverse ++ (M.reverse.take xs.length).reverse := by
            rw [← List.reverse_append, List.take_append_drop, List.reverse_reverse]
          have hRl : (M.reverse.take xs.length).length = xs.length := by rw [List.length_take]; omega
          have hM0l : (M.reverse.drop xs.length).length + xs.length = M.length := by
            rw [List.length_drop, List.length_reverse]
            rw [List.length_reverse] at hlr
            omega
          generalize hR : M.reverse.take xs.length = R at hMsplit hRl hfin2
          generalize hM0 : M.reverse.drop xs.length = M0 at hMsplit hM0l hfin2
          rw [hMsplit] at aM
          refine ⟨_, rfl, p3, rfl, ⟨xs3, hX3.sq⟩, fun D hD => lc_y walk_tup (fun i H' => ∃ acc ms', Kp [mq] Hb H' ∧ Kp A0.F H H' ∧ StoreAt P w K H' A0 S1 ∧ H' D = some (.lst acc) ∧ H' mq = some (.lst ms') ∧ H' wq = some (.lst us0) ∧ A2 (NumT S1) (R.take i) acc ∧ A2 (NumT S1) (M0.reverse ++ (R.drop i).reverse) ms') ?_ (fun i H' _ ⟨_, _, k, _⟩ => (k.xt hX3).sq) ?_ ?_⟩
          · have hDm : mq ≠ D := by
              rintro rfl
              rw [hMB] at hD
              cases hD
            have hDw : wq ≠ D := by
              rintro rfl
              rw [hWB] at hD
              cases hD
            have kE : Sm Hb (upd Hb D (.lst [])) := Kp.new hD
            exact ⟨[], ms, kE.nil, kAB.trans kE.nil, hSB.sm kE, upd_same, by rw [upd_ne hDm]; exact hMB, by rw [upd_ne hDw]; exact hWB, rfl, aM⟩
          · rintro i x H5 H4 hi ⟨acc, ms', k4, kAE, hSE, hacc, hME, hWE, aacc, aMs⟩ ⟨rfl, hx4⟩
            have hi2 : i < R.length := by omega
            have eR : R.drop i = R[i] :: R.drop (i + 1) := List.drop_eq_getElem_cons hi2
            have eT : R.take (i + 1) = R.take i ++ [R[i]] := by
              rw [List.take_add_one, List.getElem?_eq_getElem hi2]
              rfl
            rw [eR, List.reverse_cons, ← List.append_assoc] at aMs
            obtain ⟨ms0, y, rfl, aMs0, hy⟩ := aMs.snoc
            have hDm : mq ≠ D := by
              rintro rfl
              rw [hMB] at hD
              cases hD
            have hDw : wq ≠ D := by
              rintro rfl
              rw [hWB] at hD
              cases hD
            have hD0 : H D = none := by
              have := hSB.fresh hD
              exact kAB.free this.2 hD
            refine ⟨rfl, _, rfl, tyL hME, mq, _, y, rfl, rfl, hME, last_at _ _, ?_⟩
            rw [dl_at]
            have k5 : Kp [mq] H4 (upd H4 mq (.lst ms0)) := Kp.own hME
            have hacc5 : (upd H4 mq (.lst ms0)) D = some (.lst acc) := by rw [upd_ne (Ne.symm hDm)]; exact hacc
            have hla := aacc.len
            rw [List.length_take] at hla
            refine ⟨acc, hacc5, by rw [sizeLine_eq]; omega, acc ++ [y], ms0, ?_⟩
            have k6 : Kp [D] (upd H4 mq (.lst ms0)) (upd (upd H4 mq (.lst ms0)) D (.lst (acc ++ [y]))) := Kp.own hacc5
            refine ⟨(k4.trans k5).set hD, (kAE.set hm0).set hD0, (hSE.upd hS hm0 k5).upd hS hD0 k6, upd_same, by rw [upd_ne hDm, upd_same], by rw [upd_ne hDw, upd_ne (Ne.symm hne)]; exact hWE, ?_, aMs0⟩
            rw [eT]
            exact aacc.app (A2.one hy)
          · rintro H4 ⟨acc, ms', k4, kAE, hSE, hacc, hME, hWE, aacc, aMs⟩
            rw [hl3, ← hRl, List.take_length] at aacc
            rw [hl3, ← hRl, List.drop_length, List.reverse_nil, List.append_nil] at aMs
            have hlM0 := aMs.len
            rw [List.length_reverse] at hlM0
            have hD0 : H D = none := by
              have := hSB.fresh hD
              exact kAB.free this.2 hD
            obtain ⟨fd1, fd2⟩ := hS.fresh hD0
            have hal := aacc.len
            have aWE := aW0.mono (AtQ.kp k4)
            refine ⟨_, rfl, D, acc, rfl, sq_lst hacc, for_it walk_rev (fun i σ H' => ∃ (n : Nat), ∃ v8 v9, ∃ (S' : List G.T), σ = [some (.ref A0.a), some v0, some (.ref wq), some (.ref mq), some (.ref p3), some (.bl true), some (.int (n : Int)), some (.ref D), v8, v9] ∧ Kp A0.F H H' ∧ Kp A0.F H4 H' ∧ StoreAt P w K H' A0 S' ∧ S1 <+: S' ∧ S'.length ≤ S1.length + i ∧ S'[n]? = some (.l (R.drop (R.length - i)))) ?_ (fun i σ H' _ ⟨_, _, _, _, _, _, k, _⟩ => sq_lst (k.keep hacc fd2)) ?_ ?_⟩
            · obtain ⟨e9, k9, hB9⟩ := id hSE
              refine ⟨0, _, _, S1, rfl, kAE, Kp.refl, hSE, List.prefix_refl _, by omega, ?_⟩
              rw [Nat.sub_zero, List.drop_length]
              exact hB9.z
            · rintro i x σ H5 H6 hi ⟨n, v8, v9, S2, rfl, kF, kG, hS2, pre2, hl2, hn2⟩ ⟨rfl, hx⟩
              obtain ⟨y, hy, n9, rfl, hn9⟩ := aacc.at_ hx
              obtain ⟨e9, k9, hB9⟩ := id hS2
              obtain ⟨dx9, fs9, ho9, _, _, _, _, nm9⟩ := hB9.ob
              refine ⟨_, rfl, A0.a, dx9, fs9, rfl, ho9, nm9.m_number_of, _, rfl, _, rfl, zle (Nat.le_of_ble_eq_true rfl), fun p8 hp8 => ?_⟩
              have k8 : Sm H6 (upd H6 p8 (.tup [.int (n9 : Int), .int (n : Int)])) := Kp.new hp8
              refine ⟨.ref p8, A0, S2, _, Sum.inr ((n9 : Int), (n : Int)), rfl, hS2.sm k8, ⟨p8, rfl, upd_same⟩, ⟨y, _, n9, n, rfl, pre_get pre2 hn9, hn2, rfl⟩, by omega, fun S3 n3 H7 k9 hS3 pre3 hl9 hn3 => ?_⟩
              refine ⟨n3, _, _, S3, rfl, (kF.trans k8.nil).trans k9, (kG.trans k8.nil).trans k9, hS3, pre2.trans pre3, by omega, ?_⟩
              have e2 : R.drop (R.length - (i + 1)) = y :: R.drop (R.length - i) := by
                have hj : R.length - (i + 1) < R.length := by omega
                rw [List.drop_eq_getElem_cons hj, show R.length - (i + 1) + 1 = R.length - i by omega]
                rw [show acc.length - 1 - i = R.length - (i + 1) by omega, List.getElem?_eq_getElem hj] at hy
                rw [Option.some.inj hy]
              rw [e2]
              exact hn3
            · rintro σ H5 ⟨n, v8, v9, S2, rfl, kF, kG, hS2, pre2, hl2, hn2⟩
              rw [hal, Nat.sub_self, List.drop_zero] at hn2
              have hMF := kG.keep hME fm2
              have hWF := kG.keep hWE fw2
              refine ⟨_, rfl, tyL hMF, _, rfl, mq, ms', .int (n : Int), rfl, rfl, hMF, by rw [sizeLine_eq]; omega, ?_⟩
              have k7 : Kp [mq] H5 (upd H5 mq (.lst (ms' ++ [.int (n : Int)]))) := Kp.own hMF
              refine ⟨muT W0, by omega, _, _, _, _, _, _, W0, M0.reverse ++ [.l R], S2, us0, ms' ++ [.int (n : Int)], rfl, kF.set hm0, hS2.upd hS hm0 k7, hp1'.trans pre2, by rw [upd_ne (Ne.symm hne)]; exact hWF, upd_same, ?_, (aMs.mono (NumT.mono pre2)).app (A2.one ⟨n, rfl, hn2⟩), ?_, rfl, by omega, by rw [List.length_append, List.length_singleton, List.length_reverse]; omega⟩
              · exact (aWE.mono (AtQ.kp kG)).mono (AtQ.kp k7)
              · rw [List.reverse_append, List.reverse_reverse]
                exact hfin2
end
end G
set_option maxRecDepth 100000
set_option maxHeartbeats 4000000
/-! F4e: Store.value_of. -/
namespace G
open PySem PySem.Spec PyProof.Rows L2
mutual
def fT : T → Nat
  | .w _ => 3
  | .l xs => 3 + fTs xs
def fTs : List T → Nat
  | [] => 0
  | x :: xs => fT x + fTs xs
end
mutual
theorem fT_parts : ∀ t : T, fT t = 3 * t.parts
  | .w _ => rfl
  | .l xs => by
    have := fTs_parts xs
    show 3 + fTs xs = 3 * (1 + T.partsL xs)
    omega
theorem fTs_parts : ∀ xs : List T, fTs xs = 3 * T.partsL xs
  | [] => rfl
  | x :: xs => by
    have h1 := fT_parts x
    have h2 := fTs_parts xs
    show fT x + fTs xs = 3 * (x.parts + T.partsL xs)
    omega
end
theorem fT_pos : ∀ t : T, 3 ≤ fT t
  | .w _ => Nat.le_refl 3
  | .l xs => by show 3 ≤ 3 + fTs xs; omega
theorem fTs_app : ∀ a b : List T, fTs (a ++ b) = fTs a + fTs b
  | [], b => by simp [fTs]
  | x :: a, b => by
    show fT x + fTs (a ++ b) = fT x + fTs a + fTs b
    rw [fTs_app a b]
    omega
/-- an entry of the waiting list: its tree and how far it is -/
def co (q : T × Nat) : Nat := match q.2 with
  | 0 => fT q.1
  | 1 => 2
  | _ => 1
theorem co_pos (q : T × Nat) : 1 ≤ co q := by
  obtain ⟨t, n⟩ := q
  match n with
  | 0 =>
    have := fT_pos t
    show 1 ≤ fT t
    omega
  | 1 => show 1 ≤ 2; omega
  | n + 2 => exact Nat.le_refl 1
def muV : List (T × Nat) → Nat
  | [] => 0
  | q :: ws => co q + muV ws
theorem muV_app : ∀ a b : List (T × Nat), muV (a ++ b) = muV a + muV b
  | [], b => by simp [muV]
  | q :: a, b => by
    show co q + muV (a ++ b) = co q + muV a + muV b
    rw [muV_app a b]
    omega
theorem muV_len : ∀ a : List (T × Nat), a.length ≤ muV a
  | [] => Nat.zero_le _
  | q :: a => by
    have := muV_len a
    have := co_pos q
    show a.length + 1 ≤ co q + muV a
    omega
def lowV (xs : List T) : List (T × Nat) := xs.map fun x => (x, 0)
theorem muV_low : ∀ xs : List T, muV (lowV xs) = fTs xs
  | [] => rfl
  | x :: xs => by
    show fT x + muV (lowV xs) = fT x + fTs xs
    rw [muV_low xs]
/-- a tree whose number stands in the dict -/
def InB (S : List T) (kvs : List (Key × V)) (t : T) : Prop := ∃ (n : Nat) (v : V), S[n]? = some t ∧ valV kvs (Sum.inl (n : Int)) = some v
def DicOk (K : PySem.W.Frag) (H : Hp) (S : List T) (kvs : List (Key × V)) : Prop := ∀ (n : Nat) (v : V) (t : T), S[n]? = some t → valV kvs (Sum.inl (n : Int)) = some v → At K H t v
/-- what is at work waits for what lies above -/
def Above (S : List T) (kvs : List (Key × V)) : List (T × Nat) → Prop
  | [] => True
  | (t, n) :: r => (n = 1 → ∃ xs, t = .l xs ∧ ∀ x ∈ xs, InB S kvs x ∨ ∃ m, (x, m) ∈ r) ∧ (2 ≤ n → InB S kvs t) ∧ Above S kvs r
theorem InB.put {S : List T} {kvs : List (Key × V)} {t : T} {k : Key} {v : V} (h : InB S kvs t) : InB S (putK kvs k v) t := by
  obtain ⟨n, v', h1, h2⟩ := h
  by_cases e : (Sum.inl (n : Int) : Key) = k
  · exact ⟨n, v, h1, by rw [valV_put, if_pos e]⟩
  · exact ⟨n, v', h1, by rw [valV_put, if_neg e]; exact h2⟩
theorem Above.put {S : List T} {kvs : List (Key × V)} {k : Key} {v : V} : ∀ {ws : List (T × Nat)}, Above S kvs ws → Above S (putK kvs k v) ws
  | [], _ => trivial
  | (t, n) :: r, ⟨h1, h2, h3⟩ => ⟨fun e => (by
      obtain ⟨xs, e1, e2⟩ := h1 e
      exact ⟨xs, e1, fun x hx => (e2 x hx).imp InB.put id⟩), fun e => (h2 e).put, h3.put⟩
theorem Above.pop {S : List T} {kvs : List (Key × V)} {t : T} {n : Nat} (hb : InB S kvs t) : ∀ {ws : List (T × Nat)}, Above S kvs (ws ++ [(t, n)]) → Above S kvs ws
  | [], _ => trivial
  | (u, m) :: r, h => by
    obtain ⟨h1, h2, h3⟩ := (show Above S kvs ((u, m) :: (r ++ [(t, n)])) from h)
    refine ⟨fun e => ?_, h2, h3.pop hb⟩
    obtain ⟨xs, e1, e2⟩ := h1 e
    refine ⟨xs, e1, fun x hx => ?_⟩
    rcases e2 x hx with z | ⟨k, z⟩
    · exact .inl z
    · rcases List.mem_append.mp z with z | z
      · exact .inr ⟨k, z⟩
      · cases List.mem_singleton.mp z
        exact .inl hb
/-- another mark, more above -/
theorem Above.turn {S : List T} {kvs : List (Key × V)} {t : T} {n n' : Nat} {q : List (T × Nat)} (hq : Above S kvs ((t, n') :: q)) : ∀ {ws : List (T × Nat)}, Above S kvs (ws ++ [(t, n)]) → Above S kvs (ws ++ (t, n') :: q)
  | [], _ => hq
  | (u, m) :: r, h => by
    obtain ⟨h1, h2, h3⟩ := (show Above S kvs ((u, m) :: (r ++ [(t, n)])) from h)
    refine ⟨fun e => ?_, h2, Above.turn hq h3⟩
    obtain ⟨xs, e1, e2⟩ := h1 e
    refine ⟨xs, e1, fun x hx => ?_⟩
    rcases e2 x hx with z | ⟨k, z⟩
    · exact .inl z
    · rcases List.mem_append.mp z with z | z
      · exact .inr ⟨k, List.mem_append_left _ z⟩
      · cases List.mem_singleton.mp z
        exact .inr ⟨n', List.mem_append_right _ (List.mem_cons_self ..)⟩
theorem Above.last {S : List T} {kvs : List (Key × V)} {t : T} {n : Nat} : ∀ {ws : List (T × Nat)}, Above S kvs (ws ++ [(t, n)]) → Above S kvs [(t, n)]
  | [], h => h
  | (u, m) :: r, h => Above.last (ws := r) (show Above S kvs ((u, m) :: (r ++ [(t, n)])) from h).2.2
theorem StoreB.len {P : Program} {w : World} {K : PySem.W.Frag} {H : Hp} {A : SA} {S : List T} {ents : List V} {ks : List (NK × V)} (h : StoreB P w K H A S ents ks) : ∀ (xs : List T) (n : Nat), S[n]? = some (.l xs) → xs.length ≤ n
  | [], n, _ => Nat.zero_le _
  | x :: xs, n, hn => by
    obtain ⟨v, _, _, _, hp⟩ := h.ent hn
    obtain ⟨q, a, b, _, _, _, g2, _, l2⟩ := hp x xs rfl
    have := h.len xs b g2
    rw [List.length_cons]
    omega
theorem above_low {S : List T} {kvs : List (Key × V)} : ∀ mt : List T, Above S kvs (lowV mt)
  | [] => trivial
  | y :: mt => ⟨(fun e => by cases e), (fun e => by cases e), above_low mt⟩
section
variable {P : Program} {w : World} {K : PySem.W.Frag} {mg : Str → Option Value} {base : Heap}
def sp_Store_value_of (P : Program) (w : World) (K : PySem.W.Frag) : Sp := fun vs H Q _ => ∃ A S t, ∃ n : Nat, vs = [.ref A.a, .int (n : Int)] ∧ StoreAt P w K H A S ∧ S[n]? = some t ∧ S.length ≤ 8000000 ∧ fT t ≤ 8000000 ∧ ans K t H Q
theorem sc_Store_value_of : FnScope ["self", "number", "built", "waiting", "one", "items", "missing", "item"] ["self", "number"] (defScope s_Store_value_of) := ⟨rfl, rfl, rfl, by decide +kernel, rfl, by decide +kernel, by decide +kernel⟩
theorem f_Store_value_of (T : Txt w K mg) : Mtb P w K mg base (C_Store K) "value_of" 2 ["self", "number"] (sp_Store_value_of P w K) := by
  have F_Store_is_word : Mtb P w K mg base (C_Store K) "is_word" 1 ["self", "number"] (sp_Store_is_word P w K) := f_Store_is_word T
  have F_Store_items_of : Mtb P w K mg base (C_Store K) "items_of" 1 ["self", "number"] (sp_Store_items_of P w K) := f_Store_items_of T
  refine T.d_Store_value_of.mtb sc_Store_value_of (fun _ _ _ _ _ _ us hl => match us, hl with | [_, _], _ => rfl) (fun vs H Q E h => ?_) (fun f cdv A outer s H vs Q E hr h => ?_)
  · obtain ⟨_, _, _, _, rfl, _⟩ := h
    rfl
  · obtain ⟨A0, S, t0, n0, rfl, hS, ht0, hSl, hft, q⟩ := h
    have hu := hu_of hr
    refine ⟨_, (pss_cons (ps_set (i := 2) sc_Store_value_of.nd rfl (Or.inr rfl) (pe_disp (pps_cons (pe_gi T.c_EMPTY) (pe_tupT pa_nil) pps_nil) (by rfl) (by rfl) (fun z => by cases z) (by decide)))
      (pss_cons (ps_set (i := 3) sc_Store_value_of.nd rfl (Or.inl rfl) (pe_lst (pa_cons (pv 1) pa_nil)))
      (pss_cons (ps_while PassesOwn.never (pt_cmpR op_gt (pe_callB call_len_seq (by rfl) T.n_len PySem.boot_len (pa_cons (pv 3) pa_nil)) pe_int (nomark _)) (pss_cons (ps_set (i := 4) sc_Store_value_of.nd rfl (Or.inl rfl) (pe_ix ix_list (pv 3) (pe_un un_neg pe_int) (fun _ _ => rfl)))
      (pss_one (ps_if (pt_cmp (pc_din hu (pv 4) (pv 2))) (pss_one (ps_expr (pe_bm0 PySem.F.plainAttrs_list PySem.F.slot_list_pop PySem.F.type_list_pop mt_pop (pv 3)))) (pss_one (ps_if (pt_val (pe_m (pv 0) T.cl_Store F_Store_is_word (hr.mono (by decide)) (pa_cons (pv 4) pa_nil))) (pss_one (ps_dput hu (pv 2) (pv 4) (pe_ix ix_list (pe_fld (pv 0) rfl) (pv 4) (fun _ _ => rfl)) rfl)) (pss_cons (ps_set (i := 5) sc_Store_value_of.nd rfl (Or.inl rfl) (pe_m (pv 0) T.cl_Store F_Store_items_of (hr.mono (by decide)) (pa_cons (pv 4) pa_nil)))
      (pss_cons (ps_setLc (i := 6) (own := [("item", 7)]) rfl sc_Store_value_of.nd rfl rfl (sw_true rfl rfl rfl (by decide +kernel)) (pi_list (pv 5)) (blkOk_by (N := ["self", "number", "built", "waiting", "one", "items", "missing", "item"]) (sc := defScope s_Store_value_of) (by decide +kernel)) (fun _ _ _ _ _ => (pg_name (i := 7) sc_Store_value_of.nd rfl (Or.inl rfl))) (fun _ _ _ _ _ => (pts_one (pt_cmp (pc_dnotin hu (pv 7) (pv 2))))) (fun _ _ _ _ _ => (pv 7)))
      (pss_cons (ps_if (pt_cmpR op_eq (pe_callB call_len_seq (by rfl) T.n_len PySem.boot_len (pa_cons (pv 6) pa_nil)) pe_int (nomark _)) (pss_one (ps_dput hu (pv 2) (pv 4) (pe_callTy call_tupTr (by rfl) T.n_tuple PyProof.Rows.boot_tuple (pa_cons (pe_lc (own := [("item", 7)]) rfl sc_Store_value_of.nd (pi_list (pv 5)) (blkOk_by (N := ["self", "number", "built", "waiting", "one", "items", "missing", "item"]) (sc := defScope s_Store_value_of) (by decide +kernel)) (fun _ _ _ _ _ => (pg_name (i := 7) sc_Store_value_of.nd rfl (Or.inl rfl))) (fun _ _ _ _ _ => pts_nil) (fun _ _ _ _ _ => (pe_dget hu (pv 2) (pv 7) (fun _ _ => rfl)))) pa_nil)) rfl)) pss_nil)
      (pss_one (ps_expr (pe_bm PySem.F.plainAttrs_list PySem.F.slot_list_extend PySem.F.type_list_extend mt_extend (pv 3) (pa_cons (pv 6) pa_nil)))))))))))))
      (pss_one (ps_ret (pe_dget hu (pv 2) (pv 1) (fun _ _ => rfl))))))), ?_⟩
    obtain ⟨ents0, ks0, hB0⟩ := id hS
    intro d hd
    refine ⟨[], aa_nil, zle (Nat.le_of_ble_eq_true rfl), fun p1 H1 k1 h1 => ?_⟩
    have k0 : Sm H (upd H d (.dK [])) := Kp.new hd
    have hd1 := k1 _ _ (show (upd H d (.dK [])) d = some (.dK []) from upd_same) (.inl (by simp))
    have kA1 : Sm H H1 := k0.trans k1
    refine ⟨hd1, [(Sum.inl 0, .ref p1)], rfl, (Nat.le_of_ble_eq_true rfl), ?_⟩
    have hmk : mergeK [] [((Sum.inl 0 : Key), V.ref p1)] = [((Sum.inl 0 : Key), V.ref p1)] := rfl
    rw [hmk]
    have hd2 : (upd H1 d (.dK [((Sum.inl 0 : Key), V.ref p1)])) d = some (.dK [((Sum.inl 0 : Key), V.ref p1)]) := upd_same
    have kd : Kp [d] H1 (upd H1 d (.dK [((Sum.inl 0 : Key), V.ref p1)])) := Kp.ownD hd1
    have h1d := kd.at_ h1
    have kA2 : Sm H (upd H1 d (.dK [((Sum.inl 0 : Key), V.ref p1)])) := kA1.set hd
    generalize upd H1 d (.dK [((Sum.inl 0 : Key), V.ref p1)]) = H2 at hd2 h1d kA2
    refine ⟨_, rfl, zle (Nat.le_of_ble_eq_true rfl), fun wq hwq => ?_⟩
    have hw0 := kA2.none hwq
    have hwd : wq ≠ d := by
      rintro rfl
      rw [hd2] at hwq
      cases hwq
    have k3 : Sm H2 (upd H2 wq (.lst [.int (n0 : Int)])) := Kp.new hwq
    refine ⟨fun m σ H' => ∃ v4 v5 v6 v7, ∃ (W : List (G.T × Nat)) (us : List V) (kvs : List (Key × V)), σ = [some (.ref A0.a), some (.int (n0 : Int)), some (.ref d), some (.ref wq), v4, v5, v6, v7] ∧ Sm H H' ∧ H' wq = some (.lst us) ∧ H' d = some (.dK kvs) ∧ A2 (fun q => NumT S q.1) W us ∧ DicOk K H' S kvs ∧ Above S kvs W ∧ InB S kvs (.l []) ∧
        ((∃ n, (t0, n) ∈ W) ∨ InB S kvs t0) ∧ m = muV W ∧ m + kvs.length ≤ fT t0 + 1,
      ⟨_, none, none, none, none, [(t0, 0)], [.int (n0 : Int)], _, rfl, kA2.trans k3, upd_same, k3 _ _ hd2 (.inl (by simp)), A2.one ⟨n0, rfl, ht0⟩, ?_, ⟨(fun e => by cases e), (fun e => by cases e), trivial⟩, ⟨0, .ref p1, hB0.z, rfl⟩, .inl ⟨0, List.mem_singleton.mpr rfl⟩, rfl, by show fT t0 + 0 + 1 ≤ _; omega⟩, ?_⟩
    · intro n v t hn hv
      unfold valV at hv
      rw [List.find?_cons] at hv
      by_cases e : n = 0
      · subst e
        rw [hB0.z] at hn
        cases hn
        have : v = .ref p1 := by
          simpa using hv.symm
        subst this
        exact k3.at_ h1d
      · have e2 : decide ((Sum.inl 0 : Key) = Sum.inl (n : Int)) = false := decide_eq_false (fun z => e (by have := Sum.inl.inj z; omega))
        rw [e2] at hv
        cases hv
    rintro m σ Ha ⟨v4, v5, v6, v7, W, us, kvs, rfl, kA, hW, hD, aW, hdic, hab, hnil, hin, rfl, hm⟩
    have hSa := hS.sm kA
    obtain ⟨ents, ks, hB⟩ := id hSa
    obtain ⟨dx, fs, ho, l1, l2, l3, l4, nm⟩ := hB.ob
    have hlu := aW.len
    have hlw := muV_len W
    refine ⟨_, rfl, wq, us, rfl, .inl (sq_lst hW), _, _, rfl, rfl, _, rfl, ?_⟩
    rcases List.eq_nil_or_concat W with e | ⟨W0, x, e⟩
    · subst e
      have hu0 : us.length = 0 := hlu
      rw [hu0]
      refine iteF ?_
      have hb : InB S kvs t0 := by
        rcases hin with ⟨n, z⟩ | z
        · cases z
        · exact z
      obtain ⟨n, v, g1, g2⟩ := hb
      have : n = n0 := hB.nd n n0 t0 g1 ht0
      subst this
      have hg := DGet.k (k := Sum.inl (n : Int)) hD
      rw [g2] at hg
      exact ⟨_, rfl, _, rfl, d, v, rfl, hg, q v _ kA (hdic n v t0 g1 g2)⟩
    · rw [List.concat_eq_append] at e
      subst e
      obtain ⟨us0, v, rfl, aW0, av⟩ := aW.snoc
      have hpos : decide ((((us0 ++ [v]).length : Nat) : Int) > 0) = true := decide_eq_true (by rw [List.length_append, List.length_singleton]; omega)
      rw [hpos]
      refine iteT ⟨_, fun σ' H' h => h, ?_⟩
      obtain ⟨t, fl⟩ := x
      obtain ⟨n, rfl, hn⟩ := av
      have hn : S[n]? = some t := hn
      have hmu : muV (W0 ++ [(t, fl)]) = muV W0 + co (t, fl) := by
        rw [muV_app]
        show muV W0 + (co (t, fl) + 0) = _
        omega
      have hco := co_pos (t, fl)
      rw [List.length_append, List.length_singleton] at hlw
      have hl0 := aW0.len
      refine ⟨_, rfl, 1, rfl, wq, _, -1, _, rfl, rfl, sq_lst hW, atI_last _ _, ?_⟩
      have hg := DGet.k (k := Sum.inl (n : Int)) hD
      refine ⟨_, rfl, _, rfl, d, _, rfl, hg, ?_⟩
      cases hv : valV kvs (Sum.inl (n : Int)) with
      | some v9 =>
        refine ⟨true, rfl, iteT ?_⟩
        refine ⟨_, rfl, tyL hW, wq, _, _, rfl, rfl, hW, last_at _ _, ?_⟩
        rw [dl_at]
        have hb : InB S kvs t := ⟨n, v9, hn, hv⟩
        have kB : Kp [wq] Ha (upd Ha wq (.lst us0)) := Kp.own hW
        refine ⟨muV W0, by omega, _, _, _, _, W0, us0, kvs, rfl, kA.set hw0, upd_same, by rw [upd_ne (Ne.symm hwd)]; exact hD, aW0, fun n v t h1 h2 => kB.at_ (hdic n v t h1 h2), hab.pop hb, hnil, ?_, rfl, by omega⟩
        rcases hin with ⟨k, z⟩ | z
        · rcases List.mem_append.mp z with z | z
          · exact .inl ⟨k, z⟩
          · cases List.mem_singleton.mp z
            exact .inr hb
        · exact .inr z
      | none =>
        refine ⟨false, rfl, iteF ?_⟩
        -- something new in the dict
        have put : ∀ (Hc : Hp) (tv : V), Sm Ha Hc → At K Hc t tv → ∀ q9, Above S (putK kvs (Sum.inl (n : Int)) tv) ((t, 2) :: q9) →
            Sm H (upd Hc d (.dK (putK kvs (Sum.inl (n : Int)) tv))) ∧ DicOk K (upd Hc d (.dK (putK kvs (Sum.inl (n : Int)) tv))) S (putK kvs (Sum.inl (n : Int)) tv) ∧ Above S (putK kvs (Sum.inl (n : Int)) tv) (W0 ++ (t, 2) :: q9) ∧ InB S (putK kvs (Sum.inl (n : Int)) tv) (.l []) ∧ InB S (putK kvs (Sum.inl (n : Int)) tv) t ∧ (putK kvs (Sum.inl (n : Int)) tv).length ≤ kvs.length + 1 ∧ Hc d = some (.dK kvs) ∧ Hc wq = some (.lst (us0 ++ [.int (n : Int)])) := by
          intro Hc tv kC htv q9 hq9
          have hDc := kC _ _ hD (.inl (by simp))
          have kE : Kp [d] Hc (upd Hc d (.dK (putK kvs (Sum.inl (n : Int)) tv))) := Kp.ownD hDc
          refine ⟨(kA.trans kC).set hd, fun n' v' t' h1 h2 => ?_, Above.turn hq9 hab.put, hnil.put, ⟨n, tv, hn, by rw [valV_put, if_pos rfl]⟩, length_putK _ _ _, hDc, kC _ _ hW (.inl (by simp))⟩
          rw [valV_put] at h2
          by_cases e : (Sum.inl (n' : Int) : Key) = Sum.inl (n : Int)
          · have : n' = n := by have := Sum.inl.inj e; omega
            subst this
            rw [if_pos rfl] at h2
            cases h2
            rw [hn] at h1
            cases h1
            exact kE.at_ htv
          · rw [if_neg e] at h2
            exact kE.at_ (kC.at_ (hdic n' v' t' h1 h2))
        have hnb : ¬ InB S kvs t := by
          rintro ⟨n', v', g1, g2⟩
          have : n' = n := hB.nd n' n t g1 hn
          subst this
          rw [hv] at g2
          cases g2
        have hlast := hab.last
        refine ⟨_, rfl, A0.a, dx, fs, rfl, ho, nm.m_is_word, _, rfl, A0, S, t, n, rfl, hSa, hn, t.isW, rfl, ?_⟩
        cases t with
        | w s =>
          obtain ⟨ev, hev, _, hews, _⟩ := hB.ent hn
          obtain rfl := hews s rfl
          refine iteT ⟨_, rfl, A0.a, _, dx, fs, _, rfl, ho, T.cl_Store, T.a_Store_entries, l1, _, rfl, A0.ea, ents, (n : Int), _, rfl, rfl, sq_lst hB.e, atI_nat hev, ?_⟩
          have hfl : fl = 0 := by
            match fl, hlast with
            | 0, _ => rfl
            | 1, h =>
              obtain ⟨xs, e, _⟩ := h.1 rfl
              cases e
            | k + 2, h => exact absurd (h.2.1 (by omega)) hnb
          subst hfl
          have hput := put Ha (.str s) Kp.refl at_wi [] ⟨(fun e => by cases e), fun _ => ⟨n, .str s, hn, by rw [valV_put, if_pos rfl]⟩, trivial⟩
          obtain ⟨p1', p2, p3, p4, p5, p6, p7, p8⟩ := hput
          have hc1 : co (G.T.w s, 0) = 3 := rfl
          have hmz : muV (W0 ++ [(G.T.w s, 2)]) = muV W0 + 1 := by
            rw [muV_app]
            rfl
          refine ⟨_, rfl, _, rfl, d, _, rfl, DPut.k (k := Sum.inl (n : Int)) p7 (by rw [sizeLine_eq]; omega), ?_⟩
          refine ⟨muV (W0 ++ [(.w s, 2)]), by omega, _, _, _, _, W0 ++ [(.w s, 2)], us0 ++ [.int (n : Int)], _, rfl, p1', by rw [upd_ne hwd]; exact p8, upd_same, aW0.app (A2.one ⟨n, rfl, hn⟩), p2, p3, p4, ?_, rfl, by omega⟩
          rcases hin with ⟨k, z⟩ | z
          · rcases List.mem_append.mp z with z | z
            · exact .inl ⟨k, List.mem_append_left _ z⟩
            · cases List.mem_singleton.mp z
              exact .inr p5
          · exact .inr z.put
        | l xs =>
          refine iteF ⟨_, rfl, A0.a, dx, fs, rfl, ho, nm.m_items_of, _, rfl, A0, S, xs, n, rfl, hSa, hn, by omega, fun r rs H5 k5 hr0 hr aR => ?_⟩
          have hrl := aR.len
          have hD5 := k5 _ _ hD (.inl (by simp))
          have hxs8 : xs.length ≤ 8000000 := by
            have h1 := hB.len xs n hn
            have h2 := (List.getElem?_eq_some_iff.mp hn).1
            omega
          refine ⟨_, rfl, r, rfl, ⟨rs, sq_lst hr⟩, fun D hD0 => lc_it walk_list (fun i H' => Sm H5 H' ∧ ∃ (acc : List V) (mt : List G.T), H' D = some (.lst acc) ∧ A2 (NumT S) mt acc ∧ (∀ y ∈ mt, y ∈ xs ∧ ¬ InB S kvs y) ∧ (∀ y ∈ xs.take i, InB S kvs y ∨ y ∈ mt) ∧ fTs mt ≤ fTs (xs.take i) ∧ mt.length ≤ i) ⟨Kp.new hD0, [], [], upd_same, rfl, (fun y hy => by cases hy), (fun y hy => by rw [List.take_zero] at hy; cases hy), Nat.le_refl _, Nat.le_refl _⟩ (fun i H' _ ⟨k, _⟩ => sq_lst (k _ _ hr (.inl (by simp)))) ?_ ?_⟩
          · rintro i x Hx Hy hi ⟨kx, acc, mt, hacc, aacc, hmt, hall, hfm, hml⟩ ⟨rfl, hx⟩
            obtain ⟨y, hy, ny, rfl, hny⟩ := aR.at_ hx
            have hDx := kx _ _ hD5 (.inl (by simp))
            have e9 : xs.take (i + 1) = xs.take i ++ [y] := by
              rw [List.take_add_one, hy]
              rfl
            refine ⟨rfl, _, rfl, _, rfl, d, _, rfl, DGet.k (k := Sum.inl (ny : Int)) hDx, ?_⟩
            cases hvy : valV kvs (Sum.inl (ny : Int)) with
            | some v8 =>
              refine ⟨false, rfl, iteF ⟨kx, acc, mt, hacc, aacc, hmt, fun z hz => ?_, ?_, by omega⟩⟩
              · rw [e9] at hz
                rcases List.mem_append.mp hz with hz | hz
                · exact hall z hz
                · rw [List.mem_singleton.mp hz]
                  exact .inl ⟨ny, v8, hny, hvy⟩
              · rw [e9, fTs_app]
                omega
            | none =>
              refine ⟨true, rfl, iteT ⟨_, rfl, acc, hacc, by rw [sizeLine_eq]; have := aacc.len; omega, kx.set hD0, acc ++ [.int (ny : Int)], mt ++ [y], upd_same, aacc.app (A2.one ⟨ny, rfl, hny⟩), fun z hz => ?_, fun z hz => ?_, ?_, by rw [List.length_append, List.length_singleton]; omega⟩⟩
              · rcases List.mem_append.mp hz with hz | hz
                · exact hmt z hz
                · rw [List.mem_singleton.mp hz]
                  refine ⟨List.mem_of_getElem? hy, ?_⟩
                  rintro ⟨n', v', g1, g2⟩
                  have : n' = ny := hB.nd n' ny y g1 hny
                  subst this
                  rw [hvy] at g2
                  cases g2
              · rw [e9] at hz
                rcases List.mem_append.mp hz with hz | hz
                · exact (hall z hz).imp id (List.mem_append_left _)
                · exact .inr (List.mem_append_right _ hz)
              · rw [e9, fTs_app, fTs_app]
                omega
          rintro H6 ⟨k6, acc, mt, hacc, aacc, hmt, hall, hfm, hml⟩
          rw [hrl, List.take_length] at hall hfm
          have k56 := k5.trans k6
          have hal := aacc.len
          refine ⟨_, rfl, D, acc, rfl, .inl (sq_lst hacc), rfl, _, rfl, ?_⟩
          cases mt with
          | nil =>
            have ha0 : acc = [] := aacc
            subst ha0
            refine iteT ?_
            have hr6 := k6 _ _ hr (.inl (by simp))
            refine ⟨_, rfl, r, rfl, ⟨rs, sq_lst hr6⟩, fun E hE0 => lc_y walk_list (fun i H' => Sm H6 H' ∧ ∃ acc, H' E = some (.lst acc) ∧ AtAll K H' (xs.take i) acc) ⟨Kp.new hE0, [], upd_same, aa_nil⟩ (fun i H' _ ⟨k, _⟩ => sq_lst (k _ _ hr6 (.inl (by simp)))) ?_ ?_⟩
            · rintro i x Hx Hy hi ⟨kx, acc, hacc2, aacc2⟩ ⟨rfl, hx⟩
              obtain ⟨y, hy, ny, rfl, hny⟩ := aR.at_ hx
              have e9 : xs.take (i + 1) = xs.take i ++ [y] := by
                rw [List.take_add_one, hy]
                rfl
              obtain ⟨n', v', g1, g2⟩ : InB S kvs y := (hall y (List.mem_of_getElem? hy)).elim id (fun z => by cases z)
              have : n' = ny := hB.nd n' ny y g1 hny
              subst this
              have hg2 := DGet.k (k := Sum.inl (n' : Int)) (kx _ _ (k6 _ _ hD5 (.inl (by simp))) (.inl (by simp)))
              rw [g2] at hg2
              have hl2 := aa_len aacc2
              rw [List.length_take] at hl2
              have k7 : Kp [E] Hy (upd Hy E (.lst (acc ++ [v']))) := Kp.own hacc2
              refine ⟨rfl, _, rfl, _, rfl, d, v', rfl, hg2, acc, hacc2, by rw [sizeLine_eq]; omega, kx.set hE0, _, upd_same, ?_⟩
              rw [e9]
              exact aa_snocI (k7.aa aacc2) (k7.at_ ((k56.trans kx).at_ (hdic n' v' y g1 g2)))
            rintro H7 ⟨k7, acc2, hacc2, aacc2⟩
            rw [hrl, List.take_length] at aacc2
            refine ⟨E, acc2, xs, rfl, sq_lst hacc2, aacc2, fun p8 H8 k8 h8 => ?_⟩
            have kC : Sm Ha H8 := k56.trans (k7.trans k8)
            obtain ⟨p1', p2, p3, p4, p5, p6, p7, p8'⟩ := put H8 (.ref p8) kC h8 [] ⟨(fun e => by cases e), fun _ => ⟨n, .ref p8, hn, by rw [valV_put, if_pos rfl]⟩, trivial⟩
            have hDd : D ≠ d := by
              rintro rfl
              rw [hD5] at hD0
              cases hD0
            have hDw : D ≠ wq := by
              rintro rfl
              rw [k5 _ _ hW (.inl (by simp))] at hD0
              cases hD0
            have hacc8 := (k7.trans k8) _ _ hacc (.inl (by simp))
            refine ⟨_, rfl, _, rfl, d, _, rfl, DPut.k (k := Sum.inl (n : Int)) p7 (by rw [sizeLine_eq]; omega), ?_⟩
            have hwE : (upd H8 d (.dK (putK kvs (Sum.inl (n : Int)) (.ref p8)))) wq = some (.lst (us0 ++ [.int (n : Int)])) := by rw [upd_ne hwd]; exact p8'
            have hDE : (upd H8 d (.dK (putK kvs (Sum.inl (n : Int)) (.ref p8)))) D = some (.lst []) := by rw [upd_ne hDd]; exact hacc8
            have hdE : (upd H8 d (.dK (putK kvs (Sum.inl (n : Int)) (.ref p8)))) d = some (.dK (putK kvs (Sum.inl (n : Int)) (.ref p8))) := upd_same
            refine ⟨_, rfl, tyL hwE, _, rfl, wq, D, us0 ++ [.int (n : Int)], [], rfl, rfl, hwE, hDE, by rw [List.length_append, List.length_singleton, sizeLine_eq]; show us0.length + 1 + 0 ≤ _; omega, ?_⟩
            have kW : Kp [wq] (upd H8 d (.dK (putK kvs (Sum.inl (n : Int)) (.ref p8)))) (upd (upd H8 d (.dK (putK kvs (Sum.inl (n : Int)) (.ref p8)))) wq (.lst (us0 ++ [.int (n : Int)] ++ []))) := Kp.own hwE
            have hmz : muV (W0 ++ [(.l xs, 2)]) = muV W0 + 1 := by
              rw [muV_app]
              rfl
            have hc2 : 2 ≤ co (G.T.l xs, fl) := by
              match fl, hlast with
              | 0, _ =>
                show 2 ≤ 3 + fTs xs
                omega
              | 1, _ => exact Nat.le_refl 2
              | k + 2, h => exact absurd (h.2.1 (by omega)) hnb
            refine ⟨muV (W0 ++ [(.l xs, 2)]), by omega, _, _, _, _, W0 ++ [(.l xs, 2)], _, _, rfl, p1'.set hw0, upd_same, by rw [upd_ne (Ne.symm hwd)]; exact hdE, ?_, fun n' v' t' h1 h2 => kW.at_ (p2 n' v' t' h1 h2), p3, p4, ?_, rfl, by omega⟩
            · rw [List.append_nil]
              exact aW0.app (A2.one ⟨n, rfl, hn⟩)
            · rcases hin with ⟨k, z⟩ | z
              · rcases List.mem_append.mp z with z | z
                · exact .inl ⟨k, List.mem_append_left _ z⟩
                · cases List.mem_singleton.mp z
                  exact .inr p5
              · exact .inr z.put
          | cons y mt =>
            have hne0 : decide (V.int ((acc.length : Nat) : Int) = V.int 0) = false := decide_eq_false fun z => by
              have := V.int.inj z
              rw [List.length_cons] at hal
              omega
            rw [hne0]
            refine iteF ?_
            have hW6 := k56 _ _ hW (.inl (by simp))
            refine ⟨_, rfl, tyL hW6, _, rfl, wq, D, us0 ++ [.int (n : Int)], acc, rfl, rfl, hW6, hacc, by rw [List.length_append, List.length_singleton, sizeLine_eq]; omega, ?_⟩
            have kW : Kp [wq] H6 (upd H6 wq (.lst (us0 ++ [.int (n : Int)] ++ acc))) := Kp.own hW6
            have hfl : fl = 0 := by
              match fl, hlast with
              | 0, _ => rfl
              | 1, h =>
                obtain ⟨xs', e, hx'⟩ := h.1 rfl
                cases e
                obtain ⟨m1, m2⟩ := hmt y (List.mem_cons_self ..)
                rcases hx' y m1 with z | ⟨_, z⟩
                · exact absurd z m2
                · cases z
              | k + 2, h => exact absurd (h.2.1 (by omega)) hnb
            subst hfl
            have hc1 : co (G.T.l xs, 0) = 3 + fTs xs := rfl
            have hmz : muV (W0 ++ (.l xs, 1) :: lowV (y :: mt)) = muV W0 + (2 + fTs (y :: mt)) := by
              rw [muV_app]
              show _ + (2 + muV (lowV (y :: mt))) = _
              rw [muV_low]
            have hq9 : Above S kvs ((G.T.l xs, 1) :: lowV (y :: mt)) := by
              refine ⟨fun _ => ⟨xs, rfl, fun x hx => (hall x hx).imp id fun z => ⟨0, List.mem_map.mpr ⟨x, z, rfl⟩⟩⟩, (fun e => by omega), above_low _⟩
            have aN : A2 (fun q : G.T × Nat => NumT S q.1) (lowV (y :: mt)) acc := by
              have key : ∀ (l : List G.T) (us : List V), A2 (NumT S) l us → A2 (fun q : G.T × Nat => NumT S q.1) (lowV l) us := by
                intro l
                induction l with
                | nil => intro us h; exact h
                | cons z l ih =>
                  intro us h
                  obtain ⟨v, r, rfl, h1, h2⟩ := h
                  exact ⟨v, r, rfl, h1, ih r h2⟩
              exact key _ _ aacc
            refine ⟨muV (W0 ++ (.l xs, 1) :: lowV (y :: mt)), by omega, _, _, _, _, W0 ++ (.l xs, 1) :: lowV (y :: mt), _, kvs, rfl, (kA.trans k56).set hw0, upd_same, by rw [upd_ne (Ne.symm hwd)]; exact k56 _ _ hD (.inl (by simp)), ?_, fun n' v' t' h1 h2 => kW.at_ (k56.at_ (hdic n' v' t' h1 h2)), Above.turn hq9 hab, hnil, ?_, rfl, by omega⟩
            · rw [List.append_assoc]
              exact aW0.app ⟨.int (n : Int), acc, rfl, ⟨n, rfl, hn⟩, aN⟩
            · rcases hin with ⟨k, z⟩ | z
              · rcases List.mem_append.mp z with z | z
                · exact .inl ⟨k, List.mem_append_left _ z⟩
                · cases List.mem_singleton.mp z
                  exact .inl ⟨1, List.mem_append_right _ (List.mem_cons_self ..)⟩
              · exact .inr z
end
end G
set_option maxRecDepth 100000
set_option maxHeartbeats 4000000
/-! F5a: the machine of the first language on trees; what a Machine object holds; do. -/
namespace G
open PySem PySem.Spec PyProof.Rows L2
abbrev EnvT := List (Str × T)
inductive Tk where
  | ev (e : Xp) (env : EnvT)
  | pr (f : Str)
  | br (a b : Xp) (env : EnvT)
  | ca (f : Str) (n : Nat)
def envGet (s : Str) : EnvT → Option T
  | [] => none
  | (k, t) :: r => match seq k s with
    | true => some t
    | false => envGet s r
def fnGet (s : Str) : List Fn → Option Fn
  | [] => none
  | f :: r => match seq f.name s with
    | true => some f
    | false => fnGet s r
def isNil : T → Bool
  | .l [] => true
  | _ => false
def zipEnv : List Str → List T → EnvT
  | p :: ps, t :: ts => (p, t) :: zipEnv ps ts
  | _, _ => []
def prim (f : Str) (fd : List T) : Option (List T) := match fd with
  | [] => none
  | y :: r => match seq f wHead with
    | true => some (y.hd :: r)
    | false => match seq f wTail with
      | true => some (y.tl :: r)
      | false => match seq f wWord with
        | true => some (T.ofB y.isW :: r)
        | false => match r with
          | [] => none
          | x :: r2 => match seq f wSame with
            | true => some (T.ofB (T.beq x y) :: r2)
            | false => some (T.join x y :: r2)
def pushEv (env : EnvT) : List Xp → List Tk → List Tk
  | [], td => td
  | a :: as, td => .ev a env :: pushEv env as td
def stepI (f : Str) (as : List Xp) (env : EnvT) (td : List Tk) : Option (List Tk) := match seq f wQuote with
  | true => none
  | false => match seq f wIf with
    | true => match as with
      | c :: a :: b :: _ => some (.ev c env :: .br a b env :: td)
      | _ => none
    | false => match inS f plain with
      | true => some (pushEv env as (.pr f :: td))
      | false => some (pushEv env as (.ca f as.length :: td))
def stepN (f : Str) (as : List Xp) (env : EnvT) (td : List Tk) : Option (List Tk) := match Nat.ble as.length 20 with
  | true => stepI f as env td
  | false => none
def stepE (e : Xp) (env : EnvT) (td : List Tk) (fd : List T) : Option (List Tk × List T) := match e with
  | .v s => match envGet s env with
    | some t => some (td, t :: fd)
    | none => none
  | .q t => some (td, t :: fd)
  | .n f as => match stepN f as env td with
    | some td' => some (td', fd)
    | none => none
def step1 (fs : List Fn) (tk : Tk) (td : List Tk) (fd : List T) : Option (List Tk × List T) := match tk with
  | .ev e env => stepE e env td fd
  | .pr f => match prim f fd with
    | some fd' => some (td, fd')
    | none => none
  | .br a b env => match fd with
    | [] => none
    | c :: r => match isNil c with
      | true => some (.ev b env :: td, r)
      | false => some (.ev a env :: td, r)
  | .ca f m => match fnGet f fs with
    | none => none
    | some g => match Nat.ble m fd.length, Nat.beq g.ps.length m with
      | true, true => some (.ev g.body (zipEnv g.ps (fd.take m).reverse) :: td, fd.drop m)
      | _, _ => none
def go1 (fs : List Fn) : Nat → List Tk → List T → Option (List T)
  | 0, _, _ => none
  | _ + 1, [], fd => some fd
  | n + 1, tk :: td, fd => match step1 fs tk td fd with
    | none => none
    | some (td', fd') => go1 fs n td' fd'
theorem fnGet_mem {s : Str} : ∀ {fs : List Fn} {g : Fn}, fnGet s fs = some g → g ∈ fs ∧ g.name = s
  | [], g, h => by cases h
  | f :: r, g, h => by
    have h : (match seq f.name s with | true => some f | false => fnGet s r) = some g := h
    cases e : seq f.name s with
    | true =>
      rw [e] at h
      cases h
      exact ⟨List.mem_cons_self .., seq_iff.mp e⟩
    | false =>
      rw [e] at h
      obtain ⟨h1, h2⟩ := fnGet_mem (fs := r) h
      exact ⟨List.mem_cons_of_mem _ h1, h2⟩
/-! ### the object -/
structure MA where
  a : Addr
  st : SA
  fa : Addr
  ta : Addr
  da : Addr
def MA.F (M : MA) : List Addr := M.a :: M.fa :: M.ta :: M.st.F
def EnvAt (S : List T) (H : Hp) (d : Addr) (env : EnvT) : Prop := ∃ kvs, H d = some (.dK kvs) ∧ ∀ s t, envGet s env = some t → ∃ n m : Nat, S[n]? = some (.w s) ∧ valV kvs (Sum.inl (n : Int)) = some (.int (m : Int)) ∧ S[m]? = some t
def TkAt (F : List Addr) (S : List T) (H : Hp) : Tk → V → Prop
  | .ev e env, v => ∃ a d, ∃ n : Nat, v = .ref a ∧ H a = some (.tup [.str "eval", .int (n : Int), .ref d]) ∧ S[n]? = some e.t ∧ d ∉ F ∧ EnvAt S H d env
  | .pr f, v => ∃ a, v = .ref a ∧ H a = some (.tup [.str "do", .str f])
  | .br x y env, v => ∃ a d, ∃ n m : Nat, v = .ref a ∧ H a = some (.tup [.str "if", .int (n : Int), .int (m : Int), .ref d]) ∧ S[n]? = some x.t ∧ S[m]? = some y.t ∧ d ∉ F ∧ EnvAt S H d env
  | .ca f k, v => ∃ a, ∃ n : Nat, v = .ref a ∧ H a = some (.tup [.str "call", .int (n : Int), .int (k : Int)]) ∧ S[n]? = some (.w f)
def FnAt (F : List Addr) (S : List T) (H : Hp) (kvs : List (Key × V)) (f : Fn) : Prop := ∃ (n b : Nat) (q lp : Addr) (us : List V), S[n]? = some (.w f.name) ∧ valV kvs (Sum.inl (n : Int)) = some (.ref q) ∧ H q = some (.tup [.ref lp, .int (b : Int)]) ∧ lp ∉ F ∧ H lp = some (.lst us) ∧ A2 (NumT S) (f.ps.map .w) us ∧ S[b]? = some f.body.t
structure MF (M : MA) (S : List T) (k : Nat) (fs : List (Str × V)) : Prop where
  f_store : fs.lookup ("store" : Str) = some (.ref M.st.a)
  f_yes : ∃ n : Nat, fs.lookup ("yes" : Str) = some (.int (n : Int)) ∧ S[n]? = some (.w wYes)
  f_functions : fs.lookup ("functions" : Str) = some (.ref M.da)
  f_keeping : fs.lookup ("keeping" : Str) = some (.bl false)
  f_pair : fs.lookup ("pair" : Str) = some .non
  f_steps : fs.lookup ("steps" : Str) = some (.int (k : Int))
  f_found : fs.lookup ("found" : Str) = some (.ref M.fa)
  f_todo : fs.lookup ("todo" : Str) = some (.ref M.ta)
  m_begin : fs.lookup ("begin" : Str) = none
  m_is_done : fs.lookup ("is_done" : Str) = none
  m_go_on : fs.lookup ("go_on" : Str) = none
  m_evaluate : fs.lookup ("evaluate" : Str) = none
  m_do : fs.lookup ("do" : Str) = none
  m_is_great : fs.lookup ("is_great" : Str) = none
  m_result : fs.lookup ("result" : Str) = none
  len : fs.length ≤ 20
structure MachAt (P : Program) (w : World) (K : PySem.W.Frag) (H : Hp) (M : MA) (fns : List Fn) (S : List T) (td : List Tk) (fd : List T) (k : Nat) : Prop where
  ob : ∃ dx fs, H M.a = some (.ins (C_Machine K) dx fs) ∧ MF M S k fs
  st : StoreAt P w K H M.st S
  f : ∃ vs, H M.fa = some (.lst vs) ∧ A2 (NumT S) fd.reverse vs
  t : ∃ vs, H M.ta = some (.lst vs) ∧ A2 (TkAt M.F S H) td.reverse vs
  d : M.da ∉ M.F ∧ ∃ kvs, H M.da = some (.dK kvs) ∧ ∀ g ∈ fns, FnAt M.F S H kvs g
  ne : M.fa ≠ M.ta ∧ M.a ≠ M.fa ∧ M.a ≠ M.ta ∧ M.st.a ∉ M.F ∧ M.a ∉ M.st.F ∧ M.fa ∉ M.st.F ∧ M.ta ∉ M.st.F
section
variable {P : Program} {w : World} {K : PySem.W.Frag} {H H' : Hp} {S S' : List T}
theorem EnvAt.go {F F' : List Addr} {d : Addr} {env : EnvT} (k : Kp F' H H') (p : S <+: S') (hd : d ∉ F') (h : EnvAt S H d env) : EnvAt S' H' d env := by
  obtain ⟨kvs, h1, h2⟩ := h
  refine ⟨kvs, k.keep h1 hd, fun s t e => ?_⟩
  obtain ⟨n, m, g1, g2, g3⟩ := h2 s t e
  exact ⟨n, m, pre_get p g1, g2, pre_get p g3⟩
theorem TkAt.go {F F' : List Addr} (k : Kp F' H H') (p : S <+: S') (hs : ∀ b ∈ F', b ∈ F) : ∀ (tk : Tk) (v : V), TkAt F S H tk v → TkAt F S' H' tk v
  | .ev e env, v, h => by
    obtain ⟨a, d, n, e1, e2, e3, e4, e5⟩ := h
    exact ⟨a, d, n, e1, k.tup e2, pre_get p e3, e4, e5.go (F := F) k p (fun z => e4 (hs _ z))⟩
  | .pr f, v, h => by
    obtain ⟨a, e1, e2⟩ := h
    exact ⟨a, e1, k.tup e2⟩
  | .br x y env, v, h => by
    obtain ⟨a, d, n, m, e1, e2, e3, e3', e4, e5⟩ := h
    exact ⟨a, d, n, m, e1, k.tup e2, pre_get p e3, pre_get p e3', e4, e5.go (F := F) k p (fun z => e4 (hs _ z))⟩
  | .ca f m, v, h => by
    obtain ⟨a, n, e1, e2, e3⟩ := h
    exact ⟨a, n, e1, k.tup e2, pre_get p e3⟩
theorem FnAt.go {F F' : List Addr} {kvs : List (Key × V)} {g : Fn} (k : Kp F' H H') (p : S <+: S') (hs : ∀ b ∈ F', b ∈ F) (h : FnAt F S H kvs g) : FnAt F S' H' kvs g := by
  obtain ⟨n, b, q, lp, us, h1, h2, h3, h4, h5, h6, h7⟩ := h
  exact ⟨n, b, q, lp, us, pre_get p h1, h2, k.tup h3, h4, k.keep h5 (fun z => h4 (hs _ z)), h6.mono (NumT.mono p), pre_get p h7⟩
theorem MF.go {M : MA} {k : Nat} {fs : List (Str × V)} (p : S <+: S') (h : MF M S k fs) : MF M S' k fs := by
  obtain ⟨n, h1, h2⟩ := h.f_yes
  exact { h with f_yes := ⟨n, h1, pre_get p h2⟩ }
/-- after a call of the store -/
theorem MachAt.store {M : MA} {fns : List Fn} {td : List Tk} {fd : List T} {k : Nat} (h : MachAt P w K H M fns S td fd k) (kp : Kp M.st.F H H') (p : S <+: S') (hS : StoreAt P w K H' M.st S') : MachAt P w K H' M fns S' td fd k := by
  obtain ⟨dx, fs, o1, o2⟩ := h.ob
  obtain ⟨vs, f1, f2⟩ := h.f
  obtain ⟨ts, t1, t2⟩ := h.t
  obtain ⟨d1, kvs, d2, d3⟩ := h.d
  obtain ⟨n1, n2, n3, n4, n5, n6, n7⟩ := h.ne
  have hs : ∀ b ∈ M.st.F, b ∈ M.F := fun b hb => List.mem_cons_of_mem _ (List.mem_cons_of_mem _ (List.mem_cons_of_mem _ hb))
  exact ⟨⟨dx, fs, kp.keep o1 n5, o2.go p⟩, hS, ⟨vs, kp.keep f1 n6, f2.mono (NumT.mono p)⟩, ⟨ts, kp.keep t1 n7, t2.mono (TkAt.go kp p hs)⟩, ⟨d1, kvs, kp.keep d2 (fun z => d1 (hs _ z)), fun g hg => (d3 g hg).go kp p hs⟩, h.ne⟩
/-- only new things -/
theorem MachAt.sm {M : MA} {fns : List Fn} {td : List Tk} {fd : List T} {k : Nat} (h : MachAt P w K H M fns S td fd k) (kp : Sm H H') : MachAt P w K H' M fns S td fd k :=
  h.store kp.nil (List.prefix_refl _) (h.st.sm kp)
theorem st_not {M : MA} (n : M.st.a ∉ M.F) (n5 : M.a ∉ M.st.F) (n6 : M.fa ∉ M.st.F) (n7 : M.ta ∉ M.st.F) : ∀ b, b = M.a ∨ b = M.fa ∨ b = M.ta → b ≠ M.st.a ∧ b ∉ M.st.F := by
  intro b hb
  refine ⟨fun z => n ?_, ?_⟩
  · rw [← z]
    rcases hb with rfl | rfl | rfl <;> simp [MA.F]
  · rcases hb with rfl | rfl | rfl
    · exact n5
    · exact n6
    · exact n7
/-- found changes -/
theorem MachAt.setF {M : MA} {fns : List Fn} {td : List Tk} {fd fd' : List T} {k : Nat} {vs : List V} (h : MachAt P w K H M fns S td fd k) (hv : A2 (NumT S) fd'.reverse vs) : MachAt P w K (upd H M.fa (.lst vs)) M fns S td fd' k ∧ Kp [M.fa] H (upd H M.fa (.lst vs)) := by
  obtain ⟨dx, fs, o1, o2⟩ := h.ob
  obtain ⟨us, f1, f2⟩ := h.f
  obtain ⟨ts, t1, t2⟩ := h.t
  obtain ⟨d1, kvs, d2, d3⟩ := h.d
  obtain ⟨n1, n2, n3, n4, n5, n6, n7⟩ := h.ne
  have kp : Kp [M.fa] H (upd H M.fa (.lst vs)) := Kp.own f1
  have hs : ∀ b ∈ [M.fa], b ∈ M.F := fun b hb => by rw [List.mem_singleton.mp hb]; simp [MA.F]
  have hst := st_not n4 n5 n6 n7
  exact ⟨⟨⟨dx, fs, kp.keep o1 (by simp [n2]), o2⟩, h.st.kp kp (fun b hb => hst b (by rw [List.mem_singleton.mp hb]; simp)), ⟨vs, upd_same, hv⟩, ⟨ts, kp.keep t1 (by simp [Ne.symm n1]), t2.mono (TkAt.go kp (List.prefix_refl _) hs)⟩, ⟨d1, kvs, kp.keep d2 (fun z => d1 (hs _ z)), fun g hg => (d3 g hg).go kp (List.prefix_refl _) hs⟩, h.ne⟩, kp⟩
/-- todo changes -/
theorem MachAt.setT {M : MA} {fns : List Fn} {td td' : List Tk} {fd : List T} {k : Nat} {vs : List V} (h : MachAt P w K H M fns S td fd k) (hv : A2 (TkAt M.F S H) td'.reverse vs) : MachAt P w K (upd H M.ta (.lst vs)) M fns S td' fd k ∧ Kp [M.ta] H (upd H M.ta (.lst vs)) := by
  obtain ⟨dx, fs, o1, o2⟩ := h.ob
  obtain ⟨us, f1, f2⟩ := h.f
  obtain ⟨ts, t1, t2⟩ := h.t
  obtain ⟨d1, kvs, d2, d3⟩ := h.d
  obtain ⟨n1, n2, n3, n4, n5, n6, n7⟩ := h.ne
  have kp : Kp [M.ta] H (upd H M.ta (.lst vs)) := Kp.own t1
  have hs : ∀ b ∈ [M.ta], b ∈ M.F := fun b hb => by rw [List.mem_singleton.mp hb]; simp [MA.F]
  have hst := st_not n4 n5 n6 n7
  exact ⟨⟨⟨dx, fs, kp.keep o1 (by simp [n3]), o2⟩, h.st.kp kp (fun b hb => hst b (by rw [List.mem_singleton.mp hb]; simp)), ⟨us, kp.keep f1 (by simp [n1]), f2⟩, ⟨vs, upd_same, hv.mono (TkAt.go kp (List.prefix_refl _) hs)⟩, ⟨d1, kvs, kp.keep d2 (fun z => d1 (hs _ z)), fun g hg => (d3 g hg).go kp (List.prefix_refl _) hs⟩, h.ne⟩, kp⟩
theorem Kp.fa {M : MA} (k : Kp [M.fa] H H') : Kp M.F H H' := k.mono fun b hb => by rw [List.mem_singleton.mp hb]; simp [MA.F]
theorem Kp.ta {M : MA} (k : Kp [M.ta] H H') : Kp M.F H H' := k.mono fun b hb => by rw [List.mem_singleton.mp hb]; simp [MA.F]
theorem Kp.stF {M : MA} (k : Kp M.st.F H H') : Kp M.F H H' := k.mono fun b hb => List.mem_cons_of_mem _ (List.mem_cons_of_mem _ (List.mem_cons_of_mem _ hb))
end
end G
set_option maxRecDepth 100000
set_option maxHeartbeats 4000000
/-! F5b: Machine.do, Machine.evaluate, Machine.begin. -/
namespace G
open PySem PySem.Spec PyProof.Rows L2
theorem lit_word : ("word" : Str) = wWord := by decide +kernel
theorem lit_same : ("same" : Str) = wSame := by decide +kernel
section
variable {f : Str} {x y : T} {r : List T}
theorem prim_head (c1 : seq f wHead = true) : prim f (y :: r) = some (y.hd :: r) := by
  simp only [prim, c1]
theorem prim_tail (c1 : seq f wHead = false) (c2 : seq f wTail = true) : prim f (y :: r) = some (y.tl :: r) := by
  simp only [prim, c1, c2]
theorem prim_word (c1 : seq f wHead = false) (c2 : seq f wTail = false) (c3 : seq f wWord = true) : prim f (y :: r) = some (T.ofB y.isW :: r) := by
  simp only [prim, c1, c2, c3]
theorem prim_one (c1 : seq f wHead = false) (c2 : seq f wTail = false) (c3 : seq f wWord = false) : prim f [y] = none := by
  simp only [prim, c1, c2, c3]
theorem prim_same (c1 : seq f wHead = false) (c2 : seq f wTail = false) (c3 : seq f wWord = false) (c4 : seq f wSame = true) : prim f (y :: x :: r) = some (T.ofB (T.beq x y) :: r) := by
  simp only [prim, c1, c2, c3, c4]
theorem prim_join (c1 : seq f wHead = false) (c2 : seq f wTail = false) (c3 : seq f wWord = false) (c4 : seq f wSame = false) : prim f (y :: x :: r) = some (T.join x y :: r) := by
  simp only [prim, c1, c2, c3, c4]
end
theorem isNil_iff (t : T) : isNil t = true ↔ t = .l [] := by
  constructor
  · intro h
    match t, h with
    | .l [], _ => rfl
  · rintro rfl
    rfl
theorem num_inj {P : Program} {w : World} {K : PySem.W.Frag} {H : Hp} {A : SA} {S : List T} (h : StoreAt P w K H A S) {n m : Nat} {x y : T} (hx : S[n]? = some x) (hy : S[m]? = some y) : decide (V.int (n : Int) = V.int (m : Int)) = T.beq x y := by
  obtain ⟨ents, ks, hB⟩ := h
  by_cases e : n = m
  · subst e
    rw [hx] at hy
    cases hy
    rw [T.beq_self]
    exact decide_eq_true rfl
  · have : T.beq x y = false := by
      cases z : T.beq x y with
      | false => rfl
      | true =>
        have := T.beq_eq x y z
        subst this
        exact absurd (hB.nd n m x hx hy) e
    rw [this]
    exact decide_eq_false fun z => e (by have := V.int.inj z; omega)
section
variable {P : Program} {w : World} {K : PySem.W.Frag} {mg : Str → Option Value} {base : Heap}
def ansM (P : Program) (w : World) (K : PySem.W.Frag) (M : MA) (fns : List Fn) (S : List T) (td : List Tk) (fd : List T) (k : Nat) (g : Nat) (H : Hp) (Q : VK) : Prop := ∀ S' H', Kp M.F H H' → MachAt P w K H' M fns S' td fd k → S <+: S' → S'.length ≤ S.length + g → Q .non H'
def sp_Machine_do (P : Program) (w : World) (K : PySem.W.Frag) : Sp := fun vs H Q _ => ∃ M fns S td fd fd' k f, vs = [.ref M.a, .str f] ∧ MachAt P w K H M fns S td fd k ∧ prim f fd = some fd' ∧ S.length ≤ 8000000 ∧ fd.length ≤ 8000000 ∧ ansM P w K M fns S td fd' k 1 H Q
theorem sc_Machine_do : FnScope ["self", "word", "second", "first"] ["self", "word"] (defScope s_Machine_do) := ⟨rfl, rfl, rfl, by decide +kernel, rfl, by decide +kernel, by decide +kernel⟩
theorem f_Machine_do (T : Txt w K mg) : Mtb P w K mg base (C_Machine K) "do" 3 ["self", "word"] (sp_Machine_do P w K) := by
  have F_Store_is_word : Mtb P w K mg base (C_Store K) "is_word" 1 ["self", "number"] (sp_Store_is_word P w K) := f_Store_is_word T
  have F_Store_first : Mtb P w K mg base (C_Store K) "first" 2 ["self", "number"] (sp_Store_first P w K) := f_Store_first T
  have F_Store_rest : Mtb P w K mg base (C_Store K) "rest" 2 ["self", "number"] (sp_Store_rest P w K) := f_Store_rest T
  have F_Store_pair_up : Mtb P w K mg base (C_Store K) "pair_up" 2 ["self", "item", "items"] (sp_Store_pair_up P w K) := f_Store_pair_up T
  refine T.d_Machine_do.mtb sc_Machine_do (fun _ _ _ _ _ _ us hl => match us, hl with | [_, _], _ => rfl) (fun vs H Q E h => ?_) (fun f cdv A outer s H vs Q E hr h => ?_)
  · obtain ⟨_, _, _, _, _, _, _, _, rfl, _⟩ := h
    rfl
  · obtain ⟨M, fns, S, td, fd, fd', k, f, rfl, hM, hp, hSl, hfl, q⟩ := h
    refine ⟨_, (pss_cons (ps_set (i := 2) sc_Machine_do.nd rfl (Or.inl rfl) (pe_bm0 PySem.F.plainAttrs_list PySem.F.slot_list_pop PySem.F.type_list_pop mt_pop (pe_fld (pv 0) rfl)))
      (pss_one (ps_if (pt_cmpR op_eq (pv 1) pe_str (nomark _)) (pss_one (ps_expr (pe_bm PySem.F.plainAttrs_list PySem.F.slot_list_append PySem.F.type_list_append mt_append (pe_fld (pv 0) rfl) (pa_cons (pe_m (pe_fld (pv 0) rfl) T.cl_Store F_Store_first (hr.mono (by decide)) (pa_cons (pv 2) pa_nil)) pa_nil)))) (pss_one (ps_if (pt_cmpR op_eq (pv 1) pe_str (nomark _)) (pss_one (ps_expr (pe_bm PySem.F.plainAttrs_list PySem.F.slot_list_append PySem.F.type_list_append mt_append (pe_fld (pv 0) rfl) (pa_cons (pe_m (pe_fld (pv 0) rfl) T.cl_Store F_Store_rest (hr.mono (by decide)) (pa_cons (pv 2) pa_nil)) pa_nil)))) (pss_one (ps_if (pt_cmpR op_eq (pv 1) pe_str (nomark _)) (pss_one (ps_expr (pe_bm PySem.F.plainAttrs_list PySem.F.slot_list_append PySem.F.type_list_append mt_append (pe_fld (pv 0) rfl) (pa_cons (pe_ifExp (PW.pt (pw_and (pt_cmpR op_ne (pv 2) (pe_gi T.c_EMPTY) (nomark _)) (pw_and1 (pt_val (pe_m (pe_fld (pv 0) rfl) T.cl_Store F_Store_is_word (hr.mono (by decide)) (pa_cons (pv 2) pa_nil)))))) (pe_fld (pv 0) rfl) (pe_gi T.c_EMPTY)) pa_nil)))) (pss_cons (ps_set (i := 3) sc_Machine_do.nd rfl (Or.inl rfl) (pe_bm0 PySem.F.plainAttrs_list PySem.F.slot_list_pop PySem.F.type_list_pop mt_pop (pe_fld (pv 0) rfl)))
      (pss_one (ps_if (pt_cmpR op_eq (pv 1) pe_str (nomark _)) (pss_one (ps_expr (pe_bm PySem.F.plainAttrs_list PySem.F.slot_list_append PySem.F.type_list_append mt_append (pe_fld (pv 0) rfl) (pa_cons (pe_ifExp (pt_cmpR op_eq (pv 3) (pv 2) (nomark _)) (pe_fld (pv 0) rfl) (pe_gi T.c_EMPTY)) pa_nil)))) (pss_one (ps_expr (pe_bm PySem.F.plainAttrs_list PySem.F.slot_list_append PySem.F.type_list_append mt_append (pe_fld (pv 0) rfl) (pa_cons (pe_m (pe_fld (pv 0) rfl) T.cl_Store F_Store_pair_up (hr.mono (by decide)) (pa_cons (pv 3) (pa_cons (pv 2) pa_nil))) pa_nil)))))))))))))), ?_⟩
    obtain ⟨dx, fs, ho, mf⟩ := hM.ob
    obtain ⟨vs, f1, f2⟩ := hM.f
    cases fd with
    | nil => cases hp
    | cons y r =>
      rw [List.reverse_cons] at f2
      obtain ⟨vs0, yv, rfl, f3, ny, rfl, hy⟩ := f2.snoc
      refine ⟨_, rfl, M.a, _, dx, fs, _, rfl, ho, T.cl_Machine, T.a_Machine_found, mf.f_found, tyL f1, M.fa, _, _, rfl, rfl, f1, last_at _ _, ?_⟩
      rw [dl_at]
      obtain ⟨hM1, k1⟩ := hM.setF (fd' := r) f3
      have hfa1 : (upd H M.fa (.lst vs0)) M.fa = some (.lst vs0) := upd_same
      have ho1 : (upd H M.fa (.lst vs0)) M.a = some (.ins (C_Machine K) dx fs) := by rw [upd_ne hM.ne.2.1]; exact ho
      have kF1 := k1.fa
      have hl0 := f3.len
      rw [List.length_reverse] at hl0
      rw [List.length_cons] at hfl
      generalize upd H M.fa (.lst vs0) = H1 at hM1 kF1 hfa1 ho1
      obtain ⟨ents, ks, hB⟩ := id hM1.st
      obtain ⟨dx2, fs2, ho2, _, _, _, _, nm⟩ := hB.ob
      have hz := zero_iff hB hy
      -- found.append(number)
      have app : ∀ (H2 : Hp) (S2 : List G.T) (n : Nat) (t : G.T) (l : List G.T), Kp M.st.F H1 H2 → S <+: S2 → StoreAt P w K H2 M.st S2 → S2[n]? = some t → ∀ (vs0 : List V) (H1' : Hp), S2.length ≤ S.length + 1 → fd' = t :: l → A2 (NumT S2) l.reverse vs0 → MachAt P w K H2 M fns S2 td l k → Kp M.F H H2 → Q .non (upd H2 M.fa (.lst (vs0 ++ [.int (n : Int)]))) := by
        intro H2 S2 n t l _ p2 _ hn vs0 _ hl2 hfd av hM2 kk
        subst hfd
        obtain ⟨hM3, k3⟩ := hM2.setF (fd' := t :: l) (vs := vs0 ++ [.int (n : Int)]) (by rw [List.reverse_cons]; exact av.app (A2.one ⟨n, rfl, hn⟩))
        exact q S2 _ (kk.trans k3.fa) hM3 p2 hl2
      obtain ⟨nyes, hyes, hyes2⟩ := mf.f_yes
      refine ⟨_, rfl, rfl, _, rfl, ?_⟩
      rw [dec_ss, lit_head]
      cases c1 : seq f wHead with
      | true =>
        rw [prim_head c1] at hp
        refine iteT ⟨_, rfl, M.a, _, dx, fs, _, rfl, ho1, T.cl_Machine, T.a_Machine_found, mf.f_found, tyL hfa1, _, rfl, M.a, _, dx, fs, _, rfl, ho1, T.cl_Machine, T.a_Machine_store, mf.f_store, M.st.a, dx2, fs2, rfl, ho2, nm.m_first, _, rfl, M.st, S, y, ny, rfl, hM1.st, hy, fun m hm => ?_⟩
        exact ⟨M.fa, vs0, _, rfl, rfl, hfa1, by rw [sizeLine_eq]; omega, app H1 S m y.hd r Kp.refl (List.prefix_refl _) hM1.st hm vs0 H1 (Nat.le_succ _) (Option.some.inj hp).symm f3 hM1 kF1⟩
      | false =>
        refine iteF ⟨_, rfl, rfl, _, rfl, ?_⟩
        rw [dec_ss, lit_tail]
        cases c2 : seq f wTail with
        | true =>
          rw [prim_tail c1 c2] at hp
          refine iteT ⟨_, rfl, M.a, _, dx, fs, _, rfl, ho1, T.cl_Machine, T.a_Machine_found, mf.f_found, tyL hfa1, _, rfl, M.a, _, dx, fs, _, rfl, ho1, T.cl_Machine, T.a_Machine_store, mf.f_store, M.st.a, dx2, fs2, rfl, ho2, nm.m_rest, _, rfl, M.st, S, y, ny, rfl, hM1.st, hy, fun m hm => ?_⟩
          exact ⟨M.fa, vs0, _, rfl, rfl, hfa1, by rw [sizeLine_eq]; omega, app H1 S m y.tl r Kp.refl (List.prefix_refl _) hM1.st hm vs0 H1 (Nat.le_succ _) (Option.some.inj hp).symm f3 hM1 kF1⟩
        | false =>
          refine iteF ⟨_, rfl, rfl, _, rfl, ?_⟩
          rw [dec_ss, lit_word]
          cases c3 : seq f wWord with
          | true =>
            rw [prim_word c1 c2 c3] at hp
            have hp := Option.some.inj hp
            refine iteT ⟨_, rfl, M.a, _, dx, fs, _, rfl, ho1, T.cl_Machine, T.a_Machine_found, mf.f_found, tyL hfa1, ?_⟩
            have fin : ∀ b : Bool, y.isW = b → ∀ n : Nat, S[n]? = some (G.T.ofB b) → rAppend (.ref M.fa) [.int (n : Int)] H1 Q := by
              intro b hb n hn
              exact ⟨M.fa, vs0, _, rfl, rfl, hfa1, by rw [sizeLine_eq]; omega, app H1 S n _ r Kp.refl (List.prefix_refl _) hM1.st hn vs0 H1 (Nat.le_succ _) (by rw [← hp, hb]) f3 hM1 kF1⟩
            refine ⟨_, rfl, rfl, _, rfl, ?_⟩
            by_cases hn : ny = 0
            · subst hn
              have ht := hz.mp rfl
              subst ht
              exact iteF (iteF (fin false rfl 0 hB.z))
            · have e0 : (!decide (V.int ((ny : Nat) : Int) = V.int 0)) = true := by
                rw [decide_eq_false fun z => hn (by have := V.int.inj z; omega)]
                rfl
              rw [e0]
              refine iteT ⟨_, rfl, M.a, _, dx, fs, _, rfl, ho1, T.cl_Machine, T.a_Machine_store, mf.f_store, M.st.a, dx2, fs2, rfl, ho2, nm.m_is_word, _, rfl, M.st, S, y, ny, rfl, hM1.st, hy, y.isW, rfl, ?_⟩
              cases hw : y.isW with
              | true => exact iteT ⟨_, rfl, M.a, _, dx, fs, _, rfl, ho1, T.cl_Machine, T.a_Machine_yes, hyes, fin true hw nyes hyes2⟩
              | false => exact iteF (fin false hw 0 hB.z)
          | false =>
            cases r with
            | nil =>
              rw [prim_one c1 c2 c3] at hp
              cases hp
            | cons x r2 =>
              rw [List.reverse_cons] at f3
              obtain ⟨vs1, xv, rfl, f4, nx, rfl, hx⟩ := f3.snoc
              refine iteF ⟨_, rfl, M.a, _, dx, fs, _, rfl, ho1, T.cl_Machine, T.a_Machine_found, mf.f_found, tyL hfa1, M.fa, _, _, rfl, rfl, hfa1, last_at _ _, ?_⟩
              rw [dl_at]
              obtain ⟨hM2, k2⟩ := hM1.setF (fd' := r2) f4
              have hfa2 : (upd H1 M.fa (.lst vs1)) M.fa = some (.lst vs1) := upd_same
              have ho1' : (upd H1 M.fa (.lst vs1)) M.a = some (.ins (C_Machine K) dx fs) := by rw [upd_ne hM.ne.2.1]; exact ho1
              have k12 := kF1.trans k2.fa
              generalize upd H1 M.fa (.lst vs1) = H2 at hM2 k12 hfa2 ho1' k2
              obtain ⟨ents2, ks2, hB2⟩ := id hM2.st
              obtain ⟨dx3, fs3, ho3, _, _, _, _, nm3⟩ := hB2.ob
              have hl1 := f4.len
              rw [List.length_reverse] at hl1
              rw [List.length_cons] at hfl
              refine ⟨_, rfl, rfl, _, rfl, ?_⟩
              rw [dec_ss, lit_same]
              cases c4 : seq f wSame with
              | true =>
                rw [prim_same c1 c2 c3 c4] at hp
                have hp := Option.some.inj hp
                refine iteT ⟨_, rfl, M.a, _, dx, fs, _, rfl, ho1', T.cl_Machine, T.a_Machine_found, mf.f_found, tyL hfa2, ?_⟩
                have fin : ∀ b : Bool, G.T.beq x y = b → ∀ n : Nat, S[n]? = some (G.T.ofB b) → rAppend (.ref M.fa) [.int (n : Int)] H2 Q := by
                  intro b hb n hn
                  refine ⟨M.fa, vs1, _, rfl, rfl, hfa2, by rw [sizeLine_eq]; omega, ?_⟩
                  obtain ⟨hM3, k3⟩ := hM2.setF (fd' := G.T.ofB b :: r2) (vs := vs1 ++ [.int (n : Int)]) (by rw [List.reverse_cons]; exact f4.app (A2.one ⟨n, rfl, hn⟩))
                  rw [hb] at hp
                  rw [hp] at hM3
                  exact q S _ (k12.trans k3.fa) hM3 (List.prefix_refl _) (Nat.le_succ _)
                refine ⟨_, rfl, _, rfl, rfl, _, rfl, ?_⟩
                rw [num_inj hM2.st hx hy]
                cases hb : G.T.beq x y with
                | true => exact iteT ⟨_, rfl, M.a, _, dx, fs, _, rfl, ho1', T.cl_Machine, T.a_Machine_yes, hyes, fin true hb nyes hyes2⟩
                | false => exact iteF (fin false hb 0 hB2.z)
              | false =>
                rw [prim_join c1 c2 c3 c4] at hp
                have hp := Option.some.inj hp
                refine iteF ⟨_, rfl, M.a, _, dx, fs, _, rfl, ho1', T.cl_Machine, T.a_Machine_found, mf.f_found, tyL hfa2, _, rfl, M.a, _, dx, fs, _, rfl, ho1', T.cl_Machine, T.a_Machine_store, mf.f_store, M.st.a, dx3, fs3, rfl, ho3, nm3.m_pair_up, _, rfl, _, rfl, M.st, S, x, y, nx, ny, rfl, hM2.st, hx, hy, by omega, fun S3 n3 H3 k3 hS3 p3 hl3 hn3 => ?_⟩
                have hM3 := hM2.store k3 p3 hS3
                have hfa3 := k3.keep hfa2 hM.ne.2.2.2.2.2.1
                refine ⟨M.fa, vs1, _, rfl, rfl, hfa3, by rw [sizeLine_eq]; omega, ?_⟩
                obtain ⟨hM4, k4⟩ := hM3.setF (fd' := G.T.join x y :: r2) (vs := vs1 ++ [.int (n3 : Int)]) (by rw [List.reverse_cons]; exact (f4.mono (NumT.mono p3)).app (A2.one ⟨n3, rfl, hn3⟩))
                rw [hp] at hM4
                exact q S3 _ ((k12.trans k3.stF).trans k4.fa) hM4 p3 hl3
end
end G
set_option maxRecDepth 100000
set_option maxHeartbeats 4000000
/-! F5c: Machine.evaluate. -/
namespace G
open PySem PySem.Spec PyProof.Rows L2
section
variable {P : Program} {w : World} {K : PySem.W.Frag} {H : Hp} {S : List T} {M : MA} {fns : List Fn} {td : List Tk} {fd : List T} {k : Nat}
theorem MachAt.push {tk : Tk} {v : V} {Q : VK} (h : MachAt P w K H M fns S td fd k) (htk : TkAt M.F S H tk v) (hl : td.length ≤ 16000000) (q : ∀ H', Kp [M.ta] H H' → MachAt P w K H' M fns S (tk :: td) fd k → Q .non H') : rAppend (.ref M.ta) [v] H Q := by
  obtain ⟨ts, t1, t2⟩ := h.t
  have hlt := t2.len
  rw [List.length_reverse] at hlt
  obtain ⟨hM, kp⟩ := h.setT (td' := tk :: td) (vs := ts ++ [v]) (by rw [List.reverse_cons]; exact t2.app (A2.one htk))
  exact ⟨M.ta, ts, v, rfl, rfl, t1, by rw [sizeLine_eq]; omega, q _ kp hM⟩
theorem MachAt.pushF {t : T} {v : V} {Q : VK} (h : MachAt P w K H M fns S td fd k) (hv : NumT S t v) (hl : fd.length ≤ 16000000) (q : ∀ H', Kp [M.fa] H H' → MachAt P w K H' M fns S td (t :: fd) k → Q .non H') : rAppend (.ref M.fa) [v] H Q := by
  obtain ⟨ts, t1, t2⟩ := h.f
  have hlt := t2.len
  rw [List.length_reverse] at hlt
  obtain ⟨hM, kp⟩ := h.setF (fd' := t :: fd) (vs := ts ++ [v]) (by rw [List.reverse_cons]; exact t2.app (A2.one hv))
  exact ⟨M.fa, ts, v, rfl, rfl, t1, by rw [sizeLine_eq]; omega, q _ kp hM⟩
theorem MachAt.tyT (h : MachAt P w K H M fns S td fd k) : tyV K "list" (.ref M.ta) H := by
  obtain ⟨ts, t1, t2⟩ := h.t
  exact tyL t1
theorem MachAt.tyF (h : MachAt P w K H M fns S td fd k) : tyV K "list" (.ref M.fa) H := by
  obtain ⟨ts, t1, t2⟩ := h.f
  exact tyL t1
theorem MachAt.newNot {b : Addr} (h : MachAt P w K H M fns S td fd k) (hb : H b = none) : b ∉ M.F := by
  obtain ⟨dx, fs, o1, _⟩ := h.ob
  obtain ⟨us, f1, f2⟩ := h.f
  obtain ⟨ts, t1, t2⟩ := h.t
  have h2 := (h.st.fresh hb).2
  intro z
  simp only [MA.F, List.mem_cons] at z
  rcases z with rfl | rfl | rfl | z
  · rw [o1] at hb; cases hb
  · rw [f1] at hb; cases hb
  · rw [t1] at hb; cases hb
  · exact h2 z
end
section
variable {P : Program} {w : World} {K : PySem.W.Frag} {mg : Str → Option Value} {base : Heap}
def sp_Machine_evaluate (P : Program) (w : World) (K : PySem.W.Frag) : Sp := fun vs H Q _ => ∃ M fns S td fd td' fd' k e env d, ∃ n : Nat, vs = [.ref M.a, .int (n : Int), .ref d] ∧ MachAt P w K H M fns S td fd k ∧ S[n]? = some (Xp.t e) ∧ d ∉ M.F ∧ EnvAt S H d env ∧ stepE e env td fd = some (td', fd') ∧ S.length ≤ 8000000 ∧ fd.length ≤ 8000000 ∧ td.length ≤ 15000000 ∧ ansM P w K M fns S td' fd' k 0 H Q
theorem sc_Machine_evaluate : FnScope ["self", "expression", "names", "items", "word", "parts", "part"] ["self", "expression", "names"] (defScope s_Machine_evaluate) := ⟨rfl, rfl, rfl, by decide +kernel, rfl, by decide +kernel, by decide +kernel⟩
theorem f_Machine_evaluate (T : Txt w K mg) : Mtb P w K mg base (C_Machine K) "evaluate" 2 ["self", "expression", "names"] (sp_Machine_evaluate P w K) := by
  have F_Store_is_word : Mtb P w K mg base (C_Store K) "is_word" 1 ["self", "number"] (sp_Store_is_word P w K) := f_Store_is_word T
  have F_Store_items_of : Mtb P w K mg base (C_Store K) "items_of" 1 ["self", "number"] (sp_Store_items_of P w K) := f_Store_items_of T
  refine T.d_Machine_evaluate.mtb sc_Machine_evaluate (fun _ _ _ _ _ _ us hl => match us, hl with | [_, _, _], _ => rfl) (fun vs H Q E h => ?_) (fun f cdv A outer s H vs Q E hr h => ?_)
  · obtain ⟨_, _, _, _, _, _, _, _, _, _, _, _, rfl, _⟩ := h
    rfl
  · obtain ⟨M, fns, S, td, fd, td', fd', k, e, env, d, n, rfl, hM, hn, hdF, hE, hst, hSl, hfl, htl, q⟩ := h
    have hu := hu_of hr
    refine ⟨_, (pss_cons (ps_if (pt_val (pe_m (pe_fld (pv 0) rfl) T.cl_Store F_Store_is_word (hr.mono (by decide)) (pa_cons (pv 1) pa_nil))) (pss_cons (ps_expr (pe_bm PySem.F.plainAttrs_list PySem.F.slot_list_append PySem.F.type_list_append mt_append (pe_fld (pv 0) rfl) (pa_cons (pe_dget hu (pv 2) (pv 1) (fun _ _ => rfl)) pa_nil)))
      (pss_one ps_retN)) pss_nil)
      (pss_cons (ps_set (i := 3) sc_Machine_evaluate.nd rfl (Or.inl rfl) (pe_m (pe_fld (pv 0) rfl) T.cl_Store F_Store_items_of (hr.mono (by decide)) (pa_cons (pv 1) pa_nil)))
      (pss_cons (ps_set (i := 4) sc_Machine_evaluate.nd rfl (Or.inl rfl) (pe_ix ix_list (pe_fld (pe_fld (pv 0) rfl) rfl) (pe_ix ix_list (pv 3) pe_int (fun _ _ => rfl)) (fun _ _ => rfl)))
      (pss_one (ps_if (pt_cmpR op_eq (pv 4) pe_str (nomark _)) (pss_one (ps_expr (pe_bm PySem.F.plainAttrs_list PySem.F.slot_list_append PySem.F.type_list_append mt_append (pe_fld (pv 0) rfl) (pa_cons (pe_ix ix_list (pv 3) pe_int (fun _ _ => rfl)) pa_nil)))) (pss_one (ps_if (pt_cmpR op_eq (pv 4) pe_str (nomark _)) (pss_cons (ps_expr (pe_bm PySem.F.plainAttrs_list PySem.F.slot_list_append PySem.F.type_list_append mt_append (pe_fld (pv 0) rfl) (pa_cons (pe_tup (pa_cons pe_str (pa_cons (pe_ix ix_list (pv 3) pe_int (fun _ _ => rfl)) (pa_cons (pe_ix ix_list (pv 3) pe_int (fun _ _ => rfl)) (pa_cons (pv 2) pa_nil))))) pa_nil)))
      (pss_one (ps_expr (pe_bm PySem.F.plainAttrs_list PySem.F.slot_list_append PySem.F.type_list_append mt_append (pe_fld (pv 0) rfl) (pa_cons (pe_tup (pa_cons pe_str (pa_cons (pe_ix ix_list (pv 3) pe_int (fun _ _ => rfl)) (pa_cons (pv 2) pa_nil)))) pa_nil))))) (pss_cons (ps_set (i := 5) sc_Machine_evaluate.nd rfl (Or.inl rfl) (pe_slice sl_list (pv 3) (po_some pe_int) po_none))
      (pss_cons (ps_expr (pe_bm PySem.F.plainAttrs_list PySem.F.slot_list_append PySem.F.type_list_append mt_append (pe_fld (pv 0) rfl) (pa_cons (pe_ifExp (pt_cmpR op_in_seq (pv 4) (pe_gr T.c_PLAIN) (by rfl)) (pe_tup (pa_cons pe_str (pa_cons (pv 4) pa_nil))) (pe_tup (pa_cons pe_str (pa_cons (pe_ix ix_list (pv 3) pe_int (fun _ _ => rfl)) (pa_cons (pe_callB call_len_seq (by rfl) T.n_len PySem.boot_len (pa_cons (pv 5) pa_nil)) pa_nil))))) pa_nil)))
      (pss_one (ps_for PassesOwn.never rfl (pi_reversed (by rfl) T.n_reversed (pa_cons (pv 5) pa_nil)) (pg_name (i := 6) sc_Machine_evaluate.nd rfl (Or.inl rfl)) (pss_one (ps_expr (pe_bm PySem.F.plainAttrs_list PySem.F.slot_list_append PySem.F.type_list_append mt_append (pe_fld (pv 0) rfl) (pa_cons (pe_tup (pa_cons pe_str (pa_cons (pv 6) (pa_cons (pv 2) pa_nil)))) pa_nil))))))))))))))), ?_⟩
    obtain ⟨dx, fs, ho, mf⟩ := hM.ob
    obtain ⟨ents, ks, hB⟩ := id hM.st
    obtain ⟨dx2, fs2, ho2, l1, _, _, _, nm⟩ := hB.ob
    refine ⟨_, rfl, M.a, _, dx, fs, _, rfl, ho, T.cl_Machine, T.a_Machine_store, mf.f_store, M.st.a, dx2, fs2, rfl, ho2, nm.m_is_word, _, rfl, M.st, S, _, n, rfl, hM.st, hn, _, rfl, ?_⟩
    have hEd := hE
    obtain ⟨kvs, hD, henv⟩ := hE
    cases e with
    | v s =>
      cases hg : envGet s env with
      | none =>
        simp only [stepE, hg] at hst
        cases hst
      | some t =>
        simp only [stepE, hg] at hst
        cases hst
        obtain ⟨n1, m1, g1, g2, g3⟩ := henv s t hg
        have : n1 = n := hB.nd n1 n _ g1 hn
        subst this
        have hgd := DGet.k (k := Sum.inl (n1 : Int)) hD
        rw [g2] at hgd
        refine iteT ⟨_, rfl, M.a, _, dx, fs, _, rfl, ho, T.cl_Machine, T.a_Machine_found, mf.f_found, hM.tyF, _, rfl, _, rfl, d, _, rfl, hgd, hM.pushF ⟨m1, rfl, g3⟩ (by omega) fun H' kp hM' => ?_⟩
        exact q S H' kp.fa hM' (List.prefix_refl _) (Nat.le_refl _)
    | q t =>
      simp only [stepE] at hst
      cases hst
      refine iteF ⟨_, rfl, M.a, _, dx, fs, _, rfl, ho, T.cl_Machine, T.a_Machine_store, mf.f_store, M.st.a, dx2, fs2, rfl, ho2, nm.m_items_of, _, rfl, M.st, S, [.w wQuote, t], n, rfl, hM.st, hn, by omega, fun r us H1 k1 hr0 hrl aR => ?_⟩
      obtain ⟨u1, r1, rfl, ⟨n1, rfl, hn1⟩, aR⟩ := aR
      obtain ⟨u2, r2, rfl, hN2, aR⟩ := aR
      rw [show r2 = [] from aR] at hrl
      have hM1 := hM.sm k1
      have ho1 := k1 _ _ ho (.inl (by simp))
      have ho21 := k1 _ _ ho2 (.inl (by simp))
      obtain ⟨ev, hev, _, hew, _⟩ := hB.ent hn1
      obtain rfl := hew wQuote rfl
      refine ⟨_, rfl, M.a, _, dx, fs, _, rfl, ho1, T.cl_Machine, T.a_Machine_store, mf.f_store, M.st.a, _, dx2, fs2, _, rfl, ho21, T.cl_Store, T.a_Store_entries, l1, _, rfl, r, _, 0, _, rfl, rfl, sq_lst hrl, atI_nat (j := 0) rfl, M.st.ea, ents, (n1 : Int), _, rfl, rfl, sq_lst (k1 _ _ hB.e (.inl (by simp))), atI_nat hev, ?_⟩
      refine ⟨_, rfl, rfl, _, rfl, ?_⟩
      rw [dec_ss, lit_quote, seq_self]
      refine iteT ⟨_, rfl, M.a, _, dx, fs, _, rfl, ho1, T.cl_Machine, T.a_Machine_found, mf.f_found, hM1.tyF, _, rfl, r, _, 1, u2, rfl, rfl, sq_lst hrl, rfl, hM1.pushF hN2 (by omega) fun H' kp hM' => ?_⟩
      exact q S H' (k1.nil.trans kp.fa) hM' (List.prefix_refl _) (Nat.le_refl _)
    | n f as =>
      simp only [stepE] at hst
      cases hsn : stepN f as env td with
      | none =>
        rw [hsn] at hst
        cases hst
      | some td1 =>
        rw [hsn] at hst
        cases hst
        refine iteF ⟨_, rfl, M.a, _, dx, fs, _, rfl, ho, T.cl_Machine, T.a_Machine_store, mf.f_store, M.st.a, dx2, fs2, rfl, ho2, nm.m_items_of, _, rfl, M.st, S, .w f :: Xp.ts as, n, rfl, hM.st, hn, by omega, fun r us H1 k1 hr0 hrl aR => ?_⟩
        obtain ⟨u1, r1, rfl, ⟨n1, rfl, hn1⟩, aR⟩ := aR
        rw [Xp.ts_map] at aR
        have hlr := aR.len
        rw [List.length_map] at hlr
        have hasl : as.length ≤ n := by
          have := hB.len (.w f :: Xp.ts as) n hn
          rw [List.length_cons, Xp.ts_map, List.length_map] at this
          omega
        have hnl := (List.getElem?_eq_some_iff.mp hn).1
        have hM1 := hM.sm k1
        have ho1 := k1 _ _ ho (.inl (by simp))
        have ho21 := k1 _ _ ho2 (.inl (by simp))
        have hE1 : EnvAt S H1 d env := hEd.go (F := M.F) k1 (List.prefix_refl _) (by simp)
        obtain ⟨ev, hev, _, hew, _⟩ := hB.ent hn1
        obtain rfl := hew f rfl
        refine ⟨_, rfl, M.a, _, dx, fs, _, rfl, ho1, T.cl_Machine, T.a_Machine_store, mf.f_store, M.st.a, _, dx2, fs2, _, rfl, ho21, T.cl_Store, T.a_Store_entries, l1, _, rfl, r, _, 0, _, rfl, rfl, sq_lst hrl, atI_nat (j := 0) rfl, M.st.ea, ents, (n1 : Int), _, rfl, rfl, sq_lst (k1 _ _ hB.e (.inl (by simp))), atI_nat hev, ?_⟩
        refine ⟨_, rfl, rfl, _, rfl, ?_⟩
        rw [dec_ss, lit_quote]
        obtain ⟨has20, hsn⟩ : as.length ≤ 20 ∧ stepI f as env td = some td' := by
          cases c0 : Nat.ble as.length 20 with
          | false =>
            simp only [stepN, c0] at hsn
            cases hsn
          | true =>
            simp only [stepN, c0] at hsn
            exact ⟨Nat.le_of_ble_eq_true c0, hsn⟩
        cases c1 : seq f wQuote with
        | true =>
          simp only [stepI, c1] at hsn
          cases hsn
        | false =>
          refine iteF ⟨_, rfl, rfl, _, rfl, ?_⟩
          rw [dec_ss, lit_if2]
          cases c2 : seq f wIf with
          | true =>
            obtain ⟨c, a, b, rest, has⟩ : ∃ c a b rest, as = c :: a :: b :: rest := by
              match as, hsn with
              | c :: a :: b :: rest, _ => exact ⟨c, a, b, rest, rfl⟩
              | [], hsn => simp only [stepI, c1, c2] at hsn; cases hsn
              | [_], hsn => simp only [stepI, c1, c2] at hsn; cases hsn
              | [_, _], hsn => simp only [stepI, c1, c2] at hsn; cases hsn
            subst has
            simp only [stepI, c1, c2] at hsn
            cases hsn
            obtain ⟨v1, r2, rfl, ⟨m1, rfl, g1⟩, aR⟩ := aR
            obtain ⟨v2, r3, rfl, ⟨m2, rfl, g2⟩, aR⟩ := aR
            obtain ⟨v3, r4, rfl, ⟨m3, rfl, g3⟩, aR⟩ := aR
            refine iteT ⟨_, rfl, M.a, _, dx, fs, _, rfl, ho1, T.cl_Machine, T.a_Machine_todo, mf.f_todo, hM1.tyT, _, rfl, r, _, 2, _, rfl, rfl, sq_lst hrl, atI_nat (j := 2) rfl, _, rfl, r, _, 3, _, rfl, rfl, sq_lst hrl, atI_nat (j := 3) rfl, _, rfl, zle (Nat.le_of_ble_eq_true rfl), fun p2 hp2 => ?_⟩
            have k2 : Sm H1 (upd H1 p2 (.tup [.str wIf, .int (m2 : Int), .int (m3 : Int), .ref d])) := Kp.new hp2
            have hM2 := hM1.sm k2
            have tk2 : TkAt M.F S (upd H1 p2 (.tup [.str wIf, .int (m2 : Int), .int (m3 : Int), .ref d])) (.br a b env) (.ref p2) := ⟨p2, d, m2, m3, rfl, by rw [lit_if2]; exact upd_same, g2, g3, hdF, hE1.go (F := M.F) k2 (List.prefix_refl _) (by simp)⟩
            dsimp only [tNil]
            refine hM2.push tk2 (by omega) fun H3 k3 hM3 => ?_
            have k23 := k2.nil.trans k3.ta
            obtain ⟨dx3, fs3, ho3, mf3⟩ := hM3.ob
            have hr3 : H3 r = some (.lst (.int (n1 : Int) :: .int (m1 : Int) :: .int (m2 : Int) :: .int (m3 : Int) :: r4)) := k23.keep hrl (hM.newNot hr0)
            refine ⟨_, rfl, M.a, _, dx3, fs3, _, rfl, ho3, T.cl_Machine, T.a_Machine_todo, mf3.f_todo, hM3.tyT, _, rfl, r, _, 1, _, rfl, rfl, sq_lst hr3, atI_nat (j := 1) rfl, _, rfl, zle (Nat.le_of_ble_eq_true rfl), fun p4 hp4 => ?_⟩
            have k4 : Sm H3 (upd H3 p4 (.tup [.str "eval", .int (m1 : Int), .ref d])) := Kp.new hp4
            have hM4 := hM3.sm k4
            have tk4 : TkAt M.F S (upd H3 p4 (.tup [.str "eval", .int (m1 : Int), .ref d])) (.ev c env) (.ref p4) := ⟨p4, d, m1, rfl, upd_same, g1, hdF, (hE1.go (F := M.F) k23 (List.prefix_refl _) hdF).go (F := M.F) k4 (List.prefix_refl _) (by simp)⟩
            dsimp only [tNil]
            refine hM4.push tk4 (by rw [List.length_cons]; omega) fun H5 k5 hM5 => ?_
            exact q S H5 ((k1.nil.trans k23).trans (k4.nil.trans k5.ta)) hM5 (List.prefix_refl _) (Nat.le_refl _)
          | false =>
            refine iteF ⟨_, rfl, _, rfl, r, _, rfl, sq_lst hrl, fun p hp => ?_⟩
            have hcut : cutV (V.int (n1 : Int) :: r1) (some 1) none = r1 := by
              have e1 : HT.sIx (V.int (n1 : Int) :: r1).length 0 (some ((1 : Nat) : Int)) = 1 := by
                rw [HT.sIx_nat, List.length_cons]
                omega
              have e2 : (some 1 : Option Int) = some ((1 : Nat) : Int) := rfl
              unfold cutV
              rw [e2, e1, HT.sIx_none]
              show (List.drop 1 (V.int (n1 : Int) :: r1)).take _ = r1
              exact List.take_of_length_le (by show r1.length ≤ _; rw [List.length_cons]; omega)
            rw [hcut]
            have kp1 : Sm H1 (upd H1 p (.lst r1)) := Kp.new hp
            have hp1 : (upd H1 p (.lst r1)) p = some (.lst r1) := upd_same
            have hM2 := hM1.sm kp1
            have hE2 := hE1.go (F := M.F) kp1 (List.prefix_refl _) (by simp)
            have hpF := hM1.newNot hp
            have hrl2 := kp1 _ _ hrl (.inl (by simp))
            have k12 := k1.trans kp1
            have ho2' := kp1 _ _ ho1 (.inl (by simp))
            generalize upd H1 p (.lst r1) = H2 at kp1 hp1 hM2 hE2 hrl2 k12 ho2'
            have hloop : ∀ (tk0 : Tk) (H3 : Hp), tk0 = (match inS f plain with | true => Tk.pr f | false => .ca f as.length) → Kp M.F H H3 → H3 p = some (.lst r1) → MachAt P w K H3 M fns S (tk0 :: td) fd k → EnvAt S H3 d env → td' = pushEv env as (tk0 :: td) →
                tFor (iRev K (tCons (tVar 5) tNil)) (gName 6) (tDrop (tBM K "list" rAppend (tFld K (tVar 0) "todo") (tCons (tTup (tCons (tC (.str "eval")) (tCons (tVar 6) (tCons (tVar 2) tNil)))) tNil))) { nx := fun _ H' => Q .non H', rt := Q } [some (.ref M.a), some (.int (n : Int)), some (.ref d), some (.ref r), some (.str f), some (.ref p), none] H3 := by
              intro tk0 H3 _ k3 hp3 hM3 hE3 htd
              refine ⟨_, rfl, p, r1, rfl, sq_lst hp3, for_it walk_rev (fun i σ H' => ∃ v6, σ = [some (.ref M.a), some (.int (n : Int)), some (.ref d), some (.ref r), some (.str f), some (.ref p), v6] ∧ Kp M.F H H' ∧ H' p = some (.lst r1) ∧ EnvAt S H' d env ∧ MachAt P w K H' M fns S (pushEv env (as.drop (as.length - i)) (tk0 :: td)) fd k) ⟨none, rfl, k3, hp3, hE3, by rw [Nat.sub_zero, List.drop_length]; exact hM3⟩ (fun i σ H' _ ⟨_, _, _, h, _⟩ => sq_lst h) ?_ ?_⟩
              · rintro i x σ H4 H5 hi ⟨v6, rfl, k4, hp4, hE4, hM4⟩ ⟨rfl, hx⟩
                obtain ⟨t, ht, m, rfl, hm⟩ := aR.at_ hx
                rw [List.getElem?_map] at ht
                have hj : as.length - (i + 1) < as.length := by omega
                rw [show r1.length - 1 - i = as.length - (i + 1) by omega, List.getElem?_eq_getElem hj] at ht
                cases ht
                have e2 : as.drop (as.length - (i + 1)) = as[as.length - (i + 1)] :: as.drop (as.length - i) := by
                  rw [List.drop_eq_getElem_cons hj, show as.length - (i + 1) + 1 = as.length - i by omega]
                obtain ⟨dx5, fs5, ho5, mf5⟩ := hM4.ob
                refine ⟨_, rfl, M.a, _, dx5, fs5, _, rfl, ho5, T.cl_Machine, T.a_Machine_todo, mf5.f_todo, hM4.tyT, _, rfl, _, rfl, zle (Nat.le_of_ble_eq_true rfl), fun p6 hp6 => ?_⟩
                have k6 : Sm H5 (upd H5 p6 (.tup [.str "eval", .int (m : Int), .ref d])) := Kp.new hp6
                have hM6 := hM4.sm k6
                have tk6 : TkAt M.F S (upd H5 p6 (.tup [.str "eval", .int (m : Int), .ref d])) (.ev as[as.length - (i + 1)] env) (.ref p6) := ⟨p6, d, m, rfl, upd_same, hm, hdF, hE4.go (F := M.F) k6 (List.prefix_refl _) (by simp)⟩
                have hpl : ∀ (l : List Xp) (tds : List Tk), (pushEv env l tds).length = l.length + tds.length := by
                  intro l
                  induction l with
                  | nil =>
                    intro tds
                    simp [pushEv]
                  | cons y l ih =>
                    intro tds
                    show (pushEv env l tds).length + 1 = l.length + 1 + tds.length
                    rw [ih]
                    omega
                dsimp only [tNil]
                refine hM6.push tk6 (by rw [hpl, List.length_drop, List.length_cons]; omega) fun H7 k7 hM7 => ⟨_, rfl, (k4.trans k6.nil).trans k7.ta, k7.keep (k6 _ _ hp4 (.inl (by simp))) (fun z => hpF (by rw [List.mem_singleton.mp z]; simp [MA.F])), (hE4.go (F := M.F) k6 (List.prefix_refl _) (by simp)).go (F := M.F) k7 (List.prefix_refl _) (fun z => hdF (by rw [List.mem_singleton.mp z]; simp [MA.F])), ?_⟩
                rw [e2]
                exact hM7
              · rintro σ H4 ⟨v6, rfl, k4, hp4, hE4, hM4⟩
                rw [hlr, Nat.sub_self, List.drop_zero, ← htd] at hM4
                exact q S H4 k4 hM4 (List.prefix_refl _) (Nat.le_refl _)
            refine ⟨_, rfl, M.a, _, dx, fs, _, rfl, ho2', T.cl_Machine, T.a_Machine_todo, mf.f_todo, hM2.tyT, ?_⟩
            refine ⟨_, rfl, fun aP hP => ?_⟩
            obtain ⟨aP', xP, eP, hXP, hAP⟩ := hP H2
            cases eP
            obtain rfl := aa_words hAP
            refine ⟨aP, _, rfl, .inr hXP.sq, rfl, flatV_strs _, _, rfl, ?_⟩
            rw [show (if false = true then !inV (V.str f) (plain.map V.str) else inV (V.str f) (plain.map V.str)) = inS f plain from inV_strs f plain]
            cases c3 : inS f plain with
            | true =>
              simp only [stepI, c1, c2, c3] at hsn
              cases hsn
              refine iteT ⟨_, rfl, zle (Nat.le_of_ble_eq_true rfl), fun p4 hp4 => ?_⟩
              have k4 : Sm H2 (upd H2 p4 (.tup [.str "do", .str f])) := Kp.new hp4
              have hM4 := hM2.sm k4
              dsimp only [tNil]
              refine hM4.push (tk := .pr f) ⟨p4, rfl, upd_same⟩ (by omega) fun H5 k5 hM5 => ?_
              exact hloop (.pr f) H5 (by rw [c3]) (k12.nil.trans (k4.nil.trans k5.ta)) (k5.keep (k4 _ _ hp1 (.inl (by simp))) (fun z => hpF (by rw [List.mem_singleton.mp z]; simp [MA.F]))) hM5 ((hE2.go (F := M.F) k4 (List.prefix_refl _) (by simp)).go (F := M.F) k5 (List.prefix_refl _) (fun z => hdF (by rw [List.mem_singleton.mp z]; simp [MA.F]))) rfl
            | false =>
              simp only [stepI, c1, c2, c3] at hsn
              cases hsn
              refine iteF ⟨_, rfl, r, _, 0, _, rfl, rfl, sq_lst hrl2, atI_nat (j := 0) rfl, _, rfl, p, r1, rfl, .inl (sq_lst hp1), zle (Nat.le_of_ble_eq_true rfl), fun p4 hp4 => ?_⟩
              have k4 : Sm H2 (upd H2 p4 (.tup [.str "call", .int (n1 : Int), .int (r1.length : Int)])) := Kp.new hp4
              have hM4 := hM2.sm k4
              dsimp only [tNil]
              refine hM4.push (tk := .ca f as.length) ⟨p4, n1, rfl, by rw [← hlr]; exact upd_same, hn1⟩ (by omega) fun H5 k5 hM5 => ?_
              exact hloop (.ca f as.length) H5 (by rw [c3]) (k12.nil.trans (k4.nil.trans k5.ta)) (k5.keep (k4 _ _ hp1 (.inl (by simp))) (fun z => hpF (by rw [List.mem_singleton.mp z]; simp [MA.F]))) hM5 ((hE2.go (F := M.F) k4 (List.prefix_refl _) (by simp)).go (F := M.F) k5 (List.prefix_refl _) (fun z => hdF (by rw [List.mem_singleton.mp z]; simp [MA.F]))) rfl
end
end G
set_option maxRecDepth 100000
set_option maxHeartbeats 4000000
/-! F5d: Machine.begin. -/
namespace G
open PySem PySem.Spec PyProof.Rows L2
theorem zip_at {s : Str} {t : T} : ∀ {ps : List Str} {as : List T}, envGet s (zipEnv ps as) = some t → ∃ j : Nat, ps[j]? = some s ∧ as[j]? = some t
  | [], as, h => by
    have h : envGet s [] = some t := h
    cases h
  | p :: ps, [], h => by
    have h : envGet s [] = some t := h
    cases h
  | p :: ps, a :: as, h => by
    have h : (match seq p s with | true => some a | false => envGet s (zipEnv ps as)) = some t := h
    cases e : seq p s with
    | true =>
      rw [e] at h
      cases h
      exact ⟨0, congrArg some (seq_iff.mp e), rfl⟩
    | false =>
      rw [e] at h
      obtain ⟨j, h1, h2⟩ := zip_at (ps := ps) h
      exact ⟨j + 1, h1, h2⟩
theorem A2.drop {α : Type} {R : α → V → Prop} : ∀ {as : List α} {vs : List V} (n : Nat), A2 R as vs → A2 R (as.drop n) (vs.drop n)
  | as, vs, 0, h => h
  | [], vs, n + 1, h => by rw [show vs = [] from h]; rfl
  | a :: as, vs, n + 1, h => by
    obtain ⟨v, r, rfl, _, h2⟩ := h
    exact h2.drop n
section
variable {P : Program} {w : World} {K : PySem.W.Frag} {mg : Str → Option Value} {base : Heap}
def sp_Machine_begin (P : Program) (w : World) (K : PySem.W.Frag) : Sp := fun vs H Q _ => ∃ M fns S td fd k f g nv args vals, ∃ n : Nat, vs = [.ref M.a, .int (n : Int), .ref nv] ∧ MachAt P w K H M fns S td fd k ∧ S[n]? = some (.w f) ∧ fnGet f fns = some g ∧ XT K H nv vals ∧ A2 (NumT S) args vals ∧ g.ps.length = args.length ∧ g.ps.length ≤ 20 ∧ nodupS g.ps = true ∧
  td.length ≤ 15000000 ∧ ansM P w K M fns S (.ev g.body (zipEnv g.ps args) :: td) fd k 0 H Q
theorem sc_Machine_begin : FnScope ["self", "name", "numbers", "names", "parameters", "body", "call", "parameter", "number"] ["self", "name", "numbers"] (defScope s_Machine_begin) := ⟨rfl, rfl, rfl, by decide +kernel, rfl, by decide +kernel, by decide +kernel⟩
theorem f_Machine_begin (T : Txt w K mg) : Mtb P w K mg base (C_Machine K) "begin" 1 ["self", "name", "numbers"] (sp_Machine_begin P w K) := by
  refine T.d_Machine_begin.mtb sc_Machine_begin (fun _ _ _ _ _ _ us hl => match us, hl with | [_, _, _], _ => rfl) (fun vs H Q E h => ?_) (fun f cdv A outer s H vs Q E hr h => ?_)
  · obtain ⟨_, _, _, _, _, _, _, _, _, _, _, _, rfl, _⟩ := h
    rfl
  · obtain ⟨M, fns, S, td, fd, k, f, g, nv, args, vals, n, rfl, hM, hn, hg, hX, aV, hpl, hp20, hpn, htl, q⟩ := h
    have hu := hu_of hr
    refine ⟨_, (pss_cons (ps_asg (pe_dget hu (pe_fld (pv 0) rfl) (pv 1) (fun _ _ => rfl)) (pg_tupK K rfl 2 rfl (pgs_cons (pg_name (i := 4) sc_Machine_begin.nd rfl (Or.inl rfl)) (pgs_cons (pg_name (i := 5) sc_Machine_begin.nd rfl (Or.inl rfl)) pgs_nil))))
      (pss_cons (ps_if (pt_val (pe_fld (pv 0) rfl)) (pss_cons ps_never (pss_cons ps_never (pss_cons ps_never (pss_cons ps_never (pss_one ps_never))))) pss_nil)
      (pss_cons (ps_set (i := 3) sc_Machine_begin.nd rfl (Or.inl rfl) pe_dnewK)
      (pss_cons (ps_for PassesOwn.never rfl (pi_zipM (by rfl) T.n_zip (pa_cons (pv 4) (pa_cons (pv 2) pa_nil))) (pg_tupK K rfl 2 rfl (pgs_cons (pg_name (i := 7) sc_Machine_begin.nd rfl (Or.inl rfl)) (pgs_cons (pg_name (i := 8) sc_Machine_begin.nd rfl (Or.inl rfl)) pgs_nil))) (pss_one (ps_dput hu (pv 3) (pv 7) (pv 8) rfl)))
      (pss_one (ps_expr (pe_bm PySem.F.plainAttrs_list PySem.F.slot_list_append PySem.F.type_list_append mt_append (pe_fld (pv 0) rfl) (pa_cons (pe_tup (pa_cons pe_str (pa_cons (pv 5) (pa_cons (pv 3) pa_nil)))) pa_nil)))))))), ?_⟩
    obtain ⟨dx, fs, ho, mf⟩ := hM.ob
    obtain ⟨ents, ks, hB⟩ := id hM.st
    obtain ⟨gm, gn⟩ := fnGet_mem hg
    obtain ⟨d1, kvs, d2, d3⟩ := hM.d
    obtain ⟨n', b, qa, lp, us, h1, h2, h3, h4, h5, h6, h7⟩ := d3 g gm
    rw [gn] at h1
    have : n' = n := hB.nd n' n _ h1 hn
    subst this
    have hgd := DGet.k (k := Sum.inl (n' : Int)) d2
    rw [h2] at hgd
    refine ⟨_, rfl, M.a, _, dx, fs, _, rfl, ho, T.cl_Machine, T.a_Machine_functions, mf.f_functions, _, rfl, M.da, _, rfl, hgd, qa, _, rfl, st_tup h3, rfl, _, _, rfl, _, _, rfl, rfl, ?_⟩
    refine ⟨_, rfl, M.a, _, dx, fs, _, rfl, ho, T.cl_Machine, T.a_Machine_keeping, mf.f_keeping, false, rfl, iteF ?_⟩
    intro d hd
    have k1 : Sm H (upd H d (.dK [])) := Kp.new hd
    have hd1 : (upd H d (.dK [])) d = some (.dK []) := upd_same
    have hdF := hM.newNot hd
    have hul := h6.len
    rw [List.length_map] at hul
    have hvl := aV.len
    refine ⟨_, rfl, _, rfl, lp, nv, us, vals, rfl, sq_lst (k1 _ _ h5 (.inl (by simp))), (k1.xt hX).sq, for_it (walk_zipM (K := K) (xs := us) (ys := vals) (by omega)) (fun i σ H' => ∃ v7 v8 kvs, σ = [some (.ref M.a), some (.int (n' : Int)), some (.ref nv), some (.ref d), some (.ref lp), some (.int (b : Int)), none, v7, v8] ∧ Sm H H' ∧ H' d = some (.dK kvs) ∧ kvs.length ≤ i ∧
      ∀ (j : Nat) p t, j < i → g.ps[j]? = some p → args[j]? = some t → ∃ a c : Nat, S[a]? = some (.w p) ∧ valV kvs (Sum.inl (a : Int)) = some (.int (c : Int)) ∧ S[c]? = some t) ⟨none, none, [], rfl, k1, hd1, Nat.le_refl _, fun j _ _ hj => absurd hj (Nat.not_lt_zero j)⟩ (fun i σ H' _ ⟨_, _, _, _, k, _⟩ => ⟨sq_lst (k _ _ h5 (.inl (by simp))), (k.xt hX).sq⟩) ?_ ?_⟩
    · rintro i x σ Ha Hb hi ⟨v7, v8, kvs, rfl, kA, hDa, hkl, hall⟩ ⟨tp, x1, x2, rfl, htp, rfl, e1, e2⟩
      obtain ⟨t1, ht1, a1, rfl, ha1⟩ := h6.at_ e1
      obtain ⟨t2, ht2, a2, rfl, ha2⟩ := aV.at_ e2
      rw [List.getElem?_map] at ht1
      obtain ⟨p, hp, rfl⟩ : ∃ p, g.ps[i]? = some p ∧ t1 = .w p := by
        cases z : g.ps[i]? with
        | none =>
          rw [z] at ht1
          cases ht1
        | some p =>
          rw [z] at ht1
          cases ht1
          exact ⟨p, rfl, rfl⟩
      have k2 : Sm Ha (upd Ha tp (.tup [.int (a1 : Int), .int (a2 : Int)])) := Kp.new htp
      have hD2 := k2 _ _ hDa (.inl (by simp))
      refine ⟨tp, _, rfl, st_tup upd_same, rfl, _, _, rfl, _, _, rfl, rfl, ?_⟩
      refine ⟨_, rfl, _, rfl, _, rfl, d, _, rfl, DPut.k (k := Sum.inl (a1 : Int)) hD2 (by rw [sizeLine_eq]; omega), ?_⟩
      refine ⟨_, _, _, rfl, (kA.trans k2).set hd, upd_same, Nat.le_trans (length_putK _ _ _) (by omega), fun j p' t' hj hp' ht' => ?_⟩
      by_cases hji : j = i
      · subst hji
        rw [hp] at hp'
        cases hp'
        rw [ht2] at ht'
        cases ht'
        exact ⟨a1, a2, ha1, by rw [valV_put, if_pos rfl], ha2⟩
      · obtain ⟨a, c, g1, g2, g3⟩ := hall j p' t' (by omega) hp' ht'
        refine ⟨a, c, g1, ?_, g3⟩
        rw [valV_put, if_neg, g2]
        intro z
        have : a = a1 := by have := Sum.inl.inj z; omega
        subst this
        rw [ha1] at g1
        cases g1
        exact hji (nodup_at hpn hp' hp)
    · rintro σ Ha ⟨v7, v8, kvs, rfl, kA, hDa, hkl, hall⟩
      have hMa := hM.sm kA
      obtain ⟨dx3, fs3, ho3, mf3⟩ := hMa.ob
      have hE : EnvAt S Ha d (zipEnv g.ps args) := ⟨kvs, hDa, fun s t e => by
        obtain ⟨j, e1, e2⟩ := zip_at e
        have := (List.getElem?_eq_some_iff.mp e1).1
        exact hall j s t (by omega) e1 e2⟩
      refine ⟨_, rfl, M.a, _, dx3, fs3, _, rfl, ho3, T.cl_Machine, T.a_Machine_todo, mf3.f_todo, hMa.tyT, _, rfl, _, rfl, zle (Nat.le_of_ble_eq_true rfl), fun p4 hp4 => ?_⟩
      have k4 : Sm Ha (upd Ha p4 (.tup [.str "eval", .int (b : Int), .ref d])) := Kp.new hp4
      have hM4 := hMa.sm k4
      have tk4 : TkAt M.F S (upd Ha p4 (.tup [.str "eval", .int (b : Int), .ref d])) (.ev g.body (zipEnv g.ps args)) (.ref p4) := ⟨p4, d, b, rfl, upd_same, h7, hdF, hE.go (F := M.F) k4 (List.prefix_refl _) (by simp)⟩
      dsimp only [tNil]
      refine hM4.push tk4 (by omega) fun H5 k5 hM5 => ?_
      exact q S H5 ((kA.trans k4).nil.trans k5.ta) hM5 (List.prefix_refl _) (Nat.le_refl _)
end
end G
set_option maxRecDepth 100000
set_option maxHeartbeats 4000000
/-! F5e: Machine.go_on. -/
namespace G
open PySem PySem.Spec PyProof.Rows L2
theorem putF_len {f : Str} {v x : V} : ∀ {fs : List (Str × V)}, fs.lookup f = some x → (putF f v fs).length = fs.length
  | [], h => by cases h
  | (g, y) :: r, h => by
    show (if g = f then (g, v) :: r else (g, y) :: putF f v r).length = r.length + 1
    by_cases e : g = f
    · rw [if_pos e]
      rfl
    · rw [if_neg e, List.length_cons, putF_len (fs := r)]
      rw [List.lookup_cons] at h
      have : (f == g) = false := by
        cases z : (f == g) with
        | false => rfl
        | true => exact absurd (eq_of_beq z).symm e
      rw [this] at h
      exact h
theorem MF.step {M : MA} {S : List T} {k k' : Nat} {fs : List (Str × V)} (h : MF M S k fs) : MF M S k' (putF "steps" (.int (k' : Int)) fs) := by
  have ne : ∀ g : Str, g ≠ ("steps" : Str) → (putF "steps" (.int (k' : Int)) fs).lookup g = fs.lookup g := fun g hg => by rw [lookup_putF, if_neg hg]
  obtain ⟨n, hy, hy2⟩ := h.f_yes
  exact ⟨by rw [ne _ (by decide)]; exact h.f_store, ⟨n, by rw [ne _ (by decide)]; exact hy, hy2⟩, by rw [ne _ (by decide)]; exact h.f_functions, by rw [ne _ (by decide)]; exact h.f_keeping, by rw [ne _ (by decide)]; exact h.f_pair, by rw [lookup_putF, if_pos rfl], by rw [ne _ (by decide)]; exact h.f_found, by rw [ne _ (by decide)]; exact h.f_todo,
    by rw [ne _ (by decide)]; exact h.m_begin, by rw [ne _ (by decide)]; exact h.m_is_done, by rw [ne _ (by decide)]; exact h.m_go_on, by rw [ne _ (by decide)]; exact h.m_evaluate, by rw [ne _ (by decide)]; exact h.m_do, by rw [ne _ (by decide)]; exact h.m_is_great, by rw [ne _ (by decide)]; exact h.m_result, by rw [putF_len h.f_steps]; exact h.len⟩
section
variable {P : Program} {w : World} {K : PySem.W.Frag} {H : Hp} {S : List T} {M : MA} {fns : List Fn} {td : List Tk} {fd : List T} {k : Nat}
/-- one step more -/
theorem MachAt.setK {k' : Nat} {dx : Addr} {fs : List (Str × V)} (h : MachAt P w K H M fns S td fd k) (o1 : H M.a = some (.ins (C_Machine K) dx fs)) (o2 : MF M S k fs) : MachAt P w K (upd H M.a (.ins (C_Machine K) dx (putF "steps" (.int (k' : Int)) fs))) M fns S td fd k' ∧ Kp M.F H (upd H M.a (.ins (C_Machine K) dx (putF "steps" (.int (k' : Int)) fs))) := by
  obtain ⟨us, f1, f2⟩ := h.f
  obtain ⟨ts, t1, t2⟩ := h.t
  obtain ⟨d1, kvs, d2, d3⟩ := h.d
  obtain ⟨n1, n2, n3, n4, n5, n6, n7⟩ := h.ne
  have kp : Kp [M.a] H (upd H M.a (.ins (C_Machine K) dx (putF "steps" (.int (k' : Int)) fs))) := Kp.ins (by simp) o1
  have hs : ∀ b ∈ [M.a], b ∈ M.F := fun b hb => by rw [List.mem_singleton.mp hb]; simp [MA.F]
  have hst := st_not n4 n5 n6 n7
  exact ⟨⟨⟨dx, _, upd_same, o2.step⟩, h.st.kp kp (fun b hb => hst b (by rw [List.mem_singleton.mp hb]; simp)), ⟨us, kp.keep f1 (by simp [Ne.symm n2]), f2⟩, ⟨ts, kp.keep t1 (by simp [Ne.symm n3]), t2.mono (TkAt.go kp (List.prefix_refl _) hs)⟩, ⟨d1, kvs, kp.keep d2 (fun z => d1 (hs _ z)), fun g hg => (d3 g hg).go kp (List.prefix_refl _) hs⟩, h.ne⟩, kp.mono hs⟩
end
theorem pushEv_len (env : EnvT) : ∀ (l : List Xp) (tds : List Tk), (pushEv env l tds).length = l.length + tds.length
  | [], tds => by simp [pushEv]
  | y :: l, tds => by
    show (pushEv env l tds).length + 1 = l.length + 1 + tds.length
    rw [pushEv_len env l tds]
    omega
theorem stepI_len {f : Str} {as : List Xp} {env : EnvT} {td td' : List Tk} (h : stepI f as env td = some td') : td'.length ≤ td.length + as.length + 2 := by
  unfold stepI at h
  cases c1 : seq f wQuote with
  | true =>
    rw [c1] at h
    cases h
  | false =>
    rw [c1] at h
    simp only at h
    cases c2 : seq f wIf with
    | true =>
      rw [c2] at h
      simp only at h
      split at h
      · cases h
        rw [List.length_cons, List.length_cons]
        omega
      · cases h
    | false =>
      rw [c2] at h
      simp only at h
      cases c3 : inS f plain with
      | true =>
        rw [c3] at h
        cases h
        rw [pushEv_len, List.length_cons]
        omega
      | false =>
        rw [c3] at h
        cases h
        rw [pushEv_len, List.length_cons]
        omega
theorem stepE_len {e : Xp} {env : EnvT} {td td' : List Tk} {fd fd' : List T} (h : stepE e env td fd = some (td', fd')) : td'.length ≤ td.length + 22 ∧ fd'.length ≤ fd.length + 1 := by
  cases e with
  | v s =>
    cases hg : envGet s env with
    | none =>
      simp only [stepE, hg] at h
      cases h
    | some t =>
      simp only [stepE, hg] at h
      cases h
      exact ⟨by omega, Nat.le_refl _⟩
  | q t =>
    simp only [stepE] at h
    cases h
    exact ⟨by omega, Nat.le_refl _⟩
  | n f as =>
    simp only [stepE] at h
    cases hs : stepN f as env td with
    | none =>
      rw [hs] at h
      cases h
    | some td1 =>
      rw [hs] at h
      cases h
      cases c0 : Nat.ble as.length 20 with
      | false =>
        simp only [stepN, c0] at hs
        cases hs
      | true =>
        simp only [stepN, c0] at hs
        have h1 := stepI_len hs
        have h2 := Nat.le_of_ble_eq_true c0
        exact ⟨by omega, by omega⟩
theorem prim_len {f : Str} {fd fd' : List T} (h : prim f fd = some fd') : fd'.length ≤ fd.length := by
  cases fd with
  | nil => cases h
  | cons y r =>
    cases c1 : seq f wHead with
    | true =>
      rw [prim_head c1] at h
      cases h
      exact Nat.le_refl _
    | false =>
      cases c2 : seq f wTail with
      | true =>
        rw [prim_tail c1 c2] at h
        cases h
        exact Nat.le_refl _
      | false =>
        cases c3 : seq f wWord with
        | true =>
          rw [prim_word c1 c2 c3] at h
          cases h
          exact Nat.le_refl _
        | false =>
          cases r with
          | nil =>
            rw [prim_one c1 c2 c3] at h
            cases h
          | cons x r =>
            cases c4 : seq f wSame with
            | true =>
              rw [prim_same c1 c2 c3 c4] at h
              cases h
              exact Nat.le_succ _
            | false =>
              rw [prim_join c1 c2 c3 c4] at h
              cases h
              exact Nat.le_succ _
section
variable {P : Program} {w : World} {K : PySem.W.Frag} {mg : Str → Option Value} {base : Heap}
def sp_Machine_go_on (P : Program) (w : World) (K : PySem.W.Frag) : Sp := fun vs H Q _ => ∃ M fns S td fd k fd', ∃ N : Nat, vs = [.ref M.a, .int 1000000] ∧ MachAt P w K H M fns S td fd k ∧ go1 fns N td fd = some fd' ∧ (∀ g ∈ fns, nodupS g.ps = true ∧ g.ps.length ≤ 20) ∧
  k + N ≤ 1000000 ∧ S.length + N ≤ 8000000 ∧ fd.length + N ≤ 8000000 ∧ td.length + 22 * N ≤ 14000000 ∧
  ∀ S' k' H', Kp M.F H H' → MachAt P w K H' M fns S' [] fd' k' → S <+: S' → S'.length ≤ S.length + N → Q .non H'
theorem sc_Machine_go_on : FnScope ["self", "limit", "task", "chosen", "many", "numbers", "_"] ["self", "limit"] (defScope s_Machine_go_on) := ⟨rfl, rfl, rfl, by decide +kernel, rfl, by decide +kernel, by decide +kernel⟩
theorem f_Machine_go_on (T : Txt w K mg) : Mtb P w K mg base (C_Machine K) "go_on" 4 ["self", "limit"] (sp_Machine_go_on P w K) := by
  have F_Machine_evaluate : Mtb P w K mg base (C_Machine K) "evaluate" 2 ["self", "expression", "names"] (sp_Machine_evaluate P w K) := f_Machine_evaluate T
  have F_Machine_do : Mtb P w K mg base (C_Machine K) "do" 3 ["self", "word"] (sp_Machine_do P w K) := f_Machine_do T
  have F_Machine_begin : Mtb P w K mg base (C_Machine K) "begin" 1 ["self", "name", "numbers"] (sp_Machine_begin P w K) := f_Machine_begin T
  refine T.d_Machine_go_on.mtb sc_Machine_go_on (fun _ _ _ _ _ _ us hl => match us, hl with | [_, _], _ => rfl) (fun vs H Q E h => ?_) (fun f cdv A outer s H vs Q E hr h => ?_)
  · obtain ⟨_, _, _, _, _, _, _, _, rfl, _⟩ := h
    rfl
  · obtain ⟨M, fns, S, td, fd, k, fd', N, rfl, hM, hgo, hfn, hk, hSl, hfl, htl, q⟩ := h
    refine ⟨_, (pss_one (ps_while PassesOwn.never (PW.pt (pw_and (pt_cmpR op_gt (pe_callB call_len_seq (by rfl) T.n_len PySem.boot_len (pa_cons (pe_fld (pv 0) rfl) pa_nil)) pe_int (nomark _)) (pw_and1 (pt_cmpR op_isN (pe_fld (pv 0) rfl) pe_non (nomark _))))) (pss_cons (ps_set (i := 2) sc_Machine_go_on.nd rfl (Or.inl rfl) (pe_bm0 PySem.F.plainAttrs_list PySem.F.slot_list_pop PySem.F.type_list_pop mt_pop (pe_fld (pv 0) rfl)))
      (pss_one (ps_if (pt_cmpR op_eq (pe_ix ix_tup (pv 2) pe_int (fun _ _ => rfl)) pe_str (nomark _)) (pss_cons (ps_if (pt_cmpR op_eq (pe_fld (pv 0) rfl) (pv 1) (nomark _)) (pss_cons ps_never (pss_one ps_never)) pss_nil)
      (pss_cons (ps_fld (pv 0) (pe_op op_add (pe_fld (pv 0) rfl) pe_int) rfl)
      (pss_one (ps_expr (pe_m (pv 0) T.cl_Machine F_Machine_evaluate (hr.mono (by decide)) (pa_cons (pe_ix ix_tup (pv 2) pe_int (fun _ _ => rfl)) (pa_cons (pe_ix ix_tup (pv 2) pe_int (fun _ _ => rfl)) pa_nil))))))) (pss_one (ps_if (pt_cmpR op_eq (pe_ix ix_tup (pv 2) pe_int (fun _ _ => rfl)) pe_str (nomark _)) (pss_one (ps_expr (pe_m (pv 0) T.cl_Machine F_Machine_do (hr.mono (by decide)) (pa_cons (pe_ix ix_tup (pv 2) pe_int (fun _ _ => rfl)) pa_nil)))) (pss_one (ps_if (pt_cmpR op_eq (pe_ix ix_tup (pv 2) pe_int (fun _ _ => rfl)) pe_str (nomark _)) (pss_cons (ps_set (i := 3) sc_Machine_go_on.nd rfl (Or.inl rfl) (pe_ifExp (pt_cmpR op_eq (pe_bm0 PySem.F.plainAttrs_list PySem.F.slot_list_pop PySem.F.type_list_pop mt_pop (pe_fld (pv 0) rfl)) (pe_gi T.c_EMPTY) (nomark _)) (pe_ix ix_tup (pv 2) pe_int (fun _ _ => rfl)) (pe_ix ix_tup (pv 2) pe_int (fun _ _ => rfl))))
      (pss_one (ps_expr (pe_bm PySem.F.plainAttrs_list PySem.F.slot_list_append PySem.F.type_list_append mt_append (pe_fld (pv 0) rfl) (pa_cons (pe_tup (pa_cons pe_str (pa_cons (pv 3) (pa_cons (pe_ix ix_tup (pv 2) pe_int (fun _ _ => rfl)) pa_nil)))) pa_nil))))) (pss_one (ps_if (pt_cmpR op_eq (pe_ix ix_tup (pv 2) pe_int (fun _ _ => rfl)) pe_str (nomark _)) (pss_cons (ps_set (i := 4) sc_Machine_go_on.nd rfl (Or.inl rfl) (pe_op op_sub (pe_callB call_len_seq (by rfl) T.n_len PySem.boot_len (pa_cons (pe_fld (pv 0) rfl) pa_nil)) (pe_ix ix_tup (pv 2) pe_int (fun _ _ => rfl))))
      (pss_cons (ps_set (i := 5) sc_Machine_go_on.nd rfl (Or.inl rfl) (pe_callTy call_tupleX (by rfl) T.n_tuple PyProof.Rows.boot_tuple (pa_cons (pe_slice sl_list (pe_fld (pv 0) rfl) (po_some (pv 4)) po_none) pa_nil)))
      (pss_cons (ps_for PassesOwn.never rfl (pi_tup (pv 5)) (pg_name (i := 6) sc_Machine_go_on.nd rfl (Or.inl rfl)) (pss_one (ps_expr (pe_bm0 PySem.F.plainAttrs_list PySem.F.slot_list_pop PySem.F.type_list_pop mt_pop (pe_fld (pv 0) rfl)))))
      (pss_one (ps_expr (pe_m (pv 0) T.cl_Machine F_Machine_begin (hr.mono (by decide)) (pa_cons (pe_ix ix_tup (pv 2) pe_int (fun _ _ => rfl)) (pa_cons (pv 5) pa_nil)))))))) (pss_one ps_never)))))))))))), ?_⟩
    refine ⟨fun m σ H' => ∃ v2 v3 v4 v5 v6, ∃ (S' : List G.T) (td : List Tk) (fd : List G.T) (k : Nat), σ = [some (.ref M.a), some (.int 1000000), v2, v3, v4, v5, v6] ∧ Kp M.F H H' ∧ MachAt P w K H' M fns S' td fd k ∧ go1 fns m td fd = some fd' ∧ S <+: S' ∧ k + m ≤ 1000000 ∧ S'.length + m ≤ S.length + N ∧ fd.length + m ≤ 8000000 ∧ td.length + 22 * m ≤ 14000000,
      ⟨N, none, none, none, none, none, S, td, fd, k, rfl, Kp.refl, hM, hgo, List.prefix_refl _, hk, Nat.le_refl _, hfl, htl⟩, ?_⟩
    clear hM hgo hk hfl htl
    rintro m σ Ha ⟨v2, v3, v4, v5, v6, S1, td, fd, k, rfl, kA, hM, hgo, pS, hk, hSm, hfl, htl⟩
    obtain ⟨dx, fs, ho, mf⟩ := hM.ob
    obtain ⟨ts, t1, t2⟩ := hM.t
    have htl2 := t2.len
    rw [List.length_reverse] at htl2
    refine ⟨_, rfl, M.a, _, dx, fs, _, rfl, ho, T.cl_Machine, T.a_Machine_todo, mf.f_todo, M.ta, ts, rfl, .inl (sq_lst t1), _, _, rfl, rfl, _, rfl, ?_⟩
    cases m with
    | zero => cases hgo
    | succ m =>
      cases td with
      | nil =>
        have hl0 : ts.length = 0 := htl2
        rw [hl0]
        cases hgo
        exact iteF (q S1 k Ha kA hM pS (by omega))
      | cons tk td =>
        have hpos : decide (((ts.length : Nat) : Int) > 0) = true := decide_eq_true (by rw [List.length_cons] at htl2; omega)
        rw [hpos]
        refine iteT ⟨_, rfl, M.a, _, dx, fs, _, rfl, ho, T.cl_Machine, T.a_Machine_pair, mf.f_pair, rfl, true, rfl, ?_⟩
        refine ⟨_, fun σ' H' h => h, ?_⟩
        have hstep : ∃ td' fd2, step1 fns tk td fd = some (td', fd2) ∧ go1 fns m td' fd2 = some fd' := by
          have hgo : (match step1 fns tk td fd with | none => none | some (td', fd2) => go1 fns m td' fd2) = some fd' := hgo
          cases z : step1 fns tk td fd with
          | none =>
            rw [z] at hgo
            cases hgo
          | some r =>
            rw [z] at hgo
            exact ⟨r.1, r.2, rfl, hgo⟩
        obtain ⟨td', fd2, hst, hgo2⟩ := hstep
        rw [List.reverse_cons] at t2
        obtain ⟨ts0, tv, rfl, t3, htk⟩ := t2.snoc
        rw [List.length_cons] at htl
        refine ⟨_, rfl, M.a, _, dx, fs, _, rfl, ho, T.cl_Machine, T.a_Machine_todo, mf.f_todo, tyL t1, M.ta, _, _, rfl, rfl, t1, last_at _ _, ?_⟩
        rw [dl_at]
        obtain ⟨hM1, k1⟩ := hM.setT (td' := td) t3
        have htk := TkAt.go (F := M.F) k1 (List.prefix_refl _) (fun b hb => by rw [List.mem_singleton.mp hb]; simp [MA.F]) tk tv htk
        have kA1 := kA.trans k1.ta
        generalize upd Ha M.ta (.lst ts0) = H1 at hM1 htk kA1
        obtain ⟨dx1, fs1, ho1, mf1⟩ := hM1.ob
        have hS1l : S1.length ≤ 8000000 := by omega
        have lit_do : ("do" : Str) ≠ ("eval" : Str) := by decide
        cases tk with
        | ev e env =>
          obtain ⟨a, d, n, rfl, h1, h2, h3, h4⟩ := htk
          obtain ⟨sl1, sl2⟩ := stepE_len (show stepE e env td fd = some (td', fd2) from hst)
          refine ⟨_, rfl, a, _, 0, _, rfl, rfl, st_tup h1, rfl, rfl, _, rfl, iteT ?_⟩
          refine ⟨_, rfl, M.a, _, dx1, fs1, _, rfl, ho1, T.cl_Machine, T.a_Machine_steps, mf1.f_steps, _, rfl, rfl, false, ?_, iteF ?_⟩
          · exact congrArg V.bl (decide_eq_false fun z => by have := V.int.inj z; omega)
          refine ⟨_, rfl, M.a, _, dx1, fs1, _, rfl, ho1, T.cl_Machine, T.a_Machine_steps, mf1.f_steps, _, _, rfl, rfl, _, rfl, M.a, _, dx1, fs1, rfl, ho1, T.cl_Machine, T.a_Machine_steps, by have := mf1.len; omega, ?_⟩
          obtain ⟨hM2, k2⟩ := hM1.setK (k' := k + 1) ho1 mf1
          have h12 := k2.tup h1
          have h42 := h4.go (F := M.F) k2 (List.prefix_refl _) h3
          have ek : ((k + 1 : Nat) : Int) = (k : Int) + 1 := rfl
          rw [ek] at hM2 k2 h12 h42
          dsimp only
          generalize upd H1 M.a (.ins (C_Machine K) dx1 (putF "steps" (.int ((k : Int) + 1)) fs1)) = H2 at hM2 k2 h12 h42 ⊢
          obtain ⟨dx2, fs2, ho2, mf2⟩ := hM2.ob
          refine ⟨_, rfl, M.a, dx2, fs2, rfl, ho2, mf2.m_evaluate, _, rfl, a, _, 1, _, rfl, rfl, st_tup h12, rfl, _, rfl, a, _, 2, _, rfl, rfl, st_tup h12, rfl, M, fns, S1, td, fd, td', fd2, k + 1, e, env, d, n, rfl, hM2, h2, h3, h42, hst, hS1l, by omega, by omega, fun S2 H3 k3 hM3 p3 hl3 => ?_⟩
          exact ⟨m, Nat.lt_succ_self _, _, _, _, _, _, S2, td', fd2, k + 1, rfl, (kA1.trans k2).trans k3, hM3, hgo2, pS.trans p3, by omega, by omega, by omega, by omega⟩
        | pr f =>
          obtain ⟨a, rfl, h1⟩ := htk
          refine ⟨_, rfl, a, _, 0, _, rfl, rfl, st_tup h1, rfl, rfl, false, by decide, iteF ?_⟩
          refine ⟨_, rfl, a, _, 0, _, rfl, rfl, st_tup h1, rfl, rfl, true, by decide, iteT ?_⟩
          cases hp : prim f fd with
          | none =>
            simp only [step1, hp] at hst
            cases hst
          | some fd3 =>
            simp only [step1, hp] at hst
            cases hst
            have hpl := prim_len hp
            refine ⟨_, rfl, M.a, dx1, fs1, rfl, ho1, mf1.m_do, _, rfl, a, _, 1, _, rfl, rfl, st_tup h1, rfl, M, fns, S1, td, fd, fd2, k, f, rfl, hM1, hp, hS1l, by omega, fun S2 H3 k3 hM3 p3 hl3 => ?_⟩
            exact ⟨m, Nat.lt_succ_self _, _, _, _, _, _, S2, td, fd2, k, rfl, kA1.trans k3, hM3, hgo2, pS.trans p3, by omega, by omega, by omega, by omega⟩
        | br x y env =>
          obtain ⟨a, d, n, m', rfl, h1, h2, h2', h3, h4⟩ := htk
          refine ⟨_, rfl, a, _, 0, _, rfl, rfl, st_tup h1, rfl, rfl, false, by decide, iteF ?_⟩
          refine ⟨_, rfl, a, _, 0, _, rfl, rfl, st_tup h1, rfl, rfl, false, by decide, iteF ?_⟩
          refine ⟨_, rfl, a, _, 0, _, rfl, rfl, st_tup h1, rfl, rfl, true, by decide, iteT ?_⟩
          cases fd with
          | nil =>
            simp only [step1] at hst
            cases hst
          | cons c r =>
            obtain ⟨vs, f1, f2⟩ := hM1.f
            rw [List.reverse_cons] at f2
            obtain ⟨vs0, cv, rfl, f3, nc, rfl, hc⟩ := f2.snoc
            rw [List.length_cons] at hfl
            obtain ⟨hM2, k2⟩ := hM1.setF (fd' := r) f3
            have h12 := k2.tup h1
            have h42 := h4.go (F := M.F) k2 (List.prefix_refl _) (fun z => h3 (by rw [List.mem_singleton.mp z]; simp [MA.F]))
            have k2F := k2.fa
            refine ⟨_, rfl, M.a, _, dx1, fs1, _, rfl, ho1, T.cl_Machine, T.a_Machine_found, mf1.f_found, tyL f1, M.fa, _, _, rfl, rfl, f1, last_at _ _, ?_⟩
            rw [dl_at]
            generalize upd H1 M.fa (.lst vs0) = H2 at hM2 k2F h12 h42 ⊢
            obtain ⟨ents, ks, hB⟩ := id hM2.st
            have hz := zero_iff hB hc
            have hdn : decide (V.int (nc : Int) = V.int 0) = isNil c := by
              by_cases e : nc = 0
              · have := hz.mp e
                subst this
                subst e
                exact decide_eq_true rfl
              · have h5 : isNil c = false := by
                  cases z : isNil c with
                  | false => rfl
                  | true => exact absurd (hz.mpr ((isNil_iff c).mp z)) e
                rw [h5]
                exact decide_eq_false fun z => e (by have := V.int.inj z; omega)
            refine ⟨rfl, _, rfl, ?_⟩
            rw [hdn]
            obtain ⟨dx2, fs2, ho2, mf2⟩ := hM2.ob
            cases hnc : isNil c with
            | true =>
              simp only [step1, hnc] at hst
              cases hst
              refine iteT ⟨_, rfl, a, _, 2, _, rfl, rfl, st_tup h12, rfl, ?_⟩
              refine ⟨_, rfl, M.a, _, dx2, fs2, _, rfl, ho2, T.cl_Machine, T.a_Machine_todo, mf2.f_todo, hM2.tyT, _, rfl, _, rfl, a, _, 3, _, rfl, rfl, st_tup h12, rfl, zle (Nat.le_of_ble_eq_true rfl), fun p4 hp4 => ?_⟩
              have k4 : Sm H2 (upd H2 p4 (.tup [.str "eval", .int (m' : Int), .ref d])) := Kp.new hp4
              have hM4 := hM2.sm k4
              have tk4 : TkAt M.F S1 (upd H2 p4 (.tup [.str "eval", .int (m' : Int), .ref d])) (.ev y env) (.ref p4) := ⟨p4, d, m', rfl, upd_same, h2', h3, h42.go (F := M.F) k4 (List.prefix_refl _) (by simp)⟩
              dsimp only [tNil]
              refine hM4.push tk4 (by omega) fun H5 k5 hM5 => ?_
              exact ⟨m, Nat.lt_succ_self _, _, _, _, _, _, S1, _, _, k, rfl, (kA1.trans k2F).trans (k4.nil.trans k5.ta), hM5, hgo2, pS, by omega, by omega, by omega, by rw [List.length_cons]; omega⟩
            | false =>
              simp only [step1, hnc] at hst
              cases hst
              refine iteF ⟨_, rfl, a, _, 1, _, rfl, rfl, st_tup h12, rfl, ?_⟩
              refine ⟨_, rfl, M.a, _, dx2, fs2, _, rfl, ho2, T.cl_Machine, T.a_Machine_todo, mf2.f_todo, hM2.tyT, _, rfl, _, rfl, a, _, 3, _, rfl, rfl, st_tup h12, rfl, zle (Nat.le_of_ble_eq_true rfl), fun p4 hp4 => ?_⟩
              have k4 : Sm H2 (upd H2 p4 (.tup [.str "eval", .int (n : Int), .ref d])) := Kp.new hp4
              have hM4 := hM2.sm k4
              have tk4 : TkAt M.F S1 (upd H2 p4 (.tup [.str "eval", .int (n : Int), .ref d])) (.ev x env) (.ref p4) := ⟨p4, d, n, rfl, upd_same, h2, h3, h42.go (F := M.F) k4 (List.prefix_refl _) (by simp)⟩
              dsimp only [tNil]
              refine hM4.push tk4 (by omega) fun H5 k5 hM5 => ?_
              exact ⟨m, Nat.lt_succ_self _, _, _, _, _, _, S1, _, _, k, rfl, (kA1.trans k2F).trans (k4.nil.trans k5.ta), hM5, hgo2, pS, by omega, by omega, by omega, by rw [List.length_cons]; omega⟩
        | ca f c =>
          obtain ⟨a, n, rfl, h1, h2⟩ := htk
          refine ⟨_, rfl, a, _, 0, _, rfl, rfl, st_tup h1, rfl, rfl, false, by decide, iteF ?_⟩
          refine ⟨_, rfl, a, _, 0, _, rfl, rfl, st_tup h1, rfl, rfl, false, by decide, iteF ?_⟩
          refine ⟨_, rfl, a, _, 0, _, rfl, rfl, st_tup h1, rfl, rfl, false, by decide, iteF ?_⟩
          refine ⟨_, rfl, a, _, 0, _, rfl, rfl, st_tup h1, rfl, rfl, true, by decide, iteT ?_⟩
          cases hg : fnGet f fns with
          | none =>
            simp only [step1, hg] at hst
            cases hst
          | some g =>
            obtain ⟨hcl, hgl, htd, hfd⟩ : c ≤ fd.length ∧ g.ps.length = c ∧ td' = .ev g.body (zipEnv g.ps (fd.take c).reverse) :: td ∧ fd2 = fd.drop c := by
              cases c1 : Nat.ble c fd.length with
              | false =>
                simp only [step1, hg, c1] at hst
                cases hst
              | true =>
                cases c2 : Nat.beq g.ps.length c with
                | false =>
                  simp only [step1, hg, c1, c2] at hst
                  cases hst
                | true =>
                  simp only [step1, hg, c1, c2] at hst
                  cases hst
                  exact ⟨Nat.le_of_ble_eq_true c1, Nat.eq_of_beq_eq_true c2, rfl, rfl⟩
            subst htd
            subst hfd
            obtain ⟨gm, _⟩ := fnGet_mem hg
            obtain ⟨gn, g20⟩ := hfn g gm
            obtain ⟨vs, f1, f2⟩ := hM1.f
            have hvl := f2.len
            rw [List.length_reverse] at hvl
            refine ⟨_, rfl, M.a, _, dx1, fs1, _, rfl, ho1, T.cl_Machine, T.a_Machine_found, mf1.f_found, M.fa, vs, rfl, .inl (sq_lst f1), _, rfl, a, _, 2, _, rfl, rfl, st_tup h1, rfl, _, _, rfl, rfl, ?_⟩
            have emany : ((vs.length : Nat) : Int) - (c : Int) = ((fd.length - c : Nat) : Int) := by omega
            dsimp only
            rw [emany]
            refine ⟨_, rfl, M.a, _, dx1, fs1, _, rfl, ho1, T.cl_Machine, T.a_Machine_found, mf1.f_found, _, rfl, _, rfl, M.fa, vs, rfl, sq_lst f1, fun p5 hp5 => ?_⟩
            have hcut : cutV vs (some ((fd.length - c : Nat) : Int)) none = vs.drop (fd.length - c) := by
              unfold cutV
              rw [HT.sIx_nat, HT.sIx_none, Nat.min_eq_left (by omega)]
              exact List.take_of_length_le (by rw [List.length_drop]; omega)
            rw [hcut]
            have k5 : Sm H1 (upd H1 p5 (.lst (vs.drop (fd.length - c)))) := Kp.new hp5
            refine ⟨p5, vs.drop (fd.length - c), rfl, sq_lst upd_same, fun nv o6 hp6 ho6 => ?_⟩
            have k6 : Sm (upd H1 p5 (.lst (vs.drop (fd.length - c)))) (upd (upd H1 p5 (.lst (vs.drop (fd.length - c)))) nv (.frz o6 (.tup (vs.drop (fd.length - c))))) := Kp.new hp6
            have hX6 : XT K (upd (upd H1 p5 (.lst (vs.drop (fd.length - c)))) nv (.frz o6 (.tup (vs.drop (fd.length - c))))) nv (vs.drop (fd.length - c)) := XT.new ho6
            have k56 := k5.trans k6
            have hM6 := hM1.sm k56
            have h16 := k56.tup h1
            generalize upd (upd H1 p5 (.lst (vs.drop (fd.length - c)))) nv (.frz o6 (.tup (vs.drop (fd.length - c)))) = H6 at k56 hX6 hM6 h16 ⊢
            have aArgs : A2 (NumT S1) (fd.take c).reverse (vs.drop (fd.length - c)) := by
              have h := f2.drop (fd.length - c)
              rw [List.drop_reverse, show fd.length - (fd.length - c) = c by omega] at h
              exact h
            have hdl : (vs.drop (fd.length - c)).length = c := by
              rw [List.length_drop]
              omega
            refine ⟨_, rfl, nv, rfl, ⟨_, hX6.sq⟩, for_tup (K := K) (a := nv) (xs := vs.drop (fd.length - c)) (fun i σ H' => ∃ v6, σ = [some (.ref M.a), some (.int 1000000), some (.ref a), v3, some (.int ((fd.length - c : Nat) : Int)), some (.ref nv), v6] ∧ Kp M.F H6 H' ∧ MachAt P w K H' M fns S1 td (fd.drop i) k) ⟨v6, rfl, Kp.refl, hM6⟩ (fun i σ H' _ ⟨_, _, k, _⟩ => (k.xt hX6).sq) ?_ ?_⟩
            · rintro i x9 σ Hc hi ⟨v6', rfl, kL, hMc⟩
              have hil : i < fd.length := by
                have := (List.getElem?_eq_some_iff.mp hi).1
                omega
              have ed : fd.drop i = fd[i] :: fd.drop (i + 1) := List.drop_eq_getElem_cons hil
              rw [ed] at hMc
              obtain ⟨us, u1, u2⟩ := hMc.f
              rw [List.reverse_cons] at u2
              obtain ⟨us0, uv, rfl, u3, nu, rfl, hu⟩ := u2.snoc
              obtain ⟨dx7, fs7, ho7, mf7⟩ := hMc.ob
              refine ⟨_, rfl, M.a, _, dx7, fs7, _, rfl, ho7, T.cl_Machine, T.a_Machine_found, mf7.f_found, tyL u1, M.fa, _, _, rfl, rfl, u1, last_at _ _, ?_⟩
              rw [dl_at]
              obtain ⟨hM7, k7⟩ := hMc.setF (fd' := fd.drop (i + 1)) u3
              exact ⟨_, rfl, kL.trans k7.fa, hM7⟩
            · rintro σ Hc ⟨v6', rfl, kL, hMc⟩
              rw [hdl] at hMc
              obtain ⟨dx7, fs7, ho7, mf7⟩ := hMc.ob
              have h1c := kL.tup h16
              refine ⟨_, rfl, M.a, dx7, fs7, rfl, ho7, mf7.m_begin, _, rfl, a, _, 1, _, rfl, rfl, st_tup h1c, rfl, _, rfl, M, fns, S1, td, fd.drop c, k, f, g, nv, (fd.take c).reverse, _, n, rfl, hMc, h2, hg, kL.xt hX6, aArgs, by rw [List.length_reverse, List.length_take]; omega, g20, gn, by omega, fun S2 H3 k3 hM3 p3 hl3 => ?_⟩
              exact ⟨m, Nat.lt_succ_self _, _, _, _, _, _, S2, _, _, k, rfl, ((kA1.trans k56.nil).trans kL).trans k3, hM3, hgo2, pS.trans p3, by omega, by omega, by rw [List.length_drop]; omega, by rw [List.length_cons]; omega⟩
end
end G
set_option maxRecDepth 100000
set_option maxHeartbeats 4000000
/-! F5f: Machine(..). -/
namespace G
open PySem PySem.Spec PyProof.Rows L2
/-- what changed was not there at first -/
theorem Kp.late {G F : List Addr} {H Ha Hb : Hp} (kH : Kp G H Ha) (k : Kp F Ha Hb) (hF : ∀ b ∈ F, b ∉ G → H b = Option.none) : Kp G H Hb := fun b o e q => by
  have h1 := kH b o e q
  rcases q with q | q
  · exact k b o h1 (.inl fun hb => by rw [hF b hb q] at e; cases e)
  · exact k b o h1 (.inr q)
theorem StoreAt.insF {P : Program} {w : World} {K : PySem.W.Frag} {H : Hp} {A : SA} {S : List T} {x C dx : Addr} {fs : List (Str × V)} (h : StoreAt P w K H A S) (hx : H x = some (.ins C dx fs)) : x ∉ A.F := by
  obtain ⟨ents, ks, h⟩ := h
  have he := h.e
  have hn := h.n
  have hs := h.s
  have hd := h.d
  intro z
  simp only [SA.F, List.mem_cons, List.not_mem_nil, or_false] at z
  rcases z with z | z | z | z
  · rw [← z, hx] at he
    cases he
  · rw [← z, hx] at hn
    cases hn
  · rw [← z, hx] at hs
    cases hs
  · rw [← z, hx] at hd
    cases hd
theorem cTs_app : ∀ a b : List T, cTs (a ++ b) = cTs a + cTs b
  | [], b => by simp [cTs]
  | x :: a, b => by
    show cT x + 1 + cTs (a ++ b) = cT x + 1 + cTs a + cTs b
    rw [cTs_app a b]
    omega
theorem FnAt.more {F : List Addr} {S : List T} {H : Hp} {kvs : List (Key × V)} {g : Fn} {b : Addr} (h : FnAt F S H kvs g) (hb : H b = Option.none) : FnAt (b :: F) S H kvs g := by
  obtain ⟨n, c, q, lp, us, h1, h2, h3, h4, h5, h6, h7⟩ := h
  refine ⟨n, c, q, lp, us, h1, h2, h3, ?_, h5, h6, h7⟩
  simp only [List.mem_cons, not_or]
  refine ⟨?_, h4⟩
  rintro rfl
  rw [hb] at h5
  cases h5
theorem FnAt.sub {F F' : List Addr} {S : List T} {H : Hp} {kvs : List (Key × V)} {g : Fn} (h : FnAt F S H kvs g) (hs : ∀ b ∈ F', b ∈ F) : FnAt F' S H kvs g := by
  obtain ⟨n, c, q, lp, us, h1, h2, h3, h4, h5, h6, h7⟩ := h
  exact ⟨n, c, q, lp, us, h1, h2, h3, fun z => h4 (hs _ z), h5, h6, h7⟩
theorem HasMakeK.ok {P : Program} {w : World} {K : PySem.W.Frag} {mg : Str → Option Value} {base : Heap} {C : Addr} {st : Stmt} {qual : Str} {kws : List (Str × V)} {N ps : List Str} {k : Nat} {sp : Sp} (D : HasMakeK K C st qual kws) (S : FnScope N ps (defScope st))
    (len : ∀ vs H Q E, sp vs H Q E → vs.length = ps.length)
    (body : ∀ (f : Addr) (cdv : Value) (A : Around) (outer : List Env) (s : Shared) (H : Hp) (vs : List V) (Q : VK) (E : XK), Room k (A.deeper (envOfC qual (defScope st) s.heap.objs.size f cdv)) → sp vs H Q E →
      ∃ t, PSs (cxOf CX0 P w K mg base N qual (defScope st) f cdv A outer s H E).nox (defBody st) t ∧ t { nx := fun _ H' => Q .non H', rt := Q } (start N vs) H) :
    ∃ f fd, FunD K "__init__" qual (defArgs st) (defBody st) (defScope st) [] kws f fd ∧ FnOk P w K mg base CX0 (k + 1) f fd ps sp ∧ Mk K C f := by
  obtain ⟨f, fd, F, hM⟩ := D
  refine ⟨f, fd, F, F.ok S len fun cdv A outer s H vs Q E hr hsp => ?_, hM⟩
  obtain ⟨t, h1, h2⟩ := body f cdv A outer s H vs Q E hr hsp
  exact ⟨t, h1.nox, h2⟩
section
variable {P : Program} {w : World} {K : PySem.W.Frag} {mg : Str → Option Value} {base : Heap}
def mainEnv (fns : List Fn) (ins : List T) : List Tk := match fns with
  | [] => []
  | f :: _ => [.ev f.body (zipEnv f.ps ins)]
def sp_Machine_init (P : Program) (w : World) (K : PySem.W.Frag) : Sp := fun vs H Q _ => ∃ x dx pv inl ivs fns ins, vs = [.ref x, pv, .ref inl, .bl false] ∧ H x = some (.ins (C_Machine K) dx []) ∧ At K H (progT fns) pv ∧ H inl = some (.lst ivs) ∧ AtAll K H ins ivs ∧ good fns = true ∧ inputsOf fns = ins.length ∧
  100 + cT (progT fns) + cTs ins ≤ 3000000 ∧ ∀ M S H', M.a = x → Kp [x] H H' → (∀ b ∈ M.F, b ≠ x → H b = none) → MachAt P w K H' M fns S (mainEnv fns ins) [] 0 → S.length ≤ 100 + cT (progT fns) + cTs ins → Q .non H'
theorem sc_Machine_init : FnScope ["self", "program", "inputs", "keeping", "function", "main", "name", "parameters", "body", "value"] ["self", "program", "inputs", "keeping"] (defScope s_Machine_init) := ⟨rfl, rfl, rfl, by decide +kernel, rfl, by decide +kernel, by decide +kernel⟩
theorem f_Machine_init (T : Txt w K mg) : ∃ f fd, FnOk P w K mg base CX0 4 f fd ["self", "program", "inputs", "keeping"] (sp_Machine_init P w K) ∧ Mk K (C_Machine K) f ∧ ∃ g gV, KBn K fd ["self", "program", "inputs", "keeping"] 3 ["keeping"] g gV ∧ gV = fun vs zs => vs ++ ([] ++ zs) := by
  have F_Store : Mkb P w K mg base "Store" (C_Store K) 1 ["self"] (sp_Store_init P w K) := mk_Store T
  have F_Store_put : Mtb P w K mg base (C_Store K) "put" 2 ["self", "value"] (sp_Store_put P w K) := f_Store_put T
  have F_Store_items_of : Mtb P w K mg base (C_Store K) "items_of" 1 ["self", "number"] (sp_Store_items_of P w K) := f_Store_items_of T
  have F_Store_begin : Mtb P w K mg base (C_Machine K) "begin" 1 ["self", "name", "numbers"] (sp_Machine_begin P w K) := f_Machine_begin T
  have key : ∃ f fd, FunD K "__init__" "Machine.__init__" (defArgs s_Machine_init) (defBody s_Machine_init) (defScope s_Machine_init) [] [("keeping", .bl false)] f fd ∧ FnOk P w K mg base CX0 4 f fd ["self", "program", "inputs", "keeping"] (sp_Machine_init P w K) ∧ Mk K (C_Machine K) f := by
    refine HasMakeK.ok (N := ["self", "program", "inputs", "keeping", "function", "main", "name", "parameters", "body", "value"]) T.d_Machine_init sc_Machine_init (fun vs H Q E h => ?_) (fun f cdv A outer s H vs Q E hr h => ?_)
    · obtain ⟨_, _, _, _, _, _, _, rfl, _⟩ := h
      rfl
    · obtain ⟨x, dx, pv0, inl, ivs, fns, ins, rfl, hx, hp, hin, hA, hg, hi, hz, q⟩ := h
      have hu := hu_of hr
      refine ⟨_, (pss_cons (ps_fld (pv 0) (pe_mk0 F_Store (hr.mono (by decide))) rfl)
      (pss_cons (ps_fld (pv 0) (pe_m (pe_fld (pv 0) rfl) T.cl_Store F_Store_put (hr.mono (by decide)) (pa_cons pe_str pa_nil)) rfl)
      (pss_cons (ps_fld (pv 0) pe_dnewK rfl)
      (pss_cons (ps_for PassesOwn.never rfl (pi_list (pe_m (pe_fld (pv 0) rfl) T.cl_Store F_Store_items_of (hr.mono (by decide)) (pa_cons (pe_m (pe_fld (pv 0) rfl) T.cl_Store F_Store_put (hr.mono (by decide)) (pa_cons (pv 1) pa_nil)) pa_nil))) (pg_name (i := 4) sc_Machine_init.nd rfl (Or.inl rfl)) (pss_cons (ps_asg (pe_m (pe_fld (pv 0) rfl) T.cl_Store F_Store_items_of (hr.mono (by decide)) (pa_cons (pv 4) pa_nil)) (pg_lst rfl (pgs_cons (pg_name (i := 6) sc_Machine_init.nd rfl (Or.inl rfl)) (pgs_cons (pg_name (i := 7) sc_Machine_init.nd rfl (Or.inl rfl)) (pgs_cons (pg_name (i := 8) sc_Machine_init.nd rfl (Or.inl rfl)) pgs_nil)))))
      (pss_one (ps_dput hu (pe_fld (pv 0) rfl) (pv 6) (pe_tup (pa_cons (pe_m (pe_fld (pv 0) rfl) T.cl_Store F_Store_items_of (hr.mono (by decide)) (pa_cons (pv 7) pa_nil)) (pa_cons (pv 8) pa_nil))) rfl))))
      (pss_cons (ps_fld (pv 0) (pv 3) rfl)
      (pss_cons (ps_fld (pv 0) pe_dnewK rfl)
      (pss_cons (ps_fld (pv 0) pe_non rfl)
      (pss_cons (ps_fld (pv 0) pe_int rfl)
      (pss_cons (ps_fld (pv 0) (pe_lst pa_nil) rfl)
      (pss_cons (ps_fld (pv 0) (pe_lst pa_nil) rfl)
      (pss_cons (ps_set (i := 5) sc_Machine_init.nd rfl (Or.inl rfl) (pe_m (pe_fld (pv 0) rfl) T.cl_Store F_Store_put (hr.mono (by decide)) (pa_cons (pe_ix ix_T (pe_ix ix_T (pv 1) pe_int (fun _ _ => rfl)) pe_int (fun _ _ => rfl)) pa_nil)))
      (pss_one (ps_expr (pe_m (pv 0) T.cl_Machine F_Store_begin (hr.mono (by decide)) (pa_cons (pv 5) (pa_cons (pe_callTy call_tupleX (by rfl) T.n_tuple PyProof.Rows.boot_tuple (pa_cons (pe_lc (own := [("value", 9)]) rfl sc_Machine_init.nd (pi_list (pv 2)) (blkOk_by (N := ["self", "program", "inputs", "keeping", "function", "main", "name", "parameters", "body", "value"]) (sc := defScope s_Machine_init) (by decide +kernel)) (fun _ _ _ _ _ => (pg_name (i := 9) sc_Machine_init.nd rfl (Or.inl rfl))) (fun _ _ _ _ _ => pts_nil) (fun _ _ _ _ _ => (pe_K (te := fun K => tMeth (C_Store K) "put" (sp_Store_put P w K) [] E0 (tFld K (tVar 0) "store") (tCons (tVar 9) tNil)) K rfl <| pe_m (pe_fld (pv 0) rfl) T.cl_Store F_Store_put (hr.mono (by decide)) (pa_cons (pv 9) pa_nil)))) pa_nil)) pa_nil)))))))))))))))), ?_⟩
      have hyl : cT (.w wYes) = 2 := rfl
      -- the store
      intro xs dxs hxs hdxs hne
      have k0 : Sm H (upd (upd H dxs (.own xs)) xs (.ins (C_Store K) dxs [])) := (Kp.new hdxs).set hxs
      refine ⟨xs, dxs, rfl, upd_same, fun A0 H1 ha k1 hnew hS1 => ⟨rfl, ?_⟩⟩
      have kA1 : Sm H H1 := Kp.late k0 k1 (fun b hb _ => by rw [List.mem_singleton.mp hb]; exact hxs)
      have fA : ∀ b ∈ A0.F, H b = none := fun b hb => k0.none (hnew b hb)
      have fa0 : H A0.a = none := by rw [ha]; exact hxs
      have xA : x ≠ A0.a := by
        rintro rfl
        rw [hx] at fa0
        cases fa0
      have xF : x ∉ A0.F := fun z => by
        have := fA x z
        rw [hx] at this
        cases this
      have stx : ∀ {Ha Hb : Hp} {S : List G.T}, StoreAt P w K Ha A0 S → Kp [x] Ha Hb → StoreAt P w K Hb A0 S := fun hS kp => hS.kp kp (fun b hb => by rw [List.mem_singleton.mp hb]; exact ⟨xA, xF⟩)
      have hx1 := kA1 _ _ hx (.inl (by simp))
      refine ⟨_, rfl, x, _, dx, [], rfl, hx1, T.cl_Machine, T.a_Machine_store, (Nat.le_of_ble_eq_true rfl), ?_⟩
      obtain ⟨F1, hF1⟩ : ∃ F1, F1 = putF ("store" : Str) (V.ref xs) [] := ⟨_, rfl⟩
      rw [← hF1]
      have kB1 : Kp [x] H1 (upd H1 x (.ins (C_Machine K) dx F1)) := Kp.ins (by simp) hx1
      have hx2 : (upd H1 x (.ins (C_Machine K) dx F1)) x = some (.ins (C_Machine K) dx F1) := upd_same
      have kA2 := kA1.nil.trans kB1
      have hS2 := stx hS1 kB1
      generalize upd H1 x (.ins (C_Machine K) dx F1) = H2 at hx2 kA2 hS2 ⊢
      have l2 : F1.lookup ("store" : Str) = some (.ref A0.a) := by rw [hF1, ha]; rfl
      -- yes
      obtain ⟨ents2, ks2, hB2⟩ := id hS2
      obtain ⟨dxa2, fsa2, hoa2, _, _, _, _, nm2⟩ := hB2.ob
      refine ⟨_, rfl, x, _, dx, F1, _, rfl, hx2, T.cl_Machine, T.a_Machine_store, l2, A0.a, dxa2, fsa2, rfl, hoa2, nm2.m_put, A0, [.l []], .w wYes, _, rfl, hS2, by rw [show ("yes" : Str) = wYes by decide +kernel]; exact at_wi, by show 1 + 2 ≤ _; omega, fun S3 ny H3 k3 hS3 p3 hl3 hy3 => ?_⟩
      have hl3 : S3.length ≤ 3 := hl3
      have kA3 : Kp [x] H H3 := Kp.late kA2 k3 (fun b hb _ => fA b hb)
      have hx3 := k3.keep hx2 xF
      refine ⟨_, rfl, x, _, dx, F1, rfl, hx3, T.cl_Machine, T.a_Machine_yes, by rw [hF1]; exact (Nat.le_of_ble_eq_true rfl), ?_⟩
      obtain ⟨F2, hF2⟩ : ∃ F2, F2 = putF ("yes" : Str) (V.int (ny : Int)) F1 := ⟨_, rfl⟩
      rw [← hF2]
      have kB3 : Kp [x] H3 (upd H3 x (.ins (C_Machine K) dx F2)) := Kp.ins (by simp) hx3
      have hx4 : (upd H3 x (.ins (C_Machine K) dx F2)) x = some (.ins (C_Machine K) dx F2) := upd_same
      have kA4 := kA3.trans kB3
      have hS4 := stx hS3 kB3
      generalize upd H3 x (.ins (C_Machine K) dx F2) = H4 at hx4 kA4 hS4 ⊢
      rw [hF1] at hF2
      -- functions
      intro da hda
      have xda : da ≠ x := by
        rintro rfl
        rw [hx4] at hda
        cases hda
      have fda : H da = none := kA4.free (by simp [xda]) hda
      obtain ⟨nda1, nda2⟩ := hS4.fresh hda
      have k5 : Sm H4 (upd H4 da (.dK [])) := Kp.new hda
      have hd5 : (upd H4 da (.dK [])) da = some (.dK []) := upd_same
      have hx5 := k5 _ _ hx4 (.inl (by simp))
      have hS5 := hS4.sm k5
      have kA5 := kA4.trans k5.nil
      refine ⟨_, rfl, x, _, dx, F2, rfl, hx5, T.cl_Machine, T.a_Machine_functions, by rw [hF2]; exact (Nat.le_of_ble_eq_true rfl), ?_⟩
      generalize upd H4 da (.dK []) = H5 at hd5 hx5 hS5 kA5 ⊢
      obtain ⟨F3, hF3⟩ : ∃ F3, F3 = putF ("functions" : Str) (V.ref da) F2 := ⟨_, rfl⟩
      rw [← hF3]
      have kB5 : Kp [x] H5 (upd H5 x (.ins (C_Machine K) dx F3)) := Kp.ins (by simp) hx5
      have hx6 : (upd H5 x (.ins (C_Machine K) dx F3)) x = some (.ins (C_Machine K) dx F3) := upd_same
      have hd6 := kB5 _ _ hd5 (.inl (by simp [xda]))
      have kA6 := kA5.trans kB5
      have hS6 := stx hS5 kB5
      generalize upd H5 x (.ins (C_Machine K) dx F3) = H6 at hx6 hd6 kA6 hS6 ⊢
      rw [hF2] at hF3
      have l6 : F3.lookup ("store" : Str) = some (.ref A0.a) := by rw [hF3, ha]; rfl
      have l6f : F3.lookup ("functions" : Str) = some (.ref da) := by rw [hF3]; rfl
      -- the program
      obtain ⟨ents6, ks6, hB6⟩ := id hS6
      obtain ⟨dxa6, fsa6, hoa6, _, _, _, _, nm6⟩ := hB6.ob
      have hp6 := kA6.at_ hp
      refine ⟨_, rfl, x, _, dx, F3, _, rfl, hx6, T.cl_Machine, T.a_Machine_store, l6, A0.a, dxa6, fsa6, rfl, hoa6, nm6.m_items_of, ?_⟩
      refine ⟨_, rfl, x, _, dx, F3, _, rfl, hx6, T.cl_Machine, T.a_Machine_store, l6, A0.a, dxa6, fsa6, rfl, hoa6, nm6.m_put, _, rfl, A0, S3, progT fns, pv0, rfl, hS6, hp6, by omega, fun S7 np H7 k7 hS7 p7 hl7 hn7 => ?_⟩
      have kA7 : Kp [x] H H7 := Kp.late kA6 k7 (fun b hb _ => fA b hb)
      have hx7 := k7.keep hx6 xF
      have hd7 := k7.keep hd6 nda2
      refine ⟨A0, S7, fns.map Fn.t, np, rfl, hS7, hn7, by omega, fun r us H8 k8 hr0 hr8 aR => ?_⟩
      have kA8 := kA7.trans k8.nil
      have hx8 := k8 _ _ hx7 (.inl (by simp))
      have hd8 := k8 _ _ hd7 (.inl (by simp))
      have hS8 := hS7.sm k8
      have hul := aR.len
      rw [List.length_map] at hul
      have rx : r ≠ x := by
        rintro rfl
        rw [hx7] at hr0
        cases hr0
      have fr : H r = none := kA7.free (by simp [rx]) hr0
      have rF := (hS7.fresh hr0).2
      have rda : r ≠ da := by
        rintro rfl
        rw [hd7] at hr0
        cases hr0
      obtain ⟨hne', hnd, hlen, hok'⟩ := good_parts hg
      obtain ⟨ents7, ks7, hB7⟩ := id hS7
      refine ⟨r, rfl, ⟨us, sq_lst hr8⟩, for_list (K := K) (a := r) (xs := us) (fun i σ H' => ∃ v4 v6 v7 v8 kvs, σ = [some (.ref x), some pv0, some (.ref inl), some (.bl false), v4, none, v6, v7, v8, none] ∧ Kp [x] H H' ∧ H' x = some (.ins (C_Machine K) dx F3) ∧ StoreAt P w K H' A0 S7 ∧ H' r = some (.lst us) ∧ H' da = some (.dK kvs) ∧ kvs.length ≤ i ∧
        ∀ (j : Nat) g, j < i → fns[j]? = some g → FnAt (x :: A0.F) S7 H' kvs g) ⟨none, none, none, none, [], rfl, kA8, hx8, hS8, hr8, hd8, Nat.le_refl _, fun j _ hj => absurd hj (Nat.not_lt_zero j)⟩ (fun i σ H' _ ⟨_, _, _, _, _, _, _, _, _, h, _⟩ => sq_lst h) ?_ ?_⟩
      · rintro i xv σ Ha hxi ⟨v4, v6, v7, v8, kvs, rfl, kA, hxa, hSa, hra, hda', hkl, hall⟩
        obtain ⟨t1, ht1, nf, rfl, hnf⟩ := aR.at_ hxi
        rw [List.getElem?_map] at ht1
        obtain ⟨fn, hfn, rfl⟩ : ∃ fn, fns[i]? = some fn ∧ t1 = fn.t := by
          cases z : fns[i]? with
          | none =>
            rw [z] at ht1
            cases ht1
          | some fn =>
            rw [z] at ht1
            cases ht1
            exact ⟨fn, rfl, rfl⟩
        obtain ⟨entsa, ksa, hBa⟩ := id hSa
        obtain ⟨dxa, fsa, hoa, _, _, _, _, nma⟩ := hBa.ob
        have hil : i < us.length := (List.getElem?_eq_some_iff.mp hxi).1
        refine ⟨_, rfl, x, _, dx, F3, _, rfl, hxa, T.cl_Machine, T.a_Machine_store, l6, A0.a, dxa, fsa, rfl, hoa, nma.m_items_of, _, rfl, A0, S7, [.w fn.name, .l (fn.ps.map .w), fn.body.t], nf, rfl, hSa, hnf, by omega, fun r2 us2 H9 k9 hr20 hr2 aR2 => ?_⟩
        obtain ⟨u1, s1, rfl, ⟨a1, rfl, ha1⟩, aR2⟩ := aR2
        obtain ⟨u2, s2, rfl, ⟨a2, rfl, ha2⟩, aR2⟩ := aR2
        obtain ⟨u3, s3, rfl, ⟨a3, rfl, ha3⟩, aR2⟩ := aR2
        rw [show s3 = [] from aR2] at hr2
        refine ⟨r2, _, rfl, sq_lst hr2, rfl, _, _, rfl, _, _, rfl, _, _, rfl, rfl, ?_⟩
        have hx9 := k9 _ _ hxa (.inl (by simp))
        have hS9 := hSa.sm k9
        obtain ⟨ents9, ks9, hB9⟩ := id hS9
        obtain ⟨dxa9, fsa9, hoa9, _, _, _, _, nm9⟩ := hB9.ob
        refine ⟨_, rfl, x, _, dx, F3, _, rfl, hx9, T.cl_Machine, T.a_Machine_store, l6, A0.a, dxa9, fsa9, rfl, hoa9, nm9.m_items_of, _, rfl, A0, S7, fn.ps.map .w, a2, rfl, hS9, ha2, by omega, fun lp us3 H10 k10 hlp0 hlp aR3 => ?_⟩
        refine ⟨_, rfl, zle (Nat.le_of_ble_eq_true rfl), fun q9 hq9 => ?_⟩
        have k11 : Sm H10 (upd H10 q9 (.tup [.ref lp, .int (a3 : Int)])) := Kp.new hq9
        have k911 := (k9.trans k10).trans k11
        have hxb := k911 _ _ hxa (.inl (by simp))
        have hdb := k911 _ _ hda' (.inl (by simp))
        have hlp11 := k11 _ _ hlp (.inl (by simp))
        have hq11 : (upd H10 q9 (.tup [.ref lp, .int (a3 : Int)])) q9 = some (.tup [.ref lp, .int (a3 : Int)]) := upd_same
        have lpx : lp ≠ x := by
          rintro rfl
          rw [hx9] at hlp0
          cases hlp0
        have lpF := (hS9.fresh hlp0).2
        generalize upd H10 q9 (.tup [.ref lp, .int (a3 : Int)]) = H11 at k11 k911 hxb hdb hlp11 hq11 ⊢
        refine ⟨_, rfl, x, _, dx, F3, _, rfl, hxb, T.cl_Machine, T.a_Machine_functions, l6f, _, rfl, da, _, rfl, DPut.k (k := Sum.inl (a1 : Int)) hdb (by rw [sizeLine_eq]; omega), ?_⟩
        have k12 : Kp [da] H11 (upd H11 da (.dK (putK kvs (Sum.inl (a1 : Int)) (.ref q9)))) := Kp.ownD hdb
        have hSb := hSa.sm k911
        have hda12 : ∀ b ∈ [da], b ∉ (x :: A0.F) → True := fun _ _ _ => trivial
        refine ⟨_, _, _, _, _, rfl, (kA.trans k911.nil).set fda, k12.keep hxb (by simp [Ne.symm xda]), hSb.kp k12 (fun b hb => by rw [List.mem_singleton.mp hb]; exact ⟨nda1, nda2⟩), k12.keep (k911 _ _ hra (.inl (by simp))) (by simp [rda]), upd_same, Nat.le_trans (length_putK _ _ _) (by omega), fun j g hj hgj => ?_⟩
        by_cases hji : j = i
        · subst hji
          rw [hfn] at hgj
          cases hgj
          have lpd : lp ≠ da := by
            rintro rfl
            rw [k9 _ _ hda' (.inl (by simp))] at hlp0
            cases hlp0
          exact ⟨a1, a3, q9, lp, us3, ha1, by rw [valV_put, if_pos rfl], k12.tup hq11, by simp [lpx, lpF], k12.keep hlp11 (by simp [lpd]), aR3, ha3⟩
        · obtain ⟨n1, b1, q1, lp1, us1, g1, g2, g3, g4, g5, g6, g7⟩ := hall j g (by omega) hgj
          have lpd1 : lp1 ≠ da := by
            rintro rfl
            rw [hda'] at g5
            cases g5
          refine ⟨n1, b1, q1, lp1, us1, g1, ?_, k12.tup (k911.tup g3), g4, k12.keep (k911 _ _ g5 (.inl (by simp))) (by simp [lpd1]), g6, g7⟩
          rw [valV_put, if_neg, g2]
          intro z
          have : n1 = a1 := by have := Sum.inl.inj z; omega
          subst this
          rw [ha1] at g1
          have e1 : fn.name = g.name := G.T.w.inj (Option.some.inj g1)
          exact hji (nodup_at hnd (show (fns.map Fn.name)[j]? = some fn.name by rw [List.getElem?_map, hgj, e1]; rfl) (by rw [List.getElem?_map, hfn]; rfl))
      · rintro σ Ha ⟨v4, v6, v7, v8, kvs, rfl, kA, hxa, hSa, hra, hda', hkl, hall⟩
        rw [hul] at hall
        -- keeping
        have all' : ∀ {H1 H2 : Hp} {F' : List Addr}, (∀ (j : Nat) g, j < fns.length → fns[j]? = some g → FnAt (x :: A0.F) S7 H1 kvs g) → Kp F' H1 H2 → (∀ b ∈ F', b ∈ x :: A0.F) → (∀ (j : Nat) g, j < fns.length → fns[j]? = some g → FnAt (x :: A0.F) S7 H2 kvs g) := fun h k s j g hj hg => (h j g hj hg).go k (List.prefix_refl _) s
        refine ⟨_, rfl, _, rfl, x, _, dx, F3, rfl, hxa, T.cl_Machine, T.a_Machine_keeping, by rw [hF3]; exact (Nat.le_of_ble_eq_true rfl), ?_⟩
        obtain ⟨F4, hF4⟩ : ∃ F', F' = putF ("keeping" : Str) (V.bl false) F3 := ⟨_, rfl⟩
        rw [← hF4]
        have kB : Kp [x] Ha (upd Ha x (.ins (C_Machine K) dx F4)) := Kp.ins (by simp) hxa
        have hx9 : (upd Ha x (.ins (C_Machine K) dx F4)) x = some (.ins (C_Machine K) dx F4) := upd_same
        have kA9 := kA.trans kB
        have hS9 := stx hSa kB
        have hd9 := kB.keep hda' (by simp [xda])
        have hall9 := all' hall kB (fun b hb => by rw [List.mem_singleton.mp hb]; simp)
        generalize upd Ha x (.ins (C_Machine K) dx F4) = H9 at hx9 kA9 hS9 hd9 hall9 ⊢
        rw [hF3] at hF4
        -- kept
        intro kq hkq
        have kqx : kq ≠ x := by
          rintro rfl
          rw [hx9] at hkq
          cases hkq
        have k10 : Sm H9 (upd H9 kq (.dK [])) := Kp.new hkq
        have hx10 := k10 _ _ hx9 (.inl (by simp))
        have kA10 := kA9.trans k10.nil
        have hS10 := hS9.sm k10
        have hd10 := k10 _ _ hd9 (.inl (by simp))
        have hall10 := all' hall9 k10 (fun b hb => by cases hb)
        refine ⟨_, rfl, x, _, dx, F4, rfl, hx10, T.cl_Machine, T.a_Machine_kept, by rw [hF4]; exact (Nat.le_of_ble_eq_true rfl), ?_⟩
        generalize upd H9 kq (.dK []) = H10 at hx10 kA10 hS10 hd10 hall10 ⊢
        obtain ⟨F5, hF5⟩ : ∃ F', F' = putF ("kept" : Str) (V.ref kq) F4 := ⟨_, rfl⟩
        rw [← hF5]
        have kB : Kp [x] H10 (upd H10 x (.ins (C_Machine K) dx F5)) := Kp.ins (by simp) hx10
        have hx11 : (upd H10 x (.ins (C_Machine K) dx F5)) x = some (.ins (C_Machine K) dx F5) := upd_same
        have kA11 := kA10.trans kB
        have hS11 := stx hS10 kB
        have hd11 := kB.keep hd10 (by simp [xda])
        have hall11 := all' hall10 kB (fun b hb => by rw [List.mem_singleton.mp hb]; simp)
        generalize upd H10 x (.ins (C_Machine K) dx F5) = H11 at hx11 kA11 hS11 hd11 hall11 ⊢
        rw [hF4] at hF5
        -- pair
        refine ⟨_, rfl, x, _, dx, F5, rfl, hx11, T.cl_Machine, T.a_Machine_pair, by rw [hF5]; exact (Nat.le_of_ble_eq_true rfl), ?_⟩
        obtain ⟨F6, hF6⟩ : ∃ F', F' = putF ("pair" : Str) V.non F5 := ⟨_, rfl⟩
        rw [← hF6]
        have kB : Kp [x] H11 (upd H11 x (.ins (C_Machine K) dx F6)) := Kp.ins (by simp) hx11
        have hx12 : (upd H11 x (.ins (C_Machine K) dx F6)) x = some (.ins (C_Machine K) dx F6) := upd_same
        have kA12 := kA11.trans kB
        have hS12 := stx hS11 kB
        have hd12 := kB.keep hd11 (by simp [xda])
        have hall12 := all' hall11 kB (fun b hb => by rw [List.mem_singleton.mp hb]; simp)
        generalize upd H11 x (.ins (C_Machine K) dx F6) = H12 at hx12 kA12 hS12 hd12 hall12 ⊢
        rw [hF5] at hF6
        -- steps
        refine ⟨_, rfl, x, _, dx, F6, rfl, hx12, T.cl_Machine, T.a_Machine_steps, by rw [hF6]; exact (Nat.le_of_ble_eq_true rfl), ?_⟩
        obtain ⟨F7, hF7⟩ : ∃ F', F' = putF ("steps" : Str) (V.int 0) F6 := ⟨_, rfl⟩
        rw [← hF7]
        have kB : Kp [x] H12 (upd H12 x (.ins (C_Machine K) dx F7)) := Kp.ins (by simp) hx12
        have hx13 : (upd H12 x (.ins (C_Machine K) dx F7)) x = some (.ins (C_Machine K) dx F7) := upd_same
        have kA13 := kA12.trans kB
        have hS13 := stx hS12 kB
        have hd13 := kB.keep hd12 (by simp [xda])
        have hall13 := all' hall12 kB (fun b hb => by rw [List.mem_singleton.mp hb]; simp)
        generalize upd H12 x (.ins (C_Machine K) dx F7) = H13 at hx13 kA13 hS13 hd13 hall13 ⊢
        rw [hF6] at hF7
        -- found
        refine ⟨zle (Nat.le_of_ble_eq_true rfl), fun fa hfa => ?_⟩
        have fax : fa ≠ x := by
          rintro rfl
          rw [hx13] at hfa
          cases hfa
        have fad : fa ≠ da := by
          rintro rfl
          rw [hd13] at hfa
          cases hfa
        have ffa : H fa = none := kA13.free (by simp [fax]) hfa
        have fas := hS13.fresh hfa
        have k14 : Sm H13 (upd H13 fa (.lst [])) := Kp.new hfa
        have hfa14 : (upd H13 fa (.lst [])) fa = some (.lst []) := upd_same
        have hx14 := k14 _ _ hx13 (.inl (by simp))
        have kA14 := kA13.trans k14.nil
        have hS14 := hS13.sm k14
        have hd14 := k14 _ _ hd13 (.inl (by simp))
        have hall14 := all' hall13 k14 (fun b hb => by cases hb)
        have lpf : ∀ lp us, H13 lp = some (.lst us) → lp ≠ fa := by
          rintro lp us h rfl
          rw [h] at hfa
          cases hfa
        refine ⟨_, rfl, x, _, dx, F7, rfl, hx14, T.cl_Machine, T.a_Machine_found, by rw [hF7]; exact (Nat.le_of_ble_eq_true rfl), ?_⟩
        have hall14 : ∀ (j : Nat) g, j < fns.length → fns[j]? = some g → FnAt (fa :: x :: A0.F) S7 (upd H13 fa (.lst [])) kvs g := fun j g hj hg => ((hall13 j g hj hg).more hfa).go k14 (List.prefix_refl _) (fun b hb => by cases hb)
        generalize upd H13 fa (.lst []) = H14 at hfa14 hx14 kA14 hS14 hd14 hall14 ⊢
        obtain ⟨F8, hF8⟩ : ∃ F', F' = putF ("found" : Str) (V.ref fa) F7 := ⟨_, rfl⟩
        rw [← hF8]
        have kB : Kp [x] H14 (upd H14 x (.ins (C_Machine K) dx F8)) := Kp.ins (by simp) hx14
        have hx15 : (upd H14 x (.ins (C_Machine K) dx F8)) x = some (.ins (C_Machine K) dx F8) := upd_same
        have kA15 := kA14.trans kB
        have hS15 := stx hS14 kB
        have hd15 := kB.keep hd14 (by simp [xda])
        have hfa15 := kB.keep hfa14 (by simp [fax])
        have hall15 : ∀ (j : Nat) g, j < fns.length → fns[j]? = some g → FnAt (fa :: x :: A0.F) S7 (upd H14 x (.ins (C_Machine K) dx F8)) kvs g := fun j g hj hg => (hall14 j g hj hg).go kB (List.prefix_refl _) (fun b hb => by rw [List.mem_singleton.mp hb]; simp)
        generalize upd H14 x (.ins (C_Machine K) dx F8) = H15 at hx15 kA15 hS15 hd15 hfa15 hall15 ⊢
        rw [hF7] at hF8
        -- todo
        refine ⟨zle (Nat.le_of_ble_eq_true rfl), fun ta hta => ?_⟩
        have tax : ta ≠ x := by
          rintro rfl
          rw [hx15] at hta
          cases hta
        have tad : ta ≠ da := by
          rintro rfl
          rw [hd15] at hta
          cases hta
        have taf : ta ≠ fa := by
          rintro rfl
          rw [hfa15] at hta
          cases hta
        have fta : H ta = none := kA15.free (by simp [tax]) hta
        have tas := hS15.fresh hta
        have k16 : Sm H15 (upd H15 ta (.lst [])) := Kp.new hta
        have hta16 : (upd H15 ta (.lst [])) ta = some (.lst []) := upd_same
        have hx16 := k16 _ _ hx15 (.inl (by simp))
        have kA16 := kA15.trans k16.nil
        have hS16 := hS15.sm k16
        have hd16 := k16 _ _ hd15 (.inl (by simp))
        have hfa16 := k16 _ _ hfa15 (.inl (by simp))
        have hall16 : ∀ (j : Nat) g, j < fns.length → fns[j]? = some g → FnAt (ta :: fa :: x :: A0.F) S7 (upd H15 ta (.lst [])) kvs g := fun j g hj hg => ((hall15 j g hj hg).more hta).go k16 (List.prefix_refl _) (fun b hb => by cases hb)
        refine ⟨_, rfl, x, _, dx, F8, rfl, hx16, T.cl_Machine, T.a_Machine_todo, by rw [hF8]; exact (Nat.le_of_ble_eq_true rfl), ?_⟩
        generalize upd H15 ta (.lst []) = H16 at hta16 hx16 kA16 hS16 hd16 hfa16 hall16 ⊢
        obtain ⟨F9, hF9⟩ : ∃ F', F' = putF ("todo" : Str) (V.ref ta) F8 := ⟨_, rfl⟩
        rw [← hF9]
        have kB : Kp [x] H16 (upd H16 x (.ins (C_Machine K) dx F9)) := Kp.ins (by simp) hx16
        have hx17 : (upd H16 x (.ins (C_Machine K) dx F9)) x = some (.ins (C_Machine K) dx F9) := upd_same
        have kA17 := kA16.trans kB
        have hS17 := stx hS16 kB
        have hd17 := kB.keep hd16 (by simp [xda])
        have hfa17 := kB.keep hfa16 (by simp [fax])
        have hta17 := kB.keep hta16 (by simp [tax])
        have hall17 : ∀ (j : Nat) g, j < fns.length → fns[j]? = some g → FnAt (ta :: fa :: x :: A0.F) S7 (upd H16 x (.ins (C_Machine K) dx F9)) kvs g := fun j g hj hg => (hall16 j g hj hg).go kB (List.prefix_refl _) (fun b hb => by rw [List.mem_singleton.mp hb]; simp)
        generalize upd H16 x (.ins (C_Machine K) dx F9) = H17 at hx17 kA17 hS17 hd17 hfa17 hta17 hall17 ⊢
        rw [hF8] at hF9
        -- the object is whole
        have hMF : MF ⟨x, A0, fa, ta, da⟩ S7 0 F9 := by
          rw [hF9]
          exact ⟨by rw [ha]; rfl, ⟨ny, rfl, pre_get p7 hy3⟩, rfl, rfl, rfl, rfl, rfl, rfl, rfl, rfl, rfl, rfl, rfl, rfl, rfl, (Nat.le_of_ble_eq_true rfl)⟩
        have hM17 : MachAt P w K H17 ⟨x, A0, fa, ta, da⟩ fns S7 [] [] 0 := by
          refine ⟨⟨dx, F9, hx17, hMF⟩, hS17, ⟨[], hfa17, rfl⟩, ⟨[], hta17, rfl⟩, ⟨?_, kvs, hd17, fun g hg => ?_⟩, Ne.symm taf, Ne.symm fax, Ne.symm tax, ?_, xF, fas.2, tas.2⟩
          · simp only [MA.F, List.mem_cons, not_or]
            exact ⟨xda, Ne.symm fad, Ne.symm tad, nda2⟩
          · obtain ⟨j, hj⟩ := List.mem_iff_getElem?.mp hg
            exact (hall17 j g (List.getElem?_eq_some_iff.mp hj).1 hj).sub (fun b hb => by
              simp only [MA.F, List.mem_cons] at hb ⊢
              rcases hb with rfl | rfl | rfl | hb
              · exact .inr (.inr (.inl rfl))
              · exact .inr (.inl rfl)
              · exact .inl rfl
              · exact .inr (.inr (.inr hb)))
          · simp only [MA.F, List.mem_cons, not_or]
            refine ⟨Ne.symm xA, Ne.symm fas.1, Ne.symm tas.1, fun z => ?_⟩
            obtain ⟨ents9, ks9, hB9⟩ := id hS17
            obtain ⟨dx9, fs9, o9, _⟩ := hB9.ob
            exact hS17.insF o9 z
        obtain ⟨f0, r0, rfl⟩ : ∃ f r, fns = f :: r := by
          cases fns with
          | nil => exact absurd rfl hne'
          | cons f r => exact ⟨f, r, rfl⟩
        have hf0 := fn_parts (hok' f0 (List.mem_cons_self ..))
        have hi0 : f0.ps.length = ins.length := hi
        obtain ⟨ents17, ks17, hB17⟩ := id hS17
        obtain ⟨dxs17, fss17, ho17, _, _, _, _, nm17⟩ := hB17.ob
        have hp17 := kA17.at_ hp
        have hS7l : S7.length ≤ 3 + cT (progT (f0 :: r0)) := by omega
        refine ⟨_, rfl, x, _, dx, F9, _, rfl, hx17, T.cl_Machine, T.a_Machine_store, hMF.f_store, A0.a, dxs17, fss17, rfl, ho17, nm17.m_put, _, rfl, _, 0, _, hp17, rfl, rfl, fun v1 h1 => ⟨_, 0, _, h1, rfl, rfl, fun v2 h2 => ?_⟩⟩
        obtain rfl := at_w h2
        have hcw : cT (.w f0.name) = 2 := rfl
        refine ⟨A0, S7, .w f0.name, _, rfl, hS17, at_wi, by omega, fun S8 nmain H18 k18 hS18 p18 hl18 hn18 => ?_⟩
        have hM18 := hM17.store k18 p18 hS18
        have kA18 : Kp [x] H H18 := Kp.late kA17 k18 (fun b hb _ => fA b hb)
        obtain ⟨dx18, fs18, ho18, mf18⟩ := hM18.ob
        have inlx : inl ≠ x := by
          rintro rfl
          rw [hx] at hin
          cases hin
        have hin18 := kA18.keep hin (by simp [inlx])
        refine ⟨_, rfl, x, dx18, fs18, rfl, ho18, mf18.m_begin, _, rfl, _, rfl, inl, rfl, ⟨ivs, sq_lst hin18⟩, fun D hD => lc_y walk_list (fun i H' => ∃ acc S', Kp A0.F H18 H' ∧ StoreAt P w K H' A0 S' ∧ S8 <+: S' ∧ S'.length ≤ S8.length + cTs (ins.take i) ∧ H' D = some (.lst acc) ∧ A2 (NumT S') (ins.take i) acc) ⟨[], S8, (Kp.new hD : Sm H18 _).nil, hS18.sm (Kp.new hD), List.prefix_refl _, Nat.le_refl _, upd_same, rfl⟩ (fun i H' _ ⟨_, _, k, _⟩ => sq_lst (k.keep hin18 (fun z => by
          have := fA inl z
          rw [hin] at this
          cases this))) ?_ ?_⟩
        · rintro i xv Hb Hc hii ⟨acc, S9, k19, hS19, p19, hl19, hacc, aacc⟩ ⟨rfl, hxi⟩
          obtain ⟨t, ht, hAt⟩ := aa_at hA hxi
          have hM19 := hM18.store k19 p19 hS19
          obtain ⟨dx19, fs19, ho19, mf19⟩ := hM19.ob
          obtain ⟨ents19, ks19, hB19⟩ := id hS19
          obtain ⟨dxs19, fss19, hos19, _, _, _, _, nm19⟩ := hB19.ob
          have e9 : ins.take (i + 1) = ins.take i ++ [t] := by
            rw [List.take_add_one, ht]
            rfl
          have hcs : cTs (ins.take (i + 1)) = cTs (ins.take i) + (cT t + 1) := by
            rw [e9, cTs_app]
            rfl
          have hcl : cTs (ins.take (i + 1)) ≤ cTs ins := by
            conv => rhs; rw [← List.take_append_drop (i + 1) ins]
            rw [cTs_app]
            omega
          have hDF := (hS18.fresh hD).2
          have hal := aacc.len
          have hlt := cTs_len (ins.take i)
          refine ⟨rfl, _, rfl, x, _, dx19, fs19, _, rfl, ho19, T.cl_Machine, T.a_Machine_store, mf19.f_store, A0.a, dxs19, fss19, rfl, hos19, nm19.m_put, _, rfl, A0, S9, t, _, rfl, hS19, k19.at_ (kA18.at_ hAt), by omega, fun S10 n10 H20 k20 hS20 p20 hl20 hn20 => ?_⟩
          have hacc20 := k20.keep hacc hDF
          have k21 : Kp [D] H20 (upd H20 D (.lst (acc ++ [.int (n10 : Int)]))) := Kp.own hacc20
          refine ⟨acc, hacc20, by rw [sizeLine_eq]; omega, _, S10, (k19.trans k20).set hD, hS20.upd hS18 hD k21, p19.trans p20, by omega, upd_same, ?_⟩
          rw [e9]
          exact (aacc.mono (NumT.mono p20)).app (A2.one ⟨n10, rfl, hn20⟩)
        · rintro Hb ⟨acc, S9, k19, hS19, p19, hl19, hacc, aacc⟩
          have hil : ivs.length = ins.length := aa_len hA
          rw [hil, List.take_length] at aacc hl19
          refine ⟨D, acc, rfl, sq_lst hacc, fun nv o hnv ho => ?_⟩
          have hM19 := hM18.store k19 p19 hS19
          have k20 : Sm Hb (upd Hb nv (.frz o (.tup acc))) := Kp.new hnv
          have hM20 := hM19.sm k20
          refine ⟨⟨x, A0, fa, ta, da⟩, f0 :: r0, S9, [], [], 0, f0.name, f0, nv, ins, acc, nmain, rfl, hM20, pre_get p19 hn18, ?_, XT.new ho, aacc, hi0, by have := hf0.pl; omega, hf0.pnd, Nat.zero_le _, fun S11 H21 k21 hM21 p21 hl21 => ?_⟩
          · show (match seq f0.name f0.name with | true => some f0 | false => fnGet f0.name r0) = some f0
            rw [seq_self]
          · have kfin : Kp [x] H H21 := Kp.late ((Kp.late kA18 k19 (fun b hb _ => fA b hb)).trans k20.nil) k21 (fun b hb hbx => by
              simp only [MA.F, List.mem_cons] at hb
              rcases hb with rfl | rfl | rfl | hb
              · exact absurd (List.mem_singleton.mpr rfl) hbx
              · exact ffa
              · exact fta
              · exact fA b hb)
            refine q ⟨x, A0, fa, ta, da⟩ S11 H21 rfl kfin (fun b hb hbx => ?_) hM21 (by omega)
            simp only [MA.F, List.mem_cons] at hb
            rcases hb with rfl | rfl | rfl | hb
            · exact absurd rfl hbx
            · exact ffa
            · exact fta
            · exact fA b hb
  obtain ⟨f, fd, F, hok, hM⟩ := key
  refine ⟨f, fd, hok, hM, ?_⟩
  obtain ⟨mv, hb⟩ := F.kbinds0 (ps := ["self", "program", "inputs", "keeping"]) 3 ["keeping"] [] (fun us mv ws => us ++ (mv ++ ws)) (by decide) (fun q hq => by cases hq) (fun r1 r2 r3 => r1.append (r2.append r3)) (fun D doc pm an cdv ct us mv ws h1 h2 h3 => by
    match us, mv, ws, h1, h2, h3 with
    | [a, b, c], [], [d], _, _, _ => rfl)
  exact ⟨_, _, hb, rfl⟩
end
end G
set_option maxRecDepth 100000
set_option maxHeartbeats 4000000
/-! F5g: the rest of the first machine, run_program. -/
namespace G
open PySem PySem.Spec PyProof.Rows L2
section
variable {P : Program} {w : World} {K : PySem.W.Frag} {mg : Str → Option Value} {base : Heap}
def sp_Machine_is_done (P : Program) (w : World) (K : PySem.W.Frag) : Sp := fun vs H Q _ => ∃ M fns S fd k, vs = [.ref (MA.a M)] ∧ MachAt P w K H M fns S [] fd k ∧ Q (.bl true) H
theorem sc_Machine_is_done : FnScope ["self"] ["self"] (defScope s_Machine_is_done) := ⟨rfl, rfl, rfl, by decide +kernel, rfl, by decide +kernel, by decide +kernel⟩
theorem f_Machine_is_done (T : Txt w K mg) : Mtb P w K mg base (C_Machine K) "is_done" 1 ["self"] (sp_Machine_is_done P w K) := by
  refine T.d_Machine_is_done.mtb sc_Machine_is_done (fun _ _ _ _ _ _ us hl => match us, hl with | [_], _ => rfl) (fun vs H Q E h => ?_) (fun f cdv A outer s H vs Q E hr h => ?_)
  · obtain ⟨_, _, _, _, _, rfl, _⟩ := h
    rfl
  · obtain ⟨M, fns, S, fd, k, rfl, hM, q⟩ := h
    refine ⟨_, (pss_one (ps_ret (pe_cmpR op_eq (pe_callB call_len_seq (by rfl) T.n_len PySem.boot_len (pa_cons (pe_fld (pv 0) rfl) pa_nil)) pe_int (nomark _)))), ?_⟩
    obtain ⟨dx, fs, ho, mf⟩ := hM.ob
    obtain ⟨ts, t1, t2⟩ := hM.t
    rw [show ts = [] from t2] at t1
    exact ⟨_, rfl, M.a, _, dx, fs, _, rfl, ho, T.cl_Machine, T.a_Machine_todo, mf.f_todo, M.ta, [], rfl, .inl (sq_lst t1), rfl, q⟩
def sp_Machine_is_great (P : Program) (w : World) (K : PySem.W.Frag) : Sp := fun vs H Q _ => ∃ M fns S td t k, vs = [.ref (MA.a M)] ∧ MachAt P w K H M fns S td [t] k ∧ t.parts ≤ 200000 ∧ t.depth ≤ 200 ∧ Q (.bl false) H
theorem sc_Machine_is_great : FnScope ["self", "number"] ["self"] (defScope s_Machine_is_great) := ⟨rfl, rfl, rfl, by decide +kernel, rfl, by decide +kernel, by decide +kernel⟩
theorem f_Machine_is_great (T : Txt w K mg) : Mtb P w K mg base (C_Machine K) "is_great" 1 ["self"] (sp_Machine_is_great P w K) := by
  refine T.d_Machine_is_great.mtb sc_Machine_is_great (fun _ _ _ _ _ _ us hl => match us, hl with | [_], _ => rfl) (fun vs H Q E h => ?_) (fun f cdv A outer s H vs Q E hr h => ?_)
  · obtain ⟨_, _, _, _, _, _, rfl, _⟩ := h
    rfl
  · obtain ⟨M, fns, S, td, t, k, rfl, hM, h1, h2, q⟩ := h
    refine ⟨_, (pss_cons (ps_set (i := 1) sc_Machine_is_great.nd rfl (Or.inl rfl) (pe_ix ix_list (pe_fld (pv 0) rfl) pe_int (fun _ _ => rfl)))
      (pss_one (ps_ret (pe_or (pe_cmpR op_gt (pe_ix ix_list (pe_fld (pe_fld (pv 0) rfl) rfl) (pv 1) (fun _ _ => rfl)) (pe_gi T.c_MOST_PARTS) (nomark _)) (pe_one (pe_cmpR op_gt (pe_ix ix_list (pe_fld (pe_fld (pv 0) rfl) rfl) (pv 1) (fun _ _ => rfl)) (pe_gi T.c_MOST_DEPTH) (nomark _))))))), ?_⟩
    obtain ⟨dx, fs, ho, mf⟩ := hM.ob
    obtain ⟨vs, f1, f2⟩ := hM.f
    obtain ⟨v, r, rfl, ⟨n, rfl, hn⟩, f3⟩ := f2
    rw [show r = [] from f3] at f1
    obtain ⟨ents, ks, hB⟩ := id hM.st
    obtain ⟨dxs, fss, hos, _, _, l3, l4, nm⟩ := hB.ob
    have gs : (S.map szV)[n]? = some (szV t) := by rw [List.getElem?_map, hn]; rfl
    have gd : (S.map dpV)[n]? = some (dpV t) := by rw [List.getElem?_map, hn]; rfl
    refine ⟨_, rfl, M.a, _, dx, fs, _, rfl, ho, T.cl_Machine, T.a_Machine_found, mf.f_found, M.fa, _, 0, _, rfl, rfl, sq_lst f1, rfl, ?_⟩
    refine ⟨_, rfl, M.a, _, dx, fs, _, rfl, ho, T.cl_Machine, T.a_Machine_store, mf.f_store, M.st.a, _, dxs, fss, _, rfl, hos, T.cl_Store, T.a_Store_sizes, l3, _, rfl, M.st.sa, _, (n : Int), _, rfl, rfl, sq_lst hB.s, atI_nat gs, _, _, rfl, rfl, false, congrArg V.bl (decide_eq_false (by omega)), iteF ?_⟩
    refine ⟨_, rfl, M.a, _, dx, fs, _, rfl, ho, T.cl_Machine, T.a_Machine_store, mf.f_store, M.st.a, _, dxs, fss, _, rfl, hos, T.cl_Store, T.a_Store_depths, l4, _, rfl, M.st.da, _, (n : Int), _, rfl, rfl, sq_lst hB.d, atI_nat gd, _, _, rfl, rfl, ?_⟩
    have e : decide (((min t.depth 201 : Nat) : Int) > 200) = false := decide_eq_false (by omega)
    show Q (V.bl (decide (((min t.depth 201 : Nat) : Int) > 200))) H
    rw [e]
    exact q
def sp_Machine_result (P : Program) (w : World) (K : PySem.W.Frag) : Sp := fun vs H Q _ => ∃ M fns S td t k, vs = [.ref (MA.a M)] ∧ MachAt P w K H M fns S td [t] k ∧ S.length ≤ 8000000 ∧ fT t ≤ 8000000 ∧ ans K t H Q
theorem sc_Machine_result : FnScope ["self"] ["self"] (defScope s_Machine_result) := ⟨rfl, rfl, rfl, by decide +kernel, rfl, by decide +kernel, by decide +kernel⟩
theorem f_Machine_result (T : Txt w K mg) : Mtb P w K mg base (C_Machine K) "result" 3 ["self"] (sp_Machine_result P w K) := by
  have F_Store_value_of : Mtb P w K mg base (C_Store K) "value_of" 2 ["self", "number"] (sp_Store_value_of P w K) := f_Store_value_of T
  refine T.d_Machine_result.mtb sc_Machine_result (fun _ _ _ _ _ _ us hl => match us, hl with | [_], _ => rfl) (fun vs H Q E h => ?_) (fun f cdv A outer s H vs Q E hr h => ?_)
  · obtain ⟨_, _, _, _, _, _, rfl, _⟩ := h
    rfl
  · obtain ⟨M, fns, S, td, t, k, rfl, hM, h1, h2, q⟩ := h
    refine ⟨_, (pss_one (ps_ret (pe_m (pe_fld (pv 0) rfl) T.cl_Store F_Store_value_of (hr.mono (by decide)) (pa_cons (pe_ix ix_list (pe_fld (pv 0) rfl) pe_int (fun _ _ => rfl)) pa_nil)))), ?_⟩
    obtain ⟨dx, fs, ho, mf⟩ := hM.ob
    obtain ⟨vs, f1, f2⟩ := hM.f
    obtain ⟨v, r, rfl, ⟨n, rfl, hn⟩, f3⟩ := f2
    rw [show r = [] from f3] at f1
    obtain ⟨ents, ks, hB⟩ := id hM.st
    obtain ⟨dxs, fss, hos, _, _, l3, l4, nm⟩ := hB.ob
    exact ⟨_, rfl, M.a, _, dx, fs, _, rfl, ho, T.cl_Machine, T.a_Machine_store, mf.f_store, M.st.a, dxs, fss, rfl, hos, nm.m_value_of, _, rfl, M.a, _, dx, fs, _, rfl, ho, T.cl_Machine, T.a_Machine_found, mf.f_found, M.fa, _, 0, _, rfl, rfl, sq_lst f1, rfl, M.st, S, t, n, rfl, hM.st, hn, h1, h2, q⟩
/-! ### Run -/
def sp_Run_init (K : PySem.W.Frag) : Sp := fun vs H Q _ => ∃ x dx a b c, vs = [.ref x, a, b, c] ∧ H x = some (.ins (C_Run K) dx []) ∧ ∀ fs H', Kp [x] H H' → H' x = some (.ins (C_Run K) dx fs) → fs.lookup ("kind" : Str) = some a → fs.lookup ("value" : Str) = some b → fs.lookup ("steps" : Str) = some c → Q .non H'
theorem sc_Run_init : FnScope ["self", "kind", "value", "steps"] ["self", "kind", "value", "steps"] (defScope s_Run_init) := ⟨rfl, rfl, rfl, by decide +kernel, rfl, by decide +kernel, by decide +kernel⟩
theorem mk_Run (T : Txt w K mg) : Mkb P w K mg base "Run" (C_Run K) 1 ["self", "kind", "value", "steps"] (sp_Run_init K) := by
  refine T.d_Run_init.mkb T.g_Run sc_Run_init (fun _ _ _ _ _ _ us hl => match us, hl with | [_, _, _, _], _ => rfl) (fun vs H Q E h => ?_) (fun f cdv A outer s H vs Q E hr h => ?_)
  · obtain ⟨_, _, _, _, _, rfl, _⟩ := h
    rfl
  · obtain ⟨x, dx, a, b, c, rfl, hx, q⟩ := h
    refine ⟨_, (pss_cons (ps_fld (pv 0) (pv 1) rfl)
      (pss_cons (ps_fld (pv 0) (pv 2) rfl)
      (pss_one (ps_fld (pv 0) (pv 3) rfl)))), ?_⟩
    refine ⟨_, rfl, _, rfl, x, _, dx, [], rfl, hx, T.cl_Run, T.a_Run_kind, (Nat.le_of_ble_eq_true rfl), ?_⟩
    have k1 : Kp [x] H (upd H x (.ins (C_Run K) dx (putF "kind" a []))) := Kp.ins (by simp) hx
    have hx1 : (upd H x (.ins (C_Run K) dx (putF "kind" a []))) x = some (.ins (C_Run K) dx (putF "kind" a [])) := upd_same
    generalize upd H x (.ins (C_Run K) dx (putF "kind" a [])) = H1 at k1 hx1 ⊢
    refine ⟨_, rfl, _, rfl, x, _, dx, _, rfl, hx1, T.cl_Run, T.a_Run_value, (Nat.le_of_ble_eq_true rfl), ?_⟩
    have k2 : Kp [x] H1 (upd H1 x (.ins (C_Run K) dx (putF "value" b (putF "kind" a [])))) := Kp.ins (by simp) hx1
    have hx2 : (upd H1 x (.ins (C_Run K) dx (putF "value" b (putF "kind" a [])))) x = some (.ins (C_Run K) dx (putF "value" b (putF "kind" a []))) := upd_same
    generalize upd H1 x (.ins (C_Run K) dx (putF "value" b (putF "kind" a []))) = H2 at k2 hx2 ⊢
    refine ⟨_, rfl, _, rfl, x, _, dx, _, rfl, hx2, T.cl_Run, T.a_Run_steps, (Nat.le_of_ble_eq_true rfl), ?_⟩
    exact q _ _ ((k1.trans k2).trans (Kp.ins (by simp) hx2)) upd_same rfl rfl rfl
/-! ### started, run_program -/
def sp_started (P : Program) (w : World) (K : PySem.W.Frag) : Sp := fun vs H Q _ => ∃ pv inl ivs fns ins, vs = [pv, .ref inl, .bl false] ∧ At K H (progT fns) pv ∧ H inl = some (.lst ivs) ∧ AtAll K H ins ivs ∧ good fns = true ∧ inputsOf fns = ins.length ∧
  100 + cT (progT fns) + cTs ins ≤ 3000000 ∧ ∀ M S H', Sm H H' → MachAt P w K H' M fns S (mainEnv fns ins) [] 0 → (∀ b ∈ M.F, H b = none) → S.length ≤ 100 + cT (progT fns) + cTs ins → Q (.ref M.a) H'
theorem sc_started : FnScope ["program", "inputs", "keeping"] ["program", "inputs", "keeping"] (defScope s_started) := ⟨rfl, rfl, rfl, by decide +kernel, rfl, by decide +kernel, by decide +kernel⟩
theorem f_started (T : Txt w K mg) : Clb P w K mg base "started" 6 ["program", "inputs", "keeping"] (sp_started P w K) := by
  have F_check_program : Clb P w K mg base "check_program" 4 ["value"] (sp_check_program K) := f_check_program T
  have F_inputs_of : Clb P w K mg base "inputs_of" 5 ["program"] (sp_inputs_of K) := f_inputs_of T
  obtain ⟨fM, fdM, okM, mkM, gM, gVM, kbM, egM⟩ := f_Machine_init (P := P) (base := base) T
  refine T.d_started.clb sc_started (fun _ _ _ _ _ _ us hl => match us, hl with | [_, _, _], _ => rfl) (fun vs H Q E h => ?_) (fun f cdv A outer s H vs Q E hr h => ?_)
  · obtain ⟨_, _, _, _, _, rfl, _⟩ := h
    rfl
  · obtain ⟨pv0, inl, ivs, fns, ins, rfl, hp, hin, hA, hg, hi, hz, q⟩ := h
    refine ⟨_, (pss_cons (ps_expr (pe_c F_check_program (hr.mono (by decide)) (pa_cons (pv 0) pa_nil)))
      (pss_cons (ps_if (pt_cmpR op_ne (pe_callB call_len_seq (by rfl) T.n_len PySem.boot_len (pa_cons (pv 1) pa_nil)) (pe_c F_inputs_of (hr.mono (by decide)) (pa_cons (pv 0) pa_nil)) (nomark _)) (pss_one ps_never) pss_nil)
      (pss_one (ps_ret (pe_makeK mkM okM (hr.mono (by decide)) (by rfl) T.g_Machine kbM pass0 (pa_cons (pv 0) (pa_cons (pv 1) pa_nil)) (pk_cons (pv 2) pk_nil)))))), ?_⟩
    refine ⟨_, rfl, pv0, fns, rfl, hp, hg, fun H1 k1 => ?_⟩
    have hin1 := k1 _ _ hin (.inl (by simp))
    refine ⟨_, rfl, inl, ivs, rfl, .inl (sq_lst hin1), _, rfl, pv0, fns, rfl, k1.at_ hp, hg, fun H2 k2 => ?_⟩
    have hil : ivs.length = ins.length := aa_len hA
    rw [hil, hi]
    refine ⟨rfl, false, by simp, iteF ?_⟩
    have k12 := k1.trans k2
    refine ⟨_, rfl, _, rfl, _, rfl, rfl, rfl, fun x dx hx hdx hne => ?_⟩
    rw [egM]
    have k3 : Sm H2 (upd (upd H2 dx (.own x)) x (.ins (C_Machine K) dx [])) := (Kp.new hdx).set hx
    have k13 := k12.trans k3
    refine ⟨x, dx, pv0, inl, ivs, fns, ins, rfl, upd_same, k13.at_ hp, k13 _ _ hin (.inl (by simp)), k13.aa hA, hg, hi, hz, fun M S H4 hMa k4 hfr hM hl => ⟨rfl, ?_⟩⟩
    rw [← hMa]
    have hx0 := k12.none hx
    refine q M S H4 (Kp.late k13 k4 (fun b hb _ => by rw [List.mem_singleton.mp hb]; exact hx0)) hM (fun b hb => ?_) hl
    by_cases e : b = x
    · rw [e]
      exact hx0
    · exact k13.none (hfr b hb e)
def sp_run_program (P : Program) (w : World) (K : PySem.W.Frag) : Sp := fun vs H Q _ => ∃ pv inl ivs fns ins t, ∃ N : Nat, vs = [pv, .ref inl, .int 1000000] ∧ At K H (progT fns) pv ∧ H inl = some (.lst ivs) ∧ AtAll K H ins ivs ∧ good fns = true ∧ inputsOf fns = ins.length ∧
  100 + cT (progT fns) + cTs ins ≤ 3000000 ∧ N ≤ 400000 ∧ go1 fns N (mainEnv fns ins) [] = some [t] ∧ t.parts ≤ 200000 ∧ t.depth ≤ 200 ∧
  ∀ r dx fs v H', Sm H H' → H' r = some (.ins (C_Run K) dx fs) → fs.lookup ("kind" : Str) = some (.str "done") → fs.lookup ("value" : Str) = some v → At K H' t v → Q (.ref r) H'
theorem sc_run_program : FnScope ["program", "inputs", "limit", "machine"] ["program", "inputs", "limit"] (defScope s_run_program) := ⟨rfl, rfl, rfl, by decide +kernel, rfl, by decide +kernel, by decide +kernel⟩
theorem f_run_program (T : Txt w K mg) : Clb P w K mg base "run_program" 7 ["program", "inputs", "limit"] (sp_run_program P w K) := by
  have F_started : Clb P w K mg base "started" 6 ["program", "inputs", "keeping"] (sp_started P w K) := f_started T
  have F_Store_go_on : Mtb P w K mg base (C_Machine K) "go_on" 4 ["self", "limit"] (sp_Machine_go_on P w K) := f_Machine_go_on T
  have F_Store_is_done : Mtb P w K mg base (C_Machine K) "is_done" 1 ["self"] (sp_Machine_is_done P w K) := f_Machine_is_done T
  have F_Store_is_great : Mtb P w K mg base (C_Machine K) "is_great" 1 ["self"] (sp_Machine_is_great P w K) := f_Machine_is_great T
  have F_Store_result : Mtb P w K mg base (C_Machine K) "result" 3 ["self"] (sp_Machine_result P w K) := f_Machine_result T
  have F_Run : Mkb P w K mg base "Run" (C_Run K) 1 ["self", "kind", "value", "steps"] (sp_Run_init K) := mk_Run T
  refine T.d_run_program.clb sc_run_program (fun _ _ _ _ _ _ us hl => match us, hl with | [_, _, _], _ => rfl) (fun vs H Q E h => ?_) (fun f cdv A outer s H vs Q E hr h => ?_)
  · obtain ⟨_, _, _, _, _, _, _, rfl, _⟩ := h
    rfl
  · obtain ⟨pv0, inl, ivs, fns, ins, t, N, rfl, hp, hin, hA, hg, hi, hz, hN, hgo, hpt, hdt, q⟩ := h
    refine ⟨_, (pss_cons (ps_set (i := 3) sc_run_program.nd rfl (Or.inl rfl) (pe_c F_started (hr.mono (by decide)) (pa_cons (pv 0) (pa_cons (pv 1) (pa_cons pe_bl pa_nil)))))
      (pss_cons (ps_expr (pe_m (pv 3) T.cl_Machine F_Store_go_on (hr.mono (by decide)) (pa_cons (pv 2) pa_nil)))
      (pss_cons (ps_if (PW.pt (pw_and (pt_val (pe_m0 (pv 3) T.cl_Machine F_Store_is_done (hr.mono (by decide)))) (pw_and1 (pt_val (pe_m0 (pv 3) T.cl_Machine F_Store_is_great (hr.mono (by decide))))))) (pss_one (ps_ret (pe_mk F_Run (hr.mono (by decide)) (pa_cons pe_str (pa_cons pe_non (pa_cons (pe_fld (pv 3) rfl) pa_nil)))))) pss_nil)
      (pss_cons (ps_if (pt_val (pe_m0 (pv 3) T.cl_Machine F_Store_is_done (hr.mono (by decide)))) (pss_one (ps_ret (pe_mk F_Run (hr.mono (by decide)) (pa_cons pe_str (pa_cons (pe_m0 (pv 3) T.cl_Machine F_Store_result (hr.mono (by decide))) (pa_cons (pe_fld (pv 3) rfl) pa_nil)))))) pss_nil)
      (pss_one (ps_ret (pe_mk F_Run (hr.mono (by decide)) (pa_cons pe_str (pa_cons pe_non (pa_cons (pv 2) pa_nil)))))))))), ?_⟩
    refine ⟨_, rfl, _, rfl, pv0, inl, ivs, fns, ins, rfl, hp, hin, hA, hg, hi, hz, fun M S H1 k1 hM hfr hSl => ?_⟩
    obtain ⟨dx1, fs1, ho1, mf1⟩ := hM.ob
    have hfn : ∀ g ∈ fns, nodupS g.ps = true ∧ g.ps.length ≤ 20 := fun g hg2 => by
      have := fn_parts ((good_parts hg).2.2.2 g hg2)
      exact ⟨this.pnd, Nat.le_trans this.pl (by decide)⟩
    have hml : (mainEnv fns ins).length ≤ 1 := by
      cases fns with
      | nil => exact Nat.zero_le _
      | cons f r => exact Nat.le_refl _
    refine ⟨_, rfl, M.a, dx1, fs1, rfl, ho1, mf1.m_go_on, _, rfl, M, fns, S, mainEnv fns ins, [], 0, [t], N, rfl, hM, hgo, hfn, by omega, by omega, by show 0 + N ≤ _; omega, by omega, fun S2 k2 H2 kp2 hM2 pre2 hl2 => ?_⟩
    obtain ⟨dx2, fs2, ho2, mf2⟩ := hM2.ob
    have kA : Sm H H2 := Kp.late k1 kp2 (fun b hb _ => hfr b hb)
    refine ⟨_, rfl, M.a, dx2, fs2, rfl, ho2, mf2.m_is_done, M, fns, S2, [t], k2, rfl, hM2, true, rfl, iteT ?_⟩
    refine ⟨_, rfl, M.a, dx2, fs2, rfl, ho2, mf2.m_is_great, M, fns, S2, [], t, k2, rfl, hM2, hpt, hdt, false, rfl, iteF ?_⟩
    refine ⟨_, rfl, M.a, dx2, fs2, rfl, ho2, mf2.m_is_done, M, fns, S2, [t], k2, rfl, hM2, true, rfl, iteT ?_⟩
    have hft : fT t = 3 * t.parts := fT_parts t
    refine ⟨_, rfl, M.a, dx2, fs2, rfl, ho2, mf2.m_result, M, fns, S2, [], t, k2, rfl, hM2, by omega, by omega, fun v H3 k3 h3 => ?_⟩
    refine ⟨_, rfl, M.a, _, dx2, fs2, _, rfl, k3 _ _ ho2 (.inl (by simp)), T.cl_Machine, T.a_Machine_steps, mf2.f_steps, ?_⟩
    intro x dx hx hdx hne
    have k4 : Sm H3 (upd (upd H3 dx (.own x)) x (.ins (C_Run K) dx [])) := (Kp.new hdx).set hx
    refine ⟨x, dx, _, _, _, rfl, upd_same, fun fs H5 k5 h5 g1 g2 g3 => ⟨rfl, ?_⟩⟩
    have k35 : Sm H3 H5 := Kp.late k4 k5 (fun b hb _ => by rw [List.mem_singleton.mp hb]; exact hx)
    exact q x dx fs v H5 ((kA.trans k3).trans k35) h5 g1 g2 (k35.at_ h3)
end
end G
set_option maxRecDepth 100000
set_option maxHeartbeats 4000000
/-! F6a: is_instruction. -/
namespace G
open PySem PySem.Spec PyProof.Rows L2
def lenTab : List (Str × Nat) := [(wPush, 2), (wCopy, 2), (wSlide, 2), (wSame, 1), (wWord, 1), (wHead, 1), (wTail, 1), (wJoin, 1), (wCall, 2), (wIf, 3)]
theorem len_tab : tab_LENGTHS = lenTab.map fun p => (p.1, (p.2 : Int)) := rfl
theorem nodup_LENGTHS : NodupTab tab_LENGTHS := by
  unfold NodupTab tab_LENGTHS
  decide +kernel
def cs : List Str := [wCopy, wSlide]
def goodA (s : Str) (as : List T) : Bool := match lookN s lenTab with
  | some n => Nat.beq n (as.length + 1) && (!(inS s cs) || match as with
    | a :: _ => !a.isW
    | [] => false)
  | none => false
section
variable {P : Program} {w : World} {K : PySem.W.Frag} {mg : Str → Option Value} {base : Heap}
def sp_is_instruction (K : PySem.W.Frag) : Sp := fun vs H Q _ => ∃ v s as, vs = [v] ∧ At K H (.l (.w s :: as)) v ∧ goodA s as = true ∧ ∀ H', Sm H H' → Q (.bl true) H'
theorem sc_is_instruction : FnScope ["value"] ["value"] (defScope s_is_instruction) := ⟨rfl, rfl, rfl, by decide +kernel, rfl, by decide +kernel, by decide +kernel⟩
theorem f_is_instruction (T : Txt w K mg) : Clb P w K mg base "is_instruction" 1 ["value"] (sp_is_instruction K) := by
  refine T.d_is_instruction.clb sc_is_instruction (fun _ _ _ _ _ _ us hl => match us, hl with | [_], _ => rfl) (fun vs H Q E h => ?_) (fun f cdv A outer s H vs Q E hr h => ?_)
  · obtain ⟨_, _, _, rfl, _⟩ := h
    rfl
  · obtain ⟨v, s1, as, rfl, h, hg, q⟩ := h
    refine ⟨_, (pss_cons (ps_if (PW.pt (pw_or (pt_val (pe_callB call_isS (by rfl) T.n_isinstance PyProof.Rows.boot_isinstance (pa_cons (pv 0) (pa_cons (pe_bltn (v := .ty "str") rfl T.n_str PyProof.Rows.boot_str rfl) pa_nil)))) (pw_or (pt_cmpR op_eq (pe_callB call_lenT (by rfl) T.n_len PySem.boot_len (pa_cons (pv 0) pa_nil)) pe_int (nomark _)) (pw_or1 (pt_not (pt_val (pe_callB call_isS (by rfl) T.n_isinstance PyProof.Rows.boot_isinstance (pa_cons (pe_ix ix_T (pv 0) pe_int (fun _ _ => rfl)) (pa_cons (pe_bltn (v := .ty "str") rfl T.n_str PyProof.Rows.boot_str rfl) pa_nil))))))))) (pss_one (ps_ret pe_bl)) pss_nil)
      (pss_cons (ps_if (PW.pt (pw_or (pt_cmpR op_notInK (pe_ix ix_T (pv 0) pe_int (fun _ _ => rfl)) (pe_gr T.c_LENGTHS) (by rfl)) (pw_or1 (pt_cmpR op_ne (pe_ktGet (pe_gr T.c_LENGTHS) (pe_ix ix_T (pv 0) pe_int (fun _ _ => rfl)) (fun _ _ => rfl)) (pe_callB call_lenT (by rfl) T.n_len PySem.boot_len (pa_cons (pv 0) pa_nil)) (nomark _))))) (pss_one (ps_ret pe_bl)) pss_nil)
      (pss_one (ps_ret (pe_or (pe_cmpR op_notIn_seq (pe_ix ix_T (pv 0) pe_int (fun _ _ => rfl)) (pe_tupT (pa_cons pe_str (pa_cons pe_str pa_nil))) (by rfl)) (pe_one (pe_not (pe_callB call_isS (by rfl) T.n_isinstance PyProof.Rows.boot_isinstance (pa_cons (pe_ix ix_T (pv 0) pe_int (fun _ _ => rfl)) (pa_cons (pe_bltn (v := .ty "str") rfl T.n_str PyProof.Rows.boot_str rfl) pa_nil)))))))))), ?_⟩
    unfold goodA at hg
    cases hl : lookN s1 lenTab with
    | none =>
      rw [hl] at hg
      cases hg
    | some n =>
      rw [hl] at hg
      obtain ⟨h1, h2⟩ := ba2 hg
      have h1 := Nat.eq_of_beq_eq_true h1
      have hv : valV (tabK tab_LENGTHS) (Sum.inr s1) = some (.int (n : Int)) := by
        rw [len_tab, cnt_tab lenTab s1, hl]
        rfl
      refine ⟨_, rfl, v, _, rfl, h, false, rfl, iteF ?_⟩
      refine ⟨_, rfl, _, _, rfl, h, rfl, false, ?_, iteF ?_⟩
      · refine congrArg V.bl (decide_eq_false fun z => ?_)
        have := V.int.inj z
        rw [List.length_cons] at this
        omega
      refine ⟨_, rfl, _, 0, _, h, rfl, rfl, fun v1 g1 => ⟨_, _, rfl, g1, true, rfl, iteF ?_⟩⟩
      refine ⟨_, rfl, _, 0, _, h, rfl, rfl, fun v1 g1 => ?_⟩
      obtain rfl := at_w g1
      refine fun a ha => ⟨a, tab_LENGTHS, s1, rfl, rfl, ha, nodup_LENGTHS, false, by rw [hv] <;> rfl, iteF ?_⟩
      refine fun a ha => ⟨_, rfl, _, 0, _, h, rfl, rfl, fun v1 g1 => ?_⟩
      obtain rfl := at_w g1
      refine ⟨a, tab_LENGTHS, s1, _, rfl, rfl, ha, nodup_LENGTHS, hv, _, rfl, _, _, rfl, h, rfl, false, ?_, iteF ?_⟩
      · rw [List.length_cons, h1]
        simp
      refine ⟨_, rfl, _, 0, _, h, rfl, rfl, fun v1 g1 => ?_⟩
      obtain rfl := at_w g1
      refine ⟨[.w wCopy, .w wSlide], aa_cons (by rw [lit_copy]; exact at_wi) (aa_cons (by rw [lit_slide]; exact at_wi) aa_nil), zle (Nat.le_of_ble_eq_true rfl), fun p2 H2 k2 g2 => ?_⟩
      obtain ⟨p2', xs2, e2, hX2, hA2⟩ := id g2
      cases e2
      obtain rfl := aa_words (ss := cs) hA2
      refine ⟨p2, _, rfl, .inr hX2.sq, rfl, flatV_strs cs, ?_⟩
      have e3 : inV (V.str s1) (cs.map V.str) = inS s1 cs := inV_strs s1 cs
      cases hc : inS s1 cs with
      | false =>
        refine ⟨true, by rw [e3, hc] <;> rfl, iteT ?_⟩
        exact q H2 k2
      | true =>
        refine ⟨false, by rw [e3, hc] <;> rfl, iteF ?_⟩
        rw [hc] at h2
        cases as with
        | nil => cases h2
        | cons a0 as =>
          refine ⟨_, rfl, _, 1, _, k2.at_ h, rfl, rfl, fun v1 g1 => ⟨_, _, rfl, g1, ?_⟩⟩
          have h3 : a0.isW = false := by
            have h2 : (!a0.isW) = true := h2
            cases z : a0.isW with
            | false => rfl
            | true =>
              rw [z] at h2
              cases h2
          refine ⟨a0.isW, rfl, ?_⟩
          rw [h3]
          exact q H2 k2
end
end G
set_option maxRecDepth 100000
set_option maxHeartbeats 4000000
/-! F6b: Names(..). -/
namespace G
open PySem PySem.Spec PyProof.Rows L2
/-- a dict comprehension over it -/
theorem dc_it {J : It} {n : Nat} {G : Hp → Prop} {Y : Nat → Hp → V → Hp → Prop} (w : Walk J n G Y) {g : TG} {tt : TT} {tk tv : TE} {vs : List Nat} {σ : L2.St} {H1 : Hp} {D : Addr} {Qd : Hp → Prop} (Pv : Nat → Hp → Prop) (h0 : Pv 0 (upd H1 D (.dK []))) (hG : ∀ i H, i ≤ n → Pv i H → G H)
    (hs : ∀ i x H H', i < n → Pv i H → Y i H x H' → g x (wipe σ vs) H' fun σ2 H2 => wipe σ2 vs = wipe σ vs ∧ tt σ2 H2 fun b H3 =>
      if b = true then tk σ2 H3 fun y H4 => tv σ2 H4 fun z H5 => ∃ kvs k, y = kV k ∧ H5 D = some (.dK kvs) ∧ kvs.length < sizeLine ∧ Pv (i + 1) (upd H5 D (.dK (putK kvs k z))) else Pv (i + 1) H3) (hd : ∀ H, Pv n H → Qd H) :
    ∃ W : Nat → Nat → Hp → Prop, (∃ m, W 0 m (upd H1 D (.dK []))) ∧ ∀ i m H, W i m H →
      (J.stop i H ∧ Qd H) ∨ (J.go i H ∧ ∃ Nx : Hp → Prop, (∀ H', Nx H' → ∃ m', m' < m ∧ W (i + 1) m' H') ∧ ∀ x H', J.yld i H x H' → g x (wipe σ vs) H' fun σ2 H2 => wipe σ2 vs = wipe σ vs ∧ tt σ2 H2 fun b H3 =>
        if b = true then tk σ2 H3 fun y H4 => tv σ2 H4 fun z H5 => ∃ kvs k, y = kV k ∧ H5 D = some (.dK kvs) ∧ kvs.length < sizeLine ∧ Nx (upd H5 D (.dK (putK kvs k z))) else Nx H3) := by
  refine ⟨fun i m H => m = n - i ∧ i ≤ n ∧ Pv i H, ⟨n, by simp, Nat.zero_le _, h0⟩, ?_⟩
  rintro i m H ⟨rfl, hi, p⟩
  have q := hG i H hi p
  by_cases hlt : i < n
  · exact .inr ⟨w.goes i H hlt q, Pv (i + 1), fun H' p' => ⟨n - (i + 1), by omega, rfl, hlt, p'⟩, fun x H' y => hs i x H H' hlt p (w.yields i H x H' hlt q y)⟩
  · have e : i = n := by omega
    subst e
    exact .inl ⟨w.stops H q, hd H p⟩
/-- the tree of a routine -/
def rtT (r : T × List T) : T := .l (r.1 :: r.2)
structure NA where
  a : Addr
  st : SA
  kq : Addr
  dq : Addr
structure NmF (N : NA) (fs : List (Str × V)) : Prop where
  f_store : fs.lookup ("store" : Str) = some (.ref N.st.a)
  f_kept : fs.lookup ("kept" : Str) = some (.ref N.kq)
  f_known : fs.lookup ("known" : Str) = some (.ref N.dq)
  m_is_right : fs.lookup ("is_right" : Str) = none
structure NamesAt (P : Program) (w : World) (K : PySem.W.Frag) (H : Hp) (N : NA) (names : List T) (S : List T) : Prop where
  ob : ∃ dx fs, H N.a = some (.ins (C_Names K) dx fs) ∧ NmF N fs
  st : StoreAt P w K H N.st S
  k : ∃ us, H N.kq = some (.lst us) ∧ A2 (NumT S) names us
  d : ∃ kvs, H N.dq = some (.dK kvs) ∧ ∀ (n : Nat) t, t ∈ names → S[n]? = some t → (valV kvs (Sum.inl (n : Int))).isSome = true
  ne : N.a ∉ N.st.F ∧ N.kq ∉ N.st.F ∧ N.dq ∉ N.st.F
section
variable {P : Program} {w : World} {K : PySem.W.Frag} {mg : Str → Option Value} {base : Heap}
theorem NamesAt.store {H H' : Hp} {N : NA} {names S S' : List T} (h : NamesAt P w K H N names S) (kp : Kp N.st.F H H') (p : S <+: S') (hS : StoreAt P w K H' N.st S') : NamesAt P w K H' N names S' := by
  obtain ⟨dx, fs, o1, o2⟩ := h.ob
  obtain ⟨us, u1, u2⟩ := h.k
  obtain ⟨kvs, d1, d2⟩ := h.d
  obtain ⟨n1, n2, n3⟩ := h.ne
  refine ⟨⟨dx, fs, kp.keep o1 n1, o2⟩, hS, ⟨us, kp.keep u1 n2, u2.mono (NumT.mono p)⟩, ⟨kvs, kp.keep d1 n3, fun n t ht hn => ?_⟩, h.ne⟩
  obtain ⟨i, hi⟩ := List.mem_iff_getElem?.mp ht
  obtain ⟨v, _, m, _, hm⟩ := u2.get hi
  obtain ⟨e, k, hB⟩ := hS
  have : n = m := hB.nd n m t hn (pre_get p hm)
  subst this
  exact d2 n t ht hm
def sp_Names_init (P : Program) (w : World) (K : PySem.W.Frag) : Sp := fun vs H Q _ => ∃ x dx v, ∃ rs : List (T × List T), vs = [.ref x, v] ∧ H x = some (.ins (C_Names K) dx []) ∧ At K H (.l (rs.map rtT)) v ∧ 10 + cTs (rs.map (·.1)) ≤ 3000000 ∧
  ∀ N S H', N.a = x → Kp [x] H H' → (∀ b ∈ N.kq :: N.dq :: N.st.F, H b = none) → NamesAt P w K H' N (rs.map (·.1)) S → S.length ≤ 10 + cTs (rs.map (·.1)) → Q .non H'
theorem sc_Names_init : FnScope ["self", "value", "one", "number"] ["self", "value"] (defScope s_Names_init) := ⟨rfl, rfl, rfl, by decide +kernel, rfl, by decide +kernel, by decide +kernel⟩
theorem mk_Names (T : Txt w K mg) : Mkb P w K mg base "Names" (C_Names K) 3 ["self", "value"] (sp_Names_init P w K) := by
  have F_Store : Mkb P w K mg base "Store" (C_Store K) 1 ["self"] (sp_Store_init P w K) := mk_Store T
  have F_Store_put : Mtb P w K mg base (C_Store K) "put" 2 ["self", "value"] (sp_Store_put P w K) := f_Store_put T
  refine T.d_Names_init.mkb T.g_Names sc_Names_init (fun _ _ _ _ _ _ us hl => match us, hl with | [_, _], _ => rfl) (fun vs H Q E h => ?_) (fun f cdv A outer s H vs Q E hr h => ?_)
  · obtain ⟨_, _, _, _, rfl, _⟩ := h
    rfl
  · obtain ⟨x, dx, v, rs, rfl, hx, hv, hz, q⟩ := h
    refine ⟨_, (pss_cons (ps_fld (pv 0) (pe_mk0 F_Store (hr.mono (by decide))) rfl)
      (pss_cons (ps_fld (pv 0) (pe_lc (own := [("one", 2)]) rfl sc_Names_init.nd (pi_tup (pv 1)) (blkOk_by (N := ["self", "value", "one", "number"]) (sc := defScope s_Names_init) (by decide +kernel)) (fun _ _ _ _ _ => (pg_name (i := 2) sc_Names_init.nd rfl (Or.inl rfl))) (fun _ _ _ _ _ => pts_nil) (fun _ _ _ _ _ => (pe_K (te := fun K => tIf (tOr (tB (tCB (rIsS K) (tCons (tVar 2) (tCons (tC (.ty "str")) tNil)))) (tTest (tOp rEq (tCB (rLenT K) (tCons (tVar 2) tNil)) (tC (.int 0))))) (tC .non) (tMeth (C_Store K) "put" (sp_Store_put P w K) [] E0 (tFld K (tVar 0) "store") (tCons (tOp (rIxTr K) (tVar 2) (tC (.int 0))) tNil))) K rfl <| pe_ifExp (PW.pt (pw_or (pt_val (pe_callB call_isS (by rfl) T.n_isinstance PyProof.Rows.boot_isinstance (pa_cons (pv 2) (pa_cons (pe_bltn (v := .ty "str") rfl T.n_str PyProof.Rows.boot_str rfl) pa_nil)))) (pw_or1 (pt_cmpR op_eq (pe_callB call_lenT (by rfl) T.n_len PySem.boot_len (pa_cons (pv 2) pa_nil)) pe_int (nomark _))))) pe_non (pe_m (pe_fld (pv 0) rfl) T.cl_Store F_Store_put (hr.mono (by decide)) (pa_cons (pe_ix ix_T (pv 2) pe_int (fun _ _ => rfl)) pa_nil))))) rfl)
      (pss_one (ps_fld (pv 0) (pe_dc (own := [("number", 3)]) rfl sc_Names_init.nd (pi_list (pe_fld (pv 0) rfl)) (blkOk_by (N := ["self", "value", "one", "number"]) (sc := defScope s_Names_init) (by decide +kernel)) (fun _ _ _ _ _ => (pg_name (i := 3) sc_Names_init.nd rfl (Or.inl rfl))) (fun _ _ _ _ _ => (pts_one (pt_cmpR op_notN (pv 3) pe_non (nomark _)))) (fun _ _ _ _ _ => (pv 3)) (fun _ _ _ _ _ => pe_bl)) rfl)))), ?_⟩
    -- the store
    intro xs dxs hxs hdxs hne
    have k0 : Sm H (upd (upd H dxs (.own xs)) xs (.ins (C_Store K) dxs [])) := (Kp.new hdxs).set hxs
    refine ⟨xs, dxs, rfl, upd_same, fun A0 H1 ha k1 hnew hS1 => ⟨rfl, ?_⟩⟩
    have kA1 : Sm H H1 := Kp.late k0 k1 (fun b hb _ => by rw [List.mem_singleton.mp hb]; exact hxs)
    have fA : ∀ b ∈ A0.F, H b = none := fun b hb => k0.none (hnew b hb)
    have fa0 : H A0.a = none := by rw [ha]; exact hxs
    have xA : x ≠ A0.a := by
      rintro rfl
      rw [hx] at fa0
      cases fa0
    have xF : x ∉ A0.F := fun z => by
      have := fA x z
      rw [hx] at this
      cases this
    have stx : ∀ {Ha Hb : Hp} {S : List G.T}, StoreAt P w K Ha A0 S → Kp [x] Ha Hb → StoreAt P w K Hb A0 S := fun hS kp => hS.kp kp (fun b hb => by rw [List.mem_singleton.mp hb]; exact ⟨xA, xF⟩)
    have hx1 := kA1 _ _ hx (.inl (by simp))
    refine ⟨_, rfl, x, _, dx, [], rfl, hx1, T.cl_Names, T.a_Names_store, (Nat.le_of_ble_eq_true rfl), ?_⟩
    obtain ⟨F1, hF1⟩ : ∃ F1, F1 = putF ("store" : Str) (V.ref xs) [] := ⟨_, rfl⟩
    rw [← hF1]
    have kB1 : Kp [x] H1 (upd H1 x (.ins (C_Names K) dx F1)) := Kp.ins (by simp) hx1
    have hx2 : (upd H1 x (.ins (C_Names K) dx F1)) x = some (.ins (C_Names K) dx F1) := upd_same
    have kA2 := kA1.nil.trans kB1
    have hS2 := stx hS1 kB1
    generalize upd H1 x (.ins (C_Names K) dx F1) = H2 at hx2 kA2 hS2 ⊢
    have l2 : F1.lookup ("store" : Str) = some (.ref A0.a) := by rw [hF1, ha]; rfl
    -- kept
    obtain ⟨pv1, vxs, rfl, hXv, hAv⟩ := id (kA2.at_ hv)
    have hvl : vxs.length = rs.length := by rw [aa_len hAv, List.length_map]
    refine ⟨_, rfl, pv1, rfl, ⟨vxs, hXv.sq⟩, fun D hD => lc_y walk_tup (fun i H' => ∃ acc S', Kp A0.F H2 H' ∧ StoreAt P w K H' A0 S' ∧ [.l []] <+: S' ∧ S'.length ≤ 1 + cTs ((rs.take i).map (·.1)) ∧ H' D = some (.lst acc) ∧ A2 (NumT S') ((rs.take i).map (·.1)) acc) ⟨[], [.l []], (Kp.new hD : Sm H2 _).nil, hS2.sm (Kp.new hD), List.prefix_refl _, Nat.le_refl _, upd_same, rfl⟩ (fun i H' _ ⟨_, _, k, _⟩ => (k.xt hXv).sq) ?_ ?_⟩
    · rintro i xv Hb Hc hii ⟨acc, S9, k19, hS19, p19, hl19, hacc, aacc⟩ ⟨rfl, hxi⟩
      obtain ⟨t, ht, hAt⟩ := aa_at hAv hxi
      rw [List.getElem?_map] at ht
      obtain ⟨r, hr1, rfl⟩ : ∃ r, rs[i]? = some r ∧ t = rtT r := by
        cases z : rs[i]? with
        | none =>
          rw [z] at ht
          cases ht
        | some r =>
          rw [z] at ht
          cases ht
          exact ⟨r, rfl, rfl⟩
      have hAt := k19.at_ hAt
      obtain ⟨ents19, ks19, hB19⟩ := id hS19
      obtain ⟨dxs19, fss19, hos19, _, _, _, _, nm19⟩ := hB19.ob
      have e9 : (rs.take (i + 1)).map (·.1) = (rs.take i).map (·.1) ++ [r.1] := by
        rw [List.take_add_one, hr1, List.map_append]
        rfl
      have hcs : cTs ((rs.take (i + 1)).map (·.1)) = cTs ((rs.take i).map (·.1)) + (cT r.1 + 1) := by
        rw [e9, cTs_app]
        rfl
      have hcl : cTs ((rs.take (i + 1)).map (·.1)) ≤ cTs (rs.map (·.1)) := by
        conv => rhs; rw [← List.take_append_drop (i + 1) rs, List.map_append]
        rw [cTs_app]
        omega
      have hDF := (hS2.fresh hD).2
      have hal := aacc.len
      have hlt := cTs_len ((rs.take i).map (·.1))
      refine ⟨rfl, _, rfl, _, rtT r, rfl, hAt, false, rfl, iteF ?_⟩
      refine ⟨_, rfl, _, _, rfl, hAt, rfl, false, ?_, iteF ?_⟩
      · refine congrArg V.bl (decide_eq_false fun z => ?_)
        have := V.int.inj z
        rw [List.length_cons] at this
        omega
      refine ⟨_, rfl, x, _, dx, F1, _, rfl, k19.keep hx2 xF, T.cl_Names, T.a_Names_store, l2, A0.a, dxs19, fss19, rfl, hos19, nm19.m_put, _, rfl, _, 0, _, hAt, rfl, rfl, fun v1 h1 => ⟨A0, S9, r.1, v1, rfl, hS19, h1, by omega, fun S10 n10 H20 k20 hS20 p20 hl20 hn20 => ?_⟩⟩
      have hacc20 := k20.keep hacc hDF
      have k21 : Kp [D] H20 (upd H20 D (.lst (acc ++ [.int (n10 : Int)]))) := Kp.own hacc20
      refine ⟨acc, hacc20, by rw [sizeLine_eq]; omega, _, S10, (k19.trans k20).set hD, hS20.upd hS2 hD k21, p19.trans p20, by omega, upd_same, ?_⟩
      rw [e9]
      exact (aacc.mono (NumT.mono p20)).app (A2.one ⟨n10, rfl, hn20⟩)
    rintro H3 ⟨us, S3, k3, hS3, p3, hl3, hus, aus⟩
    rw [hvl, List.take_length] at aus hl3
    have hx3 := k3.keep hx2 xF
    have kA3 : Kp [x] H H3 := Kp.late kA2 k3 (fun b hb _ => fA b hb)
    have Dx : D ≠ x := by
      rintro rfl
      rw [hx2] at hD
      cases hD
    have fD : H D = none := kA2.free (by simp [Dx]) hD
    have DF := (hS2.fresh hD).2
    refine ⟨_, rfl, x, _, dx, F1, rfl, hx3, T.cl_Names, T.a_Names_kept, by rw [hF1]; exact (Nat.le_of_ble_eq_true rfl), ?_⟩
    obtain ⟨F2, hF2⟩ : ∃ F', F' = putF ("kept" : Str) (V.ref D) F1 := ⟨_, rfl⟩
    rw [← hF2]
    have kB3 : Kp [x] H3 (upd H3 x (.ins (C_Names K) dx F2)) := Kp.ins (by simp) hx3
    have hx4 : (upd H3 x (.ins (C_Names K) dx F2)) x = some (.ins (C_Names K) dx F2) := upd_same
    have kA4 := kA3.trans kB3
    have hS4 := stx hS3 kB3
    have hus4 := kB3.keep hus (by simp [Dx])
    generalize upd H3 x (.ins (C_Names K) dx F2) = H4 at hx4 kA4 hS4 hus4 ⊢
    rw [hF1] at hF2
    have l4 : F2.lookup ("kept" : Str) = some (.ref D) := by rw [hF2]; rfl
    have hul := aus.len
    rw [List.length_map] at hul
    have hrl := cTs_len (rs.map (·.1))
    rw [List.length_map] at hrl
    -- known
    refine ⟨_, rfl, x, _, dx, F2, _, rfl, hx4, T.cl_Names, T.a_Names_kept, l4, D, rfl, ⟨us, sq_lst hus4⟩, fun E hE => dc_it walk_list (fun i H' => Sm H4 H' ∧ ∃ kvs, H' E = some (.dK kvs) ∧ kvs.length ≤ i ∧ ∀ (j n : Nat), j < i → us[j]? = some (.int (n : Int)) → (valV kvs (Sum.inl (n : Int))).isSome = true) ⟨Kp.new hE, [], upd_same, Nat.le_refl _, fun j n hj => absurd hj (Nat.not_lt_zero j)⟩ (fun i H' _ ⟨k, _⟩ => sq_lst (k _ _ hus4 (.inl (by simp)))) ?_ ?_⟩
    · rintro i xv Hb Hc hii ⟨k5, kvs, hkv, hkl, hall⟩ ⟨rfl, hxi⟩
      obtain ⟨t, ht, n, rfl, hn⟩ := aus.at_ hxi
      refine ⟨rfl, _, rfl, rfl, true, rfl, iteT ⟨_, rfl, kvs, Sum.inl (n : Int), rfl, hkv, by rw [sizeLine_eq]; omega, k5.set hE, _, upd_same, Nat.le_trans (length_putK _ _ _) (by omega), fun j m hj hm => ?_⟩⟩
      rw [valV_put]
      by_cases e : (Sum.inl (m : Int) : Key) = Sum.inl (n : Int)
      · rw [if_pos e]
        rfl
      · rw [if_neg e]
        have hji : j ≠ i := by
          rintro rfl
          rw [hxi] at hm
          have := V.int.inj (Option.some.inj hm)
          exact e (by rw [this])
        exact hall j m (by omega) hm
    rintro H5 ⟨k5, kvs, hkv, hkl, hall⟩
    have hx5 := k5 _ _ hx4 (.inl (by simp))
    have Ex : E ≠ x := by
      rintro rfl
      rw [hx4] at hE
      cases hE
    have fE : H E = none := kA4.free (by simp [Ex]) hE
    have EF := (hS4.fresh hE).2
    refine ⟨_, rfl, x, _, dx, F2, rfl, hx5, T.cl_Names, T.a_Names_known, by rw [hF2]; exact (Nat.le_of_ble_eq_true rfl), ?_⟩
    have kB5 : Kp [x] H5 (upd H5 x (.ins (C_Names K) dx (putF ("known" : Str) (V.ref E) F2))) := Kp.ins (by simp) hx5
    refine q ⟨x, A0, D, E⟩ S3 _ rfl ((kA4.trans k5.nil).trans kB5) (fun b hb => ?_) ⟨⟨dx, _, upd_same, ?_⟩, stx (hS4.sm k5) kB5, ⟨us, kB5.keep (k5 _ _ hus4 (.inl (by simp))) (by simp [Dx]), aus⟩, ⟨kvs, kB5.keep hkv (by simp [Ex]), fun n t ht hn => ?_⟩, xF, DF, EF⟩ (by omega)
    · rcases List.mem_cons.mp hb with rfl | hb
      · exact fD
      · rcases List.mem_cons.mp hb with rfl | hb
        · exact fE
        · exact fA b hb
    · rw [hF2]
      exact ⟨by rw [ha]; rfl, rfl, rfl, rfl⟩
    · obtain ⟨i, hi⟩ := List.mem_iff_getElem?.mp ht
      obtain ⟨v, hv1, m, rfl, hm⟩ := aus.get hi
      obtain ⟨e, k, hB⟩ := hS3
      have : n = m := hB.nd n m t hn hm
      subst this
      have hil := (List.getElem?_eq_some_iff.mp hv1).1
      exact hall i n hil hv1
end
end G
set_option maxRecDepth 100000
set_option maxHeartbeats 4000000
/-! F6c: Names.is_right, check_machine. -/
namespace G
open PySem PySem.Spec PyProof.Rows L2
def ci : List Str := [wCall, wIf]
def goodIns (names : List T) (t : T) : Bool := match t with
  | .l (.w s :: as) => goodA s as && (!(inS s ci) || as.all fun a => names.any fun n => T.beq n a)
  | _ => false
theorem goodIns_at {names : List T} {t : T} (h : goodIns names t = true) : ∃ s as, t = .l (.w s :: as) ∧ goodA s as = true ∧ (inS s ci = true → ∀ a ∈ as, a ∈ names) := by
  match t, h with
  | .l (.w s :: as), h =>
    obtain ⟨h1, h2⟩ := ba2 h
    refine ⟨s, as, rfl, h1, fun hs a ha => ?_⟩
    rw [hs] at h2
    have h3 : (as.all fun a => names.any fun n => T.beq n a) = true := h2
    obtain ⟨n, hn, e⟩ := List.any_eq_true.mp (List.all_eq_true.mp h3 a ha)
    rw [← T.beq_eq n a e]
    exact hn
def nodupT : List T → Bool
  | [] => true
  | x :: r => !(r.any fun y => T.beq x y) && nodupT r
theorem nodupT_at : ∀ {l : List T} {i j : Nat} {t : T}, nodupT l = true → l[i]? = some t → l[j]? = some t → i = j
  | [], i, j, t, _, h, _ => by cases h
  | x :: r, 0, 0, t, _, _, _ => rfl
  | x :: r, 0, j + 1, t, hn, h, h' => by
    obtain ⟨h1, h2⟩ := ba2 (show (!(r.any fun y => T.beq x y) && nodupT r) = true from hn)
    have e : x = t := Option.some.inj h
    subst e
    have : (r.any fun y => T.beq x y) = true := List.any_eq_true.mpr ⟨x, List.mem_of_getElem? (show r[j]? = some x from h'), T.beq_self x⟩
    rw [this] at h1
    cases h1
  | x :: r, i + 1, 0, t, hn, h, h' => by
    obtain ⟨h1, h2⟩ := ba2 (show (!(r.any fun y => T.beq x y) && nodupT r) = true from hn)
    have e : x = t := Option.some.inj h'
    subst e
    have : (r.any fun y => T.beq x y) = true := List.any_eq_true.mpr ⟨x, List.mem_of_getElem? (show r[i]? = some x from h), T.beq_self x⟩
    rw [this] at h1
    cases h1
  | x :: r, i + 1, j + 1, t, hn, h, h' => by
    obtain ⟨h1, h2⟩ := ba2 (show (!(r.any fun y => T.beq x y) && nodupT r) = true from hn)
    rw [nodupT_at h2 (show r[i]? = some t from h) (show r[j]? = some t from h')]
theorem inV_int {m : Int} {us : List V} (h : ∀ y ∈ us, ∃ a : Int, y = .int a ∧ a ≠ m) : inV (.int m) us = false := by
  unfold inV
  cases z : us.any fun y => eqV y (.int m) with
  | false => rfl
  | true =>
    obtain ⟨y, hy, e⟩ := List.any_eq_true.mp z
    obtain ⟨a, rfl, ha⟩ := h y hy
    exact absurd (by simpa [eqV] using e) ha
section
variable {P : Program} {w : World} {K : PySem.W.Frag} {mg : Str → Option Value} {base : Heap}
def sp_Names_is_right (P : Program) (w : World) (K : PySem.W.Frag) : Sp := fun vs H Q _ => ∃ N names S v nm is, ∃ i : Nat, vs = [.ref (NA.a N), .int (i : Int), v] ∧ NamesAt P w K H N names S ∧ At K H (rtT (nm, is)) v ∧ names[i]? = some nm ∧ nodupT names = true ∧ (∀ t ∈ is, goodIns names t = true) ∧ S.length + cTs is ≤ 6000000 ∧
  ∀ S' H', Kp N.st.F H H' → NamesAt P w K H' N names S' → S <+: S' → S'.length ≤ S.length + cTs is → Q (.bl true) H'
theorem sc_Names_is_right : FnScope ["self", "at", "routine", "instruction", "name"] ["self", "at", "routine"] (defScope s_Names_is_right) := ⟨rfl, rfl, rfl, by decide +kernel, rfl, by decide +kernel, by decide +kernel⟩
theorem f_Names_is_right (T : Txt w K mg) : Mtb P w K mg base (C_Names K) "is_right" 3 ["self", "at", "routine"] (sp_Names_is_right P w K) := by
  have F_is_instruction : Clb P w K mg base "is_instruction" 1 ["value"] (sp_is_instruction K) := f_is_instruction T
  have F_Store_put : Mtb P w K mg base (C_Store K) "put" 2 ["self", "value"] (sp_Store_put P w K) := f_Store_put T
  refine T.d_Names_is_right.mtb sc_Names_is_right (fun _ _ _ _ _ _ us hl => match us, hl with | [_, _, _], _ => rfl) (fun vs H Q E h => ?_) (fun f cdv A outer s H vs Q E hr h => ?_)
  · obtain ⟨_, _, _, _, _, _, _, rfl, _⟩ := h
    rfl
  · obtain ⟨N, names, S, v, nm, is, i, rfl, hN, hv, hi, hnd, hgood, hz, q⟩ := h
    have hu := hu_of hr
    refine ⟨_, (pss_cons (ps_if (PW.pt (pw_or (pt_val (pe_callB call_isS (by rfl) T.n_isinstance PyProof.Rows.boot_isinstance (pa_cons (pv 2) (pa_cons (pe_bltn (v := .ty "str") rfl T.n_str PyProof.Rows.boot_str rfl) pa_nil)))) (pw_or (pt_cmpR op_eq (pe_callB call_lenT (by rfl) T.n_len PySem.boot_len (pa_cons (pv 2) pa_nil)) pe_int (nomark _)) (pw_or1 (pt_cmpR op_in_seq (pe_ix ix_list (pe_fld (pv 0) rfl) (pv 1) (fun _ _ => rfl)) (pe_slice sl_list (pe_fld (pv 0) rfl) po_none (po_some (pv 1))) (by rfl)))))) (pss_one (ps_ret pe_bl)) pss_nil)
      (pss_cons (ps_for PassesOwn.never rfl (pi_tup (pe_slice sl_T (pv 2) (po_some pe_int) po_none)) (pg_name (i := 3) sc_Names_is_right.nd rfl (Or.inl rfl)) (pss_cons (ps_if (pt_not (pt_val (pe_c F_is_instruction (hr.mono (by decide)) (pa_cons (pv 3) pa_nil)))) (pss_one (ps_ret pe_bl)) pss_nil)
      (pss_one (ps_if (pt_cmpR op_in_seq (pe_ix ix_T (pv 3) pe_int (fun _ _ => rfl)) (pe_tupT (pa_cons pe_str (pa_cons pe_str pa_nil))) (by rfl)) (pss_one (ps_for PassesOwn.never rfl (pi_tup (pe_slice sl_T (pv 3) (po_some pe_int) po_none)) (pg_name (i := 4) sc_Names_is_right.nd rfl (Or.inl rfl)) (pss_one (ps_if (pt_cmp (pc_dnotin hu (pe_m (pe_fld (pv 0) rfl) T.cl_Store F_Store_put (hr.mono (by decide)) (pa_cons (pv 4) pa_nil)) (pe_fld (pv 0) rfl))) (pss_one (ps_ret pe_bl)) pss_nil)))) pss_nil))))
      (pss_one (ps_ret pe_bl)))), ?_⟩
    obtain ⟨dx, fs, ho, nf⟩ := hN.ob
    obtain ⟨us, hus, aus⟩ := hN.k
    obtain ⟨vi, hvi, m, rfl, hm⟩ := aus.get hi
    obtain ⟨e0, k0, hB0⟩ := id hN.st
    refine ⟨_, rfl, v, _, rfl, hv, false, rfl, iteF ?_⟩
    refine ⟨_, rfl, _, _, rfl, hv, rfl, false, ?_, iteF ?_⟩
    · refine congrArg V.bl (decide_eq_false fun z => ?_)
      have := V.int.inj z
      rw [List.length_cons] at this
      omega
    have hil := (List.getElem?_eq_some_iff.mp hvi).1
    refine ⟨_, rfl, N.a, _, dx, fs, _, rfl, ho, T.cl_Names, T.a_Names_kept, nf.f_kept, _, rfl, N.kq, us, (i : Int), _, rfl, rfl, sq_lst hus, atI_nat hvi, ?_⟩
    refine ⟨_, rfl, N.a, _, dx, fs, _, rfl, ho, T.cl_Names, T.a_Names_kept, nf.f_kept, _, rfl, _, rfl, N.kq, us, rfl, sq_lst hus, fun p hp => ?_⟩
    have hcut : cutV us none (some (i : Int)) = us.take i := by
      unfold cutV
      rw [HT.sIx_nat, HT.sIx_none, Nat.min_eq_left (by omega)]
      simp
    rw [hcut]
    have k1 : Sm H (upd H p (.lst (us.take i))) := Kp.new hp
    have hN1 := hN.store k1.nil (List.prefix_refl _) (hN.st.sm k1)
    have hint : ∀ y ∈ us.take i, ∃ a : Int, y = .int a ∧ a ≠ (m : Int) := fun y hy => by
      obtain ⟨j, hj⟩ := List.mem_iff_getElem?.mp hy
      rw [List.getElem?_take] at hj
      split at hj
      · rename_i hji
        obtain ⟨t, ht, m2, rfl, hm2⟩ := aus.at_ hj
        refine ⟨_, rfl, fun z => ?_⟩
        have : m2 = m := by omega
        subst this
        rw [hm] at hm2
        cases hm2
        have := nodupT_at hnd ht hi
        omega
      · cases hj
    refine ⟨p, us.take i, rfl, .inl (sq_lst upd_same), rfl, List.all_eq_true.mpr (fun y hy => by obtain ⟨a, rfl, _⟩ := hint y hy; rfl), false, ?_, iteF ?_⟩
    · rw [inV_int hint]
      rfl
    have hv1 := k1.at_ hv
    generalize upd H p (.lst (us.take i)) = H1 at k1 hN1 hv1 ⊢
    refine ⟨_, rfl, _, rfl, _, hv1, .inl ⟨1, rfl, rfl, Nat.le_refl 1, by rw [List.length_cons]; omega, fun p2 H2 k2 h2 => ?_⟩⟩
    have h2 : At K H2 (.l is) (.ref p2) := h2
    obtain ⟨p2', xs2, e2, hX2, hA2⟩ := id h2
    cases e2
    have hxl : xs2.length = is.length := aa_len hA2
    have hN2 := hN1.store k2.nil (List.prefix_refl _) (hN1.st.sm k2)
    have kA2 : Kp N.st.F H H2 := (k1.trans k2).nil
    refine ⟨p2, rfl, ⟨xs2, hX2.sq⟩, for_tup (K := K) (a := p2) (xs := xs2) (fun j σ H' => ∃ v3 v4 S', σ = [some (.ref N.a), some (.int (i : Int)), some v, v3, v4] ∧ Kp N.st.F H H' ∧ Kp N.st.F H2 H' ∧ NamesAt P w K H' N names S' ∧ S <+: S' ∧ S'.length ≤ S.length + cTs (is.take j)) ⟨none, none, S, rfl, kA2, Kp.refl, hN2, List.prefix_refl _, Nat.le_add_right _ _⟩ (fun j σ H' _ ⟨_, _, _, _, _, k, _⟩ => (k.xt hX2).sq) ?_ ?_⟩
    · rintro j xv σ Ha hj ⟨v3, v4, S1, rfl, kA, kB, hNa, pS, hl⟩
      obtain ⟨t, ht, hAt⟩ := aa_at hA2 hj
      have hAt := kB.at_ hAt
      obtain ⟨s1, as, rfl, hga, hnames⟩ := goodIns_at (hgood t (List.mem_of_getElem? ht))
      have hcs : cTs (is.take (j + 1)) = cTs (is.take j) + (cT (.l (.w s1 :: as)) + 1) := by
        have e9 : is.take (j + 1) = is.take j ++ [.l (.w s1 :: as)] := by
          rw [List.take_add_one, ht]
          rfl
        rw [e9, cTs_app]
        rfl
      have hct : cT (.l (.w s1 :: as)) = 5 + cTs as := by
        show 2 + (2 + 1 + cTs as) = _
        omega
      have hcl : cTs (is.take (j + 1)) ≤ cTs is := by
        conv => rhs; rw [← List.take_append_drop (j + 1) is]
        rw [cTs_app]
        omega
      refine ⟨_, rfl, xv, s1, as, rfl, hAt, hga, fun H3 k3 => ⟨true, rfl, iteF ?_⟩⟩
      have hN3 := hNa.store k3.nil (List.prefix_refl _) (hNa.st.sm k3)
      have hAt3 := k3.at_ hAt
      refine ⟨_, rfl, _, 0, _, hAt3, rfl, rfl, fun v1 g1 => ?_⟩
      obtain rfl := at_w g1
      refine ⟨[.w wCall, .w wIf], aa_cons (by rw [lit_call]; exact at_wi) (aa_cons (by rw [lit_if2]; exact at_wi) aa_nil), zle (Nat.le_of_ble_eq_true rfl), fun p4 H4 k4 g4 => ?_⟩
      obtain ⟨p4', xs4, e4, hX4, hA4⟩ := id g4
      cases e4
      obtain rfl := aa_words (ss := ci) hA4
      have hN4 := hN3.store k4.nil (List.prefix_refl _) (hN3.st.sm k4)
      have k34 := k3.trans k4
      refine ⟨p4, _, rfl, .inr hX4.sq, rfl, flatV_strs ci, _, rfl, ?_⟩
      have e3 : inV (V.str s1) (ci.map V.str) = inS s1 ci := inV_strs s1 ci
      rw [show (if false = true then !inV (V.str s1) (ci.map V.str) else inV (V.str s1) (ci.map V.str)) = inS s1 ci from e3]
      cases hc : inS s1 ci with
      | false => exact iteF ⟨_, _, S1, rfl, kA.trans k34.nil, kB.trans k34.nil, hN4, pS, by omega⟩
      | true =>
        have hin := hnames hc
        refine iteT ⟨_, rfl, _, rfl, _, k4.at_ hAt3, .inl ⟨1, rfl, rfl, Nat.le_refl 1, by rw [List.length_cons]; omega, fun p5 H5 k5 h5 => ?_⟩⟩
        have h5 : At K H5 (.l as) (.ref p5) := h5
        obtain ⟨p5', xs5, e5, hX5, hA5⟩ := id h5
        cases e5
        have hxl5 : xs5.length = as.length := aa_len hA5
        have hN5 := hN4.store k5.nil (List.prefix_refl _) (hN4.st.sm k5)
        have k35 := k34.trans k5
        refine ⟨p5, rfl, ⟨xs5, hX5.sq⟩, for_tup (K := K) (a := p5) (xs := xs5) (fun l σ H' => ∃ v4 S', σ = [some (.ref N.a), some (.int (i : Int)), some v, some xv, v4] ∧ Kp N.st.F H H' ∧ Kp N.st.F H2 H' ∧ Kp N.st.F H5 H' ∧ NamesAt P w K H' N names S' ∧ S <+: S' ∧ S'.length ≤ S1.length + cTs (as.take l)) ⟨v4, S1, rfl, kA.trans k35.nil, kB.trans k35.nil, Kp.refl, hN5, pS, Nat.le_add_right _ _⟩ (fun l σ H' _ ⟨_, _, _, _, _, k, _⟩ => (k.xt hX5).sq) ?_ ?_⟩
        · rintro l av σ Hb hl5 ⟨v4', S2, rfl, kC, kD, kE, hNb, pS2, hl2⟩
          obtain ⟨a, ha, hAa⟩ := aa_at hA5 hl5
          have hAa := kE.at_ hAa
          obtain ⟨dxb, fsb, hob, nfb⟩ := hNb.ob
          obtain ⟨eb, kb, hBb⟩ := id hNb.st
          obtain ⟨dxs, fss, hos, _, _, _, _, nms⟩ := hBb.ob
          have hcs2 : cTs (as.take (l + 1)) = cTs (as.take l) + (cT a + 1) := by
            have e9 : as.take (l + 1) = as.take l ++ [a] := by
              rw [List.take_add_one, ha]
              rfl
            rw [e9, cTs_app]
            rfl
          have hcl2 : cTs (as.take (l + 1)) ≤ cTs as := by
            conv => rhs; rw [← List.take_append_drop (l + 1) as]
            rw [cTs_app]
            omega
          refine ⟨_, rfl, N.a, _, dxb, fsb, _, rfl, hob, T.cl_Names, T.a_Names_store, nfb.f_store, N.st.a, dxs, fss, rfl, hos, nms.m_put, _, rfl, N.st, S2, a, av, rfl, hNb.st, hAa, by omega, fun S3 n3 H6 k6 hS3 p3 hl3 hn3 => ?_⟩
          have hN6 := hNb.store k6 p3 hS3
          obtain ⟨dx6, fs6, ho6, nf6⟩ := hN6.ob
          obtain ⟨kvs, hd6, hkv⟩ := hN6.d
          have hkn := hkv n3 a (hin a (List.mem_of_getElem? ha)) hn3
          refine ⟨_, rfl, N.a, _, dx6, fs6, _, rfl, ho6, T.cl_Names, T.a_Names_known, nf6.f_known, N.dq, _, rfl, DGet.k (k := Sum.inl (n3 : Int)) hd6, false, by rw [hkn] <;> rfl, iteF ?_⟩
          exact ⟨_, S3, rfl, kC.trans k6, kD.trans k6, kE.trans k6, hN6, pS2.trans p3, by omega⟩
        · rintro σ Hb ⟨v4', S2, rfl, kC, kD, kE, hNb, pS2, hl2⟩
          rw [hxl5, List.take_length] at hl2
          exact ⟨_, _, S2, rfl, kC, kD, hNb, pS2, by omega⟩
    · rintro σ Ha ⟨v3, v4, S1, rfl, kA, kB, hNa, pS, hl⟩
      rw [hxl, List.take_length] at hl
      exact q S1 Ha kA hNa pS hl
/-! ### check_machine -/
def sumC : List (T × List T) → Nat
  | [] => 0
  | r :: rs => cTs r.2 + sumC rs
theorem sumC_app : ∀ a b : List (T × List T), sumC (a ++ b) = sumC a + sumC b
  | [], b => by simp [sumC]
  | x :: a, b => by
    show cTs x.2 + sumC (a ++ b) = cTs x.2 + sumC a + sumC b
    rw [sumC_app a b]
    omega
structure MachOk (rs : List (T × List T)) : Prop where
  ne : rs ≠ []
  nd : nodupT (rs.map (·.1)) = true
  good : ∀ r ∈ rs, ∀ t ∈ r.2, goodIns (rs.map (·.1)) t = true
  size : 10 + cTs (rs.map (·.1)) + sumC rs ≤ 3000000
def sp_check_machine (K : PySem.W.Frag) : Sp := fun vs H Q _ => ∃ v, ∃ rs : List (T × List T), vs = [v] ∧ At K H (.l (rs.map rtT)) v ∧ MachOk rs ∧ ∀ H', Sm H H' → Q .non H'
theorem sc_check_machine : FnScope ["value", "names", "at", "routine"] ["value"] (defScope s_check_machine) := ⟨rfl, rfl, rfl, by decide +kernel, rfl, by decide +kernel, by decide +kernel⟩
theorem f_check_machine (T : Txt w K mg) : Clb P w K mg base "check_machine" 5 ["value"] (sp_check_machine K) := by
  have F_Names : Mkb P w K mg base "Names" (C_Names K) 3 ["self", "value"] (sp_Names_init P w K) := mk_Names T
  have F_Store_is_right : Mtb P w K mg base (C_Names K) "is_right" 3 ["self", "at", "routine"] (sp_Names_is_right P w K) := f_Names_is_right T
  refine T.d_check_machine.clb sc_check_machine (fun _ _ _ _ _ _ us hl => match us, hl with | [_], _ => rfl) (fun vs H Q E h => ?_) (fun f cdv A outer s H vs Q E hr h => ?_)
  · obtain ⟨_, _, rfl, _⟩ := h
    rfl
  · obtain ⟨v, rs, rfl, hv, ok, q⟩ := h
    refine ⟨_, (pss_cons (ps_if (PW.pt (pw_or (pt_val (pe_callB call_isS (by rfl) T.n_isinstance PyProof.Rows.boot_isinstance (pa_cons (pv 0) (pa_cons (pe_bltn (v := .ty "str") rfl T.n_str PyProof.Rows.boot_str rfl) pa_nil)))) (pw_or1 (pt_cmpR op_eq (pe_callB call_lenT (by rfl) T.n_len PySem.boot_len (pa_cons (pv 0) pa_nil)) pe_int (nomark _))))) (pss_one ps_never) pss_nil)
      (pss_cons (ps_set (i := 1) sc_check_machine.nd rfl (Or.inl rfl) (pe_mk F_Names (hr.mono (by decide)) (pa_cons (pv 0) pa_nil)))
      (pss_one (ps_for PassesOwn.never rfl (pi_enumT (by rfl) T.n_enumerate (pa_cons (pv 0) pa_nil)) (pg_tupK K rfl 2 rfl (pgs_cons (pg_name (i := 2) sc_check_machine.nd rfl (Or.inl rfl)) (pgs_cons (pg_name (i := 3) sc_check_machine.nd rfl (Or.inl rfl)) pgs_nil))) (pss_one (ps_if (pt_not (pt_val (pe_m (pv 1) T.cl_Names F_Store_is_right (hr.mono (by decide)) (pa_cons (pv 2) (pa_cons (pv 3) pa_nil))))) (pss_one ps_never) pss_nil)))))), ?_⟩
    have hsz := ok.size
    refine ⟨_, rfl, v, _, rfl, hv, false, rfl, iteF ?_⟩
    refine ⟨_, rfl, _, _, rfl, hv, rfl, false, ?_, iteF ?_⟩
    · refine congrArg V.bl (decide_eq_false fun z => ?_)
      have h1 := V.int.inj z
      rw [List.length_map] at h1
      have h2 : rs.length = 0 := by omega
      exact ok.ne (List.length_eq_zero_iff.mp h2)
    refine ⟨_, rfl, fun x dx hx hdx hne => ?_⟩
    have k1 : Sm H (upd (upd H dx (.own x)) x (.ins (C_Names K) dx [])) := (Kp.new hdx).set hx
    refine ⟨x, dx, v, rs, rfl, upd_same, k1.at_ hv, by omega, fun N S H2 hNa k2 hfr hN hSl => ⟨rfl, ?_⟩⟩
    have kA : Sm H H2 := Kp.late k1 k2 (fun b hb _ => by rw [List.mem_singleton.mp hb]; exact hx)
    have fF : ∀ b ∈ N.st.F, H b = none := fun b hb => k1.none (hfr b (List.mem_cons_of_mem _ (List.mem_cons_of_mem _ hb)))
    obtain ⟨p, xs, rfl, hX, hA⟩ := id hv
    have hxl : xs.length = rs.length := by rw [aa_len hA, List.length_map]
    refine ⟨_, rfl, p, xs, rfl, (kA.xt hX).sq, for_it walk_enumT (fun i σ H' => ∃ v2 v3 S', σ = [some (.ref p), some (.ref x), v2, v3] ∧ Sm H H' ∧ NamesAt P w K H' N (rs.map (·.1)) S' ∧ S'.length ≤ S.length + sumC (rs.take i)) ⟨none, none, S, rfl, kA, hN, Nat.le_add_right _ _⟩ (fun i σ H' _ ⟨_, _, _, _, k, _⟩ => (k.xt hX).sq) ?_ ?_⟩
    · rintro i xv σ Ha Hb hi ⟨v2, v3, S1, rfl, kB, hNb, hl⟩ ⟨tp, x1, x2, rfl, htp, rfl, e1, e2⟩
      cases e1
      obtain ⟨t, ht, hAt⟩ := aa_at hA (show xs[i]? = some x2 from e2)
      rw [List.getElem?_map] at ht
      obtain ⟨r, hr1, rfl⟩ : ∃ r, rs[i]? = some r ∧ t = rtT r := by
        cases z : rs[i]? with
        | none =>
          rw [z] at ht
          cases ht
        | some r =>
          rw [z] at ht
          cases ht
          exact ⟨r, rfl, rfl⟩
      have k4 : Sm Ha (upd Ha tp (.tup [.int (i : Nat), x2])) := Kp.new htp
      have hN4 := hNb.store k4.nil (List.prefix_refl _) (hNb.st.sm k4)
      have hAt := (kB.trans k4).at_ hAt
      have kB4 := kB.trans k4
      have hcs : sumC (rs.take (i + 1)) = sumC (rs.take i) + cTs r.2 := by
        have e9 : rs.take (i + 1) = rs.take i ++ [r] := by
          rw [List.take_add_one, hr1]
          rfl
        rw [e9, sumC_app]
        show _ + (cTs r.2 + 0) = _
        omega
      have hcl : sumC (rs.take (i + 1)) ≤ sumC rs := by
        conv => rhs; rw [← List.take_append_drop (i + 1) rs]
        rw [sumC_app]
        omega
      refine ⟨tp, _, rfl, st_tup upd_same, rfl, _, _, rfl, _, _, rfl, rfl, ?_⟩
      show tIfS _ _ _ _ _ (upd Ha tp (.tup [.int (i : Nat), x2]))
      generalize upd Ha tp (.tup [.int (i : Nat), x2]) = Hc at hN4 hAt kB4 ⊢
      obtain ⟨dx4, fs4, ho4, nf4⟩ := hN4.ob
      rw [hNa] at ho4
      refine ⟨_, rfl, x, dx4, fs4, rfl, ho4, nf4.m_is_right, _, rfl, _, rfl, N, rs.map (·.1), S1, x2, r.1, r.2, i, by rw [hNa] <;> rfl, hN4, hAt, by rw [List.getElem?_map, hr1]; rfl, ok.nd, ok.good r (List.mem_of_getElem? hr1), by omega, fun S5 H5 k5 hN5 p5 hl5 => ?_⟩
      exact ⟨true, rfl, iteF ⟨_, _, S5, rfl, Kp.late kB4 k5 (fun b hb _ => fF b hb), hN5, by omega⟩⟩
    · rintro σ Ha ⟨v2, v3, S1, rfl, kB, hNb, hl⟩
      exact q Ha kB
end
end G
set_option maxRecDepth 100000
set_option maxHeartbeats 4000000
/-! F7a: the stack machine on trees, with code pointers. -/
namespace G
open PySem PySem.Spec PyProof.Rows L2
inductive Co where
  | push (t : T)
  | copy (n : Nat)
  | slide (n : Nat)
  | op (f : Str)
  | call (f : Str)
  | br (p2 : T) (a : List Co) (p3 : T) (b : List Co)
mutual
/-- the code of an expression: d its depth, p its path -/
def comp (ps : List Str) : Xp → Nat → List T → List Co
  | .v s, d, _ => [.copy ((behind s ps).length + d)]
  | .q t, _, _ => [.push t]
  | .n f as, d, p => match seq f wIf with
    | true => compI ps as d p
    | false => compL ps as d p 1 ++ [match inS f special with
      | true => .op f
      | false => .call f]
def compL (ps : List Str) : List Xp → Nat → List T → Nat → List Co
  | [], _, _, _ => []
  | a :: as, d, p, k => comp ps a d (way k p) ++ compL ps as (d + 1) p (k + 1)
def compI (ps : List Str) : List Xp → Nat → List T → List Co
  | [], _, _ => []
  | c :: as, d, p => comp ps c d (way 1 p) ++ compJ ps as d p
def compJ (ps : List Str) : List Xp → Nat → List T → List Co
  | [], _, _ => []
  | a :: as, d, p => compK ps as d p (comp ps a d (way 2 p))
def compK (ps : List Str) : List Xp → Nat → List T → List Co → List Co
  | [], _, _, _ => []
  | b :: _, d, p, ca => [.br (.l (way 2 p)) ca (.l (way 3 p)) (comp ps b d (way 3 p))]
end
def codeOf (g : Fn) : List Co := comp g.ps g.body 0 [.w g.name] ++ [.slide g.ps.length]
def primS (f : Str) (st : List T) : Option (List T) := prim f st
def step2 (fs : List Fn) (c : Co) (td : List (List Co)) (st : List T) : Option (List (List Co) × List T) := match c with
  | .push t => some (td, t :: st)
  | .copy n => match st[n]? with
    | some t => some (td, t :: st)
    | none => none
  | .slide n => match st with
    | [] => none
    | t :: r => match Nat.ble n r.length with
      | true => some (td, t :: r.drop n)
      | false => none
  | .op f => match prim f st with
    | some st' => some (td, st')
    | none => none
  | .call f => match fnGet f fs with
    | some g => some (codeOf g :: td, st)
    | none => none
  | .br _ a _ b => match st with
    | [] => none
    | t :: r => match isNil t with
      | true => some (b :: td, r)
      | false => some (a :: td, r)
def go2 (fs : List Fn) : Nat → List (List Co) → List T → Option (List T)
  | 0, _, _ => none
  | _ + 1, [], st => some st
  | n + 1, [] :: td, st => go2 fs n td st
  | n + 1, (c :: cs) :: td, st => match step2 fs c (cs :: td) st with
    | none => none
    | some (td', st') => go2 fs n td' st'
end G
set_option maxRecDepth 100000
set_option maxHeartbeats 4000000
/-! F7b: the text of a machine and its codes. -/
namespace G
open PySem PySem.Spec PyProof.Rows L2
/-- the text t of an instruction is that of the code c -/
def CoT : Co → T → Prop
  | .push v, t => t = .l [.w wPush, v]
  | .copy n, t => ∃ l, t = .l [.w wCopy, .l l] ∧ l.length = n
  | .slide n, t => ∃ l, t = .l [.w wSlide, .l l] ∧ l.length = n
  | .op f, t => t = .l [.w f] ∧ inS f plain = true
  | .call f, t => t = .l [.w wCall, .w f]
  | .br p2 _ p3 _, t => t = .l [.w wIf, p2, p3]
/-- item by item -/
def F2 {α β : Type} (R : α → β → Prop) : List α → List β → Prop
  | [], bs => bs = []
  | a :: as, bs => ∃ b r, bs = b :: r ∧ R a b ∧ F2 R as r
theorem F2.app {α β : Type} {R : α → β → Prop} : ∀ {as cs : List α} {bs ds : List β}, F2 R as bs → F2 R cs ds → F2 R (as ++ cs) (bs ++ ds)
  | [], cs, bs, ds, h, h' => by rw [show bs = [] from h]; exact h'
  | a :: as, cs, bs, ds, h, h' => by
    obtain ⟨b, r, rfl, h1, h2⟩ := h
    exact ⟨b, r ++ ds, rfl, h1, h2.app h'⟩
theorem F2.one {α β : Type} {R : α → β → Prop} {a : α} {b : β} (h : R a b) : F2 R [a] [b] := ⟨b, [], rfl, h, rfl⟩
theorem special_plain {f : Str} (h : inS f special = true) (h1 : seq f wQuote = false) (h2 : seq f wIf = false) : inS f plain = true := by
  have h0 := inS_iff.mp h
  have e1 : f ≠ wQuote := fun z => by rw [z, seq_self] at h1; cases h1
  have e2 : f ≠ wIf := fun z => by rw [z, seq_self] at h2; cases h2
  refine inS_iff.mpr ?_
  simp only [special, plain, List.mem_cons, List.not_mem_nil, or_false] at h0 ⊢
  rcases h0 with z | z | z | z | z | z | z
  · exact absurd z e1
  · exact absurd z e2
  · exact .inl z
  · exact .inr (.inl z)
  · exact .inr (.inr (.inl z))
  · exact .inr (.inr (.inr (.inl z)))
  · exact .inr (.inr (.inr (.inr z)))
mutual
theorem comp_instrs {ar : Str → Option Nat} {ps : List Str} (h3 : ar wIf = some 3) : ∀ (e : Xp) (d : Nat) (p : List T), fits ar ps e = true → F2 CoT (comp ps e d p) (instrs ps e d p)
  | .v s, d, p, _ => by
    rw [comp]
    refine F2.one ⟨_, rfl, ?_⟩
    rw [List.length_append, List.length_map]
    unfold as_
    rw [List.length_replicate]
  | .q t, d, p, _ => by
    rw [comp]
    exact F2.one rfl
  | .n f [], d, p, h => by
    obtain ⟨h1, h2, _⟩ := fits_n h
    cases hf : seq f wIf with
    | true =>
      rw [seq_iff.mp hf, h3] at h2
      cases h2
    | false =>
      rw [comp, instrs_no hf, hf, compL, instrsL]
      refine F2.one ?_
      unfold lastOp
      cases hs : inS f special with
      | true => exact ⟨rfl, special_plain hs h1 hf⟩
      | false => rfl
  | .n f (c :: as), d, p, h => by
    obtain ⟨h1, h2, ha⟩ := fits_n h
    cases hf : seq f wIf with
    | true =>
      rw [seq_iff.mp hf, h3] at h2
      have hl : as.length = 2 := by
        have := Option.some.inj h2
        rw [List.length_cons] at this
        omega
      rw [comp, instrs_if hf, hf]
      show F2 CoT (compI ps (c :: as) d p) _
      rw [compI]
      refine (comp_instrs h3 c d (way 1 p) (ha c (List.mem_cons_self ..))).app ?_
      match as, hl with
      | [a, b], _ =>
        rw [compJ, compK]
        exact F2.one rfl
    | false =>
      rw [comp, instrs_no hf, hf]
      refine (compL_instrs h3 (c :: as) d p 1 ha).app (F2.one ?_)
      unfold lastOp
      cases hs : inS f special with
      | true => exact ⟨rfl, special_plain hs h1 hf⟩
      | false => rfl
theorem compL_instrs {ar : Str → Option Nat} {ps : List Str} (h3 : ar wIf = some 3) : ∀ (as : List Xp) (d : Nat) (p : List T) (k : Nat), (∀ a ∈ as, fits ar ps a = true) → F2 CoT (compL ps as d p k) (instrsL ps as d p k)
  | [], d, p, k, _ => by
    rw [compL, instrsL]
    rfl
  | a :: as, d, p, k, h => by
    rw [compL, instrsL]
    exact (comp_instrs h3 a d (way k p) (h a (List.mem_cons_self ..))).app (compL_instrs h3 as (d + 1) p (k + 1) (fun b hb => h b (List.mem_cons_of_mem _ hb)))
end
/-! ### the table of routines -/
mutual
def rtC (ps : List Str) : Xp → Nat → List T → List (T × List Co)
  | .v _, _, _ => []
  | .q _, _, _ => []
  | .n f as, d, p => match seq f wIf with
    | true => rtI ps as d p 1
    | false => rtL ps as d p 1
def rtL (ps : List Str) : List Xp → Nat → List T → Nat → List (T × List Co)
  | [], _, _, _ => []
  | a :: as, d, p, k => rtC ps a d (way k p) ++ rtL ps as (d + 1) p (k + 1)
def rtI (ps : List Str) : List Xp → Nat → List T → Nat → List (T × List Co)
  | [], _, _, _ => []
  | a :: as, d, p, k => (match Nat.ble k 1 with
    | true => rtC ps a d (way k p)
    | false => (.l (way k p), comp ps a d (way k p)) :: rtC ps a d (way k p)) ++ rtI ps as d p (k + 1)
end
def fnTab (g : Fn) : List (T × List Co) := (.w g.name, codeOf g) :: rtC g.ps g.body 0 [.w g.name]
def tabOf (fs : List Fn) : List (T × List Co) := fs.flatMap fnTab
def RtT (r : T × List Co) (t : T) : Prop := ∃ is, t = .l (r.1 :: is) ∧ F2 CoT r.2 is
mutual
theorem rtC_routs {ar : Str → Option Nat} {ps : List Str} (h3 : ar wIf = some 3) : ∀ (e : Xp) (d : Nat) (p : List T), fits ar ps e = true → F2 RtT (rtC ps e d p) (routs ps e d p)
  | .v s, d, p, _ => by rw [rtC, routs]; rfl
  | .q t, d, p, _ => by rw [rtC, routs]; rfl
  | .n f as, d, p, h => by
    obtain ⟨_, _, ha⟩ := fits_n h
    rw [rtC, routs_n]
    cases hf : seq f wIf with
    | true => exact rtI_routs h3 as d p 1 ha
    | false => exact rtL_routs h3 as d p 1 ha
theorem rtL_routs {ar : Str → Option Nat} {ps : List Str} (h3 : ar wIf = some 3) : ∀ (as : List Xp) (d : Nat) (p : List T) (k : Nat), (∀ a ∈ as, fits ar ps a = true) → F2 RtT (rtL ps as d p k) (routsL ps as d p k)
  | [], d, p, k, _ => by rw [rtL, routsL]; rfl
  | a :: as, d, p, k, h => by
    rw [rtL, routsL]
    exact (rtC_routs h3 a d (way k p) (h a (List.mem_cons_self ..))).app (rtL_routs h3 as (d + 1) p (k + 1) (fun b hb => h b (List.mem_cons_of_mem _ hb)))
theorem rtI_routs {ar : Str → Option Nat} {ps : List Str} (h3 : ar wIf = some 3) : ∀ (as : List Xp) (d : Nat) (p : List T) (k : Nat), (∀ a ∈ as, fits ar ps a = true) → F2 RtT (rtI ps as d p k) (routsIf ps as d p k)
  | [], d, p, k, _ => by rw [rtI, routsIf]; rfl
  | a :: as, d, p, k, h => by
    rw [rtI, routsIf]
    refine F2.app ?_ (rtI_routs h3 as d p (k + 1) (fun b hb => h b (List.mem_cons_of_mem _ hb)))
    have h1 := rtC_routs h3 a d (way k p) (h a (List.mem_cons_self ..))
    cases Nat.ble k 1 with
    | true => exact h1
    | false => exact ⟨_, _, rfl, ⟨_, rfl, comp_instrs h3 a d (way k p) (h a (List.mem_cons_self ..))⟩, h1⟩
end
theorem fnTab_mach {ar : Str → Option Nat} (h3 : ar wIf = some 3) (g : Fn) (h : fits ar g.ps g.body = true) : F2 RtT (fnTab g) (fnMach g) := by
  refine ⟨_, _, rfl, ⟨_, rfl, (comp_instrs h3 g.body 0 [.w g.name] h).app (F2.one ⟨_, rfl, List.length_map _⟩)⟩, rtC_routs h3 g.body 0 [.w g.name] h⟩
theorem tab_mach {fs : List Fn} (hg : good fs = true) : F2 RtT (tabOf fs) (fs.flatMap fnMach) := by
  have hok := (good_parts hg).2.2.2
  have key : ∀ gs : List Fn, (∀ g ∈ gs, fnOk fs g = true) → F2 RtT (gs.flatMap fnTab) (gs.flatMap fnMach) := by
    intro gs
    induction gs with
    | nil => intro _; rfl
    | cons g gs ih =>
      intro h
      rw [List.flatMap_cons, List.flatMap_cons]
      exact (fnTab_mach (arity_if fs) g (fn_parts (h g (List.mem_cons_self ..))).fit).app (ih fun b hb => h b (List.mem_cons_of_mem _ hb))
  exact key fs hok
end G
set_option maxRecDepth 100000
set_option maxHeartbeats 4000000
/-! F7c: the table is closed. -/
namespace G
open PySem PySem.Spec PyProof.Rows L2
def BrIn (tab : List (T × List Co)) : Co → Prop
  | .br p2 a p3 b => (p2, a) ∈ tab ∧ (p3, b) ∈ tab
  | _ => True
theorem BrIn.mono {tab tab' : List (T × List Co)} (hs : ∀ r ∈ tab, r ∈ tab') : ∀ {c : Co}, BrIn tab c → BrIn tab' c
  | .br p2 a p3 b, h => ⟨hs _ h.1, hs _ h.2⟩
  | .push _, _ => trivial
  | .copy _, _ => trivial
  | .slide _, _ => trivial
  | .op _, _ => trivial
  | .call _, _ => trivial
mutual
theorem comp_br {ar : Str → Option Nat} {ps : List Str} (h3 : ar wIf = some 3) : ∀ (e : Xp) (d : Nat) (p : List T), fits ar ps e = true → ∀ c ∈ comp ps e d p, BrIn (rtC ps e d p) c
  | .v s, d, p, _, c, hc => by
    rw [comp] at hc
    rw [List.mem_singleton.mp hc]
    trivial
  | .q t, d, p, _, c, hc => by
    rw [comp] at hc
    rw [List.mem_singleton.mp hc]
    trivial
  | .n f as, d, p, h, c, hc => by
    obtain ⟨h1, h2, ha⟩ := fits_n h
    rw [comp] at hc
    cases hf : seq f wIf with
    | true =>
      rw [hf] at hc
      rw [rtC, hf]
      rw [seq_iff.mp hf, h3] at h2
      have hl : as.length = 3 := (Option.some.inj h2).symm
      match as, hl, ha, hc with
      | [x, a, b], _, ha, hc =>
        have hc : c ∈ compI ps [x, a, b] d p := hc
        rw [compI, compJ, compK] at hc
        show BrIn (rtI ps [x, a, b] d p 1) c
        rw [rtI, rtI, rtI]
        rcases List.mem_append.mp hc with hc | hc
        · exact (comp_br h3 x d (way 1 p) (ha x (by simp)) c hc).mono (fun r hr => List.mem_append_left _ hr)
        · rw [List.mem_singleton.mp hc]
          refine ⟨?_, ?_⟩
          · refine List.mem_append_right _ (List.mem_append_left _ ?_)
            exact List.mem_cons_self ..
          · refine List.mem_append_right _ (List.mem_append_right _ (List.mem_append_left _ ?_))
            exact List.mem_cons_self ..
    | false =>
      rw [hf] at hc
      rw [rtC, hf]
      rcases List.mem_append.mp hc with hc | hc
      · exact compL_br h3 as d p 1 ha c hc
      · rw [List.mem_singleton.mp hc]
        cases inS f special <;> trivial
theorem compL_br {ar : Str → Option Nat} {ps : List Str} (h3 : ar wIf = some 3) : ∀ (as : List Xp) (d : Nat) (p : List T) (k : Nat), (∀ a ∈ as, fits ar ps a = true) → ∀ c ∈ compL ps as d p k, BrIn (rtL ps as d p k) c
  | [], d, p, k, _, c, hc => by
    rw [compL] at hc
    cases hc
  | a :: as, d, p, k, h, c, hc => by
    rw [compL] at hc
    rw [rtL]
    rcases List.mem_append.mp hc with hc | hc
    · exact (comp_br h3 a d (way k p) (h a (List.mem_cons_self ..)) c hc).mono (fun r hr => List.mem_append_left _ hr)
    · exact (compL_br h3 as (d + 1) p (k + 1) (fun b hb => h b (List.mem_cons_of_mem _ hb)) c hc).mono (fun r hr => List.mem_append_right _ hr)
end
mutual
theorem rtC_br {ar : Str → Option Nat} {ps : List Str} (h3 : ar wIf = some 3) : ∀ (e : Xp) (d : Nat) (p : List T), fits ar ps e = true → ∀ r ∈ rtC ps e d p, ∀ c ∈ r.2, BrIn (rtC ps e d p) c
  | .v s, d, p, _, r, hr, _, _ => by
    rw [rtC] at hr
    cases hr
  | .q t, d, p, _, r, hr, _, _ => by
    rw [rtC] at hr
    cases hr
  | .n f as, d, p, h, r, hr, c, hc => by
    obtain ⟨h1, h2, ha⟩ := fits_n h
    rw [rtC] at hr ⊢
    cases hf : seq f wIf with
    | true =>
      rw [hf] at hr
      exact rtI_br h3 as d p 1 ha r hr c hc
    | false =>
      rw [hf] at hr
      exact rtL_br h3 as d p 1 ha r hr c hc
theorem rtL_br {ar : Str → Option Nat} {ps : List Str} (h3 : ar wIf = some 3) : ∀ (as : List Xp) (d : Nat) (p : List T) (k : Nat), (∀ a ∈ as, fits ar ps a = true) → ∀ r ∈ rtL ps as d p k, ∀ c ∈ r.2, BrIn (rtL ps as d p k) c
  | [], d, p, k, _, r, hr, _, _ => by
    rw [rtL] at hr
    cases hr
  | a :: as, d, p, k, h, r, hr, c, hc => by
    rw [rtL] at hr ⊢
    rcases List.mem_append.mp hr with hr | hr
    · exact (rtC_br h3 a d (way k p) (h a (List.mem_cons_self ..)) r hr c hc).mono (fun r hr => List.mem_append_left _ hr)
    · exact (rtL_br h3 as (d + 1) p (k + 1) (fun b hb => h b (List.mem_cons_of_mem _ hb)) r hr c hc).mono (fun r hr => List.mem_append_right _ hr)
theorem rtI_br {ar : Str → Option Nat} {ps : List Str} (h3 : ar wIf = some 3) : ∀ (as : List Xp) (d : Nat) (p : List T) (k : Nat), (∀ a ∈ as, fits ar ps a = true) → ∀ r ∈ rtI ps as d p k, ∀ c ∈ r.2, BrIn (rtI ps as d p k) c
  | [], d, p, k, _, r, hr, _, _ => by
    rw [rtI] at hr
    cases hr
  | a :: as, d, p, k, h, r, hr, c, hc => by
    have hfa := h a (List.mem_cons_self ..)
    have hsub : ∀ r ∈ rtC ps a d (way k p), r ∈ rtI ps (a :: as) d p k := fun r hr => by
      rw [rtI]
      refine List.mem_append_left _ ?_
      cases Nat.ble k 1 with
      | true => exact hr
      | false => exact List.mem_cons_of_mem _ hr
    have hsub2 : ∀ r ∈ rtI ps as d p (k + 1), r ∈ rtI ps (a :: as) d p k := fun r hr => by
      rw [rtI]
      exact List.mem_append_right _ hr
    rw [rtI] at hr
    rcases List.mem_append.mp hr with hr | hr
    · cases hk : Nat.ble k 1 with
      | true =>
        rw [hk] at hr
        exact (rtC_br h3 a d (way k p) hfa r hr c hc).mono hsub
      | false =>
        rw [hk] at hr
        rcases List.mem_cons.mp hr with rfl | hr
        · exact (comp_br h3 a d (way k p) hfa c hc).mono hsub
        · exact (rtC_br h3 a d (way k p) hfa r hr c hc).mono hsub
    · exact (rtI_br h3 as d p (k + 1) (fun b hb => h b (List.mem_cons_of_mem _ hb)) r hr c hc).mono hsub2
end
theorem tab_closed {fs : List Fn} (hg : good fs = true) : ∀ r ∈ tabOf fs, ∀ c ∈ r.2, BrIn (tabOf fs) c := by
  intro r hr c hc
  obtain ⟨g, hgm, hr⟩ := List.mem_flatMap.mp hr
  have hfit := (fn_parts ((good_parts hg).2.2.2 g hgm)).fit
  have hsub : ∀ r ∈ rtC g.ps g.body 0 [.w g.name], r ∈ tabOf fs := fun r hr => List.mem_flatMap.mpr ⟨g, hgm, List.mem_cons_of_mem _ hr⟩
  rcases List.mem_cons.mp hr with rfl | hr
  · rcases List.mem_append.mp hc with hc | hc
    · exact (comp_br (arity_if fs) g.body 0 [.w g.name] hfit c hc).mono hsub
    · rw [List.mem_singleton.mp hc]
      trivial
  · exact (rtC_br (arity_if fs) g.body 0 [.w g.name] hfit r hr c hc).mono hsub
end G
set_option maxRecDepth 100000
set_option maxHeartbeats 4000000
/-! F7d: what a StackMachine object holds; pop. -/
namespace G
open PySem PySem.Spec PyProof.Rows L2
structure SM where
  a : Addr
  st : SA
  ka : Addr
  ta : Addr
  da : Addr
def SM.F (M : SM) : List Addr := M.a :: M.ka :: M.ta :: M.st.F
/-- a made instruction -/
def CoV (K : PySem.W.Frag) (H : Hp) (S : List T) (c : Co) (v : V) : Prop := ∃ a xs, v = .ref a ∧ XT K H a xs ∧ match c with
  | .push t => ∃ n : Nat, xs = [.str "push", .int (n : Int)] ∧ S[n]? = some t
  | .copy n => xs = [.str "copy", .int (n : Int)]
  | .slide n => xs = [.str "slide", .int (n : Int)]
  | .op f => xs = [.str f] ∧ inS f plain = true
  | .call f => ∃ n : Nat, xs = [.str "call", .int (n : Int)] ∧ S[n]? = some (.w f)
  | .br p2 _ p3 _ => ∃ n m : Nat, xs = [.str "if", .int (n : Int), .int (m : Int)] ∧ S[n]? = some p2 ∧ S[m]? = some p3
/-- a list of made instructions, kept -/
def CodeAt (K : PySem.W.Frag) (F : List Addr) (H : Hp) (S : List T) (r : Addr) (code : List Co) : Prop := r ∉ F ∧ ∃ us, H r = some (.lst us) ∧ A2 (CoV K H S) code us
def RtAt (K : PySem.W.Frag) (F : List Addr) (H : Hp) (S : List T) (kvs : List (Key × V)) (q : T × List Co) : Prop := ∃ n r, S[n]? = some q.1 ∧ valV kvs (Sum.inl ((n : Nat) : Int)) = some (.ref r) ∧ CodeAt K F H S r q.2
def FrAt (K : PySem.W.Frag) (F : List Addr) (H : Hp) (S : List T) (tab : List (T × List Co)) (cs : List Co) (v : V) : Prop := ∃ a r code, ∃ k : Nat, v = .ref a ∧ H a = some (.tup [.ref r, .int (k : Int)]) ∧ CodeAt K F H S r code ∧ k ≤ code.length ∧ cs = code.drop k ∧ ∃ nm, (nm, code) ∈ tab
structure SF (M : SM) (S : List T) (k : Nat) (fs : List (Str × V)) : Prop where
  f_store : fs.lookup ("store" : Str) = some (.ref M.st.a)
  f_yes : ∃ n : Nat, fs.lookup ("yes" : Str) = some (.int (n : Int)) ∧ S[n]? = some (.w wYes)
  f_routines : fs.lookup ("routines" : Str) = some (.ref M.da)
  f_stack : fs.lookup ("stack" : Str) = some (.ref M.ka)
  f_todo : fs.lookup ("todo" : Str) = some (.ref M.ta)
  f_steps : fs.lookup ("steps" : Str) = some (.int (k : Int))
  m_made : fs.lookup ("made" : Str) = none
  m_pop : fs.lookup ("pop" : Str) = none
  m_go_on : fs.lookup ("go_on" : Str) = none
  m_carry_out : fs.lookup ("carry_out" : Str) = none
  m_found : fs.lookup ("found" : Str) = none
  len : fs.length ≤ 20
structure SMAt (P : Program) (w : World) (K : PySem.W.Frag) (H : Hp) (M : SM) (tab : List (T × List Co)) (S : List T) (td : List (List Co)) (st : List T) (k : Nat) : Prop where
  ob : ∃ dx fs, H M.a = some (.ins (C_StackMachine K) dx fs) ∧ SF M S k fs
  so : StoreAt P w K H M.st S
  s : ∃ vs, H M.ka = some (.lst vs) ∧ A2 (NumT S) st.reverse vs
  t : ∃ vs, H M.ta = some (.lst vs) ∧ A2 (FrAt K M.F H S tab) td.reverse vs
  d : M.da ∉ M.F ∧ ∃ kvs, H M.da = some (.dK kvs) ∧ ∀ q ∈ tab, RtAt K M.F H S kvs q
  ne : M.ka ≠ M.ta ∧ M.a ≠ M.ka ∧ M.a ≠ M.ta ∧ M.st.a ∉ M.F ∧ M.a ∉ M.st.F ∧ M.ka ∉ M.st.F ∧ M.ta ∉ M.st.F
section
variable {P : Program} {w : World} {K : PySem.W.Frag} {H H' : Hp} {S S' : List T}
theorem CoV.go {F' : List Addr} (k : Kp F' H H') (p : S <+: S') (c : Co) (v : V) (h : CoV K H S c v) : CoV K H' S' c v := by
  obtain ⟨a, xs, e, hX, h⟩ := h
  refine ⟨a, xs, e, k.xt hX, ?_⟩
  cases c with
  | push t =>
    obtain ⟨n, h1, h2⟩ := h
    exact ⟨n, h1, pre_get p h2⟩
  | copy n => exact h
  | slide n => exact h
  | op f => exact h
  | call f =>
    obtain ⟨n, h1, h2⟩ := h
    exact ⟨n, h1, pre_get p h2⟩
  | br p2 a2 p3 b =>
    obtain ⟨n, m, h1, h2, h3⟩ := h
    exact ⟨n, m, h1, pre_get p h2, pre_get p h3⟩
theorem CodeAt.go {F F' : List Addr} {r : Addr} {code : List Co} (k : Kp F' H H') (p : S <+: S') (hs : ∀ b ∈ F', b ∈ F) (h : CodeAt K F H S r code) : CodeAt K F H' S' r code := by
  obtain ⟨h1, us, h2, h3⟩ := h
  exact ⟨h1, us, k.keep h2 (fun z => h1 (hs _ z)), h3.mono (CoV.go k p)⟩
theorem RtAt.go {F F' : List Addr} {kvs : List (Key × V)} {q : T × List Co} (k : Kp F' H H') (p : S <+: S') (hs : ∀ b ∈ F', b ∈ F) (h : RtAt K F H S kvs q) : RtAt K F H' S' kvs q := by
  obtain ⟨n, r, h1, h2, h3⟩ := h
  exact ⟨n, r, pre_get p h1, h2, h3.go k p hs⟩
theorem FrAt.go {F F' : List Addr} {tab : List (T × List Co)} (k : Kp F' H H') (p : S <+: S') (hs : ∀ b ∈ F', b ∈ F) (cs : List Co) (v : V) (h : FrAt K F H S tab cs v) : FrAt K F H' S' tab cs v := by
  obtain ⟨a, r, code, n, h1, h2, h3, h4, h5, h6⟩ := h
  exact ⟨a, r, code, n, h1, k.tup h2, h3.go k p hs, h4, h5, h6⟩
theorem SF.go {M : SM} {k : Nat} {fs : List (Str × V)} (p : S <+: S') (h : SF M S k fs) : SF M S' k fs := by
  obtain ⟨n, h1, h2⟩ := h.f_yes
  exact { h with f_yes := ⟨n, h1, pre_get p h2⟩ }
theorem SMAt.store {M : SM} {tab : List (T × List Co)} {td : List (List Co)} {st : List T} {k : Nat} (h : SMAt P w K H M tab S td st k) (kp : Kp M.st.F H H') (p : S <+: S') (hS : StoreAt P w K H' M.st S') : SMAt P w K H' M tab S' td st k := by
  obtain ⟨dx, fs, o1, o2⟩ := h.ob
  obtain ⟨vs, f1, f2⟩ := h.s
  obtain ⟨ts, t1, t2⟩ := h.t
  obtain ⟨d1, kvs, d2, d3⟩ := h.d
  obtain ⟨n1, n2, n3, n4, n5, n6, n7⟩ := h.ne
  have hs : ∀ b ∈ M.st.F, b ∈ M.F := fun b hb => List.mem_cons_of_mem _ (List.mem_cons_of_mem _ (List.mem_cons_of_mem _ hb))
  exact ⟨⟨dx, fs, kp.keep o1 n5, o2.go p⟩, hS, ⟨vs, kp.keep f1 n6, f2.mono (NumT.mono p)⟩, ⟨ts, kp.keep t1 n7, t2.mono (FrAt.go kp p hs)⟩, ⟨d1, kvs, kp.keep d2 (fun z => d1 (hs _ z)), fun g hg => (d3 g hg).go kp p hs⟩, h.ne⟩
theorem SMAt.sm {M : SM} {tab : List (T × List Co)} {td : List (List Co)} {st : List T} {k : Nat} (h : SMAt P w K H M tab S td st k) (kp : Sm H H') : SMAt P w K H' M tab S td st k :=
  h.store kp.nil (List.prefix_refl _) (h.so.sm kp)
theorem SM.not {M : SM} (n : M.st.a ∉ M.F) (n5 : M.a ∉ M.st.F) (n6 : M.ka ∉ M.st.F) (n7 : M.ta ∉ M.st.F) : ∀ b, b = M.a ∨ b = M.ka ∨ b = M.ta → b ≠ M.st.a ∧ b ∉ M.st.F := by
  intro b hb
  refine ⟨fun z => n ?_, ?_⟩
  · rw [← z]
    rcases hb with rfl | rfl | rfl <;> simp [SM.F]
  · rcases hb with rfl | rfl | rfl
    · exact n5
    · exact n6
    · exact n7
theorem SMAt.setS {M : SM} {tab : List (T × List Co)} {td : List (List Co)} {st st' : List T} {k : Nat} {vs : List V} (h : SMAt P w K H M tab S td st k) (hv : A2 (NumT S) st'.reverse vs) : SMAt P w K (upd H M.ka (.lst vs)) M tab S td st' k ∧ Kp [M.ka] H (upd H M.ka (.lst vs)) := by
  obtain ⟨dx, fs, o1, o2⟩ := h.ob
  obtain ⟨us, f1, f2⟩ := h.s
  obtain ⟨ts, t1, t2⟩ := h.t
  obtain ⟨d1, kvs, d2, d3⟩ := h.d
  obtain ⟨n1, n2, n3, n4, n5, n6, n7⟩ := h.ne
  have kp : Kp [M.ka] H (upd H M.ka (.lst vs)) := Kp.own f1
  have hs : ∀ b ∈ [M.ka], b ∈ M.F := fun b hb => by rw [List.mem_singleton.mp hb]; simp [SM.F]
  have hst := SM.not n4 n5 n6 n7
  exact ⟨⟨⟨dx, fs, kp.keep o1 (by simp [n2]), o2⟩, h.so.kp kp (fun b hb => hst b (by rw [List.mem_singleton.mp hb]; simp)), ⟨vs, upd_same, hv⟩, ⟨ts, kp.keep t1 (by simp [Ne.symm n1]), t2.mono (FrAt.go kp (List.prefix_refl _) hs)⟩, ⟨d1, kvs, kp.keep d2 (fun z => d1 (hs _ z)), fun g hg => (d3 g hg).go kp (List.prefix_refl _) hs⟩, h.ne⟩, kp⟩
theorem SMAt.setT {M : SM} {tab : List (T × List Co)} {td td' : List (List Co)} {st : List T} {k : Nat} {vs : List V} (h : SMAt P w K H M tab S td st k) (hv : A2 (FrAt K M.F H S tab) td'.reverse vs) : SMAt P w K (upd H M.ta (.lst vs)) M tab S td' st k ∧ Kp [M.ta] H (upd H M.ta (.lst vs)) := by
  obtain ⟨dx, fs, o1, o2⟩ := h.ob
  obtain ⟨us, f1, f2⟩ := h.s
  obtain ⟨ts, t1, t2⟩ := h.t
  obtain ⟨d1, kvs, d2, d3⟩ := h.d
  obtain ⟨n1, n2, n3, n4, n5, n6, n7⟩ := h.ne
  have kp : Kp [M.ta] H (upd H M.ta (.lst vs)) := Kp.own t1
  have hs : ∀ b ∈ [M.ta], b ∈ M.F := fun b hb => by rw [List.mem_singleton.mp hb]; simp [SM.F]
  have hst := SM.not n4 n5 n6 n7
  exact ⟨⟨⟨dx, fs, kp.keep o1 (by simp [n3]), o2⟩, h.so.kp kp (fun b hb => hst b (by rw [List.mem_singleton.mp hb]; simp)), ⟨us, kp.keep f1 (by simp [n1]), f2⟩, ⟨vs, upd_same, hv.mono (FrAt.go kp (List.prefix_refl _) hs)⟩, ⟨d1, kvs, kp.keep d2 (fun z => d1 (hs _ z)), fun g hg => (d3 g hg).go kp (List.prefix_refl _) hs⟩, h.ne⟩, kp⟩
theorem Kp.sk {M : SM} (k : Kp [M.ka] H H') : Kp M.F H H' := k.mono fun b hb => by rw [List.mem_singleton.mp hb]; simp [SM.F]
theorem Kp.sta {M : SM} (k : Kp [M.ta] H H') : Kp M.F H H' := k.mono fun b hb => by rw [List.mem_singleton.mp hb]; simp [SM.F]
theorem Kp.sst {M : SM} (k : Kp M.st.F H H') : Kp M.F H H' := k.mono fun b hb => List.mem_cons_of_mem _ (List.mem_cons_of_mem _ (List.mem_cons_of_mem _ hb))
end
section
variable {P : Program} {w : World} {K : PySem.W.Frag} {mg : Str → Option Value} {base : Heap}
/-- self.pop(), something there -/
def sp_StackMachine_pop (P : Program) (w : World) (K : PySem.W.Frag) : Sp := fun vs H Q _ => ∃ M tab S td t st k, vs = [.ref (SM.a M)] ∧ SMAt P w K H M tab S td (t :: st) k ∧ ∀ n H', Kp M.F H H' → SMAt P w K H' M tab S td st k → S[n]? = some t → Q (.int ((n : Nat) : Int)) H'
theorem sc_StackMachine_pop : FnScope ["self"] ["self"] (defScope s_StackMachine_pop) := ⟨rfl, rfl, rfl, by decide +kernel, rfl, by decide +kernel, by decide +kernel⟩
theorem f_StackMachine_pop (T : Txt w K mg) : Mtb P w K mg base (C_StackMachine K) "pop" 1 ["self"] (sp_StackMachine_pop P w K) := by
  refine T.d_StackMachine_pop.mtb sc_StackMachine_pop (fun _ _ _ _ _ _ us hl => match us, hl with | [_], _ => rfl) (fun vs H Q E h => ?_) (fun f cdv A outer s H vs Q E hr h => ?_)
  · obtain ⟨_, _, _, _, _, _, _, rfl, _⟩ := h
    rfl
  · obtain ⟨M, tab, S, td, t, st, k, rfl, hM, q⟩ := h
    refine ⟨_, (pss_one (ps_ret (pe_ifExp (pt_cmpR op_gt (pe_callB call_len_seq (by rfl) T.n_len PySem.boot_len (pa_cons (pe_fld (pv 0) rfl) pa_nil)) pe_int (nomark _)) (pe_bm0 PySem.F.plainAttrs_list PySem.F.slot_list_pop PySem.F.type_list_pop mt_pop (pe_fld (pv 0) rfl)) (pe_gi T.c_EMPTY)))), ?_⟩
    obtain ⟨dx, fs, ho, sf⟩ := hM.ob
    obtain ⟨vs, f1, f2⟩ := hM.s
    rw [List.reverse_cons] at f2
    obtain ⟨vs0, v, rfl, f3, n, rfl, hn⟩ := f2.snoc
    refine ⟨_, rfl, M.a, _, dx, fs, _, rfl, ho, T.cl_StackMachine, T.a_StackMachine_stack, sf.f_stack, M.ka, _, rfl, .inl (sq_lst f1), _, _, rfl, rfl, true, congrArg V.bl (decide_eq_true (by rw [List.length_append, List.length_singleton]; omega)), iteT ?_⟩
    refine ⟨_, rfl, M.a, _, dx, fs, _, rfl, ho, T.cl_StackMachine, T.a_StackMachine_stack, sf.f_stack, tyL f1, M.ka, _, _, rfl, rfl, f1, last_at _ _, ?_⟩
    rw [dl_at]
    obtain ⟨hM2, k2⟩ := hM.setS (st' := st) f3
    exact q n _ k2.sk hM2 hn
end
end G
set_option maxRecDepth 100000
set_option maxHeartbeats 4000000
/-! F7e: StackMachine.found. -/
namespace G
open PySem PySem.Spec PyProof.Rows L2
theorem seq_not {f a b : Str} (h : seq f a = true) (n : seq a b = false) : seq f b = false := by
  have := seq_iff.mp h
  subst this
  exact n
section
variable {P : Program} {w : World} {K : PySem.W.Frag} {mg : Str → Option Value} {base : Heap}
/-- self.found(word): what one of the special words says of the top values -/
def sp_StackMachine_found (P : Program) (w : World) (K : PySem.W.Frag) : Sp := fun vs H Q _ => ∃ M tab S td st st' u k f, vs = [.ref (SM.a M), .str f] ∧ SMAt P w K H M tab S td st k ∧ prim f st = some (u :: st') ∧ S.length ≤ 8000000 ∧ ∀ S' n H', Kp M.F H H' → SMAt P w K H' M tab S' td st' k → S <+: S' → S'.length ≤ S.length + 1 → S'[n]? = some u → Q (.int ((n : Nat) : Int)) H'
theorem sc_StackMachine_found : FnScope ["self", "word", "top", "second"] ["self", "word"] (defScope s_StackMachine_found) := ⟨rfl, rfl, rfl, by decide +kernel, rfl, by decide +kernel, by decide +kernel⟩
theorem f_StackMachine_found (T : Txt w K mg) : Mtb P w K mg base (C_StackMachine K) "found" 3 ["self", "word"] (sp_StackMachine_found P w K) := by
  have F_Store_is_word : Mtb P w K mg base (C_Store K) "is_word" 1 ["self", "number"] (sp_Store_is_word P w K) := f_Store_is_word T
  have F_Store_first : Mtb P w K mg base (C_Store K) "first" 2 ["self", "number"] (sp_Store_first P w K) := f_Store_first T
  have F_Store_rest : Mtb P w K mg base (C_Store K) "rest" 2 ["self", "number"] (sp_Store_rest P w K) := f_Store_rest T
  have F_Store_pair_up : Mtb P w K mg base (C_Store K) "pair_up" 2 ["self", "item", "items"] (sp_Store_pair_up P w K) := f_Store_pair_up T
  have F_Store_pop : Mtb P w K mg base (C_StackMachine K) "pop" 1 ["self"] (sp_StackMachine_pop P w K) := f_StackMachine_pop T
  refine T.d_StackMachine_found.mtb sc_StackMachine_found (fun _ _ _ _ _ _ us hl => match us, hl with | [_, _], _ => rfl) (fun vs H Q E h => ?_) (fun f cdv A outer s H vs Q E hr h => ?_)
  · obtain ⟨_, _, _, _, _, _, _, _, _, rfl, _⟩ := h
    rfl
  · obtain ⟨M, tab, S, td, st, st', u, k, f, rfl, hM, hp, hSl, q⟩ := h
    refine ⟨_, (pss_cons (ps_set (i := 2) sc_StackMachine_found.nd rfl (Or.inl rfl) (pe_m0 (pv 0) T.cl_StackMachine F_Store_pop (hr.mono (by decide))))
      (pss_cons (ps_if (pt_cmpR op_eq (pv 1) pe_str (nomark _)) (pss_one (ps_ret (pe_ifExp (PW.pt (pw_and (pt_cmpR op_ne (pv 2) (pe_gi T.c_EMPTY) (nomark _)) (pw_and1 (pt_val (pe_m (pe_fld (pv 0) rfl) T.cl_Store F_Store_is_word (hr.mono (by decide)) (pa_cons (pv 2) pa_nil)))))) (pe_fld (pv 0) rfl) (pe_gi T.c_EMPTY)))) pss_nil)
      (pss_cons (ps_if (pt_cmpR op_eq (pv 1) pe_str (nomark _)) (pss_one (ps_ret (pe_m (pe_fld (pv 0) rfl) T.cl_Store F_Store_first (hr.mono (by decide)) (pa_cons (pv 2) pa_nil)))) pss_nil)
      (pss_cons (ps_if (pt_cmpR op_eq (pv 1) pe_str (nomark _)) (pss_one (ps_ret (pe_m (pe_fld (pv 0) rfl) T.cl_Store F_Store_rest (hr.mono (by decide)) (pa_cons (pv 2) pa_nil)))) pss_nil)
      (pss_cons (ps_set (i := 3) sc_StackMachine_found.nd rfl (Or.inl rfl) (pe_m0 (pv 0) T.cl_StackMachine F_Store_pop (hr.mono (by decide))))
      (pss_cons (ps_if (pt_cmpR op_eq (pv 1) pe_str (nomark _)) (pss_one (ps_ret (pe_ifExp (pt_cmpR op_eq (pv 3) (pv 2) (nomark _)) (pe_fld (pv 0) rfl) (pe_gi T.c_EMPTY)))) pss_nil)
      (pss_one (ps_ret (pe_m (pe_fld (pv 0) rfl) T.cl_Store F_Store_pair_up (hr.mono (by decide)) (pa_cons (pv 3) (pa_cons (pv 2) pa_nil))))))))))), ?_⟩
    cases st with
    | nil => cases hp
    | cons y r =>
      obtain ⟨dx0, fs0, ho0, mf0⟩ := hM.ob
      refine ⟨_, rfl, M.a, dx0, fs0, rfl, ho0, mf0.m_pop, M, tab, S, td, y, r, k, rfl, hM, fun ny H1 k1 hM1 hy => ?_⟩
      obtain ⟨dx, fs, ho1, mf⟩ := hM1.ob
      obtain ⟨ents, ks, hB⟩ := id hM1.so
      obtain ⟨dx2, fs2, ho2, _, _, _, _, nm⟩ := hB.ob
      have hz := zero_iff hB hy
      obtain ⟨nyes, hyes, hyes2⟩ := mf.f_yes
      refine ⟨_, rfl, rfl, _, rfl, ?_⟩
      rw [dec_ss, lit_word]
      cases c3 : seq f wWord with
      | true =>
        rw [prim_word (seq_not c3 rfl) (seq_not c3 rfl) c3] at hp
        cases hp
        refine iteT ⟨_, rfl, rfl, _, rfl, ?_⟩
        have fin : ∀ b : Bool, y.isW = b → ∀ n : Nat, S[n]? = some (G.T.ofB b) → Q (.int (n : Int)) H1 := by
          intro b hb n hn
          exact q S n H1 k1 hM1 (List.prefix_refl _) (Nat.le_succ _) (by rw [hb]; exact hn)
        by_cases hn : ny = 0
        · subst hn
          have ht := hz.mp rfl
          subst ht
          exact iteF (iteF (fin false rfl 0 hB.z))
        · have e0 : (!decide (V.int ((ny : Nat) : Int) = V.int 0)) = true := by
            rw [decide_eq_false fun z => hn (by have := V.int.inj z; omega)]
            rfl
          rw [e0]
          refine iteT ⟨_, rfl, M.a, _, dx, fs, _, rfl, ho1, T.cl_StackMachine, T.a_StackMachine_store, mf.f_store, M.st.a, dx2, fs2, rfl, ho2, nm.m_is_word, _, rfl, M.st, S, y, ny, rfl, hM1.so, hy, y.isW, rfl, ?_⟩
          cases hw : y.isW with
          | true => exact iteT ⟨_, rfl, M.a, _, dx, fs, _, rfl, ho1, T.cl_StackMachine, T.a_StackMachine_yes, hyes, fin true hw nyes hyes2⟩
          | false => exact iteF (fin false hw 0 hB.z)
      | false =>
        refine iteF ⟨_, rfl, rfl, _, rfl, ?_⟩
        rw [dec_ss, lit_head]
        cases c1 : seq f wHead with
        | true =>
          rw [prim_head c1] at hp
          cases hp
          exact iteT ⟨_, rfl, M.a, _, dx, fs, _, rfl, ho1, T.cl_StackMachine, T.a_StackMachine_store, mf.f_store, M.st.a, dx2, fs2, rfl, ho2, nm.m_first, _, rfl, M.st, S, y, ny, rfl, hM1.so, hy, fun m hm => q S m H1 k1 hM1 (List.prefix_refl _) (Nat.le_succ _) hm⟩
        | false =>
          refine iteF ⟨_, rfl, rfl, _, rfl, ?_⟩
          rw [dec_ss, lit_tail]
          cases c2 : seq f wTail with
          | true =>
            rw [prim_tail c1 c2] at hp
            cases hp
            exact iteT ⟨_, rfl, M.a, _, dx, fs, _, rfl, ho1, T.cl_StackMachine, T.a_StackMachine_store, mf.f_store, M.st.a, dx2, fs2, rfl, ho2, nm.m_rest, _, rfl, M.st, S, y, ny, rfl, hM1.so, hy, fun m hm => q S m H1 k1 hM1 (List.prefix_refl _) (Nat.le_succ _) hm⟩
          | false =>
            refine iteF ?_
            cases r with
            | nil =>
              rw [prim_one c1 c2 c3] at hp
              cases hp
            | cons x r2 =>
              refine ⟨_, rfl, M.a, dx, fs, rfl, ho1, mf.m_pop, M, tab, S, td, x, r2, k, rfl, hM1, fun nx H2 k2 hM2 hx => ?_⟩
              obtain ⟨dx', fs', ho1', mf'⟩ := hM2.ob
              obtain ⟨ents2, ks2, hB2⟩ := id hM2.so
              obtain ⟨dx3, fs3, ho3, _, _, _, _, nm3⟩ := hB2.ob
              obtain ⟨nyes', hyes', hyes2'⟩ := mf'.f_yes
              have k12 := k1.trans k2
              refine ⟨_, rfl, rfl, _, rfl, ?_⟩
              rw [dec_ss, lit_same]
              cases c4 : seq f wSame with
              | true =>
                rw [prim_same c1 c2 c3 c4] at hp
                cases hp
                have fin : ∀ b : Bool, G.T.beq x y = b → ∀ n : Nat, S[n]? = some (G.T.ofB b) → Q (.int (n : Int)) H2 := by
                  intro b hb n hn
                  exact q S n H2 k12 hM2 (List.prefix_refl _) (Nat.le_succ _) (by rw [hb]; exact hn)
                refine iteT ⟨_, rfl, _, rfl, rfl, _, rfl, ?_⟩
                rw [num_inj hM2.so hx hy]
                cases hb : G.T.beq x y with
                | true => exact iteT ⟨_, rfl, M.a, _, dx', fs', _, rfl, ho1', T.cl_StackMachine, T.a_StackMachine_yes, hyes', fin true hb nyes' hyes2'⟩
                | false => exact iteF (fin false hb 0 hB2.z)
              | false =>
                rw [prim_join c1 c2 c3 c4] at hp
                cases hp
                exact iteF ⟨_, rfl, M.a, _, dx', fs', _, rfl, ho1', T.cl_StackMachine, T.a_StackMachine_store, mf'.f_store, M.st.a, dx3, fs3, rfl, ho3, nm3.m_pair_up, _, rfl, _, rfl, M.st, S, x, y, nx, ny, rfl, hM2.so, hx, hy, by omega, fun S3 n3 H3 k3 hS3 p3 hl3 hn3 => q S3 n3 H3 (k12.trans k3.sst) (hM2.store k3 p3 hS3) p3 hl3 hn3⟩
end
end G
set_option maxRecDepth 100000
set_option maxHeartbeats 4000000
/-! F7f: StackMachine.carry_out. -/
namespace G
open PySem PySem.Spec PyProof.Rows L2
theorem op_not {f b : Str} (h : inS f plain = true) (n : inS b plain = false) : seq f b = false := by
  cases e : seq f b with
  | false => rfl
  | true =>
    have := seq_iff.mp e
    subst this
    rw [h] at n
    cases n
section
variable {P : Program} {w : World} {K : PySem.W.Frag} {mg : Str → Option Value} {base : Heap}
/-- self.carry_out(instruction) -/
def sp_StackMachine_carry_out (P : Program) (w : World) (K : PySem.W.Frag) : Sp := fun vs H Q _ => ∃ M tab S td st td' st' fs c v k, vs = [.ref (SM.a M), v] ∧ SMAt P w K H M tab S td st k ∧ CoV K H S c v ∧ BrIn tab c ∧ (∀ g ∈ fs, (T.w g.1, codeOf g) ∈ tab) ∧ step2 fs c td st = some (td', st') ∧ S.length ≤ 8000000 ∧ st.length ≤ 8000000 ∧ td.length ≤ 8000000 ∧ ∀ S' H', Kp M.F H H' → SMAt P w K H' M tab S' td' st' k → S <+: S' → S'.length ≤ S.length + 1 → Q .non H'
theorem sc_StackMachine_carry_out : FnScope ["self", "instruction", "word", "at", "top", "_", "chosen"] ["self", "instruction"] (defScope s_StackMachine_carry_out) := ⟨rfl, rfl, rfl, by decide +kernel, rfl, by decide +kernel, by decide +kernel⟩
theorem f_StackMachine_carry_out (T : Txt w K mg) : Mtb P w K mg base (C_StackMachine K) "carry_out" 4 ["self", "instruction"] (sp_StackMachine_carry_out P w K) := by
  have F_Store_found : Mtb P w K mg base (C_StackMachine K) "found" 3 ["self", "word"] (sp_StackMachine_found P w K) := f_StackMachine_found T
  have F_Store_pop : Mtb P w K mg base (C_StackMachine K) "pop" 1 ["self"] (sp_StackMachine_pop P w K) := f_StackMachine_pop T
  refine T.d_StackMachine_carry_out.mtb sc_StackMachine_carry_out (fun _ _ _ _ _ _ us hl => match us, hl with | [_, _], _ => rfl) (fun vs H Q E h => ?_) (fun f cdv A outer s H vs Q E hr h => ?_)
  · obtain ⟨_, _, _, _, _, _, _, _, _, _, _, rfl, _⟩ := h
    rfl
  · obtain ⟨M, tab, S, td, st, td', st', fs, c, v, k, rfl, hM, hc, hbr, hfs, hp, hSl, hsl, htl, q⟩ := h
    have hu := hu_of hr
    refine ⟨_, (pss_cons (ps_set (i := 2) sc_StackMachine_carry_out.nd rfl (Or.inl rfl) (pe_ix ix_tup (pv 1) pe_int (fun _ _ => rfl)))
      (pss_one (ps_if (pt_cmpR op_eq (pv 2) pe_str (nomark _)) (pss_one (ps_expr (pe_bm PySem.F.plainAttrs_list PySem.F.slot_list_append PySem.F.type_list_append mt_append (pe_fld (pv 0) rfl) (pa_cons (pe_ix ix_tup (pv 1) pe_int (fun _ _ => rfl)) pa_nil)))) (pss_one (ps_if (pt_cmpR op_eq (pv 2) pe_str (nomark _)) (pss_cons (ps_set (i := 3) sc_StackMachine_carry_out.nd rfl (Or.inl rfl) (pe_op op_sub (pe_op op_sub (pe_callB call_len_seq (by rfl) T.n_len PySem.boot_len (pa_cons (pe_fld (pv 0) rfl) pa_nil)) pe_int) (pe_ix ix_tup (pv 1) pe_int (fun _ _ => rfl))))
      (pss_one (ps_expr (pe_bm PySem.F.plainAttrs_list PySem.F.slot_list_append PySem.F.type_list_append mt_append (pe_fld (pv 0) rfl) (pa_cons (pe_ifExp (pt_cmpR op_ge (pv 3) pe_int (nomark _)) (pe_ix ix_list (pe_fld (pv 0) rfl) (pv 3) (fun _ _ => rfl)) (pe_gi T.c_EMPTY)) pa_nil))))) (pss_one (ps_if (pt_cmpR op_eq (pv 2) pe_str (nomark _)) (pss_cons (ps_set (i := 4) sc_StackMachine_carry_out.nd rfl (Or.inl rfl) (pe_m0 (pv 0) T.cl_StackMachine F_Store_pop (hr.mono (by decide))))
      (pss_cons (ps_for PassesOwn.never rfl (pi_range1 rfl T.n_range (pa_cons (pe_callB (call_min2 rfl) (by rfl) T.n_min (by decide +kernel) (pa_cons (pe_ix ix_tup (pv 1) pe_int (fun _ _ => rfl)) (pa_cons (pe_callB call_len_seq (by rfl) T.n_len PySem.boot_len (pa_cons (pe_fld (pv 0) rfl) pa_nil)) pa_nil))) pa_nil)) (pg_name (i := 5) sc_StackMachine_carry_out.nd rfl (Or.inl rfl)) (pss_one (ps_expr (pe_bm0 PySem.F.plainAttrs_list PySem.F.slot_list_pop PySem.F.type_list_pop mt_pop (pe_fld (pv 0) rfl)))))
      (pss_one (ps_expr (pe_bm PySem.F.plainAttrs_list PySem.F.slot_list_append PySem.F.type_list_append mt_append (pe_fld (pv 0) rfl) (pa_cons (pv 4) pa_nil)))))) (pss_one (ps_if (pt_cmpR op_eq (pv 2) pe_str (nomark _)) (pss_one (ps_expr (pe_bm PySem.F.plainAttrs_list PySem.F.slot_list_append PySem.F.type_list_append mt_append (pe_fld (pv 0) rfl) (pa_cons (pe_tup (pa_cons (pe_dget hu (pe_fld (pv 0) rfl) (pe_ix ix_tup (pv 1) pe_int (fun _ _ => rfl)) (fun _ _ => rfl)) (pa_cons pe_int pa_nil))) pa_nil)))) (pss_one (ps_if (pt_cmpR op_eq (pv 2) pe_str (nomark _)) (pss_cons (ps_set (i := 6) sc_StackMachine_carry_out.nd rfl (Or.inl rfl) (pe_ifExp (pt_cmpR op_eq (pe_m0 (pv 0) T.cl_StackMachine F_Store_pop (hr.mono (by decide))) (pe_gi T.c_EMPTY) (nomark _)) (pe_ix ix_tup (pv 1) pe_int (fun _ _ => rfl)) (pe_ix ix_tup (pv 1) pe_int (fun _ _ => rfl))))
      (pss_one (ps_expr (pe_bm PySem.F.plainAttrs_list PySem.F.slot_list_append PySem.F.type_list_append mt_append (pe_fld (pv 0) rfl) (pa_cons (pe_tup (pa_cons (pe_dget hu (pe_fld (pv 0) rfl) (pv 6) (fun _ _ => rfl)) (pa_cons pe_int pa_nil))) pa_nil))))) (pss_one (ps_expr (pe_bm PySem.F.plainAttrs_list PySem.F.slot_list_append PySem.F.type_list_append mt_append (pe_fld (pv 0) rfl) (pa_cons (pe_m (pv 0) T.cl_StackMachine F_Store_found (hr.mono (by decide)) (pa_cons (pv 2) pa_nil)) pa_nil))))))))))))))), ?_⟩
    obtain ⟨dx, fs0, ho, mf⟩ := hM.ob
    obtain ⟨vs, f1, f2⟩ := hM.s
    have hl0 := f2.len
    rw [List.length_reverse] at hl0
    cases c with
    | push t =>
      obtain ⟨a, xs, rfl, hX, n, rfl, hn⟩ := hc
      cases hp
      refine ⟨_, rfl, a, _, (0 : Int), _, rfl, rfl, hX.sq, atI_nat (xs := [V.str "push", .int (n : Int)]) (j := 0) rfl, ?_⟩
      refine ⟨_, rfl, rfl, _, rfl, ?_⟩
      refine iteT ⟨_, rfl, M.a, _, dx, fs0, _, rfl, ho, T.cl_StackMachine, T.a_StackMachine_stack, mf.f_stack, tyL f1, _, rfl, a, _, (1 : Int), _, rfl, rfl, hX.sq, atI_nat (xs := [V.str "push", .int (n : Int)]) (j := 1) rfl, M.ka, vs, _, rfl, rfl, f1, by rw [sizeLine_eq]; omega, ?_⟩
      obtain ⟨hM3, k3⟩ := hM.setS (st' := t :: st) (vs := vs ++ [.int (n : Int)]) (by rw [List.reverse_cons]; exact f2.app (A2.one ⟨n, rfl, hn⟩))
      exact q S _ k3.sk hM3 (List.prefix_refl _) (Nat.le_succ _)
    | copy n =>
      obtain ⟨a, xs, rfl, hX, rfl⟩ := hc
      simp only [step2] at hp
      cases hg : st[n]? with
      | none =>
        rw [hg] at hp
        cases hp
      | some t =>
        rw [hg] at hp
        cases hp
        have hnl : n < st.length := (List.getElem?_eq_some_iff.mp hg).1
        obtain ⟨v, hv, m, rfl, hm⟩ := f2.get (i := st.length - 1 - n) (a := t) (by rw [List.getElem?_reverse (by omega), show st.length - 1 - (st.length - 1 - n) = n by omega]; exact hg)
        refine ⟨_, rfl, a, _, (0 : Int), _, rfl, rfl, hX.sq, atI_nat (xs := [V.str "copy", .int (n : Int)]) (j := 0) rfl, ?_⟩
        refine ⟨_, rfl, rfl, _, rfl, iteF ⟨_, rfl, rfl, _, rfl, ?_⟩⟩
        refine iteT ⟨_, rfl, M.a, _, dx, fs0, _, rfl, ho, T.cl_StackMachine, T.a_StackMachine_stack, mf.f_stack, M.ka, vs, rfl, .inl (sq_lst f1), _, _, rfl, rfl, _, rfl, a, _, (1 : Int), _, rfl, rfl, hX.sq, atI_nat (xs := [V.str "copy", .int (n : Int)]) (j := 1) rfl, _, _, rfl, rfl, ?_⟩
        have e9 : ((vs.length : Nat) : Int) - 1 - (n : Int) = ((st.length - 1 - n : Nat) : Int) := by omega
        dsimp only
        rw [e9]
        refine ⟨_, rfl, M.a, _, dx, fs0, _, rfl, ho, T.cl_StackMachine, T.a_StackMachine_stack, mf.f_stack, tyL f1, _, rfl, _, _, rfl, rfl, true, congrArg V.bl (decide_eq_true (by omega)), iteT ?_⟩
        refine ⟨_, rfl, M.a, _, dx, fs0, _, rfl, ho, T.cl_StackMachine, T.a_StackMachine_stack, mf.f_stack, _, rfl, M.ka, vs, ((st.length - 1 - n : Nat) : Int), _, rfl, rfl, sq_lst f1, atI_nat hv, M.ka, vs, _, rfl, rfl, f1, by rw [sizeLine_eq]; omega, ?_⟩
        obtain ⟨hM3, k3⟩ := hM.setS (st' := t :: st) (vs := vs ++ [.int (m : Int)]) (by rw [List.reverse_cons]; exact f2.app (A2.one ⟨m, rfl, hm⟩))
        exact q S _ k3.sk hM3 (List.prefix_refl _) (Nat.le_succ _)
    | slide n =>
      obtain ⟨a, xs, rfl, hX, rfl⟩ := hc
      cases st with
      | nil => cases hp
      | cons t r =>
        simp only [step2] at hp
        cases hnr : Nat.ble n r.length with
        | false =>
          rw [hnr] at hp
          cases hp
        | true =>
          rw [hnr] at hp
          cases hp
          have hnl := Nat.le_of_ble_eq_true hnr
          rw [List.length_cons] at hsl
          refine ⟨_, rfl, a, _, (0 : Int), _, rfl, rfl, hX.sq, atI_nat (xs := [V.str "slide", .int (n : Int)]) (j := 0) rfl, ?_⟩
          refine ⟨_, rfl, rfl, _, rfl, iteF ⟨_, rfl, rfl, _, rfl, iteF ⟨_, rfl, rfl, _, rfl, ?_⟩⟩⟩
          refine iteT ⟨_, rfl, M.a, dx, fs0, rfl, ho, mf.m_pop, M, tab, S, td, t, r, k, rfl, hM, fun nt H1 k1 hM1 hnt => ?_⟩
          obtain ⟨dx1, fs1, ho1, mf1⟩ := hM1.ob
          obtain ⟨vs1, g1, g2⟩ := hM1.s
          have hl1 := g2.len
          rw [List.length_reverse] at hl1
          have hX1 := k1.xt hX
          refine ⟨_, rfl, a, _, (1 : Int), _, rfl, rfl, hX1.sq, atI_nat (xs := [V.str "slide", .int (n : Int)]) (j := 1) rfl, _, rfl, M.a, _, dx1, fs1, _, rfl, ho1, T.cl_StackMachine, T.a_StackMachine_stack, mf1.f_stack, M.ka, vs1, rfl, .inl (sq_lst g1), (n : Int), (vs1.length : Int), rfl, ?_⟩
          rw [if_neg (by omega)]
          refine ⟨_, rfl, by omega, by omega, for_it walk_range (fun i σ H' => ∃ v5, σ = [some (.ref M.a), some (.ref a), some (.str "slide"), none, some (.int ((nt : Nat) : Int)), v5, none] ∧ Kp M.F H1 H' ∧ SMAt P w K H' M tab S td (r.drop i) k) ⟨none, rfl, Kp.refl, hM1⟩ (fun _ _ _ _ _ => trivial) ?_ ?_⟩
          · rintro i x σ Ha Hb hi ⟨v5, rfl, kA, hMa⟩ ⟨rfl, rfl⟩
            have ed : r.drop i = r[i]'(by omega) :: r.drop (i + 1) := List.drop_eq_getElem_cons (by omega)
            rw [ed] at hMa
            obtain ⟨us, u1, u2⟩ := hMa.s
            rw [List.reverse_cons] at u2
            obtain ⟨us0, uv, rfl, u3, nu, rfl, hu9⟩ := u2.snoc
            obtain ⟨dx7, fs7, ho7, mf7⟩ := hMa.ob
            refine ⟨_, rfl, M.a, _, dx7, fs7, _, rfl, ho7, T.cl_StackMachine, T.a_StackMachine_stack, mf7.f_stack, tyL u1, M.ka, _, _, rfl, rfl, u1, last_at _ _, ?_⟩
            rw [dl_at]
            obtain ⟨hM7, k7⟩ := hMa.setS (st' := r.drop (i + 1)) u3
            exact ⟨_, rfl, kA.trans k7.sk, hM7⟩
          · rintro σ Ha ⟨v5, rfl, kA, hMa⟩
            rw [Int.toNat_natCast] at hMa
            obtain ⟨us, u1, u2⟩ := hMa.s
            have hul := u2.len
            rw [List.length_reverse, List.length_drop] at hul
            obtain ⟨dx7, fs7, ho7, mf7⟩ := hMa.ob
            refine ⟨_, rfl, M.a, _, dx7, fs7, _, rfl, ho7, T.cl_StackMachine, T.a_StackMachine_stack, mf7.f_stack, tyL u1, _, rfl, M.ka, us, _, rfl, rfl, u1, by rw [sizeLine_eq]; omega, ?_⟩
            obtain ⟨hM3, k3⟩ := hMa.setS (st' := t :: r.drop n) (vs := us ++ [.int (nt : Int)]) (by rw [List.reverse_cons]; exact u2.app (A2.one ⟨nt, rfl, hnt⟩))
            exact q S _ (k1.trans (kA.trans k3.sk)) hM3 (List.prefix_refl _) (Nat.le_succ _)
    | op f =>
      obtain ⟨a, xs, rfl, hX, rfl, hf⟩ := hc
      simp only [step2] at hp
      cases hpr : prim f st with
      | none =>
        rw [hpr] at hp
        cases hp
      | some st2 =>
        rw [hpr] at hp
        cases hp
        cases st' with
        | nil =>
          exfalso
          revert hpr
          unfold prim
          repeat' split
          all_goals (intro z; cases z)
        | cons u r =>
          refine ⟨_, rfl, a, _, (0 : Int), _, rfl, rfl, hX.sq, atI_nat (xs := [V.str f]) (j := 0) rfl, ?_⟩
          refine ⟨_, rfl, rfl, _, rfl, ?_⟩
          rw [dec_ss, op_not hf (by decide +kernel)]
          refine iteF ⟨_, rfl, rfl, _, rfl, ?_⟩
          rw [dec_ss, op_not hf (by decide +kernel)]
          refine iteF ⟨_, rfl, rfl, _, rfl, ?_⟩
          rw [dec_ss, op_not hf (by decide +kernel)]
          refine iteF ⟨_, rfl, rfl, _, rfl, ?_⟩
          rw [dec_ss, op_not hf (by decide +kernel)]
          refine iteF ⟨_, rfl, rfl, _, rfl, ?_⟩
          rw [dec_ss, op_not hf (by decide +kernel)]
          refine iteF ⟨_, rfl, M.a, _, dx, fs0, _, rfl, ho, T.cl_StackMachine, T.a_StackMachine_stack, mf.f_stack, tyL f1, _, rfl, M.a, dx, fs0, rfl, ho, mf.m_found, _, rfl, M, tab, S, td, st, r, u, k, f, rfl, hM, hpr, hSl, fun S3 n3 H3 k3 hM3 p3 hl3 hn3 => ?_⟩
          obtain ⟨vs3, g1, g2⟩ := hM3.s
          have hl3' := g2.len
          have hlr : r.length ≤ st.length := by
            revert hpr
            unfold prim
            repeat' split
            all_goals (intro z; cases z; try (simp only [List.length_cons]; omega))
          rw [List.length_reverse] at hl3'
          refine ⟨M.ka, vs3, _, rfl, rfl, g1, by rw [sizeLine_eq]; omega, ?_⟩
          obtain ⟨hM4, k4⟩ := hM3.setS (st' := u :: r) (vs := vs3 ++ [.int (n3 : Int)]) (by rw [List.reverse_cons]; exact g2.app (A2.one ⟨n3, rfl, hn3⟩))
          exact q S3 _ (k3.trans k4.sk) hM4 p3 hl3
    | call f =>
      obtain ⟨a, xs, rfl, hX, n, rfl, hn⟩ := hc
      simp only [step2] at hp
      cases hg : fnGet f fs with
      | none =>
        rw [hg] at hp
        cases hp
      | some g =>
        rw [hg] at hp
        cases hp
        obtain ⟨hgm, hgn⟩ := fnGet_mem hg
        have ht := hfs g hgm
        obtain ⟨d1, kvs, d2, d3⟩ := hM.d
        obtain ⟨n2, r, e1, e2, e3⟩ := d3 _ ht
        obtain ⟨ents, ks, hB⟩ := id hM.so
        rw [hgn] at e1
        have en := hB.nd n n2 _ hn e1
        subst en
        obtain ⟨ts, t1, t2⟩ := hM.t
        refine ⟨_, rfl, a, _, (0 : Int), _, rfl, rfl, hX.sq, atI_nat (xs := [V.str "call", .int (n : Int)]) (j := 0) rfl, ?_⟩
        refine ⟨_, rfl, rfl, _, rfl, iteF ⟨_, rfl, rfl, _, rfl, iteF ⟨_, rfl, rfl, _, rfl, iteF ⟨_, rfl, rfl, _, rfl, ?_⟩⟩⟩⟩
        refine iteT ⟨_, rfl, M.a, _, dx, fs0, _, rfl, ho, T.cl_StackMachine, T.a_StackMachine_todo, mf.f_todo, tyL t1, ?_⟩
        have hgd := DGet.k (k := Sum.inl (n : Int)) d2
        rw [e2] at hgd
        refine ⟨_, rfl, M.a, _, dx, fs0, _, rfl, ho, T.cl_StackMachine, T.a_StackMachine_routines, mf.f_routines, _, rfl, a, _, (1 : Int), _, rfl, rfl, hX.sq, atI_nat (xs := [V.str "call", .int (n : Int)]) (j := 1) rfl, M.da, _, rfl, hgd, (Nat.le_of_ble_eq_true rfl), ?_⟩
        intro p hp0
        dsimp only [tNil]
        have k4 : Sm H (upd H p (.tup [.ref r, .int 0])) := Kp.new hp0
        have hM2 := hM.sm k4
        have hs0 : ∀ b ∈ ([] : List Addr), b ∈ M.F := fun b hb => by cases hb
        have fr : FrAt K M.F (upd H p (.tup [.ref r, .int 0])) S tab (codeOf g) (.ref p) := ⟨p, r, codeOf g, 0, rfl, upd_same, e3.go k4 (List.prefix_refl _) hs0, Nat.zero_le _, rfl, _, ht⟩
        have t3 := k4.keep t1 (by simp)
        have hlt := t2.len
        rw [List.length_reverse] at hlt
        refine ⟨M.ta, ts, _, rfl, rfl, t3, by rw [sizeLine_eq]; omega, ?_⟩
        obtain ⟨hM3, k3⟩ := hM2.setT (td' := codeOf g :: td) (vs := ts ++ [.ref p]) (by rw [List.reverse_cons]; exact (t2.mono (FrAt.go k4 (List.prefix_refl _) hs0)).app (A2.one fr))
        exact q S _ (k4.nil.trans k3.sta) hM3 (List.prefix_refl _) (Nat.le_succ _)
    | br p2 a2 p3 b =>
      obtain ⟨a, xs, rfl, hX, n, m, rfl, hn, hm⟩ := hc
      obtain ⟨hb2, hb3⟩ := hbr
      cases st with
      | nil => cases hp
      | cons y r0 =>
        refine ⟨_, rfl, a, _, (0 : Int), _, rfl, rfl, hX.sq, atI_nat (xs := [V.str "if", .int (n : Int), .int (m : Int)]) (j := 0) rfl, ?_⟩
        refine ⟨_, rfl, rfl, _, rfl, iteF ⟨_, rfl, rfl, _, rfl, iteF ⟨_, rfl, rfl, _, rfl, iteF ⟨_, rfl, rfl, _, rfl, iteF ⟨_, rfl, rfl, _, rfl, ?_⟩⟩⟩⟩⟩
        refine iteT ⟨_, rfl, M.a, dx, fs0, rfl, ho, mf.m_pop, M, tab, S, td, y, r0, k, rfl, hM, fun ny H1 k1 hM1 hy => ?_⟩
        obtain ⟨dx1, fs1, ho1, mf1⟩ := hM1.ob
        obtain ⟨d1, kvs, d2, d3⟩ := hM1.d
        obtain ⟨ents, ks, hB⟩ := id hM1.so
        have hz := zero_iff hB hy
        obtain ⟨ts, t1, t2⟩ := hM1.t
        have hlt := t2.len
        rw [List.length_reverse] at hlt
        have hX1 := k1.xt hX
        simp only [step2] at hp
        have hs0 : ∀ b ∈ ([] : List Addr), b ∈ M.F := fun b hb => by cases hb
        refine ⟨rfl, _, rfl, ?_⟩
        by_cases hn0 : ny = 0
        · subst hn0
          have ht := hz.mp rfl
          subst ht
          cases hp
          refine iteT ⟨_, rfl, a, _, (2 : Int), _, rfl, rfl, hX1.sq, atI_nat (xs := [V.str "if", .int (n : Int), .int (m : Int)]) (j := 2) rfl, ?_⟩
          obtain ⟨x2, r, e1, e2, e3⟩ := d3 _ hb3
          have en := hB.nd m x2 _ hm e1
          subst en
          have hgd := DGet.k (k := Sum.inl (m : Int)) d2
          rw [e2] at hgd
          refine ⟨_, rfl, M.a, _, dx1, fs1, _, rfl, ho1, T.cl_StackMachine, T.a_StackMachine_todo, mf1.f_todo, tyL t1, ?_⟩
          refine ⟨_, rfl, M.a, _, dx1, fs1, _, rfl, ho1, T.cl_StackMachine, T.a_StackMachine_routines, mf1.f_routines, _, rfl, M.da, _, rfl, hgd, (Nat.le_of_ble_eq_true rfl), ?_⟩
          intro p hp0
          dsimp only [tNil]
          have k4 : Sm H1 (upd H1 p (.tup [.ref r, .int 0])) := Kp.new hp0
          have hM2 := hM1.sm k4
          have fr : FrAt K M.F (upd H1 p (.tup [.ref r, .int 0])) S tab b (.ref p) := ⟨p, r, b, 0, rfl, upd_same, e3.go k4 (List.prefix_refl _) hs0, Nat.zero_le _, rfl, _, hb3⟩
          have t3 := k4.keep t1 (by simp)
          refine ⟨M.ta, ts, _, rfl, rfl, t3, by rw [sizeLine_eq]; omega, ?_⟩
          obtain ⟨hM3, k3⟩ := hM2.setT (td' := b :: td) (vs := ts ++ [.ref p]) (by rw [List.reverse_cons]; exact (t2.mono (FrAt.go k4 (List.prefix_refl _) hs0)).app (A2.one fr))
          exact q S _ (k1.trans (k4.nil.trans k3.sta)) hM3 (List.prefix_refl _) (Nat.le_succ _)
        · have hnil : isNil y = false := by
            cases z : isNil y with
            | false => rfl
            | true => exact absurd (hz.mpr ((isNil_iff y).mp z)) hn0
          rw [hnil] at hp
          cases hp
          have e0 : decide (V.int ((ny : Nat) : Int) = V.int 0) = false := decide_eq_false fun z => hn0 (by have := V.int.inj z; omega)
          rw [e0]
          refine iteF ⟨_, rfl, a, _, (1 : Int), _, rfl, rfl, hX1.sq, atI_nat (xs := [V.str "if", .int (n : Int), .int (m : Int)]) (j := 1) rfl, ?_⟩
          obtain ⟨x2, r, e1, e2, e3⟩ := d3 _ hb2
          have en := hB.nd n x2 _ hn e1
          subst en
          have hgd := DGet.k (k := Sum.inl (n : Int)) d2
          rw [e2] at hgd
          refine ⟨_, rfl, M.a, _, dx1, fs1, _, rfl, ho1, T.cl_StackMachine, T.a_StackMachine_todo, mf1.f_todo, tyL t1, ?_⟩
          refine ⟨_, rfl, M.a, _, dx1, fs1, _, rfl, ho1, T.cl_StackMachine, T.a_StackMachine_routines, mf1.f_routines, _, rfl, M.da, _, rfl, hgd, (Nat.le_of_ble_eq_true rfl), ?_⟩
          intro p hp0
          dsimp only [tNil]
          have k4 : Sm H1 (upd H1 p (.tup [.ref r, .int 0])) := Kp.new hp0
          have hM2 := hM1.sm k4
          have fr : FrAt K M.F (upd H1 p (.tup [.ref r, .int 0])) S tab a2 (.ref p) := ⟨p, r, a2, 0, rfl, upd_same, e3.go k4 (List.prefix_refl _) hs0, Nat.zero_le _, rfl, _, hb2⟩
          have t3 := k4.keep t1 (by simp)
          refine ⟨M.ta, ts, _, rfl, rfl, t3, by rw [sizeLine_eq]; omega, ?_⟩
          obtain ⟨hM3, k3⟩ := hM2.setT (td' := a2 :: td) (vs := ts ++ [.ref p]) (by rw [List.reverse_cons]; exact (t2.mono (FrAt.go k4 (List.prefix_refl _) hs0)).app (A2.one fr))
          exact q S _ (k1.trans (k4.nil.trans k3.sta)) hM3 (List.prefix_refl _) (Nat.le_succ _)
end
end G
set_option maxRecDepth 100000
set_option maxHeartbeats 4000000
/-! F7g: StackMachine.go_on. -/
namespace G
open PySem PySem.Spec PyProof.Rows L2
theorem SF.step {M : SM} {S : List T} {k k' : Nat} {fs : List (Str × V)} (h : SF M S k fs) : SF M S k' (putF "steps" (.int (k' : Int)) fs) := by
  have ne : ∀ g : Str, g ≠ ("steps" : Str) → (putF "steps" (.int (k' : Int)) fs).lookup g = fs.lookup g := fun g hg => by rw [lookup_putF, if_neg hg]
  obtain ⟨n, hy, hy2⟩ := h.f_yes
  exact ⟨by rw [ne _ (by decide)]; exact h.f_store, ⟨n, by rw [ne _ (by decide)]; exact hy, hy2⟩, by rw [ne _ (by decide)]; exact h.f_routines, by rw [ne _ (by decide)]; exact h.f_stack, by rw [ne _ (by decide)]; exact h.f_todo, by rw [lookup_putF, if_pos rfl],
    by rw [ne _ (by decide)]; exact h.m_made, by rw [ne _ (by decide)]; exact h.m_pop, by rw [ne _ (by decide)]; exact h.m_go_on, by rw [ne _ (by decide)]; exact h.m_carry_out, by rw [ne _ (by decide)]; exact h.m_found, by rw [putF_len h.f_steps]; exact h.len⟩
section
variable {P : Program} {w : World} {K : PySem.W.Frag} {H : Hp} {S : List T} {M : SM} {tab : List (T × List Co)} {td : List (List Co)} {st : List T} {k : Nat}
/-- one step more -/
theorem SMAt.setK {k' : Nat} {dx : Addr} {fs : List (Str × V)} (h : SMAt P w K H M tab S td st k) (o1 : H M.a = some (.ins (C_StackMachine K) dx fs)) (o2 : SF M S k fs) : SMAt P w K (upd H M.a (.ins (C_StackMachine K) dx (putF "steps" (.int (k' : Int)) fs))) M tab S td st k' ∧ Kp M.F H (upd H M.a (.ins (C_StackMachine K) dx (putF "steps" (.int (k' : Int)) fs))) := by
  obtain ⟨us, f1, f2⟩ := h.s
  obtain ⟨ts, t1, t2⟩ := h.t
  obtain ⟨d1, kvs, d2, d3⟩ := h.d
  obtain ⟨n1, n2, n3, n4, n5, n6, n7⟩ := h.ne
  have kp : Kp [M.a] H (upd H M.a (.ins (C_StackMachine K) dx (putF "steps" (.int (k' : Int)) fs))) := Kp.ins (by simp) o1
  have hs : ∀ b ∈ [M.a], b ∈ M.F := fun b hb => by rw [List.mem_singleton.mp hb]; simp [SM.F]
  have hst := SM.not n4 n5 n6 n7
  exact ⟨⟨⟨dx, _, upd_same, o2.step⟩, h.so.kp kp (fun b hb => hst b (by rw [List.mem_singleton.mp hb]; simp)), ⟨us, kp.keep f1 (by simp [Ne.symm n2]), f2⟩, ⟨ts, kp.keep t1 (by simp [Ne.symm n3]), t2.mono (FrAt.go kp (List.prefix_refl _) hs)⟩, ⟨d1, kvs, kp.keep d2 (fun z => d1 (hs _ z)), fun g hg => (d3 g hg).go kp (List.prefix_refl _) hs⟩, h.ne⟩, kp.mono hs⟩
end
theorem prim_le {f : Str} {st st' : List T} (h : prim f st = some st') : st'.length ≤ st.length := by
  revert h
  unfold prim
  repeat' split
  all_goals (intro z; cases z; try (simp only [List.length_cons]; omega))
theorem step2_len {fs : List Fn} {c : Co} {td td' : List (List Co)} {st st' : List T} (h : step2 fs c td st = some (td', st')) : td'.length ≤ td.length + 1 ∧ st'.length ≤ st.length + 1 := by
  cases c with
  | push t =>
    cases h
    exact ⟨Nat.le_succ _, Nat.le_refl _⟩
  | copy n =>
    simp only [step2] at h
    cases z : st[n]? with
    | none =>
      rw [z] at h
      cases h
    | some t =>
      rw [z] at h
      cases h
      exact ⟨Nat.le_succ _, Nat.le_refl _⟩
  | slide n =>
    cases st with
    | nil => cases h
    | cons t r =>
      simp only [step2] at h
      cases z : Nat.ble n r.length with
      | false =>
        rw [z] at h
        cases h
      | true =>
        rw [z] at h
        cases h
        refine ⟨Nat.le_succ _, ?_⟩
        rw [List.length_cons, List.length_cons, List.length_drop]
        omega
  | op f =>
    simp only [step2] at h
    cases z : prim f st with
    | none =>
      rw [z] at h
      cases h
    | some st2 =>
      rw [z] at h
      cases h
      exact ⟨Nat.le_succ _, Nat.le_succ_of_le (prim_le z)⟩
  | call f =>
    simp only [step2] at h
    cases z : fnGet f fs with
    | none =>
      rw [z] at h
      cases h
    | some g =>
      rw [z] at h
      cases h
      exact ⟨Nat.le_refl _, Nat.le_succ _⟩
  | br p2 a p3 b =>
    cases st with
    | nil => cases h
    | cons t r =>
      simp only [step2] at h
      cases z : isNil t with
      | true =>
        rw [z] at h
        cases h
        refine ⟨Nat.le_refl _, ?_⟩
        rw [List.length_cons]
        omega
      | false =>
        rw [z] at h
        cases h
        refine ⟨Nat.le_refl _, ?_⟩
        rw [List.length_cons]
        omega
section
variable {P : Program} {w : World} {K : PySem.W.Frag} {mg : Str → Option Value} {base : Heap}
def sp_StackMachine_go_on (P : Program) (w : World) (K : PySem.W.Frag) : Sp := fun vs H Q _ => ∃ M tab S td st k st' fs, ∃ N : Nat, vs = [.ref (SM.a M), .int 1000000] ∧ SMAt P w K H M tab S td st k ∧ go2 fs N td st = some st' ∧ (∀ r ∈ tab, ∀ c ∈ r.2, BrIn tab c) ∧ (∀ g ∈ fs, (T.w g.1, codeOf g) ∈ tab) ∧ k + N ≤ 1000000 ∧ S.length + N ≤ 8000000 ∧ st.length + N ≤ 8000000 ∧ td.length + N ≤ 7000000 ∧
  ∀ S' k' H', Kp M.F H H' → SMAt P w K H' M tab S' [] st' k' → S <+: S' → S'.length ≤ S.length + N → Q (.bl true) H'
theorem sc_StackMachine_go_on : FnScope ["self", "limit", "instructions", "at"] ["self", "limit"] (defScope s_StackMachine_go_on) := ⟨rfl, rfl, rfl, by decide +kernel, rfl, by decide +kernel, by decide +kernel⟩
theorem f_StackMachine_go_on (T : Txt w K mg) : Mtb P w K mg base (C_StackMachine K) "go_on" 5 ["self", "limit"] (sp_StackMachine_go_on P w K) := by
  have F_Store_carry_out : Mtb P w K mg base (C_StackMachine K) "carry_out" 4 ["self", "instruction"] (sp_StackMachine_carry_out P w K) := f_StackMachine_carry_out T
  refine T.d_StackMachine_go_on.mtb sc_StackMachine_go_on (fun _ _ _ _ _ _ us hl => match us, hl with | [_, _], _ => rfl) (fun vs H Q E h => ?_) (fun f cdv A outer s H vs Q E hr h => ?_)
  · obtain ⟨_, _, _, _, _, _, _, _, _, rfl, _⟩ := h
    rfl
  · obtain ⟨M, tab, S, td, st, k, st', fns, N, rfl, hM, hgo, hcl, hfs, hk, hSl, hsl, htl, q⟩ := h
    have hu := hu_of hr
    refine ⟨_, (pss_cons (ps_while PassesOwn.never (pt_cmpR op_gt (pe_callB call_len_seq (by rfl) T.n_len PySem.boot_len (pa_cons (pe_fld (pv 0) rfl) pa_nil)) pe_int (nomark _)) (pss_cons (ps_asg (pe_bm0 PySem.F.plainAttrs_list PySem.F.slot_list_pop PySem.F.type_list_pop mt_pop (pe_fld (pv 0) rfl)) (pg_tupK K rfl 2 rfl (pgs_cons (pg_name (i := 2) sc_StackMachine_go_on.nd rfl (Or.inl rfl)) (pgs_cons (pg_name (i := 3) sc_StackMachine_go_on.nd rfl (Or.inl rfl)) pgs_nil))))
      (pss_one (ps_if (pt_cmpR op_lt (pv 3) (pe_callB call_len_seq (by rfl) T.n_len PySem.boot_len (pa_cons (pv 2) pa_nil)) (nomark _)) (pss_cons (ps_if (pt_cmpR op_eq (pe_fld (pv 0) rfl) (pv 1) (nomark _)) (pss_one (ps_ret pe_bl)) pss_nil)
      (pss_cons (ps_fld (pv 0) (pe_op op_add (pe_fld (pv 0) rfl) pe_int) rfl)
      (pss_cons (ps_expr (pe_bm PySem.F.plainAttrs_list PySem.F.slot_list_append PySem.F.type_list_append mt_append (pe_fld (pv 0) rfl) (pa_cons (pe_tup (pa_cons (pv 2) (pa_cons (pe_op op_add (pv 3) pe_int) pa_nil))) pa_nil)))
      (pss_one (ps_expr (pe_m (pv 0) T.cl_StackMachine F_Store_carry_out (hr.mono (by decide)) (pa_cons (pe_ix ix_list (pv 2) (pv 3) (fun _ _ => rfl)) pa_nil))))))) pss_nil))))
      (pss_one (ps_ret pe_bl))), ?_⟩
    refine ⟨fun m σ H' => ∃ v2 v3, ∃ (S' : List G.T) (td : List (List Co)) (st : List G.T) (k : Nat), σ = [some (.ref M.a), some (.int 1000000), v2, v3] ∧ Kp M.F H H' ∧ SMAt P w K H' M tab S' td st k ∧ go2 fns m td st = some st' ∧ S <+: S' ∧ k + m ≤ 1000000 ∧ S'.length + m ≤ S.length + N ∧ st.length + m ≤ 8000000 ∧ td.length + m ≤ 7000000,
      ⟨N, none, none, S, td, st, k, rfl, Kp.refl, hM, hgo, List.prefix_refl _, hk, Nat.le_refl _, hsl, htl⟩, ?_⟩
    clear hM hgo hk hsl htl
    rintro m σ Ha ⟨v2, v3, S1, td, st, k, rfl, kA, hM, hgo, pS, hk, hSm, hsl, htl⟩
    obtain ⟨dx, fs, ho, mf⟩ := hM.ob
    obtain ⟨ts, t1, t2⟩ := hM.t
    have htl2 := t2.len
    rw [List.length_reverse] at htl2
    refine ⟨_, rfl, M.a, _, dx, fs, _, rfl, ho, T.cl_StackMachine, T.a_StackMachine_todo, mf.f_todo, M.ta, ts, rfl, .inl (sq_lst t1), _, _, rfl, rfl, _, rfl, ?_⟩
    cases m with
    | zero => cases hgo
    | succ m =>
      cases td with
      | nil =>
        have hl0 : ts.length = 0 := htl2
        rw [hl0]
        cases hgo
        exact iteF (q S1 k Ha kA hM pS (by omega))
      | cons cs td =>
        have hpos : decide (((ts.length : Nat) : Int) > 0) = true := decide_eq_true (by rw [List.length_cons] at htl2; omega)
        rw [hpos]
        refine iteT ?_
        refine ⟨_, fun σ' H' h => h, ?_⟩
        rw [List.reverse_cons] at t2
        obtain ⟨ts0, tv, rfl, t3, htk⟩ := t2.snoc
        rw [List.length_cons] at htl
        refine ⟨_, rfl, M.a, _, dx, fs, _, rfl, ho, T.cl_StackMachine, T.a_StackMachine_todo, mf.f_todo, tyL t1, M.ta, _, _, rfl, rfl, t1, last_at _ _, ?_⟩
        rw [dl_at]
        obtain ⟨hM1, k1⟩ := hM.setT (td' := td) t3
        have htk := FrAt.go (F := M.F) k1 (List.prefix_refl _) (fun b hb => by rw [List.mem_singleton.mp hb]; simp [SM.F]) cs tv htk
        have kA1 := kA.trans k1.sta
        generalize upd Ha M.ta (.lst ts0) = H1 at hM1 htk kA1
        obtain ⟨a, r, code, k0, rfl, h1, ⟨hrF, us, hr1, hus⟩, hk0, hcs, nm, hmem⟩ := htk
        have hul := hus.len
        obtain ⟨dx1, fs1, ho1, mf1⟩ := hM1.ob
        have hS1l : S1.length ≤ 8000000 := by omega
        refine ⟨a, _, rfl, st_tup h1, rfl, _, _, rfl, _, _, rfl, rfl, ?_⟩
        refine ⟨_, rfl, _, rfl, r, us, rfl, .inl (sq_lst hr1), _, _, rfl, rfl, _, rfl, ?_⟩
        cases cs with
        | nil =>
          have e0 : k0 = code.length := by
            have := congrArg List.length hcs
            rw [List.length_drop] at this
            have h0 : ([] : List Co).length = 0 := rfl
            omega
          rw [decide_eq_false (by omega)]
          exact iteF ⟨m, Nat.lt_succ_self _, _, _, S1, td, st, k, rfl, kA1, hM1, hgo, pS, by omega, by omega, by omega, by omega⟩
        | cons c cs =>
          have hlt : k0 < code.length := by
            have := congrArg List.length hcs
            rw [List.length_drop, List.length_cons] at this
            omega
          have hd : code.drop k0 = code[k0] :: code.drop (k0 + 1) := List.drop_eq_getElem_cons hlt
          rw [hd] at hcs
          obtain ⟨ec, ecs⟩ := List.cons.inj hcs
          have hci : code[k0]? = some c := by rw [List.getElem?_eq_getElem hlt, ec]
          obtain ⟨v, hv, hcv⟩ := hus.get hci
          rw [decide_eq_true (by omega)]
          have hstep : ∃ td' st2, step2 fns c (cs :: td) st = some (td', st2) ∧ go2 fns m td' st2 = some st' := by
            have hgo : (match step2 fns c (cs :: td) st with | none => none | some (td', st2) => go2 fns m td' st2) = some st' := hgo
            cases z : step2 fns c (cs :: td) st with
            | none =>
              rw [z] at hgo
              cases hgo
            | some r =>
              rw [z] at hgo
              exact ⟨r.1, r.2, rfl, hgo⟩
          obtain ⟨td', st2, hst, hgo2⟩ := hstep
          obtain ⟨sl1, sl2⟩ := step2_len hst
          rw [List.length_cons] at sl1
          refine iteT ⟨_, rfl, M.a, _, dx1, fs1, _, rfl, ho1, T.cl_StackMachine, T.a_StackMachine_steps, mf1.f_steps, _, rfl, rfl, false, ?_, iteF ?_⟩
          · exact congrArg V.bl (decide_eq_false fun z => by have := V.int.inj z; omega)
          refine ⟨_, rfl, M.a, _, dx1, fs1, _, rfl, ho1, T.cl_StackMachine, T.a_StackMachine_steps, mf1.f_steps, _, _, rfl, rfl, _, rfl, M.a, _, dx1, fs1, rfl, ho1, T.cl_StackMachine, T.a_StackMachine_steps, by have := mf1.len; omega, ?_⟩
          obtain ⟨hM2, k2⟩ := hM1.setK (k' := k + 1) ho1 mf1
          have hr2 := k2.keep hr1 hrF
          have hcv2 := hcv.go k2 (List.prefix_refl _)
          have hus2 := hus.mono (CoV.go k2 (List.prefix_refl _))
          have ek : ((k + 1 : Nat) : Int) = (k : Int) + 1 := rfl
          rw [ek] at hM2 k2 hr2 hcv2 hus2
          dsimp only
          generalize upd H1 M.a (.ins (C_StackMachine K) dx1 (putF "steps" (.int ((k : Int) + 1)) fs1)) = H2 at hM2 k2 hr2 hcv2 hus2 ⊢
          obtain ⟨dx2, fs2, ho2, mf2⟩ := hM2.ob
          obtain ⟨ts2, u1, u2⟩ := hM2.t
          have hul2 := u2.len
          rw [List.length_reverse] at hul2
          refine ⟨_, rfl, M.a, _, dx2, fs2, _, rfl, ho2, T.cl_StackMachine, T.a_StackMachine_todo, mf2.f_todo, tyL u1, ?_⟩
          refine ⟨_, rfl, _, rfl, _, _, rfl, rfl, (Nat.le_of_ble_eq_true rfl), ?_⟩
          intro p hp0
          dsimp only [tNil]
          have k4 : Sm H2 (upd H2 p (.tup [.ref r, .int ((k0 : Int) + 1)])) := Kp.new hp0
          have hM3 := hM2.sm k4
          have hs0 : ∀ b ∈ ([] : List Addr), b ∈ M.F := fun b hb => by cases hb
          have hr3 := k4 _ _ hr2 (.inl (by simp))
          have hcv3 := hcv2.go k4 (List.prefix_refl _)
          have hus3 := hus2.mono (CoV.go k4 (List.prefix_refl _))
          have fr : FrAt K M.F (upd H2 p (.tup [.ref r, .int ((k0 : Int) + 1)])) S1 tab cs (.ref p) := ⟨p, r, code, k0 + 1, rfl, upd_same, ⟨hrF, us, hr3, hus3⟩, hlt, ecs, nm, hmem⟩
          have t9 := k4 _ _ u1 (.inl (by simp))
          refine ⟨M.ta, ts2, _, rfl, rfl, t9, by rw [sizeLine_eq]; omega, ?_⟩
          obtain ⟨hM4, k5⟩ := hM3.setT (td' := cs :: td) (vs := ts2 ++ [.ref p]) (by rw [List.reverse_cons]; exact (u2.mono (FrAt.go k4 (List.prefix_refl _) hs0)).app (A2.one fr))
          have hr4 := k5.sta.keep hr3 hrF
          have hcv4 := hcv3.go k5 (List.prefix_refl _)
          have kA4 := (kA1.trans k2).trans (k4.nil.trans k5.sta)
          generalize upd (upd H2 p (.tup [.ref r, .int ((k0 : Int) + 1)])) M.ta (.lst (ts2 ++ [.ref p])) = H4 at hM4 hr4 hcv4 kA4 ⊢
          obtain ⟨dx4, fs4, ho4, mf4⟩ := hM4.ob
          have hbr := hcl _ hmem c (List.mem_of_getElem? hci)
          refine ⟨_, rfl, M.a, dx4, fs4, rfl, ho4, mf4.m_carry_out, _, rfl, _, rfl, r, us, (k0 : Int), v, rfl, rfl, sq_lst hr4, atI_nat hv, M, tab, S1, cs :: td, st, td', st2, fns, c, v, k + 1, rfl, hM4, hcv4, hbr, hfs, hst, by omega, by omega, by rw [List.length_cons]; omega, fun S5 H5 k6 hM5 p5 hl5 => ?_⟩
          exact ⟨m, Nat.lt_succ_self _, _, _, S5, td', st2, k + 1, rfl, kA4.trans k6, hM5, hgo2, pS.trans p5, by omega, by omega, by omega, by omega⟩
end
end G
set_option maxRecDepth 100000
set_option maxHeartbeats 4000000
/-! F7h: StackMachine.made. -/
namespace G
open PySem PySem.Spec PyProof.Rows L2
theorem lit_if' : ("if" : Str) = wIf := by decide +kernel
/-- what made gives for a code's text -/
def Mk2 (c : Co) (s : Str) (as : List T) : Prop := (inS s cs = false ∧ ∀ (K : PySem.W.Frag) H S a nums, XT K H a (.str s :: nums) → A2 (NumT S) as nums → CoV K H S c (.ref a)) ∨
  (inS s cs = true ∧ ∃ l, as = [.l l] ∧ ∀ (K : PySem.W.Frag) H S a, XT K H a [.str s, .int (l.length : Nat)] → CoV K H S c (.ref a))
theorem mk2_of {c : Co} {t : T} (h : CoT c t) : ∃ s as, t = .l (.w s :: as) ∧ Mk2 c s as := by
  cases c with
  | push v =>
    refine ⟨wPush, [v], h, .inl ⟨by decide +kernel, fun K H S a nums hX hA => ?_⟩⟩
    obtain ⟨u, r, rfl, ⟨n, rfl, hn⟩, e⟩ := hA
    rw [show r = [] from e] at hX
    exact ⟨a, _, rfl, hX, n, by rw [lit_push], hn⟩
  | copy n =>
    obtain ⟨l, rfl, hl⟩ := h
    refine ⟨wCopy, [.l l], rfl, .inr ⟨by decide +kernel, l, rfl, fun K H S a hX => ?_⟩⟩
    rw [hl] at hX
    exact ⟨a, _, rfl, hX, by rw [lit_copy]⟩
  | slide n =>
    obtain ⟨l, rfl, hl⟩ := h
    refine ⟨wSlide, [.l l], rfl, .inr ⟨by decide +kernel, l, rfl, fun K H S a hX => ?_⟩⟩
    rw [hl] at hX
    exact ⟨a, _, rfl, hX, by rw [lit_slide]⟩
  | op f =>
    obtain ⟨rfl, hf⟩ := h
    refine ⟨f, [], rfl, .inl ⟨?_, fun K H S a nums hX hA => ?_⟩⟩
    · cases z : inS f cs with
      | false => rfl
      | true =>
        have h1 := inS_iff.mp z
        simp only [cs, List.mem_cons, List.not_mem_nil, or_false] at h1
        rcases h1 with rfl | rfl
        · revert hf
          decide +kernel
        · revert hf
          decide +kernel
    · rw [show nums = [] from hA] at hX
      exact ⟨a, _, rfl, hX, rfl, hf⟩
  | call f =>
    refine ⟨wCall, [.w f], h, .inl ⟨by decide +kernel, fun K H S a nums hX hA => ?_⟩⟩
    obtain ⟨u, r, rfl, ⟨n, rfl, hn⟩, e⟩ := hA
    rw [show r = [] from e] at hX
    exact ⟨a, _, rfl, hX, n, by rw [lit_call], hn⟩
  | br p2 x p3 y =>
    refine ⟨wIf, [p2, p3], h, .inl ⟨by decide +kernel, fun K H S a nums hX hA => ?_⟩⟩
    obtain ⟨u, r, rfl, ⟨n, rfl, hn⟩, u2, r2, rfl, ⟨m, rfl, hm⟩, e⟩ := hA
    rw [show r2 = [] from e] at hX
    exact ⟨a, _, rfl, hX, n, m, by rw [lit_if'], hn, hm⟩
section
variable {P : Program} {w : World} {K : PySem.W.Frag} {mg : Str → Option Value} {base : Heap}
/-- self.made(instruction), while the object has its store -/
def sp_StackMachine_made (P : Program) (w : World) (K : PySem.W.Frag) : Sp := fun vs H Q _ => ∃ x dx fs iv A S s as c, vs = [.ref x, iv] ∧ H x = some (.ins (C_StackMachine K) dx fs) ∧ fs.lookup ("store" : Str) = some (.ref (SA.a A)) ∧ StoreAt P w K H A S ∧ At K H (.l (.w s :: as)) iv ∧ Mk2 c s as ∧ S.length + cTs as ≤ 6000000 ∧
  ∀ S' v H', Kp A.F H H' → StoreAt P w K H' A S' → S <+: S' → S'.length ≤ S.length + cTs as → CoV K H' S' c v → Q v H'
theorem sc_StackMachine_made : FnScope ["self", "instruction", "word", "value"] ["self", "instruction"] (defScope s_StackMachine_made) := ⟨rfl, rfl, rfl, by decide +kernel, rfl, by decide +kernel, by decide +kernel⟩
theorem f_StackMachine_made (T : Txt w K mg) : Mtb P w K mg base (C_StackMachine K) "made" 3 ["self", "instruction"] (sp_StackMachine_made P w K) := by
  have F_Store_put : Mtb P w K mg base (C_Store K) "put" 2 ["self", "value"] (sp_Store_put P w K) := f_Store_put T
  refine T.d_StackMachine_made.mtb sc_StackMachine_made (fun _ _ _ _ _ _ us hl => match us, hl with | [_, _], _ => rfl) (fun vs H Q E h => ?_) (fun f cdv A outer s H vs Q E hr h => ?_)
  · obtain ⟨_, _, _, _, _, _, _, _, _, rfl, _⟩ := h
    rfl
  · obtain ⟨x, dx, fs, iv, A0, S, s1, as, c, rfl, hx, hst, hS, h, hmk, hz, q⟩ := h
    refine ⟨_, (pss_cons (ps_set (i := 2) sc_StackMachine_made.nd rfl (Or.inl rfl) (pe_ix ix_T (pv 1) pe_int (fun _ _ => rfl)))
      (pss_cons (ps_if (pt_cmpR op_in_seq (pv 2) (pe_tupT (pa_cons pe_str (pa_cons pe_str pa_nil))) (by rfl)) (pss_one (ps_ret (pe_tupX (pa_cons (pv 2) (pa_cons (pe_callB call_lenT (by rfl) T.n_len PySem.boot_len (pa_cons (pe_ix ix_T (pv 1) pe_int (fun _ _ => rfl)) pa_nil)) pa_nil))))) pss_nil)
      (pss_one (ps_ret (pe_op op_catX (pe_tupX (pa_cons (pv 2) pa_nil)) (pe_callTy call_tupleX (by rfl) T.n_tuple PyProof.Rows.boot_tuple (pa_cons (pe_lc (own := [("value", 3)]) rfl sc_StackMachine_made.nd (pi_tup (pe_slice sl_T (pv 1) (po_some pe_int) po_none)) (blkOk_by (N := ["self", "instruction", "word", "value"]) (sc := defScope s_StackMachine_made) (by decide +kernel)) (fun _ _ _ _ _ => (pg_name (i := 3) sc_StackMachine_made.nd rfl (Or.inl rfl))) (fun _ _ _ _ _ => pts_nil) (fun _ _ _ _ _ => (pe_K (te := fun K => tMeth (C_Store K) "put" (sp_Store_put P w K) [] E0 (tFld K (tVar 0) "store") (tCons (tVar 3) tNil)) K rfl <| pe_m (pe_fld (pv 0) rfl) T.cl_Store F_Store_put (hr.mono (by decide)) (pa_cons (pv 3) pa_nil)))) pa_nil))))))), ?_⟩
    have hxF := hS.insF hx
    refine ⟨_, rfl, _, 0, _, h, rfl, rfl, fun v1 g1 => ?_⟩
    obtain rfl := at_w g1
    refine ⟨_, rfl, [.w wCopy, .w wSlide], aa_cons (by rw [lit_copy]; exact at_wi) (aa_cons (by rw [lit_slide]; exact at_wi) aa_nil), zle (Nat.le_of_ble_eq_true rfl), fun p2 H2 k2 g2 => ?_⟩
    obtain ⟨p2', xs2, e2, hX2, hA2⟩ := id g2
    cases e2
    obtain rfl := aa_words (ss := cs) hA2
    have e3 : inV (V.str s1) (cs.map V.str) = inS s1 cs := inV_strs s1 cs
    have hS2 := hS.sm k2
    have h2 := k2.at_ h
    have hx2 := k2 _ _ hx (.inl (by simp))
    rcases hmk with ⟨hc, hfin⟩ | ⟨hc, l, rfl, hfin⟩
    · refine ⟨p2, _, rfl, .inr hX2.sq, rfl, flatV_strs cs, false, by rw [e3, hc] <;> rfl, iteF ?_⟩
      refine ⟨_, rfl, zle (Nat.le_of_ble_eq_true rfl), fun p3 o3 hp3 ho3 => ?_⟩
      have k3 : Sm H2 (upd H2 p3 (.frz o3 (.tup [.str s1]))) := Kp.new hp3
      have hX3 : XT K (upd H2 p3 (.frz o3 (.tup [.str s1]))) p3 [.str s1] := XT.new ho3
      have hS3 := hS2.sm k3
      have h3 := k3.at_ h2
      have hx3 := k3 _ _ hx2 (.inl (by simp))
      have k03 := k2.trans k3
      generalize upd H2 p3 (.frz o3 (.tup [.str s1])) = H3 at k3 hX3 hS3 h3 hx3 k03 ⊢
      refine ⟨_, rfl, _, rfl, _, h3, .inl ⟨1, rfl, rfl, Nat.le_refl 1, by rw [List.length_cons]; omega, fun p4 H4 k4 h4 => ?_⟩⟩
      have h4 : At K H4 (.l as) (.ref p4) := h4
      obtain ⟨p4', xs4, e4, hX4, hA4⟩ := id h4
      cases e4
      have hS4 := hS3.sm k4
      have hx4 := k4 _ _ hx3 (.inl (by simp))
      have k04 := k03.trans k4
      refine ⟨p4, rfl, ⟨xs4, hX4.sq⟩, fun D hD => lc_y walk_tup (fun i H' => ∃ acc S', Kp A0.F H4 H' ∧ StoreAt P w K H' A0 S' ∧ S <+: S' ∧ S'.length ≤ S.length + cTs (as.take i) ∧ H' D = some (.lst acc) ∧ A2 (NumT S') (as.take i) acc) ⟨[], S, (Kp.new hD : Sm H4 _).nil, hS4.sm (Kp.new hD), List.prefix_refl _, Nat.le_refl _, upd_same, rfl⟩ (fun i H' _ ⟨_, _, k, _⟩ => (k.xt hX4).sq) ?_ ?_⟩
      · rintro i xv Hb Hc hii ⟨acc, S9, k19, hS19, p19, hl19, hacc, aacc⟩ ⟨rfl, hxi⟩
        obtain ⟨t, ht, hAt⟩ := aa_at hA4 hxi
        obtain ⟨ents19, ks19, hB19⟩ := id hS19
        obtain ⟨dxs19, fss19, hos19, _, _, _, _, nm19⟩ := hB19.ob
        have e9 : as.take (i + 1) = as.take i ++ [t] := by
          rw [List.take_add_one, ht]
          rfl
        have hcs : cTs (as.take (i + 1)) = cTs (as.take i) + (cT t + 1) := by
          rw [e9, cTs_app]
          rfl
        have hcl : cTs (as.take (i + 1)) ≤ cTs as := by
          conv => rhs; rw [← List.take_append_drop (i + 1) as]
          rw [cTs_app]
          omega
        have hDF := (hS4.fresh hD).2
        have hal := aacc.len
        have hlt := cTs_len (as.take i)
        have hx9 := k19.keep hx4 hxF
        refine ⟨rfl, _, rfl, x, _, dx, fs, _, rfl, hx9, T.cl_StackMachine, T.a_StackMachine_store, hst, A0.a, dxs19, fss19, rfl, hos19, nm19.m_put, _, rfl, A0, S9, t, _, rfl, hS19, k19.at_ hAt, by omega, fun S10 n10 H20 k20 hS20 p20 hl20 hn20 => ?_⟩
        have hacc20 := k20.keep hacc hDF
        have k21 : Kp [D] H20 (upd H20 D (.lst (acc ++ [.int (n10 : Int)]))) := Kp.own hacc20
        refine ⟨acc, hacc20, by rw [sizeLine_eq]; omega, _, S10, (k19.trans k20).set hD, hS20.upd hS4 hD k21, p19.trans p20, by omega, upd_same, ?_⟩
        rw [e9]
        exact (aacc.mono (NumT.mono p20)).app (A2.one ⟨n10, rfl, hn20⟩)
      · rintro Hb ⟨acc, S9, k19, hS19, p19, hl19, hacc, aacc⟩
        have hil : xs4.length = as.length := aa_len hA4
        rw [hil, List.take_length] at aacc hl19
        have hlt := cTs_len as
        have hal := aacc.len
        refine ⟨D, acc, rfl, sq_lst hacc, fun nv o hnv ho => ?_⟩
        have k20 : Sm Hb (upd Hb nv (.frz o (.tup acc))) := Kp.new hnv
        have hX5 : XT K (upd Hb nv (.frz o (.tup acc))) nv acc := XT.new ho
        have hS20 := hS19.sm k20
        have hX35 := k20.xt (k19.xt (k4.xt hX3))
        have kA := ((k04.nil (F := A0.F)).trans k19).trans k20.nil
        refine ⟨p3, nv, [.str s1], acc, rfl, rfl, hX35, hX5, by rw [sizeLine_eq, List.length_singleton]; omega, (fun e => by cases e), fun _ e => ?_, fun _ _ p6 o6 hp6 ho6 => ?_⟩
        · subst e
          exact q S9 _ _ kA hS20 p19 hl19 (hfin K _ S9 p3 [] hX35 aacc)
        · have k6 : Sm (upd Hb nv (.frz o (.tup acc))) (upd (upd Hb nv (.frz o (.tup acc))) p6 (.frz o6 (.tup ([.str s1] ++ acc)))) := Kp.new hp6
          exact q S9 _ _ (kA.trans k6.nil) (hS20.sm k6) p19 hl19 (hfin K _ S9 p6 acc (XT.new ho6) aacc)
    · refine ⟨p2, _, rfl, .inr hX2.sq, rfl, flatV_strs cs, true, by rw [e3, hc] <;> rfl, iteT ?_⟩
      refine ⟨_, rfl, _, rfl, _, 1, _, h2, rfl, rfl, fun v9 g9 => ⟨_, l, rfl, g9, zle (Nat.le_of_ble_eq_true rfl), fun p o hp ho => ?_⟩⟩
      have k6 : Sm H2 (upd H2 p (.frz o (.tup [.str s1, .int (l.length : Nat)]))) := Kp.new hp
      exact q S _ _ (k2.trans k6).nil (hS2.sm k6) (List.prefix_refl _) (Nat.le_add_right _ _) (hfin K _ S p (XT.new ho))
end
end G
set_option maxRecDepth 100000
set_option maxHeartbeats 4000000
/-! F7i: StackMachine(..). -/
namespace G
open PySem PySem.Spec PyProof.Rows L2
theorem F2_at {α β : Type} {R : α → β → Prop} : ∀ {as : List α} {bs : List β} {i : Nat} {b : β}, F2 R as bs → bs[i]? = some b → ∃ a, as[i]? = some a ∧ R a b
  | [], bs, i, b, h, e => by
    rw [show bs = [] from h] at e
    cases e
  | a :: as, bs, 0, b, h, e => by
    obtain ⟨b', r, rfl, h1, h2⟩ := h
    cases e
    exact ⟨a, rfl, h1⟩
  | a :: as, bs, i + 1, b, h, e => by
    obtain ⟨b', r, rfl, h1, h2⟩ := h
    exact F2_at (as := as) h2 (show r[i]? = some b from e)
theorem F2_len {α β : Type} {R : α → β → Prop} : ∀ {as : List α} {bs : List β}, F2 R as bs → bs.length = as.length
  | [], bs, h => by
    rw [show bs = [] from h]
    rfl
  | a :: as, bs, h => by
    obtain ⟨b', r, rfl, h1, h2⟩ := h
    rw [List.length_cons, List.length_cons, F2_len h2]
theorem RtAt.more {K : PySem.W.Frag} {F : List Addr} {H : Hp} {S : List T} {kvs : List (Key × V)} {q : T × List Co} {b : Addr} (h : RtAt K F H S kvs q) (hb : H b = Option.none) : RtAt K (b :: F) H S kvs q := by
  obtain ⟨n, r, h1, h2, h3, us, h4, h5⟩ := h
  refine ⟨n, r, h1, h2, ?_, us, h4, h5⟩
  simp only [List.mem_cons, not_or]
  refine ⟨?_, h3⟩
  rintro rfl
  rw [hb] at h4
  cases h4
theorem RtAt.sub {K : PySem.W.Frag} {F F' : List Addr} {H : Hp} {S : List T} {kvs : List (Key × V)} {q : T × List Co} (h : RtAt K F H S kvs q) (hs : ∀ b ∈ F', b ∈ F) : RtAt K F' H S kvs q := by
  obtain ⟨n, r, h1, h2, h3, us, h4, h5⟩ := h
  exact ⟨n, r, h1, h2, fun z => h3 (hs _ z), us, h4, h5⟩
section
variable {P : Program} {w : World} {K : PySem.W.Frag} {mg : Str → Option Value} {base : Heap}
def sp_StackMachine_init (P : Program) (w : World) (K : PySem.W.Frag) : Sp := fun vs H Q _ => ∃ x dx pv inl ivs ins ts tab nm0 code0 tab', vs = [.ref x, pv, .ref inl] ∧ H x = some (.ins (C_StackMachine K) dx []) ∧ At K H (.l ts) pv ∧ H inl = some (.lst ivs) ∧ AtAll K H ins ivs ∧ F2 RtT tab ts ∧ tab = (nm0, code0) :: tab' ∧ nodupT (tab.map (·.1)) = true ∧
  100 + cTs ts + cTs ins ≤ 3000000 ∧ ∀ M S H', M.a = x → Kp [x] H H' → (∀ b ∈ M.F, b ≠ x → H b = none) → SMAt P w K H' M tab S [code0] ins.reverse 0 → S.length ≤ 100 + 2 * cTs ts + cTs ins → Q .non H'
theorem sc_StackMachine_init : FnScope ["self", "program", "inputs", "routine", "value", "one"] ["self", "program", "inputs"] (defScope s_StackMachine_init) := ⟨rfl, rfl, rfl, by decide +kernel, rfl, by decide +kernel, by decide +kernel⟩
theorem mk_StackMachine (T : Txt w K mg) : Mkb P w K mg base "StackMachine" (C_StackMachine K) 4 ["self", "program", "inputs"] (sp_StackMachine_init P w K) := by
  have F_Store : Mkb P w K mg base "Store" (C_Store K) 1 ["self"] (sp_Store_init P w K) := mk_Store T
  have F_Store_put : Mtb P w K mg base (C_Store K) "put" 2 ["self", "value"] (sp_Store_put P w K) := f_Store_put T
  have F_Store_made : Mtb P w K mg base (C_StackMachine K) "made" 3 ["self", "instruction"] (sp_StackMachine_made P w K) := f_StackMachine_made T
  refine T.d_StackMachine_init.mkb T.g_StackMachine sc_StackMachine_init (fun _ _ _ _ _ _ us hl => match us, hl with | [_, _, _], _ => rfl) (fun vs H Q E h => ?_) (fun f cdv A outer s H vs Q E hr h => ?_)
  · obtain ⟨_, _, _, _, _, _, _, _, _, _, _, rfl, _⟩ := h
    rfl
  · obtain ⟨x, dx, pv0, inl, ivs, ins, ts, tab, nm0, code0, tab', rfl, hx, hp, hin, hA, hRt, htab, hnd, hz, q⟩ := h
    have hu := hu_of hr
    refine ⟨_, (pss_cons (ps_fld (pv 0) (pe_mk0 F_Store (hr.mono (by decide))) rfl)
      (pss_cons (ps_fld (pv 0) (pe_m (pe_fld (pv 0) rfl) T.cl_Store F_Store_put (hr.mono (by decide)) (pa_cons pe_str pa_nil)) rfl)
      (pss_cons (ps_fld (pv 0) pe_dnewK rfl)
      (pss_cons (ps_for PassesOwn.never rfl (pi_tup (pv 1)) (pg_name (i := 3) sc_StackMachine_init.nd rfl (Or.inl rfl)) (pss_one (ps_dput hu (pe_fld (pv 0) rfl) (pe_m (pe_fld (pv 0) rfl) T.cl_Store F_Store_put (hr.mono (by decide)) (pa_cons (pe_ix ix_T (pv 3) pe_int (fun _ _ => rfl)) pa_nil)) (pe_lc (own := [("one", 5)]) rfl sc_StackMachine_init.nd (pi_tup (pe_slice sl_T (pv 3) (po_some pe_int) po_none)) (blkOk_by (N := ["self", "program", "inputs", "routine", "value", "one"]) (sc := defScope s_StackMachine_init) (by decide +kernel)) (fun _ _ _ _ _ => (pg_name (i := 5) sc_StackMachine_init.nd rfl (Or.inl rfl))) (fun _ _ _ _ _ => pts_nil) (fun _ _ _ _ _ => (pe_K (te := fun K => tMeth (C_StackMachine K) "made" (sp_StackMachine_made P w K) [] E0 (tVar 0) (tCons (tVar 5) tNil)) K rfl <| pe_m (pv 0) T.cl_StackMachine F_Store_made (hr.mono (by decide)) (pa_cons (pv 5) pa_nil)))) rfl)))
      (pss_cons (ps_fld (pv 0) (pe_lc (own := [("value", 4)]) rfl sc_StackMachine_init.nd (pi_list (pv 2)) (blkOk_by (N := ["self", "program", "inputs", "routine", "value", "one"]) (sc := defScope s_StackMachine_init) (by decide +kernel)) (fun _ _ _ _ _ => (pg_name (i := 4) sc_StackMachine_init.nd rfl (Or.inl rfl))) (fun _ _ _ _ _ => pts_nil) (fun _ _ _ _ _ => (pe_K (te := fun K => tMeth (C_Store K) "put" (sp_Store_put P w K) [] E0 (tFld K (tVar 0) "store") (tCons (tVar 4) tNil)) K rfl <| pe_m (pe_fld (pv 0) rfl) T.cl_Store F_Store_put (hr.mono (by decide)) (pa_cons (pv 4) pa_nil)))) rfl)
      (pss_cons (ps_fld (pv 0) (pe_lst (pa_cons (pe_tup (pa_cons (pe_dget hu (pe_fld (pv 0) rfl) (pe_m (pe_fld (pv 0) rfl) T.cl_Store F_Store_put (hr.mono (by decide)) (pa_cons (pe_ix ix_T (pe_ix ix_T (pv 1) pe_int (fun _ _ => rfl)) pe_int (fun _ _ => rfl)) pa_nil)) (fun _ _ => rfl)) (pa_cons pe_int pa_nil))) pa_nil)) rfl)
      (pss_one (ps_fld (pv 0) pe_int rfl)))))))), ?_⟩
    have hyl : cT (.w wYes) = 2 := rfl
    have htl : ts.length = tab.length := F2_len hRt
    obtain ⟨pa, pxs, rfl, hpX, hpA⟩ := id hp
    -- the store
    intro xs dxs hxs hdxs hne
    have k0 : Sm H (upd (upd H dxs (.own xs)) xs (.ins (C_Store K) dxs [])) := (Kp.new hdxs).set hxs
    refine ⟨xs, dxs, rfl, upd_same, fun A0 H1 ha k1 hnew hS1 => ⟨rfl, ?_⟩⟩
    have kA1 : Sm H H1 := Kp.late k0 k1 (fun b hb _ => by rw [List.mem_singleton.mp hb]; exact hxs)
    have fA : ∀ b ∈ A0.F, H b = none := fun b hb => k0.none (hnew b hb)
    have fa0 : H A0.a = none := by rw [ha]; exact hxs
    have xA : x ≠ A0.a := by
      rintro rfl
      rw [hx] at fa0
      cases fa0
    have xF : x ∉ A0.F := fun z => by
      have := fA x z
      rw [hx] at this
      cases this
    have stx : ∀ {Ha Hb : Hp} {S : List G.T}, StoreAt P w K Ha A0 S → Kp [x] Ha Hb → StoreAt P w K Hb A0 S := fun hS kp => hS.kp kp (fun b hb => by rw [List.mem_singleton.mp hb]; exact ⟨xA, xF⟩)
    have hx1 := kA1 _ _ hx (.inl (by simp))
    refine ⟨_, rfl, x, _, dx, [], rfl, hx1, T.cl_StackMachine, T.a_StackMachine_store, (Nat.le_of_ble_eq_true rfl), ?_⟩
    obtain ⟨F1, hF1⟩ : ∃ F1, F1 = putF ("store" : Str) (V.ref xs) [] := ⟨_, rfl⟩
    rw [← hF1]
    have kB1 : Kp [x] H1 (upd H1 x (.ins (C_StackMachine K) dx F1)) := Kp.ins (by simp) hx1
    have hx2 : (upd H1 x (.ins (C_StackMachine K) dx F1)) x = some (.ins (C_StackMachine K) dx F1) := upd_same
    have kA2 := kA1.nil.trans kB1
    have hS2 := stx hS1 kB1
    generalize upd H1 x (.ins (C_StackMachine K) dx F1) = H2 at hx2 kA2 hS2 ⊢
    have l2 : F1.lookup ("store" : Str) = some (.ref A0.a) := by rw [hF1, ha]; rfl
    -- yes
    obtain ⟨ents2, ks2, hB2⟩ := id hS2
    obtain ⟨dxa2, fsa2, hoa2, _, _, _, _, nm2⟩ := hB2.ob
    refine ⟨_, rfl, x, _, dx, F1, _, rfl, hx2, T.cl_StackMachine, T.a_StackMachine_store, l2, A0.a, dxa2, fsa2, rfl, hoa2, nm2.m_put, A0, [.l []], .w wYes, _, rfl, hS2, by rw [show ("yes" : Str) = wYes by decide +kernel]; exact at_wi, by show 1 + 2 ≤ _; omega, fun S3 ny H3 k3 hS3 p3 hl3 hy3 => ?_⟩
    have hl3 : S3.length ≤ 3 := hl3
    have kA3 : Kp [x] H H3 := Kp.late kA2 k3 (fun b hb _ => fA b hb)
    have hx3 := k3.keep hx2 xF
    refine ⟨_, rfl, x, _, dx, F1, rfl, hx3, T.cl_StackMachine, T.a_StackMachine_yes, by rw [hF1]; exact (Nat.le_of_ble_eq_true rfl), ?_⟩
    obtain ⟨Fy, hF2⟩ : ∃ F', F' = putF ("yes" : Str) (V.int (ny : Int)) F1 := ⟨_, rfl⟩
    rw [← hF2]
    have kB3 : Kp [x] H3 (upd H3 x (.ins (C_StackMachine K) dx Fy)) := Kp.ins (by simp) hx3
    have hx4 : (upd H3 x (.ins (C_StackMachine K) dx Fy)) x = some (.ins (C_StackMachine K) dx Fy) := upd_same
    have kA4 := kA3.trans kB3
    have hS4 := stx hS3 kB3
    generalize upd H3 x (.ins (C_StackMachine K) dx Fy) = H4 at hx4 kA4 hS4 ⊢
    rw [hF1] at hF2
    -- routines
    intro da hda
    have xda : da ≠ x := by
      rintro rfl
      rw [hx4] at hda
      cases hda
    have fda : H da = none := kA4.free (by simp [xda]) hda
    obtain ⟨nda1, nda2⟩ := hS4.fresh hda
    have k5 : Sm H4 (upd H4 da (.dK [])) := Kp.new hda
    have hd5 : (upd H4 da (.dK [])) da = some (.dK []) := upd_same
    have hx5 := k5 _ _ hx4 (.inl (by simp))
    have hS5 := hS4.sm k5
    have kA5 := kA4.trans k5.nil
    refine ⟨_, rfl, x, _, dx, Fy, rfl, hx5, T.cl_StackMachine, T.a_StackMachine_routines, by rw [hF2]; exact (Nat.le_of_ble_eq_true rfl), ?_⟩
    generalize upd H4 da (.dK []) = H5 at hd5 hx5 hS5 kA5 ⊢
    obtain ⟨F3, hF3⟩ : ∃ F3, F3 = putF ("routines" : Str) (V.ref da) Fy := ⟨_, rfl⟩
    rw [← hF3]
    have kB5 : Kp [x] H5 (upd H5 x (.ins (C_StackMachine K) dx F3)) := Kp.ins (by simp) hx5
    have hx6 : (upd H5 x (.ins (C_StackMachine K) dx F3)) x = some (.ins (C_StackMachine K) dx F3) := upd_same
    have hd6 := kB5 _ _ hd5 (.inl (by simp [xda]))
    have kA6 := kA5.trans kB5
    have hS6 := stx hS5 kB5
    generalize upd H5 x (.ins (C_StackMachine K) dx F3) = H6 at hx6 hd6 kA6 hS6 ⊢
    rw [hF2] at hF3
    have l6 : F3.lookup ("store" : Str) = some (.ref A0.a) := by rw [hF3, ha]; rfl
    have l6f : F3.lookup ("routines" : Str) = some (.ref da) := by rw [hF3]; rfl
    have l6m : F3.lookup ("made" : Str) = none := by rw [hF3]; rfl
    -- the program
    have hpl : pxs.length = ts.length := aa_len hpA
    refine ⟨_, rfl, pa, rfl, ⟨pxs, (kA6.xt hpX).sq⟩, for_tup (K := K) (a := pa) (xs := pxs) (fun i σ H' => ∃ v3 v5 kvs S', σ = [some (.ref x), some (.ref pa), some (.ref inl), v3, none, v5] ∧ Kp [x] H H' ∧ H' x = some (.ins (C_StackMachine K) dx F3) ∧ StoreAt P w K H' A0 S' ∧ S3 <+: S' ∧ S'.length ≤ 3 + cTs (ts.take i) ∧ H' da = some (.dK kvs) ∧ kvs.length ≤ i ∧
      (∀ (j : Nat) g, j < i → tab[j]? = some g → RtAt K (x :: A0.F) H' S' kvs g)) ⟨none, none, [], S3, rfl, kA6, hx6, hS6, List.prefix_refl _, hl3, hd6, Nat.le_refl _, fun j _ hj => absurd hj (Nat.not_lt_zero j)⟩ (fun i σ H' _ ⟨_, _, _, _, _, k, _⟩ => (k.xt hpX).sq) ?_ ?_⟩
    · rintro i xv σ Ha hxi ⟨v3, v5, kvs, S1, rfl, kA, hxa, hSa, pS, hl, hda', hkl, hall⟩
      obtain ⟨t, ht, hAt0⟩ := aa_at hpA hxi
      obtain ⟨g, hg, is, rfl, hco⟩ := F2_at hRt ht
      have hAt := kA.at_ hAt0
      have hil : i < pxs.length := (List.getElem?_eq_some_iff.mp hxi).1
      have hcs : cTs (ts.take (i + 1)) = cTs (ts.take i) + (cT (.l (g.1 :: is)) + 1) := by
        have e9 : ts.take (i + 1) = ts.take i ++ [.l (g.1 :: is)] := by
          rw [List.take_add_one, ht]
          rfl
        rw [e9, cTs_app]
        rfl
      have hct : cT (.l (g.1 :: is)) = 3 + cT g.1 + cTs is := by
        show 2 + (cT g.1 + 1 + cTs is) = _
        omega
      have hcl : cTs (ts.take (i + 1)) ≤ cTs ts := by
        conv => rhs; rw [← List.take_append_drop (i + 1) ts]
        rw [cTs_app]
        omega
      have htlen := cTs_len ts
      refine ⟨_, rfl, _, rfl, _, hAt, .inl ⟨1, rfl, rfl, Nat.le_refl 1, by rw [List.length_cons]; omega, fun p4 H4 k4 h4 => ?_⟩⟩
      have h4 : At K H4 (.l is) (.ref p4) := h4
      obtain ⟨p4', xs4, e4, hX4, hA4⟩ := id h4
      cases e4
      have hS4' := hSa.sm k4
      have hx4' := k4 _ _ hxa (.inl (by simp))
      have hda4 := k4 _ _ hda' (.inl (by simp))
      refine ⟨p4, rfl, ⟨xs4, hX4.sq⟩, fun D hD => lc_y walk_tup (fun i H' => ∃ acc S', Kp A0.F H4 H' ∧ StoreAt P w K H' A0 S' ∧ S1 <+: S' ∧ S'.length ≤ S1.length + cTs (is.take i) ∧ H' D = some (.lst acc) ∧ A2 (CoV K H' S') (g.2.take i) acc) ⟨[], S1, (Kp.new hD : Sm H4 _).nil, hS4'.sm (Kp.new hD), List.prefix_refl _, Nat.le_refl _, upd_same, rfl⟩ (fun i H' _ ⟨_, _, k, _⟩ => (k.xt hX4).sq) ?_ ?_⟩
      · rintro j xv2 Hb Hc hjj ⟨acc, S9, k19, hS19, p19, hl19, hacc, aacc⟩ ⟨rfl, hxj⟩
        obtain ⟨t2, ht2, hAt2⟩ := aa_at hA4 hxj
        obtain ⟨c, hc, hct2⟩ := F2_at hco ht2
        obtain ⟨s, as, rfl, hmk⟩ := mk2_of hct2
        have e9 : is.take (j + 1) = is.take j ++ [.l (.w s :: as)] := by
          rw [List.take_add_one, ht2]
          rfl
        have e10 : g.2.take (j + 1) = g.2.take j ++ [c] := by
          rw [List.take_add_one, hc]
          rfl
        have hcs2 : cTs (is.take (j + 1)) = cTs (is.take j) + (cT (.l (.w s :: as)) + 1) := by
          rw [e9, cTs_app]
          rfl
        have hct3 : cT (.l (.w s :: as)) = 5 + cTs as := by
          show 2 + (2 + 1 + cTs as) = _
          omega
        have hcl2 : cTs (is.take (j + 1)) ≤ cTs is := by
          conv => rhs; rw [← List.take_append_drop (j + 1) is]
          rw [cTs_app]
          omega
        have hDF := (hS4'.fresh hD).2
        have hal := aacc.len
        have hlt := cTs_len (is.take j)
        have hgl : (g.2.take j).length ≤ cTs is := by
          have := F2_len hco
          have h2 := cTs_len is
          rw [List.length_take]
          omega
        have hx9 := k19.keep hx4' xF
        refine ⟨rfl, _, rfl, x, dx, F3, rfl, hx9, l6m, _, rfl, x, dx, F3, _, A0, S9, s, as, c, rfl, hx9, l6, hS19, k19.at_ hAt2, hmk, by omega, fun S10 v10 H20 k20 hS20 p20 hl20 hcv => ?_⟩
        have hacc20 := k20.keep hacc hDF
        have k21 : Kp [D] H20 (upd H20 D (.lst (acc ++ [v10]))) := Kp.own hacc20
        refine ⟨acc, hacc20, by rw [sizeLine_eq]; omega, _, S10, (k19.trans k20).set hD, hS20.upd hS4' hD k21, p19.trans p20, by omega, upd_same, ?_⟩
        rw [e10]
        exact ((aacc.mono (CoV.go k20 p20)).mono (CoV.go k21 (List.prefix_refl _))).app (A2.one (CoV.go k21 (List.prefix_refl _) _ _ hcv))
      · rintro Hb ⟨acc, S9, k19, hS19, p19, hl19, hacc, aacc⟩
        have e1 : xs4.length = is.length := aa_len hA4
        have e2 : is.length = g.2.length := F2_len hco
        rw [e1, List.take_length] at hl19
        rw [e1, e2, List.take_length] at aacc
        obtain ⟨dnx, dnF⟩ : D ≠ x ∧ D ∉ A0.F := by
          refine ⟨?_, (hS4'.fresh hD).2⟩
          rintro rfl
          rw [hx4'] at hD
          cases hD
        have dnd : D ≠ da := by
          rintro rfl
          rw [hda4] at hD
          cases hD
        have hxb := k19.keep hx4' xF
        have hdb := k19.keep hda4 nda2
        have hAtb := k19.at_ (k4.at_ hAt)
        obtain ⟨entsb, ksb, hBb⟩ := id hS19
        obtain ⟨dxb, fsb, hob, _, _, _, _, nmb⟩ := hBb.ob
        refine ⟨_, rfl, x, _, dx, F3, _, rfl, hxb, T.cl_StackMachine, T.a_StackMachine_routines, l6f, _, rfl, x, _, dx, F3, _, rfl, hxb, T.cl_StackMachine, T.a_StackMachine_store, l6, A0.a, dxb, fsb, rfl, hob, nmb.m_put, ?_⟩
        refine ⟨_, rfl, _, 0, _, hAtb, rfl, rfl, fun v1 h1 => ⟨A0, S9, g.1, v1, rfl, hS19, h1, by omega, fun S10 n10 H20 k20 hS20 p20 hl20 hn20 => ?_⟩⟩
        have hx20 := k20.keep hxb xF
        have hd20 := k20.keep hdb nda2
        have hacc20 := k20.keep hacc dnF
        have aacc20 := aacc.mono (CoV.go k20 p20)
        refine ⟨da, _, rfl, DPut.k (k := Sum.inl (n10 : Int)) hd20 (by rw [sizeLine_eq]; omega), ?_⟩
        have k12 : Kp [da] H20 (upd H20 da (.dK (putK kvs (Sum.inl (n10 : Int)) (.ref D)))) := Kp.ownD hd20
        have k1920 := k19.trans k20
        refine ⟨_, _, _, S10, rfl, (Kp.late (kA.trans k4.nil) k1920 (fun b hb _ => fA b hb)).set fda, k12.keep hx20 (by simp [Ne.symm xda]), hS20.kp k12 (fun b hb => by rw [List.mem_singleton.mp hb]; exact ⟨nda1, nda2⟩), pS.trans (p19.trans p20), by omega, upd_same, Nat.le_trans (length_putK _ _ _) (by omega), fun j g' hj hgj => ?_⟩
        by_cases hji : j = i
        · subst hji
          rw [hg] at hgj
          cases hgj
          exact ⟨n10, D, hn20, by rw [valV_put, if_pos rfl], by simp [dnx, dnF], acc, k12.keep hacc20 (by simp [dnd]), aacc20.mono (CoV.go k12 (List.prefix_refl _))⟩
        · obtain ⟨n1, r1, g1, g2, g3, us1, g4, g5⟩ := hall j g' (by omega) hgj
          have rd : r1 ≠ da := by
            rintro rfl
            rw [hda'] at g4
            cases g4
          have g1' := pre_get (p19.trans p20) g1
          have g3b : r1 ∉ A0.F := fun z => g3 (List.mem_cons_of_mem _ z)
          refine ⟨n1, r1, g1', ?_, g3, us1, k12.keep (k1920.keep (k4 _ _ g4 (.inl (by simp))) g3b) (by simp [rd]), ((g5.mono (CoV.go k4 (List.prefix_refl _))).mono (CoV.go k1920 (p19.trans p20))).mono (CoV.go k12 (List.prefix_refl _))⟩
          rw [valV_put, if_neg, g2]
          intro z
          have : n1 = n10 := by have := Sum.inl.inj z; omega
          subst this
          rw [hn20] at g1'
          have e1 : g.1 = g'.1 := Option.some.inj g1'
          exact hji (nodupT_at hnd (show (tab.map (·.1))[j]? = some g.1 by rw [List.getElem?_map, hgj, e1]; rfl) (by rw [List.getElem?_map, hg]; rfl))
    · rintro σ Ha ⟨v3, v5, kvs, S7, rfl, kA, hxa, hSa, pS, hl, hda', hkl, hall⟩
      rw [hpl] at hall
      rw [hpl, List.take_length] at hl
      have hallm : ∀ g ∈ tab, RtAt K (x :: A0.F) Ha S7 kvs g := fun g hg => by
        obtain ⟨j, hj⟩ := List.mem_iff_getElem?.mp hg
        exact hall j g (by rw [htl]; exact (List.getElem?_eq_some_iff.mp hj).1) hj
      have inlx : inl ≠ x := by
        rintro rfl
        rw [hx] at hin
        cases hin
      have hina := kA.keep hin (by simp [inlx])
      have hil : ivs.length = ins.length := aa_len hA
      -- stack
      refine ⟨_, rfl, inl, rfl, ⟨ivs, sq_lst hina⟩, fun ka hka => lc_y walk_list (fun i H' => ∃ acc S', Kp A0.F Ha H' ∧ StoreAt P w K H' A0 S' ∧ S7 <+: S' ∧ S'.length ≤ S7.length + cTs (ins.take i) ∧ H' ka = some (.lst acc) ∧ A2 (NumT S') (ins.take i) acc) ⟨[], S7, (Kp.new hka : Sm Ha _).nil, hSa.sm (Kp.new hka), List.prefix_refl _, Nat.le_refl _, upd_same, rfl⟩ (fun i H' _ ⟨_, _, k, _⟩ => sq_lst (k.keep hina (fun z => by
          have := fA inl z
          rw [hin] at this
          cases this))) ?_ ?_⟩
      · rintro i xv Hb Hc hii ⟨acc, S9, k19, hS19, p19, hl19, hacc, aacc⟩ ⟨rfl, hxi⟩
        obtain ⟨t, ht, hAt⟩ := aa_at hA hxi
        have hxb := k19.keep hxa xF
        obtain ⟨ents19, ks19, hB19⟩ := id hS19
        obtain ⟨dxs19, fss19, hos19, _, _, _, _, nm19⟩ := hB19.ob
        have e9 : ins.take (i + 1) = ins.take i ++ [t] := by
          rw [List.take_add_one, ht]
          rfl
        have hcs : cTs (ins.take (i + 1)) = cTs (ins.take i) + (cT t + 1) := by
          rw [e9, cTs_app]
          rfl
        have hcl : cTs (ins.take (i + 1)) ≤ cTs ins := by
          conv => rhs; rw [← List.take_append_drop (i + 1) ins]
          rw [cTs_app]
          omega
        have hDF := (hSa.fresh hka).2
        have hal := aacc.len
        have hlt := cTs_len (ins.take i)
        refine ⟨rfl, _, rfl, x, _, dx, F3, _, rfl, hxb, T.cl_StackMachine, T.a_StackMachine_store, l6, A0.a, dxs19, fss19, rfl, hos19, nm19.m_put, _, rfl, A0, S9, t, _, rfl, hS19, k19.at_ (kA.at_ hAt), by omega, fun S10 n10 H20 k20 hS20 p20 hl20 hn20 => ?_⟩
        have hacc20 := k20.keep hacc hDF
        have k21 : Kp [ka] H20 (upd H20 ka (.lst (acc ++ [.int (n10 : Int)]))) := Kp.own hacc20
        refine ⟨acc, hacc20, by rw [sizeLine_eq]; omega, _, S10, (k19.trans k20).set hka, hS20.upd hSa hka k21, p19.trans p20, by omega, upd_same, ?_⟩
        rw [e9]
        exact (aacc.mono (NumT.mono p20)).app (A2.one ⟨n10, rfl, hn20⟩)
      · rintro Hb ⟨acc, S9, k19, hS19, p19, hl19, hacc, aacc⟩
        rw [hil, List.take_length] at aacc hl19
        have kax : ka ≠ x := by
          rintro rfl
          rw [hxa] at hka
          cases hka
        have kad : ka ≠ da := by
          rintro rfl
          rw [hda'] at hka
          cases hka
        have fka : H ka = none := kA.free (by simp [kax]) hka
        have kas := hSa.fresh hka
        have kAb : Kp [x] H Hb := Kp.late kA k19 (fun b hb _ => fA b hb)
        have hxb := k19.keep hxa xF
        have hdb := k19.keep hda' nda2
        have hallb : ∀ g ∈ tab, RtAt K (ka :: x :: A0.F) Hb S9 kvs g := fun g hg => ((hallm g hg).more hka).go k19 p19 (fun b hb => List.mem_cons_of_mem _ (List.mem_cons_of_mem _ hb))
        refine ⟨_, rfl, x, _, dx, F3, rfl, hxb, T.cl_StackMachine, T.a_StackMachine_stack, by rw [hF3]; exact (Nat.le_of_ble_eq_true rfl), ?_⟩
        obtain ⟨F4, hF4⟩ : ∃ F', F' = putF ("stack" : Str) (V.ref ka) F3 := ⟨_, rfl⟩
        rw [← hF4]
        have kB : Kp [x] Hb (upd Hb x (.ins (C_StackMachine K) dx F4)) := Kp.ins (by simp) hxb
        have hx9 : (upd Hb x (.ins (C_StackMachine K) dx F4)) x = some (.ins (C_StackMachine K) dx F4) := upd_same
        have kA9 := kAb.trans kB
        have hS9 := stx hS19 kB
        have hd9 := kB.keep hdb (by simp [xda])
        have hka9 := kB.keep hacc (by simp [kax])
        have hall9 : ∀ g ∈ tab, RtAt K (ka :: x :: A0.F) (upd Hb x (.ins (C_StackMachine K) dx F4)) S9 kvs g := fun g hg => (hallb g hg).go kB (List.prefix_refl _) (fun b hb => by rw [List.mem_singleton.mp hb]; simp)
        generalize upd Hb x (.ins (C_StackMachine K) dx F4) = H9 at hx9 kA9 hS9 hd9 hka9 hall9 ⊢
        rw [hF3] at hF4
        have l9 : F4.lookup ("store" : Str) = some (.ref A0.a) := by rw [hF4, ha]; rfl
        have l9f : F4.lookup ("routines" : Str) = some (.ref da) := by rw [hF4]; rfl
        -- todo
        subst htab
        obtain ⟨t0, ts', rfl, ⟨is0, rfl, hco0⟩, hRt'⟩ := hRt
        obtain ⟨ents9, ks9, hB9⟩ := id hS9
        obtain ⟨dxs9, fss9, hos9, _, _, _, _, nm9⟩ := hB9.ob
        have hp9 := kA9.at_ hp
        have hcq : cTs (.l ((nm0, code0).fst :: is0) :: ts') = 3 + cT nm0 + cTs is0 + 1 + cTs ts' := by
          show 2 + (cT nm0 + 1 + cTs is0) + 1 + cTs ts' = _
          omega
        refine ⟨_, rfl, x, _, dx, F4, _, rfl, hx9, T.cl_StackMachine, T.a_StackMachine_routines, l9f, _, rfl, x, _, dx, F4, _, rfl, hx9, T.cl_StackMachine, T.a_StackMachine_store, l9, A0.a, dxs9, fss9, rfl, hos9, nm9.m_put, ?_⟩
        refine ⟨_, rfl, _, 0, _, hp9, rfl, rfl, fun v1 h1 => ⟨_, 0, _, h1, rfl, rfl, fun v2 h2 => ?_⟩⟩
        refine ⟨A0, S9, nm0, v2, rfl, hS9, h2, by omega, fun S10 n10 H10 k10 hS10 p10 hl10 hn10 => ?_⟩
        have hx10 := k10.keep hx9 xF
        have hd10 := k10.keep hd9 nda2
        have hka10 := k10.keep hka9 kas.2
        have kA10 : Kp [x] H H10 := Kp.late kA9 k10 (fun b hb _ => fA b hb)
        have hall10 : ∀ g ∈ (nm0, code0) :: tab', RtAt K (ka :: x :: A0.F) H10 S10 kvs g := fun g hg => (hall9 g hg).go k10 p10 (fun b hb => List.mem_cons_of_mem _ (List.mem_cons_of_mem _ hb))
        obtain ⟨n0, r0, g1, g2, g3⟩ := hall10 (nm0, code0) (List.mem_cons_self ..)
        obtain ⟨ents10, ks10, hB10⟩ := id hS10
        have en := hB10.nd n10 n0 _ hn10 g1
        subst en
        have hgd := DGet.k (k := Sum.inl (n10 : Int)) hd10
        rw [g2] at hgd
        refine ⟨da, _, rfl, hgd, (Nat.le_of_ble_eq_true rfl), fun p hp0 => ?_⟩
        dsimp only [tNil]
        have k11 : Sm H10 (upd H10 p (.tup [.ref r0, .int 0])) := Kp.new hp0
        have hp11 : (upd H10 p (.tup [.ref r0, .int 0])) p = some (.tup [.ref r0, .int 0]) := upd_same
        have hx11 := k11 _ _ hx10 (.inl (by simp))
        have hd11 := k11 _ _ hd10 (.inl (by simp))
        have hka11 := k11 _ _ hka10 (.inl (by simp))
        have hS11 := hS10.sm k11
        have kA11 := kA10.trans k11.nil
        have hall11 : ∀ g ∈ (nm0, code0) :: tab', RtAt K (ka :: x :: A0.F) (upd H10 p (.tup [.ref r0, .int 0])) S10 kvs g := fun g hg => (hall10 g hg).go k11 (List.prefix_refl _) (fun b hb => by cases hb)
        have g3 := g3.go k11 (List.prefix_refl _) (fun b hb => by cases hb)
        generalize upd H10 p (.tup [.ref r0, .int 0]) = H11 at hp11 hx11 hd11 hka11 hS11 kA11 hall11 g3 ⊢
        refine ⟨zle (Nat.le_of_ble_eq_true rfl), fun ta hta => ?_⟩
        have tax : ta ≠ x := by
          rintro rfl
          rw [hx11] at hta
          cases hta
        have tad : ta ≠ da := by
          rintro rfl
          rw [hd11] at hta
          cases hta
        have tak : ta ≠ ka := by
          rintro rfl
          rw [hka11] at hta
          cases hta
        have fta : H ta = none := kA11.free (by simp [tax]) hta
        have tas := hS11.fresh hta
        have k12 : Sm H11 (upd H11 ta (.lst [.ref p])) := Kp.new hta
        have hta12 : (upd H11 ta (.lst [.ref p])) ta = some (.lst [.ref p]) := upd_same
        have hp12 := k12.tup hp11
        have hx12 := k12 _ _ hx11 (.inl (by simp))
        have hd12 := k12 _ _ hd11 (.inl (by simp))
        have hka12 := k12 _ _ hka11 (.inl (by simp))
        have hS12 := hS11.sm k12
        have kA12 := kA11.trans k12.nil
        have hall12 : ∀ g ∈ (nm0, code0) :: tab', RtAt K (ta :: ka :: x :: A0.F) (upd H11 ta (.lst [.ref p])) S10 kvs g := fun g hg => ((hall11 g hg).more hta).go k12 (List.prefix_refl _) (fun b hb => by cases hb)
        have g3 : CodeAt K (ta :: ka :: x :: A0.F) (upd H11 ta (.lst [.ref p])) S10 r0 code0 := by
          obtain ⟨m1, m2, m3, m4⟩ := g3
          refine ⟨?_, m2, k12 _ _ m3 (.inl (by simp)), m4.mono (CoV.go k12 (List.prefix_refl _))⟩
          rw [List.mem_cons, not_or]
          refine ⟨?_, m1⟩
          rintro rfl
          rw [m3] at hta
          cases hta
        refine ⟨_, rfl, x, _, dx, F4, rfl, hx12, T.cl_StackMachine, T.a_StackMachine_todo, by rw [hF4]; exact (Nat.le_of_ble_eq_true rfl), ?_⟩
        generalize upd H11 ta (.lst [.ref p]) = H12 at hta12 hp12 hx12 hd12 hka12 hS12 kA12 hall12 g3 ⊢
        obtain ⟨F5, hF5⟩ : ∃ F', F' = putF ("todo" : Str) (V.ref ta) F4 := ⟨_, rfl⟩
        rw [← hF5]
        have kB : Kp [x] H12 (upd H12 x (.ins (C_StackMachine K) dx F5)) := Kp.ins (by simp) hx12
        have hx13 : (upd H12 x (.ins (C_StackMachine K) dx F5)) x = some (.ins (C_StackMachine K) dx F5) := upd_same
        have hta13 := kB.keep hta12 (by simp [tax])
        have hp13 := kB.tup hp12
        have hd13 := kB.keep hd12 (by simp [xda])
        have hka13 := kB.keep hka12 (by simp [kax])
        have hS13 := stx hS12 kB
        have kA13 := kA12.trans kB
        have hall13 : ∀ g ∈ (nm0, code0) :: tab', RtAt K (ta :: ka :: x :: A0.F) (upd H12 x (.ins (C_StackMachine K) dx F5)) S10 kvs g := fun g hg => (hall12 g hg).go kB (List.prefix_refl _) (fun b hb => by rw [List.mem_singleton.mp hb]; simp)
        have g3 := g3.go kB (List.prefix_refl _) (fun b hb => by rw [List.mem_singleton.mp hb]; simp)
        generalize upd H12 x (.ins (C_StackMachine K) dx F5) = H13 at hta13 hp13 hx13 hd13 hka13 hS13 kA13 hall13 g3 ⊢
        rw [hF4] at hF5
        -- steps
        refine ⟨_, rfl, x, _, dx, F5, rfl, hx13, T.cl_StackMachine, T.a_StackMachine_steps, by rw [hF5]; exact (Nat.le_of_ble_eq_true rfl), ?_⟩
        obtain ⟨F6, hF6⟩ : ∃ F', F' = putF ("steps" : Str) (V.int 0) F5 := ⟨_, rfl⟩
        rw [← hF6]
        have kB : Kp [x] H13 (upd H13 x (.ins (C_StackMachine K) dx F6)) := Kp.ins (by simp) hx13
        have hx14 : (upd H13 x (.ins (C_StackMachine K) dx F6)) x = some (.ins (C_StackMachine K) dx F6) := upd_same
        have hta14 := kB.keep hta13 (by simp [tax])
        have hp14 := kB.tup hp13
        have hd14 := kB.keep hd13 (by simp [xda])
        have hka14 := kB.keep hka13 (by simp [kax])
        have hS14 := stx hS13 kB
        have kA14 := kA13.trans kB
        have hall14 : ∀ g ∈ (nm0, code0) :: tab', RtAt K (ta :: ka :: x :: A0.F) (upd H13 x (.ins (C_StackMachine K) dx F6)) S10 kvs g := fun g hg => (hall13 g hg).go kB (List.prefix_refl _) (fun b hb => by rw [List.mem_singleton.mp hb]; simp)
        have g3 := g3.go kB (List.prefix_refl _) (fun b hb => by rw [List.mem_singleton.mp hb]; simp)
        generalize upd H13 x (.ins (C_StackMachine K) dx F6) = H14 at hta14 hp14 hx14 hd14 hka14 hS14 kA14 hall14 g3 ⊢
        rw [hF5] at hF6
        have perm : ∀ b ∈ x :: ka :: ta :: A0.F, b ∈ ta :: ka :: x :: A0.F := fun b hb => by
          simp only [List.mem_cons] at hb ⊢
          rcases hb with rfl | rfl | rfl | hb
          · exact .inr (.inr (.inl rfl))
          · exact .inr (.inl rfl)
          · exact .inl rfl
          · exact .inr (.inr (.inr hb))
        have hMF : SF ⟨x, A0, ka, ta, da⟩ S10 0 F6 := by
          rw [hF6]
          exact ⟨by rw [ha]; rfl, ⟨ny, rfl, pre_get (pS.trans (p19.trans p10)) hy3⟩, rfl, rfl, rfl, rfl, rfl, rfl, rfl, rfl, rfl, (Nat.le_of_ble_eq_true rfl)⟩
        have hM : SMAt P w K H14 ⟨x, A0, ka, ta, da⟩ ((nm0, code0) :: tab') S10 [code0] ins.reverse 0 := by
          refine ⟨⟨dx, F6, hx14, hMF⟩, hS14, ⟨acc, hka14, by rw [List.reverse_reverse]; exact aacc.mono (NumT.mono p10)⟩, ⟨[.ref p], hta14, A2.one ⟨p, r0, code0, 0, rfl, hp14, ⟨fun z => g3.1 (perm _ z), g3.2⟩, Nat.zero_le _, rfl, nm0, List.mem_cons_self ..⟩⟩, ⟨?_, kvs, hd14, fun g hg => (hall14 g hg).sub perm⟩, Ne.symm tak, Ne.symm kax, Ne.symm tax, ?_, xF, kas.2, tas.2⟩
          · simp only [SM.F, List.mem_cons, not_or]
            exact ⟨xda, Ne.symm kad, Ne.symm tad, nda2⟩
          · simp only [SM.F, List.mem_cons, not_or]
            refine ⟨Ne.symm xA, Ne.symm kas.1, Ne.symm tas.1, fun z => ?_⟩
            obtain ⟨entsz, ksz, hBz⟩ := id hS14
            obtain ⟨dxz, fsz, oz, _⟩ := hBz.ob
            exact hS14.insF oz z
        refine q ⟨x, A0, ka, ta, da⟩ S10 H14 rfl kA14 (fun b hb hbx => ?_) hM (by omega)
        simp only [SM.F, List.mem_cons] at hb
        rcases hb with rfl | rfl | rfl | hb
        · exact absurd rfl hbx
        · exact fka
        · exact fta
        · exact fA b hb
end
end G
set_option maxRecDepth 100000
set_option maxHeartbeats 4000000
/-! F7j: run_machine. -/
namespace G
open PySem PySem.Spec PyProof.Rows L2
theorem tab_names : ∀ {tab : List (T × List Co)} {rs : List (T × List T)}, F2 RtT tab (rs.map rtT) → tab.map (·.1) = rs.map (·.1)
  | [], [], _ => rfl
  | [], r :: rs, h => by cases (show (r :: rs).map rtT = [] from h)
  | g :: tab, [], h => by
    obtain ⟨_, _, e, _⟩ := h
    cases e
  | g :: tab, r :: rs, h => by
    obtain ⟨b, bs, e, ⟨is, e1, _⟩, h2⟩ := h
    obtain ⟨rfl, rfl⟩ := List.cons.inj (show rtT r :: rs.map rtT = b :: bs from e)
    have e2 : (r.1 :: r.2) = g.1 :: is := G.T.l.inj e1
    rw [List.map_cons, List.map_cons, tab_names h2, (List.cons.inj e2).1]
section
variable {P : Program} {w : World} {K : PySem.W.Frag} {mg : Str → Option Value} {base : Heap}
def sp_run_machine (P : Program) (w : World) (K : PySem.W.Frag) : Sp := fun vs H Q _ => ∃ pv inl ivs ins t st' f0 fr, ∃ rs : List (T × List T), ∃ N : Nat, vs = [pv, .ref inl, .int 1000000] ∧ At K H (toMachine (f0 :: fr)) pv ∧ H inl = some (.lst ivs) ∧ AtAll K H ins ivs ∧ good (f0 :: fr) = true ∧ (f0 :: fr).flatMap fnMach = rs.map rtT ∧ MachOk rs ∧
  100 + 2 * cTs (rs.map rtT) + cTs ins ≤ 3000000 ∧ N ≤ 400000 ∧ go2 (f0 :: fr) N [codeOf f0] ins.reverse = some (t :: st') ∧ t.parts ≤ 200000 ∧ t.depth ≤ 200 ∧
  ∀ r dx fs v H', Sm H H' → H' r = some (.ins (C_Run K) dx fs) → fs.lookup ("kind" : Str) = some (.str "done") → fs.lookup ("value" : Str) = some v → At K H' t v → Q (.ref r) H'
theorem sc_run_machine : FnScope ["program", "inputs", "limit", "machine", "top"] ["program", "inputs", "limit"] (defScope s_run_machine) := ⟨rfl, rfl, rfl, by decide +kernel, rfl, by decide +kernel, by decide +kernel⟩
theorem f_run_machine (T : Txt w K mg) : Clb P w K mg base "run_machine" 7 ["program", "inputs", "limit"] (sp_run_machine P w K) := by
  have F_check_machine : Clb P w K mg base "check_machine" 5 ["value"] (sp_check_machine K) := f_check_machine T
  have F_StackMachine : Mkb P w K mg base "StackMachine" (C_StackMachine K) 4 ["self", "program", "inputs"] (sp_StackMachine_init P w K) := mk_StackMachine T
  have F_Store_go_on : Mtb P w K mg base (C_StackMachine K) "go_on" 5 ["self", "limit"] (sp_StackMachine_go_on P w K) := f_StackMachine_go_on T
  have F_Store_pop : Mtb P w K mg base (C_StackMachine K) "pop" 1 ["self"] (sp_StackMachine_pop P w K) := f_StackMachine_pop T
  have F_Store_value_of : Mtb P w K mg base (C_Store K) "value_of" 2 ["self", "number"] (sp_Store_value_of P w K) := f_Store_value_of T
  have F_Run : Mkb P w K mg base "Run" (C_Run K) 1 ["self", "kind", "value", "steps"] (sp_Run_init K) := mk_Run T
  refine T.d_run_machine.clb sc_run_machine (fun _ _ _ _ _ _ us hl => match us, hl with | [_, _, _], _ => rfl) (fun vs H Q E h => ?_) (fun f cdv A outer s H vs Q E hr h => ?_)
  · obtain ⟨_, _, _, _, _, _, _, _, _, _, rfl, _⟩ := h
    rfl
  · obtain ⟨pv0, inl, ivs, ins, t, st', f0, fr, rs, N, rfl, hp, hin, hA, hg, hrs, hok, hz, hN, hgo, hpt, hdt, q⟩ := h
    refine ⟨_, (pss_cons (ps_expr (pe_c F_check_machine (hr.mono (by decide)) (pa_cons (pv 0) pa_nil)))
      (pss_cons (ps_set (i := 3) sc_run_machine.nd rfl (Or.inl rfl) (pe_mk F_StackMachine (hr.mono (by decide)) (pa_cons (pv 0) (pa_cons (pv 1) pa_nil))))
      (pss_cons (ps_if (pt_not (pt_val (pe_m (pv 3) T.cl_StackMachine F_Store_go_on (hr.mono (by decide)) (pa_cons (pv 2) pa_nil)))) (pss_one (ps_ret (pe_mk F_Run (hr.mono (by decide)) (pa_cons pe_str (pa_cons pe_non (pa_cons (pv 2) pa_nil)))))) pss_nil)
      (pss_cons (ps_set (i := 4) sc_run_machine.nd rfl (Or.inl rfl) (pe_m0 (pv 3) T.cl_StackMachine F_Store_pop (hr.mono (by decide))))
      (pss_cons (ps_if (PW.pt (pw_or (pt_cmpR op_gt (pe_ix ix_list (pe_fld (pe_fld (pv 3) rfl) rfl) (pv 4) (fun _ _ => rfl)) (pe_gi T.c_MOST_PARTS) (nomark _)) (pw_or1 (pt_cmpR op_gt (pe_ix ix_list (pe_fld (pe_fld (pv 3) rfl) rfl) (pv 4) (fun _ _ => rfl)) (pe_gi T.c_MOST_DEPTH) (nomark _))))) (pss_one (ps_ret (pe_mk F_Run (hr.mono (by decide)) (pa_cons pe_str (pa_cons pe_non (pa_cons (pe_fld (pv 3) rfl) pa_nil)))))) pss_nil)
      (pss_one (ps_ret (pe_mk F_Run (hr.mono (by decide)) (pa_cons pe_str (pa_cons (pe_m (pe_fld (pv 3) rfl) T.cl_Store F_Store_value_of (hr.mono (by decide)) (pa_cons (pv 4) pa_nil)) (pa_cons (pe_fld (pv 3) rfl) pa_nil))))))))))), ?_⟩
    have hRt := tab_mach hg
    have hp1 : At K H (.l (rs.map rtT)) pv0 := by
      rw [← hrs]
      exact hp
    have hRt1 : F2 RtT (tabOf (f0 :: fr)) (rs.map rtT) := by
      rw [← hrs]
      exact hRt
    have hnd : nodupT ((tabOf (f0 :: fr)).map (·.1)) = true := by
      rw [tab_names hRt1]
      exact hok.nd
    refine ⟨_, rfl, pv0, rs, rfl, hp1, hok, fun H1 k1 => ?_⟩
    refine ⟨_, rfl, _, rfl, fun x dx hx hdx hne => ?_⟩
    have k2 : Sm H1 (upd (upd H1 dx (.own x)) x (.ins (C_StackMachine K) dx [])) := (Kp.new hdx).set hx
    have k12 := k1.trans k2
    refine ⟨x, dx, pv0, inl, ivs, ins, rs.map rtT, tabOf (f0 :: fr), .w f0.name, codeOf f0, _, rfl, upd_same, k12.at_ hp1, k12 _ _ hin (.inl (by simp)), k12.aa hA, hRt1, rfl, hnd, by omega, fun M S H3 hMa k3 hfr hM hSl => ⟨rfl, ?_⟩⟩
    have hx0 := k1.none hx
    have kA3 : Sm H H3 := Kp.late k12 k3 (fun b hb _ => by rw [List.mem_singleton.mp hb]; exact hx0)
    have hfr0 : ∀ b ∈ M.F, H b = none := fun b hb => by
      by_cases e : b = x
      · rw [e]
        exact hx0
      · exact k12.none (hfr b hb e)
    rw [← hMa]
    obtain ⟨dx3, fs3, ho3, mf3⟩ := hM.ob
    have hil := cTs_len ins
    refine ⟨_, rfl, M.a, dx3, fs3, rfl, ho3, mf3.m_go_on, _, rfl, M, tabOf (f0 :: fr), S, [codeOf f0], ins.reverse, 0, t :: st', f0 :: fr, N, rfl, hM, hgo, tab_closed hg, fun g hgm => List.mem_flatMap.mpr ⟨g, hgm, List.mem_cons_self ..⟩, by omega, by omega, by rw [List.length_reverse]; omega, by show 1 + N ≤ _; omega, fun S4 k4 H4 kp4 hM4 pre4 hl4 => ?_⟩
    have kA4 : Sm H H4 := Kp.late kA3 kp4 (fun b hb _ => hfr0 b hb)
    refine ⟨true, rfl, iteF ?_⟩
    obtain ⟨dx4, fs4, ho4, mf4⟩ := hM4.ob
    refine ⟨_, rfl, M.a, dx4, fs4, rfl, ho4, mf4.m_pop, M, tabOf (f0 :: fr), S4, [], t, st', k4, rfl, hM4, fun n H5 k5 hM5 hn => ?_⟩
    have kA5 : Sm H H5 := Kp.late kA4 k5 (fun b hb _ => hfr0 b hb)
    obtain ⟨dx5, fs5, ho5, mf5⟩ := hM5.ob
    obtain ⟨ents, ks, hB⟩ := id hM5.so
    obtain ⟨dxs, fss, hos, _, _, l3, l4, nm⟩ := hB.ob
    have gs : (S4.map szV)[n]? = some (szV t) := by rw [List.getElem?_map, hn]; rfl
    have gd : (S4.map dpV)[n]? = some (dpV t) := by rw [List.getElem?_map, hn]; rfl
    refine ⟨_, rfl, M.a, _, dx5, fs5, _, rfl, ho5, T.cl_StackMachine, T.a_StackMachine_store, mf5.f_store, M.st.a, _, dxs, fss, _, rfl, hos, T.cl_Store, T.a_Store_sizes, l3, _, rfl, M.st.sa, _, (n : Int), _, rfl, rfl, sq_lst hB.s, atI_nat gs, _, _, rfl, rfl, false, congrArg V.bl (decide_eq_false (by omega)), iteF ?_⟩
    refine ⟨_, rfl, M.a, _, dx5, fs5, _, rfl, ho5, T.cl_StackMachine, T.a_StackMachine_store, mf5.f_store, M.st.a, _, dxs, fss, _, rfl, hos, T.cl_Store, T.a_Store_depths, l4, _, rfl, M.st.da, _, (n : Int), _, rfl, rfl, sq_lst hB.d, atI_nat gd, _, _, rfl, rfl, false, congrArg V.bl (decide_eq_false (by omega)), iteF ?_⟩
    have hft : fT t = 3 * t.parts := fT_parts t
    refine ⟨_, rfl, M.a, _, dx5, fs5, _, rfl, ho5, T.cl_StackMachine, T.a_StackMachine_store, mf5.f_store, M.st.a, dxs, fss, rfl, hos, nm.m_value_of, _, rfl, M.st, S4, t, n, rfl, hM5.so, hn, by omega, by omega, fun v H6 k6 h6 => ?_⟩
    refine ⟨_, rfl, M.a, _, dx5, fs5, _, rfl, k6 _ _ ho5 (.inl (by simp)), T.cl_StackMachine, T.a_StackMachine_steps, mf5.f_steps, ?_⟩
    intro y dy hy hdy hney
    have k7 : Sm H6 (upd (upd H6 dy (.own y)) y (.ins (C_Run K) dy [])) := (Kp.new hdy).set hy
    refine ⟨y, dy, _, _, _, rfl, upd_same, fun fs H8 k8 h8 g1 g2 g3 => ⟨rfl, ?_⟩⟩
    have k68 : Sm H6 H8 := Kp.late k7 k8 (fun b hb _ => by rw [List.mem_singleton.mp hb]; exact hy)
    exact q y dy fs v H8 ((kA5.trans k6).trans k68) h8 g1 g2 (k68.at_ h6)
end
end G
set_option maxRecDepth 100000
set_option maxHeartbeats 4000000
/-! F8a: the law's draws. -/
namespace G
open PySem PySem.Spec PyProof.Rows L2
def Bnd (d : Int) : Prop := 0 ≤ d ∧ d < 2147483648
theorem mod_nat (i n : Nat) : ((0 : Int) + (i : Int)) % (n : Int) = ((i % n : Nat) : Int) := by
  rw [Int.zero_add]
  exact (Int.natCast_emod i n).symm
theorem mod_bnd {a : Int} {n : Int} (h : 0 < n) (h2 : n ≤ 2147483648) : Bnd (a % n) := ⟨Int.emod_nonneg _ (by omega), by have := Int.emod_lt_of_pos a h; omega⟩
theorem gen_mod {a n : Int} {G : Int → Prop} (h : 0 < n) (h2 : n ≤ 2147483648) (q : ∀ m, Bnd m → G m) : G (a % n) := q _ (mod_bnd h h2)
section
variable {P : Program} {w : World} {K : PySem.W.Frag} {mg : Str → Option Value} {base : Heap}
def sp_law_draws (K : PySem.W.Frag) : Sp := fun vs H Q _ => ∃ a, ∃ ns : List Int, vs = [.ref a, .int 60] ∧ SqL K H a (ns.map V.int) ∧ ns.length ≤ 1000 ∧
  ∀ p H' (ds : List Int), Sm H H' → H' p = some (.lst (ds.map V.int)) → ds.length = 60 → (∀ d ∈ ds, Bnd d) → Q (.ref p) H'
theorem sc_law_draws : FnScope ["_law_script", "_law_many", "_law_rests", "_law_draws_here", "_law_k", "_law_cell", "_law_mixed", "_law_at"] ["_law_script", "_law_many"] (defScope s_law_draws) := ⟨rfl, rfl, rfl, by decide +kernel, rfl, by decide +kernel, by decide +kernel⟩
theorem f_law_draws (T : Txt w K mg) : Clb P w K mg base "_law_draws" 1 ["_law_script", "_law_many"] (sp_law_draws K) := by
  refine T.d_law_draws.clb sc_law_draws (fun _ _ _ _ _ _ us hl => match us, hl with | [_, _], _ => rfl) (fun vs H Q E h => ?_) (fun f cdv A outer s H vs Q E hr h => ?_)
  · obtain ⟨_, _, rfl, _⟩ := h
    rfl
  · obtain ⟨a, ns, rfl, ha, hnl, q⟩ := h
    refine ⟨_, (pss_cons (ps_setLc (i := 2) (own := [("_law_cell", 5)]) rfl sc_law_draws.nd rfl rfl (sw_true rfl rfl rfl (by decide +kernel)) (pi_list (pv 0)) (blkOk_by (N := ["_law_script", "_law_many", "_law_rests", "_law_draws_here", "_law_k", "_law_cell", "_law_mixed", "_law_at"]) (sc := defScope s_law_draws) (by decide +kernel)) (fun _ _ _ _ _ => (pg_name (i := 5) sc_law_draws.nd rfl (Or.inl rfl))) (fun _ _ _ _ _ => pts_nil) (fun _ _ _ _ _ => (pe_callB call_abs (by rfl) T.n_abs (by decide +kernel) (pa_cons (pe_callTy call_int1 (by rfl) T.n_int (by decide +kernel) (pa_cons (pv 5) pa_nil)) pa_nil))))
      (pss_cons (ps_set (i := 3) sc_law_draws.nd rfl (Or.inl rfl) (pe_lst pa_nil))
      (pss_cons (ps_for PassesOwn.never rfl (pi_range1 rfl T.n_range (pa_cons (pv 1) pa_nil)) (pg_name (i := 4) sc_law_draws.nd rfl (Or.inl rfl)) (pss_cons (ps_set (i := 5) sc_law_draws.nd rfl (Or.inl rfl) (pv 4))
      (pss_cons (ps_if (pt_cmpR op_gt (pe_callB call_len_seq (by rfl) T.n_len PySem.boot_len (pa_cons (pv 0) pa_nil)) pe_int (nomark _)) (pss_cons (ps_set (i := 7) sc_law_draws.nd rfl (Or.inl rfl) (pe_op op_mod (pv 4) (pe_callB call_len_seq (by rfl) T.n_len PySem.boot_len (pa_cons (pv 0) pa_nil))))
      (pss_cons (ps_set (i := 5) sc_law_draws.nd rfl (Or.inl rfl) (pe_callTy call_int1 (by rfl) T.n_int (by decide +kernel) (pa_cons (pe_ix ix_list (pv 0) (pv 7) (fun _ _ => rfl)) pa_nil)))
      (pss_one (ps_if (PW.pt (pw_and (pt_cmpR op_ge (pv 5) (pe_op op_pow pe_int pe_int) (nomark _)) (pw_and1 (pt_cmpR op_gt (pe_ix ix_list (pv 2) (pv 7) (fun _ _ => rfl)) pe_int (nomark _))))) (pss_cons (ps_expr (pe_bm PySem.F.plainAttrs_list PySem.F.slot_list_append PySem.F.type_list_append mt_append (pv 3) (pa_cons (pe_op op_mod (pe_callTy call_int1 (by rfl) T.n_int (by decide +kernel) (pa_cons (pe_ix ix_list (pv 2) (pv 7) (fun _ _ => rfl)) pa_nil)) pe_int) pa_nil)))
      (pss_cons (ps_asg (pe_op op_fdiv (pe_callTy call_int1 (by rfl) T.n_int (by decide +kernel) (pa_cons (pe_ix ix_list (pv 2) (pv 7) (fun _ _ => rfl)) pa_nil)) pe_int) (pg_sub (pv 2) (pv 7) set_list))
      (pss_one ps_continue))) pss_nil)))) pss_nil)
      (pss_cons (ps_set (i := 6) sc_law_draws.nd rfl (Or.inl rfl) (pe_op op_mod (pe_callTy call_int1 (by rfl) T.n_int (by decide +kernel) (pa_cons (pe_op op_add (pe_op op_add (pe_op op_mul (pv 5) pe_int) (pe_op op_mul (pv 4) pe_int)) pe_int) pa_nil)) pe_int))
      (pss_cons (ps_set (i := 6) sc_law_draws.nd rfl (Or.inl rfl) (pe_op op_mod (pe_callTy call_int1 (by rfl) T.n_int (by decide +kernel) (pa_cons (pe_op op_add (pe_op op_fdiv (pe_op op_mul (pv 6) (pv 6)) pe_int) (pv 6)) pa_nil)) pe_int))
      (pss_one (ps_expr (pe_bm PySem.F.plainAttrs_list PySem.F.slot_list_append PySem.F.type_list_append mt_append (pv 3) (pa_cons (pe_op op_mod (pe_callTy call_int1 (by rfl) T.n_int (by decide +kernel) (pa_cons (pe_op op_add (pe_op op_fdiv (pe_op op_mul (pv 6) (pv 6)) pe_int) (pe_op op_mul (pv 4) pe_int)) pa_nil)) pe_int) pa_nil)))))))))
      (pss_one (ps_ret (pv 3)))))), ?_⟩
    refine ⟨_, rfl, a, rfl, ⟨_, ha⟩, fun r hr0 => lc_y walk_list (fun i H' => ∃ rs : List Int, H' r = some (.lst (rs.map V.int)) ∧ Sm H H' ∧ rs.length = i ∧ (∀ x ∈ rs, 0 ≤ x)) ⟨[], upd_same, Kp.new hr0, rfl, fun x h => by cases h⟩ (fun i H' _ ⟨_, _, k, _⟩ => k.same.seq ha) ?_ ?_⟩
    · rintro i xv Hb Hc hii ⟨rs, h1, k1, hl, hp⟩ ⟨rfl, hxi⟩
      rw [List.getElem?_map] at hxi
      obtain ⟨n, hn, rfl⟩ : ∃ n, ns[i]? = some n ∧ xv = V.int n := by
        cases z : ns[i]? with
        | none =>
          rw [z] at hxi
          cases hxi
        | some n =>
          rw [z] at hxi
          cases hxi
          exact ⟨n, rfl, rfl⟩
      rw [List.length_map] at hii
      refine ⟨rfl, _, rfl, .inl ⟨n, rfl, n, rfl, _, h1, by rw [List.length_map, sizeLine_eq]; omega, rs ++ [if n < 0 then -n else n], ?_, k1.set hr0, by rw [List.length_append, hl]; rfl, fun x hx => ?_⟩⟩
      · rw [List.map_append]
        exact upd_same
      · rcases List.mem_append.mp hx with hx | hx
        · exact hp x hx
        · rw [List.mem_singleton.mp hx]
          split <;> omega
    rintro H1 ⟨rs0, hr1, k1, hl0, hp0⟩
    rw [List.length_map] at hl0
    refine ⟨(Nat.le_of_ble_eq_true rfl), fun d hd => ?_⟩
    have k2 : Sm H1 (upd H1 d (.lst [])) := Kp.new hd
    have k02 := k1.trans k2
    have drne : d ≠ r := by
      rintro rfl
      rw [hr1] at hd
      cases hd
    have hd0 : H d = none := k1.none hd
    have hr2 : (upd H1 d (.lst [])) r = some (.lst (rs0.map V.int)) := k2 _ _ hr1 (.inl (by simp))
    refine ⟨_, rfl, _, rfl, by decide, by decide, for_it walk_range (fun i σ H' => ∃ v4 v5 v6 v7, ∃ rs ds : List Int, σ = [some (.ref a), some (.int 60), some (.ref r), some (.ref d), v4, v5, v6, v7] ∧ Sm H H' ∧ H' r = some (.lst (rs.map V.int)) ∧ rs.length = ns.length ∧ H' d = some (.lst (ds.map V.int)) ∧ ds.length = i ∧ (∀ d ∈ ds, Bnd d)) ⟨none, none, none, none, rs0, [], rfl, k02, hr2, hl0, upd_same, rfl, fun d h => by cases h⟩ (fun _ _ _ _ _ => trivial) ?_ ?_⟩
    · rintro i x σ Ha Hb hi ⟨v4, v5, v6, v7, rs, ds, rfl, kA, hrA, hrl, hdA, hdl, hdb⟩ ⟨rfl, rfl⟩
      have haA := kA.same.seq ha
      have hi60 : i < 60 := by simpa using hi
      refine ⟨_, rfl, _, rfl, a, _, rfl, .inl haA, _, _, rfl, rfl, _, rfl, ?_⟩
      rw [List.length_map]
      by_cases hn0 : ns.length = 0
      · rw [decide_eq_false (by omega)]
        refine iteF ?_
        refine ⟨_, rfl, _, _, rfl, rfl, .inr ⟨by decide, by decide⟩, _, rfl, _, _, rfl, rfl, .inr ⟨by decide, by decide⟩, _, _, rfl, rfl, _, _, rfl, rfl, .inl ⟨_, rfl, _, _, rfl, rfl, (by show (0 : Int) < 2147483647; decide), ?_⟩⟩
        have fin : ∀ m1 : Int, Bnd m1 → -(2 ^ 64) < m1 ∧ m1 < 2 ^ 64 := fun m1 h => ⟨by have := h.1; omega, by have := h.2; omega⟩
        dsimp only
        have hm1 : Bnd ((((0 : Int) + ((i : Nat) : Int)) * 48271 + ((0 : Int) + ((i : Nat) : Int)) * 69621 + 11) % 2147483647) := mod_bnd (by decide) (by decide)
        generalize (((0 : Int) + ((i : Nat) : Int)) * 48271 + ((0 : Int) + ((i : Nat) : Int)) * 69621 + 11) % 2147483647 = m1 at hm1 ⊢
        refine ⟨_, rfl, _, rfl, _, _, rfl, rfl, .inl (fin _ hm1), _, _, rfl, rfl, ⟨by decide, by decide⟩, _, rfl, _, _, rfl, rfl, .inl ⟨_, rfl, _, _, rfl, rfl, (by show (0 : Int) < 2147483629; decide), ?_⟩⟩
        dsimp only
        have hm2 : Bnd ((m1 * m1 / 4096 + m1) % 2147483629) := mod_bnd (by decide) (by decide)
        generalize (m1 * m1 / 4096 + m1) % 2147483629 = m2 at hm2 ⊢
        refine ⟨_, rfl, tyL hdA, _, rfl, _, rfl, _, _, rfl, rfl, .inl (fin _ hm2), _, _, rfl, rfl, ⟨by decide, by decide⟩, _, rfl, _, _, rfl, rfl, .inr ⟨by decide, by decide⟩, _, _, rfl, rfl, .inl ⟨_, rfl, _, _, rfl, rfl, (by show (0 : Int) < 2147483629; decide), d, _, _, rfl, rfl, hdA, by rw [List.length_map, sizeLine_eq]; omega, ?_⟩⟩
        dsimp only
        have hm3 : Bnd ((m2 * m2 / 4096 + ((0 : Int) + ((i : Nat) : Int)) * 7919) % 2147483629) := mod_bnd (by decide) (by decide)
        generalize (m2 * m2 / 4096 + ((0 : Int) + ((i : Nat) : Int)) * 7919) % 2147483629 = m3 at hm3 ⊢
        refine ⟨_, _, _, _, rs, ds ++ [m3], rfl, kA.set hd0, by rw [upd_ne (Ne.symm drne)]; exact hrA, hrl, by rw [List.map_append]; exact upd_same, by rw [List.length_append, hdl]; rfl, fun x hx => ?_⟩
        rcases List.mem_append.mp hx with hx | hx
        · exact hdb x hx
        · rw [List.mem_singleton.mp hx]
          exact hm3
      · rw [decide_eq_true (by omega)]
        refine iteT ?_
        have hlt : i % ns.length < ns.length := Nat.mod_lt _ (by omega)
        refine ⟨_, rfl, _, rfl, a, _, rfl, .inl haA, _, _, rfl, rfl, ?_, ?_⟩
        · rw [List.length_map]
          show (0 : Int) < _
          omega
        rw [List.length_map]
        have em := mod_nat i ns.length
        dsimp only
        rw [em]
        have hget : (ns.map V.int)[i % ns.length]? = some (.int (ns[i % ns.length])) := by rw [List.getElem?_map, List.getElem?_eq_getElem hlt]; rfl
        generalize hj : i % ns.length = j at hlt hget em ⊢
        refine ⟨_, rfl, _, rfl, a, _, (j : Int), _, rfl, rfl, haA, atI_nat hget, .inl ⟨_, rfl, ?_⟩⟩
        have hjr : j < rs.length := by omega
        have hgetr : (rs.map V.int)[j]? = some (.int (rs[j])) := by rw [List.getElem?_map, List.getElem?_eq_getElem hjr]; rfl
        refine ⟨_, rfl, 10, 18, rfl, rfl, ⟨by decide, by decide, by decide⟩, _, _, rfl, rfl, _, rfl, ?_⟩
        generalize hb1 : decide (ns[j] ≥ 10 ^ (18 : Int).toNat) = b1
        cases b1 with
        | false =>
          refine iteF (iteF ?_)
          refine ⟨_, rfl, _, _, rfl, rfl, .inr ⟨by decide, by decide⟩, _, rfl, _, _, rfl, rfl, .inr ⟨by decide, by decide⟩, _, _, rfl, rfl, _, _, rfl, rfl, .inl ⟨_, rfl, _, _, rfl, rfl, (by show (0 : Int) < 2147483647; decide), ?_⟩⟩
          have fin : ∀ m1 : Int, Bnd m1 → -(2 ^ 64) < m1 ∧ m1 < 2 ^ 64 := fun m1 h => ⟨by have := h.1; omega, by have := h.2; omega⟩
          dsimp only
          have hm1 : Bnd ((ns[j] * 48271 + ((0 : Int) + ((i : Nat) : Int)) * 69621 + 11) % 2147483647) := mod_bnd (by decide) (by decide)
          generalize (ns[j] * 48271 + ((0 : Int) + ((i : Nat) : Int)) * 69621 + 11) % 2147483647 = m1 at hm1 ⊢
          refine ⟨_, rfl, _, rfl, _, _, rfl, rfl, .inl (fin _ hm1), _, _, rfl, rfl, ⟨by decide, by decide⟩, _, rfl, _, _, rfl, rfl, .inl ⟨_, rfl, _, _, rfl, rfl, (by show (0 : Int) < 2147483629; decide), ?_⟩⟩
          dsimp only
          have hm2 : Bnd ((m1 * m1 / 4096 + m1) % 2147483629) := mod_bnd (by decide) (by decide)
          generalize (m1 * m1 / 4096 + m1) % 2147483629 = m2 at hm2 ⊢
          refine ⟨_, rfl, tyL hdA, _, rfl, _, rfl, _, _, rfl, rfl, .inl (fin _ hm2), _, _, rfl, rfl, ⟨by decide, by decide⟩, _, rfl, _, _, rfl, rfl, .inr ⟨by decide, by decide⟩, _, _, rfl, rfl, .inl ⟨_, rfl, _, _, rfl, rfl, (by show (0 : Int) < 2147483629; decide), d, _, _, rfl, rfl, hdA, by rw [List.length_map, sizeLine_eq]; omega, ?_⟩⟩
          dsimp only
          have hm3 : Bnd ((m2 * m2 / 4096 + ((0 : Int) + ((i : Nat) : Int)) * 7919) % 2147483629) := mod_bnd (by decide) (by decide)
          generalize (m2 * m2 / 4096 + ((0 : Int) + ((i : Nat) : Int)) * 7919) % 2147483629 = m3 at hm3 ⊢
          refine ⟨_, _, _, _, rs, ds ++ [m3], rfl, kA.set hd0, by rw [upd_ne (Ne.symm drne)]; exact hrA, hrl, by rw [List.map_append]; exact upd_same, by rw [List.length_append, hdl]; rfl, fun x hx => ?_⟩
          rcases List.mem_append.mp hx with hx | hx
          · exact hdb x hx
          · rw [List.mem_singleton.mp hx]
            exact hm3
        | true =>
          refine iteT ⟨_, rfl, _, rfl, r, _, (j : Int), _, rfl, rfl, sq_lst hrA, atI_nat hgetr, _, _, rfl, rfl, _, rfl, ?_⟩
          generalize hb2 : decide (rs[j] > 0) = b2
          cases b2 with
          | false =>
            refine iteF ?_
            refine ⟨_, rfl, _, _, rfl, rfl, .inr ⟨by decide, by decide⟩, _, rfl, _, _, rfl, rfl, .inr ⟨by decide, by decide⟩, _, _, rfl, rfl, _, _, rfl, rfl, .inl ⟨_, rfl, _, _, rfl, rfl, (by show (0 : Int) < 2147483647; decide), ?_⟩⟩
            have fin : ∀ m1 : Int, Bnd m1 → -(2 ^ 64) < m1 ∧ m1 < 2 ^ 64 := fun m1 h => ⟨by have := h.1; omega, by have := h.2; omega⟩
            dsimp only
            have hm1 : Bnd ((ns[j] * 48271 + ((0 : Int) + ((i : Nat) : Int)) * 69621 + 11) % 2147483647) := mod_bnd (by decide) (by decide)
            generalize (ns[j] * 48271 + ((0 : Int) + ((i : Nat) : Int)) * 69621 + 11) % 2147483647 = m1 at hm1 ⊢
            refine ⟨_, rfl, _, rfl, _, _, rfl, rfl, .inl (fin _ hm1), _, _, rfl, rfl, ⟨by decide, by decide⟩, _, rfl, _, _, rfl, rfl, .inl ⟨_, rfl, _, _, rfl, rfl, (by show (0 : Int) < 2147483629; decide), ?_⟩⟩
            dsimp only
            have hm2 : Bnd ((m1 * m1 / 4096 + m1) % 2147483629) := mod_bnd (by decide) (by decide)
            generalize (m1 * m1 / 4096 + m1) % 2147483629 = m2 at hm2 ⊢
            refine ⟨_, rfl, tyL hdA, _, rfl, _, rfl, _, _, rfl, rfl, .inl (fin _ hm2), _, _, rfl, rfl, ⟨by decide, by decide⟩, _, rfl, _, _, rfl, rfl, .inr ⟨by decide, by decide⟩, _, _, rfl, rfl, .inl ⟨_, rfl, _, _, rfl, rfl, (by show (0 : Int) < 2147483629; decide), d, _, _, rfl, rfl, hdA, by rw [List.length_map, sizeLine_eq]; omega, ?_⟩⟩
            dsimp only
            have hm3 : Bnd ((m2 * m2 / 4096 + ((0 : Int) + ((i : Nat) : Int)) * 7919) % 2147483629) := mod_bnd (by decide) (by decide)
            generalize (m2 * m2 / 4096 + ((0 : Int) + ((i : Nat) : Int)) * 7919) % 2147483629 = m3 at hm3 ⊢
            refine ⟨_, _, _, _, rs, ds ++ [m3], rfl, kA.set hd0, by rw [upd_ne (Ne.symm drne)]; exact hrA, hrl, by rw [List.map_append]; exact upd_same, by rw [List.length_append, hdl]; rfl, fun x hx => ?_⟩
            rcases List.mem_append.mp hx with hx | hx
            · exact hdb x hx
            · rw [List.mem_singleton.mp hx]
              exact hm3
          | true =>
            refine iteT ⟨_, rfl, tyL hdA, _, rfl, _, rfl, r, _, (j : Int), _, rfl, rfl, sq_lst hrA, atI_nat hgetr, .inl ⟨_, rfl, _, _, rfl, rfl, (by show (0 : Int) < 1000003; decide), d, _, _, rfl, rfl, hdA, by rw [List.length_map, sizeLine_eq]; omega, ?_⟩⟩
            dsimp only
            have hb3 : Bnd (rs[j] % 1000003) := mod_bnd (by decide) (by decide)
            generalize rs[j] % 1000003 = m3 at hb3 ⊢
            have hrC : (upd Hb d (.lst (ds.map V.int ++ [.int m3]))) r = some (.lst (rs.map V.int)) := by rw [upd_ne (Ne.symm drne)]; exact hrA
            have hdC : (upd Hb d (.lst (ds.map V.int ++ [.int m3]))) d = some (.lst ((ds ++ [m3]).map V.int)) := by rw [List.map_append]; exact upd_same
            have kC := kA.set (o := .lst (ds.map V.int ++ [.int m3])) hd0
            generalize upd Hb d (.lst (ds.map V.int ++ [.int m3])) = Hc at hrC hdC kC ⊢
            refine ⟨_, rfl, _, rfl, r, _, (j : Int), _, rfl, rfl, sq_lst hrC, atI_nat hgetr, .inl ⟨_, rfl, _, _, rfl, rfl, ⟨by decide, by decide⟩, _, rfl, _, rfl, r, _, (j : Int), j, rfl, rfl, hrC, ?_, ?_⟩⟩
            · rw [List.length_map]
              unfold ixN
              rw [if_pos (by omega), if_pos (by omega)]
              rfl
            · refine ⟨_, _, _, _, rs.set j (rs[j] / 1000003), ds ++ [m3], rfl, kC.set hr0, by rw [List.map_set]; exact upd_same, by rw [List.length_set]; exact hrl, by rw [upd_ne drne]; exact hdC, by rw [List.length_append, hdl]; rfl, fun x hx => ?_⟩
              rcases List.mem_append.mp hx with hx | hx
              · exact hdb x hx
              · rw [List.mem_singleton.mp hx]
                exact hb3
    · rintro σ H3 ⟨v4, v5, v6, v7, rs, ds, rfl, kA, hrA, hrl, hdA, hdl, hdb⟩
      exact ⟨_, rfl, q d H3 ds kA hdA hdl hdb⟩
end
end G
set_option maxRecDepth 100000
set_option maxHeartbeats 4000000
/-! F8b: the law's takes and values. -/
namespace G
open PySem PySem.Spec PyProof.Rows L2
def lawWords : List Str := ["yes", "a", "quote", "f0", "b2", "done", "spin", "x"]
/-- the values that the law can draw -/
def TV : Nat → T → Prop
  | 0, t => ∃ s ∈ lawWords, t = .w s
  | n + 1, t => (∃ s ∈ lawWords, t = .w s) ∨ ∃ ts, t = .l ts ∧ ts.length ≤ 3 ∧ ∀ u ∈ ts, TV n u
/-- the hand of draws -/
structure Hand (H : Hp) (h d : Addr) (k : Nat) : Prop where
  ex : ∃ ds : List Int, H h = some (.lst [.ref d, .int (k : Int)]) ∧ H d = some (.lst (ds.map V.int)) ∧ (∀ x ∈ ds, Bnd x) ∧ d ≠ h
theorem Hand.sm {H H' : Hp} {h d : Addr} {k : Nat} (a : Hand H h d k) (s : Sm H H') : Hand H' h d k := by
  obtain ⟨ds, h1, h2, h3, h4⟩ := a.ex
  exact ⟨ds, s _ _ h1 (.inl (by simp)), s _ _ h2 (.inl (by simp)), h3, h4⟩
section
variable {P : Program} {w : World} {K : PySem.W.Frag} {mg : Str → Option Value} {base : Heap}
def sp_law_take : Sp := fun vs H Q _ => ∃ h d, ∃ k m : Nat, vs = [.ref h, .int (m : Int)] ∧ Hand H h d k ∧ 1 ≤ m ∧
  ∀ (z : Nat) H', Kp [h] H H' → Hand H' h d (k + 1) → z < m → Q (.int (z : Int)) H'
theorem sc_law_take : FnScope ["_law_hand", "_law_many", "_law_at", "_law_draws_here"] ["_law_hand", "_law_many"] (defScope s_law_take) := ⟨rfl, rfl, rfl, by decide +kernel, rfl, by decide +kernel, by decide +kernel⟩
theorem f_law_take (T : Txt w K mg) : Clb P w K mg base "_law_take" 1 ["_law_hand", "_law_many"] sp_law_take := by
  refine T.d_law_take.clb sc_law_take (fun _ _ _ _ _ _ us hl => match us, hl with | [_, _], _ => rfl) (fun vs H Q E h => ?_) (fun f cdv A outer s H vs Q E hr h => ?_)
  · obtain ⟨_, _, _, _, rfl, _⟩ := h
    rfl
  · obtain ⟨h, d, k, m, rfl, hH, hm, q⟩ := h
    obtain ⟨ds, h1, h2, h3, h4⟩ := hH.ex
    refine ⟨_, (pss_cons (ps_set (i := 2) sc_law_take.nd rfl (Or.inl rfl) (pe_ix ix_list (pv 0) pe_int (fun _ _ => rfl)))
      (pss_cons (ps_asg (pe_op op_add (pv 2) pe_int) (pg_sub (pv 0) pe_int set_list))
      (pss_cons (ps_set (i := 3) sc_law_take.nd rfl (Or.inl rfl) (pe_ix ix_list (pv 0) pe_int (fun _ _ => rfl)))
      (pss_cons (ps_if (pt_cmpR op_ge (pv 2) (pe_callB call_len_seq (by rfl) T.n_len PySem.boot_len (pa_cons (pv 3) pa_nil)) (nomark _)) (pss_one (ps_ret pe_int)) pss_nil)
      (pss_one (ps_ret (pe_op op_mod (pe_op op_fdiv (pe_callTy call_int1 (by rfl) T.n_int (by decide +kernel) (pa_cons (pe_ix ix_list (pv 3) (pv 2) (fun _ _ => rfl)) pa_nil)) pe_int) (pv 1)))))))), ?_⟩
    refine ⟨_, rfl, h, _, 1, _, rfl, rfl, sq_lst h1, rfl, ?_⟩
    refine ⟨_, rfl, _, _, rfl, rfl, _, rfl, h, _, 1, 1, rfl, rfl, h1, rfl, ?_⟩
    have k1 : Kp [h] H (upd H h (.lst [.ref d, .int ((k : Int) + 1)])) := Kp.own h1
    have g1 : (upd H h (.lst [.ref d, .int ((k : Int) + 1)])) h = some (.lst [.ref d, .int ((k : Int) + 1)]) := upd_same
    have g2 := k1.keep h2 (by simp [h4])
    have e1 : [V.ref d, V.int (k : Int)].set 1 (V.int ((k : Int) + 1)) = [V.ref d, V.int ((k : Int) + 1)] := rfl
    dsimp only
    rw [e1]
    generalize upd H h (.lst [.ref d, .int ((k : Int) + 1)]) = H1 at k1 g1 g2 ⊢
    have hH1 : Hand H1 h d (k + 1) := ⟨ds, g1, g2, h3, h4⟩
    refine ⟨_, rfl, h, _, 0, _, rfl, rfl, sq_lst g1, rfl, ?_⟩
    refine ⟨_, rfl, _, rfl, d, _, rfl, .inl (sq_lst g2), _, _, rfl, rfl, _, rfl, ?_⟩
    rw [List.length_map]
    by_cases hk : k < ds.length
    · rw [decide_eq_false (by omega)]
      have hget : (ds.map V.int)[k]? = some (.int (ds[k])) := by rw [List.getElem?_map, List.getElem?_eq_getElem hk]; rfl
      refine iteF ⟨_, rfl, _, rfl, d, _, (k : Int), _, rfl, rfl, sq_lst g2, atI_nat hget, .inl ⟨_, rfl, _, _, rfl, rfl, ⟨by decide, by decide⟩, _, rfl, _, _, rfl, rfl, ?_, ?_⟩⟩
      · show (0 : Int) < (m : Int)
        omega
      · have hp : (0 : Int) < (m : Int) := by omega
        have hb1 := Int.emod_nonneg (ds[k] / 7) (show (m : Int) ≠ 0 by omega)
        have hb2 := Int.emod_lt_of_pos (ds[k] / 7) hp
        dsimp only
        generalize ds[k] / 7 % (m : Int) = z at hb1 hb2 ⊢
        obtain ⟨n, rfl⟩ := Int.eq_ofNat_of_zero_le hb1
        exact q n H1 k1 hH1 (by omega)
    · rw [decide_eq_true (by omega)]
      exact iteT (q 0 H1 k1 hH1 (by omega))
def sp_law_value (K : PySem.W.Frag) (n : Nat) : Sp := fun vs H Q _ => ∃ h d, ∃ k : Nat, vs = [.ref h, .int (n : Int)] ∧ Hand H h d k ∧
  ∀ (k' : Nat) t v H', Kp [h] H H' → Hand H' h d k' → At K H' t v → TV n t → Q v H'
theorem sc_law_value : FnScope ["_law_hand", "_law_depth", "_law_k"] ["_law_hand", "_law_depth"] (defScope s_law_value) := ⟨rfl, rfl, rfl, by decide +kernel, rfl, by decide +kernel, by decide +kernel⟩
theorem word_at {z : Nat} (h : z < 8) : ∃ s ∈ lawWords, [V.str "yes", V.str "a", V.str "quote", V.str "f0", V.str "b2", V.str "done", V.str "spin", V.str "x"][z]? = some (V.str s) := by
  have e : [V.str "yes", V.str "a", V.str "quote", V.str "f0", V.str "b2", V.str "done", V.str "spin", V.str "x"] = lawWords.map V.str := rfl
  have hl : z < lawWords.length := h
  exact ⟨lawWords[z], List.getElem_mem hl, by rw [e, List.getElem?_map, List.getElem?_eq_getElem hl]; rfl⟩
theorem tv_word {s : Str} (h : s ∈ lawWords) : ∀ n, TV n (.w s)
  | 0 => ⟨s, h, rfl⟩
  | _ + 1 => .inl ⟨s, h, rfl⟩
theorem f_law_value0 (T : Txt w K mg) : Clb P w K mg base "_law_value" 2 ["_law_hand", "_law_depth"] (sp_law_value K 0) := by
  have F__law_take : Clb P w K mg base "_law_take" 1 ["_law_hand", "_law_many"] sp_law_take := f_law_take T
  refine T.d_law_value.clb sc_law_value (fun _ _ _ _ _ _ us hl => match us, hl with | [_, _], _ => rfl) (fun vs H Q E h => ?_) (fun f cdv A outer s H vs Q E hr h => ?_)
  · obtain ⟨_, _, _, rfl, _⟩ := h
    rfl
  · obtain ⟨h, d, k, rfl, hH, q⟩ := h
    refine ⟨_, (pss_cons (ps_if (PW.pt (pw_or (pt_cmpR op_eq (pv 1) pe_int (nomark _)) (pw_or1 (pt_cmpR op_eq (pe_c F__law_take (hr.mono (by decide)) (pa_cons (pv 0) (pa_cons pe_int pa_nil))) pe_int (nomark _))))) (pss_one (ps_ret (pe_ix ix_list (pe_lst (pa_cons pe_str (pa_cons pe_str (pa_cons pe_str (pa_cons pe_str (pa_cons pe_str (pa_cons pe_str (pa_cons pe_str (pa_cons pe_str pa_nil))))))))) (pe_c F__law_take (hr.mono (by decide)) (pa_cons (pv 0) (pa_cons pe_int pa_nil))) (fun _ _ => rfl)))) pss_nil)
      (pss_one ps_never)), ?_⟩
    refine ⟨_, rfl, rfl, true, rfl, iteT ?_⟩
    refine ⟨zle (Nat.le_of_ble_eq_true rfl), fun l hl => ?_⟩
    have k1 : Sm H (upd H l (.lst (lawWords.map V.str))) := Kp.new hl
    refine ⟨_, rfl, h, d, k, 8, rfl, hH.sm k1, by decide, fun z H2 k2 hH2 hz => ?_⟩
    obtain ⟨s1, hs1, hs2⟩ := word_at hz
    have lh : l ≠ h := by
      rintro rfl
      obtain ⟨ds, h1, _⟩ := hH.ex
      rw [h1] at hl
      cases hl
    have hl2 := k2.keep (upd_same : (upd H l (.lst (lawWords.map V.str))) l = _) (by simp [lh])
    refine ⟨l, _, (z : Int), _, rfl, rfl, sq_lst hl2, atI_nat hs2, ?_⟩
    exact q _ (.w s1) _ H2 (k1.nil.trans k2) hH2 at_wi (tv_word hs1 0)
theorem f_law_valueS (T : Txt w K mg) (n j : Nat) (hj : 1 ≤ j) (F__law_value : Clb P w K mg base "_law_value" j ["_law_hand", "_law_depth"] (sp_law_value K n)) : Clb P w K mg base "_law_value" (j + 1) ["_law_hand", "_law_depth"] (sp_law_value K (n + 1)) := by
  have F__law_take : Clb P w K mg base "_law_take" 1 ["_law_hand", "_law_many"] sp_law_take := f_law_take T
  refine T.d_law_value.clb sc_law_value (fun _ _ _ _ _ _ us hl => match us, hl with | [_, _], _ => rfl) (fun vs H Q E h => ?_) (fun f cdv A outer s H vs Q E hr h => ?_)
  · obtain ⟨_, _, _, rfl, _⟩ := h
    rfl
  · obtain ⟨h, d, k, rfl, hH, q⟩ := h
    refine ⟨_, (pss_cons (ps_if (PW.pt (pw_or (pt_cmpR op_eq (pv 1) pe_int (nomark _)) (pw_or1 (pt_cmpR op_eq (pe_c F__law_take (hr.mono hj) (pa_cons (pv 0) (pa_cons pe_int pa_nil))) pe_int (nomark _))))) (pss_one (ps_ret (pe_ix ix_list (pe_lst (pa_cons pe_str (pa_cons pe_str (pa_cons pe_str (pa_cons pe_str (pa_cons pe_str (pa_cons pe_str (pa_cons pe_str (pa_cons pe_str pa_nil))))))))) (pe_c F__law_take (hr.mono hj) (pa_cons (pv 0) (pa_cons pe_int pa_nil))) (fun _ _ => rfl)))) pss_nil)
      (pss_one (ps_ret (pe_callTy call_tupTr (by rfl) T.n_tuple PyProof.Rows.boot_tuple (pa_cons (pe_lc (own := [("_law_k", 2)]) rfl sc_law_value.nd (pi_range1 rfl T.n_range (pa_cons (pe_c F__law_take (hr.mono hj) (pa_cons (pv 0) (pa_cons pe_int pa_nil))) pa_nil)) (blkOk_by (N := ["_law_hand", "_law_depth", "_law_k"]) (sc := defScope s_law_value) (by decide +kernel)) (fun _ _ _ _ _ => (pg_name (i := 2) sc_law_value.nd rfl (Or.inl rfl))) (fun _ _ _ _ _ => pts_nil) (fun _ _ _ _ _ => (pe_K (te := fun K => tCall (sp_law_value K n) [] E0 (tCons (tVar 0) (tCons (tOp _ (tVar 1) (tC (.int 1))) tNil))) K rfl <| pe_c F__law_value hr (pa_cons (pv 0) (pa_cons (pe_op op_sub (pv 1) pe_int) pa_nil))))) pa_nil))))), ?_⟩
    refine ⟨_, rfl, rfl, false, ?_, iteF ?_⟩
    · exact congrArg V.bl (decide_eq_false fun z => by have := V.int.inj z; omega)
    refine ⟨_, rfl, h, d, k, 3, rfl, hH, by decide, fun z0 H1 k1 hH1 hz0 => ?_⟩
    refine ⟨rfl, _, rfl, ?_⟩
    by_cases e0 : z0 = 0
    · subst e0
      refine iteT ?_
      refine ⟨zle (Nat.le_of_ble_eq_true rfl), fun l hl => ?_⟩
      have k2 : Sm H1 (upd H1 l (.lst (lawWords.map V.str))) := Kp.new hl
      refine ⟨_, rfl, h, d, k + 1, 8, rfl, hH1.sm k2, by decide, fun z H2 k3 hH2 hz => ?_⟩
      obtain ⟨s1, hs1, hs2⟩ := word_at hz
      have lh : l ≠ h := by
        rintro rfl
        obtain ⟨ds, h1, _⟩ := hH1.ex
        rw [h1] at hl
        cases hl
      have hl2 := k3.keep (upd_same : (upd H1 l (.lst (lawWords.map V.str))) l = _) (by simp [lh])
      refine ⟨l, _, (z : Int), _, rfl, rfl, sq_lst hl2, atI_nat hs2, ?_⟩
      exact q _ (.w s1) _ H2 (k1.trans (k2.nil.trans k3)) hH2 at_wi (tv_word hs1 _)
    · rw [show decide (V.int ((z0 : Nat) : Int) = V.int 0) = false from decide_eq_false fun z => e0 (by have := V.int.inj z; omega)]
      refine iteF ?_
      refine ⟨_, rfl, h, d, k + 1, 4, rfl, hH1, by decide, fun m H2 k2 hH2 hm => ?_⟩
      refine ⟨_, rfl, by omega, by omega, fun D hD => lc_y walk_range (fun i H' => ∃ acc ts k', H' D = some (.lst acc) ∧ Kp [h] H2 H' ∧ Hand H' h d k' ∧ AtAll K H' ts acc ∧ ts.length = i ∧ ∀ u ∈ ts, TV n u) ⟨[], [], _, upd_same, (Kp.new hD : Sm H2 _).nil, hH2.sm (Kp.new hD), aa_nil, rfl, fun u h => by cases h⟩ (fun _ _ _ _ => trivial) ?_ ?_⟩
      · rintro i x Ha Hb hi ⟨acc, ts, k', h1, k3, hH3, aA, hl, hall⟩ ⟨rfl, rfl⟩
        have hi4 : i < 4 := by omega
        refine ⟨rfl, _, rfl, _, rfl, _, _, rfl, rfl, h, d, k', ?_, hH3, fun k'' t v H4 k4 hH4 hAt hTV => ?_⟩
        · show [V.ref h, V.int (((n + 1 : Nat) : Int) - 1)] = _
          rw [show ((n + 1 : Nat) : Int) - 1 = (n : Int) by omega]
        · have Dh : D ≠ h := by
            rintro rfl
            obtain ⟨ds, h1, _⟩ := hH2.ex
            rw [h1] at hD
            cases hD
          have h14 := k4.keep h1 (by simp [Dh])
          have k5 : Kp [D] H4 (upd H4 D (.lst (acc ++ [v]))) := Kp.own h14
          have al := aa_len aA
          refine ⟨acc, h14, by rw [sizeLine_eq]; omega, acc ++ [v], ts ++ [t], k'', upd_same, (k3.trans k4).set hD, ?_, ?_, by rw [List.length_append, hl]; rfl, fun u hu => ?_⟩
          · obtain ⟨ds, g1, g2, g3, g4⟩ := hH4.ex
            have dD : d ≠ D := by
              rintro rfl
              obtain ⟨_, _, p2, _⟩ := hH2.ex
              rw [p2] at hD
              cases hD
            exact ⟨ds, k5.keep g1 (by simp [Ne.symm Dh]), k5.keep g2 (by simp [dD]), g3, g4⟩
          · exact aa_app (k5.aa (k4.aa aA)) (aa_cons (k5.at_ hAt) aa_nil)
          · rcases List.mem_append.mp hu with hu | hu
            · exact hall u hu
            · rw [List.mem_singleton.mp hu]
              exact hTV
      · rintro Ha ⟨acc, ts, k', h1, k3, hH3, aA, hl, hall⟩
        have hl : ts.length = m := by rw [hl]; simp
        refine ⟨D, acc, ts, rfl, sq_lst h1, aA, fun p H5 k5 h5 => ?_⟩
        exact q k' (.l ts) _ H5 ((k1.trans k2).trans (k3.trans k5.nil)) (hH3.sm k5) h5 (.inr ⟨ts, rfl, by omega, hall⟩)
end
end G
set_option maxRecDepth 100000
set_option maxHeartbeats 4000000
/-! F8c: trees as data, equality of texts, two more rules; what is known of the law's programs. -/
namespace G
open PySem PySem.Spec PyProof.Rows L2
mutual
def dataOf : T → PyData
  | .w s => .str s
  | .l xs => .tuple (dataAll xs)
def dataAll : List T → List PyData
  | [] => []
  | x :: xs => dataOf x :: dataAll xs
end
mutual
def T.okW : T → Bool
  | .w s => PyData.strOk s
  | .l xs => T.okWs xs
def T.okWs : List T → Bool
  | [] => true
  | x :: xs => x.okW && T.okWs xs
end
mutual
theorem lay_of : ∀ t : T, t.okW = true → (dataOf t).canLay0 = true
  | .w s, h => h
  | .l xs, h => lays_of xs h
theorem lays_of : ∀ xs : List T, T.okWs xs = true → PyData.canLayAll0 (dataAll xs) = true
  | [], _ => rfl
  | x :: xs, h => by
    obtain ⟨h1, h2⟩ := Bool.and_eq_true_iff.mp (show (x.okW && T.okWs xs) = true from h)
    show ((dataOf x).canLay0 && PyData.canLayAll0 (dataAll xs)) = true
    rw [lay_of x h1, lays_of xs h2]
    rfl
end
theorem depthL_pos : ∀ xs : List T, 1 ≤ T.depthL xs
  | [] => Nat.le_refl 1
  | x :: xs => by
    show 1 ≤ max (x.depth + 1) (T.depthL xs)
    omega
mutual
theorem dep_of : ∀ t : T, (dataOf t).depth ≤ t.depth
  | .w s => Nat.le_refl 0
  | .l xs => by
    show PyData.depthAll (dataAll xs) + 1 ≤ T.depthL xs
    have := deps_of xs
    have h2 := depthL_pos xs
    omega
theorem deps_of : ∀ xs : List T, PyData.depthAll (dataAll xs) ≤ T.depthL xs - 1
  | [] => Nat.le_refl 0
  | x :: xs => by
    show max (dataOf x).depth (PyData.depthAll (dataAll xs)) ≤ max (x.depth + 1) (T.depthL xs) - 1
    have h1 := dep_of x
    have h2 := deps_of xs
    omega
end
theorem shaped_of {t : T} (h : t.okW = true) (hd : t.depth ≤ 64) : SeqAt.shaped (dataOf t) = true := Bool.and_eq_true_iff.mpr ⟨lay_of t h, decide_eq_true (Nat.le_trans (dep_of t) hd)⟩
section
variable {K : PySem.W.Frag} {H : Hp}
mutual
theorem dp_of : ∀ (t : T) (v : V), At K H t v → Dp K H v (dataOf t)
  | .w s, v, h => by
    obtain rfl := at_w h
    exact .str s
  | .l xs, v, h => by
    obtain ⟨a, vs, rfl, h1, h2⟩ := h
    exact .tup h1.sq (dps_of xs vs h2)
theorem dps_of : ∀ (xs : List T) (vs : List V), AtAll K H xs vs → DpAll K H vs (dataAll xs)
  | [], vs, h => by
    rw [show vs = [] from h]
    exact .nil
  | x :: xs, vs, h => by
    obtain ⟨v, r, rfl, h1, h2⟩ := h
    exact .cons (dp_of x v h1) (dps_of xs r h2)
end
end
section
variable {X : Cx}
/-- a == b, a != b, both standing for the same tree -/
def rSameT (K : PySem.W.Frag) (b : Bool) : R2 := fun x y H Q => ∃ t, At K H t x ∧ At K H t y ∧ t.okW = true ∧ t.depth ≤ 64 ∧ Q (.bl b) H
theorem op_eqT (hu : X.A.units + 64 < cLine) : OpR X (compareOp .Eq) (rSameT X.K true) := OpR.imp (op_eqD hu) fun x y H Q ⟨t, h1, h2, ho, hd, q⟩ => by
  refine ⟨dataOf t, dataOf t, dp_of t x h1, dp_of t y h2, shaped_of ho hd, shaped_of ho hd, ?_⟩
  rw [SeqAt.eqv_refl _ (lay_of t ho)]
  exact q
theorem op_neT (hu : X.A.units + 64 < cLine) : OpR X (compareOp .NotEq) (rSameT X.K false) := OpR.imp (op_neD hu) fun x y H Q ⟨t, h1, h2, ho, hd, q⟩ => by
  refine ⟨dataOf t, dataOf t, dp_of t x h1, dp_of t y h2, shaped_of ho hd, shaped_of ho hd, ?_⟩
  rw [SeqAt.eqv_refl _ (lay_of t ho)]
  exact q
/-- t[:n], n up to the length -/
def rSlT2 (K : PySem.W.Frag) : V → Option Int → Option Int → Hp → VK → Prop := fun x lo hi H Q => ∃ ts : List T, ∃ n : Nat, At K H (.l ts) x ∧ lo = none ∧ hi = some (n : Int) ∧ n ≤ ts.length ∧ newT K (ts.take n) H Q
theorem sl_T2 : SlR X (rSlT2 X.K) := SlR.imp sl_tupX fun x lo hi H Q ⟨ts, n, h, e1, e2, hn, q⟩ => by
  obtain ⟨a, vs, rfl, h1, h2⟩ := id h
  have hl := aa_len h2
  subst e1 e2
  refine ⟨a, vs, rfl, h1, fun hw => ?_, fun _ => ?_⟩
  · rw [HT.sIx_nat] at hw
    have : n = ts.length := by omega
    rw [this, List.take_length] at q
    exact q a H Kp.refl h
  · have e : cutV vs none (some (n : Int)) = vs.take n := by
      unfold cutV
      rw [HT.sIx_nat, HT.sIx_none, Nat.min_eq_left (by omega)]
      simp
    rw [e]
    exact q.x (aa_take n h2)
/-- t[-1] -/
def rIxLast (K : PySem.W.Frag) : R2 := fun x y H Q => ∃ (ts : List T) (t : T), At K H (.l (ts ++ [t])) x ∧ y = .int (-1) ∧ ∀ v, At K H t v → Q v H
theorem ix_last : IxR X (rIxLast X.K) := IxR.imp ix_tup fun x y H Q ⟨ts, t, h, e, q⟩ => by
  obtain ⟨a, vs, rfl, h1, h2⟩ := h
  have hl := aa_len h2
  rw [List.length_append, List.length_singleton] at hl
  obtain ⟨v, hv, h3⟩ := aa_get h2 (show (ts ++ [t])[ts.length]? = some t by simp)
  refine ⟨a, vs, -1, v, rfl, e, h1.sq, ?_, q v h3⟩
  unfold atI ixN
  rw [if_neg (by omega), if_pos (by omega)]
  have : (-1 + (vs.length : Int)).toNat = ts.length := by omega
  rw [this]
  exact hv
end
/-! ### what is known of the law's programs -/
structure LawOk (x a : Bool) : Prop where
  ac : AcrossOk [lawFirst x, lawSecond x] (lawKinds a) ((lawPs x).length - 1)
  gp : good (lawPlain x a) = true
  go : good (lawOther x a) = true
  ip : inputsOf (lawPlain x a) + 1 = (lawPs x).length
  mo : ∃ f0 fr, ∃ rs : List (T × List T), lawOther x a = f0 :: fr ∧ (f0 :: fr).flatMap fnMach = rs.map rtT ∧ MachOk rs ∧ ∀ ins : List T, ins.length + 1 = (lawPs x).length → ∃ N : Nat, ∃ st', N ≤ 400000 ∧ go2 (f0 :: fr) N [codeOf f0] ins.reverse = some (.l (ins ++ (lawPlain x a).map Fn.t) :: st')
  rp : ∀ ins : List T, ins.length + 1 = (lawPs x).length → ∃ N : Nat, N ≤ 400000 ∧ go1 (lawPlain x a) N (mainEnv (lawPlain x a) ins) [] = some [.l (ins ++ (lawOther x a).flatMap fnMach)]
  sp : T.partsL ((lawPlain x a).map Fn.t) ≤ 100000 ∧ T.depthL ((lawPlain x a).map Fn.t) ≤ 50 ∧ T.okWs ((lawPlain x a).map Fn.t) = true
  sm : T.partsL ((lawOther x a).flatMap fnMach) ≤ 100000 ∧ T.depthL ((lawOther x a).flatMap fnMach) ≤ 50 ∧ T.okWs ((lawOther x a).flatMap fnMach) = true
/-! ### the drawn values -/
theorem lw_ok : ∀ s ∈ lawWords, PyData.strOk s = true := by decide +kernel
theorem tv_ok : ∀ (n : Nat) (t : T), TV n t → t.okW = true ∧ t.depth ≤ n ∧ t.parts ≤ 4 ^ n
  | 0, t, ⟨s, hs, e⟩ => by
    subst e
    exact ⟨lw_ok s hs, Nat.le_refl 0, Nat.le_refl 1⟩
  | n + 1, t, .inl ⟨s, hs, e⟩ => by
    subst e
    exact ⟨lw_ok s hs, Nat.zero_le _, Nat.one_le_pow _ _ (by decide)⟩
  | n + 1, t, .inr ⟨ts, e, hl, h⟩ => by
    subst e
    have key : ∀ us : List T, (∀ u ∈ us, TV n u) → T.okWs us = true ∧ T.depthL us ≤ n + 1 ∧ T.partsL us ≤ us.length * 4 ^ n := by
      intro us
      induction us with
      | nil => intro _; exact ⟨rfl, by show 1 ≤ n + 1; omega, Nat.zero_le _⟩
      | cons u us ih =>
        intro hu
        obtain ⟨a1, a2, a3⟩ := tv_ok n u (hu u (List.mem_cons_self ..))
        obtain ⟨b1, b2, b3⟩ := ih fun v hv => hu v (List.mem_cons_of_mem _ hv)
        refine ⟨by show (u.okW && T.okWs us) = true; rw [a1, b1]; rfl, by show max (u.depth + 1) (T.depthL us) ≤ n + 1; omega, ?_⟩
        show u.parts + T.partsL us ≤ (us.length + 1) * 4 ^ n
        rw [Nat.add_mul]
        omega
    obtain ⟨c1, c2, c3⟩ := key ts h
    refine ⟨c1, c2, ?_⟩
    show 1 + T.partsL ts ≤ 4 ^ (n + 1)
    have h1 : ts.length * 4 ^ n ≤ 3 * 4 ^ n := Nat.mul_le_mul_right _ hl
    have h2 : 1 ≤ 4 ^ n := Nat.one_le_pow _ _ (by decide)
    rw [Nat.pow_succ]
    omega
theorem parts_app : ∀ a b : List T, T.partsL (a ++ b) = T.partsL a + T.partsL b
  | [], b => by rw [List.nil_append]; show _ = 0 + _; omega
  | x :: a, b => by
    show x.parts + T.partsL (a ++ b) = x.parts + T.partsL a + T.partsL b
    rw [parts_app a b]
    omega
theorem depthL_app : ∀ a b : List T, T.depthL (a ++ b) ≤ max (T.depthL a) (T.depthL b)
  | [], b => by rw [List.nil_append]; omega
  | x :: a, b => by
    show max (x.depth + 1) (T.depthL (a ++ b)) ≤ max (max (x.depth + 1) (T.depthL a)) (T.depthL b)
    have := depthL_app a b
    omega
theorem okWs_app : ∀ a b : List T, T.okWs (a ++ b) = (T.okWs a && T.okWs b)
  | [], b => rfl
  | x :: a, b => by
    show (x.okW && T.okWs (a ++ b)) = ((x.okW && T.okWs a) && T.okWs b)
    rw [okWs_app a b, Bool.and_assoc]
/-- the drawn inputs -/
theorem ins_ok : ∀ us : List T, (∀ u ∈ us, TV 2 u) → T.okWs us = true ∧ T.depthL us ≤ 3 ∧ T.partsL us ≤ us.length * 16 := by
  intro us
  induction us with
  | nil => intro _; exact ⟨rfl, by show 1 ≤ 3; omega, Nat.zero_le _⟩
  | cons u us ih =>
    intro hu
    obtain ⟨a1, a2, a3⟩ := tv_ok 2 u (hu u (List.mem_cons_self ..))
    obtain ⟨b1, b2, b3⟩ := ih fun v hv => hu v (List.mem_cons_of_mem _ hv)
    refine ⟨by show (u.okW && T.okWs us) = true; rw [a1, b1]; rfl, by show max (u.depth + 1) (T.depthL us) ≤ 3; omega, ?_⟩
    show u.parts + T.partsL us ≤ (us.length + 1) * 16
    have : (4 : Nat) ^ 2 = 16 := rfl
    omega
end G
set_option maxRecDepth 100000
set_option maxHeartbeats 4000000
/-! F8d: the law. -/
namespace G
open PySem PySem.Spec PyProof.Rows L2
theorem at_lit {K : PySem.W.Frag} {H : Hp} {s t : Str} (h : s = t) : At K H (.w t) (.str s) := by
  rw [h]
  exact at_wi
theorem prms_of {z : Nat} (h : z < 2) : ∃ x : Bool, [T.w pAll, T.w pX].take (1 + z) = (lawPs x).map .w := by
  rcases (show z = 0 ∨ z = 1 by omega) with rfl | rfl
  · exact ⟨false, rfl⟩
  · exact ⟨true, rfl⟩
theorem last_of (x : Bool) : ∃ ts, (lawPs x).map T.w = ts ++ [T.w (lawLast x)] := by
  cases x
  · exact ⟨[], rfl⟩
  · exact ⟨[.w pAll], rfl⟩
theorem prms_len (x : Bool) : (lawPs x).length = 1 ∨ (lawPs x).length = 2 := by
  cases x
  · exact .inl rfl
  · exact .inr rfl
theorem across_law (x a : Bool) : across [lawFirst x, lawSecond x] (lawKinds a) = (match a with
    | true => [lawMach x true, progT (lawPlain x true)]
    | false => [progT (lawPlain x false), lawMach x false]) := by
  have hl : ∀ b, (lawRing x b).length = 2 := fun b => by
    unfold lawRing acrossRing
    rw [ring_len]
    rfl
  have key : ∀ b, ∃ r0 r1, lawRing x b = [r0, r1] := fun b => by
    have := hl b
    match lawRing x b, this with
    | [r0, r1], _ => exact ⟨r0, r1, rfl⟩
  obtain ⟨r0, r1, e⟩ := key a
  have e2 : across [lawFirst x, lawSecond x] (lawKinds a) = ((lawRing x a).zip (lawKinds a)).map (fun q => match q.2 with | true => toMachine q.1 | false => progT q.1) := rfl
  rw [e2, e]
  cases a with
  | true =>
    unfold lawMach lawPlain lawOther
    simp only [e]
    rfl
  | false =>
    unfold lawMach lawPlain lawOther
    simp only [e]
    rfl
section
variable {P : Program} {w : World} {K : PySem.W.Frag} {mg : Str → Option Value} {base : Heap}
def sp_law (K : PySem.W.Frag) : Sp := fun vs H Q _ => ∃ a, ∃ ns : List Int, vs = [.ref a] ∧ SqL K H a (ns.map V.int) ∧ ns.length ≤ 1000 ∧ ∀ H', Q (.bl true) H'
theorem sc_law : FnScope ["_law_script", "_law_hand", "_law_parameters", "_law_first", "_law_second", "_law_pick", "_law_at", "_law_kinds", "_law_made", "_law_inputs", "_law_run", "_law_plain", "_law_machine", "_law_one"] ["_law_script"] (defScope s_law) := ⟨rfl, rfl, rfl, by decide +kernel, rfl, by decide +kernel, by decide +kernel⟩
theorem f_law (T : Txt w K mg) (OK : ∀ x a, LawOk x a) {f : Addr} {fd : FuncData} (F : FunD K "law" "law" (defArgs s_law) (defBody s_law) (defScope s_law) [] [] f fd) : FnOk P w K mg base CX0 10 f fd ["_law_script"] (sp_law K) := by
  have F__law_draws : Clb P w K mg base "_law_draws" 1 ["_law_script", "_law_many"] (sp_law_draws K) := f_law_draws T
  have F__law_take : Clb P w K mg base "_law_take" 1 ["_law_hand", "_law_many"] sp_law_take := f_law_take T
  have F__law_value : Clb P w K mg base "_law_value" 4 ["_law_hand", "_law_depth"] (sp_law_value K 2) := f_law_valueS T 1 3 (by decide) (f_law_valueS T 0 2 (by decide) (f_law_value0 T))
  have F_ring_across : Clb P w K mg base "ring_across" 9 ["programs", "kinds"] (sp_ring_across K) := f_ring_across T
  have F_check_program : Clb P w K mg base "check_program" 4 ["value"] (sp_check_program K) := f_check_program T
  have F_check_machine : Clb P w K mg base "check_machine" 5 ["value"] (sp_check_machine K) := f_check_machine T
  have F_run_program : Clb P w K mg base "run_program" 7 ["program", "inputs", "limit"] (sp_run_program P w K) := f_run_program T
  have F_run_machine : Clb P w K mg base "run_machine" 7 ["program", "inputs", "limit"] (sp_run_machine P w K) := f_run_machine T
  refine F.ok sc_law (fun vs H Q E h => ?_) (fun cdv A outer s H vs Q E hr h => ?_)
  · obtain ⟨_, _, rfl, _⟩ := h
    rfl
  · obtain ⟨a, ns, rfl, ha, hnl, q⟩ := h
    have key : ∃ t, PSs (cxOf CX0 P w K mg base ["_law_script", "_law_hand", "_law_parameters", "_law_first", "_law_second", "_law_pick", "_law_at", "_law_kinds", "_law_made", "_law_inputs", "_law_run", "_law_plain", "_law_machine", "_law_one"] "law" (defScope s_law) f cdv A outer s H E).nox (defBody s_law) t ∧ t { nx := fun _ H' => Q .non H', rt := Q } (start ["_law_script", "_law_hand", "_law_parameters", "_law_first", "_law_second", "_law_pick", "_law_at", "_law_kinds", "_law_made", "_law_inputs", "_law_run", "_law_plain", "_law_machine", "_law_one"] [.ref a]) H := by
      refine ⟨_, (pss_cons (ps_set (i := 1) sc_law.nd rfl (Or.inr rfl) (pe_lst (pa_cons (pe_c F__law_draws (hr.mono (by decide)) (pa_cons (pv 0) (pa_cons pe_int pa_nil))) (pa_cons pe_int pa_nil))))
      (pss_cons (ps_set (i := 2) sc_law.nd rfl (Or.inl rfl) (pe_slice sl_T2 (pe_tupT (pa_cons pe_str (pa_cons pe_str pa_nil))) po_none (po_some (pe_op op_add pe_int (pe_c F__law_take (hr.mono (by decide)) (pa_cons (pv 1) (pa_cons pe_int pa_nil)))))))
      (pss_cons (ps_set (i := 3) sc_law.nd rfl (Or.inl rfl) (pe_tupT (pa_cons (pe_tupT (pa_cons pe_str (pa_cons (pv 2) (pa_cons (pe_tupT (pa_cons pe_str (pa_cons (pe_tupT (pa_cons pe_str (pa_cons pe_str pa_nil))) (pa_cons (pe_ix ix_last (pv 2) (pe_un un_neg pe_int) (fun _ _ => rfl)) pa_nil)))) pa_nil)))) pa_nil)))
      (pss_cons (ps_set (i := 4) sc_law.nd rfl (Or.inl rfl) (pe_tupT (pa_cons (pe_tupT (pa_cons pe_str (pa_cons (pv 2) (pa_cons (pe_tupT (pa_cons pe_str (pa_cons pe_str (pa_cons (pe_ix ix_last (pv 2) (pe_un un_neg pe_int) (fun _ _ => rfl)) pa_nil)))) pa_nil)))) pa_nil)))
      (pss_cons (ps_set (i := 5) sc_law.nd rfl (Or.inl rfl) (pe_tupT (pa_cons pe_str (pa_cons (pe_tupT (pa_cons pe_str (pa_cons pe_str pa_nil))) (pa_cons (pe_tupT (pa_cons pe_str (pa_cons pe_str pa_nil))) pa_nil)))))
      (Evl.pss_cut (ps_if (pt_cmpR op_gt (pe_callB call_lenT (by rfl) T.n_len PySem.boot_len (pa_cons (pv 2) pa_nil)) pe_int (nomark _)) (pss_one (ps_set (i := 5) sc_law.nd rfl (Or.inl rfl) (pe_tupT (pa_cons pe_str (pa_cons (pe_tupT (pa_cons pe_str (pa_cons pe_str pa_nil))) (pa_cons (pe_tupT (pa_cons pe_str (pa_cons pe_str (pa_cons (pe_tupT (pa_cons pe_str (pa_cons pe_str pa_nil))) pa_nil)))) pa_nil)))))) pss_nil)
      (pss_cons (ps_set (i := 3) sc_law.nd rfl (Or.inl rfl) (pe_op op_catTr (pv 3) (pe_tupT (pa_cons (pv 5) pa_nil))))
      (pss_cons (ps_set (i := 4) sc_law.nd rfl (Or.inl rfl) (pe_op op_catTr (pv 4) (pe_tupT (pa_cons (pv 5) pa_nil))))
      (pss_cons (ps_set (i := 6) sc_law.nd rfl (Or.inl rfl) (pe_c F__law_take (hr.mono (by decide)) (pa_cons (pv 1) (pa_cons pe_int pa_nil))))
      (pss_cons (ps_set (i := 7) sc_law.nd rfl (Or.inl rfl) (pe_ix ix_list (pe_lst (pa_cons (pe_tupT (pa_cons pe_str (pa_cons pe_str pa_nil))) (pa_cons (pe_tupT (pa_cons pe_str (pa_cons pe_str pa_nil))) pa_nil))) (pv 6) (fun _ _ => rfl)))
      (pss_cons (ps_set (i := 8) sc_law.nd rfl (Or.inl rfl) (pe_c F_ring_across (hr.mono (by decide)) (pa_cons (pe_lst (pa_cons (pv 3) (pa_cons (pv 4) pa_nil))) (pa_cons (pv 7) pa_nil))))
      (pss_cons (ps_if (pt_cmpR op_ne (pe_callB call_len_seq (by rfl) T.n_len PySem.boot_len (pa_cons (pv 8) pa_nil)) pe_int (nomark _)) (pss_one (ps_ret pe_bl)) pss_nil)
      (pss_cons (ps_par (i := 11) (j := 12) rfl sc_law.nd rfl rfl (by decide) rfl rfl (pa_cons (pe_ix ix_list (pv 8) (pv 6) (fun _ _ => rfl)) (pa_cons (pe_ix ix_list (pv 8) (pe_op op_sub pe_int (pv 6)) (fun _ _ => rfl)) pa_nil)) (by rfl))
      (pss_cons (ps_if (PW.pt (pw_or (pt_cmpR op_notN (pe_c F_check_program (hr.mono (by decide)) (pa_cons (pv 11) pa_nil)) pe_non (nomark _)) (pw_or1 (pt_cmpR op_notN (pe_c F_check_machine (hr.mono (by decide)) (pa_cons (pv 12) pa_nil)) pe_non (nomark _))))) (pss_one (ps_ret pe_bl)) pss_nil)
      (pss_cons (ps_if (pt_cmpR op_gt (pe_c F__law_take (hr.mono (by decide)) (pa_cons (pv 1) (pa_cons pe_int pa_nil))) pe_int (nomark _)) (pss_one (ps_ret pe_bl)) pss_nil)
      (pss_cons (ps_setLc (i := 9) (own := [("_law_one", 13)]) rfl sc_law.nd rfl rfl (sw_true rfl rfl rfl (by decide +kernel)) (pi_tup (pe_slice sl_T (pv 2) (po_some pe_int) po_none)) (blkOk_by (N := ["_law_script", "_law_hand", "_law_parameters", "_law_first", "_law_second", "_law_pick", "_law_at", "_law_kinds", "_law_made", "_law_inputs", "_law_run", "_law_plain", "_law_machine", "_law_one"]) (sc := defScope s_law) (by decide +kernel)) (fun _ _ _ _ _ => (pg_name (i := 13) sc_law.nd rfl (Or.inl rfl))) (fun _ _ _ _ _ => pts_nil) (fun _ _ _ _ _ => (pe_K (te := fun K => tCall (sp_law_value K 2) [] E0 (tCons (tVar 1) (tCons (tC (.int 2)) tNil))) K rfl <| pe_c F__law_value (hr.mono (by decide)) (pa_cons (pv 1) (pa_cons pe_int pa_nil)))))
      (pss_cons (ps_set (i := 10) sc_law.nd rfl (Or.inl rfl) (pe_c F_run_program (hr.mono (by decide)) (pa_cons (pv 11) (pa_cons (pv 9) (pa_cons pe_int pa_nil)))))
      (pss_cons (ps_if (PW.pt (pw_or (pt_cmpR op_ne (pe_fld (pv 10) rfl) pe_str (nomark _)) (pw_or1 (pt_cmpR (op_neT hr.units) (pe_fld (pv 10) rfl) (pe_op op_catTr (pe_callTy call_tupTr (by rfl) T.n_tuple PyProof.Rows.boot_tuple (pa_cons (pv 9) pa_nil)) (pv 12)) (nomark _))))) (pss_one (ps_ret pe_bl)) pss_nil)
      (pss_cons (ps_set (i := 10) sc_law.nd rfl (Or.inl rfl) (pe_c F_run_machine (hr.mono (by decide)) (pa_cons (pv 12) (pa_cons (pv 9) (pa_cons pe_int pa_nil)))))
      (pss_one (ps_ret (pe_and (pe_cmpR op_eq (pe_fld (pv 10) rfl) pe_str (nomark _)) (pe_one (pe_cmpR (op_eqT hr.units) (pe_fld (pv 10) rfl) (pe_op op_catTr (pe_callTy call_tupTr (by rfl) T.n_tuple PyProof.Rows.boot_tuple (pa_cons (pv 9) pa_nil)) (pv 11)) (nomark _))))))))))))))))))))))))), ?_⟩
      -- the hand
      refine ⟨_, rfl, a, ns, rfl, ha, hnl, fun p H1 ds k1 hp1 hdl hdb => ⟨zle (Nat.le_of_ble_eq_true rfl), fun h hh => ?_⟩⟩
      have ph : p ≠ h := by
        rintro rfl
        rw [hp1] at hh
        cases hh
      have k2 : Sm H1 (upd H1 h (.lst [.ref p, .int 0])) := Kp.new hh
      have hH2 : Hand (upd H1 h (.lst [.ref p, .int 0])) h p 0 := ⟨ds, upd_same, k2 _ _ hp1 (.inl (by simp)), hdb, ph⟩
      have hnew : H h = none := k1.none hh
      have kA2 := k1.trans k2
      generalize upd H1 h (.lst [.ref p, .int 0]) = H2 at k2 hH2 kA2 ⊢
      -- the parameters
      refine ⟨[.w pAll, .w pX], aa_cons (at_lit (by decide +kernel)) (aa_cons (at_lit (by decide +kernel)) aa_nil), zle (Nat.le_of_ble_eq_true rfl), fun p3 H3 k3 h3 => ?_⟩
      refine ⟨_, rfl, h, p, 0, 2, rfl, hH2.sm k3, by decide, fun z1 H4 k4 hH4 hz1 => ?_⟩
      obtain ⟨x, hx⟩ := prms_of hz1
      refine ⟨_, _, rfl, rfl, _, rfl, [.w pAll, .w pX], 1 + z1, k4.at_ h3, rfl, congrArg some (by omega), by show 1 + z1 ≤ 2; omega, ?_⟩
      rw [hx]
      intro p5 H5 k5 h5
      have hH5 := hH4.sm k5
      obtain ⟨tl, htl⟩ := last_of x
      have h5 : At K H5 (.l ((lawPs x).map .w)) (.ref p5) := h5
      have h5' : At K H5 (.l (tl ++ [.w (lawLast x)])) (.ref p5) := by
        rw [← htl]
        exact h5
      -- first
      refine ⟨_, rfl, [.w wTail, .w pAll], aa_cons (at_lit (by decide +kernel)) (aa_cons (at_lit (by decide +kernel)) aa_nil), zle (Nat.le_of_ble_eq_true rfl), fun q1 H6 k6 h6 => ?_⟩
      refine ⟨_, rfl, _, rfl, tl, _, k6.at_ h5', rfl, fun v7 h7 => ?_⟩
      refine ⟨[.w nPick, .l [.w wTail, .w pAll], .w (lawLast x)], aa_cons (at_lit (by decide +kernel)) (aa_cons h6 (aa_cons h7 aa_nil)), zle (Nat.le_of_ble_eq_true rfl), fun q2 H7 k7 h8 => ?_⟩
      refine ⟨[.w (kw [111, 110, 101]), .l ((lawPs x).map .w), .l [.w nPick, .l [.w wTail, .w pAll], .w (lawLast x)]], aa_cons (at_lit (by decide +kernel)) (aa_cons (k7.at_ (k6.at_ h5)) (aa_cons h8 aa_nil)), zle (Nat.le_of_ble_eq_true rfl), fun q3 H8 k8 h9 => ?_⟩
      refine ⟨[.l [.w (kw [111, 110, 101]), .l ((lawPs x).map .w), .l [.w nPick, .l [.w wTail, .w pAll], .w (lawLast x)]]], aa_cons h9 aa_nil, zle (Nat.le_of_ble_eq_true rfl), fun v3 H9 k9 h10 => ?_⟩
      have k59 : Sm H5 H9 := k6.trans (k7.trans (k8.trans k9))
      have hH9 := hH5.sm k59
      have g5 := k59.at_ h5
      have g5' := k59.at_ h5'
      -- second
      refine ⟨_, rfl, _, rfl, _, rfl, tl, _, g5', rfl, fun v8 h11 => ?_⟩
      refine ⟨[.w nPick, .w pAll, .w (lawLast x)], aa_cons (at_lit (by decide +kernel)) (aa_cons (at_lit (by decide +kernel)) (aa_cons h11 aa_nil)), zle (Nat.le_of_ble_eq_true rfl), fun q4 H10 k10 h12 => ?_⟩
      refine ⟨[.w (kw [116, 119, 111]), .l ((lawPs x).map .w), .l [.w nPick, .w pAll, .w (lawLast x)]], aa_cons (at_lit (by decide +kernel)) (aa_cons (k10.at_ g5) (aa_cons h12 aa_nil)), zle (Nat.le_of_ble_eq_true rfl), fun q5 H11 k11 h13 => ?_⟩
      refine ⟨[.l [.w (kw [116, 119, 111]), .l ((lawPs x).map .w), .l [.w nPick, .w pAll, .w (lawLast x)]]], aa_cons h13 aa_nil, zle (Nat.le_of_ble_eq_true rfl), fun v4 H12 k12 h14 => ?_⟩
      have k912 : Sm H9 H12 := k10.trans (k11.trans k12)
      -- pick
      refine ⟨[.w nList, .w pX], aa_cons (at_lit (by decide +kernel)) (aa_cons (at_lit (by decide +kernel)) aa_nil), zle (Nat.le_of_ble_eq_true rfl), fun q6 H13 k13 h15 => ?_⟩
      refine ⟨[.w wHead, .w nList], aa_cons (at_lit (by decide +kernel)) (aa_cons (at_lit (by decide +kernel)) aa_nil), zle (Nat.le_of_ble_eq_true rfl), fun q7 H14 k14 h16 => ?_⟩
      refine ⟨[.w nPick, .l [.w nList, .w pX], .l [.w wHead, .w nList]], aa_cons (at_lit (by decide +kernel)) (aa_cons (k14.at_ h15) (aa_cons h16 aa_nil)), zle (Nat.le_of_ble_eq_true rfl), fun v5 H15 k15 h17 => ?_⟩
      have k915 : Sm H9 H15 := k912.trans (k13.trans (k14.trans k15))
      have k1215 : Sm H12 H15 := k13.trans (k14.trans k15)
      have hH15 := hH9.sm k915
      have f3 := k915.at_ h10
      have f4 := k1215.at_ h14
      have f5 := k915.at_ g5
      clear h6 h7 h8 h9 h10 h11 h12 h13 h14 h15 h16 g5 g5' hH9 k10 k11 k12 k13 k14 k15 k6 k7 k8 k9
      refine ⟨fun σ H' => ∃ v5, σ = [some (.ref a), some (.ref h), some (.ref p5), some (.ref v3), some (.ref v4), some v5, none, none, none, none, none, none, none, none] ∧ Sm H15 H' ∧ At K H' (lawPick x).t v5, ?_, ?_⟩
      · refine ⟨_, rfl, _, _, rfl, f5, _, _, rfl, rfl, _, rfl, ?_⟩
        cases x with
        | false => exact iteF ⟨_, rfl, Kp.refl, h17⟩
        | true =>
          refine iteT ?_
          refine ⟨[.w nList, .w pX], aa_cons (at_lit (by decide +kernel)) (aa_cons (at_lit (by decide +kernel)) aa_nil), zle (Nat.le_of_ble_eq_true rfl), fun q6 H16 k16 h18 => ?_⟩
          refine ⟨[.w wHead, .w nList], aa_cons (at_lit (by decide +kernel)) (aa_cons (at_lit (by decide +kernel)) aa_nil), zle (Nat.le_of_ble_eq_true rfl), fun q7 H17 k17 h19 => ?_⟩
          refine ⟨[.w wJoin, .w pX, .l [.w wHead, .w nList]], aa_cons (at_lit (by decide +kernel)) (aa_cons (at_lit (by decide +kernel)) (aa_cons h19 aa_nil)), zle (Nat.le_of_ble_eq_true rfl), fun q8 H18 k18 h20 => ?_⟩
          refine ⟨[.w nPick, .l [.w nList, .w pX], .l [.w wJoin, .w pX, .l [.w wHead, .w nList]]], aa_cons (at_lit (by decide +kernel)) (aa_cons (k18.at_ (k17.at_ h18)) (aa_cons h20 aa_nil)), zle (Nat.le_of_ble_eq_true rfl), fun v6 H19 k19 h21 => ?_⟩
          exact ⟨_, rfl, k16.trans (k17.trans (k18.trans k19)), h21⟩
      rintro σ H16 ⟨v5, rfl, k16, f6⟩
      have hH16 := hH15.sm k16
      have f3 := k16.at_ f3
      have f4 := k16.at_ f4
      have f5 := k16.at_ f5
      clear h17 hH15
      refine ⟨_, rfl, _, rfl, [(lawPick x).t], aa_cons f6 aa_nil, zle (Nat.le_of_ble_eq_true rfl), fun q9 H17 k17 h18 => ⟨_, _, k17.at_ f3, h18, zle (Nat.le_of_ble_eq_true rfl), fun v3' H18 k18 h19 => ?_⟩⟩
      have e3 : At K H18 (progT (lawFirst x)) (.ref v3') := h19
      refine ⟨_, rfl, _, rfl, [(lawPick x).t], aa_cons ((k17.trans k18).at_ f6) aa_nil, zle (Nat.le_of_ble_eq_true rfl), fun q10 H19 k19 h20 => ⟨_, _, (k17.trans (k18.trans k19)).at_ f4, h20, zle (Nat.le_of_ble_eq_true rfl), fun v4' H20 k20 h21 => ?_⟩⟩
      have e4 : At K H20 (progT (lawSecond x)) (.ref v4') := h21
      have k1820 : Sm H18 H20 := k19.trans k20
      have k1620 : Sm H16 H20 := (k17.trans k18).trans k1820
      have e3 := k1820.at_ e3
      have hH20 := hH16.sm k1620
      have f5 := k1620.at_ f5
      clear f3 f4 f6 h18 h19 h20 h21 hH16
      -- at
      refine ⟨_, rfl, h, p, 1, 2, rfl, hH20, by decide, fun za H21 k21 hH21 hza => ?_⟩
      -- kinds
      refine ⟨[.w (kindW false), .w (kindW true)], aa_cons (at_lit lit_plain) (aa_cons (at_lit lit_machine) aa_nil), zle (Nat.le_of_ble_eq_true rfl), fun q11 H22 k22 h22 => ?_⟩
      refine ⟨[.w (kindW true), .w (kindW false)], aa_cons (at_lit lit_machine) (aa_cons (at_lit lit_plain) aa_nil), zle (Nat.le_of_ble_eq_true rfl), fun q12 H23 k23 h23 => ?_⟩
      refine ⟨zle (Nat.le_of_ble_eq_true rfl), fun l hl => ?_⟩
      have k24 : Sm H23 (upd H23 l (.lst [.ref q11, .ref q12])) := Kp.new hl
      have hl24 : (upd H23 l (.lst [.ref q11, .ref q12])) l = some (.lst [.ref q11, .ref q12]) := upd_same
      obtain ⟨aa, v7, hv7, hat, hk⟩ : ∃ aa : Bool, ∃ v7, [V.ref q11, V.ref q12][za]? = some v7 ∧ za = (match aa with | true => 1 | false => 0) ∧ At K (upd H23 l (.lst [.ref q11, .ref q12])) (kindsT (lawKinds aa)) v7 := by
        rcases (show za = 0 ∨ za = 1 by omega) with rfl | rfl
        · exact ⟨false, _, rfl, rfl, k24.at_ (k23.at_ h22)⟩
        · exact ⟨true, _, rfl, rfl, k24.at_ h23⟩
      refine ⟨_, rfl, l, _, (za : Int), _, rfl, rfl, sq_lst hl24, atI_nat hv7, ?_⟩
      have k2024 := k21.trans (k22.trans (k23.trans k24)).nil
      have e3 := k2024.at_ e3
      have e4 := k2024.at_ e4
      have f5 := k2024.at_ f5
      have hH24 := hH21.sm (k22.trans (k23.trans k24))
      generalize upd H23 l (.lst [.ref q11, .ref q12]) = H24 at hk e3 e4 f5 hH24 ⊢
      clear hl24 k24 h22 h23 hH21 hH20
      -- ring_across
      refine ⟨_, rfl, _, rfl, zle (Nat.le_of_ble_eq_true rfl), fun lp hlp => ?_⟩
      have k25 : Sm H24 (upd H24 lp (.lst [.ref v3', .ref v4'])) := Kp.new hlp
      refine ⟨_, rfl, lp, _, v7, [lawFirst x, lawSecond x], lawKinds aa, _, rfl, upd_same, aa_cons (k25.at_ e3) (aa_cons (k25.at_ e4) aa_nil), k25.at_ hk, (OK x aa).ac, fun r us H26 k26 hr26 haus => ?_⟩
      have k2426 := k25.trans k26
      have hH26 := hH24.sm k2426
      have f5 := k2426.at_ f5
      obtain ⟨up, um, hup, hum, aup, aum, hul⟩ : ∃ up um, us[za]? = some up ∧ us[1 - za]? = some um ∧ At K H26 (progT (lawPlain x aa)) up ∧ At K H26 (lawMach x aa) um ∧ us.length = 2 := by
        rw [across_law] at haus
        rw [hat]
        cases aa with
        | true =>
          obtain ⟨u0, r0, rfl, b0, u1, r1, rfl, b1, b2⟩ := haus
          rw [show r1 = [] from b2]
          exact ⟨u1, u0, rfl, rfl, b1, b0, rfl⟩
        | false =>
          obtain ⟨u0, r0, rfl, b0, u1, r1, rfl, b1, b2⟩ := haus
          rw [show r1 = [] from b2]
          exact ⟨u0, u1, rfl, rfl, b0, b1, rfl⟩
      clear haus e3 e4 hH24 hk hv7
      refine ⟨_, rfl, r, us, rfl, .inl (sq_lst hr26), rfl, false, by rw [hul] <;> rfl, iteF ?_⟩
      refine ⟨_, rfl, _, rfl, r, us, (za : Int), up, rfl, rfl, sq_lst hr26, atI_nat hup, _, rfl, _, rfl, _, _, rfl, rfl, r, us, ((1 - za : Nat) : Int), um, rfl, congrArg V.int (by omega), sq_lst hr26, atI_nat hum, up, um, rfl, ?_⟩
      obtain ⟨f0, fr, rs, ho, hrs, mok, hrunM⟩ := (OK x aa).mo
      have em : lawMach x aa = .l (rs.map rtT) := by
        unfold lawMach toMachine
        rw [ho, hrs]
      -- checks
      refine ⟨_, rfl, up, _, rfl, aup, (OK x aa).gp, fun H27 k27 => ?_⟩
      refine ⟨rfl, false, rfl, iteF ?_⟩
      refine ⟨_, rfl, um, rs, rfl, by rw [← em]; exact k27.at_ aum, mok, fun H28 k28 => ?_⟩
      refine ⟨rfl, false, rfl, iteF ?_⟩
      have k2628 := k27.trans k28
      have hH28 := hH26.sm k2628
      have f5 := k2628.at_ f5
      have aup := k2628.at_ aup
      have aum := k2628.at_ aum
      refine ⟨_, rfl, h, p, _, 16, rfl, hH28, by decide, fun zb H29 k29 hH29 hzb => ?_⟩
      refine ⟨_, _, rfl, rfl, _, rfl, ?_⟩
      by_cases hz0 : 0 < zb
      · rw [decide_eq_true (by omega)]
        exact iteT (q _)
      rw [decide_eq_false (by omega)]
      refine iteF ?_
      have f5 := k29.at_ f5
      have aup := k29.at_ aup
      have aum := k29.at_ aum
      -- inputs
      have hpl := prms_len x
      refine ⟨_, rfl, _, rfl, _, f5, .inl ⟨1, rfl, rfl, Nat.le_refl 1, by rw [List.length_map]; omega, fun p4 H30 k30 h30 => ?_⟩⟩
      have h30 : At K H30 (.l (((lawPs x).map .w).drop 1)) (.ref p4) := h30
      obtain ⟨p4', xs4, e4, hX4, hA4⟩ := id h30
      cases e4
      have hxl : xs4.length = (lawPs x).length - 1 := by
        rw [aa_len hA4, List.length_drop, List.length_map]
      have hH30 := hH29.sm k30
      have aup := k30.at_ aup
      have aum := k30.at_ aum
      refine ⟨p4, rfl, ⟨xs4, hX4.sq⟩, fun D hD => lc_y walk_tup (fun i H' => ∃ acc ts k', H' D = some (.lst acc) ∧ Kp [h] H30 H' ∧ Hand H' h p k' ∧ AtAll K H' ts acc ∧ ts.length = i ∧ ∀ u ∈ ts, TV 2 u) ⟨[], [], _, upd_same, (Kp.new hD : Sm H30 _).nil, hH30.sm (Kp.new hD), aa_nil, rfl, fun u h => by cases h⟩ (fun i H' _ ⟨_, _, _, _, k, _⟩ => (k.xt hX4).sq) ?_ ?_⟩
      · rintro i xv Ha Hb hi ⟨acc, ts, k', h1, k3, hH3, aA, hl3, hall⟩ ⟨rfl, hxi⟩
        refine ⟨rfl, _, rfl, h, p, k', rfl, hH3, fun k'' t v H4 k4 hH4 hAt hTV => ?_⟩
        have Dh : D ≠ h := by
          rintro rfl
          obtain ⟨_, h1, _⟩ := hH30.ex
          rw [h1] at hD
          cases hD
        have h14 := k4.keep h1 (by simp [Dh])
        have k5 : Kp [D] H4 (upd H4 D (.lst (acc ++ [v]))) := Kp.own h14
        have al := aa_len aA
        refine ⟨acc, h14, by rw [sizeLine_eq]; omega, acc ++ [v], ts ++ [t], k'', upd_same, (k3.trans k4).set hD, ?_, ?_, by rw [List.length_append, hl3]; rfl, fun u hu => ?_⟩
        · obtain ⟨ds, g1, g2, g3, g4⟩ := hH4.ex
          have dD : p ≠ D := by
            rintro rfl
            obtain ⟨_, _, p2, _⟩ := hH30.ex
            rw [p2] at hD
            cases hD
          exact ⟨ds, k5.keep g1 (by simp [Ne.symm Dh]), k5.keep g2 (by simp [dD]), g3, g4⟩
        · exact aa_app (k5.aa (k4.aa aA)) (aa_cons (k5.at_ hAt) aa_nil)
        · rcases List.mem_append.mp hu with hu | hu
          · exact hall u hu
          · rw [List.mem_singleton.mp hu]
            exact hTV
      rintro H31 ⟨acc, ins, k', hD31, k31, hH31, aA, hil, hall⟩
      rw [hxl] at hil
      have aup := k31.at_ aup
      have aum := k31.at_ aum
      have hil1 : ins.length + 1 = (lawPs x).length := by omega
      have hip := (OK x aa).ip
      obtain ⟨i1, i2, i3⟩ := ins_ok ins hall
      obtain ⟨s1, s2, s3⟩ := (OK x aa).sp
      obtain ⟨m1, m2, m3⟩ := (OK x aa).sm
      have dd := depthL_app ins ((lawOther x aa).flatMap fnMach)
      have dd2 := depthL_app ins ((lawPlain x aa).map Fn.t)
      have pp := parts_app ins ((lawOther x aa).flatMap fnMach)
      have pp2 := parts_app ins ((lawPlain x aa).map Fn.t)
      have ok1 : G.T.okWs (ins ++ (lawOther x aa).flatMap fnMach) = true := by rw [okWs_app, i1, m3] <;> rfl
      have ok2 : G.T.okWs (ins ++ (lawPlain x aa).map Fn.t) = true := by rw [okWs_app, i1, s3] <;> rfl
      have ci := cTs_parts ins
      have c1 : cT (progT (lawPlain x aa)) + 1 ≤ 3 * (1 + G.T.partsL ((lawPlain x aa).map Fn.t)) := cT_parts (progT (lawPlain x aa))
      have c2 := cTs_parts ((lawOther x aa).flatMap fnMach)
      obtain ⟨N, hN, hrun⟩ := (OK x aa).rp ins hil1
      obtain ⟨N2, st2, hN2, hrun2⟩ := hrunM ins hil1
      -- run_program
      refine ⟨_, rfl, _, rfl, up, D, acc, lawPlain x aa, ins, _, N, rfl, aup, hD31, aA, (OK x aa).gp, by omega, by omega, hN, hrun, by show 1 + G.T.partsL (ins ++ (lawOther x aa).flatMap fnMach) ≤ _; omega, by show G.T.depthL (ins ++ (lawOther x aa).flatMap fnMach) ≤ _; omega, fun r1 dx1 fs1 v1 H32 k32 hr1 g1 g2 g3 => ?_⟩
      refine ⟨_, rfl, r1, _, dx1, fs1, _, rfl, hr1, T.cl_Run, T.a_Run_kind, g1, rfl, false, by simp, iteF ?_⟩
      refine ⟨_, rfl, r1, _, dx1, fs1, _, rfl, hr1, T.cl_Run, T.a_Run_value, g2, ?_⟩
      have hD32 := k32 _ _ hD31 (.inl (by simp))
      have aA32 := k32.aa aA
      have aup := k32.at_ aup
      have aum := k32.at_ aum
      refine ⟨_, rfl, D, acc, ins, rfl, sq_lst hD32, aA32, fun p33 H33 k33 h33 => ⟨_, rfl, ins, (lawOther x aa).flatMap fnMach, h33, k33.at_ aum, ?_, fun p34 H34 k34 h34 => ?_⟩⟩
      · have l1 := cTs_len ins
        have l2 := cTs_len ((lawOther x aa).flatMap fnMach)
        rw [sizeLine_eq]
        omega
      refine ⟨_, k34.at_ (k33.at_ g3), h34, ok1, by show G.T.depthL (ins ++ (lawOther x aa).flatMap fnMach) ≤ _; omega, false, rfl, iteF ?_⟩
      have k3234 := k33.trans k34
      have hD34 := k3234 _ _ hD32 (.inl (by simp))
      have aA34 := k3234.aa aA32
      have aup := k3234.at_ aup
      have aum := k3234.at_ aum
      -- run_machine
      rw [em] at aum
      have em2 : toMachine (f0 :: fr) = .l (rs.map rtT) := by
        unfold toMachine
        rw [hrs]
      rw [ho, hrs] at c2 m1
      refine ⟨_, rfl, _, rfl, um, D, acc, ins, _, st2, f0, fr, rs, N2, rfl, by rw [em2]; exact aum, hD34, aA34, by rw [← ho]; exact (OK x aa).go, hrs, mok, by omega, hN2, hrun2, by show 1 + G.T.partsL (ins ++ (lawPlain x aa).map Fn.t) ≤ _; omega, by show G.T.depthL (ins ++ (lawPlain x aa).map Fn.t) ≤ _; omega, fun r2 dx2 fs2 v2 H35 k35 hr2 g4 g5 g6 => ?_⟩
      refine ⟨_, rfl, r2, _, dx2, fs2, _, rfl, hr2, T.cl_Run, T.a_Run_kind, g4, rfl, true, by simp, iteT ?_⟩
      refine ⟨_, rfl, r2, _, dx2, fs2, _, rfl, hr2, T.cl_Run, T.a_Run_value, g5, ?_⟩
      have hD35 := k35 _ _ hD34 (.inl (by simp))
      have aA35 := k35.aa aA34
      have aup := k35.at_ aup
      refine ⟨_, rfl, D, acc, ins, rfl, sq_lst hD35, aA35, fun p36 H36 k36 h36 => ⟨_, rfl, ins, (lawPlain x aa).map Fn.t, h36, k36.at_ aup, ?_, fun p37 H37 k37 h37 => ?_⟩⟩
      · have l1 := cTs_len ins
        have l2 := cTs_len ((lawPlain x aa).map Fn.t)
        have l3 := cTs_parts ((lawPlain x aa).map Fn.t)
        rw [sizeLine_eq]
        omega
      exact ⟨_, k37.at_ (k36.at_ g6), h37, ok2, by show G.T.depthL (ins ++ (lawPlain x aa).map Fn.t) ≤ _; omega, q _⟩
    obtain ⟨t, h1, h2⟩ := key
    exact ⟨t, h1.nox, h2⟩
end
end G
set_option maxRecDepth 1000000
set_option maxHeartbeats 40000000
/-! F9a: the two machines once more, written for the kernel. -/
noncomputable section
namespace G
namespace R
open PySem
def lbr (a : List Nat) : List Nat → Bool := List.rec (motive := fun _ => List Nat → Bool) (fun b => List.rec (motive := fun _ => Bool) true (fun _ _ _ => false) b) (fun x _ ih b => List.rec (motive := fun _ => Bool) false (fun y ys _ => Bool.rec false (ih ys) (Nat.beq x y)) b) a
def seqR (a b : Str) : Bool := lbr a.cps.toList b.cps.toList
def andR (a b : Bool) : Bool := Bool.rec false b a
/-- equality of trees -/
def beqR : T → T → Bool := fun t => T.rec (motive_1 := fun _ => T → Bool) (motive_2 := fun _ => List T → Bool)
  (fun a u => T.casesOn (motive_1 := fun _ => Bool) u (fun b => seqR a b) (fun _ => false))
  (fun _ ih u => T.casesOn (motive_1 := fun _ => Bool) u (fun _ => false) (fun ys => ih ys))
  (fun ys => List.rec (motive := fun _ => Bool) true (fun _ _ _ => false) ys)
  (fun _ _ ih1 ih2 ys => List.rec (motive := fun _ => Bool) false (fun y ys' _ => andR (ih1 y) (ih2 ys')) ys) t
abbrev A := Option (List T)
abbrev Ih := List Tk → List T → A
def envR (s : Str) (yes : T → A) (env : EnvT) : A := List.rec (motive := fun _ => A) none (fun p _ ih => Prod.rec (motive := fun _ => A) (fun k t => Bool.rec (motive := fun _ => A) ih (yes t) (seqR k s)) p) env
inductive Kd where
  | bad
  | iff (c a b : Xp)
  | plain
  | call (n : Nat)
def cls (f : Str) (as : List Xp) : Kd := match Nat.ble as.length 20 with
  | false => .bad
  | true => match seqR f wQuote with
    | true => .bad
    | false => match seqR f wIf with
      | true => match as with
        | c :: a :: b :: _ => .iff c a b
        | _ => .bad
      | false => match inS f plain with
        | true => .plain
        | false => .call as.length
def pushR (env : EnvT) (td : List Tk) (as : List Xp) : List Tk := List.rec (motive := fun _ => List Tk) td (fun a _ ih => .ev a env :: ih) as
def stK (ih : Ih) (td : List Tk) (fd : List T) (env : EnvT) (f : Str) (as : List Xp) (k : Kd) : A := Kd.rec (motive := fun _ => A) none (fun c a b => ih (.ev c env :: .br a b env :: td) fd) (ih (pushR env (.pr f :: td) as) fd) (fun n => ih (pushR env (.ca f n :: td) as) fd) k
def stEv (ih : Ih) (td : List Tk) (fd : List T) (env : EnvT) (e : Xp) : A := Xp.casesOn (motive_1 := fun _ => A) e (fun s => envR s (fun t => ih td (t :: fd)) env) (fun t => ih td (t :: fd)) (fun f as => stK ih td fd env f as (cls f as))
inductive Op where
  | head
  | tail
  | word
  | same
  | join
def opc (f : Str) : Op := match seqR f wHead with
  | true => .head
  | false => match seqR f wTail with
    | true => .tail
    | false => match seqR f wWord with
      | true => .word
      | false => match seqR f wSame with
        | true => .same
        | false => .join
def hdR (k : T → A) (y : T) : A := T.casesOn (motive_1 := fun _ => A) y (fun _ => k (.l [])) (fun xs => List.rec (motive := fun _ => A) (k (.l [])) (fun x _ _ => k x) xs)
def tlR (k : T → A) (y : T) : A := T.casesOn (motive_1 := fun _ => A) y (fun _ => k (.l [])) (fun xs => List.rec (motive := fun _ => A) (k (.l [])) (fun _ r _ => k (.l r)) xs)
def wdR (k : T → A) (y : T) : A := T.casesOn (motive_1 := fun _ => A) y (fun _ => k (.w wYes)) (fun _ => k (.l []))
def smR (k : T → A) (x y : T) : A := Bool.rec (motive := fun _ => A) (k (.l [])) (k (.w wYes)) (beqR x y)
def jnR (k : T → A) (x y : T) : A := T.casesOn (motive_1 := fun _ => A) y (fun _ => k (.l [x])) (fun ys => k (.l (x :: ys)))
/-- with the second of them -/
def sec (k : T → List T → A) (r : List T) : A := List.rec (motive := fun _ => A) none (fun x r2 _ => k x r2) r
def stO (k : List T → A) (y : T) (r : List T) (o : Op) : A := Op.rec (motive := fun _ => A) (hdR (fun t => k (t :: r)) y) (tlR (fun t => k (t :: r)) y) (wdR (fun t => k (t :: r)) y)
  (sec (fun x r2 => smR (fun t => k (t :: r2)) x y) r) (sec (fun x r2 => jnR (fun t => k (t :: r2)) x y) r) o
def stPr (k : List T → A) (fd : List T) (f : Str) : A := List.rec (motive := fun _ => A) none (fun y r _ => stO k y r (opc f)) fd
def nilR (a b : A) (c : T) : A := T.casesOn (motive_1 := fun _ => A) c (fun _ => a) (fun xs => List.rec (motive := fun _ => A) b (fun _ _ _ => a) xs)
def stBr (ih : Ih) (td : List Tk) (fd : List T) (a b : Xp) (env : EnvT) : A := List.rec (motive := fun _ => A) none (fun c r _ => nilR (ih (.ev a env :: td) r) (ih (.ev b env :: td) r) c) fd
def popR (ih : Ih) (td : List Tk) (body : Xp) (rps : List Str) : List T → EnvT → A := List.rec (motive := fun _ => List T → EnvT → A) (fun fd env => ih (.ev body env :: td) fd) (fun p _ rec fd env => List.rec (motive := fun _ => A) none (fun a fd' _ => rec fd' ((p, a) :: env)) fd) rps
def revR (ps : List Str) : List Str := ps.reverse
def stFn (ih : Ih) (td : List Tk) (fd : List T) (m : Nat) (g : Fn) : A := Fn.rec (motive := fun _ => A) (fun _ ps body => Bool.rec (motive := fun _ => A) none (popR ih td body (revR ps) fd []) (Nat.beq ps.length m)) g
def stCa (fs : List Fn) (ih : Ih) (td : List Tk) (fd : List T) (f : Str) (m : Nat) : A := Option.rec (motive := fun _ => A) none (fun g => stFn ih td fd m g) (fnGet f fs)
def stTk (fs : List Fn) (ih : Ih) (td : List Tk) (fd : List T) (tk : Tk) : A := Tk.rec (motive := fun _ => A) (fun e env => stEv ih td fd env e) (fun f => stPr (fun fd' => ih td fd') fd f) (fun a b env => stBr ih td fd a b env) (fun f m => stCa fs ih td fd f m) tk
def stTd (fs : List Fn) (ih : Ih) (td : List Tk) (fd : List T) : A := List.rec (motive := fun _ => A) (some fd) (fun tk td' _ => stTk fs ih td' fd tk) td
def goR (fs : List Fn) (n : Nat) : List Tk → List T → A := Nat.rec (motive := fun _ => List Tk → List T → A) (fun _ _ => none) (fun _ ih td fd => stTd fs ih td fd) n
/-! the stack machine -/
abbrev Im := List (List Co) → List T → A
def nthR (k : T → A) (n : Nat) : List T → A := Nat.rec (motive := fun _ => List T → A) (fun st => List.rec (motive := fun _ => A) none (fun t _ _ => k t) st) (fun _ ih st => List.rec (motive := fun _ => A) none (fun _ r _ => ih r) st) n
def dropR (k : List T → A) (n : Nat) : List T → A := Nat.rec (motive := fun _ => List T → A) (fun st => k st) (fun _ ih st => List.rec (motive := fun _ => A) none (fun _ r _ => ih r) st) n
def slR (k : List T → A) (n : Nat) (st : List T) : A := List.rec (motive := fun _ => A) none (fun t r _ => dropR (fun r' => k (t :: r')) n r) st
def caR (fs : List Fn) (ih : Im) (td : List (List Co)) (st : List T) (f : Str) : A := Option.rec (motive := fun _ => A) none (fun g => ih (codeOf g :: td) st) (fnGet f fs)
def brR (ih : Im) (td : List (List Co)) (st : List T) (a b : List Co) : A := List.rec (motive := fun _ => A) none (fun t r _ => nilR (ih (a :: td) r) (ih (b :: td) r) t) st
def stCo (fs : List Fn) (ih : Im) (td : List (List Co)) (st : List T) (c : Co) : A := Co.casesOn (motive_1 := fun _ => A) c (fun t => ih td (t :: st)) (fun n => nthR (fun t => ih td (t :: st)) n st) (fun n => slR (fun st' => ih td st') n st) (fun f => stPr (fun st' => ih td st') st f) (fun f => caR fs ih td st f) (fun _ a _ b => brR ih td st a b)
def stCs (fs : List Fn) (ih : Im) (td : List (List Co)) (st : List T) (cs : List Co) : A := List.rec (motive := fun _ => A) (ih td st) (fun c cs' _ => stCo fs ih (cs' :: td) st c) cs
def stFr (fs : List Fn) (ih : Im) (td : List (List Co)) (st : List T) : A := List.rec (motive := fun _ => A) (some st) (fun cs td' _ => stCs fs ih td' st cs) td
def goM (fs : List Fn) (n : Nat) : List (List Co) → List T → A := Nat.rec (motive := fun _ => List (List Co) → List T → A) (fun _ _ => none) (fun _ ih td st => stFr fs ih td st) n
end R
end G
end
set_option maxRecDepth 100000
set_option maxHeartbeats 4000000
/-! F9b: they are the same machines. -/
noncomputable section
namespace G
namespace R
open PySem
theorem lbr_eq : ∀ a b : List Nat, lbr a b = (a == b)
  | [], [] => rfl
  | [], _ :: _ => rfl
  | _ :: _, [] => rfl
  | x :: xs, y :: ys => by
    have h : lbr (x :: xs) (y :: ys) = Bool.rec false (lbr xs ys) (Nat.beq x y) := rfl
    rw [h, lbr_eq xs ys]
    have h2 : ((x :: xs) == (y :: ys)) = ((x == y) && (xs == ys)) := rfl
    rw [h2]
    have h3 : (x == y) = Nat.beq x y := by
      cases z : Nat.beq x y with
      | true =>
        rw [Nat.eq_of_beq_eq_true z]
        exact beq_self_eq_true y
      | false => exact beq_eq_false_iff_ne.mpr (Nat.ne_of_beq_eq_false z)
    rw [h3]
    cases Nat.beq x y <;> rfl
theorem seqR_eq (a b : Str) : seqR a b = seq a b := lbr_eq _ _
theorem andR_eq (a b : Bool) : andR a b = (a && b) := by cases a <;> rfl
def beqsR : List T → List T → Bool := fun t => T.rec_1 (motive_1 := fun _ => T → Bool) (motive_2 := fun _ => List T → Bool)
  (fun a u => T.casesOn (motive_1 := fun _ => Bool) u (fun b => seqR a b) (fun _ => false))
  (fun _ ih u => T.casesOn (motive_1 := fun _ => Bool) u (fun _ => false) (fun ys => ih ys))
  (fun ys => List.rec (motive := fun _ => Bool) true (fun _ _ _ => false) ys)
  (fun _ _ ih1 ih2 ys => List.rec (motive := fun _ => Bool) false (fun y ys' _ => andR (ih1 y) (ih2 ys')) ys) t
mutual
theorem beqR_eq : ∀ x y : T, beqR x y = T.beq x y
  | .w a, .w b => seqR_eq a b
  | .l xs, .l ys => beqsR_eq xs ys
  | .w _, .l _ => rfl
  | .l _, .w _ => rfl
theorem beqsR_eq : ∀ xs ys : List T, beqsR xs ys = T.beqs xs ys
  | [], [] => rfl
  | [], _ :: _ => rfl
  | _ :: _, [] => rfl
  | x :: xs, y :: ys => by
    have h : beqsR (x :: xs) (y :: ys) = andR (beqR x y) (beqsR xs ys) := rfl
    rw [h, andR_eq, beqR_eq x y, beqsR_eq xs ys]
    rfl
end
theorem envR_eq (s : Str) (yes : T → A) : ∀ env : EnvT, envR s yes env = (match envGet s env with | some t => yes t | none => none)
  | [] => rfl
  | (k, t) :: r => by
    have h : envR s yes ((k, t) :: r) = Bool.rec (motive := fun _ => A) (envR s yes r) (yes t) (seqR k s) := rfl
    have h2 : envGet s ((k, t) :: r) = (match seq k s with | true => some t | false => envGet s r) := rfl
    rw [h, h2, seqR_eq, envR_eq s yes r]
    cases seq k s <;> rfl
theorem pushR_eq (env : EnvT) (td : List Tk) : ∀ as : List Xp, pushR env td as = pushEv env as td
  | [] => rfl
  | a :: as => by
    have h : pushR env td (a :: as) = .ev a env :: pushR env td as := rfl
    rw [h, pushR_eq env td as]
    rfl
theorem stK_eq (ih : Ih) (td : List Tk) (fd : List T) (env : EnvT) (f : Str) (as : List Xp) : stK ih td fd env f as (cls f as) = (match stepN f as env td with | some td' => ih td' fd | none => none) := by
  unfold cls stepN stepI
  rw [seqR_eq, seqR_eq]
  cases Nat.ble as.length 20 with
  | false => rfl
  | true =>
    dsimp only
    cases seq f wQuote with
    | true => rfl
    | false =>
      dsimp only
      cases seq f wIf with
      | true =>
        dsimp only
        match as with
        | [] => rfl
        | [_] => rfl
        | [_, _] => rfl
        | _ :: _ :: _ :: _ => rfl
      | false =>
        dsimp only
        cases inS f plain with
        | true =>
          show ih (pushR env (.pr f :: td) as) fd = _
          rw [pushR_eq]
        | false =>
          show ih (pushR env (.ca f as.length :: td) as) fd = _
          rw [pushR_eq]
theorem stEv_eq (ih : Ih) (td : List Tk) (fd : List T) (env : EnvT) (e : Xp) : stEv ih td fd env e = (match stepE e env td fd with | some (td', fd') => ih td' fd' | none => none) := by
  cases e with
  | v s =>
    have h : stEv ih td fd env (.v s) = envR s (fun t => ih td (t :: fd)) env := rfl
    rw [h, envR_eq]
    unfold stepE
    dsimp only
    cases envGet s env <;> rfl
  | q t => rfl
  | n f as =>
    have h : stEv ih td fd env (.n f as) = stK ih td fd env f as (cls f as) := rfl
    rw [h, stK_eq]
    unfold stepE
    dsimp only
    cases stepN f as env td <;> rfl
theorem hdR_eq (k : T → A) (y : T) : hdR k y = k y.hd := by
  match y with
  | .w _ => rfl
  | .l [] => rfl
  | .l (_ :: _) => rfl
theorem tlR_eq (k : T → A) (y : T) : tlR k y = k y.tl := by
  match y with
  | .w _ => rfl
  | .l [] => rfl
  | .l (_ :: _) => rfl
theorem wdR_eq (k : T → A) (y : T) : wdR k y = k (T.ofB y.isW) := by
  match y with
  | .w _ => rfl
  | .l _ => rfl
theorem smR_eq (k : T → A) (x y : T) : smR k x y = k (T.ofB (T.beq x y)) := by
  unfold smR
  rw [beqR_eq]
  cases T.beq x y <;> rfl
theorem jnR_eq (k : T → A) (x y : T) : jnR k x y = k (T.join x y) := by
  match y with
  | .w _ => rfl
  | .l _ => rfl
theorem stPr_eq (k : List T → A) (fd : List T) (f : Str) : stPr k fd f = (match prim f fd with | some fd' => k fd' | none => none) := by
  cases fd with
  | nil => rfl
  | cons y r =>
    have h : stPr k (y :: r) f = stO k y r (opc f) := rfl
    rw [h]
    unfold opc prim
    rw [seqR_eq, seqR_eq, seqR_eq, seqR_eq]
    dsimp only
    cases seq f wHead with
    | true => exact hdR_eq (fun t => k (t :: r)) y
    | false =>
      dsimp only
      cases seq f wTail with
      | true => exact tlR_eq (fun t => k (t :: r)) y
      | false =>
        dsimp only
        cases seq f wWord with
        | true => exact wdR_eq (fun t => k (t :: r)) y
        | false =>
          dsimp only
          cases seq f wSame with
          | true =>
            cases r with
            | nil => rfl
            | cons x r2 => exact smR_eq (fun t => k (t :: r2)) x y
          | false =>
            cases r with
            | nil => rfl
            | cons x r2 => exact jnR_eq (fun t => k (t :: r2)) x y
theorem nilR_eq (a b : A) (c : T) : nilR a b c = (match isNil c with | true => b | false => a) := by
  match c with
  | .w _ => rfl
  | .l [] => rfl
  | .l (_ :: _) => rfl
theorem zip_snoc : ∀ (ps : List Str) (as : List T) (p : Str) (a : T), ps.length = as.length → zipEnv (ps ++ [p]) (as ++ [a]) = zipEnv ps as ++ [(p, a)]
  | [], [], p, a, _ => rfl
  | q :: ps, b :: as, p, a, h => by
    show (q, b) :: zipEnv (ps ++ [p]) (as ++ [a]) = (q, b) :: (zipEnv ps as ++ [(p, a)])
    rw [zip_snoc ps as p a (by simpa using h)]
  | [], _ :: _, _, _, h => by cases h
  | _ :: _, [], _, _, h => by cases h
theorem popR_eq (ih : Ih) (td : List Tk) (body : Xp) : ∀ (rps : List Str) (fd : List T) (env : EnvT), popR ih td body rps fd env = (match Nat.ble rps.length fd.length with
    | true => ih (.ev body (zipEnv rps.reverse (fd.take rps.length).reverse ++ env) :: td) (fd.drop rps.length)
    | false => none)
  | [], fd, env => by
    show ih (.ev body env :: td) fd = _
    rw [show Nat.ble ([] : List Str).length fd.length = true from Nat.ble_eq_true_of_le (Nat.zero_le _)]
    rfl
  | p :: rps, [], env => rfl
  | p :: rps, a :: fd, env => by
    have h : popR ih td body (p :: rps) (a :: fd) env = popR ih td body rps fd ((p, a) :: env) := rfl
    rw [h, popR_eq ih td body rps fd]
    have e : Nat.ble (p :: rps).length (a :: fd).length = Nat.ble rps.length fd.length := rfl
    rw [e]
    cases z : Nat.ble rps.length fd.length with
    | false => rfl
    | true =>
      have hl := Nat.le_of_ble_eq_true z
      have e2 : (a :: fd).take (p :: rps).length = a :: fd.take rps.length := rfl
      rw [e2, List.reverse_cons, List.reverse_cons, zip_snoc _ _ _ _ (by rw [List.length_reverse, List.length_reverse, List.length_take]; omega), List.append_assoc]
      rfl
theorem stCa_eq (fs : List Fn) (ih : Ih) (td : List Tk) (fd : List T) (f : Str) (m : Nat) : stCa fs ih td fd f m = (match step1 fs (.ca f m) td fd with | some (td', fd') => ih td' fd' | none => none) := by
  unfold stCa step1
  dsimp only
  cases fnGet f fs with
  | none => rfl
  | some g =>
    obtain ⟨nm, ps, body⟩ := g
    show Bool.rec (motive := fun _ => A) none (popR ih td body (revR ps) fd []) (Nat.beq ps.length m) = _
    dsimp only
    cases c2 : Nat.beq ps.length m with
    | false =>
      show none = _
      cases Nat.ble m fd.length <;> rfl
    | true =>
      have e := Nat.eq_of_beq_eq_true c2
      subst e
      show popR ih td body (revR ps) fd [] = _
      rw [popR_eq]
      unfold revR
      rw [List.length_reverse, List.reverse_reverse, List.append_nil]
      cases Nat.ble ps.length fd.length <;> rfl
theorem stTk_eq (fs : List Fn) (ih : Ih) (td : List Tk) (fd : List T) (tk : Tk) : stTk fs ih td fd tk = (match step1 fs tk td fd with | none => none | some (td', fd') => ih td' fd') := by
  cases tk with
  | ev e env =>
    show stEv ih td fd env e = _
    rw [stEv_eq]
    unfold step1
    dsimp only
    cases stepE e env td fd <;> rfl
  | pr f =>
    show stPr (fun fd' => ih td fd') fd f = _
    rw [stPr_eq]
    unfold step1
    dsimp only
    cases prim f fd <;> rfl
  | br a b env =>
    cases fd with
    | nil => rfl
    | cons c r =>
      show nilR (ih (.ev a env :: td) r) (ih (.ev b env :: td) r) c = _
      rw [nilR_eq]
      unfold step1
      dsimp only
      cases isNil c <;> rfl
  | ca f m =>
    show stCa fs ih td fd f m = _
    rw [stCa_eq]
    cases step1 fs (.ca f m) td fd <;> rfl
theorem goR_eq (fs : List Fn) : ∀ (n : Nat) (td : List Tk) (fd : List T), goR fs n td fd = go1 fs n td fd
  | 0, _, _ => rfl
  | n + 1, [], fd => rfl
  | n + 1, tk :: td, fd => by
    show stTk fs (goR fs n) td fd tk = (match step1 fs tk td fd with | none => none | some (td', fd') => go1 fs n td' fd')
    rw [stTk_eq]
    cases step1 fs tk td fd with
    | none => rfl
    | some r => exact goR_eq fs n r.1 r.2
/-! the stack machine -/
theorem nthR_eq (k : T → A) : ∀ (n : Nat) (st : List T), nthR k n st = (match st[n]? with | some t => k t | none => none)
  | 0, [] => rfl
  | 0, _ :: _ => rfl
  | _ + 1, [] => rfl
  | n + 1, t :: r => by
    show nthR k n r = _
    rw [nthR_eq k n r]
    rfl
theorem dropR_eq (k : List T → A) : ∀ (n : Nat) (st : List T), dropR k n st = (match Nat.ble n st.length with | true => k (st.drop n) | false => none)
  | 0, st => by
    rw [show Nat.ble 0 st.length = true from Nat.ble_eq_true_of_le (Nat.zero_le _)]
    rfl
  | _ + 1, [] => rfl
  | n + 1, t :: r => by
    show dropR k n r = _
    rw [dropR_eq k n r]
    rfl
theorem stCo_eq (fs : List Fn) (ih : Im) (td : List (List Co)) (st : List T) (c : Co) : stCo fs ih td st c = (match step2 fs c td st with | none => none | some (td', st') => ih td' st') := by
  cases c with
  | push t => rfl
  | copy n =>
    show nthR (fun t => ih td (t :: st)) n st = _
    rw [nthR_eq]
    unfold step2
    dsimp only
    cases st[n]? <;> rfl
  | slide n =>
    cases st with
    | nil => rfl
    | cons t r =>
      show dropR (fun r' => ih td (t :: r')) n r = _
      rw [dropR_eq]
      unfold step2
      dsimp only
      cases Nat.ble n r.length <;> rfl
  | op f =>
    show stPr (fun st' => ih td st') st f = _
    rw [stPr_eq]
    unfold step2
    dsimp only
    cases prim f st <;> rfl
  | call f =>
    show caR fs ih td st f = _
    unfold caR step2
    dsimp only
    cases fnGet f fs <;> rfl
  | br p2 a p3 b =>
    cases st with
    | nil => rfl
    | cons t r =>
      show nilR (ih (a :: td) r) (ih (b :: td) r) t = _
      rw [nilR_eq]
      unfold step2
      dsimp only
      cases isNil t <;> rfl
theorem goM_eq (fs : List Fn) : ∀ (n : Nat) (td : List (List Co)) (st : List T), goM fs n td st = go2 fs n td st
  | 0, _, _ => rfl
  | n + 1, [], st => rfl
  | n + 1, [] :: td, st => goM_eq fs n td st
  | n + 1, (c :: cs) :: td, st => by
    show stCo fs (goM fs n) (cs :: td) st c = (match step2 fs c (cs :: td) st with | none => none | some (td', st') => go2 fs n td' st')
    rw [stCo_eq]
    cases step2 fs c (cs :: td) st with
    | none => rfl
    | some r => exact goM_eq fs n r.1 r.2
end R
end G
end
set_option maxRecDepth 1000000
set_option maxHeartbeats 40000000
/-! F9c: the law's programs are good. -/
namespace G
open PySem PySem.Spec PyProof.Rows L2
def lawWith (x a : Bool) : List (List Fn) := [lawFirst x, lawSecond x].map fun p => withTexts p (lawKinds a)
def acB (x a : Bool) : Bool := good (lawFirst x) && (good (lawSecond x) && ((lawWith x a).all good && (good (ringWhole (lawWith x a)) && (good (knowing (ringWhole (lawWith x a))) && (good (knowOwn (ringWhole (lawWith x a))) &&
  ((lawRing x a).all fun q => good q && Nat.ble (q.flatMap fnMach).length 1000000))))))
def insB (x a : Bool) : Bool := Nat.beq (inputsOf (lawFirst x)) (lawPs x).length && (Nat.beq (inputsOf (lawSecond x)) (lawPs x).length && ((lawWith x a).all (fun p => Nat.beq (inputsOf p) (lawPs x).length) && Nat.beq (inputsOf (lawPlain x a) + 1) (lawPs x).length))
theorem tr_good : good translator = true := by decide +kernel
theorem acB_ff : acB false false = true := by decide +kernel
theorem insB_ff : insB false false = true := by decide +kernel
theorem acB_ft : acB false true = true := by decide +kernel
theorem insB_ft : insB false true = true := by decide +kernel
theorem acB_tf : acB true false = true := by decide +kernel
theorem insB_tf : insB true false = true := by decide +kernel
theorem acB_tt : acB true true = true := by decide +kernel
theorem insB_tt : insB true true = true := by decide +kernel
theorem acB_all : ∀ x a, acB x a = true
  | false, false => acB_ff
  | false, true => acB_ft
  | true, false => acB_tf
  | true, true => acB_tt
theorem insB_all : ∀ x a, insB x a = true
  | false, false => insB_ff
  | false, true => insB_ft
  | true, false => insB_tf
  | true, true => insB_tt
end G
set_option maxRecDepth 1000000
set_option maxHeartbeats 40000000
/-! F9d: the law's machine programs. -/
namespace G
open PySem PySem.Spec PyProof.Rows L2
def rsOf (ts : List T) : List (T × List T) := ts.map fun t => (t.hd, t.tl.items)
def moB (ts : List T) : Bool := T.beqs ((rsOf ts).map rtT) ts && (nodupT ((rsOf ts).map (·.1)) && (((rsOf ts).all fun r => r.2.all fun t => goodIns ((rsOf ts).map (·.1)) t) && Nat.ble (10 + cTs ((rsOf ts).map (·.1)) + sumC (rsOf ts)) 3000000))
def szB (ts : List T) : Bool := Nat.ble (T.partsL ts) 100000 && (Nat.ble (T.depthL ts) 50 && T.okWs ts)
theorem moB_ff : moB ((lawOther false false).flatMap fnMach) = true := by decide +kernel
theorem szB_ff : szB ((lawOther false false).flatMap fnMach) = true := by decide +kernel
theorem szP_ff : szB ((lawPlain false false).map Fn.t) = true := by decide +kernel
theorem moB_ft : moB ((lawOther false true).flatMap fnMach) = true := by decide +kernel
theorem szB_ft : szB ((lawOther false true).flatMap fnMach) = true := by decide +kernel
theorem szP_ft : szB ((lawPlain false true).map Fn.t) = true := by decide +kernel
theorem moB_tf : moB ((lawOther true false).flatMap fnMach) = true := by decide +kernel
theorem szB_tf : szB ((lawOther true false).flatMap fnMach) = true := by decide +kernel
theorem szP_tf : szB ((lawPlain true false).map Fn.t) = true := by decide +kernel
theorem moB_tt : moB ((lawOther true true).flatMap fnMach) = true := by decide +kernel
theorem szB_tt : szB ((lawOther true true).flatMap fnMach) = true := by decide +kernel
theorem szP_tt : szB ((lawPlain true true).map Fn.t) = true := by decide +kernel
theorem moB_all : ∀ x a, moB ((lawOther x a).flatMap fnMach) = true
  | false, false => moB_ff
  | false, true => moB_ft
  | true, false => moB_tf
  | true, true => moB_tt
theorem szB_all : ∀ x a, szB ((lawOther x a).flatMap fnMach) = true
  | false, false => szB_ff
  | false, true => szB_ft
  | true, false => szB_tf
  | true, true => szB_tt
theorem szP_all : ∀ x a, szB ((lawPlain x a).map Fn.t) = true
  | false, false => szP_ff
  | false, true => szP_ft
  | true, false => szP_tf
  | true, true => szP_tt
end G
set_option maxRecDepth 1000000
set_option maxHeartbeats 40000000
/-! F9e: the eight runs. -/
noncomputable section
namespace G
namespace R
open PySem
def outR (r : A) (ms : List T) : T × Bool := match r with
  | some [.l (y :: r)] => (y, beqsR r ms)
  | _ => (.l [], false)
def out0 (r : A) (ms : List T) : Bool := match r with
  | some [.l r] => beqsR r ms
  | _ => false
def outM (r : A) (ms : List T) : T × Bool := match r with
  | some (.l (y :: r) :: _) => (y, beqsR r ms)
  | _ => (.l [], false)
def outN (r : A) (ms : List T) : Bool := match r with
  | some (.l r :: _) => beqsR r ms
  | _ => false
def runM (fs : List Fn) (n : Nat) (ins : List T) : A := match fs with
  | [] => none
  | f :: _ => goM fs n [codeOf f] ins
theorem p_ff : out0 (goR (lawPlain false false) 400000 (mainEnv (lawPlain false false) []) []) ((lawOther false false).flatMap fnMach) = true := by kernel_rfl
theorem p_tf (t : T) : outR (goR (lawPlain true false) 400000 (mainEnv (lawPlain true false) [t]) []) ((lawOther true false).flatMap fnMach) = (t, true) := by kernel_rfl
theorem m_ff : outN (runM (lawOther false false) 400000 []) ((lawPlain false false).map Fn.t) = true := by kernel_rfl
theorem m_tf (t : T) : outM (runM (lawOther true false) 400000 [t]) ((lawPlain true false).map Fn.t) = (t, true) := by kernel_rfl
theorem p_ft : out0 (goR (lawPlain false true) 400000 (mainEnv (lawPlain false true) []) []) ((lawOther false true).flatMap fnMach) = true := by kernel_rfl
theorem p_tt (t : T) : outR (goR (lawPlain true true) 400000 (mainEnv (lawPlain true true) [t]) []) ((lawOther true true).flatMap fnMach) = (t, true) := by kernel_rfl
theorem m_ft : outN (runM (lawOther false true) 400000 []) ((lawPlain false true).map Fn.t) = true := by kernel_rfl
theorem m_tt (t : T) : outM (runM (lawOther true true) 400000 [t]) ((lawPlain true true).map Fn.t) = (t, true) := by kernel_rfl
end R
end G
end
set_option maxRecDepth 100000
set_option maxHeartbeats 4000000
/-! F9f: what is known of the law's programs. -/
namespace G
open PySem PySem.Spec PyProof.Rows L2
theorem outR_some {r : R.A} {ms : List T} {t : T} (h : R.outR r ms = (t, true)) : r = some [.l (t :: ms)] := by
  match r, h with
  | some [.l (y :: r')], h =>
    have h : (y, R.beqsR r' ms) = (t, true) := h
    obtain ⟨h1, h2⟩ := Prod.mk.inj h
    rw [R.beqsR_eq] at h2
    rw [T.beqs_eq r' ms h2, h1]
  | none, h => exact absurd (Prod.mk.inj (show (T.l [], false) = (t, true) from h)).2 (by decide)
  | some [], h => exact absurd (Prod.mk.inj (show (T.l [], false) = (t, true) from h)).2 (by decide)
  | some (.w _ :: _), h => exact absurd (Prod.mk.inj (show (T.l [], false) = (t, true) from h)).2 (by decide)
  | some (.l [] :: _), h => exact absurd (Prod.mk.inj (show (T.l [], false) = (t, true) from h)).2 (by decide)
  | some (.l (_ :: _) :: _ :: _), h => exact absurd (Prod.mk.inj (show (T.l [], false) = (t, true) from h)).2 (by decide)
theorem out0_some {r : R.A} {ms : List T} (h : R.out0 r ms = true) : r = some [.l ms] := by
  match r, h with
  | some [.l r'], h =>
    have h : R.beqsR r' ms = true := h
    rw [R.beqsR_eq] at h
    rw [T.beqs_eq r' ms h]
  | none, h => exact absurd (show false = true from h) (by decide)
  | some [], h => exact absurd (show false = true from h) (by decide)
  | some (.w _ :: _), h => exact absurd (show false = true from h) (by decide)
  | some (.l _ :: _ :: _), h => exact absurd (show false = true from h) (by decide)
theorem outM_some {r : R.A} {ms : List T} {t : T} (h : R.outM r ms = (t, true)) : ∃ st', r = some (.l (t :: ms) :: st') := by
  match r, h with
  | some (.l (y :: r') :: st'), h =>
    have h : (y, R.beqsR r' ms) = (t, true) := h
    obtain ⟨h1, h2⟩ := Prod.mk.inj h
    rw [R.beqsR_eq] at h2
    exact ⟨st', by rw [T.beqs_eq r' ms h2, h1]⟩
  | none, h => exact absurd (Prod.mk.inj (show (T.l [], false) = (t, true) from h)).2 (by decide)
  | some [], h => exact absurd (Prod.mk.inj (show (T.l [], false) = (t, true) from h)).2 (by decide)
  | some (.w _ :: _), h => exact absurd (Prod.mk.inj (show (T.l [], false) = (t, true) from h)).2 (by decide)
  | some (.l [] :: _), h => exact absurd (Prod.mk.inj (show (T.l [], false) = (t, true) from h)).2 (by decide)
theorem outN_some {r : R.A} {ms : List T} (h : R.outN r ms = true) : ∃ st', r = some (.l ms :: st') := by
  match r, h with
  | some (.l r' :: st'), h =>
    have h : R.beqsR r' ms = true := h
    rw [R.beqsR_eq] at h
    exact ⟨st', by rw [T.beqs_eq r' ms h]⟩
  | none, h => exact absurd (show false = true from h) (by decide)
  | some [], h => exact absurd (show false = true from h) (by decide)
  | some (.w _ :: _), h => exact absurd (show false = true from h) (by decide)
theorem ins_two {x : Bool} {ins : List T} (h : ins.length + 1 = (lawPs x).length) : (x = false ∧ ins = []) ∨ (x = true ∧ ∃ t, ins = [t]) := by
  cases x with
  | false =>
    have : ins.length = 0 := by
      have h : ins.length + 1 = 1 := h
      omega
    exact .inl ⟨rfl, List.eq_nil_of_length_eq_zero this⟩
  | true =>
    have h : ins.length + 1 = 2 := h
    match ins, h with
    | [t], _ => exact .inr ⟨rfl, t, rfl⟩
theorem law_rp (x a : Bool) : ∀ ins : List T, ins.length + 1 = (lawPs x).length → ∃ N : Nat, N ≤ 400000 ∧ go1 (lawPlain x a) N (mainEnv (lawPlain x a) ins) [] = some [.l (ins ++ (lawOther x a).flatMap fnMach)] := by
  intro ins h
  refine ⟨400000, Nat.le_refl _, ?_⟩
  rcases ins_two h with ⟨rfl, rfl⟩ | ⟨rfl, t, rfl⟩
  · rw [← R.goR_eq]
    cases a with
    | false => exact out0_some R.p_ff
    | true => exact out0_some R.p_ft
  · rw [← R.goR_eq]
    cases a with
    | false => exact outR_some (R.p_tf t)
    | true => exact outR_some (R.p_tt t)
theorem law_rm (x a : Bool) {f0 : Fn} {fr : List Fn} (e : lawOther x a = f0 :: fr) : ∀ ins : List T, ins.length + 1 = (lawPs x).length → ∃ N : Nat, ∃ st', N ≤ 400000 ∧ go2 (f0 :: fr) N [codeOf f0] ins.reverse = some (.l (ins ++ (lawPlain x a).map Fn.t) :: st') := by
  intro ins h
  rcases ins_two h with ⟨rfl, rfl⟩ | ⟨rfl, t, rfl⟩
  · have key : ∃ st', R.runM (lawOther false a) 400000 [] = some (.l ((lawPlain false a).map Fn.t) :: st') := by
      cases a with
      | false => exact outN_some R.m_ff
      | true => exact outN_some R.m_ft
    obtain ⟨st', hk⟩ := key
    rw [e] at hk
    have hk : R.goM (f0 :: fr) 400000 [codeOf f0] [] = _ := hk
    rw [R.goM_eq] at hk
    exact ⟨400000, st', Nat.le_refl _, hk⟩
  · have key : ∃ st', R.runM (lawOther true a) 400000 [t] = some (.l (t :: (lawPlain true a).map Fn.t) :: st') := by
      cases a with
      | false => exact outM_some (R.m_tf t)
      | true => exact outM_some (R.m_tt t)
    obtain ⟨st', hk⟩ := key
    rw [e] at hk
    have hk : R.goM (f0 :: fr) 400000 [codeOf f0] [t] = _ := hk
    rw [R.goM_eq] at hk
    exact ⟨400000, st', Nat.le_refl _, hk⟩
theorem law_mo {x a : Bool} : ∃ rs : List (T × List T), (lawOther x a).flatMap fnMach = rs.map rtT ∧ (rs ≠ [] → MachOk rs) := by
  obtain ⟨h1, h2⟩ := ba2 (moB_all x a)
  obtain ⟨h2, h3⟩ := ba2 h2
  obtain ⟨h3, h4⟩ := ba2 h3
  refine ⟨rsOf ((lawOther x a).flatMap fnMach), (T.beqs_eq _ _ h1).symm, fun ne => ⟨ne, h2, fun r hr t ht => ?_, Nat.le_of_ble_eq_true h4⟩⟩
  exact List.all_eq_true.mp (List.all_eq_true.mp h3 r hr) t ht
theorem good_ne {fs : List Fn} (h : good fs = true) : ∃ f r, fs = f :: r := by
  have := (good_parts h).1
  cases fs with
  | nil => exact absurd rfl this
  | cons f r => exact ⟨f, r, rfl⟩
theorem sz_of {ts : List T} (h : szB ts = true) : T.partsL ts ≤ 100000 ∧ T.depthL ts ≤ 50 ∧ T.okWs ts = true := by
  obtain ⟨h1, h2⟩ := ba2 h
  obtain ⟨h2, h3⟩ := ba2 h2
  exact ⟨Nat.le_of_ble_eq_true h1, Nat.le_of_ble_eq_true h2, h3⟩
theorem law_ok (x a : Bool) : LawOk x a := by
  obtain ⟨g1, h⟩ := ba2 (acB_all x a)
  obtain ⟨g2, h⟩ := ba2 h
  obtain ⟨g3, h⟩ := ba2 h
  obtain ⟨g4, h⟩ := ba2 h
  obtain ⟨g5, h⟩ := ba2 h
  obtain ⟨g6, g7⟩ := ba2 h
  obtain ⟨i1, h⟩ := ba2 (insB_all x a)
  obtain ⟨i2, h⟩ := ba2 h
  obtain ⟨i3, i4⟩ := ba2 h
  have i1 := Nat.eq_of_beq_eq_true i1
  have i2 := Nat.eq_of_beq_eq_true i2
  have hpl : 1 ≤ (lawPs x).length ∧ (lawPs x).length ≤ 2 := by cases x <;> decide
  have hm : (lawPs x).length - 1 + 1 = (lawPs x).length := by omega
  have hring : (lawRing x a).length = 2 := by
    unfold lawRing acrossRing ring
    rw [List.length_map, List.length_range]
    rfl
  have hmem : ∀ b, lawPlain x b ∈ lawRing x b ∧ lawOther x b ∈ lawRing x b := by
    intro b
    have hl : (lawRing x b).length = 2 := by
      unfold lawRing acrossRing ring
      rw [List.length_map, List.length_range]
      rfl
    unfold lawPlain lawOther
    match hq : lawRing x b, hl with
    | [r0, r1], _ => cases b <;> simp
  have hgood : ∀ q ∈ lawRing x a, good q = true ∧ (q.flatMap fnMach).length ≤ 1000000 := fun q hq => by
    obtain ⟨h1, h2⟩ := ba2 (List.all_eq_true.mp g7 q hq)
    exact ⟨h1, Nat.le_of_ble_eq_true h2⟩
  obtain ⟨f0, fr, e0⟩ := good_ne (hgood _ (hmem a).2).1
  obtain ⟨rs, ers, mok⟩ := law_mo (x := x) (a := a)
  refine ⟨⟨?_, tr_good, (show 1 ≤ 2 by decide), (show 2 ≤ 6 by decide), by cases a <;> rfl, ?_, by omega, ⟨?_, (show 1 ≤ 2 by decide), (show 2 ≤ 12 by decide), ?_, by omega, g4, g5, g6⟩, hgood⟩, (hgood _ (hmem a).1).1, (hgood _ (hmem a).2).1, Nat.eq_of_beq_eq_true i4, ⟨f0, fr, rs, e0, by rw [← e0]; exact ers, mok ?_, law_rm x a e0⟩, law_rp x a, sz_of (szP_all x a), sz_of (szB_all x a)⟩
  · intro q hq
    rcases List.mem_cons.mp hq with rfl | hq
    · exact g1
    · rw [List.mem_singleton.mp hq]
      exact g2
  · intro q hq
    rcases List.mem_cons.mp hq with rfl | hq
    · rw [hm]
      exact i1
    · rw [List.mem_singleton.mp hq, hm]
      exact i2
  · exact List.all_eq_true.mp g3
  · intro q hq
    rw [hm]
    exact Nat.eq_of_beq_eq_true (List.all_eq_true.mp i3 q hq)
  · rintro rfl
    rw [e0, List.flatMap_cons] at ers
    have : fnMach f0 ++ fr.flatMap fnMach = [] := ers
    unfold fnMach at this
    cases this
end G
set_option maxRecDepth 100000
set_option maxHeartbeats 0
/-! Gw: the end. -/
namespace G
open PySem PySem.Spec PyProof.Rows L2
theorem the_end {P : Program} {w : World} {K : PySem.W.Frag} {h : Heap} {mg : Str → Option Value} {f : Addr} (X : K.In h) (G : h.Ns mainGlobals mg) (hfa : mg ("law" : Str) = some (.ref f)) (c : SaysQ fa fn w K) :
    ∃ fd : FuncData, (∀ (s : Shared) (v : Value), BindsTo s fd ⟨[v], []⟩ [("_law_script", v)]) ∧ ∀ base : Heap, K.In base → base.Ns mainGlobals mg → FnOk P w K mg base CX0 10 f fd ["_law_script"] (sp_law K) := by
  have T : Txt w K mg := txt X G c
  obtain ⟨f', fd, F, hm⟩ := T.d_law
  have e := hfa.symm.trans hm
  cases e
  have b := FunD.bindsA (ps := ["_law_script"]) F fun _ _ _ _ _ _ us hl => match us, hl with | [_], _ => rfl
  exact ⟨fd, fun s v => b s [v] rfl, fun base _ _ => f_law T law_ok F⟩
end G
open PySem PySem.W PySem.Calls PyProof.Rows
theorem PySem.Challenge.cw_ownglass_k57_whole_rings_across_holds : PySem.Challenge.rw_ownglass_k57_whole_rings_across.Holds := by
  w_on; o_law
  refine HandSHeadRun.head_any (r := OpenLaw.row PySem.Challenge.rw_ownglass_k57_whole_rings_across) (q := G.qv) (H := G.hkQ) (ob := G.obQ) (M := 20000) (loose := G.names) (d := HandSHeadRun.topDef (OpenLaw.row PySem.Challenge.rw_ownglass_k57_whole_rings_across).prog 68) (kwd := []) G.obQ_eq
    (by kernel_rfl) (fun s => by kernel_rfl) G.run (by kernel_rfl) (by kernel_rfl) (by kernel_rfl) (by rfl) (by first | assumption | decide +kernel) (by decide +kernel) ⟨rfl, rfl, rfl, rfl, rfl, by decide +kernel⟩ ?hw ?hc
  case hw => w_witness2
  case hc =>
    refine L2.walk_ofE (l := PySem.Challenge.rw_ownglass_k57_whole_rings_across) (n := 63) (k := 10) (x := "_law_script") (CX := L2.CX0) rfl (by decide) (by kernel_rfl) ⟨rfl, by decide, by decide⟩ ?F (fun _ _ _ _ z => z)
    intro w mg fa h Y Gn hmg0
    obtain ⟨K, KX, c⟩ := Y
    have hmg : mg ("law" : PySem.Str) = some (.ref fa) := by
      have e : (HandSHeadRun.topDef (OpenLaw.row PySem.Challenge.rw_ownglass_k57_whole_rings_across).prog 68).name = ("law" : PySem.Str) := by kernel_rfl
      rw [← e]
      exact hmg0
    obtain ⟨fd, hb, hF⟩ := G.the_end (P := (PySem.Challenge.rw_ownglass_k57_whole_rings_across).prog) (w := w) KX Gn hmg c
    exact ⟨K, fd, G.sp_law K, KX, hb, fun H a ns hl _ hS => ⟨a, ns, rfl, hS, Nat.le_trans hl (by decide), fun _ => rfl⟩, hF⟩
