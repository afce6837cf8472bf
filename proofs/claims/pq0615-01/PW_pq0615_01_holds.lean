import PyProof.Rows.All
import Wide.All
import OpenK.AllK
import Wide.FinOn
import Lean
import PySem.Challenge.RW_pq0615_01
open PySem
section
namespace Mine
set_option genSizeOf false
set_option genInjectivity false

inductive Cond where
  | named (k : Nat)
  | not (c : Cond)
  | and (a b : Cond)
  | or (a b : Cond)
  | eq (w : Nat) (n : Int)
  | le (w : Nat) (n : Int)
  | ge (w : Nat) (n : Int)
  | always

structure Tr where
  b : Nat → Bool
  w : Nat → Int

def Cond.eval (T : Tr) : Cond → Bool
  | .named k => T.b k
  | .not c => !c.eval T
  | .and a b => a.eval T && b.eval T
  | .or a b => a.eval T || b.eval T
  | .eq w n => decide (T.w w = n)
  | .le w n => decide (T.w w ≤ n)
  | .ge w n => decide (n ≤ T.w w)
  | .always => true

def Cond.depth : Cond → Nat
  | .not c => c.depth + 1
  | .and a b => max a.depth b.depth + 1
  | .or a b => max a.depth b.depth + 1
  | _ => 1

inductive Subj where
  | worth (w : Nat)
  | truth (c : Cond)
  | yes
  | no

inductive Thing where
  | any
  | is (n : Int) (neg : Bool)
  | thru (lo hi : Int) (neg : Bool)
  | yes
  | no
  | truth (c : Cond)

def Subj.isWorth : Subj → Bool
  | .worth _ => true
  | _ => false
def Fits (s : Subj) : Thing → Bool
  | .any => true
  | .is .. => s.isWorth
  | .thru .. => s.isWorth
  | _ => !s.isWorth

def negIf (c : Cond) (b : Bool) : Cond := if b then .not c else c
def alike (a b : Cond) : Cond := .or (.and a b) (.and (.not a) (.not b))
def truthOf : Thing → Cond
  | .truth c => c
  | .no => .not .always
  | _ => .always
def condWith (c : Cond) : Thing → Option Cond
  | .yes => some c
  | .no => some (.not c)
  | .truth d => some (alike c d)
  | _ => none
def objCond (s : Subj) : Thing → Option Cond
  | .any => none
  | .is n neg => (match s with | .worth w => some (negIf (.eq w n) neg) | _ => none)
  | .thru lo hi neg => (match s with | .worth w => some (negIf (.and (.ge w lo) (.le w hi)) neg) | _ => none)
  | t => (match s with | .yes => some (truthOf t) | .no => some (.not (truthOf t)) | .truth c => condWith c t | .worth _ => none)

def Subj.val (T : Tr) : Subj → Bool
  | .yes => true
  | .truth c => c.eval T
  | _ => false
def Thing.val (T : Tr) : Thing → Bool
  | .yes => true
  | .truth c => c.eval T
  | _ => false
def isMet (T : Tr) (s : Subj) : Thing → Bool
  | .any => true
  | .is n neg => (match s with | .worth w => decide (T.w w = n) != neg | _ => false)
  | .thru lo hi neg => (match s with | .worth w => (decide (lo ≤ T.w w) && decide (T.w w ≤ hi)) != neg | _ => false)
  | t => s.val T == t.val T

def Subj.depth : Subj → Nat
  | .truth c => c.depth
  | _ => 0
def Thing.depth : Thing → Nat
  | .truth c => c.depth
  | _ => 0

theorem objCond_none {T : Tr} {s : Subj} {t : Thing} (f : Fits s t = true) (h : objCond s t = none) : isMet T s t = true := by
  cases s <;> cases t <;> simp_all [objCond, Fits, isMet, condWith, Subj.isWorth]

theorem negIf_eval {T : Tr} {c : Cond} {b : Bool} : (negIf c b).eval T = (c.eval T != b) := by
  cases b <;> simp [negIf, Cond.eval]

theorem objCond_some {T : Tr} {s : Subj} {t : Thing} {c : Cond} (f : Fits s t = true) (h : objCond s t = some c) : c.eval T = isMet T s t := by
  cases s <;> cases t <;> simp_all [objCond, Fits, condWith, Subj.isWorth] <;> subst h <;> simp [isMet, negIf_eval, Cond.eval, Subj.val, Thing.val, truthOf, alike]
  all_goals (rename_i c d; cases c.eval T <;> cases d.eval T <;> rfl)

theorem objCond_depth {s : Subj} {t : Thing} {c : Cond} {n : Nat} (hs : s.depth ≤ n) (ht : t.depth ≤ n) (h : objCond s t = some c) : c.depth ≤ n + 4 := by
  cases s <;> cases t <;> simp_all [objCond, condWith] <;> subst h <;> simp [negIf, truthOf, alike, Cond.depth, Subj.depth, Thing.depth] at * <;> (try split) <;> (try simp only [Cond.depth]) <;> omega

def foldRow : Option Cond → List (Subj × Thing) → Option Cond
  | found, [] => found
  | found, (s, t) :: r => foldRow (match objCond s t with
      | none => found
      | some c => some (match found with | none => c | some f => .and f c)) r
def rowCond (ps : List (Subj × Thing)) : Cond := (foldRow none ps).getD .always

def optEval (T : Tr) (o : Option Cond) : Bool := (o.getD .always).eval T

theorem foldRow_eval {T : Tr} : ∀ (ps : List (Subj × Thing)) (found : Option Cond), (∀ p ∈ ps, Fits p.1 p.2 = true) → optEval T (foldRow found ps) = (optEval T found && ps.all fun p => isMet T p.1 p.2)
  | [], found, _ => by simp [foldRow]
  | (s, t) :: r, found, h => by
    have hf := h (s, t) (.head _)
    have hr := fun f => foldRow_eval (T := T) r f fun p hp => h p (.tail _ hp)
    simp only [foldRow, List.all_cons]
    cases hc : objCond s t with
    | none => simp only [hr, objCond_none (T := T) hf hc, Bool.true_and]
    | some c =>
      simp only [hr]
      cases found with
      | none => simp [optEval, Cond.eval, objCond_some (T := T) hf hc]
      | some f => simp [optEval, Cond.eval, objCond_some (T := T) hf hc, Bool.and_assoc]

theorem rowCond_eval {T : Tr} {ps : List (Subj × Thing)} (h : ∀ p ∈ ps, Fits p.1 p.2 = true) : (rowCond ps).eval T = ps.all fun p => isMet T p.1 p.2 := by
  have := foldRow_eval (T := T) ps none h
  simpa [rowCond, optEval, Cond.eval] using this

def optDepth (o : Option Cond) : Nat := (o.getD .always).depth
theorem foldRow_depth {n : Nat} : ∀ (ps : List (Subj × Thing)) (found : Option Cond) (k : Nat), (∀ p ∈ ps, p.1.depth ≤ n ∧ p.2.depth ≤ n) → optDepth found ≤ n + 4 + k → optDepth (foldRow found ps) ≤ n + 4 + k + ps.length
  | [], found, k, _, hk => by simpa [foldRow] using hk
  | (s, t) :: r, found, k, h, hk => by
    have hf := h (s, t) (.head _)
    have hr := fun f k => foldRow_depth (n := n) r f k fun p hp => h p (.tail _ hp)
    simp only [foldRow, List.length_cons]
    cases hc : objCond s t with
    | none => have := hr found k hk; simp only; omega
    | some c =>
      have hd := objCond_depth hf.1 hf.2 hc
      cases found with
      | none => have := hr (some c) k (by simp [optDepth]; omega); simp only; omega
      | some f =>
        have := hr (some (.and f c)) (k + 1) (by simp [optDepth, Cond.depth] at *; omega)
        simp only; omega
theorem rowCond_depth {n : Nat} {ps : List (Subj × Thing)} (h : ∀ p ∈ ps, p.1.depth ≤ n ∧ p.2.depth ≤ n) : (rowCond ps).depth ≤ n + 4 + ps.length := by
  have := foldRow_depth (n := n) ps none 0 h (by simp [optDepth, Cond.depth])
  simpa [rowCond, optDepth] using this

/-- the rows, one or two -/
def rowsCond (ss : List Subj) : List (List Thing) → Cond
  | [] => .always
  | [r] => rowCond (ss.zip r)
  | r :: q => q.foldl (fun f r => .or f (rowCond (ss.zip r))) (rowCond (ss.zip r))
theorem foldl_or_eval {T : Tr} {ss : List Subj} : ∀ (q : List (List Thing)) (f : Cond), (q.foldl (fun f r => .or f (rowCond (ss.zip r))) f).eval T = (f.eval T || q.any fun r => (rowCond (ss.zip r)).eval T)
  | [], f => by simp
  | r :: q, f => by simp [foldl_or_eval q, Cond.eval, Bool.or_assoc]
def rowMet (T : Tr) (ss : List Subj) (r : List Thing) : Bool := (ss.zip r).all fun p => isMet T p.1 p.2
def FitsRow (ss : List Subj) (r : List Thing) : Prop := ∀ p ∈ ss.zip r, Fits p.1 p.2 = true
theorem rowsCond_eval {T : Tr} {ss : List Subj} {rows : List (List Thing)} (hn : rows ≠ []) (h : ∀ r ∈ rows, FitsRow ss r) : (rowsCond ss rows).eval T = rows.any (rowMet T ss) := by
  have one : ∀ r ∈ rows, (rowCond (ss.zip r)).eval T = rowMet T ss r := fun r hr => rowCond_eval (h r hr)
  match rows, hn with
  | [r], _ => simp only [rowsCond, List.any_cons, List.any_nil, Bool.or_false]; exact one r (.head _)
  | r :: q :: t, _ =>
    simp only [rowsCond]
    rw [foldl_or_eval, one r (.head _), List.any_cons]
    congr 1
    have : ∀ l : List (List Thing), (∀ r ∈ l, (rowCond (ss.zip r)).eval T = rowMet T ss r) → (l.any fun r => (rowCond (ss.zip r)).eval T) = l.any (rowMet T ss) := by
      intro l
      induction l with
      | nil => intro _; rfl
      | cons a l ih => intro hl; simp only [List.any_cons, hl a (.head _), ih fun r hr => hl r (.tail _ hr)]
    exact this _ fun x hx => one x (.tail _ hx)

/-- a tuple of statements: flat (marks, told by their values) or one if -/
inductive Stms where
  | flat (vs : List Value)
  | iff (c : Cond) (vs : List Value) (rest : Stms)
def Stms.marks (T : Tr) : Stms → List Value
  | .flat vs => vs
  | .iff c vs rest => if c.eval T then vs else rest.marks T
def Stms.size : Stms → Nat
  | .flat _ => 1
  | .iff _ _ rest => rest.size + 1
def Stms.depthLe (n : Nat) : Stms → Prop
  | .flat _ => True
  | .iff c _ rest => c.depth ≤ n ∧ rest.depthLe n

structure When where
  rows : List (List Thing)
  vs : List Value

def nest (ss : List Subj) (others : Stms) : List When → Stms
  | [] => others
  | w :: r => .iff (rowsCond ss w.rows) w.vs (nest ss others r)

def dueOf (T : Tr) (ss : List Subj) (others : List Value) : List When → List Value
  | [] => others
  | w :: r => if w.rows.any (rowMet T ss) then w.vs else dueOf T ss others r

theorem nest_marks {T : Tr} {ss : List Subj} {others : List Value} : ∀ ws : List When, (∀ w ∈ ws, w.rows ≠ [] ∧ ∀ r ∈ w.rows, FitsRow ss r) → (nest ss (.flat others) ws).marks T = dueOf T ss others ws
  | [], _ => rfl
  | w :: r, h => by
    have hw := h w (.head _)
    simp only [nest, Stms.marks, dueOf, rowsCond_eval hw.1 hw.2, nest_marks r fun x hx => h x (.tail _ hx)]
end Mine
end
open PySem.W PyProof.Rows PySem.Spec PySem.Calls
set_option Elab.async false
set_option rowWalk.seconds 0
set_option compiler.extract_closed false
set_option maxRecDepth 100000
set_option maxHeartbeats 8000000
namespace Mine

/- part Hd -/
section
open_top hd for PySem.Challenge.rw_pq0615_01
end

/- part Rel -/
section
abbrev Led := List (Addr × Obj)

/-- a call of the def at f, from any frame: what it wants of its arguments over the ledger, what it gives back -/
def Does (prog : Program) (w : World) (K : Frag) (p : Program) (loose : List Str) (mean : ExcName → Option Value) (mg mb : Str → Option Value) (f : Addr) (need : Nat)
   (pre : Led → List Value → Prop) (post : Led → List Value → Value → Led → Prop) : Prop :=
  ∀ (dp un : Nat) (gd : Option (List Code)) (cn : Str) (cs : Scope) (a : Addr) (ccd : Value) (cl : List (Str × Addr)) (outer : List Env) (A₀ : Around) (base h₀ : Heap) (L : Addr) (m : Str → Option Value) (news : Led) (s : Shared) (vs : List Value)
    (Q E : Value → Shared → Prop),
    Below A₀ base outer h₀ → Fr h₀ L s.heap m → K.In h₀ → News h₀ L s.heap news → Top p loose mean mg mb h₀ → cs.kind = .function → pre news vs → dp + need < recursionLimit → un + 8 * need + 400 < cLine →
    (∀ r news' h' tk', Fr h₀ L h' m → News h₀ L h' news' → post news vs r news' → Q r { s with heap := h', toks := tk' }) →
    wpAny (model prog w) (ktrTop dp un gd cn cs L a ccd cl outer) (call (.ref f) vs) Q E s

theorem does_use {prog : Program} {w : World} {K : Frag} {p : Program} {loose : List Str} {mean : ExcName → Option Value} {mg mb : Str → Option Value} {f : Addr} {need : Nat}
   {pre : Led → List Value → Prop} {post : Led → List Value → Value → Led → Prop}
   {dp un : Nat} {gd : Option (List Code)} {cn : Str} {cs : Scope} {a : Addr} {ccd : Value} {cl : List (Str × Addr)} {outer : List Env} {A₀ : Around} {base h₀ : Heap} {L : Addr} {m : Str → Option Value} {news : Led} {s : Shared} {vs : List Value}
    {Q E : Value → Shared → Prop} (H : Does prog w K p loose mean mg mb f need pre post)
    (B : Below A₀ base outer h₀) (F : Fr h₀ L s.heap m) (X : K.In h₀) (N : News h₀ L s.heap news) (T : Top p loose mean mg mb h₀) (hk : cs.kind = .function) (hpre : pre news vs) (hd : dp + need < recursionLimit) (hu : un + 8 * need + 400 < cLine)
    (ret : ∀ r news' h' tk', Fr h₀ L h' m → News h₀ L h' news' → post news vs r news' → Q r { s with heap := h', toks := tk' }) :
    wpAny (model prog w) (ktrTop dp un gd cn cs L a ccd cl outer) (call (.ref f) vs) Q E s := H _ _ _ _ _ _ _ _ _ _ _ _ _ _ _ _ _ _ _ B F X N T hk hpre hd hu ret

def cname (k : Nat) : Str := match k with | 0 => Str.ofString "C0" | 1 => Str.ofString "C1" | 2 => Str.ofString "C2" | _ => Str.ofString "C3"
def wname (k : Nat) : Str := match k with | 0 => Str.ofString "W0" | 1 => Str.ofString "W1" | _ => Str.ofString "W2"

/-- ('ref', 'W0', (), (), None) -/
inductive RefIn (news : Led) : Value → Nat → Prop
  | mk {r e1 e2 : Addr} {t2 t3 : Tok} {w : Nat} : w < 3 → (r, ({ cls := .type "tuple", data := .seq #[.str (Str.ofString "ref") t2, .str (wname w) t3, .ref e1, .ref e2, .none] } : Obj)) ∈ news →
     (e1, ({ cls := .type "tuple", data := .seq #[] } : Obj)) ∈ news → (e2, ({ cls := .type "tuple", data := .seq #[] } : Obj)) ∈ news → RefIn news (.ref r) w
/-- ('number', (n, 0)) -/
inductive NumIn (news : Led) : Value → Int → Prop
  | mk {q z : Addr} {t1 t2 t3 : Tok} {n : Int} : (q, ({ cls := .type "tuple", data := .seq #[.str (Str.ofString "number") t1, .ref z] } : Obj)) ∈ news →
     (z, ({ cls := .type "tuple", data := .seq #[.int n t2, .int 0 t3] } : Obj)) ∈ news → NumIn news (.ref q) n

inductive CondIn (news : Led) : Value → Cond → Prop
  | named {a r e1 e2 : Addr} {t1 t2 t3 : Tok} {k : Nat} : k < 4 → (a, ({ cls := .type "tuple", data := .seq #[.str (Str.ofString "named") t1, .ref r] } : Obj)) ∈ news →
     (r, ({ cls := .type "tuple", data := .seq #[.str (Str.ofString "ref") t2, .str (cname k) t3, .ref e1, .ref e2, .none] } : Obj)) ∈ news → CondIn news (.ref a) (.named k)
  | not {a : Addr} {t : Tok} {v : Value} {c : Cond} : (a, ({ cls := .type "tuple", data := .seq #[.str (Str.ofString "not") t, v] } : Obj)) ∈ news → CondIn news v c → CondIn news (.ref a) (.not c)
  | and {a : Addr} {t : Tok} {v u : Value} {c d : Cond} : (a, ({ cls := .type "tuple", data := .seq #[.str (Str.ofString "and") t, v, u] } : Obj)) ∈ news → CondIn news v c → CondIn news u d → CondIn news (.ref a) (.and c d)
  | or {a : Addr} {t : Tok} {v u : Value} {c d : Cond} : (a, ({ cls := .type "tuple", data := .seq #[.str (Str.ofString "or") t, v, u] } : Obj)) ∈ news → CondIn news v c → CondIn news u d → CondIn news (.ref a) (.or c d)
  | eq {a : Addr} {t t' : Tok} {v u : Value} {w : Nat} {n : Int} : (a, ({ cls := .type "tuple", data := .seq #[.str (Str.ofString "rel") t, .str (Str.ofString "=") t', v, u] } : Obj)) ∈ news → RefIn news v w → NumIn news u n → CondIn news (.ref a) (.eq w n)
  | le {a : Addr} {t t' : Tok} {v u : Value} {w : Nat} {n : Int} : (a, ({ cls := .type "tuple", data := .seq #[.str (Str.ofString "rel") t, .str (Str.ofString "<=") t', v, u] } : Obj)) ∈ news → RefIn news v w → NumIn news u n → CondIn news (.ref a) (.le w n)
  | ge {a : Addr} {t t' : Tok} {v u : Value} {w : Nat} {n : Int} : (a, ({ cls := .type "tuple", data := .seq #[.str (Str.ofString "rel") t, .str (Str.ofString ">=") t', v, u] } : Obj)) ∈ news → RefIn news v w → NumIn news u n → CondIn news (.ref a) (.ge w n)
  | always {a q z : Addr} {t t' t1 t2 t3 : Tok} : (a, ({ cls := .type "tuple", data := .seq #[.str (Str.ofString "rel") t, .str (Str.ofString "=") t', .ref q, .ref q] } : Obj)) ∈ news →
     (q, ({ cls := .type "tuple", data := .seq #[.str (Str.ofString "number") t1, .ref z] } : Obj)) ∈ news → (z, ({ cls := .type "tuple", data := .seq #[.int 0 t2, .int 0 t3] } : Obj)) ∈ news → CondIn news (.ref a) .always


/-- a tuple whose first item is no object: all that our data are made of -/
def Good (o : Obj) : Prop := o.cls = .type "tuple" ∧ ∃ (vs : List Value) (n : Nat), o.data = .seq vs.toArray n ∧ ∀ a, vs.head? ≠ some (.ref a)
/-- all data of the one ledger stand in the other -/
def Sub (l l' : Led) : Prop := ∀ p ∈ l, Good p.2 → p ∈ l'
theorem Sub.of {l l' : Led} (h : ∀ p ∈ l, p ∈ l') : Sub l l' := fun p hp _ => h p hp

theorem RefIn.mono {news news' : Led} {v : Value} {w : Nat} (h : RefIn news v w) (s : Sub news news') : RefIn news' v w := by
  cases h with | mk h1 h2 h3 h4 => exact .mk h1 (s _ h2 ⟨rfl, _, _, rfl, fun _ h => nomatch h⟩) (s _ h3 ⟨rfl, _, _, rfl, fun _ h => nomatch h⟩) (s _ h4 ⟨rfl, _, _, rfl, fun _ h => nomatch h⟩)
theorem NumIn.mono {news news' : Led} {v : Value} {n : Int} (h : NumIn news v n) (s : Sub news news') : NumIn news' v n := by
  cases h with | mk h1 h2 => exact .mk (s _ h1 ⟨rfl, _, _, rfl, fun _ h => nomatch h⟩) (s _ h2 ⟨rfl, _, _, rfl, fun _ h => nomatch h⟩)
theorem CondIn.mono {news news' : Led} {v : Value} {c : Cond} (h : CondIn news v c) (s : Sub news news') : CondIn news' v c := by
  induction h with
  | named h1 h2 h3 => exact .named h1 (s _ h2 ⟨rfl, _, _, rfl, fun _ h => nomatch h⟩) (s _ h3 ⟨rfl, _, _, rfl, fun _ h => nomatch h⟩)
  | not h1 _ ih => exact .not (s _ h1 ⟨rfl, _, _, rfl, fun _ h => nomatch h⟩) ih
  | and h1 _ _ i1 i2 => exact .and (s _ h1 ⟨rfl, _, _, rfl, fun _ h => nomatch h⟩) i1 i2
  | or h1 _ _ i1 i2 => exact .or (s _ h1 ⟨rfl, _, _, rfl, fun _ h => nomatch h⟩) i1 i2
  | eq h1 h2 h3 => exact .eq (s _ h1 ⟨rfl, _, _, rfl, fun _ h => nomatch h⟩) (h2.mono s) (h3.mono s)
  | le h1 h2 h3 => exact .le (s _ h1 ⟨rfl, _, _, rfl, fun _ h => nomatch h⟩) (h2.mono s) (h3.mono s)
  | ge h1 h2 h3 => exact .ge (s _ h1 ⟨rfl, _, _, rfl, fun _ h => nomatch h⟩) (h2.mono s) (h3.mono s)
  | always h1 h2 h3 => exact .always (s _ h1 ⟨rfl, _, _, rfl, fun _ h => nomatch h⟩) (s _ h2 ⟨rfl, _, _, rfl, fun _ h => nomatch h⟩) (s _ h3 ⟨rfl, _, _, rfl, fun _ h => nomatch h⟩)
theorem CondIn.ref {news : Led} {v : Value} {c : Cond} (h : CondIn news v c) : ∃ a, v = .ref a := by cases h <;> exact ⟨_, rfl⟩

inductive SubjIn (news : Led) : Value → Subj → Prop
  | worth {a : Addr} {t : Tok} {v : Value} {w : Nat} : (a, ({ cls := .type "tuple", data := .seq #[.str (Str.ofString "worth") t, v] } : Obj)) ∈ news → RefIn news v w → SubjIn news (.ref a) (.worth w)
  | truth {a : Addr} {t : Tok} {v : Value} {c : Cond} : (a, ({ cls := .type "tuple", data := .seq #[.str (Str.ofString "truth") t, v] } : Obj)) ∈ news → CondIn news v c → SubjIn news (.ref a) (.truth c)
  | yes {a : Addr} {t : Tok} : (a, ({ cls := .type "tuple", data := .seq #[.str (Str.ofString "yes") t] } : Obj)) ∈ news → SubjIn news (.ref a) .yes
  | no {a : Addr} {t : Tok} : (a, ({ cls := .type "tuple", data := .seq #[.str (Str.ofString "no") t] } : Obj)) ∈ news → SubjIn news (.ref a) .no
inductive ThingIn (news : Led) : Value → Thing → Prop
  | any {a : Addr} {t : Tok} : (a, ({ cls := .type "tuple", data := .seq #[.str (Str.ofString "any") t] } : Obj)) ∈ news → ThingIn news (.ref a) .any
  | is {a : Addr} {t : Tok} {v : Value} {n : Int} {neg : Bool} : (a, ({ cls := .type "tuple", data := .seq #[.str (Str.ofString "is") t, v, .bool neg] } : Obj)) ∈ news → NumIn news v n → ThingIn news (.ref a) (.is n neg)
  | thru {a : Addr} {t : Tok} {v u : Value} {lo hi : Int} {neg : Bool} : (a, ({ cls := .type "tuple", data := .seq #[.str (Str.ofString "thru") t, v, u, .bool neg] } : Obj)) ∈ news → NumIn news v lo → NumIn news u hi → ThingIn news (.ref a) (.thru lo hi neg)
  | yes {a : Addr} {t : Tok} : (a, ({ cls := .type "tuple", data := .seq #[.str (Str.ofString "yes") t] } : Obj)) ∈ news → ThingIn news (.ref a) .yes
  | no {a : Addr} {t : Tok} : (a, ({ cls := .type "tuple", data := .seq #[.str (Str.ofString "no") t] } : Obj)) ∈ news → ThingIn news (.ref a) .no
  | truth {a : Addr} {t : Tok} {v : Value} {c : Cond} : (a, ({ cls := .type "tuple", data := .seq #[.str (Str.ofString "truth") t, v] } : Obj)) ∈ news → CondIn news v c → ThingIn news (.ref a) (.truth c)
theorem SubjIn.mono {news news' : Led} {v : Value} {x : Subj} (h : SubjIn news v x) (s : Sub news news') : SubjIn news' v x := by
  cases h with
  | worth h1 h2 => exact .worth (s _ h1 ⟨rfl, _, _, rfl, fun _ h => nomatch h⟩) (h2.mono s)
  | truth h1 h2 => exact .truth (s _ h1 ⟨rfl, _, _, rfl, fun _ h => nomatch h⟩) (h2.mono s)
  | yes h1 => exact .yes (s _ h1 ⟨rfl, _, _, rfl, fun _ h => nomatch h⟩)
  | no h1 => exact .no (s _ h1 ⟨rfl, _, _, rfl, fun _ h => nomatch h⟩)
theorem ThingIn.mono {news news' : Led} {v : Value} {x : Thing} (h : ThingIn news v x) (s : Sub news news') : ThingIn news' v x := by
  cases h with
  | any h1 => exact .any (s _ h1 ⟨rfl, _, _, rfl, fun _ h => nomatch h⟩)
  | is h1 h2 => exact .is (s _ h1 ⟨rfl, _, _, rfl, fun _ h => nomatch h⟩) (h2.mono s)
  | thru h1 h2 h3 => exact .thru (s _ h1 ⟨rfl, _, _, rfl, fun _ h => nomatch h⟩) (h2.mono s) (h3.mono s)
  | yes h1 => exact .yes (s _ h1 ⟨rfl, _, _, rfl, fun _ h => nomatch h⟩)
  | no h1 => exact .no (s _ h1 ⟨rfl, _, _, rfl, fun _ h => nomatch h⟩)
  | truth h1 h2 => exact .truth (s _ h1 ⟨rfl, _, _, rfl, fun _ h => nomatch h⟩) (h2.mono s)

def AllTup (l : Led) : Prop := ∀ p ∈ l, p.2.cls = .type "tuple"
theorem AllTup.nil : AllTup [] := fun _ h => nomatch h
theorem AllTup.cons {a : Addr} {o : Obj} {l : Led} (h : o.cls = .type "tuple") (k : AllTup l) : AllTup ((a, o) :: l) := fun p hp => by
  rcases List.mem_cons.mp hp with rfl | hp
  · exact h
  · exact k p hp
theorem AllTup.app {l l' : Led} (h : AllTup l) (k : AllTup l') : AllTup (l ++ l') := fun p hp => (List.mem_append.mp hp).elim (h p) (k p)

/-- the new objects lie elsewhere than the old -/
def Fresh (tl news : Led) : Prop := ∀ p ∈ tl, ∀ q ∈ news, p.1 ≠ q.1
theorem Fresh.cons {a : Addr} {o : Obj} {tl news : Led} (h : Fresh tl news) (k : ∀ q ∈ news, a ≠ q.1) : Fresh ((a, o) :: tl) news := fun p hp => by
  rcases List.mem_cons.mp hp with rfl | hp
  · exact k
  · exact h p hp

/-- what was made besides: tuples alone -/
def Grown (news news' : Led) : Prop := ∃ tl, news' = tl ++ news ∧ AllTup tl ∧ Fresh tl news
theorem Grown.refl {news : Led} : Grown news news := ⟨[], rfl, .nil, fun _ h => nomatch h⟩
theorem allLt_mem {d : Addr} : ∀ {l : Led}, AllLt d l → ∀ p ∈ l, p.1 < d
  | [], _, _, h => nomatch h
  | q :: r, h, p, hp => by
    rcases List.mem_cons.mp hp with rfl | hp
    · exact h.1
    · exact allLt_mem h.2 p hp
theorem Grown.cons {a : Addr} {o : Obj} {news news' : Led} (h : Grown news news') (hc : o.cls = .type "tuple") (hl : AllLt a news') : Grown news ((a, o) :: news') := by
  obtain ⟨tl, rfl, k, f⟩ := h
  exact ⟨(a, o) :: tl, rfl, .cons hc k, f.cons fun q hq => Nat.ne_of_gt (allLt_mem hl q (List.mem_append_right _ hq))⟩
theorem Grown.app {news news' tl : Led} (h : Grown news news') (hc : AllTup tl) (hf : Fresh tl news') : Grown news (tl ++ news') := by
  obtain ⟨tl', rfl, k, f⟩ := h
  exact ⟨tl ++ tl', (List.append_assoc ..).symm, hc.app k, fun p hp q hq => (List.mem_append.mp hp).elim (fun h => hf p h q (List.mem_append_right _ hq)) fun h => f p h q hq⟩
theorem Grown.trans {a b c : Led} (h : Grown a b) (k : Grown b c) : Grown a c := by
  obtain ⟨tl, rfl, ha, hf⟩ := k
  exact h.app ha hf
theorem Grown.sub {news news' : Led} (h : Grown news news') : ∀ p ∈ news, p ∈ news' := by
  obtain ⟨tl, rfl, _, _⟩ := h
  exact fun p hp => List.mem_append_right _ hp

theorem ne_new {D a : Addr} {o : Obj} {l : Led} (h : ∀ p ∈ l, p.1 < D) (m : List.Mem (a, o) l) : D ≠ a := (Nat.ne_of_lt (h _ m)).symm
theorem allLt_congr {d : Addr} {l l' : Led} (h : ∀ p ∈ l, p.1 < d) (e : l.map (·.1) = l'.map (·.1)) : AllLt d l' := allLt_of fun p hp => by
  have : p.1 ∈ l.map (·.1) := e ▸ List.mem_map.mpr ⟨p, hp, rfl⟩
  obtain ⟨q, hq, e'⟩ := List.mem_map.mp this
  exact e' ▸ h q hq
def bSel (b0 b1 b2 b3 : Bool) (k : Nat) : Bool := match k with | 0 => b0 | 1 => b1 | 2 => b2 | _ => b3
def wSel (w0 w1 w2 : Int) (w : Nat) : Int := match w with | 0 => w0 | 1 => w1 | _ => w2
def tSel (w0 w1 w2 : Tok) (w : Nat) : Tok := match w with | 0 => w0 | 1 => w1 | _ => w2
/-- the list of truths: four bools, three ints -/
inductive TrIn (news : Led) : Value → Tr → Prop
  | mk {a : Addr} {n : Nat} {b0 b1 b2 b3 : Bool} {w0 w1 w2 : Int} {t0 t1 t2 : Tok} :
    (a, ({ cls := .type "list", data := .seq #[.bool b0, .bool b1, .bool b2, .bool b3, .int w0 t0, .int w1 t1, .int w2 t2] n } : Obj)) ∈ news →
    TrIn news (.ref a) ⟨bSel b0 b1 b2 b3, wSel w0 w1 w2⟩
theorem TrIn.mono {news news' : Led} {v : Value} {T : Tr} (h : TrIn news v T) (s : ∀ p ∈ news, p ∈ news') : TrIn news' v T := by
  cases h with | mk h1 => exact .mk (s _ h1)

theorem Sub.refl {news : Led} : Sub news news := fun _ h _ => h
theorem Sub.cons {x : Addr × Obj} {news news' : Led} (h : Sub news news') : Sub news (x :: news') := fun _ q g => .tail _ (h _ q g)
theorem Sub.app {tl news news' : Led} (h : Sub news news') : Sub news (tl ++ news') := fun _ q g => List.mem_append_right _ (h _ q g)
theorem sub_refl {news : Led} : ∀ p ∈ news, p ∈ news := fun _ h => h
theorem sub_cons {x : Addr × Obj} {news news' : Led} (h : ∀ p ∈ news, p ∈ news') : ∀ p ∈ news, p ∈ x :: news' := fun _ q => .tail _ (h _ q)
theorem sub_app {tl news news' : Led} (h : ∀ p ∈ news, p ∈ news') : ∀ p ∈ news, p ∈ tl ++ news' := fun _ q => List.mem_append_right _ (h _ q)
theorem sub_appl {tl news news' : Led} (h : ∀ p ∈ news, p ∈ tl) : ∀ p ∈ news, p ∈ tl ++ news' := fun _ q => List.mem_append_left _ (h _ q)


section
variable {prog : Program} {w : World} {A : Around} {E : Value → Shared → Prop} {s : Shared}
theorem item_listT {value slice : PySem.Expr} {l : Addr} {vs : List Value} {k : Int} {u : Tok} {v : Value} {Q : Value → Shared → Prop}
    (hl : s.heap.IsList l vs.toArray) (h0 : 0 ≤ k) (hhi : k < 2 ^ 63) (hx : vs[k.toNat]? = some v) (h : Q v s)
    (hs : subscripted slice false (.ref l) (.int k u) = operate [.ref l, .int k u] (getItem (.ref l) (.int k u)) := by with_unfolding_all rfl) :
    wpAny (model prog w) A (subscriptTail value slice (.ref l) (.int k u)) Q E s :=
  tail_any hl.typeIs slot_list_getitem.lookup (wpAny_getItem_list hl h0 hhi (by simpa using hx) h) hs
theorem wname_ok (w : Nat) : PyData.strOk (wname w) = true := by unfold wname; split <;> decide +kernel
theorem eq_ref_num {h₀ : Heap} {L : Addr} {news : Led} {v u : Value} {wi : Nat} {n : Int} {Q : Value → Shared → Prop} (N : News h₀ L s.heap news) (R : RefIn news v wi) (M : NumIn news u n)
   (hu : A.units + 64 < cLine) (h : Q (.bool false) s) : wpAny (model prog w) A (compareOp .Eq v u) Q E s := by
  cases R with | mk hw h1 h2 h3 =>
  cases M with | mk k1 k2 =>
  refine eq_dataH (reads_tuple_at (N.get h1) rfl rfl (ReadsAll.cons (Reads.str _ _) (ReadsAll.cons (Reads.str _ _) (ReadsAll.cons (reads_tuple_at (N.get h2) rfl rfl ReadsAll.nil) (ReadsAll.cons (reads_tuple_at (N.get h3) rfl rfl ReadsAll.nil) (ReadsAll.cons Reads.none ReadsAll.nil)))))) 
    (reads_tuple_at (N.get k1) rfl rfl (ReadsAll.cons (Reads.str _ _) (ReadsAll.cons (reads_tuple_at (N.get k2) rfl rfl (ReadsAll.cons (Reads.int _ _) (ReadsAll.cons (Reads.int _ _) ReadsAll.nil))) ReadsAll.nil))) ?_ ?_ hu ?_
  · simp only [SeqAt.shaped, PyData.canLay0, PyData.canLayAll0, PyData.depth, PyData.depthAll, (by decide +kernel : PyData.strOk (Str.ofString "ref") = true), wname_ok]; rfl
  · simp only [SeqAt.shaped, PyData.canLay0, PyData.canLayAll0, PyData.depth, PyData.depthAll, (by decide +kernel : PyData.strOk (Str.ofString "number") = true)]; rfl
  · exact h
end

theorem wname_len (w : Nat) : (wname w).length ≤ 1048576 := by unfold wname; split <;> decide +kernel
theorem cname_len (k : Nat) : (cname k).length ≤ 1048576 := by unfold cname; split <;> decide +kernel
theorem wname_int {w : Nat} (h : w < 3) : PySem.intText? (PySem.Txt.slice (wname w) (some 1) none) = some (w : Int) := by
  rcases (by omega : w = 0 ∨ w = 1 ∨ w = 2) with rfl | rfl | rfl <;> decide +kernel
theorem cname_int {k : Nat} (h : k < 4) : PySem.intText? (PySem.Txt.slice (cname k) (some 1) none) = some (k : Int) := by
  rcases (by omega : k = 0 ∨ k = 1 ∨ k = 2 ∨ k = 3) with rfl | rfl | rfl | rfl <;> decide +kernel
theorem wname_slen (w : Nat) : (PySem.Txt.slice (wname w) (some 1) none).length ≤ 640 := by unfold wname; split <;> decide +kernel
theorem cname_slen (k : Nat) : (PySem.Txt.slice (cname k) (some 1) none).length ≤ 640 := by unfold cname; split <;> decide +kernel
theorem tr_w {b0 b1 b2 b3 : Bool} {w0 w1 w2 : Int} {t0 t1 t2 : Tok} {w : Nat} (h : w < 3) :
    [Value.bool b0, .bool b1, .bool b2, .bool b3, .int w0 t0, .int w1 t1, .int w2 t2][((4 : Int) + (w : Int)).toNat]? = some (.int (wSel w0 w1 w2 w) (tSel t0 t1 t2 w)) := by
  rcases (by omega : w = 0 ∨ w = 1 ∨ w = 2) with rfl | rfl | rfl <;> rfl
theorem tr_b {b0 b1 b2 b3 : Bool} {w0 w1 w2 : Int} {t0 t1 t2 : Tok} {k : Nat} (h : k < 4) :
    [Value.bool b0, .bool b1, .bool b2, .bool b3, .int w0 t0, .int w1 t1, .int w2 t2][((k : Int)).toNat]? = some (.bool (bSel b0 b1 b2 b3 k)) := by
  rcases (by omega : k = 0 ∨ k = 1 ∨ k = 2 ∨ k = 3) with rfl | rfl | rfl | rfl <;> rfl
theorem if_t {P Q : Prop} (h : P) : if true = true then P else Q := by simpa using h
theorem if_f {P Q : Prop} (h : Q) : if false = true then P else Q := by simpa using h
theorem mem_of {a : Addr × Obj} {l : Led} (h : a ∈ l) : List.Mem a l := h
theorem newsSub {h₀ h : Heap} {L : Addr} {l l' : Led} (N : News h₀ L h l) (s : ∀ p ∈ l', p ∈ l) : News h₀ L h l' := fun p hp => N p (s p hp)
theorem prime : (PySem.Challenge.rw_pq0615_01, Mine.hd.heap_39) = (PySem.Challenge.rw_pq0615_01, Mine.hd.heap_39) := by
  k_fill
  rfl
end

/- the words of a part are asked ahead of the library's lines -/
local macro_rules | `(tactic| walk_at $s:str) => `(tactic| k_extra $s)
local macro_rules | `(tactic| k_mem) => `(tactic| k_extra "k_mem")
local macro_rules | `(tactic| k_all) => `(tactic| k_extra "k_all")
local macro_rules | `(tactic| k_updF) => `(tactic| k_extra "k_updF")
local macro_rules | `(tactic| k_ne) => `(tactic| k_extra "k_ne")
local macro_rules | `(tactic| units_room) => `(tactic| k_extra "units_room")
theorem room0 {dp k : Nat} (h : dp + k < recursionLimit) : dp < recursionLimit := Nat.lt_of_le_of_lt (Nat.le_add_right ..) h
theorem room1 {dp k need : Nat} (h : dp + k < recursionLimit) (e : 1 + need ≤ k) : dp + 1 + need < recursionLimit := Nat.lt_of_le_of_lt (Nat.add_assoc dp 1 need ▸ Nat.add_le_add_left e dp) h
theorem units1 {un k need : Nat} (h : un + 8 * k + 400 < cLine) (e : 1 + need ≤ k) : un + 3 + 8 * need + 400 < cLine := by omega
theorem units0 {un k : Nat} (h : un + 8 * k + 400 < cLine) : un + 3 + 64 < cLine := by omega
theorem step1 {d k : Nat} (h : d < k) : 1 + (d + 1) ≤ k + 1 := by omega
local macro_rules | `(tactic| walk_at "Deep") => `(tactic| first | decide | exact step1 (by assumption) | exact step1 (Nat.lt_succ_self _) | exact step1 (Nat.lt_succ_of_le (Nat.le_max_left ..)) | exact step1 (Nat.lt_succ_of_le (Nat.le_max_right ..)) | fail "Deep")
local macro_rules | `(tactic| ktr_room) => `(tactic| first | exact room0 (by assumption) | exact room1 (by assumption) (by walk_at "Deep") | fail "room")
local macro_rules | `(tactic| ktr_units) => `(tactic| first | exact units0 (by assumption) | exact units1 (by assumption) (by walk_at "Deep") | fail "units")

/- part T2 -/
section
theorem prime2 : (PySem.Challenge.rw_pq0615_01, Mine.hd.heap_39) = (PySem.Challenge.rw_pq0615_01, Mine.hd.heap_39) := by
  k_fill
  rfl

def TruthSpec (prog : Program) (w : World) (K : Frag) (p : Program) (loose : List Str) (mean : ExcName → Option Value) (mg mb : Str → Option Value) (T : Tr) (c : Cond) : Prop :=
  Does prog w K p loose mean mg mb 98 (c.depth + 1) (fun news vs => ∃ v t, vs = [v, t] ∧ CondIn news v c ∧ TrIn news t T) (fun news _ r news' => news' = news ∧ r = .bool (c.eval T))

theorem truth_use {prog : Program} {w : World} {K : Frag} {p : Program} {loose : List Str} {mean : ExcName → Option Value} {mg mb : Str → Option Value} {T : Tr} {c : Cond} {n : Nat} {v t : Value}
   {dp un : Nat} {gd : Option (List Code)} {cn : Str} {cs : Scope} {a : Addr} {ccd : Value} {cl : List (Str × Addr)} {outer : List Env} {A₀ : Around} {base h₀ : Heap} {L : Addr} {m : Str → Option Value} {news : Led} {s : Shared}
    {Q E : Value → Shared → Prop} 
    (B : Below A₀ base outer h₀) (F : Fr h₀ L s.heap m) (X : K.In h₀) (N : News h₀ L s.heap news) (TT : Top p loose mean mg mb h₀) (hk : cs.kind = .function) (C : CondIn news v c) (ht : TrIn news t T)
    (H : ∀ c' : Cond, c'.depth < n → TruthSpec prog w K p loose mean mg mb T c')
    (hlt : c.depth < n) (hd : dp + (c.depth + 1) < recursionLimit) (hu : un + 8 * (c.depth + 1) + 400 < cLine)
    (ret : ∀ h' tk', Fr h₀ L h' m → News h₀ L h' news → Q (.bool (c.eval T)) { s with heap := h', toks := tk' }) :
    wpAny (model prog w) (ktrTop dp un gd cn cs L a ccd cl outer) (call (.ref 98) [v, t]) Q E s :=
  does_use (H c hlt) B F X N TT hk ⟨_, _, rfl, C, ht⟩ hd hu fun r news' h' tk' F' N' hp => by obtain ⟨rfl, rfl⟩ := hp; exact ret h' tk' F' N'


theorem wordsT20 : True := by
  k_with_none
  w_top off
  k_with "k_mem" => ((refine' mem_of ?_; ktr_member))
  k_with "Sub" => (first | exact Sub.refl | (refine Sub.cons ?_; walk_at "Sub") | (refine Sub.app ?_; walk_at "Sub") | fail "Sub")
  k_with "SubL" => (first | exact sub_refl | (refine sub_cons ?_; walk_at "SubL") | (refine sub_app ?_; walk_at "SubL") | fail "SubL")
  k_with "Lt" => (first | assumption | exact allLt_of (by assumption) | ((try simp only [AllLt, and_true]); assumption) | fail "Lt")
  k_with "Grown" => (first | exact Grown.refl | (refine Grown.cons ?_ rfl ?_; rotate_left; walk_at "Lt"; walk_at "Grown") | (refine Grown.app ?_ (by assumption) (by assumption); walk_at "Grown") | fail "Grown")
  k_with "Rel" => (first | assumption | exact CondIn.mono (by assumption) (by walk_at "Sub") | exact TrIn.mono (by assumption) (by walk_at "Sub") | exact RefIn.mono (by assumption) (by walk_at "Sub") | exact NumIn.mono (by assumption) (by walk_at "Sub") | exact SubjIn.mono (by assumption) (by walk_at "Sub") | exact ThingIn.mono (by assumption) (by walk_at "Sub") | walk_at "RelCon")
  k_with "RelCon" => (first | (apply TrIn.mk; k_mem) | (apply CondIn.eq; k_mem; walk_at "Rel"; walk_at "Rel") | (apply CondIn.le; k_mem; walk_at "Rel"; walk_at "Rel") | (apply CondIn.ge; k_mem; walk_at "Rel"; walk_at "Rel") | (apply CondIn.and; k_mem; walk_at "Rel"; walk_at "Rel") | (apply CondIn.or; k_mem; walk_at "Rel"; walk_at "Rel") | (apply CondIn.not; k_mem; walk_at "Rel") | fail "RelCon")
  k_with "MyItem" => ((
   (with_reducible show wpAny _ _ (subscriptTail _ _ (Value.ref _) (Value.int _ _)) _ _ _)
   k_here
   k_dflt (first
     | (refine' item_tupleT ?mtA ?mtB ?mtC ?mtD ?mtE ?_; (case mtA => (refine' News.isTup ?n9 ?m9; (case n9 => k_asm); (case m9 => k_mem))); (case mtB => decide); (case mtC => decide); (case mtD => rfl); (case mtE => rfl); k_whole)
     | (refine' item_listT ?mlA ?mlB ?mlC ?mlD ?_; (case mlA => (refine' News.isList ?n9 ?m9; (case n9 => k_asm); (case m9 => k_mem))); (case mlB => first | decide | omega); (case mlC => first | decide | omega); (case mlD => first | rfl | exact tr_b (by assumption) | exact tr_w (by assumption)); k_whole)
     | fail "MyItem")))
  k_with "subscriptTail Name Constant ref int" => (walk_at "MyItem")
  k_with "subscriptTail Name" => (walk_at "MyItem")
  k_with "subscriptTail Subscript" => (walk_at "MyItem")
  k_with "ite" => ((k_closed; first | (refine ite_pos (by decide +kernel) ?_) | (refine ite_neg (by decide +kernel) ?_)))
  k_with "ite" => (first | with_reducible refine if_t ?_ | with_reducible refine if_f ?_)
  k_with "subscriptTail Subscript" => ((
   (with_reducible show wpAny _ _ (subscriptTail _ (Expr.Slice (some _) none none _) (Value.str _ _) _) _ _ _)
   (with_reducible rename Fr _ _ _ _ => F')
   (with_reducible rename News _ _ _ _ => N')
   (refine slice_strN_sn (hsz := ?hsz) (s := ⟨_, _, _, _, _⟩) F' N' ?_)
   (case hsz => size_fits)
   intro _ _ _ _ _))
  k_with "units_room" => (ktr_units)
  k_with "compareOp Eq ref ref" => ((
   (with_reducible show wpAny _ _ (compareOp CmpOp.Eq (Value.ref _) (Value.ref _)) _ _ _)
   k_here
   k_dflt (refine' eq_ref_num ?erA ?erB ?erC ?erD ?_; (case erA => k_asm); (case erB => walk_at "Rel"); (case erC => walk_at "Rel"); (case erD => ktr_units); k_whole)))
  k_with "call type:int" => ((
   (with_reducible show wpAny _ _ (call (Value.type "int") [Value.str (PySem.Txt.slice (wname _) _ _) _]) _ _ _)
   refine KIN.call_text (wname_int (by assumption)) (wname_slen _) ?_))
  k_with "call type:int" => ((
   (with_reducible show wpAny _ _ (call (Value.type "int") [Value.str (PySem.Txt.slice (cname _) _ _) _]) _ _ _)
   refine KIN.call_text (cname_int (by assumption)) (cname_slen _) ?_))
  k_with "call ref" => ((
   (with_reducible show wpAny _ _ (call (Value.ref 98) _) _ _ _)
   k_here
   k_dflt (
     refine' truth_use ?k1 ?k2 ?k3 ?k4 ?k5 ?kK ?kR ?kT ?kH ?klt ?kd ?ku ?_
     (case k1 => k_asm); (case k2 => k_asm); (case k3 => k_asm); (case k4 => k_asm); (case k5 => k_asm); (case kK => first | exact rfl | assumption)
     (case kR => walk_at "Rel"); (case kT => walk_at "Rel"); (case kH => assumption); (case klt => (simp only [Cond.depth] at *; omega)); (case kd => (simp only [Cond.depth] at *; ktr_room)); (case ku => (simp only [Cond.depth] at *; ktr_units)))
   intro h9 tk9 F9 N9
   (try dsimp only)
   (try k_fold)))
  trivial
theorem truth_does {prog w p loose mean mg mb} (T : Tr) (n : Nat) : ∀ c : Cond, c.depth < n → TruthSpec prog w (Mine.hd.heap_39 w.params) p loose mean mg mb T c := by
  induction n with
  | zero => intro c h; exact absurd h (Nat.not_lt_zero _)
  | succ n IH =>
  intro c hc
  unfold TruthSpec Does
  intro dp un gd cn cs a ccd cl outer A₀ base h₀ L m news s vs Q E B F X N TT hk hR hd hu hret
  obtain ⟨v, t, rfl, C, ht⟩ := hR
  cases ht with | mk ht1 =>
  cases C with
  | @named a0 r e1 e2 t1 t2 t3 k hk4 h1 h2 =>
      have hz1 := cname_len k
      refine wpAny_call ?_
      k_dflt ktr_enter
      k_steps
      all_goals (refine hret _ news _ _ (by k_asm) (newsSub (by k_asm) (by walk_at "SubL")) ?_; refine ⟨rfl, ?_⟩; first | rfl | (simp only [Cond.eval]; simp [*]))
  | not h1 h2 =>
      refine wpAny_call ?_
      k_dflt ktr_enter
      k_steps
      all_goals (refine hret _ news _ _ (by k_asm) (newsSub (by k_asm) (by walk_at "SubL")) ?_; refine ⟨rfl, ?_⟩; first | rfl | (simp only [Cond.eval]; simp [*]))
  | and h1 h2 h3 =>
      refine wpAny_call ?_
      k_dflt ktr_enter
      k_steps
      all_goals (refine hret _ news _ _ (by k_asm) (newsSub (by k_asm) (by walk_at "SubL")) ?_; refine ⟨rfl, ?_⟩; first | rfl | (simp only [Cond.eval]; simp [*]))
  | or h1 h2 h3 =>
      refine wpAny_call ?_
      k_dflt ktr_enter
      k_steps
      all_goals (refine hret _ news _ _ (by k_asm) (newsSub (by k_asm) (by walk_at "SubL")) ?_; refine ⟨rfl, ?_⟩; first | rfl | (simp only [Cond.eval]; simp [*]))
  | @eq a0 t0 t0' v0 u0 wi n0 h1 hr hn =>
      have hr' := hr; have hn' := hn
      cases hr' with | mk hw3 hr1 hr2 hr3 =>
      cases hn' with | mk hn1 hn2 =>
      have hz1 := wname_len wi
      refine wpAny_call ?_
      k_dflt ktr_enter
      k_steps
      all_goals (refine hret _ news _ _ (by k_asm) (newsSub (by k_asm) (by walk_at "SubL")) ?_; refine ⟨rfl, ?_⟩; first | rfl | (simp only [Cond.eval]; simp [*]))
  | @le a0 t0 t0' v0 u0 wi n0 h1 hr hn =>
      have hr' := hr; have hn' := hn
      cases hr' with | mk hw3 hr1 hr2 hr3 =>
      cases hn' with | mk hn1 hn2 =>
      have hz1 := wname_len wi
      refine wpAny_call ?_
      k_dflt ktr_enter
      k_steps
      all_goals (refine hret _ news _ _ (by k_asm) (newsSub (by k_asm) (by walk_at "SubL")) ?_; refine ⟨rfl, ?_⟩; first | rfl | (simp only [Cond.eval]; simp [*]))
  | @ge a0 t0 t0' v0 u0 wi n0 h1 hr hn =>
      have hr' := hr; have hn' := hn
      cases hr' with | mk hw3 hr1 hr2 hr3 =>
      cases hn' with | mk hn1 hn2 =>
      have hz1 := wname_len wi
      refine wpAny_call ?_
      k_dflt ktr_enter
      k_steps
      all_goals (refine hret _ news _ _ (by k_asm) (newsSub (by k_asm) (by walk_at "SubL")) ?_; refine ⟨rfl, ?_⟩; first | rfl | (simp only [Cond.eval]; simp [*]))
  | always h1 h2 h3 =>
      refine wpAny_call ?_
      k_dflt ktr_enter
      k_steps
      all_goals (refine hret _ news _ _ (by k_asm) (newsSub (by k_asm) (by walk_at "SubL")) ?_; refine ⟨rfl, ?_⟩; first | rfl | (simp only [Cond.eval]; simp [*]))
end

/- part C1 -/
section
theorem primeC1 : (PySem.Challenge.rw_pq0615_01, Mine.hd.heap_39) = (PySem.Challenge.rw_pq0615_01, Mine.hd.heap_39) := by
  k_fill
  rfl

theorem wordsC10 : True := by
  k_with_none
  w_top off
  k_with "k_mem" => ((refine' mem_of ?_; ktr_member))
  k_with "Sub" => (first | exact Sub.refl | (refine Sub.cons ?_; walk_at "Sub") | (refine Sub.app ?_; walk_at "Sub") | fail "Sub")
  k_with "SubL" => (first | exact sub_refl | (refine sub_cons ?_; walk_at "SubL") | (refine sub_app ?_; walk_at "SubL") | fail "SubL")
  k_with "Lt" => (first | assumption | exact allLt_of (by assumption) | ((try simp only [AllLt, and_true]); assumption) | fail "Lt")
  k_with "Grown" => (first | exact Grown.refl | (refine Grown.cons ?_ rfl ?_; rotate_left; walk_at "Lt"; walk_at "Grown") | (refine Grown.app ?_ (by assumption) (by assumption); walk_at "Grown") | fail "Grown")
  k_with "Rel" => (first | assumption | exact CondIn.mono (by assumption) (by walk_at "Sub") | exact TrIn.mono (by assumption) (by walk_at "Sub") | exact RefIn.mono (by assumption) (by walk_at "Sub") | exact NumIn.mono (by assumption) (by walk_at "Sub") | exact SubjIn.mono (by assumption) (by walk_at "Sub") | exact ThingIn.mono (by assumption) (by walk_at "Sub") | walk_at "RelCon")
  k_with "RelCon" => (first | (apply TrIn.mk; k_mem) | (apply CondIn.eq; k_mem; walk_at "Rel"; walk_at "Rel") | (apply CondIn.le; k_mem; walk_at "Rel"; walk_at "Rel") | (apply CondIn.ge; k_mem; walk_at "Rel"; walk_at "Rel") | (apply CondIn.and; k_mem; walk_at "Rel"; walk_at "Rel") | (apply CondIn.or; k_mem; walk_at "Rel"; walk_at "Rel") | (apply CondIn.not; k_mem; walk_at "Rel") | fail "RelCon")
  k_with "MyItem" => ((
   (with_reducible show wpAny _ _ (subscriptTail _ _ (Value.ref _) (Value.int _ _)) _ _ _)
   k_here
   k_dflt (first
     | (refine' item_tupleT ?mtA ?mtB ?mtC ?mtD ?mtE ?_; (case mtA => (refine' News.isTup ?n9 ?m9; (case n9 => k_asm); (case m9 => k_mem))); (case mtB => decide); (case mtC => decide); (case mtD => rfl); (case mtE => rfl); k_whole)
     | (refine' item_listT ?mlA ?mlB ?mlC ?mlD ?_; (case mlA => (refine' News.isList ?n9 ?m9; (case n9 => k_asm); (case m9 => k_mem))); (case mlB => first | decide | omega); (case mlC => first | decide | omega); (case mlD => first | rfl | exact tr_b (by assumption) | exact tr_w (by assumption)); k_whole)
     | fail "MyItem")))
  k_with "subscriptTail Name Constant ref int" => (walk_at "MyItem")
  k_with "subscriptTail Name" => (walk_at "MyItem")
  k_with "subscriptTail Subscript" => (walk_at "MyItem")
  k_with "ite" => ((k_closed; first | (refine ite_pos (by decide +kernel) ?_) | (refine ite_neg (by decide +kernel) ?_)))
  k_with "ite" => (first | with_reducible refine if_t ?_ | with_reducible refine if_f ?_)
  k_with "subscriptTail Subscript" => ((
   (with_reducible show wpAny _ _ (subscriptTail _ (Expr.Slice (some _) none none _) (Value.str _ _) _) _ _ _)
   (with_reducible rename Fr _ _ _ _ => F')
   (with_reducible rename News _ _ _ _ => N')
   (refine slice_strN_sn (hsz := ?hsz) (s := ⟨_, _, _, _, _⟩) F' N' ?_)
   (case hsz => size_fits)
   intro _ _ _ _ _))
  k_with "units_room" => (ktr_units)
  k_with "compareOp Eq ref ref" => ((
   (with_reducible show wpAny _ _ (compareOp CmpOp.Eq (Value.ref _) (Value.ref _)) _ _ _)
   k_here
   k_dflt (refine' eq_ref_num ?erA ?erB ?erC ?erD ?_; (case erA => k_asm); (case erB => walk_at "Rel"); (case erC => walk_at "Rel"); (case erD => ktr_units); k_whole)))
  k_with "call type:int" => ((
   (with_reducible show wpAny _ _ (call (Value.type "int") [Value.str (PySem.Txt.slice (wname _) _ _) _]) _ _ _)
   refine KIN.call_text (wname_int (by assumption)) (wname_slen _) ?_))
  k_with "call type:int" => ((
   (with_reducible show wpAny _ _ (call (Value.type "int") [Value.str (PySem.Txt.slice (cname _) _ _) _]) _ _ _)
   refine KIN.call_text (cname_int (by assumption)) (cname_slen _) ?_))
  trivial
section
variable {prog : Program} {w : World} {p : Program} {loose : List Str} {mean : ExcName → Option Value} {mg mb : Str → Option Value}

abbrev MyDoes (prog : Program) (w : World) (p : Program) (loose : List Str) (mean : ExcName → Option Value) (mg mb : Str → Option Value) (f : Addr) (need : Nat)
   (pre : Led → List Value → Prop) (post : Led → List Value → Value → Led → Prop) : Prop := Does prog w (Mine.hd.heap_39 w.params) p loose mean mg mb f need pre post

def CondOut (c : Cond) (news : Led) (r : Value) (news' : Led) : Prop := Grown news news' ∧ CondIn news' r c

theorem cond_use {f : Addr} {need : Nat} {pre : Led → List Value → Prop} {c : Cond} {vs : List Value}
   {dp un : Nat} {gd : Option (List Code)} {cn : Str} {cs : Scope} {a : Addr} {ccd : Value} {cl : List (Str × Addr)} {outer : List Env} {A₀ : Around} {base h₀ : Heap} {L : Addr} {m : Str → Option Value} {news : Led} {s : Shared}
    {Q E : Value → Shared → Prop} (H : MyDoes prog w p loose mean mg mb f need pre (fun news _ r news' => CondOut c news r news'))
    (B : Below A₀ base outer h₀) (F : Fr h₀ L s.heap m) (X : (Mine.hd.heap_39 w.params).In h₀) (N : News h₀ L s.heap news) (T : Top p loose mean mg mb h₀) (hk : cs.kind = .function) (hpre : pre news vs) (hd : dp + need < recursionLimit) (hu : un + 8 * need + 400 < cLine)
    (ret : ∀ r tl h' tk', Fr h₀ L h' m → News h₀ L h' (tl ++ news) → AllTup tl → Fresh tl news → CondIn (tl ++ news) (.ref r) c → Q (.ref r) { s with heap := h', toks := tk' }) :
    wpAny (model prog w) (ktrTop dp un gd cn cs L a ccd cl outer) (call (.ref f) vs) Q E s :=
  does_use H B F X N T hk hpre hd hu fun r news' h' tk' F' N' ⟨⟨tl, e, ht, hf⟩, C⟩ => by
    subst e
    have : ∃ a, r = .ref a := by cases C <;> exact ⟨_, rfl⟩
    obtain ⟨a, rfl⟩ := this
    exact ret a tl h' tk' F' N' ht hf C
end

theorem always_does {prog w p loose mean mg mb} : MyDoes prog w p loose mean mg mb 21 1 (fun _ vs => vs = []) (fun news _ r news' => CondOut .always news r news') := by
  unfold MyDoes Does
  intro dp un gd cn cs a ccd cl outer A₀ base h₀ L m news s vs Q E B F X N TT hk hR hd hu hret
  subst hR
  refine wpAny_call ?_
  k_dflt ktr_enter
  k_steps
  all_goals (refine hret _ _ _ _ (by k_asm) (by k_asm) ⟨by walk_at "Grown", ?_⟩)
  exact CondIn.always (by k_mem) (by k_mem) (by k_mem)


theorem wordsC11 : True := by
  k_with "call ref" => ((
   (with_reducible show wpAny _ _ (call (Value.ref 21) _) _ _ _)
   k_here
   k_dflt (refine' cond_use always_does ?k1 ?k2 ?k3 ?k4 ?k5 ?kK ?kR ?kd ?ku ?_; (case k4 => k_asm); (case kR => exact rfl); (case k1 => k_asm); (case k2 => k_asm); (case k3 => k_asm); (case k5 => k_asm); (case kK => first | exact rfl | assumption); (case kd => ktr_room); (case ku => ktr_units))
   intro r9 tl9 h9 tk9 F9 N9 A9 W9 C9
   (try dsimp only)
   (try k_fold)))
  trivial
theorem pre1 {P : Value → Prop} {v : Value} (h : P v) : ∃ v', [v] = [v'] ∧ P v' := ⟨_, rfl, h⟩
theorem pre2 {P R : Value → Prop} {v u : Value} (h : P v) (k : R u) : ∃ v' u', [v, u] = [v', u'] ∧ P v' ∧ R u' := ⟨_, _, rfl, h, k⟩
theorem negPre {news : Led} {v : Value} {b : Bool} {c : Cond} (h : CondIn news v c) : ∃ v', [v, Value.bool b] = [v', Value.bool b] ∧ CondIn news v' c := ⟨_, rfl, h⟩
theorem negif_does {prog w p loose mean mg mb} (c : Cond) (b : Bool) : MyDoes prog w p loose mean mg mb 28 1 (fun news vs => ∃ v, vs = [v, .bool b] ∧ CondIn news v c) (fun news _ r news' => CondOut (negIf c b) news r news') := by
  unfold MyDoes Does
  intro dp un gd cn cs a ccd cl outer A₀ base h₀ L m news s vs Q E B F X N TT hk hR hd hu hret
  obtain ⟨v, rfl, C⟩ := hR
  cases b
  all_goals (
    refine wpAny_call ?_
    k_dflt ktr_enter
    k_steps)
  all_goals (refine hret _ _ _ _ (by k_asm) (by k_asm) ⟨by walk_at "Grown", ?_⟩)
  · exact C
  · exact CondIn.not (by k_mem) (by walk_at "Rel")


theorem wordsC12 : True := by
  k_with "call ref" => ((
   (with_reducible show wpAny _ _ (call (Value.ref 28) _) _ _ _)
   k_here
   k_dflt (refine' cond_use (negif_does _ _) ?k1 ?k2 ?k3 ?k4 ?k5 ?kK ?kR ?kd ?ku ?_; (case k4 => k_asm); (case kR => (refine' negPre ?x9; (case x9 => walk_at "Rel"))); (case k1 => k_asm); (case k2 => k_asm); (case k3 => k_asm); (case k5 => k_asm); (case kK => first | exact rfl | assumption); (case kd => ktr_room); (case ku => ktr_units))
   intro r9 tl9 h9 tk9 F9 N9 A9 W9 C9
   (try dsimp only)
   (try k_fold)))
  trivial
theorem alike_does {prog w p loose mean mg mb} (c d : Cond) : MyDoes prog w p loose mean mg mb 42 1 (fun news vs => ∃ v u, vs = [v, u] ∧ CondIn news v c ∧ CondIn news u d) (fun news _ r news' => CondOut (alike c d) news r news') := by
  unfold MyDoes Does
  intro dp un gd cn cs a ccd cl outer A₀ base h₀ L m news s vs Q E B F X N TT hk hR hd hu hret
  obtain ⟨v, u, rfl, C, D⟩ := hR
  refine wpAny_call ?_
  k_dflt ktr_enter
  k_steps
  all_goals (refine hret _ _ _ _ (by k_asm) (by k_asm) ⟨by walk_at "Grown", ?_⟩)
  exact CondIn.or (by k_mem) (CondIn.and (by k_mem) (by walk_at "Rel") (by walk_at "Rel")) (CondIn.and (by k_mem) (CondIn.not (by k_mem) (by walk_at "Rel")) (CondIn.not (by k_mem) (by walk_at "Rel")))


theorem wordsC13 : True := by
  k_with "call ref" => ((
   (with_reducible show wpAny _ _ (call (Value.ref 42) _) _ _ _)
   k_here
   k_dflt (refine' cond_use (alike_does _ _) ?k1 ?k2 ?k3 ?k4 ?k5 ?kK ?kR ?kd ?ku ?_; (case k4 => k_asm); (case kR => (refine' pre2 ?x8 ?x9; (case x8 => walk_at "Rel"); (case x9 => walk_at "Rel"))); (case k1 => k_asm); (case k2 => k_asm); (case k3 => k_asm); (case k5 => k_asm); (case kK => first | exact rfl | assumption); (case kd => ktr_room); (case ku => ktr_units))
   intro r9 tl9 h9 tk9 F9 N9 A9 W9 C9
   (try dsimp only)
   (try k_fold)))
  trivial
theorem truthof_does {prog w p loose mean mg mb} (t : Thing) (ht : t = .yes ∨ t = .no ∨ ∃ c, t = .truth c) : MyDoes prog w p loose mean mg mb 35 2 (fun news vs => ∃ v, vs = [v] ∧ ThingIn news v t) (fun news _ r news' => CondOut (truthOf t) news r news') := by
  unfold MyDoes Does
  intro dp un gd cn cs a ccd cl outer A₀ base h₀ L m news s vs Q E B F X N TT hk hR hd hu hret
  obtain ⟨v, rfl, C⟩ := hR
  rcases ht with rfl | rfl | ⟨c, rfl⟩
  all_goals cases C
  all_goals (
    refine wpAny_call ?_
    k_dflt ktr_enter
    k_steps)
  all_goals (refine hret _ _ _ _ (by k_asm) (by k_asm) ⟨by walk_at "Grown", ?_⟩)
  all_goals (try simp only [truthOf])
  all_goals (try walk_at "Rel")

theorem truthofPre {news : Led} {v : Value} {t : Thing} (h : ThingIn news v t) : ∃ v', [v] = [v'] ∧ ThingIn news v' t := ⟨_, rfl, h⟩

theorem wordsC14 : True := by
  k_with "call ref" => ((
   (with_reducible show wpAny _ _ (call (Value.ref 35) _) _ _ _)
   k_here
   k_dflt (refine' cond_use (truthof_does _ ?kt) ?k1 ?k2 ?k3 ?k4 ?k5 ?kK ?kR ?kd ?ku ?_; (case k4 => k_asm); (case kR => (refine' truthofPre ?x9; (case x9 => walk_at "Rel"))); (case kt => first | exact .inl rfl | exact .inr (.inl rfl) | exact .inr (.inr ⟨_, rfl⟩)); (case k1 => k_asm); (case k2 => k_asm); (case k3 => k_asm); (case k5 => k_asm); (case kK => first | exact rfl | assumption); (case kd => ktr_room); (case ku => ktr_units))
   intro r9 tl9 h9 tk9 F9 N9 A9 W9 C9
   (try dsimp only)
   (try k_fold)))
  trivial
def ObjOut (o : Option Cond) (news : Led) (r : Value) (news' : Led) : Prop := Grown news news' ∧ match o with | none => r = .none | some c => CondIn news' r c
theorem objcond_does {prog w p loose mean mg mb} (S : Subj) (t : Thing) (hf : Fits S t = true) : MyDoes prog w p loose mean mg mb 49 3 (fun news vs => ∃ v u, vs = [v, u] ∧ SubjIn news v S ∧ ThingIn news u t) (fun news _ r news' => ObjOut (objCond S t) news r news') := by
  unfold MyDoes Does
  intro dp un gd cn cs a ccd cl outer A₀ base h₀ L m news s vs Q E B F X N TT hk hR hd hu hret
  obtain ⟨v, u, rfl, C, D⟩ := hR
  have D' := D
  cases D
  case any =>
    refine wpAny_call ?_
    k_dflt ktr_enter
    k_steps
    all_goals (refine hret _ _ _ _ (by k_asm) (by k_asm) ⟨by walk_at "Grown", ?_⟩)
    all_goals (cases S <;> rfl)
  all_goals cases C
  all_goals (first | (exfalso; exact Bool.noConfusion hf) | skip)
  all_goals (
    refine wpAny_call ?_
    k_dflt ktr_enter
    k_steps)
  all_goals (refine hret _ _ _ _ (by k_asm) (by k_asm) ⟨by walk_at "Grown", ?_⟩)
  all_goals (try simp only [objCond])
  all_goals (first | walk_at "Rel" | (refine' CondIn.mono ?x1 ?x2; (case x1 => walk_at "Rel"); (case x2 => walk_at "Sub")) | skip)
end

/- part Zip -/
section
section
variable {prog : Program} {w : World} {A : Around}

/-- an iterator i over a source l whose draws are told (P n: it stands at place n) -/
structure Nx (prog : Program) (w : World) (A : Around) (i l : Addr) (xs : Array Value) (P : Nat → Heap → Prop) : Prop where
  frame : ∀ n h h', P n h → (∀ b o, (b = i ∨ b = l) → h.get? b = some o → h'.get? b = some o) → P n h'
  here : ∀ n h, P n h → (∃ o, h.get? i = some o)
  item : ∀ n x (s : Shared) (Q E : Value → Shared → Prop), xs[n]? = some x → P n s.heap →
    (∀ h', P (n + 1) h' → Heap.SameBut i s.heap h' → Q x { s with heap := h' }) → wpAny (model prog w) A (Builtin.SmallTypes.nextOf (.ref i)) Q E s
  stop : ∀ n (s : Shared) (Q E : Value → Shared → Prop), xs[n]? = none → P n s.heap →
    (∀ h' e, Heap.ExtBut i s.heap h' → (∃ o, h'.get? e = some o ∧ o.cls = .type "StopIteration") → E (.ref e) { s with heap := h' }) → wpAny (model prog w) A (Builtin.SmallTypes.nextOf (.ref i)) Q E s

theorem Nx.but {i l c : Addr} {xs : Array Value} {P : Nat → Heap → Prop} {n : Nat} {h h' : Heap} (X : Nx prog w A i l xs P) (st : P n h) (hs : Heap.ExtBut c h h') (h1 : i ≠ c) (h2 : l ≠ c) : P n h' :=
  X.frame _ _ _ st fun b o hb e => hs b o (by rcases hb with rfl | rfl <;> assumption) e

theorem Nx.list (hh : A.handled = none) {i l : Addr} (hne : l ≠ i) (xs : Array Value) : Nx prog w A i l xs (fun n h => h.IsListIter i l n ∧ h.IsList l xs) where
  frame := fun n h h' st k => ⟨st.1.at fun o e => k _ _ (.inl rfl) e, st.2.at fun o e => k _ _ (.inr rfl) e⟩
  here := fun n h st => by obtain ⟨⟨o, e, _⟩, _⟩ := st; exact ⟨o, e⟩
  item := fun n x s Q E hx st hQ => wpAny_nextOf_list_item st.1 st.2 hx fun h' it' hs' => hQ h' ⟨it', st.2.extBut hs'.extBut hne⟩ hs'
  stop := fun n s Q E hx st hE => wpAny_nextOf_list_end hh st.1 st.2 hx fun h' e he hc => hE h' e he hc

theorem next_tup_item {it l : Addr} {i : Nat} {items : Array Value} {x : Value} {s : Shared} {Q E : Value → Shared → Prop} (hit : s.heap.IsTupleIter it l i)
    (hl : s.heap.IsTuple l items) (hx : items[i]? = some x) (hQ : ∀ h', h'.IsTupleIter it l (i + 1) → Heap.SameBut it s.heap h' → Q x { s with heap := h' }) :
    wpAny (model prog w) A (Builtin.SmallTypes.nextOf (.ref it)) Q E s := by
  obtain ⟨o, ho, hc, hd⟩ := id hit
  obtain ⟨ol, hol, _, nl, hdl⟩ := hl
  unfold Builtin.SmallTypes.nextOf
  refine wpAny_bind (wpAny_callSpecial?_slot (name := Str.ofString "__next__") hit.typeIs F.slot_tuple_iterator_next
    (wpAny_call_entry F.slot_tuple_iterator_next hit.typeIs F.entry_tuple_iterator_next ?_ (F.args_tuple_iterator_next_1 _)))
  show wpAny _ _ (field (.ref it) 0 >>= _) _ _ s
  refine wpAny_bind (wpAny_field ho hd (x := .ref l) rfl ?_)
  show wpAny _ _ (if (Value.ref l == Value.none) = true then _ else _) _ _ s
  rw [if_neg (show ¬ ((Value.ref l == Value.none) = true) from Bool.false_ne_true)]
  show wpAny _ _ (field (.ref it) 1 >>= _) _ _ s
  refine wpAny_bind (wpAny_field ho hd (x := .int i 0) rfl ?_)
  show wpAny _ _ (seqItems? (.ref l) >>= _) _ _ s
  refine wpAny_bind (wpAny_seqItems hol hdl ?_)
  simp only [Int.toNat_natCast, hx]
  refine wpAny_bind (wpAny_setField ho hd (by simp) (wpAny_pure ⟨x, rfl, wpAny_pure (hQ _ ?_ (Heap.SameBut.update ..))⟩))
  exact ⟨_, Heap.get?_update_self _ ho (Obj.isFreed_of_fields (Obj.data_mapFields hd _)), (Obj.cls_mapFields ..).trans hc, by
    rw [Obj.data_mapFields hd]; simp [rawInt]⟩

theorem next_tup_end (hh : A.handled = none) {it l : Addr} {i : Nat} {items : Array Value} {s : Shared} {Q E : Value → Shared → Prop} (hit : s.heap.IsTupleIter it l i)
    (hl : s.heap.IsTuple l items) (hx : items[i]? = none)
    (hE : ∀ h' e, Heap.ExtBut it s.heap h' → (∃ o, h'.get? e = some o ∧ o.cls = .type "StopIteration") → E (.ref e) { s with heap := h' }) :
    wpAny (model prog w) A (Builtin.SmallTypes.nextOf (.ref it)) Q E s := by
  obtain ⟨o, ho, hc, hd⟩ := id hit
  obtain ⟨ol, hol, _, nl, hdl⟩ := hl
  unfold Builtin.SmallTypes.nextOf
  refine wpAny_bind (wpAny_callSpecial?_slot (name := Str.ofString "__next__") hit.typeIs F.slot_tuple_iterator_next
    (wpAny_call_entry F.slot_tuple_iterator_next hit.typeIs F.entry_tuple_iterator_next ?_ (F.args_tuple_iterator_next_1 _)))
  show wpAny _ _ (field (.ref it) 0 >>= _) _ _ s
  refine wpAny_bind (wpAny_field ho hd (x := .ref l) rfl ?_)
  show wpAny _ _ (if (Value.ref l == Value.none) = true then _ else _) _ _ s
  rw [if_neg (show ¬ ((Value.ref l == Value.none) = true) from Bool.false_ne_true)]
  show wpAny _ _ (field (.ref it) 1 >>= _) _ _ s
  refine wpAny_bind (wpAny_field ho hd (x := .int i 0) rfl ?_)
  show wpAny _ _ (seqItems? (.ref l) >>= _) _ _ s
  refine wpAny_bind (wpAny_seqItems hol hdl ?_)
  simp only [Int.toNat_natCast, hx]
  refine wpAny_bind (wpAny_rule (wpAny_bind (wpAny_setField ho hd (by simp) ?_)))
  show wpAny _ _ (newExc (.type "StopIteration") [] >>= _) _ _ _
  refine wpAny_bind ?_
  simp only [newExc, newTuple]
  refine wpAny_bind (wpAny_newObj_type ?_ (by size_fits))
  refine wpAny_bind (m := firstArgMember _ _) (wpAny_of_eq (a := Value.none) (by first | rfl | (simp only [firstArgMember]; rfl)) ?_)
  refine wpAny_newObj_type ?_ (by size_fits)
  simp only [raiseNew]
  refine wpAny_bind (wpAny_handled ?_)
  first | rw [show A.in1.handled = none from hh] | rw [hh]
  refine wpAny_bind (wpAny_pure (wpAny_throw ?_))
  exact hE _ _ (((Heap.SameBut.update ..).extBut.push _).push _) ⟨_, Heap.get?_push_size _ rfl, rfl⟩

theorem Nx.tuple (hh : A.handled = none) {i l : Addr} (hne : l ≠ i) (xs : Array Value) : Nx prog w A i l xs (fun n h => h.IsTupleIter i l n ∧ h.IsTuple l xs) where
  frame := fun n h h' st k => ⟨st.1.at fun o e => k _ _ (.inl rfl) e, st.2.at fun o e => k _ _ (.inr rfl) e⟩
  here := fun n h st => by obtain ⟨⟨o, e, _⟩, _⟩ := st; exact ⟨o, e⟩
  item := fun n x s Q E hx st hQ => next_tup_item st.1 st.2 hx fun h' it' hs' => hQ h' ⟨it', st.2.extBut hs'.extBut hne⟩ hs'
  stop := fun n s Q E hx st hE => next_tup_end hh st.1 st.2 hx fun h' e he hc => hE h' e he hc

/-- the parts of a zip lie apart -/
structure Apart (z TI TO i1 i2 l1 l2 : Addr) : Prop where
  d1 : TI ≠ z ∧ TO ≠ z ∧ i1 ≠ z ∧ i2 ≠ z ∧ l1 ≠ z ∧ l2 ≠ z
  d2 : TI ≠ TO ∧ i1 ≠ TO ∧ i2 ≠ TO ∧ l1 ≠ TO ∧ l2 ≠ TO
  d3 : TI ≠ i1 ∧ TI ≠ i2 ∧ i1 ≠ i2 ∧ l1 ≠ i1 ∧ l1 ≠ i2 ∧ l2 ≠ i1 ∧ l2 ≠ i2
theorem apart_new {n l1 l2 : Nat} (h1 : l1 < n) (h2 : l2 < n) : Apart (n + 4) (n + 2) (n + 3) n (n + 1) l1 l2 := by
  refine ⟨⟨?_, ?_, ?_, ?_, ?_, ?_⟩, ⟨?_, ?_, ?_, ?_, ?_⟩, ⟨?_, ?_, ?_, ?_, ?_, ?_, ?_⟩⟩ <;> (refine neN ?_; omega)

/-- a zip that stands before its k-th draw; the tuple that it keeps holds x, y -/
def ZAt (P1 P2 : Nat → Heap → Prop) (z TI TO i1 i2 : Addr) (k : Nat) (f0 x y : Value) (h : Heap) : Prop :=
  IsZip h z TI TO f0 ∧ IsPair h TI (.ref i1) (.ref i2) ∧ IsPair h TO x y ∧ P1 k h ∧ P2 k h

theorem zip_item {z TI TO i1 i2 l1 l2 : Addr} {k : Nat} {xs ys : Array Value} {P1 P2 : Nat → Heap → Prop} {x y a b : Value} {s : Shared} {Q E : Value → Shared → Prop} (D : Apart z TI TO i1 i2 l1 l2)
    (X1 : Nx prog w A i1 l1 xs P1) (X2 : Nx prog w A i2 l2 ys P2) (Z : ZAt P1 P2 z TI TO i1 i2 k .none a b s.heap) (hx : xs[k]? = some x) (hy : ys[k]? = some y)
    (hQ : ∀ h', ZAt P1 P2 z TI TO i1 i2 (k + 1) (rawInt s.heap.objs.size) x y h' → IsPair h' s.heap.objs.size x y →
      (∀ c o, c ≠ z → c ≠ TO → c ≠ i1 → c ≠ i2 → s.heap.get? c = some o → h'.get? c = some o) → Q (.ref s.heap.objs.size) { s with heap := h' }) :
    wpAny (model prog w) A (Builtin.«zip.__next__» ⟨[.ref z], []⟩) (fun fin s' => ∃ v, fin = .done (.ret v) ∧ Q v s') E s := by
  obtain ⟨hz, hTI, hTO, h1, h2⟩ := Z
  obtain ⟨⟨a1, a2, a3, a4, a5, a6⟩, ⟨b1, b2, b3, b4, b5⟩, ⟨c1, c2, c3, c4, c5, c6, c7⟩⟩ := D
  -- the flags, the inner iterators, the owned tuple
  show wpAny _ _ (field (.ref z) 2 >>= _) _ _ _
  refine wpAny_bind (wpAny_field hz rfl (x := .bool false) rfl ?_)
  show wpAny _ _ (field (.ref z) 3 >>= _) _ _ _
  refine wpAny_bind (wpAny_field hz rfl (x := .ref TI) rfl ?_)
  refine wpAny_bind (wpAny_seqItems hTI rfl ?_)
  show wpAny _ _ (Builtin.SmallTypes.ownedTupleIsFree (.ref z) >>= _) _ _ _
  refine wpAny_bind ?_
  unfold Builtin.SmallTypes.ownedTupleIsFree
  refine wpAny_bind (wpAny_field hz rfl (x := .none) rfl (wpAny_pure ?_))
  simp only [if_true]
  refine wpAny_bind (wpAny_rule (wpAny_bind (wpAny_field hz rfl (x := .ref TO) rfl ?_)))
  refine wpAny_bind (wpAny_setField_rec hz (by simp) fun g1 hz1 e1 => wpAny_bind ?_)
  have hz1' : IsZip g1 z TI TO .ellipsis := hz1
  simp only [List.zipIdx_cons, List.zipIdx_nil, List.forIn_cons, List.forIn_nil]
  -- the first draw
  refine wpAny_bind (wpAny_bind (wpAny_onRaise ?_))
  show wpAny _ _ (Builtin.SmallTypes.nextOf (.ref i1) >>= _) _ _ _
  refine (wpAny_bind (X1.item k x _ _ _ hx (X1.but h1 e1.extBut a3 a5) fun g2 p1 e2 => wpAny_pure ?_))
  have t2 : IsPair g2 TO a b := e2.extBut _ _ b2.symm (e1.extBut _ _ a2 hTO)
  refine wpAny_bind (wpAny_seqItems t2 rfl (wpAny_bind (wpAny_updateSeq_pair t2 fun g3 t3 e3 => wpAny_bind (wpAny_letGo (wpAny_pure ?_)))))
  have t3' : IsPair g3 TO x b := t3
  -- the second draw
  have q2 : P2 k g3 := X2.but (X2.but (X2.but h2 e1.extBut a4 a6) e2.extBut c3.symm c6) e3.extBut b3 b5
  refine wpAny_bind (wpAny_bind (wpAny_onRaise ?_))
  show wpAny _ _ (Builtin.SmallTypes.nextOf (.ref i2) >>= _) _ _ _
  refine (wpAny_bind (X2.item k y _ _ _ hy q2 fun g4 p2 e4 => wpAny_pure ?_))
  have t4 : IsPair g4 TO x b := e4.extBut _ _ b3.symm t3'
  refine wpAny_bind (wpAny_seqItems t4 rfl (wpAny_bind (wpAny_updateSeq_pair t4 fun g5 t5 e5 => wpAny_bind (wpAny_letGo (wpAny_pure (wpAny_pure ?_))))))
  have t5' : IsPair g5 TO x y := t5
  refine wpAny_bind (wpAny_seqItems t5' rfl (wpAny_bind (wpAny_newTuple ?_)))
  have hsz : g5.objs.size = s.heap.objs.size := by rw [e5.1, e4.1, e3.1, e2.1, e1.1]
  have z5 : IsZip g5 z TI TO .ellipsis := e5.extBut _ _ a2.symm (e4.extBut _ _ a4.symm (e3.extBut _ _ a2.symm (e2.extBut _ _ a3.symm hz1')))
  have up5 : ∀ c o, c ≠ z → c ≠ TO → c ≠ i1 → c ≠ i2 → s.heap.get? c = some o → g5.get? c = some o := fun c o k1 k2 k3 k4 e =>
    e5.extBut _ _ k2 (e4.extBut _ _ k4 (e3.extBut _ _ k2 (e2.extBut _ _ k3 (e1.extBut _ _ k1 e))))
  have p1' : P1 (k + 1) g5 := X1.but (X1.but (X1.but p1 e3.extBut b2 b4) e4.extBut c3 c5) e5.extBut b2 b4
  have p2' : P2 (k + 1) g5 := X2.but p2 e5.extBut b3 b5
  have ltz : z < g5.objs.size := Heap.lt_size z5
  -- the owned tuple is handed out
  show wpAny _ _ (Builtin.SmallTypes.ownedTupleHandOut (.ref z) (.ref g5.objs.size) >>= _) _ _ _
  refine wpAny_bind ?_
  unfold Builtin.SmallTypes.ownedTupleHandOut
  have z6 : IsZip (g5.push { cls := .type "tuple", data := .seq #[x, y] }) z TI TO .ellipsis := Heap.get?_push_of_some _ z5
  refine wpAny_bind (wpAny_setField_rec z6 (by simp) fun g7 hz7 e7 => ?_)
  have hz7' : IsZip g7 z TI TO (rawInt g5.objs.size) := hz7
  refine wpAny_setField_rec hz7' (by simp) fun g8 hz8 e8 => wpAny_pure ⟨_, rfl, ?_⟩
  have hz8' : IsZip g8 z TI TO (rawInt g5.objs.size) := hz8
  have up : ∀ c o, c ≠ z → g5.get? c = some o → g8.get? c = some o := fun c o k1 e => e8.extBut _ _ k1 (e7.extBut _ _ k1 (Heap.get?_push_of_some _ e))
  have T8 : IsPair g8 g5.objs.size x y := e8.extBut _ _ (Nat.ne_of_gt ltz) (e7.extBut _ _ (Nat.ne_of_gt ltz) (Heap.get?_push_size _ rfl))
  rw [hsz] at hz8' T8
  show Q (.ref g5.objs.size) _
  rw [hsz]
  exact hQ g8 ⟨hz8', up _ _ a1 (up5 _ _ a1 b1 c1 c2 hTI), up _ _ a2 t5', X1.frame _ _ _ p1' fun c o hc e => up c o (by rcases hc with rfl | rfl <;> assumption) e,
    X2.frame _ _ _ p2' fun c o hc e => up c o (by rcases hc with rfl | rfl <;> assumption) e⟩ T8 fun c o k1 k2 k3 k4 e => up c o k1 (up5 c o k1 k2 k3 k4 e)

theorem zip_stop {z TI TO i1 i2 l1 l2 : Addr} {k : Nat} {xs : Array Value} {P1 P2 : Nat → Heap → Prop} {a b : Value} {s : Shared} {Q : Fin → Shared → Prop} {E : Value → Shared → Prop} (D : Apart z TI TO i1 i2 l1 l2)
    (X1 : Nx prog w A i1 l1 xs P1) (Z : ZAt P1 P2 z TI TO i1 i2 k .none a b s.heap) (hx : xs[k]? = none)
    (hE : ∀ h' e, (∀ c o, c ≠ z → c ≠ i1 → s.heap.get? c = some o → h'.get? c = some o) → (∃ o, h'.get? e = some o ∧ o.cls = .type "StopIteration") → E (.ref e) { s with heap := h' }) :
    wpAny (model prog w) A (Builtin.«zip.__next__» ⟨[.ref z], []⟩) Q E s := by
  obtain ⟨hz, hTI, hTO, h1, h2⟩ := Z
  obtain ⟨⟨a1, a2, a3, a4, a5, a6⟩, ⟨b1, b2, b3, b4, b5⟩, ⟨c1, c2, c3, c4, c5, c6, c7⟩⟩ := D
  show wpAny _ _ (field (.ref z) 2 >>= _) _ _ _
  refine wpAny_bind (wpAny_field hz rfl (x := .bool false) rfl ?_)
  show wpAny _ _ (field (.ref z) 3 >>= _) _ _ _
  refine wpAny_bind (wpAny_field hz rfl (x := .ref TI) rfl ?_)
  refine wpAny_bind (wpAny_seqItems hTI rfl ?_)
  show wpAny _ _ (Builtin.SmallTypes.ownedTupleIsFree (.ref z) >>= _) _ _ _
  refine wpAny_bind ?_
  unfold Builtin.SmallTypes.ownedTupleIsFree
  refine wpAny_bind (wpAny_field hz rfl (x := .none) rfl (wpAny_pure ?_))
  simp only [if_true]
  refine wpAny_bind (wpAny_rule (wpAny_bind (wpAny_field hz rfl (x := .ref TO) rfl ?_)))
  refine wpAny_bind (wpAny_setField_rec hz (by simp) fun g1 hz1 e1 => wpAny_bind ?_)
  have hz1' : IsZip g1 z TI TO .ellipsis := hz1
  simp only [List.zipIdx_cons, List.zipIdx_nil, List.forIn_cons, List.forIn_nil]
  refine wpAny_bind (wpAny_bind (wpAny_onRaise ?_))
  show wpAny _ _ (Builtin.SmallTypes.nextOf (.ref i1) >>= _) _ _ _
  refine (wpAny_bind (X1.stop k _ _ _ hx (X1.but h1 e1.extBut a3 a5) fun g2 e e2 he => ?_))
  obtain ⟨oe, hoe, hce⟩ := he
  have hz2 : IsZip g2 z TI TO .ellipsis := e2 _ _ a3.symm hz1'
  have hez : e ≠ z := fun q => by subst q; rw [hz2] at hoe; cases hoe; simp at hce
  exact wpAny_setField_rec hz2 (by simp) fun g3 _ e3 => hE g3 e (fun c o k1 k3 q => e3.extBut _ _ k1 (e2 _ _ k3 (e1.extBut _ _ k1 q))) ⟨oe, e3.extBut _ _ hez hoe, hce⟩

/-- a list (true) or a tuple (false) -/
def SrcIs (k : Bool) (h : Heap) (l : Addr) (xs : Array Value) : Prop := match k with | true => h.IsList l xs | false => h.IsTuple l xs
def ItIs (k : Bool) (h : Heap) (i l : Addr) (n : Nat) : Prop := match k with | true => h.IsListIter i l n | false => h.IsTupleIter i l n
def itObj (k : Bool) (l : Addr) : Obj := match k with | true => { cls := .type "list_iterator", data := .fields #[.ref l, .int 0 0] } | false => { cls := .type "tuple_iterator", data := .fields #[.ref l, .int 0 0] }
theorem Nx.src (hh : A.handled = none) {k : Bool} {i l : Addr} (hne : l ≠ i) (xs : Array Value) : Nx prog w A i l xs (fun n h => ItIs k h i l n ∧ SrcIs k h l xs) := by
  cases k
  · exact Nx.tuple hh hne xs
  · exact Nx.list hh hne xs
theorem ItIs.new {k : Bool} {h : Heap} {l : Addr} : ItIs k (h.push (itObj k l)) h.objs.size l 0 := by
  cases k <;> exact ⟨_, Heap.get?_push_size _ rfl, rfl, rfl⟩
theorem ItIs.at {k : Bool} {h h' : Heap} {i l : Addr} {n : Nat} (x : ItIs k h i l n) (e : ∀ o, h.get? i = some o → h'.get? i = some o) : ItIs k h' i l n := by
  cases k
  · exact Heap.IsTupleIter.at x e
  · exact Heap.IsListIter.at x e
theorem SrcIs.at {k : Bool} {h h' : Heap} {l : Addr} {xs : Array Value} (x : SrcIs k h l xs) (e : ∀ o, h.get? l = some o → h'.get? l = some o) : SrcIs k h' l xs := by
  cases k
  · exact Heap.IsTuple.at x e
  · exact Heap.IsList.at x e
theorem SrcIs.lt {k : Bool} {h : Heap} {l : Addr} {xs : Array Value} (x : SrcIs k h l xs) : l < h.objs.size := by
  cases k <;> (obtain ⟨o, e, _⟩ := x; exact Heap.lt_size e)
theorem SrcIs.iter {k : Bool} {l : Addr} {xs : Array Value} {s : Shared} {Q : Value → Shared → Prop} {E : Value → Shared → Prop} (x : SrcIs k s.heap l xs)
    (hQ : Q (.ref s.heap.objs.size) { s with heap := s.heap.push (itObj k l) }) : wpAny (model prog w) A (pyIter (.ref l)) Q E s := by
  cases k
  · exact wpAny_pyIter_tuple x hQ
  · exact wpAny_pyIter_list x hQ

abbrev zG1 (k1 : Bool) (h : Heap) (l1 : Addr) : Heap := h.push (itObj k1 l1)
abbrev zG2 (k1 k2 : Bool) (h : Heap) (l1 l2 : Addr) : Heap := (zG1 k1 h l1).push (itObj k2 l2)
abbrev zG3 (k1 k2 : Bool) (h : Heap) (l1 l2 : Addr) : Heap := (zG2 k1 k2 h l1 l2).push { cls := .type "tuple", data := .seq #[.ref h.objs.size, .ref (zG1 k1 h l1).objs.size] }
abbrev zG4 (k1 k2 : Bool) (h : Heap) (l1 l2 : Addr) : Heap := (zG3 k1 k2 h l1 l2).push { cls := .type "tuple", data := .seq #[.none, .none] }
abbrev zG5 (k1 k2 : Bool) (h : Heap) (l1 l2 : Addr) : Heap := (zG4 k1 k2 h l1 l2).push { cls := .type "zip", data := .fields #[.none, .bool false, .bool false, .ref (zG2 k1 k2 h l1 l2).objs.size, .ref (zG3 k1 k2 h l1 l2).objs.size] }

theorem zip_makes (k1 k2 : Bool) (l1 l2 : Addr) (xs ys : Array Value) :
    Meets (Builtin.«zip.__new__» ⟨[.type "zip", .ref l1, .ref l2], []⟩) (fun _ R s => SrcIs k1 s.heap l1 xs ∧ SrcIs k2 s.heap l2 ys ∧
      R (.ok (.ret (.ref (zG4 k1 k2 s.heap l1 l2).objs.size))) { s with heap := zG5 k1 k2 s.heap l1 l2 }) :=
  .of_wp fun prog w A R s h => by
    obtain ⟨hp, g, d, tk, os⟩ := s; obtain ⟨hl1, hl2, h⟩ := h
    have hsub := sub_zip
    have hL1 : SrcIs k1 (Shared.heap ⟨hp, g, d, tk, os⟩) l1 xs := hl1
    have hL2 : SrcIs k2 (Shared.heap ⟨hp.push (itObj k1 l1), g, d, tk, os⟩) l2 ys := hl2.at fun o e => Heap.get?_push_of_some _ e
    wp_walk using SrcIs.iter hL1, SrcIs.iter hL2
    exact ⟨_, rfl, h⟩

theorem call_zip {k1 k2 : Bool} {l1 l2 : Addr} {xs ys : Array Value} {s : Shared} {Q E : Value → Shared → Prop} (hl1 : SrcIs k1 s.heap l1 xs) (hl2 : SrcIs k2 s.heap l2 ys)
    (h : ∀ h', ZAt (fun n h => ItIs k1 h s.heap.objs.size l1 n ∧ SrcIs k1 h l1 xs) (fun n h => ItIs k2 h (s.heap.objs.size + 1) l2 n ∧ SrcIs k2 h l2 ys)
        (s.heap.objs.size + 4) (s.heap.objs.size + 2) (s.heap.objs.size + 3) s.heap.objs.size (s.heap.objs.size + 1) 0 .none .none .none h' →
      (∀ c o, s.heap.get? c = some o → h'.get? c = some o) → Q (.ref (s.heap.objs.size + 4)) { s with heap := h' }) :
    wpAny (model prog w) A (call (.type "zip") [.ref l1, .ref l2]) Q E s := by
  refine callType_new F.called_zip (by decide) (F.typeCall_zip_2 _ _) (F.newCall_zip_2 _ _) (fun obj => F.args_object_init_3 obj _ _) F.entry_zip_new
    (zip_makes k1 k2 l1 l2 xs ys) ⟨hl1, hl2, ?_⟩
  have z1 : (zG1 k1 s.heap l1).objs.size = s.heap.objs.size + 1 := Heap.size_push ..
  have z2 : (zG2 k1 k2 s.heap l1 l2).objs.size = s.heap.objs.size + 2 := by rw [Heap.size_push, z1]
  have z3 : (zG3 k1 k2 s.heap l1 l2).objs.size = s.heap.objs.size + 3 := by rw [Heap.size_push, z2]
  have z4 : (zG4 k1 k2 s.heap l1 l2).objs.size = s.heap.objs.size + 4 := by rw [Heap.size_push, z3]
  have up3 : ∀ c o, (zG2 k1 k2 s.heap l1 l2).get? c = some o → (zG5 k1 k2 s.heap l1 l2).get? c = some o := fun c o e =>
    Heap.get?_push_of_some _ (Heap.get?_push_of_some _ (Heap.get?_push_of_some _ e))
  have g5 : (zG5 k1 k2 s.heap l1 l2).get? (zG4 k1 k2 s.heap l1 l2).objs.size = some _ := Heap.get?_push_size _ rfl
  have g4 : (zG5 k1 k2 s.heap l1 l2).get? (zG3 k1 k2 s.heap l1 l2).objs.size = some _ := Heap.get?_push_of_some _ (Heap.get?_push_size _ rfl)
  have g3 : (zG5 k1 k2 s.heap l1 l2).get? (zG2 k1 k2 s.heap l1 l2).objs.size = some _ := Heap.get?_push_of_some _ (Heap.get?_push_of_some _ (Heap.get?_push_size _ rfl))
  have i2 : ItIs k2 (zG5 k1 k2 s.heap l1 l2) (zG1 k1 s.heap l1).objs.size l2 0 := ItIs.new.at fun o e => up3 _ o e
  have i1 : ItIs k1 (zG5 k1 k2 s.heap l1 l2) s.heap.objs.size l1 0 := ItIs.new.at fun o e => up3 _ o (Heap.get?_push_of_some _ e)
  have old : ∀ c o, s.heap.get? c = some o → (zG5 k1 k2 s.heap l1 l2).get? c = some o := fun c o e => up3 c o (Heap.get?_push_of_some _ (Heap.get?_push_of_some _ e))
  show _ ∧ _
  rw [z2, z3, z4] at g5
  rw [z1, z2] at g3
  rw [z3] at g4
  rw [z1] at i2
  rw [z4]
  exact ⟨⟨_, g5, rfl⟩, h _ ⟨g5, g3, g4, ⟨i1, hl1.at fun o e => old _ o e⟩, ⟨i2, hl2.at fun o e => old _ o e⟩⟩ old⟩

/-- the walk over a zip of two sources of the same length -/
theorem WalksU.zip {z TI TO i1 i2 l1 l2 : Addr} {xs ys : Array Value} {P1 P2 : Nat → Heap → Prop} (D : Apart z TI TO i1 i2 l1 l2)
    (X1 : Nx prog w A.in1 i1 l1 xs P1) (X2 : Nx prog w A.in1 i2 l2 ys P2) (hxy : xs.size = ys.size) :
    WalksU prog w A z [z, TI, TO, i1, i2, l1, l2] [z, TO, i1, i2] xs.size
      (fun i vals => ∃ x y, xs[i]? = some x ∧ ys[i]? = some y ∧ vals = #[x, y])
      (fun i h => ∃ a b, ZAt P1 P2 z TI TO i1 i2 i .none a b h ∧ ∀ j, i = j + 1 → xs[j]? = some a)
      (fun i T h => (∃ a b, ZAt P1 P2 z TI TO i1 i2 (i + 1) (rawInt T) a b h ∧ xs[i]? = some a) ∧ T ∉ [z, TO, i1, i2]) where
  sub := fun c hc => by simp at hc ⊢; rcases hc with rfl | rfl | rfl | rfl <;> simp
  frame := fun i h h' hst hk => by
    obtain ⟨a, b, ⟨hz, hTI, hTO, h1, h2⟩, hj⟩ := hst
    exact ⟨a, b, ⟨hk z (by simp) _ hz, hk TI (by simp) _ hTI, hk TO (by simp) _ hTO, X1.frame _ _ _ h1 fun c o hc e => hk c (by rcases hc with rfl | rfl <;> simp) o e,
      X2.frame _ _ _ h2 fun c o hc e => hk c (by rcases hc with rfl | rfl <;> simp) o e⟩, hj⟩
  item := fun i s Q E hi hst hQ => by
    obtain ⟨a, b, Z, _⟩ := hst
    have hiy : i < ys.size := hxy ▸ hi
    have hT : s.TypeIs (.ref z) "zip" := ⟨_, Z.1, rfl⟩
    unfold pyNext
    refine wpAny_bind (wpAny_attempt (wpAny_callSpecial?_slot (name := Str.ofString "__next__") hT F.slot_zip_next
      (wpAny_call_entry F.slot_zip_next hT F.entry_zip_next
        (zip_item D X1 X2 Z (Array.getElem?_eq_getElem hi) (Array.getElem?_eq_getElem hiy) fun h' Z' T' hk => wpAny_pure ?_) (F.args_zip_next_1 _))))
    have lt : ∀ {c}, (∃ o, s.heap.get? c = some o) → s.heap.objs.size ≠ c := fun ⟨_, e⟩ => Nat.ne_of_gt (Heap.lt_size e)
    refine hQ s.heap.objs.size #[xs[i], ys[i]] h' s.toks ⟨_, _, Array.getElem?_eq_getElem hi, Array.getElem?_eq_getElem hiy, rfl⟩ ⟨_, T', rfl, _, rfl⟩ ⟨⟨_, _, Z', Array.getElem?_eq_getElem hi⟩, ?_⟩
      fun c o hc e => hk c o (fun x => hc (by simp [x])) (fun x => hc (by simp [x])) (fun x => hc (by simp [x])) (fun x => hc (by simp [x])) e
    have n1 := lt ⟨_, Z.1⟩
    have n2 := lt ⟨_, Z.2.2.1⟩
    have n3 := lt (X1.here _ _ Z.2.2.2.1)
    have n4 := lt (X2.here _ _ Z.2.2.2.2)
    intro hm
    rcases List.mem_cons.mp hm with e | hm
    · exact n1 e
    rcases List.mem_cons.mp hm with e | hm
    · exact n2 e
    rcases List.mem_cons.mp hm with e | hm
    · exact n3 e
    · exact n4 (List.mem_singleton.mp hm)
  go := fun elts k pos i T s Q E hm hQ => by
    obtain ⟨⟨a, b, ⟨hz, hTI, hTO, h1, h2⟩, hja⟩, _⟩ := hm
    obtain ⟨⟨a1, a2, a3, a4, a5, a6⟩, _, _⟩ := D
    refine wpAny_letOwnedTupleGo_zip hz fun h' hz' hs' => hQ h' ⟨a, b, ⟨hz', hs'.extBut _ _ a1 hTI, hs'.extBut _ _ a2 hTO, X1.but h1 hs'.extBut a3 a5, X2.but h2 hs'.extBut a4 a6⟩, fun j hj => by cases hj; exact hja⟩
      fun c o hc e => hs'.extBut _ _ (fun x => hc (by simp [x])) e
  apart := fun i T h hm hT => hm.2 hT
  done := fun s Q E hst hQ => by
    obtain ⟨a, b, Z, _⟩ := hst
    have hT : s.TypeIs (.ref z) "zip" := ⟨_, Z.1, rfl⟩
    unfold pyNext
    refine wpAny_bind (wpAny_attempt (wpAny_callSpecial?_slot (name := Str.ofString "__next__") hT F.slot_zip_next
      (wpAny_call_entry F.slot_zip_next hT F.entry_zip_next (zip_stop D X1 Z (Array.getElem?_eq_none (Nat.le_refl _)) fun h' e hk he => ?_) (F.args_zip_next_1 _))))
    obtain ⟨o, ho, hc⟩ := he
    refine wpAny_bind (wpAny_isInstance (T := "StopIteration") (b := true) ⟨o, ho, hc⟩ isSubtype_stop ?_)
    exact wpAny_pure (hQ _ s.toks fun c o hc e => hk c o (fun x => hc (by simp [x])) (fun x => hc (by simp [x])) e)
  self := fun i s Q E hst hQ => by
    obtain ⟨a, b, Z, _⟩ := hst
    exact wpAny_pyIter_zip Z.1 hQ
end
end

/- part Loop -/
section
/-- the end of a turn: the loop's own objects its, and what is to be carried on -/
def StepEnd (h₀ : Heap) (L : Addr) (s₁ : Shared) (its keep : Led) (R : (Str → Option Value) → Led → Prop) (s₂ : Shared) : Prop :=
  ∃ h' tk m' news', s₂ = { s₁ with heap := h', toks := tk } ∧ Fr h₀ L h' m' ∧ News h₀ L h' (its ++ news') ∧ (∀ p ∈ news', ∀ q ∈ its, p.1 ≠ q.1) ∧ (∀ p ∈ keep, p ∈ news') ∧ R m' news'
def StepPost (h₀ : Heap) (L : Addr) (s₁ : Shared) (its keep : Led) (R : (Str → Option Value) → Led → Prop) (Q : Flow → Shared → Prop) (f : Flow) (s₂ : Shared) : Prop :=
  match f with
  | .ret v => Q (.ret v) s₂
  | .brk => Q .next s₂
  | _ => StepEnd h₀ L s₁ its keep R s₂

/-- the loop's own objects are no data -/
def Idle (its : Led) : Prop := ∀ q ∈ its, ¬ Good q.2

section
variable {prog : Program} {w : World} {A : Around} {E : Value → Shared → Prop} {s : Shared} {env : Env} {h₀ : Heap} {target : PySem.Expr} {body : List Stmt} {Q : Flow → Shared → Prop}

theorem turns_core {I : Addr} {fp wr adr : List Addr} {n : Nat} {P Md : Nat → Value → Heap → Prop} {St : Nat → Heap → Prop} {keep : Led} {m₀ : Str → Option Value} {news : Led} {hp : Heap} {tk0 : Nat}
    (W : KTurns prog w A target I fp wr n P Md St)
    (hobj : ∀ i h, St (i + 1) h → ∃ its : Led, its.map (·.1) = adr ∧ (∀ p ∈ its, h.get? p.1 = some p.2) ∧ Idle its)
    (hadr : ∀ b ∈ adr, b ∈ fp ∧ h₀.get? b = none) (hwr : ∀ b ∈ wr, b ∈ adr)
    (hfp : ∀ b ∈ fp, b ∈ adr ∨ ∃ o, (b, o) ∈ keep) (hL : env.locals ∉ fp) (hnw : ∀ p ∈ news, p.1 ∉ adr) (hst : St 0 hp)
    (F : Fr h₀ env.locals hp m₀) (N : News h₀ env.locals hp news) (hk : ∀ p ∈ keep, p ∈ news)
    (J : Nat → (Str → Option Value) → Led → Prop) (h0 : J 0 m₀ news)
    (step : ∀ i v m₁ news₁ h₁ tk₁ its, i < n → P i v h₁ → J i m₁ news₁ → (∀ p ∈ keep, p ∈ news₁) → Idle its → (∀ p ∈ news₁, ∀ q ∈ its, p.1 ≠ q.1) → Fr h₀ env.locals h₁ m₁ → News h₀ env.locals h₁ (its ++ news₁) →
      wpAny (model prog w) A (assign target env v) (fun _ s₂ => wpAny (model prog w) A (execs body env) (StepPost h₀ env.locals { s with heap := h₁, toks := tk₁ } its keep (J (i + 1)) Q) E s₂) E { s with heap := h₁, toks := tk₁ })
    (fin : ∀ m₁ news₁ h₁ tk₁, J n m₁ news₁ → Fr h₀ env.locals h₁ m₁ → News h₀ env.locals h₁ news₁ → Q .next { s with heap := h₁, toks := tk₁ }) :
    TurnsAt prog w A h₀ env target body Q E (.ref I) { s with heap := hp, toks := tk0 } := by
  have old : ∀ b ∈ wr, h₀.get? b = none := fun b hb => (hadr b (hwr b hb)).2
  refine ⟨I, fp, wr, n, P, Md, St, m₀, news, fun i m l => J i m l ∧ (∀ p ∈ keep, p ∈ l) ∧ ∀ p ∈ l, p.1 ∉ adr, rfl, W, hL, old, fun p hp hb => hnw p hp (hwr _ hb), hst, F, N, ⟨h0, hk, hnw⟩, ?_, ?_⟩
  · rintro i v m₁ news₁ h₁ tk₁ own hin hP ⟨hJ, hk₁, hn₁⟩ _ hown hget hall hst₁ F₁ N₁
    obtain ⟨its, hits, hval, hidle⟩ := hobj i h₁ hst₁
    have inAdr : ∀ q ∈ its, q.1 ∈ adr := fun q hq => hits ▸ List.mem_map.mpr ⟨q, hq, rfl⟩
    have apart : ∀ p ∈ news₁, ∀ q ∈ its, p.1 ≠ q.1 := fun p hp q hq e => hn₁ p hp (e ▸ inAdr q hq)
    have N₂ : News h₀ env.locals h₁ (its ++ news₁) := fun p hp => by
      rcases List.mem_append.mp hp with hp | hp
      · have ha := hadr _ (inAdr p hp)
        exact N₁ _ (List.mem_append_left _ (hall p.1 ha.1 ha.2 p.2 (hval p hp)))
      · exact N₁ _ (List.mem_append_right _ hp)
    have fin' : ∀ s₃, StepEnd h₀ env.locals { s with heap := h₁, toks := tk₁ } its keep (J (i + 1)) s₃ →
        LoopStepU h₀ env.locals wr own (fun m l => J (i + 1) m l ∧ (∀ p ∈ keep, p ∈ l) ∧ ∀ p ∈ l, p.1 ∉ adr) { s with heap := h₁, toks := tk₁ } .next s₃ := by
      rintro s₃ ⟨h', tk, m', news', e, F', N', ho, hk', r⟩
      have ho' : ∀ p ∈ news', p.1 ∉ adr := fun p hp hI => by
        rw [← hits] at hI
        obtain ⟨q, hq, hqe⟩ := List.mem_map.mp hI
        exact ho p hp q hq hqe.symm
      refine ⟨rfl, h', tk, m', news', e, F', ?_, fun p hp hI => ho' p hp (hwr _ hI), r, hk', ho'⟩
      rintro ⟨pa, po⟩ hp
      rcases List.mem_append.mp hp with hp | hp
      · have h2 : h₁.get? pa = some po := hget _ hp
        rcases hfp pa (hown _ hp) with h3 | ⟨o, h3⟩
        · rw [← hits] at h3
          obtain ⟨⟨qa, qo⟩, hq, hqe⟩ := List.mem_map.mp h3
          have hqe' : qa = pa := hqe
          subst hqe'
          have h5 : h₁.get? qa = some qo := hval _ hq
          have h6 : qo = po := Option.some.inj (h5.symm.trans h2)
          subst h6
          exact N' _ (List.mem_append_left _ hq)
        · have h4 : h₁.get? pa = some o := (N₁ _ (List.mem_append_right _ (hk₁ _ h3))).1
          have h6 : o = po := Option.some.inj (h4.symm.trans h2)
          subst h6
          exact N' _ (List.mem_append_right _ (hk' _ h3))
      · exact N' _ (List.mem_append_right _ hp)
    refine wpAny_mono (step i v m₁ news₁ h₁ tk₁ its hin hP hJ hk₁ hidle apart F₁ N₂) (fun _ s₂ h₂ => wpAny_mono h₂ (fun f s₃ p => ?_) fun _ _ e => e) fun _ _ e => e
    cases f with
    | ret v => exact .ret p
    | brk => exact .brk p
    | next => exact .next (fin' _ p)
    | cont => exact .cont (fin' _ p)
  · rintro h' tk m' news' F' N' _ ⟨hJ, _, _⟩
    exact fin m' news' h' tk hJ F' N'

/-- an end where only tuples were made -/
theorem StepEnd.grown {L : Addr} {s₁ : Shared} {its keep news : Led} {R : (Str → Option Value) → Led → Prop} {h' : Heap} {tk : Nat} {m' : Str → Option Value} {all : Led} (F : Fr h₀ L h' m') (N : News h₀ L h' all)
    (G : Grown (its ++ news) all) (hi : Idle its) (apart : ∀ p ∈ news, ∀ q ∈ its, p.1 ≠ q.1) (hk : ∀ p ∈ keep, p ∈ news) (r : ∀ news', Sub all news' → Grown news news' → R m' news') :
    StepEnd h₀ L s₁ its keep R { s₁ with heap := h', toks := tk } := by
  obtain ⟨tl, rfl, ht, hf⟩ := G
  refine ⟨h', tk, m', tl ++ news, rfl, F, fun p hp => N p ?_, ?_, fun p hp => List.mem_append_right _ (hk p hp), r _ (fun p hp g => ?_) ⟨tl, rfl, ht, fun p hp q hq => hf p hp q (List.mem_append_right _ hq)⟩⟩
  · rcases List.mem_append.mp hp with hp | hp
    · exact List.mem_append_right _ (List.mem_append_left _ hp)
    · rcases List.mem_append.mp hp with hp | hp
      · exact List.mem_append_left _ hp
      · exact List.mem_append_right _ (List.mem_append_right _ hp)
  · intro p hp q hq
    rcases List.mem_append.mp hp with hp | hp
    · exact hf p hp q (List.mem_append_left _ hq)
    · exact apart p hp q hq
  · rcases List.mem_append.mp hp with hp | hp
    · exact List.mem_append_left _ hp
    · rcases List.mem_append.mp hp with hp | hp
      · exact absurd g (hi p hp)
      · exact List.mem_append_right _ hp

/-- an end where the newest object is to be carried on too -/
theorem StepEnd.grown1 {L : Addr} {s₁ : Shared} {its keep news : Led} {R : (Str → Option Value) → Led → Prop} {h' : Heap} {tk : Nat} {m' : Str → Option Value} {X : Led} {d : Addr} {o : Obj} (F : Fr h₀ L h' m') (N : News h₀ L h' ((d, o) :: X))
    (hl : AllLt d X) (G : Grown (its ++ news) X) (hc : o.cls = .type "tuple") (hi : Idle its) (apart : ∀ p ∈ news, ∀ q ∈ its, p.1 ≠ q.1) (hk : ∀ p ∈ keep, p ∈ news)
    (r : ∀ news', Sub ((d, o) :: X) news' → (d, o) ∈ news' → Grown news news' → R m' news') :
    StepEnd h₀ L s₁ its keep R { s₁ with heap := h', toks := tk } := by
  obtain ⟨tl, rfl, ht, hf⟩ := G
  have hd : ∀ q ∈ its ++ news, d ≠ q.1 := fun q hq => Nat.ne_of_gt (allLt_mem hl q (List.mem_append_right _ hq))
  have hf' : Fresh ((d, o) :: tl) (its ++ news) := hf.cons hd
  refine ⟨h', tk, m', ((d, o) :: tl) ++ news, rfl, F, fun p hp => N p ?_, ?_, fun p hp => List.mem_append_right _ (hk p hp), r _ (fun p hp g => ?_) (.head _) ⟨(d, o) :: tl, rfl, .cons hc ht, fun p hp q hq => hf' p hp q (List.mem_append_right _ hq)⟩⟩
  · rcases List.mem_append.mp hp with hp | hp
    · exact .tail _ (List.mem_append_right _ (List.mem_append_left _ hp))
    · rcases List.mem_append.mp hp with hp | hp
      · rcases List.mem_cons.mp hp with rfl | hp
        · exact .head _
        · exact .tail _ (List.mem_append_left _ hp)
      · exact .tail _ (List.mem_append_right _ (List.mem_append_right _ hp))
  · intro p hp q hq
    rcases List.mem_append.mp hp with hp | hp
    · exact hf' p hp q (List.mem_append_left _ hq)
    · exact apart p hp q hq
  · rcases List.mem_cons.mp hp with rfl | hp
    · exact .head _
    · rcases List.mem_append.mp hp with hp | hp
      · exact .tail _ (List.mem_append_left _ hp)
      · rcases List.mem_append.mp hp with hp | hp
        · exact absurd g (hi p hp)
        · exact List.mem_append_right _ hp
end

/-- what a list (true) or tuple (false) object is -/
def SrcO (k : Bool) (o : Obj) (xs : Array Value) : Prop := match k with | true => o.cls = .type "list" ∧ ∃ n, o.data = .seq xs n | false => o.cls = .type "tuple" ∧ ∃ n, o.data = .seq xs n
theorem SrcO.is {k : Bool} {o : Obj} {xs : Array Value} {h : Heap} {l : Addr} (x : SrcO k o xs) (e : h.get? l = some o) : SrcIs k h l xs := by
  cases k <;> exact ⟨o, e, x⟩
theorem notGood_cls {o : Obj} {n : String} (h : o.cls = .type n) (hn : n ≠ "tuple") : ¬ Good o := fun g => by
  have := g.1
  rw [h] at this
  exact hn (Value.type.inj this)
theorem notGood_ref {a : Addr} {v : Value} : ¬ Good ({ cls := .type "tuple", data := .seq #[.ref a, v] } : Obj) := fun ⟨_, vs, n, hd, h⟩ => by
  injection hd with h1 h2
  have h3 : [Value.ref a, v] = vs := by simpa using congrArg Array.toList h1
  subst h3
  exact h a rfl
theorem ItIs.obj {k : Bool} {h : Heap} {i l : Addr} {n : Nat} (x : ItIs k h i l n) : ∃ o, h.get? i = some o ∧ ¬ Good o := by
  cases k
  · obtain ⟨o, e, hc, _⟩ := x
    exact ⟨o, e, notGood_cls hc (by decide)⟩
  · obtain ⟨o, e, hc, _⟩ := x
    exact ⟨o, e, notGood_cls hc (by decide)⟩

section
variable {prog : Program} {w : World} {A : Around} {E : Value → Shared → Prop} {s : Shared} {env : Env} {h₀ : Heap} {target : PySem.Expr} {body : List Stmt} {Q : Flow → Shared → Prop}

theorem KTurns.src (hh : A.handled = none) (k : Bool) {I l : Addr} (hne : l ≠ I) (xs : Array Value) :
    KTurns prog w A target I [I, l] [I] xs.size (fun i v _ => xs[i]? = some v) (fun i v h => xs[i]? = some v ∧ (ItIs k h I l (i + 1) ∧ SrcIs k h l xs)) (fun i h => ItIs k h I l i ∧ SrcIs k h l xs) := by
  cases k
  · exact KTurns.ofWalks (Walks.tuple hh I l hne xs) fun i v s Q E st q => letGo_tupleiter st.1 q
  · exact KTurns.ofWalks (Walks.list hh I l hne xs) fun i v s Q E st q => letGo_listiter st.1 q

theorem for_src (k : Bool) {l : Addr} {lo : Obj} {xs : Array Value} {m₀ : Str → Option Value} {news : Led}
    (hh : A.handled = none) (F : Fr h₀ env.locals s.heap m₀) (N : News h₀ env.locals s.heap news) (hm : (l, lo) ∈ news) (hs : SrcO k lo xs)
    (J : Nat → (Str → Option Value) → Led → Prop) (h0 : J 0 m₀ news)
    (step : ∀ (i : Nat) (v : Value) m₁ news₁ h₁ tk₁ its, xs[i]? = some v → J i m₁ news₁ → (l, lo) ∈ news₁ → Idle its → (∀ p ∈ news₁, ∀ q ∈ its, p.1 ≠ q.1) → Fr h₀ env.locals h₁ m₁ → News h₀ env.locals h₁ (its ++ news₁) →
      wpAny (model prog w) A (assign target env v) (fun _ s₂ => wpAny (model prog w) A (execs body env) (StepPost h₀ env.locals { s with heap := h₁, toks := tk₁ } its [(l, lo)] (J (i + 1)) Q) E s₂) E { s with heap := h₁, toks := tk₁ })
    (fin : ∀ m₁ news₁ h₁ tk₁, J xs.size m₁ news₁ → Fr h₀ env.locals h₁ m₁ → News h₀ env.locals h₁ news₁ → Q .next { s with heap := h₁, toks := tk₁ }) :
    wpAny (model prog w) A (pyIter (.ref l)) (fun it s₂ => TurnsAt prog w A h₀ env target body Q E it s₂) E s := by
  have hl : SrcIs k s.heap l xs := hs.is (N _ hm).1
  have hlt := hl.lt
  have hne : l ≠ s.heap.objs.size := Nat.ne_of_lt hlt
  refine hl.iter ?_
  refine turns_core (adr := [s.heap.objs.size]) (keep := [(l, lo)]) (tk0 := s.toks) (KTurns.src hh k hne xs) (fun i h st => ?_) (fun b hb => ?_) (fun b hb => hb) (fun b hb => ?_) ?_ (fun p hp hI => ?_)
    ⟨ItIs.new, hl.at fun o e => Heap.get?_push_of_some _ e⟩ (F.push _) (fun p hp => ⟨Heap.get?_push_of_some _ (N p hp).1, (N p hp).2⟩) (fun p hp => by rw [List.mem_singleton.mp hp]; exact hm) J h0
    (fun i v m₁ news₁ h₁ tk₁ its _ hP hJ hk hi ha F₁ N₁ => step i v m₁ news₁ h₁ tk₁ its hP hJ (hk _ (.head _)) hi ha F₁ N₁) fin
  · obtain ⟨o, e, hg⟩ := st.1.obj
    exact ⟨[(s.heap.objs.size, o)], rfl, fun p hp => by rw [List.mem_singleton.mp hp]; exact e, fun p hp => by rw [List.mem_singleton.mp hp]; exact hg⟩
  · rw [List.mem_singleton.mp hb]
    exact ⟨.head _, next_is_new F⟩
  · rcases List.mem_cons.mp hb with e | hb
    · exact .inl (by rw [e]; exact .head _)
    · exact .inr ⟨lo, by rw [List.mem_singleton.mp hb]; exact .head _⟩
  · intro hI
    rcases List.mem_cons.mp hI with e | hI
    · exact absurd F.ns.lt (e ▸ Nat.lt_irrefl _)
    · exact (N _ hm).2.1 (List.mem_singleton.mp hI).symm
  · exact absurd (Heap.lt_size (N p hp).1) ((List.mem_singleton.mp hI) ▸ Nat.lt_irrefl _)

theorem for_zip {k1 k2 : Bool} {elts : List PySem.Expr} {kk : Nat} {pos : Pos} {l1 l2 : Addr} {lo1 lo2 : Obj} {xs ys : Array Value} {m₀ : Str → Option Value} {news : Led}
    (hh : A.handled = none) (F : Fr h₀ env.locals s.heap m₀) (N : News h₀ env.locals s.heap news) (hm1 : (l1, lo1) ∈ news) (hs1 : SrcO k1 lo1 xs) (hm2 : (l2, lo2) ∈ news) (hs2 : SrcO k2 lo2 ys)
    (hxy : xs.size = ys.size) (hrx : ∀ (i : Nat) (v : Value), xs[i]? = some v → ∃ a : Addr, v = Value.ref a)
    (J : Nat → (Str → Option Value) → Led → Prop) (h0 : J 0 m₀ news)
    (step : ∀ (i : Nat) (T : Addr) (x y : Value) m₁ news₁ h₁ tk₁ its, xs[i]? = some x → ys[i]? = some y → IsTup h₁ T #[x, y] → J i m₁ news₁ → Idle its → (∀ p ∈ news₁, ∀ q ∈ its, p.1 ≠ q.1) → (l1, lo1) ∈ news₁ → (l2, lo2) ∈ news₁ → Fr h₀ env.locals h₁ m₁ → News h₀ env.locals h₁ (its ++ news₁) →
      wpAny (model prog w) A (assign (.Tuple elts kk pos) env (.ref T)) (fun _ s₂ => wpAny (model prog w) A (execs body env) (StepPost h₀ env.locals { s with heap := h₁, toks := tk₁ } its [(l1, lo1), (l2, lo2)] (J (i + 1)) Q) E s₂) E { s with heap := h₁, toks := tk₁ })
    (fin : ∀ m₁ news₁ h₁ tk₁, J xs.size m₁ news₁ → Fr h₀ env.locals h₁ m₁ → News h₀ env.locals h₁ news₁ → Q .next { s with heap := h₁, toks := tk₁ }) :
    wpAny (model prog w) A (call (.type "zip") [.ref l1, .ref l2]) (fun xv s₁ => wpAny (model prog w) A (pyIter xv) (fun it s₂ => TurnsAt prog w A h₀ env (.Tuple elts kk pos) body Q E it s₂) E s₁) E s := by
  have hl1 : SrcIs k1 s.heap l1 xs := hs1.is (N _ hm1).1
  have hl2 : SrcIs k2 s.heap l2 ys := hs2.is (N _ hm2).1
  have D := apart_new hl1.lt hl2.lt
  have hh1 : A.in1.handled = none := hh
  refine call_zip hl1 hl2 fun h' Z hk => ?_
  refine wpAny_pyIter_zip Z.1 ?_
  have new : ∀ j : Nat, h₀.get? (s.heap.objs.size + j) = none := fun j => by
    cases e : h₀.get? (s.heap.objs.size + j) with
    | none => rfl
    | some o => exact absurd (Heap.lt_size (F.keep _ _ e)) (Nat.not_lt.mpr (Nat.le_add_right _ _))
  have off : ∀ a : Nat, a < s.heap.objs.size → a ∉ ([s.heap.objs.size + 4, s.heap.objs.size + 2, s.heap.objs.size + 3, s.heap.objs.size, s.heap.objs.size + 1] : List Nat) := fun a ha hI => by
    simp only [List.mem_cons, List.not_mem_nil, or_false] at hI
    omega
  refine turns_core (adr := [s.heap.objs.size + 4, s.heap.objs.size + 2, s.heap.objs.size + 3, s.heap.objs.size, s.heap.objs.size + 1]) (keep := [(l1, lo1), (l2, lo2)]) (tk0 := s.toks)
    (KTurns.ofWalksU (WalksU.zip D (Nx.src hh1 (k := k1) D.d3.2.2.2.1 xs) (Nx.src hh1 (k := k2) D.d3.2.2.2.2.2.2 ys) hxy)) (fun i h st => ?_) (fun b hb => ?_) (fun b hb => ?_) (fun b hb => ?_) ?_ (fun p hp hI => ?_)
    ⟨_, _, Z, fun j hj => nomatch hj⟩ (F.keeps hk) (N.grown hk) (fun p hp => ?_) J h0
    (fun i v m₁ news₁ h₁ tk₁ its _ hP hJ hkp hi ha F₁ N₁ => ?_) fin
  · obtain ⟨a, b, ⟨hz, hTI, hTO, h1, h2⟩, hj⟩ := st
    obtain ⟨o1, e1, g1⟩ := h1.1.obj
    obtain ⟨o2, e2, g2⟩ := h2.1.obj
    obtain ⟨r, hr⟩ := hrx _ _ (hj i rfl)
    subst hr
    have q1 : ∃ o : Obj, h.get? (s.heap.objs.size + 4) = some o ∧ ¬ Good o := ⟨_, hz, notGood_cls (n := "zip") rfl (by decide)⟩
    have q2 : ∃ o : Obj, h.get? (s.heap.objs.size + 2) = some o ∧ ¬ Good o := ⟨_, hTI, notGood_ref⟩
    have q3 : ∃ o : Obj, h.get? (s.heap.objs.size + 3) = some o ∧ ¬ Good o := ⟨_, hTO, notGood_ref⟩
    obtain ⟨oz, ez, gz⟩ := q1
    obtain ⟨oi, ei, gi⟩ := q2
    obtain ⟨oo, eo, go⟩ := q3
    refine ⟨[(s.heap.objs.size + 4, oz), (s.heap.objs.size + 2, oi), (s.heap.objs.size + 3, oo), (s.heap.objs.size, o1), (s.heap.objs.size + 1, o2)], rfl, fun p hp => ?_, fun p hp => ?_⟩
    · simp only [List.mem_cons, List.not_mem_nil, or_false] at hp
      rcases hp with rfl | rfl | rfl | rfl | rfl <;> assumption
    · simp only [List.mem_cons, List.not_mem_nil, or_false] at hp
      rcases hp with rfl | rfl | rfl | rfl | rfl <;> assumption
  · have hj : ∃ j : Nat, b = s.heap.objs.size + j := by
      simp only [List.mem_cons, List.not_mem_nil, or_false] at hb
      rcases hb with rfl | rfl | rfl | rfl | rfl
      · exact ⟨4, rfl⟩
      · exact ⟨2, rfl⟩
      · exact ⟨3, rfl⟩
      · exact ⟨0, rfl⟩
      · exact ⟨1, rfl⟩
    obtain ⟨j, rfl⟩ := hj
    refine ⟨?_, new j⟩
    simp only [List.mem_cons, List.not_mem_nil, or_false] at hb ⊢
    rcases hb with h | h | h | h | h <;> simp [h]
  · simp only [List.mem_cons, List.not_mem_nil, or_false] at hb ⊢
    rcases hb with h | h | h | h <;> simp [h]
  · simp only [List.mem_cons, List.not_mem_nil, or_false] at hb ⊢
    rcases hb with rfl | rfl | rfl | rfl | rfl | rfl | rfl
    · exact .inl (by simp)
    · exact .inl (by simp)
    · exact .inl (by simp)
    · exact .inl (by simp)
    · exact .inl (by simp)
    · exact .inr ⟨lo1, .inl rfl⟩
    · exact .inr ⟨lo2, .inr rfl⟩
  · intro hI
    rcases List.mem_append.mp (show env.locals ∈ [s.heap.objs.size + 4, s.heap.objs.size + 2, s.heap.objs.size + 3, s.heap.objs.size, s.heap.objs.size + 1] ++ [l1, l2] from hI) with hI | hI
    · exact off _ F.ns.lt hI
    · rcases List.mem_cons.mp hI with e | hI
      · exact (N _ hm1).2.1 e.symm
      · exact (N _ hm2).2.1 (List.mem_singleton.mp hI).symm
  · exact off _ (Heap.lt_size (N p hp).1) hI
  · rcases List.mem_cons.mp hp with rfl | hp
    · exact hm1
    · rw [List.mem_singleton.mp hp]; exact hm2
  · obtain ⟨T, vals, rfl, ⟨x, y, hx, hy, rfl⟩, hT⟩ := hP
    exact step i T x y m₁ news₁ h₁ tk₁ its hx hy hT hJ hi ha (hkp _ (.head _)) (hkp _ (.tail _ (.head _))) F₁ N₁
end
end

/- part TupSl -/
section
theorem adjust_rev (n : Nat) : Builtin.Slice.sliceAdjust none none (-1) (n : Int) = ((n : Int) - 1, -1) := by
  unfold Builtin.Slice.sliceAdjust
  simp
theorem places_rev (n : Nat) : Builtin.Slice.slicePlaces ((n : Int) - 1) (-1) (-1) = n := by
  unfold Builtin.Slice.slicePlaces
  simp only [show ¬ ((-1 : Int) > 0) by decide, if_false, Int.ediv_one, show (- -1 : Int) = 1 by decide]
  split <;> omega
theorem fm_congr {α β : Type} {f g : α → Option β} : ∀ l : List α, (∀ x ∈ l, f x = g x) → l.filterMap f = l.filterMap g
  | [], _ => rfl
  | a :: l, h => by
    rw [List.filterMap_cons, List.filterMap_cons, h a (.head _), fm_congr l fun x hx => h x (.tail _ hx)]
section
variable {prog : Program} {w : World} {A : Around} {E : Value → Shared → Prop} {s : Shared}
theorem sliceApplied_rev {sl : Addr} {n : Nat} {u : Tok} {Q : Int × Int × Nat → Shared → Prop} (hs : s.heap.IsSliceOf sl .none .none (.int (-1) u)) (h : Q ((n : Int) - 1, -1, n) s) :
    wpAny (model prog w) A (Builtin.Slice.sliceApplied (.ref sl) (pure (n : Int))) Q E s := by
  obtain ⟨os, hos, hcs, hds⟩ := id hs
  unfold Builtin.Slice.sliceApplied Builtin.Slice.sliceFields
  refine wpAny_bind (wpAny_bind (wpAny_field hos hds (x := .none) rfl (wpAny_bind (wpAny_field hos hds (x := .none) rfl (wpAny_bind (wpAny_field hos hds (x := .int (-1) u) rfl (wpAny_pure ?_)))))))
  refine wpAny_bind (slicePart_int ?_)
  show wpAny _ _ (if ((-1 : Int) == 0) = true then _ else _) _ _ s
  rw [if_neg (by decide)]
  refine wpAny_bind (slicePart_none (wpAny_bind (slicePart_none (wpAny_bind (wpAny_pure ?_)))))
  show wpAny _ _ (match Builtin.Slice.sliceAdjust none none (-1) (n : Int) with | (lo, hi) => pure (lo, (-1 : Int), Builtin.Slice.slicePlaces lo hi (-1))) _ _ s
  rw [adjust_rev n]
  show wpAny _ _ (pure ((n : Int) - 1, (-1 : Int), Builtin.Slice.slicePlaces ((n : Int) - 1) (-1) (-1))) _ _ s
  rw [places_rev n]
  exact wpAny_pure h

theorem pick_rev (xs : Array Value) : ((List.range xs.size).filterMap fun (k : Nat) => xs[(((xs.size : Int) - 1) + (k : Int) * (-1)).toNat]?).toArray = xs.toList.reverse.toArray := by
  congr 1
  have e : (List.range xs.size).filterMap (fun (k : Nat) => xs[(((xs.size : Int) - 1) + (k : Int) * (-1)).toNat]?) = ((List.range xs.size).map fun k => xs.size - 1 - k).filterMap (xs[·]?) := by
    rw [List.filterMap_map]
    refine fm_congr _ fun k hk => ?_
    have := List.mem_range.mp hk
    show _ = xs[xs.size - 1 - k]?
    rw [show (((xs.size : Int) - 1) + (k : Int) * (-1)).toNat = xs.size - 1 - k by omega]
  rw [e, krv_range, List.filterMap_reverse, krv_all]

theorem getItem_tuple_rev {t sl : Addr} {items : Array Value} {u : Tok} {Q : Value → Shared → Prop} (ht : IsTup s.heap t items) (hs : s.heap.IsSliceOf sl .none .none (.int (-1) u))
    (h : Q (.ref s.heap.objs.size) { s with heap := s.heap.push { cls := .type "tuple", data := .seq items.toList.reverse.toArray } })
    (hsz : items.size ≤ sizeLine) : wpAny (model prog w) A (getItem (.ref t) (.ref sl)) Q E s := by
  have hok : sizeOk (.seq items.toList.reverse.toArray) := by
    show items.toList.reverse.toArray.size ≤ sizeLine
    rw [List.size_toArray, List.length_reverse, Array.length_toList]
    exact hsz
  obtain ⟨os, hos, hcs, hds⟩ := id hs
  have hTs : s.TypeIs (.ref sl) "slice" := ⟨os, hos, hcs⟩
  unfold getItem
  try with_reducible refine wpAny_holding ?_
  first | refine wpAny_bind (wpAny_pure ?_) | skip
  refine wpAny_bind (wpAny_sequenceKey ht.typeIs (by decide) ?_)
  refine wpAny_bind (wpAny_callSpecial?_slot (name := Str.ofString "__getitem__") ht.typeIs slot_tuple_getitem
    (wpAny_call_entry slot_tuple_getitem ht.typeIs entry_tuple_getitem ?_ (args_tuple_getitem _ _)))
  show wpAny _ _ (Builtin.Tuple.tupleItemsOf (.ref t) >>= _) _ _ s
  refine wpAny_bind (tupleItemsOf_ ht ?_)
  refine wpAny_bind (wpAny_typeOf hTs ?_)
  rw [if_pos (by decide)]
  refine wpAny_bind (sliceApplied_rev hs ?_)
  show wpAny _ _ (if ((items.size : Int) - 1 == 0 && (-1 : Int) == 1 && items.size == items.size) = true then _ else _) _ _ s
  rw [if_neg (by simp), pick_rev items]
  first
    | exact wpAny_bind (m := Builtin.Tuple.tupleExact _) (wpAny_newObj_type (wpAny_pure ⟨_, rfl, wpAny_pure h⟩) hok)
    | exact wpAny_bind (m := Builtin.Tuple.tupleExact _) (wpAny_newObj_type (wpAny_bind (wpAny_pure (wpAny_pure ⟨_, rfl, wpAny_pure h⟩))) hok)
    | exact wpAny_bind (wpAny_bind (m := Builtin.Tuple.tupleExact _) (wpAny_newObj_type (wpAny_pure (wpAny_pure ⟨_, rfl, wpAny_pure h⟩)) hok))
    | exact wpAny_bind (wpAny_bind (m := Builtin.Tuple.tupleExact _) (wpAny_newObj_type (wpAny_pure ⟨_, rfl, wpAny_pure h⟩) hok))
end
section
variable {prog : Program} {w : World} {A : Around} {E : Value → Shared → Prop} {s : Shared} {h₀ : Heap} {L : Addr} {m : Str → Option Value} {news : Led}
theorem slice_tuple_rev {value slice : PySem.Expr} {t : Addr} {items : Array Value} {u : Tok} {ops : List Value} {Q : Value → Shared → Prop}
    (F : Fr h₀ L s.heap m) (N : News h₀ L s.heap news) (ht : IsTup s.heap t items)
    (h : ∀ D h', Fr h₀ L h' m → News h₀ L h' ((D, { cls := .type "tuple", data := .seq items.toList.reverse.toArray }) :: news) → (∀ p ∈ news, p.1 < D) → Q (.ref D) { s with heap := h' })
    (hs : subscripted slice false (.ref t) (.ref s.heap.objs.size) = operate ops (getItem (.ref t) (.ref s.heap.objs.size)))
    (hg : ∀ r, letTemporaryGo value (.ref t) r = pure ())
    (hsz : items.size ≤ sizeLine) :
    wpAny (model prog w) A (subscriptTail value slice (.ref t) (.ref s.heap.objs.size)) Q E { s with heap := s.heap.push { cls := .type "slice", data := .fields #[.none, .none, .int (-1) u] } } := by
  have ht' : IsTup (s.heap.push { cls := .type "slice", data := .fields #[.none, .none, .int (-1) u] }) t items := ht.keeps fun _ _ e => Heap.get?_push_of_some _ e
  refine subscriptTail_ops (s := { s with heap := s.heap.push { cls := .type "slice", data := .fields #[.none, .none, .int (-1) u] } }) ht'.typeIs slot_tuple_getitem.lookup
    (getItem_tuple_rev ht' (Heap.IsSliceOf.new ..) ?_ hsz) hs hg
  have N1 := News.push (F.push { cls := .type "slice", data := .fields #[.none, .none, .int (-1) u] }) (N.grown fun _ _ e => Heap.get?_push_of_some _ e) { cls := .type "tuple", data := .seq items.toList.reverse.toArray }
  rw [Heap.size_push] at N1
  show Q (.ref (s.heap.push _).objs.size) _
  rw [Heap.size_push]
  exact h _ _ ((F.push _).push _) N1 fun p hp => Nat.lt_succ_of_lt (Heap.lt_size (N p hp).1)

theorem slice_tuple_lit {value slice : PySem.Expr} {t : Addr} {items zs : List Value} {a : Nat} {u : Tok} {Q : Value → Shared → Prop}
    (F : Fr h₀ L s.heap m) (N : News h₀ L s.heap news) (ht : IsTup s.heap t items.toArray) (h1 : 1 ≤ a) (ha : a ≤ items.length) (e : items.drop a = zs)
    (h : ∀ D h', Fr h₀ L h' m → News h₀ L h' ((D, { cls := .type "tuple", data := .seq zs.toArray }) :: news) → (∀ p ∈ news, p.1 < D) → Q (.ref D) { s with heap := h' })
    (hs : subscripted slice false (.ref t) (.ref s.heap.objs.size) = operate [.ref s.heap.objs.size, .ref t] (getItem (.ref t) (.ref s.heap.objs.size)) := by with_unfolding_all rfl)
    (hg : ∀ r, letTemporaryGo value (.ref t) r = pure () := by intro _; with_unfolding_all rfl)
    (hsz : items.length ≤ sizeLine) :
    wpAny (model prog w) A (subscriptTail value slice (.ref t) (.ref s.heap.objs.size)) Q E { s with heap := s.heap.push { cls := .type "slice", data := .fields #[.int a u, .none, .none] } } := by
  subst e
  refine slice_tuple_from F N ht h1 (by simpa using ha) (fun h' F' N' => h _ h' F' (by simpa using N') fun p hp => Nat.lt_succ_of_lt (Heap.lt_size (N p hp).1)) hs hg (by simpa using hsz)
theorem slice_tuple_rev' {value slice : PySem.Expr} {t : Addr} {o : Obj} {items : List Value} {u : Tok} {ops : List Value} {Q : Value → Shared → Prop}
    (F : Fr h₀ L s.heap m) (N : News h₀ L s.heap news) (hm : (t, o) ∈ news) (ho : o.cls = .type "tuple" ∧ ∃ n, o.data = .seq items.toArray n)
    (h : ∀ D h', Fr h₀ L h' m → News h₀ L h' ((D, { cls := .type "tuple", data := .seq items.reverse.toArray }) :: news) → (∀ p ∈ news, p.1 < D) → Q (.ref D) { s with heap := h' })
    (hs : subscripted slice false (.ref t) (.ref s.heap.objs.size) = operate ops (getItem (.ref t) (.ref s.heap.objs.size)))
    (hg : ∀ r, letTemporaryGo value (.ref t) r = pure ())
    (hsz : items.length ≤ sizeLine) :
    wpAny (model prog w) A (subscriptTail value slice (.ref t) (.ref s.heap.objs.size)) Q E { s with heap := s.heap.push { cls := .type "slice", data := .fields #[.none, .none, .int (-1) u] } } :=
  slice_tuple_rev F N (items := items.toArray) ⟨o, (N _ hm).1, ho.1, ho.2⟩ (fun D h' F' N' => h D h' F' (by simpa using N')) hs hg (by simpa using hsz)
end
end

/- part C2 -/
section
theorem primeC2 : (PySem.Challenge.rw_pq0615_01, Mine.hd.heap_39) = (PySem.Challenge.rw_pq0615_01, Mine.hd.heap_39) := by
  k_fill
  rfl

theorem wordsC20 : True := by
  k_with_none
  w_top off
  k_with "k_mem" => ((refine' mem_of ?_; ktr_member))
  k_with "Sub" => (first | exact Sub.refl | (refine Sub.cons ?_; walk_at "Sub") | (refine Sub.app ?_; walk_at "Sub") | fail "Sub")
  k_with "SubL" => (first | exact sub_refl | (refine sub_cons ?_; walk_at "SubL") | (refine sub_app ?_; walk_at "SubL") | fail "SubL")
  k_with "Lt" => (first | assumption | exact allLt_of (by assumption) | ((try simp only [AllLt, and_true]); assumption) | fail "Lt")
  k_with "Grown" => (first | exact Grown.refl | assumption | (refine Grown.cons ?_ rfl ?_; rotate_left; walk_at "Lt"; walk_at "Grown") | (refine Grown.app ?_ (by assumption) (by assumption); walk_at "Grown") | fail "Grown")
  k_with "Rel" => (first | assumption | exact CondIn.mono (by assumption) (by walk_at "Sub") | exact TrIn.mono (by assumption) (by walk_at "Sub") | exact RefIn.mono (by assumption) (by walk_at "Sub") | exact NumIn.mono (by assumption) (by walk_at "Sub") | exact SubjIn.mono (by assumption) (by walk_at "Sub") | exact ThingIn.mono (by assumption) (by walk_at "Sub") | walk_at "RelCon")
  k_with "RelCon" => (first | (apply TrIn.mk; k_mem) | (apply CondIn.eq; k_mem; walk_at "Rel"; walk_at "Rel") | (apply CondIn.le; k_mem; walk_at "Rel"; walk_at "Rel") | (apply CondIn.ge; k_mem; walk_at "Rel"; walk_at "Rel") | (apply CondIn.and; k_mem; walk_at "Rel"; walk_at "Rel") | (apply CondIn.or; k_mem; walk_at "Rel"; walk_at "Rel") | (apply CondIn.not; k_mem; walk_at "Rel") | fail "RelCon")
  k_with "MyItem" => ((
   (with_reducible show wpAny _ _ (subscriptTail _ _ (Value.ref _) (Value.int _ _)) _ _ _)
   k_here
   k_dflt (first
     | (refine' item_tupleT ?mtA ?mtB ?mtC ?mtD ?mtE ?_; (case mtA => (refine' News.isTup ?n9 ?m9; (case n9 => k_asm); (case m9 => k_mem))); (case mtB => decide); (case mtC => decide); (case mtD => rfl); (case mtE => rfl); k_whole)
     | (refine' item_listT ?mlA ?mlB ?mlC ?mlD ?_; (case mlA => (refine' News.isList ?n9 ?m9; (case n9 => k_asm); (case m9 => k_mem))); (case mlB => first | decide | omega); (case mlC => first | decide | omega); (case mlD => first | rfl | exact tr_b (by assumption) | exact tr_w (by assumption)); k_whole)
     | fail "MyItem")))
  k_with "subscriptTail Name Constant ref int" => (walk_at "MyItem")
  k_with "subscriptTail Name" => (walk_at "MyItem")
  k_with "subscriptTail Subscript" => (walk_at "MyItem")
  k_with "ite" => ((k_closed; first | (refine ite_pos (by decide +kernel) ?_) | (refine ite_neg (by decide +kernel) ?_)))
  k_with "ite" => (first | with_reducible refine if_t ?_ | with_reducible refine if_f ?_)
  k_with "subscriptTail Subscript" => ((
   (with_reducible show wpAny _ _ (subscriptTail _ (Expr.Slice (some _) none none _) (Value.str _ _) _) _ _ _)
   (with_reducible rename Fr _ _ _ _ => F')
   (with_reducible rename News _ _ _ _ => N')
   (refine slice_strN_sn (hsz := ?hsz) (s := ⟨_, _, _, _, _⟩) F' N' ?_)
   (case hsz => size_fits)
   intro _ _ _ _ _))
  k_with "units_room" => (ktr_units)
  k_with "compareOp Eq ref ref" => ((
   (with_reducible show wpAny _ _ (compareOp CmpOp.Eq (Value.ref _) (Value.ref _)) _ _ _)
   k_here
   k_dflt (refine' eq_ref_num ?erA ?erB ?erC ?erD ?_; (case erA => k_asm); (case erB => walk_at "Rel"); (case erC => walk_at "Rel"); (case erD => ktr_units); k_whole)))
  k_with "call type:int" => ((
   (with_reducible show wpAny _ _ (call (Value.type "int") [Value.str (PySem.Txt.slice (wname _) _ _) _]) _ _ _)
   refine KIN.call_text (wname_int (by assumption)) (wname_slen _) ?_))
  k_with "call type:int" => ((
   (with_reducible show wpAny _ _ (call (Value.type "int") [Value.str (PySem.Txt.slice (cname _) _ _) _]) _ _ _)
   refine KIN.call_text (cname_int (by assumption)) (cname_slen _) ?_))
  k_with "MyFor" => ((k_here; (rename Fr _ _ _ _ => lF'); (with_unfolding_all refine' For_turns lF' ?_; k_whole)))
  k_with "exec For Tuple Call cons nil" => (walk_at "MyFor")
  k_with "exec For Tuple Subscript cons nil" => (walk_at "MyFor")
  k_with "exec For Name Name cons nil" => (walk_at "MyFor")
  k_with "exec For Name Call cons nil" => (walk_at "MyFor")
  trivial
/-- values and what they are, one by one -/
def AllIn {α : Type} (R : Value → α → Prop) (vs : List Value) (xs : List α) : Prop := vs.length = xs.length ∧ ∀ (i : Nat) v x, vs[i]? = some v → xs[i]? = some x → R v x
theorem AllIn.imp {α : Type} {R R' : Value → α → Prop} {vs : List Value} {xs : List α} (h : AllIn R vs xs) (k : ∀ v x, R v x → R' v x) : AllIn R' vs xs := ⟨h.1, fun i v x a b => k _ _ (h.2 i v x a b)⟩

theorem AllIn.at {α : Type} {R : Value → α → Prop} {vs : List Value} {xs : List α} {i : Nat} {v : Value} (h : AllIn R vs xs) (hv : vs.toArray[i]? = some v) : ∃ x, xs[i]? = some x ∧ R v x := by
  have hv' : vs[i]? = some v := by simpa using hv
  have hlt : i < xs.length := h.1 ▸ (List.getElem?_eq_some_iff.mp hv').1
  exact ⟨xs[i], List.getElem?_eq_getElem hlt, h.2 i v _ hv' (List.getElem?_eq_getElem hlt)⟩
theorem AllIn.rev {α : Type} {R : Value → α → Prop} {vs : List Value} {xs : List α} (h : AllIn R vs xs) : AllIn R vs.reverse xs.reverse := by
  refine ⟨by simp [h.1], fun i v x hv hx => ?_⟩
  have hi : i < vs.length := by simpa using (List.getElem?_eq_some_iff.mp hv).1
  have hi' : i < xs.length := h.1 ▸ hi
  rw [List.getElem?_reverse hi] at hv
  rw [List.getElem?_reverse hi', ← h.1] at hx
  exact h.2 _ v x hv hx
theorem map_has3 {m : Str → Option Value} {x z t : Str} {v r q : Value} (h : m x = some v) (k : m z = some r) (k2 : m t = some q) : m = fun y => if y = x then some v else if y = z then some r else if y = t then some q else m y := by
  funext y
  by_cases e : y = x
  · simp [e, h]
  · by_cases e' : y = z
    · subst e'; simp [e, k]
    · by_cases e2 : y = t
      · subst e2; simp [e, e', k2]
      · simp [e, e', e2]
theorem map_has2 {m : Str → Option Value} {x z : Str} {v r : Value} (h : m x = some v) (k : m z = some r) : m = fun y => if y = x then some v else if y = z then some r else m y := by
  funext y
  by_cases e : y = x
  · simp [e, h]
  · by_cases e' : y = z
    · subst e'; simp [e, k]
    · simp [e, e']
theorem keep2 {a b : Addr × Obj} {l : Led} (h1 : a ∈ l) (h2 : b ∈ l) : ∀ p ∈ [a, b], p ∈ l := fun p hp => by
  rcases List.mem_cons.mp hp with rfl | hp
  · exact h1
  · rw [List.mem_singleton.mp hp]; exact h2
theorem keep1 {a : Addr × Obj} {l : Led} (h1 : a ∈ l) : ∀ p ∈ [a], p ∈ l := fun p hp => by rw [List.mem_singleton.mp hp]; exact h1
theorem map_has {m : Str → Option Value} {x : Str} {v : Value} (h : m x = some v) : m = fun y => if y = x then some v else m y := by
  funext y
  by_cases e : y = x
  · simp [e, h]
  · simp [e]
theorem zip_snoc {α β : Type} {xs : List α} {ys : List β} {i : Nat} {x : α} {y : β} (hx : xs[i]? = some x) (hy : ys[i]? = some y) : (xs.zip ys).take (i + 1) = (xs.zip ys).take i ++ [(x, y)] := by
  have hz : (xs.zip ys)[i]? = some (x, y) := by simp [List.getElem?_zip_eq_some, hx, hy]
  rw [List.take_add_one, hz]; rfl

def FoundIn (news : Led) (v : Value) : Option Cond → Prop
  | none => v = .none
  | some c => CondIn news v c
theorem FoundIn.mono {news news' : Led} {v : Value} {o : Option Cond} (h : FoundIn news v o) (s : Sub news news') : FoundIn news' v o := by
  cases o with
  | none => exact h
  | some c => exact CondIn.mono h s

def stepRow (found : Option Cond) (s : Subj) (t : Thing) : Option Cond := match objCond s t with
  | none => found
  | some c => some (match found with | none => c | some f => .and f c)
theorem foldRow_snoc : ∀ (ps : List (Subj × Thing)) (found : Option Cond) (s : Subj) (t : Thing), foldRow found (ps ++ [(s, t)]) = stepRow (foldRow found ps) s t
  | [], found, s, t => by simp only [List.nil_append, foldRow, stepRow]; try (cases objCond s t <;> rfl)
  | (a, b) :: r, found, s, t => by simp only [List.cons_append, foldRow]; exact foldRow_snoc r _ s t

theorem objPre {news : Led} {v u : Value} {S : Subj} {t : Thing} (h : SubjIn news v S) (k : ThingIn news u t) : ∃ v' u', [v, u] = [v', u'] ∧ SubjIn news v' S ∧ ThingIn news u' t := ⟨_, _, rfl, h, k⟩
section
variable {prog : Program} {w : World} {p : Program} {loose : List Str} {mean : ExcName → Option Value} {mg mb : Str → Option Value}
theorem obj_use {S : Subj} {t : Thing} {v u : Value}
   {dp un : Nat} {gd : Option (List Code)} {cn : Str} {cs : Scope} {a : Addr} {ccd : Value} {cl : List (Str × Addr)} {outer : List Env} {A₀ : Around} {base h₀ : Heap} {L : Addr} {m : Str → Option Value} {news : Led} {s : Shared}
    {Q E : Value → Shared → Prop}
    (B : Below A₀ base outer h₀) (F : Fr h₀ L s.heap m) (X : (Mine.hd.heap_39 w.params).In h₀) (N : News h₀ L s.heap news) (T : Top p loose mean mg mb h₀) (hk : cs.kind = .function) (hS : SubjIn news v S) (ht : ThingIn news u t) (hf : Fits S t = true) (hd : dp + 3 < recursionLimit) (hu : un + 8 * 3 + 400 < cLine)
    (ret : (∀ tl h' tk', objCond S t = none → Fr h₀ L h' m → News h₀ L h' (tl ++ news) → AllTup tl → Fresh tl news → Q .none { s with heap := h', toks := tk' }) ∧
     (∀ c r tl h' tk', objCond S t = some c → Fr h₀ L h' m → News h₀ L h' (tl ++ news) → AllTup tl → Fresh tl news → CondIn (tl ++ news) (.ref r) c → Q (.ref r) { s with heap := h', toks := tk' })) :
    wpAny (model prog w) (ktrTop dp un gd cn cs L a ccd cl outer) (call (.ref 49) [v, u]) Q E s :=
  does_use (objcond_does S t hf) B F X N T hk (objPre hS ht) hd hu fun r news' h' tk' F' N' ⟨⟨tl, e, ha, hfr⟩, C⟩ => by
    subst e
    cases ho : objCond S t with
    | none =>
      simp only [ho] at C
      subst C
      exact ret.1 tl h' tk' ho F' N' ha hfr
    | some c =>
      simp only [ho] at C
      obtain ⟨b, rfl⟩ := C.ref
      exact ret.2 c b tl h' tk' ho F' N' ha hfr C
end


theorem wordsC21 : True := by
  k_with "call ref" => ((
   (with_reducible show wpAny _ _ (call (Value.ref 49) _) _ _ _)
   k_here
   k_dflt (refine' obj_use ?k1 ?k2 ?k3 ?k4 ?k5 ?kK ?kS ?kT ?kf ?kd ?ku ?_; (case k4 => k_asm); (case kS => walk_at "Rel"); (case kT => walk_at "Rel"); (case kf => assumption); (case k1 => k_asm); (case k2 => k_asm); (case k3 => k_asm); (case k5 => k_asm); (case kK => first | exact rfl | assumption); (case kd => ktr_room); (case ku => ktr_units))
   refine And.intro ?_ ?_ <;> (intros; (try dsimp only); (try k_fold))))
  k_with "call ref" => ((
   (with_reducible show wpAny _ _ (call (Value.ref 21) _) _ _ _)
   k_here
   k_dflt (refine' cond_use always_does ?k1 ?k2 ?k3 ?k4 ?k5 ?kK ?kR ?kd ?ku ?_; (case k4 => k_asm); (case kR => exact rfl); (case k1 => k_asm); (case k2 => k_asm); (case k3 => k_asm); (case k5 => k_asm); (case kK => first | exact rfl | assumption); (case kd => ktr_room); (case ku => ktr_units))
   intro r9 tl9 h9 tk9 F9 N9 A9 W9 C9
   (try dsimp only)
   (try k_fold)))
  trivial
theorem rowcond_does {prog w p loose mean mg mb} (ss : List Subj) (ts : List Thing) (hlen : ss.length = ts.length) (hf : FitsRow ss ts) :
    MyDoes prog w p loose mean mg mb 56 4 (fun news vs => ∃ sa so ta to svs tvs, vs = [.ref sa, .ref ta] ∧ (sa, so) ∈ news ∧ SrcO false so svs.toArray ∧ (ta, to) ∈ news ∧ SrcO false to tvs.toArray ∧ AllIn (SubjIn news) svs ss ∧ AllIn (ThingIn news) tvs ts)
      (fun news _ r news' => CondOut (rowCond (ss.zip ts)) news r news') := by
  unfold MyDoes Does
  intro dp un gd cn cs a ccd cl outer A₀ base h₀ L m news s vs Q E B F X N TT hk hR hd hu hret
  obtain ⟨sa, so, ta, to, svs, tvs, rfl, hsa, hso, hta, hto, hS, hT⟩ := hR
  refine wpAny_call ?_
  k_dflt ktr_enter
  k_steps
  (rename Fr _ _ _ _ => lF')
  (rename News _ _ _ _ => lN')
  refine Mine.for_zip (k1 := false) (k2 := false) rfl lF' lN' hsa hso hta hto (by simp [hS.1, hT.1, hlen]) (fun i v hv => ?_)
    (fun i m l => Grown news l ∧ ∃ (fv : Value) (u : Str → Option Value), m = (fun y => if y = Str.ofString "found" then some fv else u y) ∧ FoundIn l fv (foldRow none ((ss.zip ts).take i)) ∧ AllIn (SubjIn l) svs ss ∧ AllIn (ThingIn l) tvs ts) ?_ ?_ ?_
  · obtain ⟨S9, _, hS9⟩ := hS.at hv
    cases hS9 <;> exact ⟨_, rfl⟩
  · exact ⟨.refl, _, _, rfl, rfl, hS, hT⟩
  · clear lF' lN'
    rintro i T9 x9 y9 m₁ news₁ h₁ tk₁ its hx9 hy9 hT9 ⟨hg1, fv, u, rfl, hfv, hS1, hT1⟩ hidle hap hm1 hm2 F' N'
    obtain ⟨S, eS, hSx⟩ := hS1.at hx9
    obtain ⟨t, et, hty⟩ := hT1.at hy9
    have hzs := zip_snoc eS et
    have hfit : Fits S t = true := hf (S, t) (List.mem_of_getElem? (by simp [List.getElem?_zip_eq_some, eS, et] : (ss.zip ts)[i]? = some (S, t)))
    have hfold : foldRow none ((ss.zip ts).take (i + 1)) = stepRow (foldRow none ((ss.zip ts).take i)) S t := by rw [hzs, foldRow_snoc]
    clear hx9 hy9 hzs
    generalize foldRow none ((ss.zip ts).take i) = fo at hfv hfold
    cases fo with
    | none =>
      have hfv' : fv = .none := hfv
      subst hfv'
      k_steps
      all_goals (refine StepEnd.grown (by k_asm) (by k_asm) (by walk_at "Grown") hidle hap (keep2 hm1 hm2) (fun news' hs hk => ⟨hg1.trans hk, _, _, map_has (by rfl), ?_, hS1.imp fun v x h => h.mono (Sub.of hk.sub), hT1.imp fun v x h => h.mono (Sub.of hk.sub)⟩))
      all_goals (rw [hfold]; simp only [stepRow, *]; first | rfl | (refine CondIn.mono ?_ hs; assumption))
    | some c =>
      obtain ⟨fa, rfl⟩ := CondIn.ref hfv
      have hfv' : CondIn news₁ (.ref fa) c := hfv
      clear hfv
      k_steps
      all_goals (refine StepEnd.grown (by k_asm) (by k_asm) (by walk_at "Grown") hidle hap (keep2 hm1 hm2) (fun news' hs hk => ⟨hg1.trans hk, _, _, map_has (by rfl), ?_, hS1.imp fun v x h => h.mono (Sub.of hk.sub), hT1.imp fun v x h => h.mono (Sub.of hk.sub)⟩))
      all_goals (rw [hfold]; simp only [stepRow, *]; first | exact hfv'.mono (Sub.of hk.sub) | (refine CondIn.mono ?_ hs; walk_at "Rel"))
  · rintro m₁ news₁ h₁ tk₁ ⟨hg1, fv, u, rfl, hfv, hS1, hT1⟩ F' N'
    have hall : (ss.zip ts).take svs.toArray.size = ss.zip ts := by
      apply List.take_of_length_le
      simp [List.length_zip, hS.1]
      omega
    rw [hall] at hfv
    have hrow : rowCond (ss.zip ts) = (foldRow none (ss.zip ts)).getD .always := rfl
    generalize foldRow none (ss.zip ts) = fo at hfv hrow
    cases fo with
    | none =>
      have hfv' : fv = .none := hfv
      subst hfv'
      k_steps
      all_goals (refine hret _ _ _ _ (by k_asm) (by k_asm) ⟨by walk_at "Grown", ?_⟩; rw [hrow]; assumption)
    | some c =>
      obtain ⟨fa, rfl⟩ := CondIn.ref hfv
      k_steps
      all_goals (refine hret _ _ _ _ (by k_asm) (by k_asm) ⟨by walk_at "Grown", ?_⟩; rw [hrow]; exact hfv)
end

/- part C3 -/
section
theorem primeC3 : (PySem.Challenge.rw_pq0615_01, Mine.hd.heap_39) = (PySem.Challenge.rw_pq0615_01, Mine.hd.heap_39) := by
  k_fill
  rfl

theorem wordsC30 : True := by
  k_with_none
  w_top off
  k_with "k_mem" => ((refine' mem_of ?_; ktr_member))
  k_with "Sub" => (first | exact Sub.refl | (refine Sub.cons ?_; walk_at "Sub") | (refine Sub.app ?_; walk_at "Sub") | fail "Sub")
  k_with "SubL" => (first | exact sub_refl | (refine sub_cons ?_; walk_at "SubL") | (refine sub_app ?_; walk_at "SubL") | fail "SubL")
  k_with "Lt" => (first | assumption | exact allLt_of (by assumption) | ((try simp only [AllLt, and_true]); assumption) | fail "Lt")
  k_with "Grown" => (first | exact Grown.refl | assumption | (refine Grown.cons ?_ rfl ?_; rotate_left; walk_at "Lt"; walk_at "Grown") | (refine Grown.app ?_ (by assumption) (by assumption); walk_at "Grown") | fail "Grown")
  k_with "Rel" => (first | assumption | exact CondIn.mono (by assumption) (by walk_at "Sub") | exact TrIn.mono (by assumption) (by walk_at "Sub") | exact RefIn.mono (by assumption) (by walk_at "Sub") | exact NumIn.mono (by assumption) (by walk_at "Sub") | exact SubjIn.mono (by assumption) (by walk_at "Sub") | exact ThingIn.mono (by assumption) (by walk_at "Sub") | walk_at "RelCon")
  k_with "RelCon" => (first | (apply TrIn.mk; k_mem) | (apply CondIn.eq; k_mem; walk_at "Rel"; walk_at "Rel") | (apply CondIn.le; k_mem; walk_at "Rel"; walk_at "Rel") | (apply CondIn.ge; k_mem; walk_at "Rel"; walk_at "Rel") | (apply CondIn.and; k_mem; walk_at "Rel"; walk_at "Rel") | (apply CondIn.or; k_mem; walk_at "Rel"; walk_at "Rel") | (apply CondIn.not; k_mem; walk_at "Rel") | fail "RelCon")
  k_with "MyItem" => ((
   (with_reducible show wpAny _ _ (subscriptTail _ _ (Value.ref _) (Value.int _ _)) _ _ _)
   k_here
   k_dflt (first
     | (refine' item_tupleT ?mtA ?mtB ?mtC ?mtD ?mtE ?_; (case mtA => (refine' News.isTup ?n9 ?m9; (case n9 => k_asm); (case m9 => k_mem))); (case mtB => decide); (case mtC => decide); (case mtD => rfl); (case mtE => rfl); k_whole)
     | (refine' item_listT ?mlA ?mlB ?mlC ?mlD ?_; (case mlA => (refine' News.isList ?n9 ?m9; (case n9 => k_asm); (case m9 => k_mem))); (case mlB => first | decide | omega); (case mlC => first | decide | omega); (case mlD => first | rfl | exact tr_b (by assumption) | exact tr_w (by assumption)); k_whole)
     | fail "MyItem")))
  k_with "subscriptTail Name Constant ref int" => (walk_at "MyItem")
  k_with "subscriptTail Name" => (walk_at "MyItem")
  k_with "subscriptTail Subscript" => (walk_at "MyItem")
  k_with "ite" => ((k_closed; first | (refine ite_pos (by decide +kernel) ?_) | (refine ite_neg (by decide +kernel) ?_)))
  k_with "ite" => (first | with_reducible refine if_t ?_ | with_reducible refine if_f ?_)
  k_with "subscriptTail Subscript" => ((
   (with_reducible show wpAny _ _ (subscriptTail _ (Expr.Slice (some _) none none _) (Value.str _ _) _) _ _ _)
   (with_reducible rename Fr _ _ _ _ => F')
   (with_reducible rename News _ _ _ _ => N')
   (refine slice_strN_sn (hsz := ?hsz) (s := ⟨_, _, _, _, _⟩) F' N' ?_)
   (case hsz => size_fits)
   intro _ _ _ _ _))
  k_with "units_room" => (ktr_units)
  k_with "compareOp Eq ref ref" => ((
   (with_reducible show wpAny _ _ (compareOp CmpOp.Eq (Value.ref _) (Value.ref _)) _ _ _)
   k_here
   k_dflt (refine' eq_ref_num ?erA ?erB ?erC ?erD ?_; (case erA => k_asm); (case erB => walk_at "Rel"); (case erC => walk_at "Rel"); (case erD => ktr_units); k_whole)))
  k_with "call type:int" => ((
   (with_reducible show wpAny _ _ (call (Value.type "int") [Value.str (PySem.Txt.slice (wname _) _ _) _]) _ _ _)
   refine KIN.call_text (wname_int (by assumption)) (wname_slen _) ?_))
  k_with "call type:int" => ((
   (with_reducible show wpAny _ _ (call (Value.type "int") [Value.str (PySem.Txt.slice (cname _) _ _) _]) _ _ _)
   refine KIN.call_text (cname_int (by assumption)) (cname_slen _) ?_))
  k_with "MyFor" => ((k_here; (rename Fr _ _ _ _ => lF'); (with_unfolding_all refine' For_turns lF' ?_; k_whole)))
  k_with "exec For Tuple Call cons nil" => (walk_at "MyFor")
  k_with "exec For Tuple Subscript cons nil" => (walk_at "MyFor")
  k_with "exec For Name Name cons nil" => (walk_at "MyFor")
  k_with "exec For Name Call cons nil" => (walk_at "MyFor")
  trivial
def RowIn (news : Led) (v : Value) (ts : List Thing) : Prop := ∃ ta to tvs, v = .ref ta ∧ (ta, to) ∈ news ∧ SrcO false to (List.toArray tvs) ∧ AllIn (ThingIn news) tvs ts
theorem RowIn.mono {news news' : Led} {v : Value} {ts : List Thing} (h : RowIn news v ts) (s : ∀ p ∈ news, p ∈ news') : RowIn news' v ts := by
  obtain ⟨ta, to, tvs, rfl, hm, hs, ha⟩ := h
  exact ⟨ta, to, tvs, rfl, s _ hm, hs, ha.imp fun v x k => k.mono (Sub.of s)⟩

def rowsStep (ss : List Subj) (o : Option Cond) (r : List Thing) : Option Cond := some (match o with | none => rowCond (ss.zip r) | some f => .or f (rowCond (ss.zip r)))
theorem rowsFold_or {ss : List Subj} : ∀ (q : List (List Thing)) (f : Cond), q.foldl (rowsStep ss) (some f) = some (q.foldl (fun f r => .or f (rowCond (ss.zip r))) f)
  | [], f => rfl
  | r :: q, f => by simp only [List.foldl_cons]; exact rowsFold_or q _
theorem rowsFold {ss : List Subj} {rows : List (List Thing)} (h : rows ≠ []) : rows.foldl (rowsStep ss) none = some (rowsCond ss rows) := by
  match rows, h with
  | [r], _ => rfl
  | r :: q :: t, _ => simp only [List.foldl_cons, rowsCond]; exact rowsFold_or t _
theorem foldl_take_snoc {α β : Type} (f : β → α → β) (b : β) {xs : List α} {i : Nat} {x : α} (h : xs[i]? = some x) : (xs.take (i + 1)).foldl f b = f ((xs.take i).foldl f b) x := by
  rw [List.take_add_one, h]; simp

theorem rowPre {news : Led} {sa : Addr} {so : Obj} {v : Value} {svs : List Value} {ss : List Subj} {ts : List Thing} (hm : (sa, so) ∈ news) (hs : SrcO false so svs.toArray) (hS : AllIn (SubjIn news) svs ss) (hr : RowIn news v ts) :
    ∃ sa' so' ta to svs' tvs, [Value.ref sa, v] = [.ref sa', .ref ta] ∧ (sa', so') ∈ news ∧ SrcO false so' (List.toArray svs') ∧ (ta, to) ∈ news ∧ SrcO false to (List.toArray tvs) ∧ AllIn (SubjIn news) svs' ss ∧ AllIn (ThingIn news) tvs ts := by
  obtain ⟨ta, to, tvs, rfl, h1, h2, h3⟩ := hr
  exact ⟨sa, so, ta, to, svs, tvs, rfl, hm, hs, h1, h2, hS, h3⟩


theorem wordsC31 : True := by
  k_with "Rel2" => (first | assumption | exact AllIn.imp (by assumption) (fun v x h => SubjIn.mono h (by walk_at "Sub")) | exact RowIn.mono (by assumption) (by walk_at "SubL"))
  k_with "call ref" => ((
   (with_reducible show wpAny _ _ (call (Value.ref 56) _) _ _ _)
   k_here
   k_dflt (refine' cond_use (rowcond_does _ _ ?kl ?kf) ?k1 ?k2 ?k3 ?k4 ?k5 ?kK ?kR ?kd ?ku ?_; (case k4 => k_asm); (case kR => (refine' rowPre ?x1 ?x2 ?x3 ?x4; (case x1 => k_mem); (case x2 => assumption); (case x3 => walk_at "Rel2"); (case x4 => walk_at "Rel2"))); (case kl => assumption); (case kf => assumption); (case k1 => k_asm); (case k2 => k_asm); (case k3 => k_asm); (case k5 => k_asm); (case kK => first | exact rfl | assumption); (case kd => ktr_room); (case ku => ktr_units))
   intro r9 tl9 h9 tk9 F9 N9 A9 W9 C9
   (try dsimp only)
   (try k_fold)))
  trivial
theorem rowscond_does {prog w p loose mean mg mb} (ss : List Subj) (rows : List (List Thing)) (hne : rows ≠ []) (hlen : ∀ r ∈ rows, ss.length = r.length) (hf : ∀ r ∈ rows, FitsRow ss r) :
    MyDoes prog w p loose mean mg mb 63 5 (fun news vs => ∃ sa so ra ro svs rvs, vs = [.ref sa, .ref ra] ∧ (sa, so) ∈ news ∧ SrcO false so (List.toArray svs) ∧ (ra, ro) ∈ news ∧ SrcO false ro (List.toArray rvs) ∧ AllIn (SubjIn news) svs ss ∧ AllIn (RowIn news) rvs rows)
      (fun news _ r news' => CondOut (rowsCond ss rows) news r news') := by
  unfold MyDoes Does
  intro dp un gd cn cs a ccd cl outer A₀ base h₀ L m news s vs Q E B F X N TT hk hR hd hu hret
  obtain ⟨sa, so, ra, ro, svs, rvs, rfl, hsa, hso, hra, hro, hS, hRw⟩ := hR
  refine wpAny_call ?_
  k_dflt ktr_enter
  k_steps
  (rename Fr _ _ _ _ => lF')
  (rename News _ _ _ _ => lN')
  refine Mine.for_src false rfl lF' lN' hra hro
    (fun i m l => Grown news l ∧ ∃ (fv : Value) (u : Str → Option Value), m = (fun y => if y = Str.ofString "found" then some fv else if y = Str.ofString "subjects" then some (.ref sa) else u y) ∧ FoundIn l fv ((rows.take i).foldl (rowsStep ss) none)) ?_ ?_ ?_
  · exact ⟨.refl, _, _, map_has2 (by rfl) (by rfl), rfl⟩
  · clear lF' lN'
    rintro i v9 m₁ news₁ h₁ tk₁ its hv9 ⟨hg1, fv, u, rfl, hfv⟩ hm1 hidle hap F' N'
    have hsa1 := hg1.sub _ hsa
    have hS1 := hS.imp fun v x h => h.mono (Sub.of hg1.sub)
    obtain ⟨ts, et, hrow⟩ := hRw.at hv9
    have hrow1 := hrow.mono hg1.sub
    have hl9 := hlen ts (List.mem_of_getElem? et)
    have hf9 := hf ts (List.mem_of_getElem? et)
    have hfold := foldl_take_snoc (rowsStep ss) none et
    clear hv9 hrow
    generalize (rows.take i).foldl (rowsStep ss) none = fo at hfv hfold
    cases fo with
    | none =>
      have hfv' : fv = .none := hfv
      subst hfv'
      k_steps
      all_goals (refine StepEnd.grown (by k_asm) (by k_asm) (by walk_at "Grown") hidle hap (keep1 hm1) (fun news' hs hk => ⟨hg1.trans hk, _, _, map_has2 (by rfl) (by rfl), ?_⟩))
      all_goals (rw [hfold]; simp only [rowsStep]; refine CondIn.mono ?_ hs; walk_at "Rel")
    | some c =>
      obtain ⟨fa, rfl⟩ := CondIn.ref hfv
      have hfv' : CondIn news₁ (.ref fa) c := hfv
      clear hfv
      k_steps
      all_goals (refine StepEnd.grown (by k_asm) (by k_asm) (by walk_at "Grown") hidle hap (keep1 hm1) (fun news' hs hk => ⟨hg1.trans hk, _, _, map_has2 (by rfl) (by rfl), ?_⟩))
      all_goals (rw [hfold]; simp only [rowsStep]; refine CondIn.mono ?_ hs; walk_at "Rel")
  · rintro m₁ news₁ h₁ tk₁ ⟨hg1, fv, u, rfl, hfv⟩ F' N'
    have hall : rows.take rvs.toArray.size = rows := by
      apply List.take_of_length_le
      simp [hRw.1]
    rw [hall, rowsFold hne] at hfv
    obtain ⟨fa, rfl⟩ := CondIn.ref hfv
    k_steps
    all_goals (refine hret _ _ _ _ (by k_asm) (by k_asm) ⟨by walk_at "Grown", ?_⟩; exact hfv)
end

/- part C4 -/
section
theorem primeC4 : (PySem.Challenge.rw_pq0615_01, Mine.hd.heap_39) = (PySem.Challenge.rw_pq0615_01, Mine.hd.heap_39) := by
  k_fill
  rfl


theorem wordsC40 : True := by
  k_with_none
  w_top off
  k_with "k_mem" => ((refine' mem_of ?_; ktr_member))
  k_with "Sub" => (first | exact Sub.refl | (refine Sub.cons ?_; walk_at "Sub") | (refine Sub.app ?_; walk_at "Sub") | fail "Sub")
  k_with "SubL" => (first | exact sub_refl | (refine sub_cons ?_; walk_at "SubL") | (refine sub_app ?_; walk_at "SubL") | fail "SubL")
  k_with "Lt" => (first | assumption | exact allLt_of (by assumption) | ((try simp only [AllLt, and_true]); assumption) | fail "Lt")
  k_with "Grown" => (first | exact Grown.refl | assumption | (refine Grown.cons ?_ rfl ?_; rotate_left; walk_at "Lt"; walk_at "Grown") | (refine Grown.app ?_ (by assumption) (by assumption); walk_at "Grown") | fail "Grown")
  k_with "Rel" => (first | assumption | exact CondIn.mono (by assumption) (by walk_at "Sub") | exact TrIn.mono (by assumption) (by walk_at "Sub") | exact RefIn.mono (by assumption) (by walk_at "Sub") | exact NumIn.mono (by assumption) (by walk_at "Sub") | exact SubjIn.mono (by assumption) (by walk_at "Sub") | exact ThingIn.mono (by assumption) (by walk_at "Sub") | walk_at "RelCon")
  k_with "RelCon" => (first | (apply TrIn.mk; k_mem) | (apply CondIn.eq; k_mem; walk_at "Rel"; walk_at "Rel") | (apply CondIn.le; k_mem; walk_at "Rel"; walk_at "Rel") | (apply CondIn.ge; k_mem; walk_at "Rel"; walk_at "Rel") | (apply CondIn.and; k_mem; walk_at "Rel"; walk_at "Rel") | (apply CondIn.or; k_mem; walk_at "Rel"; walk_at "Rel") | (apply CondIn.not; k_mem; walk_at "Rel") | fail "RelCon")
  k_with "MyItem" => ((
   (with_reducible show wpAny _ _ (subscriptTail _ _ (Value.ref _) (Value.int _ _)) _ _ _)
   k_here
   k_dflt (first
     | (refine' item_tupleT ?mtA ?mtB ?mtC ?mtD ?mtE ?_; (case mtA => (refine' News.isTup ?n9 ?m9; (case n9 => k_asm); (case m9 => k_mem))); (case mtB => decide); (case mtC => decide); (case mtD => rfl); (case mtE => rfl); k_whole)
     | (refine' item_listT ?mlA ?mlB ?mlC ?mlD ?_; (case mlA => (refine' News.isList ?n9 ?m9; (case n9 => k_asm); (case m9 => k_mem))); (case mlB => first | decide | omega); (case mlC => first | decide | omega); (case mlD => first | rfl | exact tr_b (by assumption) | exact tr_w (by assumption)); k_whole)
     | fail "MyItem")))
  k_with "subscriptTail Name Constant ref int" => (walk_at "MyItem")
  k_with "subscriptTail Name" => (walk_at "MyItem")
  k_with "subscriptTail Subscript" => (walk_at "MyItem")
  k_with "ite" => ((k_closed; first | (refine ite_pos (by decide +kernel) ?_) | (refine ite_neg (by decide +kernel) ?_)))
  k_with "ite" => (first | with_reducible refine if_t ?_ | with_reducible refine if_f ?_)
  k_with "subscriptTail Subscript" => ((
   (with_reducible show wpAny _ _ (subscriptTail _ (Expr.Slice (some _) none none _) (Value.str _ _) _) _ _ _)
   (with_reducible rename Fr _ _ _ _ => F')
   (with_reducible rename News _ _ _ _ => N')
   (refine slice_strN_sn (hsz := ?hsz) (s := ⟨_, _, _, _, _⟩) F' N' ?_)
   (case hsz => size_fits)
   intro _ _ _ _ _))
  k_with "units_room" => (ktr_units)
  k_with "compareOp Eq ref ref" => ((
   (with_reducible show wpAny _ _ (compareOp CmpOp.Eq (Value.ref _) (Value.ref _)) _ _ _)
   k_here
   k_dflt (refine' eq_ref_num ?erA ?erB ?erC ?erD ?_; (case erA => k_asm); (case erB => walk_at "Rel"); (case erC => walk_at "Rel"); (case erD => ktr_units); k_whole)))
  k_with "call type:int" => ((
   (with_reducible show wpAny _ _ (call (Value.type "int") [Value.str (PySem.Txt.slice (wname _) _ _) _]) _ _ _)
   refine KIN.call_text (wname_int (by assumption)) (wname_slen _) ?_))
  k_with "call type:int" => ((
   (with_reducible show wpAny _ _ (call (Value.type "int") [Value.str (PySem.Txt.slice (cname _) _ _) _]) _ _ _)
   refine KIN.call_text (cname_int (by assumption)) (cname_slen _) ?_))
  k_with "MyFor" => ((k_here; (rename Fr _ _ _ _ => lF'); (with_unfolding_all refine' For_turns lF' ?_; k_whole)))
  k_with "exec For Tuple Call cons nil" => (walk_at "MyFor")
  k_with "exec For Tuple Subscript cons nil" => (walk_at "MyFor")
  k_with "exec For Name Name cons nil" => (walk_at "MyFor")
  k_with "exec For Name Call cons nil" => (walk_at "MyFor")
  k_with "subscriptTail Name Slice ref ref" => ((
   (with_reducible show wpAny _ _ (subscriptTail _ (PySem.Expr.Slice (some _) none none _) (Value.ref _) (Value.ref _)) _ _ _)
   k_here
   k_dflt (refine' slice_tuple_lit (a := 1) ?sfF ?sfN ?sfT (by decide) ?sfA ?sfE ?_ ?sfS ?sfG ?sfZ; (case sfF => k_asm); (case sfN => k_asm); (case sfT => (refine' News.isTup ?n9 ?m9; (case n9 => k_asm); (case m9 => k_mem))); (case sfA => exact Nat.le_of_ble_eq_true rfl); (case sfE => exact rfl); (case sfS => with_unfolding_all rfl); (case sfG => (intro _; with_unfolding_all rfl)); (case sfZ => exact Nat.le_of_ble_eq_true rfl))
   intro D' h' F' N' l1
   (try k_lt l1)))
  k_with "subscriptTail Name Slice ref ref" => ((
   (with_reducible show wpAny _ _ (subscriptTail _ (PySem.Expr.Slice none none (some _) _) (Value.ref _) (Value.ref _)) _ _ _)
   k_here
   k_dflt (refine' slice_tuple_rev' ?sfF ?sfN ?sfM ?sfO ?_ ?sfS ?sfG ?sfZ; (case sfF => k_asm); (case sfN => k_asm); (case sfM => k_mem); (case sfO => assumption); (case sfS => with_unfolding_all rfl); (case sfG => (intro _; with_unfolding_all rfl)); (case sfZ => assumption))
   intro D' h' F' N' l1
   (try k_lt l1)))
  trivial
def MarksIn (news : Led) (vs : List Value) : Prop := ∀ v ∈ vs, ∃ (a : Addr) (t : Tok) (i : Int) (t' : Tok), v = .ref a ∧ (a, ({ cls := .type "tuple", data := .seq #[.str (Str.ofString "mark") t, .int i t'] } : Obj)) ∈ news
theorem MarksIn.mono {news news' : Led} {vs : List Value} (h : MarksIn news vs) (s : ∀ p ∈ news, p ∈ news') : MarksIn news' vs := fun v hv => by
  obtain ⟨a, t, i, t', rfl, hm⟩ := h v hv
  exact ⟨a, t, i, t', rfl, s _ hm⟩
def TupIn (news : Led) (v : Value) (vs : List Value) : Prop := ∃ a o, v = .ref a ∧ (a, o) ∈ news ∧ SrcO false o vs.toArray
theorem TupIn.mono {news news' : Led} {v : Value} {vs : List Value} (h : TupIn news v vs) (s : ∀ p ∈ news, p ∈ news') : TupIn news' v vs := by
  obtain ⟨a, o, rfl, hm, hs⟩ := h
  exact ⟨a, o, rfl, s _ hm, hs⟩

mutual
inductive StmsIn (news : Led) : Value → Stms → Prop
  | flat {v : Value} {vs : List Value} : TupIn news v vs → MarksIn news vs → StmsIn news v (.flat vs)
  | iff {a b : Addr} {c : Cond} {vs : List Value} {rest : Stms} : (a, ({ cls := .type "tuple", data := .seq #[.ref b] } : Obj)) ∈ news → IfIn news (.ref b) c vs rest → StmsIn news (.ref a) (.iff c vs rest)
inductive IfIn (news : Led) : Value → Cond → List Value → Stms → Prop
  | mk {b : Addr} {t : Tok} {cv sv rv : Value} {c : Cond} {vs : List Value} {rest : Stms} : (b, ({ cls := .type "tuple", data := .seq #[.str (Str.ofString "if") t, cv, sv, rv] } : Obj)) ∈ news →
     CondIn news cv c → TupIn news sv vs → MarksIn news vs → StmsIn news rv rest → IfIn news (.ref b) c vs rest
end
theorem IfIn.mono_of {news news' : Led} {v : Value} {c : Cond} {vs : List Value} {rest : Stms} (h : IfIn news v c vs rest) (s : ∀ p ∈ news, p ∈ news') (k : ∀ rv, StmsIn news rv rest → StmsIn news' rv rest) : IfIn news' v c vs rest := by
  cases h with | mk h1 h2 h3 h4 h5 => exact .mk (s _ h1) (h2.mono (Sub.of s)) (h3.mono s) (h4.mono s) (k _ h5)
theorem StmsIn.mono {news news' : Led} (s : ∀ p ∈ news, p ∈ news') : ∀ {x : Stms} {v : Value}, StmsIn news v x → StmsIn news' v x
  | .flat vs, v, h => by
    cases h with | flat h1 h2 => exact .flat (h1.mono s) (h2.mono s)
  | .iff c vs rest, v, h => by
    cases h with | iff h1 h2 => exact .iff (s _ h1) (h2.mono_of s fun rv k => StmsIn.mono s k)
theorem IfIn.mono {news news' : Led} {v : Value} {c : Cond} {vs : List Value} {rest : Stms} (h : IfIn news v c vs rest) (s : ∀ p ∈ news, p ∈ news') : IfIn news' v c vs rest := h.mono_of s fun _ k => StmsIn.mono s k

def WhenIn (news : Led) (v : Value) (x : When) : Prop := ∃ (a ra : Addr) (ro : Obj) (rvs : List Value) (sv : Value), v = .ref a ∧ (a, ({ cls := .type "tuple", data := .seq #[.ref ra, sv] } : Obj)) ∈ news ∧ (ra, ro) ∈ news ∧ SrcO false ro rvs.toArray ∧ AllIn (RowIn news) rvs x.rows ∧ TupIn news sv x.vs ∧ MarksIn news x.vs
theorem WhenIn.mono {news news' : Led} {v : Value} {x : When} (h : WhenIn news v x) (s : ∀ p ∈ news, p ∈ news') : WhenIn news' v x := by
  obtain ⟨a, ra, ro, rvs, sv, rfl, h1, h2, h3, h4, h5, h6⟩ := h
  exact ⟨a, ra, ro, rvs, sv, rfl, s _ h1, s _ h2, h3, h4.imp fun v x k => k.mono s, h5.mono s, h6.mono s⟩

theorem tupOf {h₀ h : Heap} {L a : Addr} {news : Led} {o : Obj} {xs : Array Value} (N : News h₀ L h news) (hm : (a, o) ∈ news) (ho : SrcO false o xs) : IsTup h a xs := ⟨o, (N _ hm).1, ho.1, ho.2⟩

theorem wordsC41 : True := by
  k_with "call type:tuple" => ((
   (with_reducible show wpAny _ _ (call (Value.type "tuple") [Value.ref _]) _ _ _)
   k_here
   k_dflt (refine' call_tuple_tup ?ctA ?_; (case ctA => (refine' tupOf ?ctN ?ctM ?ctO; (case ctN => k_asm); (case ctM => k_mem); (case ctO => assumption))))))
  trivial
theorem rowsPre {news : Led} {sa ra : Addr} {so ro : Obj} {svs rvs : List Value} {ss : List Subj} {rows : List (List Thing)} (h1 : (sa, so) ∈ news) (h2 : SrcO false so (List.toArray svs)) (h3 : (ra, ro) ∈ news) (h4 : SrcO false ro (List.toArray rvs)) (h5 : AllIn (SubjIn news) svs ss) (h6 : AllIn (RowIn news) rvs rows) :
    ∃ sa' so' ra' ro' svs' rvs', [Value.ref sa, Value.ref ra] = [.ref sa', .ref ra'] ∧ (sa', so') ∈ news ∧ SrcO false so' (List.toArray svs') ∧ (ra', ro') ∈ news ∧ SrcO false ro' (List.toArray rvs') ∧ AllIn (SubjIn news) svs' ss ∧ AllIn (RowIn news) rvs' rows :=
  ⟨sa, so, ra, ro, svs, rvs, rfl, h1, h2, h3, h4, h5, h6⟩
theorem wordsC42 : True := by
  k_with "Rel2" => (first | assumption | exact AllIn.imp (by assumption) (fun v x h => SubjIn.mono h (by walk_at "Sub")) | exact AllIn.imp (by assumption) (fun v x h => RowIn.mono h (by walk_at "SubL")) | exact RowIn.mono (by assumption) (by walk_at "SubL") | fail "Rel2")
  k_with "call ref" => ((
   (with_reducible show wpAny _ _ (call (Value.ref 63) _) _ _ _)
   k_here
   k_dflt (refine' cond_use (rowscond_does _ _ ?kn ?kl ?kf) ?k1 ?k2 ?k3 ?k4 ?k5 ?kK ?kR ?kd ?ku ?_; (case k4 => k_asm); (case kR => (refine' rowsPre ?x1 ?x2 ?x3 ?x4 ?x5 ?x6; (case x1 => k_mem); (case x2 => assumption); (case x3 => k_mem); (case x4 => assumption); (case x5 => walk_at "Rel2"); (case x6 => walk_at "Rel2"))); (case kn => assumption); (case kl => assumption); (case kf => assumption); (case k1 => k_asm); (case k2 => k_asm); (case k3 => k_asm); (case k5 => k_asm); (case kK => first | exact rfl | assumption); (case kd => ktr_room); (case ku => ktr_units))
   intro r9 tl9 h9 tk9 F9 N9 A9 W9 C9
   (try dsimp only)
   (try k_fold)))
  k_with "call ref" => ((
   (with_reducible show wpAny _ _ (call (Value.ref 21) _) _ _ _)
   k_here
   k_dflt (refine' cond_use always_does ?k1 ?k2 ?k3 ?k4 ?k5 ?kK ?kR ?kd ?ku ?_; (case k4 => k_asm); (case kR => exact rfl); (case k1 => k_asm); (case k2 => k_asm); (case k3 => k_asm); (case k5 => k_asm); (case kK => first | exact rfl | assumption); (case kd => ktr_room); (case ku => ktr_units))
   intro r9 tl9 h9 tk9 F9 N9 A9 W9 C9
   (try dsimp only)
   (try k_fold)))
  trivial
theorem len_tupN {prog : Program} {w : World} {A : Around} {E : Value → Shared → Prop} {s : Shared} {h₀ : Heap} {L t : Addr} {news : Led} {o : Obj} {vs : List Value} {Q : Value → Shared → Prop} (N : News h₀ L s.heap news) (hm : (t, o) ∈ news) (ho : SrcO false o vs.toArray) (hz : vs.length ≤ sizeLine)
    (h : Q (.int vs.length (s.toks + 1)) { s with toks := s.toks + 1 + 1 }) : wpAny (model prog w) A (call (.builtin "len") [.ref t]) Q E s :=
  len_tuple (tupOf N hm ho) (by rw [List.size_toArray]; exact Int.lt_of_le_of_lt (Int.ofNat_le.mpr hz) (by decide)) (by rw [List.size_toArray]; exact h)

theorem wordsC43 : True := by
  k_with "call builtin:len" => ((
   (with_reducible show wpAny _ _ (call (Value.builtin "len") [Value.ref _]) _ _ _)
   k_here
   k_dflt (refine' len_tupN ?lnN ?lnM ?lnO ?lnZ ?_; (case lnN => k_asm); (case lnM => k_mem); (case lnO => assumption); (case lnZ => assumption))))
  trivial
def toldOf (ss : List Subj) (others : List Value) : List When → Cond × List Value × Stms
  | [] => (.always, others, .flat [])
  | w :: r => (rowsCond ss w.rows, w.vs, nest ss (.flat others) r)

theorem asifs_does {prog w p loose mean mg mb} (ss : List Subj) (ws : List When) (others : List Value) (hne : ∀ x ∈ ws, x.rows ≠ []) (hlen : ∀ x ∈ ws, ∀ r ∈ x.rows, ss.length = r.length) (hf : ∀ x ∈ ws, ∀ r ∈ x.rows, FitsRow ss r) (hw9 : ws.length ≤ 9) :
    MyDoes prog w p loose mean mg mb 70 6 (fun news vs => ∃ ea t sa so svs wa wo wvs oa oo, vs = [.ref ea] ∧ (ea, ({ cls := .type "tuple", data := .seq #[.str (Str.ofString "evaluate") t, .ref sa, .ref wa, .ref oa] } : Obj)) ∈ news ∧
        (sa, so) ∈ news ∧ SrcO false so (List.toArray svs) ∧ AllIn (SubjIn news) svs ss ∧ (wa, wo) ∈ news ∧ SrcO false wo (List.toArray wvs) ∧ AllIn (WhenIn news) wvs ws ∧ (oa, oo) ∈ news ∧ SrcO false oo others.toArray ∧ MarksIn news others)
      (fun news _ r news' => Grown news news' ∧ IfIn news' r (toldOf ss others ws).1 (toldOf ss others ws).2.1 (toldOf ss others ws).2.2) := by
  unfold MyDoes Does
  intro dp un gd cn cs a ccd cl outer A₀ base h₀ L m news s vs Q E B F X N TT hk hR hd hu hret
  obtain ⟨ea, t, sa, so, svs, wa, wo, wvs, oa, oo, rfl, hea, hsa, hso, hS, hwa, hwo, hW, hoa, hoo, hO⟩ := hR
  have hwz : wvs.length ≤ sizeLine := by rw [hW.1]; exact Nat.le_trans hw9 (by decide)
  have hwo' : wo.cls = .type "tuple" ∧ ∃ n, wo.data = .seq wvs.toArray n := hwo
  refine wpAny_call ?_
  k_dflt ktr_enter
  k_steps
  (rename Fr _ _ _ _ => lF')
  (rename News _ _ _ _ => lN')
  have hWr : AllIn (WhenIn news) wvs.reverse ws.reverse := hW.rev
  refine Mine.for_src false rfl lF' lN' (List.Mem.head _) ⟨rfl, _, rfl⟩
    (fun i m l => Grown news l ∧ ∃ (fv : Value) (u : Str → Option Value), m = (fun y => if y = Str.ofString "found" then some fv else if y = Str.ofString "subjects" then some (.ref sa) else if y = Str.ofString "whens" then some (.ref wa) else u y) ∧ StmsIn l fv (nest ss (.flat others) (ws.reverse.take i).reverse)) ?_ ?_ ?_
  · exact ⟨by walk_at "Grown", _, _, map_has3 (by rfl) (by rfl) (by rfl), StmsIn.flat ⟨oa, oo, rfl, by k_mem, hoo⟩ (hO.mono (by walk_at "SubL"))⟩
  · clear lF' lN'
    rintro i v9 m₁ news₁ h₁ tk₁ its hv9 ⟨hg1, fv, u, rfl, hfv⟩ hm1 hidle hap F' N'
    have hsa1 := hg1.sub _ hsa
    have hS1 := hS.imp fun v x h => h.mono (Sub.of hg1.sub)
    obtain ⟨x9, ex9, hx9⟩ := hWr.at hv9
    obtain ⟨a9, ra9, ro9, rvs9, sv9, rfl, hw1, hw2, hw3, hw4, hw5, hw6⟩ := hx9.mono hg1.sub
    have hmem : x9 ∈ ws := List.mem_reverse.mp (List.mem_of_getElem? ex9)
    have hne9 := hne x9 hmem
    have hlen9 := hlen x9 hmem
    have hf9 := hf x9 hmem
    have hstep : (ws.reverse.take (i + 1)).reverse = x9 :: (ws.reverse.take i).reverse := by rw [List.take_add_one, ex9]; simp
    obtain ⟨st9, sto9, rfl, hst1, hst2⟩ := hw5
    clear hv9 hx9 ex9
    generalize (ws.reverse.take i).reverse = ps at hfv hstep
    k_steps
    all_goals (refine StepEnd.grown1 (by k_asm) (by k_asm) (by walk_at "Lt") (by walk_at "Grown") rfl hidle hap (keep1 hm1) (fun news' hs hd hk => ⟨hg1.trans hk, _, _, map_has3 (by rfl) (by rfl) (by rfl), ?_⟩))
    all_goals (rw [hstep]; simp only [nest]; refine StmsIn.iff hd (IfIn.mk (hs _ (by k_mem) ⟨rfl, _, _, rfl, fun _ h => nomatch h⟩) (CondIn.mono ?_ hs) ⟨st9, sto9, rfl, hk.sub _ hst1, hst2⟩ (hw6.mono hk.sub) (StmsIn.mono hk.sub hfv)); walk_at "Rel")
  · rintro m₁ news₁ h₁ tk₁ ⟨hg1, fv, u, rfl, hfv⟩ F' N'
    have hwa1 := hg1.sub _ hwa
    have hall : (ws.reverse.take wvs.reverse.toArray.size).reverse = ws := by
      rw [List.take_of_length_le (by simp [hW.1]), List.reverse_reverse]
    rw [hall] at hfv
    have hwl := hW.1
    cases ws with
    | nil =>
      have hwv : wvs = [] := List.length_eq_zero_iff.mp hwl
      subst hwv
      have hfv' : StmsIn news₁ fv (.flat others) := hfv
      obtain ⟨ho1, ho2⟩ : TupIn news₁ fv others ∧ MarksIn news₁ others := by
        cases hfv' with | flat h1 h2 => exact ⟨h1, h2⟩
      k_steps
      all_goals (refine hret _ _ _ _ (by k_asm) (by k_asm) ⟨by walk_at "Grown", ?_⟩)
      all_goals (refine IfIn.mk (by k_mem) (by walk_at "Rel") (ho1.mono (by walk_at "SubL")) (ho2.mono (by walk_at "SubL")) (StmsIn.flat ⟨_, _, rfl, by k_mem, ⟨rfl, _, rfl⟩⟩ (fun _ h => nomatch h)))
    | cons x9 r9 =>
      cases hfv with | iff hf1 hf2 =>
      have hpos : (0 : Int) < (wvs.length : Int) := by rw [hwl]; exact Int.ofNat_lt.mpr (Nat.succ_pos _)
      k_steps
      all_goals (first | (exfalso; omega) | skip)
      all_goals (refine hret _ _ _ _ (by k_asm) (by k_asm) ⟨by walk_at "Grown", ?_⟩)
      all_goals exact hf2
end

/- part D1 -/
section
theorem primeD1 : (PySem.Challenge.rw_pq0615_01, Mine.hd.heap_39) = (PySem.Challenge.rw_pq0615_01, Mine.hd.heap_39) := by
  k_fill
  rfl

theorem wordsD10 : True := by
  k_with_none
  w_top off
  k_with "k_all" => (assumption)
  trivial
abbrev penO (ca : Addr) (i q sd : Int) (t1 t2 t3 : Tok) (k : Nat) : Obj := { cls := .type "list", data := .seq #[.ref ca, .int i t1, .int q t2, .int sd t3] k }
abbrev cellsO (vs : List Value) (k : Nat) : Obj := { cls := .type "list", data := .seq vs.toArray k }

section
variable {prog : Program} {w : World} {A : Around} {E : Value → Shared → Prop} {s : Shared} {h₀ : Heap} {L : Addr} {m : Str → Option Value} {news : Led}
theorem pow_big {big : Int} {t u : Tok} {Q : Value → Shared → Prop} (hb : big = 10 ^ (18 : Int).toNat) (h : Q (.int big s.toks) { s with toks := s.toks + 1 }) :
    wpAny (model prog w) A (binaryOp .Pow (.int 10 t) (.int 18 u)) Q E s := by
  subst hb
  exact pow_int_small (by decide) (by decide) (by decide) h
/-- pen[2] is set: the value forgotten but for its sign -/
theorem set_pen2 {pa : Addr} {a b d : Value} {q z : Int} {t2 t : Tok} {kp : Nat} {u : Tok} {Q : Unit → Shared → Prop} (F : Fr h₀ L s.heap m) (N : News h₀ L s.heap ((pa, { cls := .type "list", data := .seq #[a, b, .int q t2, d] kp }) :: news)) (hap : ∀ p ∈ news, p.1 ≠ pa) (hz : 0 ≤ z)
    (h : ∀ (z' : Int) (t' : Tok) (tk' : Nat) h', 0 ≤ z' → Fr h₀ L h' m → News h₀ L h' ((pa, { cls := .type "list", data := .seq #[a, b, .int z' t', d] kp }) :: news) → Q () { s with heap := h', toks := tk' }) :
    wpAny (model prog w) A (setItem (.ref pa) (.int 2 u) (.int z t)) Q E s :=
  ki_set (its := #[a, b, .int q t2, d]) (q := [a, b, .int z t, d]) F N (by decide) (by decide) rfl (Upd.head hap) fun h' F' N' => h z t s.toks h' hz F' N'
end

theorem wordsD11 : True := by
  k_with "binaryOp Pow int int" => ((
   (with_reducible show wpAny _ _ (binaryOp Operator.Pow (Value.int 10 _) (Value.int 18 _)) _ _ _)
   k_here
   (refine pow_big (by assumption) ?_)))
  k_with "setItem ref int" => ((
   (with_reducible show wpAny _ _ (setItem (Value.ref _) (Value.int 2 _) (Value.int _ _)) _ _ _)
   k_here
   k_dflt (refine' set_pen2 ?spF ?spN ?spA ?spZ ?_; (case spF => k_asm); (case spN => k_asm); (case spA => k_all); (case spZ => first | omega | (split at * <;> omega) | (simp only [] at *; omega)))
   intro z' t9' tk9' h' hz' F' N'; (try dsimp only); (try k_sweep)))
  trivial
theorem draw_use {prog w p loose mean mg mb} {pa ca : Addr} {i q sd many : Int} {t1 t2 t3 tm : Tok} {kp kc : Nat} {vs : List Value} {ns : List Int}
   {dp un : Nat} {gd : Option (List Code)} {cn : Str} {cs : Scope} {a : Addr} {ccd : Value} {cl : List (Str × Addr)} {outer : List Env} {A₀ : Around} {base h₀ : Heap} {L : Addr} {m : Str → Option Value} {news : Led} {s : Shared}
    {Q E : Value → Shared → Prop}
    (B : Below A₀ base outer h₀) (F : Fr h₀ L s.heap m) (X : (Mine.hd.heap_39 w.params).In h₀) (N : News h₀ L s.heap ((pa, penO ca i q sd t1 t2 t3 kp) :: (ca, cellsO vs kc) :: news)) (TT : Top p loose mean mg mb h₀) (hk : cs.kind = .function)
    (hpc : (ca : Nat) ≠ pa) (hap : ∀ p ∈ news, p.1 ≠ pa) (hI : IntsAre vs ns) (hlen : ns.length ≤ 63) (hi0 : 0 ≤ i) (hi1 : i ≤ 10000) (hq : 0 ≤ q) (hs0 : 0 ≤ sd) (hs1 : sd < 1009) (hm0 : 2 ≤ many) (hm1 : many ≤ 5)
    (hd : dp + 1 < recursionLimit) (hu : un + 8 + 400 < cLine)
    (ret : ∀ (j : Int) (tj : Tok) (i' q' : Int) (t1' t2' : Tok) (kp' : Nat) h' tk', 0 ≤ j → j < many → i ≤ i' → i' ≤ i + 1 → 0 ≤ q' → Fr h₀ L h' m → News h₀ L h' ((pa, penO ca i' q' sd t1' t2' t3 kp') :: (ca, cellsO vs kc) :: news) → Q (.int j tj) { s with heap := h', toks := tk' }) :
    wpAny (model prog w) (ktrTop dp un gd cn cs L a ccd cl outer) (call (.ref 77) [.ref pa, .int many tm]) Q E s := by
  obtain ⟨big, hbig⟩ : ∃ b : Int, b = 10 ^ (18 : Int).toNat := ⟨_, rfl⟩
  have hvz : vs.toArray.size = ns.length := by rw [List.size_toArray]; exact hI.length
  refine wpAny_call ?_
  k_dflt ktr_enter
  k_steps
  all_goals (refine ret _ _ _ _ _ _ _ _ _ ?_ ?_ ?_ ?_ ?_ (by k_asm) (by k_asm))
  all_goals (first | omega | (exact Int.fmod_nonneg_of_pos _ (by omega)) | (exact Int.fmod_lt_of_pos _ (by omega)) | (exact Int.fdiv_nonneg (by omega) (by omega)))
end

/- part P1 -/
section
/-- the pen's list: the cells' list, a place, a pool, a seed -/
inductive PenOk (ca : Addr) (k : Int) : Obj → Prop
  | mk {i q sd : Int} {t1 t2 t3 : Tok} {kp : Nat} : 0 ≤ i → i ≤ k → 0 ≤ q → 0 ≤ sd → sd < 1009 → PenOk ca k (penO ca i q sd t1 t2 t3 kp)
theorem PenOk.le {ca : Addr} {k k' : Int} {o : Obj} (h : PenOk ca k o) (l : k ≤ k') : PenOk ca k' o := by
  cases h with | mk a b c d e => exact .mk a (Int.le_trans b l) c d e
theorem PenOk.notGood {ca : Addr} {k : Int} {o : Obj} (h : PenOk ca k o) : ¬ Good o := by
  cases h
  exact notGood_cls (n := "list") rfl (by decide)
def CellsOk (o : Obj) : Prop := ∃ vs ns kc, o = cellsO vs kc ∧ IntsAre vs ns ∧ ns.length ≤ 63
theorem CellsOk.ne {o : Obj} {ca : Addr} {k : Int} {po : Obj} (h : CellsOk o) (g : PenOk ca k po) : o ≠ po := by
  obtain ⟨vs, ns, kc, rfl, hI, _⟩ := h
  cases g
  intro e
  have := congrArg Obj.data e
  simp only [Data.seq.injEq] at this
  have h2 := congrArg Array.toList this.1
  simp only at h2
  subst h2
  cases hI

/-- a call of the def at f with the pen ahead of its other arguments -/
def PenDoes (prog : Program) (w : World) (p : Program) (loose : List Str) (mean : ExcName → Option Value) (mg mb : Str → Option Value) (f : Addr) (need : Nat) (cost : Int) (args : List Value) (pre : Led → Prop) (post : Led → Value → Prop) : Prop :=
  ∀ (pa ca : Addr) (po co : Obj) (k : Int) (dp un : Nat) (gd : Option (List Code)) (cn : Str) (cs : Scope) (a : Addr) (ccd : Value) (cl : List (Str × Addr)) (outer : List Env) (A₀ : Around) (base h₀ : Heap) (L : Addr) (m : Str → Option Value) (news : Led) (s : Shared)
    (Q E : Value → Shared → Prop),
    Below A₀ base outer h₀ → Fr h₀ L s.heap m → (Mine.hd.heap_39 w.params).In h₀ → News h₀ L s.heap ((pa, po) :: (ca, co) :: news) → Top p loose mean mg mb h₀ → cs.kind = .function → (ca : Nat) ≠ pa → (∀ p ∈ news, p.1 ≠ pa) → PenOk ca k po → CellsOk co → k + cost ≤ 10000 →
    pre news → dp + need < recursionLimit → un + 8 * need + 400 < cLine →
    (∀ r po' all' h' tk', PenOk ca (k + cost) po' → Fr h₀ L h' m → News h₀ L h' all' → Grown ((pa, po') :: (ca, co) :: news) all' → post all' r → Q r { s with heap := h', toks := tk' }) →
    wpAny (model prog w) (ktrTop dp un gd cn cs L a ccd cl outer) (call (.ref f) (.ref pa :: args)) Q E s

theorem updF_app {d : Addr} {o : Obj} {tl r : Led} {g : Obj → Led} (h : ∀ p ∈ tl, p.1 ≠ d) (u : UpdF d o r g) : UpdF d o (tl ++ r) (fun o' => tl ++ g o') := by
  induction tl with
  | nil => exact u
  | cons p tl ih => exact UpdF.tail (h p (.head _)) (ih fun q hq => h q (.tail _ hq))

theorem pen_use {prog : Program} {w : World} {p : Program} {loose : List Str} {mean : ExcName → Option Value} {mg mb : Str → Option Value} {f : Addr} {need : Nat} {cost : Int} {args : List Value} {pre : Led → Prop} {post : Led → Value → Prop}
   {pa ca : Addr} {po co : Obj} {k : Int} {dp un : Nat} {gd : Option (List Code)} {cn : Str} {cs : Scope} {a : Addr} {ccd : Value} {cl : List (Str × Addr)} {outer : List Env} {A₀ : Around} {base h₀ : Heap} {L : Addr} {m : Str → Option Value} {all : Led} {all' : Obj → Led} {s : Shared}
    {Q E : Value → Shared → Prop} (H : PenDoes prog w p loose mean mg mb f need cost args pre post)
    (hpre : ∀ l l', Sub l l' → pre l → pre l') (hpost : ∀ l l' r, (∀ p ∈ l, p ∈ l') → post l r → post l' r)
    (B : Below A₀ base outer h₀) (F : Fr h₀ L s.heap m) (X : (Mine.hd.heap_39 w.params).In h₀) (N : News h₀ L s.heap all) (U : UpdF pa po all all') (hc : (ca, co) ∈ all) (T : Top p loose mean mg mb h₀) (hk : cs.kind = .function)
    (hp : PenOk ca k po) (hco : CellsOk co) (hcost : k + cost ≤ 10000) (hr : pre all) (hd : dp + need < recursionLimit) (hu : un + 8 * need + 400 < cLine)
    (ret : ∀ r po' tl h' tk', PenOk ca (k + cost) po' → Fr h₀ L h' m → News h₀ L h' (tl ++ all' po') → AllTup tl → Fresh tl all → post (tl ++ all' po') r → Q r { s with heap := h', toks := tk' }) :
    wpAny (model prog w) (ktrTop dp un gd cn cs L a ccd cl outer) (call (.ref f) (.ref pa :: args)) Q E s := by
  obtain ⟨pr, ps, rfl, hg, ha, hb⟩ := U.split
  have hpm : (pa, po) ∈ pr ++ (pa, po) :: ps := List.mem_append_right _ (.head _)
  have hne : (ca : Nat) ≠ pa := fun e => by
    have e1 := (N _ hc).1
    have e2 := (N _ hpm).1
    simp only at e1 e2
    rw [e, e2] at e1
    exact hco.ne hp (Option.some.inj e1).symm
  have hin : ∀ q ∈ pr ++ (pa, po) :: ps, q ∈ (pa, po) :: (ca, co) :: (pr ++ ps) := fun q hq => by
    rcases List.mem_append.mp hq with hq | hq
    · exact .tail _ (.tail _ (List.mem_append_left _ hq))
    · rcases List.mem_cons.mp hq with rfl | hq
      · exact .head _
      · exact .tail _ (.tail _ (List.mem_append_right _ hq))
  have hback : ∀ q ∈ (pa, po) :: (ca, co) :: (pr ++ ps), q ∈ pr ++ (pa, po) :: ps := fun q hq => by
    rcases List.mem_cons.mp hq with rfl | hq
    · exact hpm
    · rcases List.mem_cons.mp hq with rfl | hq
      · exact hc
      · rcases List.mem_append.mp hq with hq | hq
        · exact List.mem_append_left _ hq
        · exact List.mem_append_right _ (.tail _ hq)
  refine H pa ca po co k dp un gd cn cs a ccd cl outer A₀ base h₀ L m (pr ++ ps) s Q E B F X (fun q hq => N q (hback q hq)) T hk hne (fun q hq => (List.mem_append.mp hq).elim (ha q) (hb q)) hp hco hcost (hpre _ _ (fun q hq g => ?_) hr) hd hu ?_
  · rcases List.mem_append.mp hq with hq | hq
    · exact List.mem_append_left _ hq
    · rcases List.mem_cons.mp hq with rfl | hq
      · exact absurd g (hp.notGood)
      · exact List.mem_append_right _ hq
  intro r po' alx h' tk' hp' F' N' ⟨tl, e, htl, hf⟩ hpo
  subst e
  have hin' : ∀ q ∈ pr ++ (pa, po') :: ps, q ∈ (pa, po') :: (ca, co) :: (pr ++ ps) := fun q hq => by
    rcases List.mem_append.mp hq with hq | hq
    · exact .tail _ (.tail _ (List.mem_append_left _ hq))
    · rcases List.mem_cons.mp hq with rfl | hq
      · exact .head _
      · exact .tail _ (.tail _ (List.mem_append_right _ hq))
  have hfr : ∀ x ∈ tl, ∀ q ∈ pr ++ (pa, po) :: ps, x.1 ≠ q.1 := fun x hx q hq => by
    rcases List.mem_append.mp hq with hq | hq
    · exact hf x hx q (.tail _ (.tail _ (List.mem_append_left _ hq)))
    · rcases List.mem_cons.mp hq with rfl | hq
      · exact hf x hx (pa, po') (.head _)
      · exact hf x hx q (.tail _ (.tail _ (List.mem_append_right _ hq)))
  have hc' : (ca, co) ∈ pr ++ ps := by
    rcases List.mem_append.mp hc with hq | hq
    · exact List.mem_append_left _ hq
    · rcases List.mem_cons.mp hq with e | hq
      · exact absurd (congrArg Prod.fst e) hne
      · exact List.mem_append_right _ hq
  have hback' : ∀ q ∈ (pa, po') :: (ca, co) :: (pr ++ ps), q ∈ pr ++ (pa, po') :: ps := fun q hq => by
    rcases List.mem_cons.mp hq with rfl | hq
    · exact List.mem_append_right _ (.head _)
    · have hq : q ∈ pr ++ ps := (List.mem_cons.mp hq).elim (fun e => e ▸ hc') id
      rcases List.mem_append.mp hq with hq | hq
      · exact List.mem_append_left _ hq
      · exact List.mem_append_right _ (.tail _ hq)
  refine ret r po' tl h' tk' hp' F' (fun q hq => N' q ?_) htl (fun x hx q hq => hfr x hx q hq) (hpost _ _ _ (fun q hq => ?_) hpo)
  · rw [hg] at hq
    exact (List.mem_append.mp hq).elim (List.mem_append_left _) fun hq => List.mem_append_right _ (hin' q hq)
  · rw [hg]
    exact (List.mem_append.mp hq).elim (List.mem_append_left _) fun hq => List.mem_append_right _ (hback' q hq)

theorem draw_does {prog w p loose mean mg mb} {many : Int} {tm : Tok} (hm0 : 2 ≤ many) (hm1 : many ≤ 5) :
    PenDoes prog w p loose mean mg mb 77 1 1 [.int many tm] (fun _ => True) (fun _ r => ∃ j t, r = .int j t ∧ 0 ≤ j ∧ j < many) := by
  intro pa ca po co k dp un gd cn cs a ccd cl outer A₀ base h₀ L m news s Q E B F X N TT hk hpc hap hp hco hcost _ hd hu ret
  obtain ⟨vs, ns, kc, rfl, hI, hlen⟩ := hco
  cases hp with | mk a1 a2 a3 a4 a5 =>
  refine draw_use B F X N TT hk hpc hap hI hlen a1 (by omega) a3 a4 a5 hm0 hm1 hd (by omega) ?_
  intro j tj i' q' t1' t2' kp' h' tk' b1 b2 b3 b4 b5 F' N'
  exact ret _ _ _ h' tk' (.mk (by omega) (by omega) b5 a4 a5) F' N' .refl ⟨j, tj, rfl, b1, b2⟩

/-- a draw, as the walk wants it -/
theorem draw_walk {prog : Program} {w : World} {p : Program} {loose : List Str} {mean : ExcName → Option Value} {mg mb : Str → Option Value} {many : Int} {tm : Tok}
   {pa ca : Addr} {po co : Obj} {k : Int} {dp un : Nat} {gd : Option (List Code)} {cn : Str} {cs : Scope} {a : Addr} {ccd : Value} {cl : List (Str × Addr)} {outer : List Env} {A₀ : Around} {base h₀ : Heap} {L : Addr} {m : Str → Option Value} {all : Led} {all' : Obj → Led} {s : Shared}
    {Q E : Value → Shared → Prop} (hm0 : 2 ≤ many) (hm1 : many ≤ 5)
    (B : Below A₀ base outer h₀) (F : Fr h₀ L s.heap m) (X : (Mine.hd.heap_39 w.params).In h₀) (N : News h₀ L s.heap all) (U : UpdF pa po all all') (hc : (ca, co) ∈ all) (T : Top p loose mean mg mb h₀) (hk : cs.kind = .function)
    (hp : PenOk ca k po) (hco : CellsOk co) (hcost : k + 1 ≤ 10000) (hd : dp + 1 < recursionLimit) (hu : un + 8 * 1 + 400 < cLine)
    (ret : ∀ j t po' h' tk', 0 ≤ j → j < many → PenOk ca (k + 1) po' → Fr h₀ L h' m → News h₀ L h' (all' po') → Q (.int j t) { s with heap := h', toks := tk' }) :
    wpAny (model prog w) (ktrTop dp un gd cn cs L a ccd cl outer) (call (.ref 77) [.ref pa, .int many tm]) Q E s := by
  refine pen_use (draw_does hm0 hm1) (fun _ _ _ h => h) (fun _ _ _ _ h => h) B F X N U hc T hk hp hco hcost trivial hd hu ?_
  intro r po' tl h' tk' hp' F' N' _ _ ⟨j, t, e, j0, j1⟩
  subst e
  exact ret j t po' h' tk' j0 j1 hp' F' fun q hq => N' q (List.mem_append_right _ hq)
end

/- part S1 -/
section
theorem primeS1 : (PySem.Challenge.rw_pq0615_01, Mine.hd.heap_39) = (PySem.Challenge.rw_pq0615_01, Mine.hd.heap_39) := by
  k_fill
  rfl
theorem fresh_ne {tl l : Led} {d : Addr} {o : Obj} (h : Fresh tl l) (m : List.Mem (d, o) l) : ∀ p ∈ tl, p.1 ≠ d := fun p hp => h p hp _ m
theorem mem_app_l {x : Addr × Obj} {a b : Led} (h : List.Mem x a) : List.Mem x (a ++ b) := List.mem_append_left b h
theorem mem_app_r {x : Addr × Obj} {a b : Led} (h : List.Mem x b) : List.Mem x (a ++ b) := List.mem_append_right a h
end
local macro_rules | `(tactic| k_lt $h:ident) => `(tactic| skip)
section
theorem wordsS10 : True := by
  k_with_none
  w_top off
  k_with "k_mem" => ((refine' mem_of ?_; ktr_member))
  k_with "Sub" => (first | exact Sub.refl | (refine Sub.cons ?_; walk_at "Sub") | (refine Sub.app ?_; walk_at "Sub") | fail "Sub")
  k_with "SubL" => (first | exact sub_refl | (refine sub_cons ?_; walk_at "SubL") | (refine sub_app ?_; walk_at "SubL") | fail "SubL")
  k_with "Lt" => (first | assumption | exact allLt_of (by assumption) | ((try simp only [AllLt, and_true]); assumption) | fail "Lt")
  k_with "Grown" => (first | exact Grown.refl | assumption | (refine Grown.cons ?_ rfl ?_; rotate_left; walk_at "Lt"; walk_at "Grown") | (refine Grown.app ?_ (by assumption) (by assumption); walk_at "Grown") | fail "Grown")
  k_with "Rel" => (first | assumption | exact CondIn.mono (by assumption) (by walk_at "Sub") | exact TrIn.mono (by assumption) (by walk_at "Sub") | exact RefIn.mono (by assumption) (by walk_at "Sub") | exact NumIn.mono (by assumption) (by walk_at "Sub") | exact SubjIn.mono (by assumption) (by walk_at "Sub") | exact ThingIn.mono (by assumption) (by walk_at "Sub") | walk_at "RelCon")
  k_with "RelCon" => (first | (apply TrIn.mk; k_mem) | (apply CondIn.eq; k_mem; walk_at "Rel"; walk_at "Rel") | (apply CondIn.le; k_mem; walk_at "Rel"; walk_at "Rel") | (apply CondIn.ge; k_mem; walk_at "Rel"; walk_at "Rel") | (apply CondIn.and; k_mem; walk_at "Rel"; walk_at "Rel") | (apply CondIn.or; k_mem; walk_at "Rel"; walk_at "Rel") | (apply CondIn.not; k_mem; walk_at "Rel") | fail "RelCon")
  k_with "MyItem" => ((
   (with_reducible show wpAny _ _ (subscriptTail _ _ (Value.ref _) (Value.int _ _)) _ _ _)
   k_here
   k_dflt (first
     | (refine' item_tupleT ?mtA ?mtB ?mtC ?mtD ?mtE ?_; (case mtA => (refine' News.isTup ?n9 ?m9; (case n9 => k_asm); (case m9 => k_mem))); (case mtB => decide); (case mtC => decide); (case mtD => rfl); (case mtE => rfl); k_whole)
     | (refine' item_listT ?mlA ?mlB ?mlC ?mlD ?_; (case mlA => (refine' News.isList ?n9 ?m9; (case n9 => k_asm); (case m9 => k_mem))); (case mlB => first | decide | omega); (case mlC => first | decide | omega); (case mlD => first | rfl | exact tr_b (by assumption) | exact tr_w (by assumption)); k_whole)
     | fail "MyItem")))
  k_with "subscriptTail Name Constant ref int" => (walk_at "MyItem")
  k_with "subscriptTail Name" => (walk_at "MyItem")
  k_with "subscriptTail Subscript" => (walk_at "MyItem")
  k_with "ite" => ((k_closed; first | (refine ite_pos (by decide +kernel) ?_) | (refine ite_neg (by decide +kernel) ?_)))
  k_with "ite" => (first | with_reducible refine if_t ?_ | with_reducible refine if_f ?_)
  k_with "subscriptTail Subscript" => ((
   (with_reducible show wpAny _ _ (subscriptTail _ (Expr.Slice (some _) none none _) (Value.str _ _) _) _ _ _)
   (with_reducible rename Fr _ _ _ _ => F')
   (with_reducible rename News _ _ _ _ => N')
   (refine slice_strN_sn (hsz := ?hsz) (s := ⟨_, _, _, _, _⟩) F' N' ?_)
   (case hsz => size_fits)
   intro _ _ _ _ _))
  k_with "units_room" => (ktr_units)
  k_with "compareOp Eq ref ref" => ((
   (with_reducible show wpAny _ _ (compareOp CmpOp.Eq (Value.ref _) (Value.ref _)) _ _ _)
   k_here
   k_dflt (refine' eq_ref_num ?erA ?erB ?erC ?erD ?_; (case erA => k_asm); (case erB => walk_at "Rel"); (case erC => walk_at "Rel"); (case erD => ktr_units); k_whole)))
  k_with "call type:int" => ((
   (with_reducible show wpAny _ _ (call (Value.type "int") [Value.str (PySem.Txt.slice (wname _) _ _) _]) _ _ _)
   refine KIN.call_text (wname_int (by assumption)) (wname_slen _) ?_))
  k_with "call type:int" => ((
   (with_reducible show wpAny _ _ (call (Value.type "int") [Value.str (PySem.Txt.slice (cname _) _ _) _]) _ _ _)
   refine KIN.call_text (cname_int (by assumption)) (cname_slen _) ?_))
  k_with "MyFor" => ((k_here; (rename Fr _ _ _ _ => lF'); (with_unfolding_all refine' For_turns lF' ?_; k_whole)))
  k_with "exec For Tuple Call cons nil" => (walk_at "MyFor")
  k_with "exec For Tuple Subscript cons nil" => (walk_at "MyFor")
  k_with "exec For Name Name cons nil" => (walk_at "MyFor")
  k_with "exec For Name Call cons nil" => (walk_at "MyFor")
  k_with "k_ne" => (first | assumption | exact ne_new (by assumption) (by k_mem) | exact Ne.symm (by assumption) | exact Ne.symm (ne_new (by assumption) (by k_mem)))
  k_with "Lt" => (first | exact allLt_of (by assumption) | exact allLt_congr (by assumption) (by first | rfl | simp only [List.map_cons, List.map_append]))
  k_with "k_all" => (first | assumption | exact List.forall_mem_nil _ | (apply fresh_ne; assumption; k_mem) | (refine' List.forall_mem_append.mpr ⟨?_, ?_⟩; k_all; k_all) | (refine' List.forall_mem_cons.mpr ⟨?_, ?_⟩; k_ne; k_all))
  k_with "k_updF" => ((apply updF_app; k_all; k_updF))
  k_with "k_mem" => ((refine' mem_app_l ?_; k_mem))
  k_with "k_mem" => ((refine' mem_app_r ?_; k_mem))
  k_with "call ref" => ((
   (with_reducible show wpAny _ _ (call (Value.ref 77) _) _ _ _)
   k_here
   k_dflt (refine' draw_walk ?d1 ?d2 ?kB ?kF ?kX ?kN ?kU ?kc ?kT ?kK ?kp ?kco ?kk ?kd ?ku ?_; (case d1 => decide); (case d2 => decide); (case kB => k_asm); (case kF => k_asm); (case kX => k_asm); (case kN => k_asm); (case kU => k_updF); (case kco => assumption); (case kc => k_mem); (case kT => k_asm); (case kK => first | exact rfl | assumption); (case kp => k_asm); (case kk => omega); (case kd => ktr_room); (case ku => ktr_units))
   intro j9 t9 po9 h9 tk9 j0 j1 hp9 F9 N9
   (try dsimp only at N9)
   (try dsimp only)
   (try k_fold)))
  trivial
def simple : Cond → Prop
  | .named k => k < 4
  | .not (.named k) => k < 4
  | _ => False
theorem cnat {j : Int} (h0 : 0 ≤ j) (h1 : j < 4) : j.toNat < 4 := by omega
theorem ctext {j : Int} (h0 : 0 ≤ j) (h1 : j < 4) : Str.ofString "C" ++ Str.ofString (toString j) = cname j.toNat := by
  rcases (by omega : j = 0 ∨ j = 1 ∨ j = 2 ∨ j = 3) with rfl | rfl | rfl | rfl <;> decide +kernel
theorem cond_named {news : Led} {a r e1 e2 : Addr} {t1 t2 t3 : Tok} {j : Int} (h0 : 0 ≤ j) (h1 : j < 4) (m1 : (a, ({ cls := .type "tuple", data := .seq #[.str (Str.ofString "named") t1, .ref r] } : Obj)) ∈ news)
    (m2 : (r, ({ cls := .type "tuple", data := .seq #[.str (Str.ofString "ref") t2, .str (Str.ofString "C" ++ Str.ofString (toString j)) t3, .ref e1, .ref e2, .none] } : Obj)) ∈ news) : CondIn news (.ref a) (.named j.toNat) := by
  rw [ctext h0 h1] at m2
  exact .named (by omega) m1 m2
theorem simple_does {prog w p loose mean mg mb} : PenDoes prog w p loose mean mg mb 84 2 2 [] (fun _ => True) (fun news r => ∃ c, simple c ∧ CondIn news r c) := by
  intro pa ca po co k dp un gd cn cs a ccd cl outer A₀ base h₀ L m news s Q E B F X N TT hk hpc hap hp hco hcost _ hd hu ret
  refine wpAny_call ?_
  k_dflt ktr_enter
  k_steps
  all_goals (refine ret _ _ _ _ _ (by first | assumption | exact PenOk.le (by assumption) (by omega)) (by k_asm) (by k_asm) (by walk_at "Grown") ?_)
  · refine ⟨_, ?s, CondIn.not (by k_mem) (cond_named ?a ?b (by k_mem) (by k_mem))⟩
    all_goals first | assumption | exact cnat (by assumption) (by assumption)
  · refine ⟨.named (Int.toNat _), ?s, cond_named ?a ?b (by k_mem) (by k_mem)⟩
    all_goals first | assumption | exact cnat (by assumption) (by assumption)
end

/- part O1 -/
section
theorem primeO1 : (PySem.Challenge.rw_pq0615_01, Mine.hd.heap_39) = (PySem.Challenge.rw_pq0615_01, Mine.hd.heap_39) := by
  k_fill
  rfl
theorem wordsO10 : True := by
  k_with_none
  w_top off
  k_with "k_mem" => ((refine' mem_of ?_; ktr_member))
  k_with "Sub" => (first | exact Sub.refl | (refine Sub.cons ?_; walk_at "Sub") | (refine Sub.app ?_; walk_at "Sub") | fail "Sub")
  k_with "SubL" => (first | exact sub_refl | (refine sub_cons ?_; walk_at "SubL") | (refine sub_app ?_; walk_at "SubL") | fail "SubL")
  k_with "Lt" => (first | assumption | exact allLt_of (by assumption) | ((try simp only [AllLt, and_true]); assumption) | fail "Lt")
  k_with "Grown" => (first | exact Grown.refl | assumption | (refine Grown.cons ?_ rfl ?_; rotate_left; walk_at "Lt"; walk_at "Grown") | (refine Grown.app ?_ (by assumption) (by assumption); walk_at "Grown") | fail "Grown")
  k_with "Rel" => (first | assumption | exact CondIn.mono (by assumption) (by walk_at "Sub") | exact TrIn.mono (by assumption) (by walk_at "Sub") | exact RefIn.mono (by assumption) (by walk_at "Sub") | exact NumIn.mono (by assumption) (by walk_at "Sub") | exact SubjIn.mono (by assumption) (by walk_at "Sub") | exact ThingIn.mono (by assumption) (by walk_at "Sub") | walk_at "RelCon")
  k_with "RelCon" => (first | (apply TrIn.mk; k_mem) | (apply CondIn.eq; k_mem; walk_at "Rel"; walk_at "Rel") | (apply CondIn.le; k_mem; walk_at "Rel"; walk_at "Rel") | (apply CondIn.ge; k_mem; walk_at "Rel"; walk_at "Rel") | (apply CondIn.and; k_mem; walk_at "Rel"; walk_at "Rel") | (apply CondIn.or; k_mem; walk_at "Rel"; walk_at "Rel") | (apply CondIn.not; k_mem; walk_at "Rel") | fail "RelCon")
  k_with "MyItem" => ((
   (with_reducible show wpAny _ _ (subscriptTail _ _ (Value.ref _) (Value.int _ _)) _ _ _)
   k_here
   k_dflt (first
     | (refine' item_tupleT ?mtA ?mtB ?mtC ?mtD ?mtE ?_; (case mtA => (refine' News.isTup ?n9 ?m9; (case n9 => k_asm); (case m9 => k_mem))); (case mtB => decide); (case mtC => decide); (case mtD => rfl); (case mtE => rfl); k_whole)
     | (refine' item_listT ?mlA ?mlB ?mlC ?mlD ?_; (case mlA => (refine' News.isList ?n9 ?m9; (case n9 => k_asm); (case m9 => k_mem))); (case mlB => first | decide | omega); (case mlC => first | decide | omega); (case mlD => first | rfl | exact tr_b (by assumption) | exact tr_w (by assumption)); k_whole)
     | fail "MyItem")))
  k_with "subscriptTail Name Constant ref int" => (walk_at "MyItem")
  k_with "subscriptTail Name" => (walk_at "MyItem")
  k_with "subscriptTail Subscript" => (walk_at "MyItem")
  k_with "ite" => ((k_closed; first | (refine ite_pos (by decide +kernel) ?_) | (refine ite_neg (by decide +kernel) ?_)))
  k_with "ite" => (first | with_reducible refine if_t ?_ | with_reducible refine if_f ?_)
  k_with "subscriptTail Subscript" => ((
   (with_reducible show wpAny _ _ (subscriptTail _ (Expr.Slice (some _) none none _) (Value.str _ _) _) _ _ _)
   (with_reducible rename Fr _ _ _ _ => F')
   (with_reducible rename News _ _ _ _ => N')
   (refine slice_strN_sn (hsz := ?hsz) (s := ⟨_, _, _, _, _⟩) F' N' ?_)
   (case hsz => size_fits)
   intro _ _ _ _ _))
  k_with "units_room" => (ktr_units)
  k_with "compareOp Eq ref ref" => ((
   (with_reducible show wpAny _ _ (compareOp CmpOp.Eq (Value.ref _) (Value.ref _)) _ _ _)
   k_here
   k_dflt (refine' eq_ref_num ?erA ?erB ?erC ?erD ?_; (case erA => k_asm); (case erB => walk_at "Rel"); (case erC => walk_at "Rel"); (case erD => ktr_units); k_whole)))
  k_with "call type:int" => ((
   (with_reducible show wpAny _ _ (call (Value.type "int") [Value.str (PySem.Txt.slice (wname _) _ _) _]) _ _ _)
   refine KIN.call_text (wname_int (by assumption)) (wname_slen _) ?_))
  k_with "call type:int" => ((
   (with_reducible show wpAny _ _ (call (Value.type "int") [Value.str (PySem.Txt.slice (cname _) _ _) _]) _ _ _)
   refine KIN.call_text (cname_int (by assumption)) (cname_slen _) ?_))
  k_with "MyFor" => ((k_here; (rename Fr _ _ _ _ => lF'); (with_unfolding_all refine' For_turns lF' ?_; k_whole)))
  k_with "exec For Tuple Call cons nil" => (walk_at "MyFor")
  k_with "exec For Tuple Subscript cons nil" => (walk_at "MyFor")
  k_with "exec For Name Name cons nil" => (walk_at "MyFor")
  k_with "exec For Name Call cons nil" => (walk_at "MyFor")
  k_with "k_ne" => (first | assumption | exact ne_new (by assumption) (by k_mem) | exact Ne.symm (by assumption) | exact Ne.symm (ne_new (by assumption) (by k_mem)))
  k_with "Lt" => (first | exact allLt_of (by assumption) | exact allLt_congr (by assumption) (by first | rfl | simp only [List.map_cons, List.map_append]))
  k_with "k_all" => (first | assumption | exact List.forall_mem_nil _ | (apply fresh_ne; assumption; k_mem) | (refine' List.forall_mem_append.mpr ⟨?_, ?_⟩; k_all; k_all) | (refine' List.forall_mem_cons.mpr ⟨?_, ?_⟩; k_ne; k_all))
  k_with "k_updF" => ((apply updF_app; k_all; k_updF))
  k_with "k_mem" => ((refine' mem_app_l ?_; k_mem))
  k_with "k_mem" => ((refine' mem_app_r ?_; k_mem))
  k_with "call ref" => ((
   (with_reducible show wpAny _ _ (call (Value.ref 77) _) _ _ _)
   k_here
   k_dflt (refine' draw_walk ?d1 ?d2 ?kB ?kF ?kX ?kN ?kU ?kc ?kT ?kK ?kp ?kco ?kk ?kd ?ku ?_; (case d1 => decide); (case d2 => decide); (case kB => k_asm); (case kF => k_asm); (case kX => k_asm); (case kN => k_asm); (case kU => k_updF); (case kco => assumption); (case kc => k_mem); (case kT => k_asm); (case kK => first | exact rfl | assumption); (case kp => k_asm); (case kk => omega); (case kd => ktr_room); (case ku => ktr_units))
   intro j9 t9 po9 h9 tk9 j0 j1 hp9 F9 N9
   (try dsimp only at N9)
   (try dsimp only)
   (try k_fold)))
  trivial
theorem simple_walk {prog : Program} {w : World} {p : Program} {loose : List Str} {mean : ExcName → Option Value} {mg mb : Str → Option Value}
   {pa ca : Addr} {po co : Obj} {k : Int} {dp un : Nat} {gd : Option (List Code)} {cn : Str} {cs : Scope} {a : Addr} {ccd : Value} {cl : List (Str × Addr)} {outer : List Env} {A₀ : Around} {base h₀ : Heap} {L : Addr} {m : Str → Option Value} {all : Led} {all' : Obj → Led} {s : Shared}
    {Q E : Value → Shared → Prop}
    (B : Below A₀ base outer h₀) (F : Fr h₀ L s.heap m) (X : (Mine.hd.heap_39 w.params).In h₀) (N : News h₀ L s.heap all) (U : UpdF pa po all all') (hc : (ca, co) ∈ all) (T : Top p loose mean mg mb h₀) (hk : cs.kind = .function)
    (hp : PenOk ca k po) (hco : CellsOk co) (hcost : k + 2 ≤ 10000) (hd : dp + 2 < recursionLimit) (hu : un + 8 * 2 + 400 < cLine)
    (ret : ∀ r c po' tl h' tk', simple c → PenOk ca (k + 2) po' → Fr h₀ L h' m → News h₀ L h' (tl ++ all' po') → AllTup tl → Fresh tl (all' po') → CondIn (tl ++ all' po') (.ref r) c → Q (.ref r) { s with heap := h', toks := tk' }) :
    wpAny (model prog w) (ktrTop dp un gd cn cs L a ccd cl outer) (call (.ref 84) [.ref pa]) Q E s := by
  refine pen_use simple_does (fun _ _ _ h => h) (fun _ _ _ hs ⟨c, a, b⟩ => ⟨c, a, b.mono (Sub.of hs)⟩) B F X N U hc T hk hp hco hcost trivial hd hu ?_
  intro r po' tl h' tk' hp' F' N' ht hf ⟨c, hs, hC⟩
  obtain ⟨b, rfl⟩ := hC.ref
  refine ret b c po' tl h' tk' hs hp' F' N' ht (fun x hx q hq => ?_) hC
  obtain ⟨pr, ps, rfl, hg, _, _⟩ := U.split
  rw [hg] at hq
  rcases List.mem_append.mp hq with hq | hq
  · exact hf x hx q (List.mem_append_left _ hq)
  · rcases List.mem_cons.mp hq with rfl | hq
    · exact hf x hx (pa, po) (List.mem_append_right _ (.head _))
    · exact hf x hx q (List.mem_append_right _ (.tail _ hq))
def HoldO (P : Prop) : Prop := P
theorem holdO {P : Prop} (h : HoldO P) : P := h
theorem unholdO {P : Prop} (h : P) : HoldO P := h
theorem item3 {prog : Program} {w : World} {A : Around} {E : Value → Shared → Prop} {s : Shared} {h₀ : Heap} {L T : Addr} {news : Led} {value slice : PySem.Expr} {a b c : Value} {j : Int} {u : Tok} {Q : Value → Shared → Prop} (N : News h₀ L s.heap news)
    (hm : (T, ({ cls := .type "tuple", data := .seq #[a, b, c] } : Obj)) ∈ news) (j0 : 0 ≤ j) (j1 : j < 4) (j3 : ¬ j = 3) (h : ∀ v, (v = a ∨ v = b ∨ v = c) → Q v s)
    (hs : subscripted slice false (.ref T) (.int j u) = operate [.ref T, .int j u] (getItem (.ref T) (.int j u)) := by with_unfolding_all rfl) :
    wpAny (model prog w) A (subscriptTail value slice (.ref T) (.int j u)) Q E s := by
  have ht : IsTup s.heap T [a, b, c].toArray := ⟨_, (N _ hm).1, rfl, _, rfl⟩
  rcases (by omega : j = 0 ∨ j = 1 ∨ j = 2) with rfl | rfl | rfl
  · exact item_tupleT (j := 0) ht (by decide) (by decide) rfl rfl (h _ (.inl rfl)) hs
  · exact item_tupleT (j := 1) ht (by decide) (by decide) rfl rfl (h _ (.inr (.inl rfl))) hs
  · exact item_tupleT (j := 2) ht (by decide) (by decide) rfl rfl (h _ (.inr (.inr rfl))) hs
theorem wordsO11 : True := by
  k_with "call ref" => ((
   (with_reducible show wpAny _ _ (call (Value.ref 84) _) _ _ _)
   k_here
   k_dflt (refine' simple_walk ?kB ?kF ?kX ?kN ?kU ?kc ?kT ?kK ?kp ?kco ?kk ?kd ?ku ?_; (case kB => k_asm); (case kF => k_asm); (case kX => k_asm); (case kN => k_asm); (case kU => k_updF); (case kco => assumption); (case kc => k_mem); (case kT => k_asm); (case kK => first | exact rfl | assumption); (case kp => k_asm); (case kk => omega); (case kd => ktr_room); (case ku => ktr_units))
   intro r9 c9 po9 tl9 h9 tk9 S9 hp9 F9 N9 A9 W9 C9
   (try dsimp only at N9 W9 C9)
   (try dsimp only)
   (try k_fold)))
  trivial
def simpleT : Thing → Prop
  | .truth c => simple c
  | _ => True
theorem wordsO12 : True := by
  k_with "subscriptTail Name Name ref int" => ((
   (with_reducible show wpAny _ _ (subscriptTail _ _ (Value.ref _) (Value.int _ _)) _ _ _)
   refine holdO ?_))
  trivial
theorem object_does {prog w p loose mean mg mb} {v : Value} {S : Subj} : PenDoes prog w p loose mean mg mb 91 3 4 [v] (fun news => SubjIn news v S) (fun news r => ∃ t, Fits S t = true ∧ simpleT t ∧ ThingIn news r t) := by
  intro pa ca po co k dp un gd cn cs a ccd cl outer A₀ base h₀ L m news s Q E B F X N TT hk hpc hap hp hco hcost hS hd hu ret
  have hS' := hS
  cases hS'
  all_goals (
    refine wpAny_call ?_
    k_dflt ktr_enter
    k_steps)
  all_goals first
    | (refine unholdO ?_
       (rename Fr _ _ _ _ => lF')
       (rename News _ _ _ _ => lN')
       (rename simple _ => S8)
       (rename CondIn _ _ _ => C8)
       k_dflt (refine item3 lN' (by k_mem) (by assumption) (by assumption) (by assumption) (fun v8 hv8 => ?_) (by with_unfolding_all rfl))
       k_steps
       refine ret _ _ _ _ _ (by first | assumption | exact PenOk.le (by assumption) (by omega)) (by k_asm) (by k_asm) (by walk_at "Grown") ?_
       rcases hv8 with rfl | rfl | rfl
       · exact ⟨.yes, rfl, trivial, ThingIn.yes (by k_mem)⟩
       · exact ⟨.no, rfl, trivial, ThingIn.no (by k_mem)⟩
       · exact ⟨.truth _, rfl, S8, ThingIn.truth (by k_mem) (CondIn.mono C8 (by walk_at "Sub"))⟩)
    | (refine ret _ _ _ _ _ (by first | assumption | exact PenOk.le (by assumption) (by omega)) (by k_asm) (by k_asm) (by walk_at "Grown") ?_
       first
         | exact ⟨.any, rfl, trivial, ThingIn.any (by k_mem)⟩
         | exact ⟨.is _ _, rfl, trivial, ThingIn.is (by k_mem) (NumIn.mk (by k_mem) (by k_mem))⟩
         | exact ⟨.thru _ _ _, rfl, trivial, ThingIn.thru (by k_mem) (NumIn.mk (by k_mem) (by k_mem)) (NumIn.mk (by k_mem) (by k_mem))⟩)
end

/- part Cmp -/
section
open PyProof.Rows.LCg (NsObj lst)

/-- the end of a comprehension's turn -/
def CompStep (h₀ : Heap) (L : Addr) (m : Str → Option Value) (s₁ : Shared) (its : Led) (C : Addr) (oC : Obj) (D : Addr) (ys : List Value) (keep : Led) (R : Led → Prop) (s₂ : Shared) : Prop :=
  ∃ h' tk news', s₂ = { s₁ with heap := h', toks := tk } ∧ Fr h₀ L h' m ∧ News h₀ L h' (its ++ (C, oC) :: (D, lst ys) :: news') ∧ (∀ p ∈ news', p.1 ≠ C ∧ p.1 ≠ D ∧ ∀ q ∈ its, p.1 ≠ q.1) ∧ (∀ p ∈ keep, p ∈ news') ∧ R news'

section
variable {prog : Program} {w : World} {A : Around} {E : Value → Shared → Prop} {s : Shared} {env : Env} {h₀ : Heap} {L : Addr} {m : Str → Option Value}

theorem comp_loop {elt target iter : PySem.Expr} {ifs : List PySem.Expr} {scope : Scope} {pos : Pos} {it acc : Value} {env : Env} {R : Result → Shared → Prop} (I : Nat → Shared → Prop)
    (turn : ∀ n s, I n s → wpAny (model prog w) A (pyNext it) (fun r s₁ => match r with
      | none => R (.ok .next) s₁
      | some v => wpAny (model prog w) A (letOwnedTupleGo target it v) (fun _ s₀ => wpAny (model prog w) A (assign target env v) (fun _ s₂ =>
          wpAny (model prog w) A (forIn ifs true fun c r => if r = true then do let ok ← isTrue c env (eval c env); pure (ForInStep.yield ok) else pure (ForInStep.yield r)) (fun ok s₃ =>
            if ok = true then wpAny (model prog w) A (eval elt env) (fun x s₄ =>
              wpAny (model prog w) A (call (.builtin "list.append") [acc, x]) (fun _ s₅ => ∃ m, m < n ∧ I m s₅) (notedBy (model prog w) A env fun e s' => R (.error e) s') s₄) (notedBy (model prog w) A env fun e s' => R (.error e) s') s₃
            else ∃ m, m < n ∧ I m s₃) (notedBy (model prog w) A env fun e s' => R (.error e) s') s₂)
          (notedBy (model prog w) A env fun e s' => R (.error e) s') s₀) (notedBy (model prog w) A env fun e s' => R (.error e) s') s₁) (notedBy (model prog w) A env fun e s' => R (.error e) s') s)
    (n : Nat) (h : I n s) : codeAny (model prog w) A (.compLoop (.ListComp elt [⟨target, iter, ifs, 0⟩] scope pos) 0 it acc env) R s := by
  refine codeAny_loop rfl I (fun n s hI => ?_) n h
  show wpAny _ A ((compTurn (.ListComp elt [⟨target, iter, ifs, 0⟩] scope pos) 0 it acc env).onRaise (fun x => do noteFrame x env; theTreesLotGoes x)) _ _ s
  refine wpAny_noted ?_
  rw [compTurn_list]
  refine wpAny_bind (wpAny_standAt (wpAny_bind (wpAny_mono (turn n s hI) (fun r s₁ h₁ => ?_) fun _ _ h' => h')))
  cases r with
  | none => exact wpAny_pure h₁
  | some v =>
    refine wpAny_bind (wpAny_mono h₁ (fun _ s₀ h₀' => ?_) fun _ _ h' => h')
    refine wpAny_bind (wpAny_mono h₀' (fun _ s₂ h₂ => wpAny_bind (wpAny_mono h₂ (fun ok s₃ h₃ => ?_) fun _ _ h' => h')) fun _ _ h' => h')
    cases ok with
    | false => exact wpAny_pure ⟨rfl, h₃⟩
    | true => exact wpAny_bind (wpAny_bind (wpAny_mono h₃ (fun x s₄ h₄ => wpAny_bind (wpAny_mono h₄ (fun _ s₅ h₅ => wpAny_pure (wpAny_pure ⟨rfl, h₅⟩)) fun _ _ h' => h')) fun _ _ h' => h'))

theorem comp_core {elt target iter : PySem.Expr} {ifs : List PySem.Expr} {scope : Scope} {cl : List (Str × Addr)} {pos : Pos} {I : Addr} {fp wr adr : List Addr} {n : Nat} {P Md : Nat → Value → Heap → Prop} {St : Nat → Heap → Prop} {keep news : Led} {Q : Value → Shared → Prop}
    {Bd : Nat → Value → (Str → Option Value) → Prop}
    (W : KTurns prog w A target I fp wr n P Md St) (hsz : n ≤ sizeLine)
    (hself : ∀ (s : Shared) (Q : Value → Shared → Prop) (E : Value → Shared → Prop), St 0 s.heap → Q (.ref I) s → wpAny (model prog w) A (pyIter (.ref I)) Q E s)
    (hobj : ∀ i h, St (i + 1) h → ∃ its : Led, its.map (·.1) = adr ∧ (∀ p ∈ its, h.get? p.1 = some p.2) ∧ Idle its)
    (hadr : ∀ b ∈ adr, b ∈ fp ∧ h₀.get? b = none) (hwr : ∀ b ∈ wr, b ∈ adr)
    (hfp : ∀ b ∈ fp, b ∈ adr ∨ ∃ o, (b, o) ∈ keep) (hL : L ∉ fp) (hnw : ∀ p ∈ news, p.1 ∉ adr) (hst : St 0 s.heap) (hlt : ∀ b ∈ fp, b < s.heap.objs.size)
    (hcell : ∀ y ∈ scope.names, y.2 ≠ .cell) (hkind : scope.kind = .function)
    (hassign : ∀ i v (s : Shared) (C : Addr) (m' : Str → Option Value) (Q : Unit → Shared → Prop) (E : Value → Shared → Prop), P i v s.heap → s.heap.Ns C m' →
      (∀ h' tk m'', h'.Ns C m'' → (∀ c o, c ≠ C → s.heap.get? c = some o → h'.get? c = some o) → Bd i v m'' → Q () { s with heap := h', toks := tk }) → wpAny (model prog w) A (assign target (compEnvC scope cl C env) v) Q E s)
    (F : Fr h₀ L s.heap m) (N : News h₀ L s.heap news) (hk : ∀ p ∈ keep, p ∈ news)
    (J : Nat → List Value → Led → Prop) (h0 : J 0 [] news)
    (step : ∀ i v (C : Addr) oC (D : Addr) m₂ ys news₁ h₁ tk₁ its (E' : Value → Shared → Prop), i < n → Bd i v m₂ → NsObj oC m₂ → J i ys news₁ → (∀ p ∈ keep, p ∈ news₁) → Idle its → C ≠ D → (∀ p ∈ its, p.1 ≠ C ∧ p.1 ≠ D) → (∀ p ∈ news₁, p.1 ≠ C ∧ p.1 ≠ D ∧ ∀ q ∈ its, p.1 ≠ q.1) →
      Fr h₀ L h₁ m → News h₀ L h₁ (its ++ (C, oC) :: (D, lst ys) :: news₁) →
      wpAny (model prog w) A (forIn ifs true fun c r => if r = true then do let ok ← isTrue c (compEnvC scope cl C env) (eval c (compEnvC scope cl C env)); pure (ForInStep.yield ok) else pure (ForInStep.yield r)) (fun ok s₃ =>
        if ok = true then wpAny (model prog w) A (eval elt (compEnvC scope cl C env)) (fun y s₄ => CompStep h₀ L m { s with heap := h₁, toks := tk₁ } its C oC D ys keep (J (i + 1) (ys ++ [y])) s₄) E' s₃
        else CompStep h₀ L m { s with heap := h₁, toks := tk₁ } its C oC D ys keep (J (i + 1) ys) s₃) E' { s with heap := h₁, toks := tk₁ })
    (fin : ∀ ys news₁ D h₁ tk₁, J n ys news₁ → (∀ p ∈ news₁, p.1 ≠ D) → Fr h₀ L h₁ m → News h₀ L h₁ ((D, lst ys) :: news₁) → Q (.ref D) { s with heap := h₁, toks := tk₁ }) :
    wpAny (model prog w) A (newList []) (fun acc s₃ => wpAny (model prog w) A (newFunctionEnv scope env.globals cl [] env.qual none .none (some env)) (fun cenv s₄ =>
      codeAny (model prog w) A (.compStart (.ListComp elt [⟨target, iter, ifs, 0⟩] scope pos) 0 (.ref I) acc { cenv with scope := relabel scope env }) (compPost (model prog w) A E none Q acc cenv.locals) s₄) E s₃) E s := by
  refine wpAny_newObj_type (wpAny_newFunctionEnv hcell (by intro y hy; simp at hy) (fun h₁ hns₁ hsb₁ => ?_) hkind)
  dsimp only at hns₁ hsb₁ ⊢
  generalize hH2 : s.heap.push { cls := .type "list", dict := none, data := .seq ([] : List Value).toArray } = H2 at hns₁ hsb₁ ⊢
  have hC : H2.objs.size = s.heap.objs.size + 1 := by rw [← hH2, Heap.size_push]
  have below : ∀ b, b < s.heap.objs.size → b ≠ H2.objs.size ∧ b ≠ s.heap.objs.size := fun b hb => ⟨by rw [hC]; exact Nat.ne_of_lt (Nat.lt_succ_of_lt hb), Nat.ne_of_lt hb⟩
  have hDC : s.heap.objs.size ≠ H2.objs.size := by rw [hC]; exact Nat.ne_of_lt (Nat.lt_succ_self _)
  have old : ∀ b o, s.heap.get? b = some o → h₁.get? b = some o := fun b o e => hsb₁.extBut b o (below b (Heap.lt_size e)).1 (Heap.get?_push_of_some _ (hH2 ▸ Heap.get?_push_of_some _ e))
  have hacc : h₁.get? s.heap.objs.size = some (lst []) := hsb₁.extBut _ _ hDC (Heap.get?_push_of_some _ (hH2 ▸ Heap.get?_push_size _ rfl))
  have hst₁ : St 0 h₁ := W.frame _ _ _ hst fun b _ o e => old b o e
  have fresh₀ : ∀ a, s.heap.objs.size ≤ a → h₀.get? a = none := fun a ha => by
    cases e : h₀.get? a with
    | none => rfl
    | some o' => exact absurd (Heap.lt_size (F.keep a o' e)) (Nat.not_lt.mpr ha)
  have hD₀ : h₀.get? s.heap.objs.size = none := fresh₀ _ (Nat.le_refl _)
  have hC₀ : h₀.get? H2.objs.size = none := fresh₀ _ (by rw [hC]; exact Nat.le_succ _)
  have hDL : s.heap.objs.size ≠ L := Ne.symm (below L F.ns.lt).2
  have hCL : H2.objs.size ≠ L := Ne.symm (below L F.ns.lt).1
  have hfC : ∀ b ∈ fp, b ≠ H2.objs.size ∧ b ≠ s.heap.objs.size := fun b hb => below b (hlt b hb)
  have hwC : H2.objs.size ∉ wr := fun hm => (hfC _ (hadr _ (hwr _ hm)).1).1 rfl
  have hwD : s.heap.objs.size ∉ wr := fun hm => (hfC _ (hadr _ (hwr _ hm)).1).2 rfl
  have hwL : L ∉ wr := fun hm => hL (hadr _ (hwr _ hm)).1
  generalize hCe : H2.objs.size = C at *
  generalize hDe : s.heap.objs.size = D at *
  have loop : ∀ s₃ : Shared, s₃ = { s with heap := h₁, toks := s.toks + ([] : List (Str × Value)).length } →
      codeAny (model prog w) A (.compLoop (.ListComp elt [⟨target, iter, ifs, 0⟩] scope pos) 0 (.ref I) (.ref D) (compEnvC scope cl C env)) (compPost (model prog w) A E none Q (.ref D) C) s₃ := by
    rintro s₃ rfl
    refine comp_loop
      (fun k s' => ∃ h' tk i ys m' news', s' = { s with heap := h', toks := tk } ∧ i ≤ n ∧ k = n + 1 - i ∧ ys.length ≤ i ∧ St i h' ∧ Fr h₀ L h' m ∧ h'.Ns C m' ∧ News h₀ L h' ((D, lst ys) :: news') ∧
        (∀ p ∈ news', p.1 ≠ C ∧ p.1 ≠ D ∧ p.1 ∉ adr) ∧ (∀ p ∈ keep, p ∈ news') ∧ J i ys news') ?_ (n + 1)
      ⟨h₁, _, 0, [], _, news, rfl, Nat.zero_le _, rfl, Nat.le_refl _, hst₁, F.keeps old, hns₁, fun p hp => ?_, fun p hp => ?_, hk, h0⟩
    · rintro k s' ⟨h', tk, i, ys, m', news', rfl, hi, rfl, hyl, hst', F', hn', N', off', hkp, hJ⟩
      by_cases hlt' : i < n
      · refine W.item i _ _ _ hlt' hst' fun v h₂ tk₂ hM hk₂ => ?_
        refine W.go i v _ _ _ hM fun h₃ hP hst₃ hk₃ => ?_
        have hk₃' : ∀ b o, b ∉ wr → h'.get? b = some o → h₃.get? b = some o := fun b o hb e => hk₃ b o hb (hk₂ b o hb e)
        refine hassign i v _ C m' _ _ hP (hn'.at' fun o e => hk₃' _ o hwC e) fun h₄ tk₄ m'' hn₄ hs₄ hBd => ?_
        have hst₄ : St (i + 1) h₄ := W.frame _ _ _ hst₃ fun b hb o e => hs₄ b o (hfC b hb).1 e
        obtain ⟨its, hits, hval, hidle⟩ := hobj i h₄ hst₄
        have inAdr : ∀ q ∈ its, q.1 ∈ adr := fun q hq => hits ▸ List.mem_map.mpr ⟨q, hq, rfl⟩
        obtain ⟨oC, heC, hoC⟩ := LCg.ns_obj hn₄
        have k₄ : ∀ b o, b ∉ wr → b ≠ C → h'.get? b = some o → h₄.get? b = some o := fun b o hb hc e => hs₄ b o hc (hk₃' b o hb e)
        have F₄ : Fr h₀ L h₄ m := ⟨F'.ns.at' fun o e => k₄ L o hwL (Ne.symm hCL) e, fun b o e => k₄ b o (fun hm => by rw [(hadr _ (hwr _ hm)).2] at e; cases e) (fun q => by rw [q, hC₀] at e; cases e) (F'.keep b o e), F'.above⟩
        have N₄ : News h₀ L h₄ (its ++ (C, oC) :: (D, lst ys) :: news') := fun p hp => by
          rcases List.mem_append.mp hp with hp | hp
          · exact ⟨hval p hp, fun q => hL (q ▸ (hadr _ (inAdr p hp)).1), (hadr _ (inAdr p hp)).2⟩
          · rcases List.mem_cons.mp hp with rfl | hp
            · exact ⟨heC, hCL, hC₀⟩
            · rcases List.mem_cons.mp hp with rfl | hp
              · exact ⟨k₄ _ _ hwD hDC (N' _ (.head _)).1, hDL, hD₀⟩
              · have z := N' p (.tail _ hp)
                have o := off' p hp
                exact ⟨k₄ _ _ (fun hm => o.2.2 (hwr _ hm)) o.1 z.1, z.2⟩
        have off4 : ∀ p ∈ news', p.1 ≠ C ∧ p.1 ≠ D ∧ ∀ q ∈ its, p.1 ≠ q.1 := fun p hp => ⟨(off' p hp).1, (off' p hp).2.1, fun q hq e => (off' p hp).2.2 (e ▸ inAdr q hq)⟩
        have after : ∀ (R : Led → Prop) (s₅ : Shared), CompStep h₀ L m { s with heap := h₄, toks := tk₄ } its C oC D ys keep R s₅ → ∃ h₅ tk₅ news₅, s₅ = { s with heap := h₅, toks := tk₅ } ∧ St (i + 1) h₅ ∧ Fr h₀ L h₅ m ∧ h₅.Ns C m'' ∧ News h₀ L h₅ ((D, lst ys) :: news₅) ∧
            (∀ p ∈ news₅, p.1 ≠ C ∧ p.1 ≠ D ∧ p.1 ∉ adr) ∧ (∀ p ∈ keep, p ∈ news₅) ∧ R news₅ := by
          rintro R s₅ ⟨h₅, tk₅, news₅, rfl, F₅, N₅, off₅, hk₅, r⟩
          have hiE : ∀ q ∈ its, h₅.get? q.1 = some q.2 := fun q hq => (N₅ q (List.mem_append_left _ hq)).1
          refine ⟨h₅, tk₅, news₅, rfl, W.frame _ _ _ hst₄ fun b hb o e => ?_, F₅, hoC.ns (N₅ (C, oC) (List.mem_append_right _ (.head _))).1, fun p hp => N₅ p (List.mem_append_right _ (.tail _ hp)), fun p hp => ⟨(off₅ p hp).1, (off₅ p hp).2.1, fun hm => ?_⟩, hk₅, r⟩
          · rcases hfp b hb with h3 | ⟨o', h3⟩
            · rw [← hits] at h3
              obtain ⟨⟨qa, qo⟩, hq, hqe⟩ := List.mem_map.mp h3
              have hqe' : qa = b := hqe
              subst hqe'
              have h5 : h₄.get? qa = some qo := hval _ hq
              rw [e] at h5
              rw [Option.some.inj h5]
              exact hiE _ hq
            · have h4 : h₄.get? b = some o' := (N₄ _ (List.mem_append_right _ (.tail _ (.tail _ (hkp _ h3))))).1
              rw [e] at h4
              rw [Option.some.inj h4]
              exact (N₅ _ (List.mem_append_right _ (.tail _ (.tail _ (hk₅ _ h3))))).1
          · rw [← hits] at hm
            obtain ⟨q, hq, hqe⟩ := List.mem_map.mp hm
            exact (off₅ p hp).2.2 q hq hqe.symm
        refine wpAny_mono (step i v C oC D m'' ys news' h₄ tk₄ its _ hlt' hBd hoC hJ hkp hidle (Ne.symm hDC) (fun p hp => hfC _ (hadr _ (inAdr p hp)).1) off4 F₄ N₄) (fun ok s₅ h₅ => ?_) fun _ _ e => e
        cases ok with
        | false =>
          simp only [Bool.false_eq_true, if_false] at h₅ ⊢
          obtain ⟨h₆, tk₆, news₆, rfl, hst₆, F₆, hn₆, N₆, off₆, hk₆, r⟩ := after _ _ h₅
          exact ⟨n + 1 - (i + 1), by omega, h₆, tk₆, i + 1, ys, _, news₆, rfl, hlt', rfl, Nat.le_succ_of_le hyl, hst₆, F₆, hn₆, N₆, off₆, hk₆, r⟩
        | true =>
          simp only [if_true] at h₅ ⊢
          refine wpAny_mono h₅ (fun y s₆ h₆' => ?_) fun _ _ e => e
          obtain ⟨h₆, tk₆, news₆, rfl, hst₆, F₆, hn₆, N₆, off₆, hk₆, r⟩ := after _ _ h₆'
          refine append_at (hsz := by show ys.toArray.size ≤ sizeLine; rw [List.size_toArray]; exact Nat.le_trans (Nat.le_trans hyl hi) hsz) (N₆ _ (.head _)).1 fun h₇ hs₇ hD₇ => ?_
          refine ⟨n + 1 - (i + 1), by omega, h₇, tk₆, i + 1, ys ++ [y], _, news₆, rfl, hlt', rfl, by rw [List.length_append, List.length_singleton]; exact Nat.succ_le_succ hyl, W.frame _ _ _ hst₆ fun b hb o e => hs₇.extBut b o (hfC b hb).2 e, F₆.change hs₇ hDL hD₀,
            hn₆.sameBut hs₇ (Ne.symm hDC), fun p hp => ?_, off₆, hk₆, r⟩
          rcases List.mem_cons.mp hp with rfl | hp
          · exact ⟨hD₇.trans (congrArg some (LCg.lst_snoc ys y)), hDL, hD₀⟩
          · have z := N₆ p (.tail _ hp)
            exact ⟨hs₇.extBut _ _ (off₆ p hp).2.1 z.1, z.2⟩
      · obtain rfl : i = n := Nat.le_antisymm hi (Nat.not_lt.mp hlt')
        refine W.done _ _ _ hst' fun h₂ tk₂ hk₂ => ?_
        refine ⟨m', hn'.at' fun o e => hk₂ _ o hwC e, fun h₃ hs₃ => ?_⟩
        have k₃ : ∀ b o, b ∉ wr → b ≠ C → h'.get? b = some o → h₃.get? b = some o := fun b o hb hc e => hs₃.extBut b o hc (hk₂ b o hb e)
        refine fin ys news' D h₃ tk₂ hJ (fun p hp => (off' p hp).2.1) ⟨F'.ns.at' fun o e => k₃ L o hwL (Ne.symm hCL) e, fun b o e => k₃ b o (fun hm => by rw [(hadr _ (hwr _ hm)).2] at e; cases e) (fun q => by rw [q, hC₀] at e; cases e) (F'.keep b o e), F'.above⟩ fun p hp => ?_
        rcases List.mem_cons.mp hp with rfl | hp
        · exact ⟨k₃ _ _ hwD hDC (N' _ (.head _)).1, hDL, hD₀⟩
        · have z := N' p (.tail _ hp)
          have o := off' p hp
          exact ⟨k₃ _ _ (fun hm => o.2.2 (hwr _ hm)) o.1 z.1, z.2⟩
    · rcases List.mem_cons.mp hp with rfl | hp
      · exact ⟨hacc, hDL, hD₀⟩
      · exact ⟨old _ _ (N p hp).1, (N p hp).2⟩
    · have hl := Heap.lt_size (N p hp).1
      rw [hDe] at hl
      exact ⟨(below _ hl).1, (below _ hl).2, hnw p hp⟩
  exact codeAny_compStart_list (loop _ rfl) (hself _ _ _ hst₁ (loop _ rfl))
end
end

/- part Cmp2 -/
section
open PyProof.Rows.LCg (NsObj lst)

def Hold (P : Prop) : Prop := P
theorem Hold.mk {P : Prop} (h : Hold P) : P := h
theorem Hold.of {P : Prop} (h : P) : Hold P := h

def CompAt (prog : Program) (w : World) (A : Around) (E Q : Value → Shared → Prop) (elt target iter : PySem.Expr) (ifs : List PySem.Expr) (scope : Scope) (cl : List (Str × Addr)) (pos : Pos) (env : Env) (it : Value) (s : Shared) : Prop :=
  wpAny (model prog w) A (newList []) (fun acc s₃ => wpAny (model prog w) A (newFunctionEnv scope env.globals cl [] env.qual none .none (some env)) (fun cenv s₄ =>
      codeAny (model prog w) A (.compStart (.ListComp elt [⟨target, iter, ifs, 0⟩] scope pos) 0 it acc { cenv with scope := relabel scope env }) (compPost (model prog w) A E none Q acc cenv.locals) s₄) E s₃) E s

section
variable {prog : Program} {w : World} {A : Around} {E : Value → Shared → Prop} {s : Shared} {env : Env} {h₀ : Heap} {L : Addr} {m : Str → Option Value}

theorem comp_open {elt target iter : PySem.Expr} {ifs : List PySem.Expr} {scope : Scope} {cl : List (Str × Addr)} {pos : Pos} {Q : Value → Shared → Prop}
    (hclos : closureFor scope env = pure cl) (hkind : scope.kind = .function) (hnames : ∀ x ∈ scope.names, x.2 = .local → scope.names.lookup x.1 = some .local)
    (h : wpAny (model prog w) A (eval iter env) (fun x s₁ => wpAny (model prog w) A (pyIter x) (fun it s₂ => CompAt prog w A E Q elt target iter ifs scope cl pos env it s₂) E s₁) E s)
    (hs : ∀ x, foldedSetIterable iter env x = pure x := by intro _; rfl) :
    wpAny (model prog w) A (eval (.ListComp elt [⟨target, iter, ifs, 0⟩] scope pos) env) Q E s := by
  rw [eval_ListComp]
  exact wpAny_comprehension_free (use := none) rfl hs hclos hkind hnames h

/-- what a turn of a comprehension is to show -/
def CompTurn (prog : Program) (w : World) (A : Around) (h₀ : Heap) (L : Addr) (m : Str → Option Value) (env : Env) (s : Shared) (elt : PySem.Expr) (ifs : List PySem.Expr) (scope : Scope) (cl : List (Str × Addr)) (keep : Led) (Bd : (Str → Option Value) → Prop) (ys : List Value) (news₁ : Led) (J' : List Value → Led → Prop) : Prop :=
  ∀ (C : Addr) oC (D : Addr) m₂ h₁ tk₁ its (E' : Value → Shared → Prop), Bd m₂ → NsObj oC m₂ → Idle its → C ≠ D → (∀ p ∈ its, p.1 ≠ C ∧ p.1 ≠ D) → (∀ p ∈ news₁, p.1 ≠ C ∧ p.1 ≠ D ∧ ∀ q ∈ its, p.1 ≠ q.1) →
      Fr h₀ L h₁ m → News h₀ L h₁ (its ++ (C, oC) :: (D, lst ys) :: news₁) →
      wpAny (model prog w) A (forIn ifs true fun c r => if r = true then do let ok ← isTrue c (compEnvC scope cl C env) (eval c (compEnvC scope cl C env)); pure (ForInStep.yield ok) else pure (ForInStep.yield r)) (fun ok s₃ =>
        if ok = true then wpAny (model prog w) A (eval elt (compEnvC scope cl C env)) (fun y s₄ => CompStep h₀ L m { s with heap := h₁, toks := tk₁ } its C oC D ys keep (J' (ys ++ [y])) s₄) E' s₃
        else CompStep h₀ L m { s with heap := h₁, toks := tk₁ } its C oC D ys keep (J' ys) s₃) E' { s with heap := h₁, toks := tk₁ }

theorem comp_range {elt iter : PySem.Expr} {x : Str} {px : Pos} {ifs : List PySem.Expr} {scope : Scope} {cl : List (Str × Addr)} {pos : Pos} {b : Int} {t : Tok} {n : Nat} {news : Led} {Q : Value → Shared → Prop}
    (hb : b = n) (hn : n ≤ 1000) (hh : A.handled = none) (hcell : ∀ y ∈ scope.names, y.2 ≠ .cell) (hkind : scope.kind = .function) (hx : scope.names.lookup x = some .local)
    (F : Fr h₀ L s.heap m) (N : News h₀ L s.heap news) (J : Nat → List Value → Led → Prop) (h0 : J 0 [] news)
    (step : ∀ i t ys news₁, i < n → J i ys news₁ → CompTurn prog w A h₀ L m env s elt ifs scope cl [] (fun m₂ => m₂ x = some (.int i t)) ys news₁ (J (i + 1)))
    (fin : ∀ ys news₁ D h₁ tk₁, J n ys news₁ → (∀ p ∈ news₁, p.1 ≠ D) → Fr h₀ L h₁ m → News h₀ L h₁ ((D, lst ys) :: news₁) → Q (.ref D) { s with heap := h₁, toks := tk₁ }) :
    wpAny (model prog w) A (call (.type "range") [.int b t]) (fun xv s₁ => wpAny (model prog w) A (pyIter xv) (fun it s₂ => CompAt prog w A E Q elt (.Name x px) iter ifs scope cl pos env it s₂) E s₁) E s := by
  subst hb
  refine call_range_1 ?_
  have hrs : Builtin.Range.rangeSize 0 (n : Int) 1 = (n : Int) := by rw [rangeSize_one]; split <;> omega
  refine wpAny_pyIter_range (IsRange.new _ 0 n 1 _ _ _) (small_one (by decide) (by decide) (by omega) (by omega)) ?_
  rw [hrs]
  dsimp only
  unfold CompAt
  have up : ∀ b o, s.heap.get? b = some o → ((s.heap.push { cls := .type "range", data := .fields #[.int 0 s.toks, .int n t, .int 1 (s.toks + 1)] }).push { cls := .type "range_iterator", data := .fields #[rawInt 0, rawInt n, rawInt 1] }).get? b = some o := fun b o e => Heap.get?_push_of_some _ (Heap.get?_push_of_some _ e)
  have hI : (s.heap.push { cls := .type "range", data := .fields #[.int 0 s.toks, .int n t, .int 1 (s.toks + 1)] }).objs.size = s.heap.objs.size + 1 := Heap.size_push ..
  generalize hg : (s.heap.push { cls := .type "range", data := .fields #[.int 0 s.toks, .int n t, .int 1 (s.toks + 1)] }) = g at hI up ⊢
  have hLn : L ≠ s.heap.objs.size + 1 := Nat.ne_of_lt (Nat.lt_succ_of_lt F.ns.lt)
  have fresh₀ : h₀.get? (s.heap.objs.size + 1) = none := by
    cases e : h₀.get? (s.heap.objs.size + 1) with
    | none => rfl
    | some o' => exact absurd (Heap.lt_size (F.keep _ o' e)) (Nat.not_lt.mpr (Nat.le_succ _))
  rw [hI]
  refine comp_core (prog := prog) (w := w) (A := A) (wr := [s.heap.objs.size + 1]) (fp := [s.heap.objs.size + 1]) (adr := [s.heap.objs.size + 1]) (keep := []) (Bd := fun i v m₂ => ∃ t, v = .int i t ∧ m₂ x = some v)
    (KTurns.ofWalks (LCg.range_walks hh 0 n) (fun i v s Q E st q => wpAny_of_eq rfl q)) (Nat.le_trans hn (by decide)) (fun s' Q' E' st q => (LCg.range_walks hh 0 n).self 0 _ _ _ st q) (fun i h st => ?_) (fun b hb => ?_) (fun b hb => hb) (fun b hb => .inl hb) ?_ (fun p hp hI => ?_)
    ?_ (fun b hb => ?_) hcell hkind (fun i v s' C m' Q' E' hP hn' hq => ?_) (F.keeps up) (fun p hp => ⟨up _ _ (N p hp).1, (N p hp).2⟩) (fun p hp => nomatch hp) J h0
    (fun i v C oC D m₂ ys news₁ h₁ tk₁ its E' hi hB hoC hJ _ hid hCD hap1 hap2 F' N' => ?_) fin
  · exact ⟨[(s.heap.objs.size + 1, _)], rfl, fun p hp => by rw [List.mem_singleton.mp hp]; exact st, fun p hp => by rw [List.mem_singleton.mp hp]; exact notGood_cls (n := "range_iterator") rfl (by decide)⟩
  · rw [List.mem_singleton.mp hb]; exact ⟨.head _, fresh₀⟩
  · exact fun h => hLn (List.mem_singleton.mp h)
  · have := Heap.lt_size (N p hp).1
    rw [List.mem_singleton.mp hI] at this
    exact absurd this (Nat.not_lt.mpr (Nat.le_succ _))
  · show IsRangeIter _ _ _ _ _
    have := Heap.get?_push_size (h := g) (o := { cls := .type "range_iterator", data := .fields #[rawInt 0, rawInt n, rawInt 1] }) (rfl)
    rw [hI] at this
    simpa using this
  · rw [List.mem_singleton.mp hb]
    show s.heap.objs.size + 1 < (g.push _).objs.size
    rw [Heap.size_push, hI]; exact Nat.lt_succ_self _
  · obtain ⟨t', hv⟩ := hP
    have hv' : v = .int i t' := by rw [hv]; simp
    refine wpAny_assign_Name (wpAny_storeName_local (lookup_relabel_local hx) hn' (fun h₃ hn₃ hs₃ => hq h₃ _ _ hn₃ (fun c o hc e => hs₃.extBut c o hc e) ⟨t', hv', by simp⟩) (by simp [compEnvC, relabel, hkind]))
  · obtain ⟨t', hv, hm⟩ := hB
    subst hv
    exact step i t' ys news₁ hi hJ C oC D m₂ h₁ tk₁ its E' hm hoC hid hCD hap1 hap2 F' N'

theorem comp_src (k : Bool) {elt iter : PySem.Expr} {x : Str} {px : Pos} {ifs : List PySem.Expr} {scope : Scope} {cl : List (Str × Addr)} {pos : Pos} {l : Addr} {lo : Obj} {xs : Array Value} {news : Led} {Q : Value → Shared → Prop}
    (hh : A.handled = none) (hcell : ∀ y ∈ scope.names, y.2 ≠ .cell) (hkind : scope.kind = .function) (hx : scope.names.lookup x = some .local) (hsz : xs.size ≤ sizeLine)
    (F : Fr h₀ L s.heap m) (N : News h₀ L s.heap news) (hm : (l, lo) ∈ news) (hs : SrcO k lo xs) (J : Nat → List Value → Led → Prop) (h0 : J 0 [] news)
    (step : ∀ i v ys news₁, xs[i]? = some v → J i ys news₁ → (l, lo) ∈ news₁ → CompTurn prog w A h₀ L m env s elt ifs scope cl [(l, lo)] (fun m₂ => m₂ x = some v) ys news₁ (J (i + 1)))
    (fin : ∀ ys news₁ D h₁ tk₁, J xs.size ys news₁ → (∀ p ∈ news₁, p.1 ≠ D) → Fr h₀ L h₁ m → News h₀ L h₁ ((D, lst ys) :: news₁) → Q (.ref D) { s with heap := h₁, toks := tk₁ }) :
    wpAny (model prog w) A (pyIter (.ref l)) (fun it s₂ => CompAt prog w A E Q elt (.Name x px) iter ifs scope cl pos env it s₂) E s := by
  have hl : SrcIs k s.heap l xs := hs.is (N _ hm).1
  have hlt := hl.lt
  have hne : l ≠ s.heap.objs.size := Nat.ne_of_lt hlt
  refine hl.iter ?_
  unfold CompAt
  have up : ∀ b o, s.heap.get? b = some o → (s.heap.push (itObj k l)).get? b = some o := fun b o e => Heap.get?_push_of_some _ e
  refine comp_core (prog := prog) (w := w) (A := A) (adr := [s.heap.objs.size]) (keep := [(l, lo)]) (Bd := fun i v m₂ => xs[i]? = some v ∧ m₂ x = some v)
    (KTurns.src hh k hne xs) hsz (fun s' Q' E' st q => ?_) (fun i h st => ?_) (fun b hb => ?_) (fun b hb => hb) (fun b hb => ?_) ?_ (fun p hp hI => ?_)
    ⟨ItIs.new, hl.at fun o e => Heap.get?_push_of_some _ e⟩ (fun b hb => ?_) hcell hkind (fun i v s' C m' Q' E' hP hn' hq => ?_) (F.push _) (fun p hp => ⟨Heap.get?_push_of_some _ (N p hp).1, (N p hp).2⟩) (fun p hp => by rw [List.mem_singleton.mp hp]; exact hm) J h0
    (fun i v C oC D m₂ ys news₁ h₁ tk₁ its E' hi hB hoC hJ hkp hid hCD hap1 hap2 F' N' => ?_) fin
  · cases k
    · exact (Walks.tuple (prog := prog) (w := w) hh _ l hne xs).self 0 _ _ _ st q
    · exact (Walks.list (prog := prog) (w := w) hh _ l hne xs).self 0 _ _ _ st q
  · obtain ⟨o, e, hg⟩ := st.1.obj
    exact ⟨[(s.heap.objs.size, o)], rfl, fun p hp => by rw [List.mem_singleton.mp hp]; exact e, fun p hp => by rw [List.mem_singleton.mp hp]; exact hg⟩
  · rw [List.mem_singleton.mp hb]
    exact ⟨.head _, next_is_new F⟩
  · rcases List.mem_cons.mp hb with e | hb
    · exact .inl (by rw [e]; exact .head _)
    · exact .inr ⟨lo, by rw [List.mem_singleton.mp hb]; exact .head _⟩
  · intro hI
    rcases List.mem_cons.mp hI with e | hI
    · exact absurd F.ns.lt (e ▸ Nat.lt_irrefl _)
    · exact (N _ hm).2.1 (List.mem_singleton.mp hI).symm
  · exact absurd (Heap.lt_size (N p hp).1) ((List.mem_singleton.mp hI) ▸ Nat.lt_irrefl _)
  · show b < (s.heap.push _).objs.size
    rw [Heap.size_push]
    rcases List.mem_cons.mp hb with rfl | hb
    · exact Nat.lt_succ_self _
    · rw [List.mem_singleton.mp hb]; exact Nat.lt_succ_of_lt hlt
  · refine wpAny_assign_Name (wpAny_storeName_local (lookup_relabel_local hx) hn' (fun h₃ hn₃ hs₃ => hq h₃ _ _ hn₃ (fun c o hc e => hs₃.extBut c o hc e) ⟨hP, by simp⟩) (by simp [compEnvC, relabel, hkind]))
  · exact step i v ys news₁ hB.1 hJ (hkp _ (.head _)) C oC D m₂ h₁ tk₁ its E' hB.2 hoC hid hCD hap1 hap2 F' N'

theorem comp_zip {k1 k2 : Bool} {elt iter : PySem.Expr} {x y : Str} {px py tp : Pos} {kk : Nat} {ifs : List PySem.Expr} {scope : Scope} {cl : List (Str × Addr)} {pos : Pos} {l1 l2 : Addr} {lo1 lo2 : Obj} {xs ys : Array Value} {news : Led} {Q : Value → Shared → Prop}
    (hh : A.handled = none) (hcell : ∀ y ∈ scope.names, y.2 ≠ .cell) (hkind : scope.kind = .function) (hx : scope.names.lookup x = some .local) (hy : scope.names.lookup y = some .local) (hsz : xs.size ≤ sizeLine)
    (F : Fr h₀ L s.heap m) (N : News h₀ L s.heap news) (hm1 : (l1, lo1) ∈ news) (hs1 : SrcO k1 lo1 xs) (hm2 : (l2, lo2) ∈ news) (hs2 : SrcO k2 lo2 ys)
    (hxy : xs.size = ys.size) (hrx : ∀ (i : Nat) (v : Value), xs[i]? = some v → ∃ a : Addr, v = Value.ref a) (hxn : (x == y) = false)
    (J : Nat → List Value → Led → Prop) (h0 : J 0 [] news)
    (step : ∀ i u v zs news₁, xs[i]? = some u → ys[i]? = some v → J i zs news₁ → (l1, lo1) ∈ news₁ → (l2, lo2) ∈ news₁ → CompTurn prog w A h₀ L m env s elt ifs scope cl [(l1, lo1), (l2, lo2)] (fun m₂ => m₂ x = some u ∧ m₂ y = some v) zs news₁ (J (i + 1)))
    (fin : ∀ zs news₁ D h₁ tk₁, J xs.size zs news₁ → (∀ p ∈ news₁, p.1 ≠ D) → Fr h₀ L h₁ m → News h₀ L h₁ ((D, lst zs) :: news₁) → Q (.ref D) { s with heap := h₁, toks := tk₁ }) :
    wpAny (model prog w) A (call (.type "zip") [.ref l1, .ref l2]) (fun xv s₁ => wpAny (model prog w) A (pyIter xv) (fun it s₂ => CompAt prog w A E Q elt (.Tuple [.Name x px, .Name y py] kk tp) iter ifs scope cl pos env it s₂) E s₁) E s := by
  have hl1 : SrcIs k1 s.heap l1 xs := hs1.is (N _ hm1).1
  have hl2 : SrcIs k2 s.heap l2 ys := hs2.is (N _ hm2).1
  have D := apart_new hl1.lt hl2.lt
  have hh1 : A.in1.handled = none := hh
  refine call_zip hl1 hl2 fun h' Z hk => ?_
  refine wpAny_pyIter_zip Z.1 ?_
  unfold CompAt
  have new : ∀ j : Nat, h₀.get? (s.heap.objs.size + j) = none := fun j => by
    cases e : h₀.get? (s.heap.objs.size + j) with
    | none => rfl
    | some o => exact absurd (Heap.lt_size (F.keep _ _ e)) (Nat.not_lt.mpr (Nat.le_add_right _ _))
  have off : ∀ a : Nat, a < s.heap.objs.size → a ∉ ([s.heap.objs.size + 4, s.heap.objs.size + 2, s.heap.objs.size + 3, s.heap.objs.size, s.heap.objs.size + 1] : List Nat) := fun a ha hI => by
    simp only [List.mem_cons, List.not_mem_nil, or_false] at hI
    omega
  have hobj : ∀ i h, (∃ a b, ZAt (fun n h => ItIs k1 h s.heap.objs.size l1 n ∧ SrcIs k1 h l1 xs) (fun n h => ItIs k2 h (s.heap.objs.size + 1) l2 n ∧ SrcIs k2 h l2 ys) (s.heap.objs.size + 4) (s.heap.objs.size + 2) (s.heap.objs.size + 3) s.heap.objs.size (s.heap.objs.size + 1) i .none a b h ∧ ∀ j, i = j + 1 → xs[j]? = some a) →
      (∀ j a, i = j + 1 → xs[j]? = some a → ∃ r : Addr, a = .ref r) → 0 < i →
      ∃ its : Led, its.map (·.1) = [s.heap.objs.size + 4, s.heap.objs.size + 2, s.heap.objs.size + 3, s.heap.objs.size, s.heap.objs.size + 1] ∧ (∀ p ∈ its, h.get? p.1 = some p.2) ∧ Idle its := by
    rintro i h ⟨a, b, ⟨hz, hTI, hTO, h1, h2⟩, hj⟩ hr0 hi
    obtain ⟨o1, e1, g1⟩ := h1.1.obj
    obtain ⟨o2, e2, g2⟩ := h2.1.obj
    obtain ⟨j, rfl⟩ : ∃ j, i = j + 1 := ⟨i - 1, by omega⟩
    obtain ⟨r, hr⟩ := hr0 j a rfl (hj j rfl)
    subst hr
    have q1 : ∃ o : Obj, h.get? (s.heap.objs.size + 4) = some o ∧ ¬ Good o := ⟨_, hz, notGood_cls (n := "zip") rfl (by decide)⟩
    have q2 : ∃ o : Obj, h.get? (s.heap.objs.size + 2) = some o ∧ ¬ Good o := ⟨_, hTI, notGood_ref⟩
    have q3 : ∃ o : Obj, h.get? (s.heap.objs.size + 3) = some o ∧ ¬ Good o := ⟨_, hTO, notGood_ref⟩
    obtain ⟨oz, ez, gz⟩ := q1
    obtain ⟨oi, ei, gi⟩ := q2
    obtain ⟨oo, eo, go⟩ := q3
    refine ⟨[(s.heap.objs.size + 4, oz), (s.heap.objs.size + 2, oi), (s.heap.objs.size + 3, oo), (s.heap.objs.size, o1), (s.heap.objs.size + 1, o2)], rfl, fun p hp => ?_, fun p hp => ?_⟩
    · simp only [List.mem_cons, List.not_mem_nil, or_false] at hp
      rcases hp with rfl | rfl | rfl | rfl | rfl <;> assumption
    · simp only [List.mem_cons, List.not_mem_nil, or_false] at hp
      rcases hp with rfl | rfl | rfl | rfl | rfl <;> assumption
  refine comp_core (prog := prog) (w := w) (A := A) (adr := [s.heap.objs.size + 4, s.heap.objs.size + 2, s.heap.objs.size + 3, s.heap.objs.size, s.heap.objs.size + 1]) (keep := [(l1, lo1), (l2, lo2)])
    (Bd := fun i v m₂ => ∃ u z, xs[i]? = some u ∧ ys[i]? = some z ∧ m₂ x = some u ∧ m₂ y = some z)
    (KTurns.ofWalksU (WalksU.zip D (Nx.src hh1 (k := k1) D.d3.2.2.2.1 xs) (Nx.src hh1 (k := k2) D.d3.2.2.2.2.2.2 ys) hxy)) hsz (fun s' Q' E' st q => ?_) (fun i h st => hobj (i + 1) h st (fun j a _ e => hrx j a e) (Nat.succ_pos _)) (fun b hb => ?_) (fun b hb => ?_) (fun b hb => ?_) ?_ (fun p hp hI => ?_)
    ⟨_, _, Z, fun j hj => nomatch hj⟩ (fun b hb => ?_) hcell hkind (fun i v s' C m' Q' E' hP hn' hq => ?_) (F.keeps hk) (N.grown hk) (fun p hp => ?_) J h0
    (fun i v C oC D m₂ zs news₁ h₁ tk₁ its E' hi hB hoC hJ hkp hid hCD hap1 hap2 F' N' => ?_) fin
  · obtain ⟨a, b, Z, _⟩ := st
    exact wpAny_pyIter_zip Z.1 q
  · have hj : ∃ j : Nat, b = s.heap.objs.size + j := by
      simp only [List.mem_cons, List.not_mem_nil, or_false] at hb
      rcases hb with rfl | rfl | rfl | rfl | rfl
      · exact ⟨4, rfl⟩
      · exact ⟨2, rfl⟩
      · exact ⟨3, rfl⟩
      · exact ⟨0, rfl⟩
      · exact ⟨1, rfl⟩
    obtain ⟨j, rfl⟩ := hj
    refine ⟨?_, new j⟩
    simp only [List.mem_cons, List.not_mem_nil, or_false] at hb ⊢
    rcases hb with h | h | h | h | h <;> simp [h]
  · simp only [List.mem_cons, List.not_mem_nil, or_false] at hb ⊢
    rcases hb with h | h | h | h <;> simp [h]
  · simp only [List.mem_cons, List.not_mem_nil, or_false] at hb ⊢
    rcases hb with rfl | rfl | rfl | rfl | rfl | rfl | rfl
    · exact .inl (by simp)
    · exact .inl (by simp)
    · exact .inl (by simp)
    · exact .inl (by simp)
    · exact .inl (by simp)
    · exact .inr ⟨lo1, .inl rfl⟩
    · exact .inr ⟨lo2, .inr rfl⟩
  · intro hI
    rcases List.mem_append.mp (show L ∈ [s.heap.objs.size + 4, s.heap.objs.size + 2, s.heap.objs.size + 3, s.heap.objs.size, s.heap.objs.size + 1] ++ [l1, l2] from hI) with hI | hI
    · exact off _ F.ns.lt hI
    · rcases List.mem_cons.mp hI with e | hI
      · exact (N _ hm1).2.1 e.symm
      · exact (N _ hm2).2.1 (List.mem_singleton.mp hI).symm
  · exact off _ (Heap.lt_size (N p hp).1) hI
  · have g1 := Z.1
    have g2 := Z.2.1
    have g3 := Z.2.2.1
    obtain ⟨o1, e1, _⟩ := Z.2.2.2.1.1.obj
    obtain ⟨o2, e2, _⟩ := Z.2.2.2.2.1.obj
    simp only [List.mem_cons, List.not_mem_nil, or_false] at hb
    rcases hb with rfl | rfl | rfl | rfl | rfl | rfl | rfl
    · exact Heap.lt_size g1
    · exact Heap.lt_size g2
    · exact Heap.lt_size g3
    · exact Heap.lt_size e1
    · exact Heap.lt_size e2
    · exact Z.2.2.2.1.2.lt
    · exact Z.2.2.2.2.2.lt
  · obtain ⟨T, vals, rfl, ⟨u, z, hu, hz, rfl⟩, hT⟩ := hP
    have hne : x ≠ y := by simpa using hxn
    exact kcp_assign (env := compEnvC scope cl C env) hh hT (lookup_relabel_local hx) (lookup_relabel_local hy) (by simp [compEnvC, relabel, hkind]) hn' fun h' tk hn'' hk' => hq h' tk _ hn'' hk' ⟨u, z, hu, hz, by simp [hne], by simp⟩
  · rcases List.mem_cons.mp hp with rfl | hp
    · exact hm1
    · rw [List.mem_singleton.mp hp]; exact hm2
  · obtain ⟨u, z, hu, hz, b1, b2⟩ := hB
    exact step i u z zs news₁ hu hz hJ (hkp _ (.head _)) (hkp _ (.tail _ (.head _))) C oC D m₂ h₁ tk₁ its E' ⟨b1, b2⟩ hoC hid hCD hap1 hap2 F' N'

theorem for_range {target : PySem.Expr} {body : List Stmt} {Q : Flow → Shared → Prop} {b : Int} {t : Tok} {n : Nat} {m₀ : Str → Option Value} {news : Led}
    (hb : b = n) (hn : n ≤ 1000) (hh : A.handled = none) (hgo : ∀ it v, letOwnedTupleGo target it v = pure ()) (F : Fr h₀ env.locals s.heap m₀) (N : News h₀ env.locals s.heap news)
    (J : Nat → (Str → Option Value) → Led → Prop) (h0 : J 0 m₀ news)
    (step : ∀ (i : Nat) (t : Tok) m₁ news₁ h₁ tk₁ its, i < n → J i m₁ news₁ → Idle its → (∀ p ∈ news₁, ∀ q ∈ its, p.1 ≠ q.1) → Fr h₀ env.locals h₁ m₁ → News h₀ env.locals h₁ (its ++ news₁) →
      wpAny (model prog w) A (assign target env (.int i t)) (fun _ s₂ => wpAny (model prog w) A (execs body env) (StepPost h₀ env.locals { s with heap := h₁, toks := tk₁ } its [] (J (i + 1)) Q) E s₂) E { s with heap := h₁, toks := tk₁ })
    (fin : ∀ m₁ news₁ h₁ tk₁, J n m₁ news₁ → Fr h₀ env.locals h₁ m₁ → News h₀ env.locals h₁ news₁ → Q .next { s with heap := h₁, toks := tk₁ }) :
    wpAny (model prog w) A (call (.type "range") [.int b t]) (fun xv s₁ => wpAny (model prog w) A (pyIter xv) (fun it s₂ => TurnsAt prog w A h₀ env target body Q E it s₂) E s₁) E s := by
  subst hb
  refine call_range_1 ?_
  have hrs : Builtin.Range.rangeSize 0 (n : Int) 1 = (n : Int) := by rw [rangeSize_one]; split <;> omega
  refine wpAny_pyIter_range (IsRange.new _ 0 n 1 _ _ _) (small_one (by decide) (by decide) (by omega) (by omega)) ?_
  rw [hrs]
  dsimp only
  have up : ∀ b o, s.heap.get? b = some o → ((s.heap.push { cls := .type "range", data := .fields #[.int 0 s.toks, .int n t, .int 1 (s.toks + 1)] }).push { cls := .type "range_iterator", data := .fields #[rawInt 0, rawInt n, rawInt 1] }).get? b = some o := fun b o e => Heap.get?_push_of_some _ (Heap.get?_push_of_some _ e)
  have hI : (s.heap.push { cls := .type "range", data := .fields #[.int 0 s.toks, .int n t, .int 1 (s.toks + 1)] }).objs.size = s.heap.objs.size + 1 := Heap.size_push ..
  generalize hg : (s.heap.push { cls := .type "range", data := .fields #[.int 0 s.toks, .int n t, .int 1 (s.toks + 1)] }) = g at hI up ⊢
  have hLn : env.locals ≠ s.heap.objs.size + 1 := Nat.ne_of_lt (Nat.lt_succ_of_lt F.ns.lt)
  have fresh₀ : h₀.get? (s.heap.objs.size + 1) = none := by
    cases e : h₀.get? (s.heap.objs.size + 1) with
    | none => rfl
    | some o' => exact absurd (Heap.lt_size (F.keep _ o' e)) (Nat.not_lt.mpr (Nat.le_succ _))
  rw [hI]
  refine turns_core (wr := [s.heap.objs.size + 1]) (fp := [s.heap.objs.size + 1]) (adr := [s.heap.objs.size + 1]) (keep := [])
    (KTurns.ofWalks (LCg.range_walks hh 0 n) (fun i v s Q E st q => wpAny_of_eq (hgo _ _) q)) (fun i h st => ?_) (fun b hb => ?_) (fun b hb => hb) (fun b hb => .inl hb) ?_ (fun p hp hI => ?_)
    ?_ (F.keeps up) (fun p hp => ⟨up _ _ (N p hp).1, (N p hp).2⟩) (fun p hp => nomatch hp) J h0
    (fun i v m₁ news₁ h₁ tk₁ its hi hP hJ _ hid hap F' N' => ?_) fin
  · exact ⟨[(s.heap.objs.size + 1, _)], rfl, fun p hp => by rw [List.mem_singleton.mp hp]; exact st, fun p hp => by rw [List.mem_singleton.mp hp]; exact notGood_cls (n := "range_iterator") rfl (by decide)⟩
  · rw [List.mem_singleton.mp hb]; exact ⟨.head _, fresh₀⟩
  · exact fun h => hLn (List.mem_singleton.mp h)
  · have := Heap.lt_size (N p hp).1
    rw [List.mem_singleton.mp hI] at this
    exact absurd this (Nat.not_lt.mpr (Nat.le_succ _))
  · show IsRangeIter _ _ _ _ _
    have := Heap.get?_push_size (h := g) (o := { cls := .type "range_iterator", data := .fields #[rawInt 0, rawInt n, rawInt 1] }) (rfl)
    rw [hI] at this
    simpa using this
  · obtain ⟨t', hv⟩ := hP
    have hv' : v = .int i t' := by rw [hv]; simp
    subst hv'
    exact step i t' m₁ news₁ h₁ tk₁ its hi hJ hid hap F' N'
end
end

/- part M1 -/
section
theorem primeM1 : (PySem.Challenge.rw_pq0615_01, Mine.hd.heap_39) = (PySem.Challenge.rw_pq0615_01, Mine.hd.heap_39) := by
  k_fill
  rfl

theorem wordsM10 : True := by
  k_with_none
  w_top off
  k_with "k_mem" => ((refine' mem_of ?_; ktr_member))
  k_with "Sub" => (first | exact Sub.refl | (refine Sub.cons ?_; walk_at "Sub") | (refine Sub.app ?_; walk_at "Sub") | fail "Sub")
  k_with "SubL" => (first | exact sub_refl | (refine sub_cons ?_; walk_at "SubL") | (refine sub_app ?_; walk_at "SubL") | fail "SubL")
  k_with "Lt" => (first | assumption | exact allLt_of (by assumption) | ((try simp only [AllLt, and_true]); assumption) | fail "Lt")
  k_with "Grown" => (first | exact Grown.refl | assumption | (refine Grown.cons ?_ rfl ?_; rotate_left; walk_at "Lt"; walk_at "Grown") | (refine Grown.app ?_ (by assumption) (by assumption); walk_at "Grown") | fail "Grown")
  k_with "Rel" => (first | assumption | exact CondIn.mono (by assumption) (by walk_at "Sub") | exact TrIn.mono (by assumption) (by walk_at "Sub") | exact RefIn.mono (by assumption) (by walk_at "Sub") | exact NumIn.mono (by assumption) (by walk_at "Sub") | exact SubjIn.mono (by assumption) (by walk_at "Sub") | exact ThingIn.mono (by assumption) (by walk_at "Sub") | walk_at "RelCon")
  k_with "RelCon" => (first | (apply TrIn.mk; k_mem) | (apply CondIn.eq; k_mem; walk_at "Rel"; walk_at "Rel") | (apply CondIn.le; k_mem; walk_at "Rel"; walk_at "Rel") | (apply CondIn.ge; k_mem; walk_at "Rel"; walk_at "Rel") | (apply CondIn.and; k_mem; walk_at "Rel"; walk_at "Rel") | (apply CondIn.or; k_mem; walk_at "Rel"; walk_at "Rel") | (apply CondIn.not; k_mem; walk_at "Rel") | fail "RelCon")
  k_with "MyItem" => ((
   (with_reducible show wpAny _ _ (subscriptTail _ _ (Value.ref _) (Value.int _ _)) _ _ _)
   k_here
   k_dflt (first
     | (refine' item_tupleT ?mtA ?mtB ?mtC ?mtD ?mtE ?_; (case mtA => (refine' News.isTup ?n9 ?m9; (case n9 => k_asm); (case m9 => k_mem))); (case mtB => decide); (case mtC => decide); (case mtD => rfl); (case mtE => rfl); k_whole)
     | (refine' item_listT ?mlA ?mlB ?mlC ?mlD ?_; (case mlA => (refine' News.isList ?n9 ?m9; (case n9 => k_asm); (case m9 => k_mem))); (case mlB => first | decide | omega); (case mlC => first | decide | omega); (case mlD => first | rfl | exact tr_b (by assumption) | exact tr_w (by assumption)); k_whole)
     | fail "MyItem")))
  k_with "subscriptTail Name Constant ref int" => (walk_at "MyItem")
  k_with "subscriptTail Name" => (walk_at "MyItem")
  k_with "subscriptTail Subscript" => (walk_at "MyItem")
  k_with "ite" => ((k_closed; first | (refine ite_pos (by decide +kernel) ?_) | (refine ite_neg (by decide +kernel) ?_)))
  k_with "ite" => (first | with_reducible refine if_t ?_ | with_reducible refine if_f ?_)
  k_with "subscriptTail Subscript" => ((
   (with_reducible show wpAny _ _ (subscriptTail _ (Expr.Slice (some _) none none _) (Value.str _ _) _) _ _ _)
   (with_reducible rename Fr _ _ _ _ => F')
   (with_reducible rename News _ _ _ _ => N')
   (refine slice_strN_sn (hsz := ?hsz) (s := ⟨_, _, _, _, _⟩) F' N' ?_)
   (case hsz => size_fits)
   intro _ _ _ _ _))
  k_with "units_room" => (ktr_units)
  k_with "compareOp Eq ref ref" => ((
   (with_reducible show wpAny _ _ (compareOp CmpOp.Eq (Value.ref _) (Value.ref _)) _ _ _)
   k_here
   k_dflt (refine' eq_ref_num ?erA ?erB ?erC ?erD ?_; (case erA => k_asm); (case erB => walk_at "Rel"); (case erC => walk_at "Rel"); (case erD => ktr_units); k_whole)))
  k_with "call type:int" => ((
   (with_reducible show wpAny _ _ (call (Value.type "int") [Value.str (PySem.Txt.slice (wname _) _ _) _]) _ _ _)
   refine KIN.call_text (wname_int (by assumption)) (wname_slen _) ?_))
  k_with "call type:int" => ((
   (with_reducible show wpAny _ _ (call (Value.type "int") [Value.str (PySem.Txt.slice (cname _) _ _) _]) _ _ _)
   refine KIN.call_text (cname_int (by assumption)) (cname_slen _) ?_))
  k_with "MyFor" => ((k_here; (rename Fr _ _ _ _ => lF'); (with_unfolding_all refine' For_turns lF' ?_; k_whole)))
  k_with "exec For Tuple Call cons nil" => (walk_at "MyFor")
  k_with "exec For Tuple Subscript cons nil" => (walk_at "MyFor")
  k_with "exec For Name Name cons nil" => (walk_at "MyFor")
  k_with "exec For Name Call cons nil" => (walk_at "MyFor")
  k_with "k_ne" => (first | assumption | exact ne_new (by assumption) (by k_mem) | exact Ne.symm (by assumption) | exact Ne.symm (ne_new (by assumption) (by k_mem)))
  k_with "Lt" => (first | exact allLt_of (by assumption) | exact allLt_congr (by assumption) (by first | rfl | simp only [List.map_cons, List.map_append]))
  k_with "subscriptTail Name UnaryOp ref int" => (walk_at "MyItem")
  k_with "call ref" => ((
   (with_reducible show wpAny _ _ (call (Value.ref 98) _) _ _ _)
   k_here
   k_dflt (
     refine' truth_use (n := 3) ?k1 ?k2 ?k3 ?k4 ?k5 ?kK ?kR ?kT (fun c' hc' => truth_does _ 3 c' hc') ?klt ?kd ?ku ?_
     (case k1 => k_asm); (case k2 => k_asm); (case k3 => k_asm); (case k4 => k_asm); (case k5 => k_asm); (case kK => first | exact rfl | assumption)
     (case kR => walk_at "Rel"); (case kT => walk_at "Rel"); (case klt => assumption); (case kd => ktr_room); (case ku => ktr_units))
   intro h9 tk9 F9 N9
   (try dsimp only)
   (try k_fold)))
  trivial
theorem dep3 {c : Cond} (h : c.depth < 3) : c.depth + 1 ≤ 3 := h
theorem ismet_does {prog w p loose mean mg mb} (T : Tr) (S : Subj) (t : Thing) (hf : Fits S t = true) (hS : S.depth < 3) (ht : t.depth < 3) :
    MyDoes prog w p loose mean mg mb 105 4 (fun news vs => ∃ v u x, vs = [v, u, x] ∧ SubjIn news v S ∧ ThingIn news u t ∧ TrIn news x T) (fun news _ r news' => news' = news ∧ r = .bool (isMet T S t)) := by
  unfold MyDoes Does
  intro dp un gd cn cs a ccd cl outer A₀ base h₀ L m news s vs Q E B F X N TT hk hR hd hu hret
  obtain ⟨v, u, x, rfl, C, D, R⟩ := hR
  have R' := R
  cases R' with | mk ht1 =>
  cases D with
  | any d1 =>
    refine wpAny_call ?_
    k_dflt ktr_enter
    k_steps
    all_goals (refine hret _ news _ _ (by k_asm) (newsSub (by k_asm) (by walk_at "SubL")) ?_; refine ⟨rfl, ?_⟩; cases S <;> rfl)
  | @is d0 dt dv dn neg d1 d2 =>
    cases C with
    | @worth c0 ct cv wi c1 c2 =>
      have d2' := d2
      cases c2 with | mk hw3 hr1 hr2 hr3 =>
      cases d2 with | mk hn1 hn2 =>
      have hz1 := wname_len wi
      refine wpAny_call ?_
      k_dflt ktr_enter
      k_steps
      all_goals (refine hret _ news _ _ (by k_asm) (newsSub (by k_asm) (by walk_at "SubL")) ?_; refine ⟨rfl, ?_⟩; first | rfl | (simp only [isMet]; simp [*]))
    | truth c1 c2 => exact absurd hf Bool.noConfusion
    | yes c1 => exact absurd hf Bool.noConfusion
    | no c1 => exact absurd hf Bool.noConfusion
  | @thru d0 dt dv du dlo dhi neg d1 d2 d3 =>
    cases C with
    | @worth c0 ct cv wi c1 c2 =>
      cases c2 with | mk hw3 hr1 hr2 hr3 =>
      cases d2 with | mk hn1 hn2 =>
      cases d3 with | mk hn3 hn4 =>
      have hz1 := wname_len wi
      refine wpAny_call ?_
      k_dflt ktr_enter
      k_steps
      all_goals (refine hret _ news _ _ (by k_asm) (newsSub (by k_asm) (by walk_at "SubL")) ?_; refine ⟨rfl, ?_⟩; first | rfl | (simp only [isMet]; simp [*]))
    | truth c1 c2 => exact absurd hf Bool.noConfusion
    | yes c1 => exact absurd hf Bool.noConfusion
    | no c1 => exact absurd hf Bool.noConfusion
  | yes d1 =>
    cases C with
    | worth c1 c2 => exact absurd hf Bool.noConfusion
    | @truth c0 ct cv cc c1 c2 =>
      have hS' : cc.depth < 3 := hS
      refine wpAny_call ?_
      k_dflt ktr_enter
      k_steps
      all_goals (refine hret _ news _ _ (by k_asm) (newsSub (by k_asm) (by walk_at "SubL")) ?_; refine ⟨rfl, ?_⟩; first | rfl | (simp only [isMet, Subj.val, Thing.val]; simp [*]))
    | yes c1 =>
      refine wpAny_call ?_
      k_dflt ktr_enter
      k_steps
      all_goals (refine hret _ news _ _ (by k_asm) (newsSub (by k_asm) (by walk_at "SubL")) ?_; refine ⟨rfl, ?_⟩; first | rfl | (simp only [isMet, Subj.val, Thing.val]; simp [*]))
    | no c1 =>
      refine wpAny_call ?_
      k_dflt ktr_enter
      k_steps
      all_goals (refine hret _ news _ _ (by k_asm) (newsSub (by k_asm) (by walk_at "SubL")) ?_; refine ⟨rfl, ?_⟩; first | rfl | (simp only [isMet, Subj.val, Thing.val]; simp [*]))
  | no d1 =>
    cases C with
    | worth c1 c2 => exact absurd hf Bool.noConfusion
    | @truth c0 ct cv cc c1 c2 =>
      have hS' : cc.depth < 3 := hS
      refine wpAny_call ?_
      k_dflt ktr_enter
      k_steps
      all_goals (refine hret _ news _ _ (by k_asm) (newsSub (by k_asm) (by walk_at "SubL")) ?_; refine ⟨rfl, ?_⟩; first | rfl | (simp only [isMet, Subj.val, Thing.val]; simp [*]))
    | yes c1 =>
      refine wpAny_call ?_
      k_dflt ktr_enter
      k_steps
      all_goals (refine hret _ news _ _ (by k_asm) (newsSub (by k_asm) (by walk_at "SubL")) ?_; refine ⟨rfl, ?_⟩; first | rfl | (simp only [isMet, Subj.val, Thing.val]; simp [*]))
    | no c1 =>
      refine wpAny_call ?_
      k_dflt ktr_enter
      k_steps
      all_goals (refine hret _ news _ _ (by k_asm) (newsSub (by k_asm) (by walk_at "SubL")) ?_; refine ⟨rfl, ?_⟩; first | rfl | (simp only [isMet, Subj.val, Thing.val]; simp [*]))
  | @truth d0 dt dv dc d1 d2 =>
    have ht' : dc.depth < 3 := ht
    cases C with
    | worth c1 c2 => exact absurd hf Bool.noConfusion
    | @truth c0 ct cv cc c1 c2 =>
      have hS' : cc.depth < 3 := hS
      refine wpAny_call ?_
      k_dflt ktr_enter
      k_steps
      all_goals (refine hret _ news _ _ (by k_asm) (newsSub (by k_asm) (by walk_at "SubL")) ?_; refine ⟨rfl, ?_⟩; first | rfl | (simp only [isMet, Subj.val, Thing.val]; simp [*]))
    | yes c1 =>
      refine wpAny_call ?_
      k_dflt ktr_enter
      k_steps
      all_goals (refine hret _ news _ _ (by k_asm) (newsSub (by k_asm) (by walk_at "SubL")) ?_; refine ⟨rfl, ?_⟩; first | rfl | (simp only [isMet, Subj.val, Thing.val]; simp [*]))
    | no c1 =>
      refine wpAny_call ?_
      k_dflt ktr_enter
      k_steps
      all_goals (refine hret _ news _ _ (by k_asm) (newsSub (by k_asm) (by walk_at "SubL")) ?_; refine ⟨rfl, ?_⟩; first | rfl | (simp only [isMet, Subj.val, Thing.val]; simp [*]))
end

/- part K1 -/
section
theorem primeK1 : (PySem.Challenge.rw_pq0615_01, Mine.hd.heap_39) = (PySem.Challenge.rw_pq0615_01, Mine.hd.heap_39) := by
  k_fill
  rfl

theorem wordsK10 : True := by
  k_with_none
  w_top off
  k_with "k_mem" => ((refine' mem_of ?_; ktr_member))
  k_with "Sub" => (first | exact Sub.refl | (refine Sub.cons ?_; walk_at "Sub") | (refine Sub.app ?_; walk_at "Sub") | fail "Sub")
  k_with "SubL" => (first | exact sub_refl | (refine sub_cons ?_; walk_at "SubL") | (refine sub_app ?_; walk_at "SubL") | fail "SubL")
  k_with "Lt" => (first | assumption | exact allLt_of (by assumption) | ((try simp only [AllLt, and_true]); assumption) | fail "Lt")
  k_with "Grown" => (first | exact Grown.refl | assumption | (refine Grown.cons ?_ rfl ?_; rotate_left; walk_at "Lt"; walk_at "Grown") | (refine Grown.app ?_ (by assumption) (by assumption); walk_at "Grown") | fail "Grown")
  k_with "Rel" => (first | assumption | exact CondIn.mono (by assumption) (by walk_at "Sub") | exact TrIn.mono (by assumption) (by walk_at "Sub") | exact RefIn.mono (by assumption) (by walk_at "Sub") | exact NumIn.mono (by assumption) (by walk_at "Sub") | exact SubjIn.mono (by assumption) (by walk_at "Sub") | exact ThingIn.mono (by assumption) (by walk_at "Sub") | walk_at "RelCon")
  k_with "RelCon" => (first | (apply TrIn.mk; k_mem) | (apply CondIn.eq; k_mem; walk_at "Rel"; walk_at "Rel") | (apply CondIn.le; k_mem; walk_at "Rel"; walk_at "Rel") | (apply CondIn.ge; k_mem; walk_at "Rel"; walk_at "Rel") | (apply CondIn.and; k_mem; walk_at "Rel"; walk_at "Rel") | (apply CondIn.or; k_mem; walk_at "Rel"; walk_at "Rel") | (apply CondIn.not; k_mem; walk_at "Rel") | fail "RelCon")
  k_with "MyItem" => ((
   (with_reducible show wpAny _ _ (subscriptTail _ _ (Value.ref _) (Value.int _ _)) _ _ _)
   k_here
   k_dflt (first
     | (refine' item_tupleT ?mtA ?mtB ?mtC ?mtD ?mtE ?_; (case mtA => (refine' News.isTup ?n9 ?m9; (case n9 => k_asm); (case m9 => k_mem))); (case mtB => decide); (case mtC => decide); (case mtD => rfl); (case mtE => rfl); k_whole)
     | (refine' item_listT ?mlA ?mlB ?mlC ?mlD ?_; (case mlA => (refine' News.isList ?n9 ?m9; (case n9 => k_asm); (case m9 => k_mem))); (case mlB => first | decide | omega); (case mlC => first | decide | omega); (case mlD => first | rfl | exact tr_b (by assumption) | exact tr_w (by assumption)); k_whole)
     | fail "MyItem")))
  k_with "subscriptTail Name Constant ref int" => (walk_at "MyItem")
  k_with "subscriptTail Name" => (walk_at "MyItem")
  k_with "subscriptTail Subscript" => (walk_at "MyItem")
  k_with "ite" => ((k_closed; first | (refine ite_pos (by decide +kernel) ?_) | (refine ite_neg (by decide +kernel) ?_)))
  k_with "ite" => (first | with_reducible refine if_t ?_ | with_reducible refine if_f ?_)
  k_with "subscriptTail Subscript" => ((
   (with_reducible show wpAny _ _ (subscriptTail _ (Expr.Slice (some _) none none _) (Value.str _ _) _) _ _ _)
   (with_reducible rename Fr _ _ _ _ => F')
   (with_reducible rename News _ _ _ _ => N')
   (refine slice_strN_sn (hsz := ?hsz) (s := ⟨_, _, _, _, _⟩) F' N' ?_)
   (case hsz => size_fits)
   intro _ _ _ _ _))
  k_with "units_room" => (ktr_units)
  k_with "compareOp Eq ref ref" => ((
   (with_reducible show wpAny _ _ (compareOp CmpOp.Eq (Value.ref _) (Value.ref _)) _ _ _)
   k_here
   k_dflt (refine' eq_ref_num ?erA ?erB ?erC ?erD ?_; (case erA => k_asm); (case erB => walk_at "Rel"); (case erC => walk_at "Rel"); (case erD => ktr_units); k_whole)))
  k_with "call type:int" => ((
   (with_reducible show wpAny _ _ (call (Value.type "int") [Value.str (PySem.Txt.slice (wname _) _ _) _]) _ _ _)
   refine KIN.call_text (wname_int (by assumption)) (wname_slen _) ?_))
  k_with "call type:int" => ((
   (with_reducible show wpAny _ _ (call (Value.type "int") [Value.str (PySem.Txt.slice (cname _) _ _) _]) _ _ _)
   refine KIN.call_text (cname_int (by assumption)) (cname_slen _) ?_))
  k_with "MyFor" => ((k_here; (rename Fr _ _ _ _ => lF'); (with_unfolding_all refine' For_turns lF' ?_; k_whole)))
  k_with "exec For Tuple Call cons nil" => (walk_at "MyFor")
  k_with "exec For Tuple Subscript cons nil" => (walk_at "MyFor")
  k_with "exec For Name Name cons nil" => (walk_at "MyFor")
  k_with "exec For Name Call cons nil" => (walk_at "MyFor")
  k_with "k_ne" => (first | assumption | exact ne_new (by assumption) (by k_mem) | exact Ne.symm (by assumption) | exact Ne.symm (ne_new (by assumption) (by k_mem)))
  k_with "Lt" => (first | exact allLt_of (by assumption) | exact allLt_congr (by assumption) (by first | rfl | simp only [List.map_cons, List.map_append]))
  k_with "MyFor" => ((k_here; (rename Fr _ _ _ _ => lF'); (with_unfolding_all refine' For_turns lF' ?_; k_whole)))
  k_with "exec For Name Name cons nil" => (walk_at "MyFor")
  k_with "pyIter ref" => ((refine Hold.mk ?_))
  trivial
theorem append_led {prog : Program} {w : World} {A : Around} {E : Value → Shared → Prop} {s : Shared} {h₀ : Heap} {L fa : Addr} {m : Str → Option Value} {all : Led} {all' : Obj → Led} {arr : Array Value} {n : Nat} {v : Value} {Q : Value → Shared → Prop}
    (F : Fr h₀ L s.heap m) (N : News h₀ L s.heap all) (U : UpdF fa (W.listOf arr n) all all') (hsz : arr.size ≤ sizeLine)
    (h : ∀ h', Fr h₀ L h' m → News h₀ L h' (all' (W.listOf (arr.push v) (n + 1))) → Q .none { s with heap := h' }) :
    wpAny (model prog w) A (call (.builtin "list.append") [.ref fa, v]) Q E s := by
  obtain ⟨pr, ps, rfl, hg, ha, hb⟩ := U.split
  have z := N (fa, W.listOf arr n) (List.mem_append_right _ (.head _))
  refine append_at (hsz := hsz) z.1 fun h' hs hD => h h' (F.change hs z.2.1 z.2.2) ?_
  rw [hg]
  exact N.setAt ha hb hs hD

theorem wordsK11 : True := by
  k_with "k_all" => (first | assumption | exact List.forall_mem_nil _ | (apply fresh_ne; assumption; k_mem) | (refine' List.forall_mem_append.mpr ⟨?_, ?_⟩; k_all; k_all) | (refine' List.forall_mem_cons.mpr ⟨?_, ?_⟩; k_ne; k_all))
  k_with "k_updF" => ((apply updF_app; k_all; k_updF))
  k_with "k_mem" => ((refine' mem_app_l ?_; k_mem))
  k_with "k_mem" => ((refine' mem_app_r ?_; k_mem))
  k_with "call builtin:list.append" => ((
   (with_reducible show wpAny _ _ (call (Value.builtin "list.append") [Value.ref _, _]) _ _ _)
   k_here
   k_dflt (refine' append_led ?aF ?aN ?aU ?aZ ?_; (case aF => k_asm); (case aN => k_asm); (case aU => k_updF); (case aZ => assumption))
   intro h' F' N'
   (try dsimp only at N')
   (try dsimp only)
   (try k_sweep)))
  trivial
/-- a tuple or a list of statements -/
inductive StIn (news : Led) : Value → Stms → Prop
  | flat {a : Addr} {o : Obj} {k : Bool} {vs : List Value} : (a, o) ∈ news → SrcO k o vs.toArray → MarksIn news vs → StIn news (.ref a) (.flat vs)
  | iff {a b : Addr} {o : Obj} {k : Bool} {c : Cond} {vs : List Value} {rest : Stms} : (a, o) ∈ news → SrcO k o [.ref b].toArray → IfIn news (.ref b) c vs rest → StIn news (.ref a) (.iff c vs rest)
theorem StmsIn.st {news : Led} {v : Value} {x : Stms} (h : StmsIn news v x) : StIn news v x := by
  cases h with
  | flat h1 h2 =>
    obtain ⟨a, o, rfl, hm, hs⟩ := h1
    exact .flat hm hs h2
  | iff h1 h2 => exact .iff (k := false) h1 ⟨rfl, _, rfl⟩ h2

def Stms.ok : Stms → Prop
  | .flat vs => vs.length ≤ 9
  | .iff c vs rest => c.depth ≤ 12 ∧ vs.length ≤ 9 ∧ rest.ok

def MarksSpec (prog : Program) (w : World) (p : Program) (loose : List Str) (mean : ExcName → Option Value) (mg mb : Str → Option Value) (T : Tr) (x : Stms) : Prop :=
  MyDoes prog w p loose mean mg mb 112 (x.size + 14) (fun news vs => ∃ v t, vs = [v, t] ∧ StIn news v x ∧ TrIn news t T)
    (fun news _ r news' => ∃ a o, r = .ref a ∧ news' = (a, W.listOf (x.marks T).toArray o) :: news ∧ ∀ p ∈ news, p.1 ≠ a)

theorem StIn.mono {news news' : Led} {v : Value} {x : Stms} (h : StIn news v x) (s : ∀ p ∈ news, p ∈ news') : StIn news' v x := by
  cases h with
  | flat h1 h2 h3 => exact .flat (s _ h1) h2 (h3.mono s)
  | iff h1 h2 h3 => exact .iff (s _ h1) h2 (h3.mono s)
theorem Stms.size_pos : ∀ x : Stms, 1 ≤ x.size
  | .flat _ => Nat.le_refl _
  | .iff _ _ r => Nat.le_add_left 1 r.size
theorem marks_use {prog : Program} {w : World} {p : Program} {loose : List Str} {mean : ExcName → Option Value} {mg mb : Str → Option Value} {T : Tr} {x : Stms} {v t : Value}
   {dp un : Nat} {gd : Option (List Code)} {cn : Str} {cs : Scope} {a : Addr} {ccd : Value} {cl : List (Str × Addr)} {outer : List Env} {A₀ : Around} {base h₀ : Heap} {L : Addr} {m : Str → Option Value} {news : Led} {s : Shared}
    {Q E : Value → Shared → Prop}
    (B : Below A₀ base outer h₀) (F : Fr h₀ L s.heap m) (X : (Mine.hd.heap_39 w.params).In h₀) (N : News h₀ L s.heap news) (TT : Top p loose mean mg mb h₀) (hk : cs.kind = .function) (C : StIn news v x) (ht : TrIn news t T)
    (H : MarksSpec prog w p loose mean mg mb T x) (hd : dp + (x.size + 14) < recursionLimit) (hu : un + 8 * (x.size + 14) + 400 < cLine)
    (ret : ∀ a o h' tk', Fr h₀ L h' m → News h₀ L h' ((a, W.listOf (x.marks T).toArray o) :: news) → (∀ p ∈ news, p.1 ≠ a) → Q (.ref a) { s with heap := h', toks := tk' }) :
    wpAny (model prog w) (ktrTop dp un gd cn cs L a ccd cl outer) (call (.ref 112) [v, t]) Q E s :=
  does_use H B F X N TT hk ⟨_, _, rfl, C, ht⟩ hd hu fun r news' h' tk' F' N' hp => by obtain ⟨a, o, rfl, rfl, hn⟩ := hp; exact ret a o h' tk' F' N' hn

theorem wordsK12 : True := by
  k_with "call ref" => ((
   (with_reducible show wpAny _ _ (call (Value.ref 112) _) _ _ _)
   k_here
   k_dflt (
     refine' marks_use ?k1 ?k2 ?k3 ?k4 ?k5 ?kK ?kR ?kT ?kH ?kd ?ku ?_
     (case k1 => k_asm); (case k2 => k_asm); (case k3 => k_asm); (case k4 => k_asm); (case k5 => k_asm); (case kK => first | exact rfl | assumption)
     (case kR => (refine' StIn.mono ?y1 ?y2; (case y1 => assumption); (case y2 => walk_at "SubL"))); (case kT => first | assumption | exact TrIn.mono (by assumption) (by walk_at "SubL")); (case kH => assumption); (case kd => (simp only [Stms.size] at *; ktr_room)); (case ku => (simp only [Stms.size] at *; ktr_units)))
   intro a9 o9 h9 tk9 F9 N9 hn9
   (try dsimp only)
   (try k_fold)))
  k_with "call ref" => ((
   (with_reducible show wpAny _ _ (call (Value.ref 98) _) _ _ _)
   k_here
   k_dflt (
     refine' truth_use (n := 13) ?k1 ?k2 ?k3 ?k4 ?k5 ?kK ?kR ?kT (fun c' hc' => truth_does _ 13 c' hc') ?klt ?kd ?ku ?_
     (case k1 => k_asm); (case k2 => k_asm); (case k3 => k_asm); (case k4 => k_asm); (case k5 => k_asm); (case kK => first | exact rfl | assumption)
     (case kR => walk_at "Rel"); (case kT => first | assumption | exact TrIn.mono (by assumption) (by walk_at "SubL")); (case klt => omega); (case kd => ktr_room); (case ku => ktr_units))
   intro h9 tk9 F9 N9
   (rename Cond.eval _ _ = _ => hcb9; rw [hcb9])
   (try dsimp only)
   (try k_fold)))
  trivial
theorem marks_len {T : Tr} : ∀ {x : Stms}, x.ok → (x.marks T).length ≤ 9
  | .flat _, h => h
  | .iff c vs rest, h => by
    show (if c.eval T then vs else rest.marks T).length ≤ 9
    split
    · exact h.2.1
    · exact marks_len h.2.2
def Above (D : Addr) (l : Led) : Prop := ∀ p ∈ l, p.1 < D
theorem cat_nil {prog : Program} {w : World} {A : Around} {E : Value → Shared → Prop} {s : Shared} {h₀ : Heap} {L fa b : Addr} {m : Str → Option Value} {news : Led} {X : List Value} {o o' : Nat} {Q : Value → Shared → Prop}
    (F : Fr h₀ L s.heap m) (N : News h₀ L s.heap news) (ha : (fa, W.listOf #[] o) ∈ news) (hb : (b, W.listOf X.toArray o') ∈ news) (hz : X.length ≤ sizeLine)
    (h : ∀ D h', Fr h₀ L h' m → News h₀ L h' ((D, W.listOf X.toArray 0) :: news) → Above D news → Q (.ref D) { s with heap := h' }) :
    wpAny (model prog w) A (binaryOp .Add (.ref fa) (.ref b)) Q E s :=
  kmk_add_lit F N ⟨_, (N _ ha).1, rfl, _, rfl⟩ ⟨_, (N _ hb).1, rfl, _, rfl⟩ (zs := X) (by simp) h (by simpa using hz)

theorem wordsK13 : True := by
  k_with "binaryOp Add ref ref" => ((
   (with_reducible show wpAny _ _ (binaryOp Operator.Add (Value.ref _) (Value.ref _)) _ _ _)
   k_here
   k_dflt (refine' cat_nil ?aF ?aN ?aA ?aB ?aZ ?_; (case aF => k_asm); (case aN => k_asm); (case aA => k_mem); (case aB => k_mem); (case aZ => assumption))
   intro D9 h' F' N' l9))
  trivial
theorem marks_does {prog w p loose mean mg mb} (T : Tr) (n : Nat) : ∀ x : Stms, x.size < n → x.ok → MarksSpec prog w p loose mean mg mb T x := by
  induction n with
  | zero => intro c h; exact absurd h (Nat.not_lt_zero _)
  | succ n IH =>
  intro x hx hdep
  unfold MarksSpec MyDoes Does
  intro dp un gd cn cs a ccd cl outer A₀ base h₀ L m news s vs Q E B F X N TT hk hR hd hu hret
  obtain ⟨v, t, rfl, C, ht⟩ := hR
  cases C with
  | @flat sa so k vs hsa hso hM =>
    have hvz : vs.length ≤ sizeLine := Nat.le_trans (show vs.length ≤ 9 from hdep) (by decide)
    refine wpAny_call ?_
    k_dflt ktr_enter
    k_steps
    (rename Fr _ _ _ _ => lF')
    (rename News _ _ _ _ => lN')
    rename (∀ p ∈ news, p.1 < _) => l1
    have hne := fun (p : Addr × Obj) (hp : p ∈ news) => Nat.ne_of_lt (l1 p hp)
    refine Hold.of (Mine.for_src k rfl lF' lN' (List.Mem.tail _ hsa) hso (fun i m l => ∃ (fa : Addr) (o : Nat) (u : Str → Option Value), l = (fa, W.listOf (vs.take i).toArray o) :: news ∧ (∀ p ∈ news, p.1 ≠ fa) ∧ m = (fun y => if y = Str.ofString "found" then some (.ref fa) else if y = Str.ofString "truths" then some t else u y)) ?_ ?_ ?_)
    · exact ⟨_, _, _, rfl, hne, map_has2 (by rfl) (by rfl)⟩
    · clear lF' lN' hne l1
      rintro i v9 m₁ news₁ h₁ tk₁ its hv9 ⟨fa, o, u, rfl, hne, rfl⟩ hm1 hidle hap F' N'
      obtain ⟨a9, t9, i9, t9', rfl, hm9⟩ := hM v9 (by simpa using List.mem_of_getElem? (by simpa using hv9 : vs[i]? = some v9))
      have hits : ∀ p ∈ its, p.1 ≠ fa := fun p hp => (hap _ (.head _) p hp).symm
      have hits2 : ∀ p ∈ news, ∀ q ∈ its, p.1 ≠ q.1 := fun p hp => hap p (.tail _ hp)
      have hz : (List.take i vs).toArray.size ≤ sizeLine := by rw [List.size_toArray, List.length_take]; exact Nat.le_trans (Nat.min_le_right _ _) hvz
      have hsn : (List.take i vs).toArray.push (.ref a9) = (List.take (i + 1) vs).toArray := by
        rw [List.take_add_one, (by simpa using hv9 : vs[i]? = some (Value.ref a9))]; simp
      have hap' : ∀ p ∈ (fa, W.listOf (List.take (i + 1) vs).toArray (o + 1)) :: news, ∀ q ∈ its, p.1 ≠ q.1 := List.forall_mem_cons.mpr ⟨fun q hq => show fa ≠ q.1 from hap _ (.head _) q hq, hits2⟩
      have hm1' : (sa, so) ∈ (fa, W.listOf (List.take (i + 1) vs).toArray (o + 1)) :: news := .tail _ hsa
      k_steps
      (rename Fr _ _ _ _ => lF')
      (rename News _ _ _ _ => lN')
      rw [hsn] at lN'
      refine ⟨_, _, _, _, rfl, lF', lN', hap', keep1 hm1', ⟨_, _, _, rfl, hne, map_has2 (by rfl) (by rfl)⟩⟩
    · rintro m₁ news₁ h₁ tk₁ ⟨fa, o, u, rfl, hne, rfl⟩ F' N'
      have hall : vs.take vs.toArray.size = vs := by simp
      rw [hall] at N'
      k_steps
      all_goals (refine hret _ _ _ _ (by k_asm) (by k_asm) ⟨fa, o, rfl, rfl, hne⟩)
  | @iff sa b so k c vs rest hsa hso hI =>
    obtain ⟨hcd, hvl, hro⟩ : c.depth ≤ 12 ∧ vs.length ≤ 9 ∧ rest.ok := hdep
    have hvz : vs.length ≤ sizeLine := Nat.le_trans hvl (by decide)
    have hsp := rest.size_pos
    have hsx : (Stms.iff c vs rest).size = rest.size + 1 := rfl
    have H1 : MarksSpec prog w p loose mean mg mb T (.flat vs) := IH (.flat vs) (by show 1 < n; omega) hvl
    have H2 : MarksSpec prog w p loose mean mg mb T rest := IH rest (by omega) hro
    have z1 : (Stms.marks T (.flat vs)).length ≤ sizeLine := hvz
    have z2 : (Stms.marks T rest).length ≤ sizeLine := Nat.le_trans (marks_len hro) (by decide)
    cases hI with | mk q1 q2 q3 q4 q5 =>
    have hSv : StIn news _ (.flat vs) := (StmsIn.flat q3 q4).st
    have hRv := q5.st
    refine wpAny_call ?_
    k_dflt ktr_enter
    k_steps
    (rename Fr _ _ _ _ => lF')
    (rename News _ _ _ _ => lN')
    rename (∀ p ∈ news, p.1 < _) => l1
    have hne := fun (p : Addr × Obj) (hp : p ∈ news) => Nat.ne_of_lt (l1 p hp)
    refine Hold.of (Mine.for_src k rfl lF' lN' (List.Mem.tail _ hsa) hso (fun i m l => ∃ (fa : Addr) (o : Nat) (u : Str → Option Value), l = (fa, W.listOf (if i = 0 then [] else (Stms.iff c vs rest).marks T).toArray o) :: news ∧ (∀ p ∈ news, p.1 ≠ fa) ∧ m = (fun y => if y = Str.ofString "found" then some (.ref fa) else if y = Str.ofString "truths" then some t else u y)) ?_ ?_ ?_)
    · exact ⟨_, _, _, rfl, hne, map_has2 (by rfl) (by rfl)⟩
    · clear lF' lN' hne l1
      rintro i v9 m₁ news₁ h₁ tk₁ its hv9 ⟨fa, o, u, rfl, hne, rfl⟩ hm1 hidle hap F' N'
      obtain ⟨rfl, rfl⟩ : i = 0 ∧ v9 = .ref b := by
        have h1 : ([Value.ref b] : List Value)[i]? = some v9 := by simpa using hv9
        cases i with
        | zero => exact ⟨rfl, (Option.some.inj h1).symm⟩
        | succ j => simp at h1
      have hits : ∀ p ∈ its, p.1 ≠ fa := fun p hp => (hap _ (.head _) p hp).symm
      have hits2 : ∀ p ∈ news, ∀ q ∈ its, p.1 ≠ q.1 := fun p hp => hap p (.tail _ hp)
      simp only [if_true] at N'
      obtain ⟨cb, hcb⟩ : ∃ cb, Cond.eval T c = cb := ⟨_, rfl⟩
      cases cb
      all_goals k_steps
      all_goals (rename Fr _ _ _ _ => lF'; rename News _ _ _ _ => lN'; rename Above _ _ => l9)
      all_goals (
        refine ⟨_, _, _, (_, W.listOf (if 0 + 1 = 0 then [] else Stms.marks T (Stms.iff c vs rest)).toArray 0) :: news, rfl, lF', ?_, List.forall_mem_cons.mpr ⟨fun q hq => (Nat.ne_of_lt (l9 _ (.tail _ (List.mem_append_left _ hq)))).symm, hits2⟩, keep1 (.tail _ hsa),
          ⟨_, _, _, rfl, fun p hp => Nat.ne_of_lt (l9 _ (.tail _ (List.mem_append_right _ (.tail _ hp)))), map_has2 (by rfl) (by rfl)⟩⟩
        rename Cond.eval _ _ = _ => hcb
        simp only [Stms.marks, hcb, Nat.zero_add, Nat.one_ne_zero, if_false, if_true, Bool.false_eq_true] at lN' ⊢
        refine newsSub lN' fun p hp => ?_
        rcases List.mem_append.mp hp with hp | hp
        · exact .tail _ (.tail _ (List.mem_append_left _ hp))
        · rcases List.mem_cons.mp hp with rfl | hp
          · exact .head _
          · exact .tail _ (.tail _ (List.mem_append_right _ (.tail _ hp))))
    · rintro m₁ news₁ h₁ tk₁ ⟨fa, o, u, rfl, hne, rfl⟩ F' N'
      k_steps
      all_goals (refine hret _ _ _ _ (by k_asm) (by k_asm) ⟨fa, o, rfl, rfl, hne⟩)
end

/- part L1 -/
section
theorem primeL1 : (PySem.Challenge.rw_pq0615_01, Mine.hd.heap_39) = (PySem.Challenge.rw_pq0615_01, Mine.hd.heap_39) := by
  k_fill
  rfl
theorem wordsL10 : True := by
  k_with_none
  w_top off
  k_with "k_mem" => ((refine' mem_of ?_; ktr_member))
  k_with "Sub" => (first | exact Sub.refl | (refine Sub.cons ?_; walk_at "Sub") | (refine Sub.app ?_; walk_at "Sub") | fail "Sub")
  k_with "SubL" => (first | exact sub_refl | (refine sub_cons ?_; walk_at "SubL") | (refine sub_app ?_; walk_at "SubL") | fail "SubL")
  k_with "Lt" => (first | assumption | exact allLt_of (by assumption) | ((try simp only [AllLt, and_true]); assumption) | fail "Lt")
  k_with "Grown" => (first | exact Grown.refl | assumption | (refine Grown.cons ?_ rfl ?_; rotate_left; walk_at "Lt"; walk_at "Grown") | (refine Grown.app ?_ (by assumption) (by assumption); walk_at "Grown") | fail "Grown")
  k_with "Rel" => (first | assumption | exact CondIn.mono (by assumption) (by walk_at "Sub") | exact TrIn.mono (by assumption) (by walk_at "Sub") | exact RefIn.mono (by assumption) (by walk_at "Sub") | exact NumIn.mono (by assumption) (by walk_at "Sub") | exact SubjIn.mono (by assumption) (by walk_at "Sub") | exact ThingIn.mono (by assumption) (by walk_at "Sub") | walk_at "RelCon")
  k_with "RelCon" => (first | (apply TrIn.mk; k_mem) | (apply CondIn.eq; k_mem; walk_at "Rel"; walk_at "Rel") | (apply CondIn.le; k_mem; walk_at "Rel"; walk_at "Rel") | (apply CondIn.ge; k_mem; walk_at "Rel"; walk_at "Rel") | (apply CondIn.and; k_mem; walk_at "Rel"; walk_at "Rel") | (apply CondIn.or; k_mem; walk_at "Rel"; walk_at "Rel") | (apply CondIn.not; k_mem; walk_at "Rel") | fail "RelCon")
  k_with "MyItem" => ((
   (with_reducible show wpAny _ _ (subscriptTail _ _ (Value.ref _) (Value.int _ _)) _ _ _)
   k_here
   k_dflt (first
     | (refine' item_tupleT ?mtA ?mtB ?mtC ?mtD ?mtE ?_; (case mtA => (refine' News.isTup ?n9 ?m9; (case n9 => k_asm); (case m9 => k_mem))); (case mtB => decide); (case mtC => decide); (case mtD => rfl); (case mtE => rfl); k_whole)
     | (refine' item_listT ?mlA ?mlB ?mlC ?mlD ?_; (case mlA => (refine' News.isList ?n9 ?m9; (case n9 => k_asm); (case m9 => k_mem))); (case mlB => first | decide | omega); (case mlC => first | decide | omega); (case mlD => first | rfl | exact tr_b (by assumption) | exact tr_w (by assumption)); k_whole)
     | fail "MyItem")))
  k_with "subscriptTail Name Constant ref int" => (walk_at "MyItem")
  k_with "subscriptTail Name" => (walk_at "MyItem")
  k_with "subscriptTail Subscript" => (walk_at "MyItem")
  k_with "ite" => ((k_closed; first | (refine ite_pos (by decide +kernel) ?_) | (refine ite_neg (by decide +kernel) ?_)))
  k_with "ite" => (first | with_reducible refine if_t ?_ | with_reducible refine if_f ?_)
  k_with "subscriptTail Subscript" => ((
   (with_reducible show wpAny _ _ (subscriptTail _ (Expr.Slice (some _) none none _) (Value.str _ _) _) _ _ _)
   (with_reducible rename Fr _ _ _ _ => F')
   (with_reducible rename News _ _ _ _ => N')
   (refine slice_strN_sn (hsz := ?hsz) (s := ⟨_, _, _, _, _⟩) F' N' ?_)
   (case hsz => size_fits)
   intro _ _ _ _ _))
  k_with "units_room" => (ktr_units)
  k_with "compareOp Eq ref ref" => ((
   (with_reducible show wpAny _ _ (compareOp CmpOp.Eq (Value.ref _) (Value.ref _)) _ _ _)
   k_here
   k_dflt (refine' eq_ref_num ?erA ?erB ?erC ?erD ?_; (case erA => k_asm); (case erB => walk_at "Rel"); (case erC => walk_at "Rel"); (case erD => ktr_units); k_whole)))
  k_with "call type:int" => ((
   (with_reducible show wpAny _ _ (call (Value.type "int") [Value.str (PySem.Txt.slice (wname _) _ _) _]) _ _ _)
   refine KIN.call_text (wname_int (by assumption)) (wname_slen _) ?_))
  k_with "call type:int" => ((
   (with_reducible show wpAny _ _ (call (Value.type "int") [Value.str (PySem.Txt.slice (cname _) _ _) _]) _ _ _)
   refine KIN.call_text (cname_int (by assumption)) (cname_slen _) ?_))
  k_with "MyFor" => ((k_here; (rename Fr _ _ _ _ => lF'); (with_unfolding_all refine' For_turns lF' ?_; k_whole)))
  k_with "exec For Tuple Call cons nil" => (walk_at "MyFor")
  k_with "exec For Tuple Subscript cons nil" => (walk_at "MyFor")
  k_with "exec For Name Name cons nil" => (walk_at "MyFor")
  k_with "exec For Name Call cons nil" => (walk_at "MyFor")
  k_with "k_ne" => (first | assumption | exact ne_new (by assumption) (by k_mem) | exact Ne.symm (by assumption) | exact Ne.symm (ne_new (by assumption) (by k_mem)))
  k_with "Lt" => (first | exact allLt_of (by assumption) | exact allLt_congr (by assumption) (by first | rfl | simp only [List.map_cons, List.map_append]))
  k_with "k_all" => (first | assumption | exact List.forall_mem_nil _ | (apply fresh_ne; assumption; k_mem) | (refine' List.forall_mem_append.mpr ⟨?_, ?_⟩; k_all; k_all) | (refine' List.forall_mem_cons.mpr ⟨?_, ?_⟩; k_ne; k_all))
  k_with "k_updF" => ((apply updF_app; k_all; k_updF))
  k_with "k_mem" => ((refine' mem_app_l ?_; k_mem))
  k_with "k_mem" => ((refine' mem_app_r ?_; k_mem))
  k_with "call ref" => ((
   (with_reducible show wpAny _ _ (call (Value.ref 77) _) _ _ _)
   k_here
   k_dflt (refine' draw_walk ?d1 ?d2 ?kB ?kF ?kX ?kN ?kU ?kc ?kT ?kK ?kp ?kco ?kk ?kd ?ku ?_; (case d1 => decide); (case d2 => decide); (case kB => k_asm); (case kF => k_asm); (case kX => k_asm); (case kN => k_asm); (case kU => k_updF); (case kco => assumption); (case kc => k_mem); (case kT => k_asm); (case kK => first | exact rfl | assumption); (case kp => k_asm); (case kk => omega); (case kd => ktr_room); (case ku => ktr_units))
   intro j9 t9 po9 h9 tk9 j0 j1 hp9 F9 N9
   (try dsimp only at N9)
   (try dsimp only)
   (try k_fold)))
  k_with "call ref" => ((
   (with_reducible show wpAny _ _ (call (Value.ref 84) _) _ _ _)
   k_here
   k_dflt (refine' simple_walk ?kB ?kF ?kX ?kN ?kU ?kc ?kT ?kK ?kp ?kco ?kk ?kd ?ku ?_; (case kB => k_asm); (case kF => k_asm); (case kX => k_asm); (case kN => k_asm); (case kU => k_updF); (case kco => assumption); (case kc => k_mem); (case kT => k_asm); (case kK => first | exact rfl | assumption); (case kp => k_asm); (case kk => omega); (case kd => ktr_room); (case ku => ktr_units))
   intro r9 c9 po9 tl9 h9 tk9 S9 hp9 F9 N9 A9 W9 C9
   (try dsimp only at N9 W9 C9)
   (try dsimp only)
   (try k_fold)))
  k_with "call builtin:list.append" => ((
   (with_reducible show wpAny _ _ (call (Value.builtin "list.append") [Value.ref _, _]) _ _ _)
   k_here
   k_dflt (refine' append_led ?aF ?aN ?aU ?aZ ?_; (case aF => k_asm); (case aN => k_asm); (case aU => k_updF); (case aZ => assumption))
   intro h' F' N'
   (try dsimp only at N')
   (try dsimp only)
   (try k_sweep)))
  k_with "MyFor" => ((k_here; (rename Fr _ _ _ _ => lF'); (with_unfolding_all refine' For_turns lF' ?_ (hE := by first | assumption | passes_own); k_whole)))
  k_with "exec For Tuple Call cons nil" => (walk_at "MyFor")
  k_with "exec For Tuple Subscript cons nil" => (walk_at "MyFor")
  k_with "exec For Name Name cons nil" => (walk_at "MyFor")
  k_with "exec For Name Call cons nil" => (walk_at "MyFor")
  k_with "call type:range" => ((refine Hold.mk ?_))
  k_with "call type:zip" => ((refine Hold.mk ?_))
  k_with "pyIter ref" => ((refine Hold.mk ?_))
  k_with "callWith" => (((with_reducible show wpAny _ _ (callWith _ (Value.builtin "list.append") _ _ _) _ _ _); refine callWith_method1 ?_))
  trivial
theorem allLt_app {d : Nat} : ∀ {a b : Led}, AllLt d (a ++ b) ↔ AllLt d a ∧ AllLt d b
  | [], b => by simp [AllLt]
  | p :: r, b => by simp only [List.cons_append, AllLt, allLt_app (a := r), and_assoc]
def lawDef : Stmt := (PySem.Challenge.pw_pq0615_01.main.body.getLast?).getD (.Pass ⟨0,0,0,0⟩)
def lawBody : List Stmt := match lawDef with | .FunctionDef _ _ body _ _ _ _ _ _ _ => body | _ => []
def lawScope : PySem.Scope := match lawDef with | .FunctionDef _ _ _ _ _ _ sc _ _ _ => sc | _ => default
def lawStmt (i : Nat) : Stmt := (lawBody[i]?).getD (.Pass ⟨0,0,0,0⟩)

def simpleS : Subj → Prop
  | .truth c => simple c
  | _ => True
theorem simple_depth {c : Cond} (h : simple c) : c.depth ≤ 2 := by
  cases c with
  | named k => exact Nat.le_succ 1
  | not c => cases c <;> first | exact Nat.le_refl 2 | exact absurd h id
  | _ => exact absurd h id
theorem simpleS_depth {S : Subj} (h : simpleS S) : S.depth ≤ 2 := by
  cases S <;> first | exact simple_depth h | exact Nat.zero_le _
theorem simpleT_depth {S : Thing} (h : simpleT S) : S.depth ≤ 2 := by
  cases S <;> first | exact simple_depth h | exact Nat.zero_le _

theorem tup_ne {h₀ h : Heap} {L a : Addr} {o : Obj} {l rest : Led} {n : String} (N : News h₀ L h l) (hm : (a, o) ∈ l) (ho : o.cls = .type n) (hn : n ≠ "tuple") (hs : ∀ p ∈ rest, p ∈ l) (ht : AllTup rest) : ∀ p ∈ rest, p.1 ≠ a := fun p hp e => by
  have e1 := (N _ (hs p hp)).1
  have e2 := (N _ hm).1
  simp only at e2
  rw [e, e2] at e1
  have h1 := ht p hp
  rw [← Option.some.inj e1, ho] at h1
  exact hn (Value.type.inj h1)
theorem PenOk.cls {ca : Addr} {k : Int} {o : Obj} (h : PenOk ca k o) : o.cls = .type "list" := by cases h; rfl
theorem item5 {prog : Program} {w : World} {A : Around} {E : Value → Shared → Prop} {s : Shared} {h₀ : Heap} {L T : Addr} {news : Led} {value slice : PySem.Expr} {a b c d e : Value} {j : Int} {u : Tok} {Q : Value → Shared → Prop} (N : News h₀ L s.heap news)
    (hm : (T, ({ cls := .type "tuple", data := .seq #[a, b, c, d, e] } : Obj)) ∈ news) (j0 : 0 ≤ j) (j1 : j < 5) (h : ∀ v, (v = a ∨ v = b ∨ v = c ∨ v = d ∨ v = e) → Q v s)
    (hs : subscripted slice false (.ref T) (.int j u) = operate [.ref T, .int j u] (getItem (.ref T) (.int j u)) := by with_unfolding_all rfl) :
    wpAny (model prog w) A (subscriptTail value slice (.ref T) (.int j u)) Q E s := by
  have ht : IsTup s.heap T [a, b, c, d, e].toArray := ⟨_, (N _ hm).1, rfl, _, rfl⟩
  rcases (by omega : j = 0 ∨ j = 1 ∨ j = 2 ∨ j = 3 ∨ j = 4) with rfl | rfl | rfl | rfl | rfl
  · exact item_tupleT (j := 0) ht (by decide) (by decide) rfl rfl (h _ (.inl rfl)) hs
  · exact item_tupleT (j := 1) ht (by decide) (by decide) rfl rfl (h _ (.inr (.inl rfl))) hs
  · exact item_tupleT (j := 2) ht (by decide) (by decide) rfl rfl (h _ (.inr (.inr (.inl rfl)))) hs
  · exact item_tupleT (j := 3) ht (by decide) (by decide) rfl rfl (h _ (.inr (.inr (.inr (.inl rfl))))) hs
  · exact item_tupleT (j := 4) ht (by decide) (by decide) rfl rfl (h _ (.inr (.inr (.inr (.inr rfl))))) hs
theorem five_or {a b c d e : Value} {P : Value → Prop} (h1 : P a) (h2 : P b) (h3 : P c) (h4 : P d) (h5 : P e) : ∀ v, (v = a ∨ v = b ∨ v = c ∨ v = d ∨ v = e) → P v := by
  rintro v (rfl | rfl | rfl | rfl | rfl) <;> assumption
theorem wordsL11 : True := by
  k_with "subscriptTail Name Name ref int" => ((
   (with_reducible show wpAny _ _ (subscriptTail _ _ (Value.ref _) (Value.int _ _)) _ _ _)
   refine Hold.mk ?_))
  trivial
theorem wtext {i : Nat} (h : i < 3) : Str.ofString "W" ++ Str.ofString (toString (i : Int)) = wname i := by
  rcases (by omega : i = 0 ∨ i = 1 ∨ i = 2) with rfl | rfl | rfl <;> decide +kernel
theorem AllIn.nil {α : Type} {R : Value → α → Prop} : AllIn R [] [] := ⟨rfl, fun _ _ _ h => by simp at h⟩
theorem AllIn.snoc {α : Type} {R : Value → α → Prop} {vs : List Value} {xs : List α} {v : Value} {x : α} (h : AllIn R vs xs) (k : R v x) : AllIn R (vs ++ [v]) (xs ++ [x]) := by
  refine ⟨by simp [h.1], fun i a b ha hb => ?_⟩
  by_cases hi : i < vs.length
  · rw [List.getElem?_append_left hi] at ha
    rw [List.getElem?_append_left (h.1 ▸ hi)] at hb
    exact h.2 i a b ha hb
  · rw [List.getElem?_append_right (Nat.not_lt.mp hi)] at ha
    rw [List.getElem?_append_right (h.1 ▸ Nat.not_lt.mp hi), ← h.1] at hb
    cases hj : i - vs.length with
    | zero => rw [hj] at ha hb; simp at ha hb; rw [← ha, ← hb]; exact k
    | succ j => rw [hj] at ha; simp at ha
theorem toNat_of {z : Int} (h : 0 ≤ z) : ∃ n : Nat, z = n := ⟨z.toNat, by omega⟩

def isCell (o : Obj) : Prop := ∃ v, o.data = .cell v
theorem notGood_cell {o : Obj} (h : isCell o) : ¬ Good o := fun ⟨_, vs, n, hd, _⟩ => by
  obtain ⟨v, e⟩ := h
  rw [e] at hd
  cases hd
theorem notGood_list {a : Array Value} {k : Nat} : ¬ Good (W.listOf a k) := notGood_cls (n := "list") rfl (by decide)
theorem CellsOk.notGood {o : Obj} (h : CellsOk o) : ¬ Good o := by
  obtain ⟨vs, ns, kc, rfl, _⟩ := h
  exact notGood_cls (n := "list") rfl (by decide)
theorem CellsOk.cls {o : Obj} (h : CellsOk o) : o.cls = .type "list" := by
  obtain ⟨vs, ns, kc, rfl, _⟩ := h
  rfl
theorem fresh_congr {tl l l' : Led} (h : Fresh tl l) (e : l.map (·.1) = l'.map (·.1)) : Fresh tl l' := fun p hp q hq => by
  have : q.1 ∈ l.map (·.1) := e ▸ List.mem_map.mpr ⟨q, hq, rfl⟩
  obtain ⟨q', hq', e'⟩ := List.mem_map.mp this
  rw [← e']
  exact h p hp q' hq'
theorem Sub.both {p : Addr × Obj} {l l' : Led} (h : Sub l l') : Sub (p :: l) (p :: l') := fun q hq g => by
  rcases List.mem_cons.mp hq with rfl | hq
  · exact .head _
  · exact .tail _ (h q hq g)
theorem Sub.bothApp {t l l' : Led} (h : Sub l l') : Sub (t ++ l) (t ++ l') := fun q hq g => by
  rcases List.mem_append.mp hq with hq | hq
  · exact List.mem_append_left _ hq
  · exact List.mem_append_right _ (h q hq g)
theorem Sub.swap {a b : Addr} {o o' : Obj} {l l' : Led} (n : ¬ Good o) (h : Sub l l') : Sub ((a, o) :: l) ((b, o') :: l') := fun q hq g => by
  rcases List.mem_cons.mp hq with rfl | hq
  · exact absurd g n
  · exact .tail _ (h q hq g)

theorem wordsL12 : True := by
  k_with "Grown" => (first | (with_reducible refine Grown.cons ?_ rfl ?_; rotate_left; walk_at "Lt"; walk_at "Grown") | with_reducible exact Grown.refl | (with_reducible refine Grown.app ?_ (by assumption) (by first | assumption | exact fresh_congr (by assumption) (by simp only [List.map_cons, List.map_append])); walk_at "Grown") | fail "Grown")
  k_with "Sub2" => (first | exact Sub.refl | (with_reducible refine Sub.both ?_; walk_at "Sub2") | (with_reducible refine Sub.bothApp ?_; walk_at "Sub2") | (with_reducible refine Sub.swap (by assumption) ?_; walk_at "Sub2") | (refine Sub.cons ?_; walk_at "Sub2") | (refine Sub.app ?_; walk_at "Sub2") | fail "Sub2")
  trivial
theorem ap_congr {l l' its : Led} (h : ∀ p ∈ l, ∀ q ∈ its, p.1 ≠ q.1) (e : l.map (·.1) = l'.map (·.1)) : ∀ p ∈ l', ∀ q ∈ its, p.1 ≠ q.1 := fun p hp q hq => by
  have : p.1 ∈ l.map (·.1) := e ▸ List.mem_map.mpr ⟨p, hp, rfl⟩
  obtain ⟨p', hp', e'⟩ := List.mem_map.mp this
  rw [← e']
  exact h p' hp' q hq
theorem turn_grown {h₀ h' : Heap} {L : Addr} {its fixed rest all : Led} (N : News h₀ L h' all) (G : Grown (its ++ (fixed ++ rest)) all) (ap : ∀ p ∈ fixed ++ rest, ∀ q ∈ its, p.1 ≠ q.1) (hr : AllTup rest) (hi : Idle its) (hf : ∀ q ∈ fixed, ¬ Good q.2) :
    ∃ X, AllTup (X ++ rest) ∧ News h₀ L h' (its ++ (fixed ++ (X ++ rest))) ∧ (∀ p ∈ fixed ++ (X ++ rest), ∀ q ∈ its, p.1 ≠ q.1) ∧ Sub all (X ++ rest) ∧ (∀ p ∈ rest, p ∈ X ++ rest) ∧ Fresh X fixed := by
  obtain ⟨X, rfl, hX, hF⟩ := G
  refine ⟨X, hX.app hr, fun p hp => N p ?_, fun p hp q hq => ?_, fun p hp g => ?_, fun p hp => List.mem_append_right _ hp, fun p hp q hq => hF p hp q (List.mem_append_right _ (List.mem_append_left _ hq))⟩
  · rcases List.mem_append.mp hp with hp | hp
    · exact List.mem_append_right _ (List.mem_append_left _ hp)
    · rcases List.mem_append.mp hp with hp | hp
      · exact List.mem_append_right _ (List.mem_append_right _ (List.mem_append_left _ hp))
      · rcases List.mem_append.mp hp with hp | hp
        · exact List.mem_append_left _ hp
        · exact List.mem_append_right _ (List.mem_append_right _ (List.mem_append_right _ hp))
  · rcases List.mem_append.mp hp with hp | hp
    · exact ap p (List.mem_append_left _ hp) q hq
    · rcases List.mem_append.mp hp with hp | hp
      · exact hF p hp q (List.mem_append_left _ hq)
      · exact ap p (List.mem_append_right _ hp) q hq
  · rcases List.mem_append.mp hp with hp | hp
    · exact List.mem_append_left _ hp
    · rcases List.mem_append.mp hp with hp | hp
      · exact absurd g (hi p hp)
      · rcases List.mem_append.mp hp with hp | hp
        · exact absurd g (hf p hp)
        · exact List.mem_append_right _ hp

def Off (L : Addr) (rest : Led) : Prop := ∀ p ∈ rest, p.1 ≠ L + 1 + 1 + 1 ∧ p.1 ≠ L + 1 + 1 + 1 + 1
theorem Off.app {L : Addr} {X rest fixed : Led} {o o' : Obj} (h : Off L rest) (k : Fresh X fixed) (m : (L + 1 + 1 + 1, o) ∈ fixed) (m' : (L + 1 + 1 + 1 + 1, o') ∈ fixed) : Off L (X ++ rest) := fun p hp => by
  rcases List.mem_append.mp hp with hp | hp
  · exact ⟨k p hp _ m, k p hp _ m'⟩
  · exact h p hp
theorem ne4 {L x : Nat} (h : L + 1 + 1 + 1 + 1 < x) : (L + 1 + 1 + 1 + 1 ≠ x) ∧ (L + 1 + 1 + 1 ≠ x) ∧ (L + 1 + 1 ≠ x) ∧ (L + 1 ≠ x) :=
  have h3 := Nat.lt_of_succ_lt h
  have h2 := Nat.lt_of_succ_lt h3
  ⟨Nat.ne_of_lt h, Nat.ne_of_lt h3, Nat.ne_of_lt h2, Nat.ne_of_lt (Nat.lt_of_succ_lt h2)⟩
theorem nesP {L ca pa sl : Addr} (i1 : @LT.lt Nat _ (L + 1 + 1 + 1 + 1) ca) (i2 : @LT.lt Nat _ ca pa) (i3 : @LT.lt Nat _ pa sl) : (@Ne Nat sl pa) ∧ (@Ne Nat ca pa) ∧ (@Ne Nat (L + 1 + 1 + 1 + 1) pa) ∧ (@Ne Nat (L + 1 + 1 + 1) pa) ∧ (@Ne Nat (L + 1 + 1) pa) ∧ (@Ne Nat (L + 1) pa) :=
  have n := ne4 (Nat.lt_trans i1 i2)
  ⟨Nat.ne_of_gt i3, Nat.ne_of_lt i2, n.1, n.2.1, n.2.2.1, n.2.2.2⟩
theorem nesS {L ca pa sl : Addr} (i1 : @LT.lt Nat _ (L + 1 + 1 + 1 + 1) ca) (i2 : @LT.lt Nat _ ca pa) (i3 : @LT.lt Nat _ pa sl) : (@Ne Nat pa sl) ∧ (@Ne Nat ca sl) ∧ (@Ne Nat (L + 1 + 1 + 1 + 1) sl) ∧ (@Ne Nat (L + 1 + 1 + 1) sl) ∧ (@Ne Nat (L + 1 + 1) sl) ∧ (@Ne Nat (L + 1) sl) :=
  have n := ne4 (Nat.lt_trans i1 (Nat.lt_trans i2 i3))
  ⟨Nat.ne_of_lt i3, Nat.ne_of_lt (Nat.lt_trans i2 i3), n.1, n.2.1, n.2.2.1, n.2.2.2⟩
theorem nesW {L ca pa sl wl : Addr} (i1 : @LT.lt Nat _ (L + 1 + 1 + 1 + 1) ca) (i2 : @LT.lt Nat _ ca pa) (i3 : @LT.lt Nat _ pa sl) (i4 : @LT.lt Nat _ sl wl) : (@Ne Nat sl wl) ∧ (@Ne Nat pa wl) ∧ (@Ne Nat ca wl) ∧ (@Ne Nat wl pa) ∧ (@Ne Nat (L + 1 + 1 + 1 + 1) wl) ∧ (@Ne Nat (L + 1 + 1 + 1) wl) ∧ (@Ne Nat (L + 1 + 1) wl) ∧ (@Ne Nat (L + 1) wl) :=
  have n := ne4 (Nat.lt_trans i1 (Nat.lt_trans i2 (Nat.lt_trans i3 i4)))
  have k := Nat.lt_trans i3 i4
  ⟨Nat.ne_of_lt i4, Nat.ne_of_lt k, Nat.ne_of_lt (Nat.lt_trans i2 k), Nat.ne_of_gt k, n.1, n.2.1, n.2.2.1, n.2.2.2⟩
theorem nesC {L ca pa sl wl : Addr} (i1 : @LT.lt Nat _ (L + 1 + 1 + 1 + 1) ca) (i2 : @LT.lt Nat _ ca pa) (i3 : @LT.lt Nat _ pa sl) (i4 : @LT.lt Nat _ sl wl) : (@Ne Nat wl (L + 1 + 1 + 1)) ∧ (@Ne Nat sl (L + 1 + 1 + 1)) ∧ (@Ne Nat pa (L + 1 + 1 + 1)) ∧ (@Ne Nat ca (L + 1 + 1 + 1)) ∧ (@Ne Nat (L + 1 + 1 + 1 + 1) (L + 1 + 1 + 1)) ∧ (@Ne Nat (L + 1 + 1) (L + 1 + 1 + 1)) ∧ (@Ne Nat (L + 1) (L + 1 + 1 + 1)) :=
  have n1 := (ne4 i1).2.1
  have n2 := (ne4 (Nat.lt_trans i1 i2)).2.1
  have n3 := (ne4 (Nat.lt_trans i1 (Nat.lt_trans i2 i3))).2.1
  have n4 := (ne4 (Nat.lt_trans i1 (Nat.lt_trans i2 (Nat.lt_trans i3 i4)))).2.1
  ⟨n4.symm, n3.symm, n2.symm, n1.symm, Nat.succ_ne_self _, (Nat.succ_ne_self _).symm, Nat.ne_of_lt (Nat.lt_succ_of_lt (Nat.lt_succ_self _))⟩
theorem nesD {L ca pa sl wl : Addr} (i1 : @LT.lt Nat _ (L + 1 + 1 + 1 + 1) ca) (i2 : @LT.lt Nat _ ca pa) (i3 : @LT.lt Nat _ pa sl) (i4 : @LT.lt Nat _ sl wl) : (@Ne Nat wl (L + 1 + 1 + 1 + 1)) ∧ (@Ne Nat sl (L + 1 + 1 + 1 + 1)) ∧ (@Ne Nat pa (L + 1 + 1 + 1 + 1)) ∧ (@Ne Nat ca (L + 1 + 1 + 1 + 1)) ∧ (@Ne Nat (L + 1 + 1 + 1) (L + 1 + 1 + 1 + 1)) ∧ (@Ne Nat (L + 1 + 1) (L + 1 + 1 + 1 + 1)) ∧ (@Ne Nat (L + 1) (L + 1 + 1 + 1 + 1)) :=
  have n1 := (ne4 i1).1
  have n2 := (ne4 (Nat.lt_trans i1 i2)).1
  have n3 := (ne4 (Nat.lt_trans i1 (Nat.lt_trans i2 i3))).1
  have n4 := (ne4 (Nat.lt_trans i1 (Nat.lt_trans i2 (Nat.lt_trans i3 i4)))).1
  ⟨n4.symm, n3.symm, n2.symm, n1.symm, (Nat.succ_ne_self _).symm, Nat.ne_of_lt (Nat.lt_succ_of_lt (Nat.lt_succ_self _)), Nat.ne_of_lt (Nat.lt_succ_of_lt (Nat.lt_succ_of_lt (Nat.lt_succ_self _)))⟩
theorem loop1 {prog : Program} {w : World} {p : Program} {loose : List Str} {mean : ExcName → Option Value} {mg mb : Str → Option Value} {h₀ : Heap} {L fa : Addr} {cd : Value} {m : Str → Option Value} {s : Shared} {h : Heap} {tk : Nat} {Q : Flow → Shared → Prop} {E : Value → Shared → Prop}
   {pa ca sl : Addr} {po co o1 o2 o3 o4 : Obj}
   (hE : PassesOwn (model prog w) (callerA.deeper (envOfC (Str.ofString "law") lawScope L fa cd)) (envOfC (Str.ofString "law") lawScope L fa cd) E)
   (B : Below callerA h₀ [] h₀) (F : Fr h₀ L h m) (X : (Mine.hd.heap_39 w.params).In h₀) (T : Top p loose mean mg mb h₀)
   (N : News h₀ L h [(sl, W.listOf #[] 0), (pa, po), (ca, co), (L + 1 + 1 + 1 + 1, o4), (L + 1 + 1 + 1, o3), (L + 1 + 1, o2), (L + 1, o1)])
   (d1 : o1.data = .cell (some (.ref pa))) (d2 : o2.data = .cell (some (.ref sl))) (d3 : isCell o3) (d4 : isCell o4) (hp : PenOk ca 0 po) (hco : CellsOk co) (i1 : @LT.lt Nat _ (L + 1 + 1 + 1 + 1) ca) (i2 : @LT.lt Nat _ ca pa) (i3 : @LT.lt Nat _ pa sl)
   (ret : ∀ svs ss po' rest h' tk' m' kk, Fr h₀ L h' m' → News h₀ L h' ((sl, W.listOf (List.toArray svs) kk) :: (pa, po') :: (ca, co) :: (L + 1 + 1 + 1 + 1, o4) :: (L + 1 + 1 + 1, o3) :: (L + 1 + 1, o2) :: (L + 1, o1) :: rest) → AllTup rest → Off L rest → PenOk ca 20 po' → AllIn (SubjIn rest) svs ss →
     (∀ S ∈ ss, simpleS S) → 1 ≤ ss.length → ss.length ≤ 3 → Q .next { s with heap := h', toks := tk' }) :
   wpAny (model prog w) (callerA.deeper (envOfC (Str.ofString "law") lawScope L fa cd)) (exec (lawStmt 2) (envOfC (Str.ofString "law") lawScope L fa cd)) Q E { s with heap := h, toks := tk } := by
  conv in lawStmt 2 => whnf
  conv in (occs := *) lawScope => all_goals whnf
  conv at hE in (occs := *) lawScope => all_goals whnf
  obtain ⟨n1, n2, n3, n4, n5, n6⟩ := nesP i1 i2 i3
  obtain ⟨m1, m2, m3, m4, m5, m6⟩ := nesS i1 i2 i3
  have hh9 : (callerA.deeper (envOfC (Str.ofString "law") lawScope L fa cd)).handled = none := rfl
  k_steps
  (rename Fr _ _ _ _ => lF')
  (rename News _ _ _ _ => lN')
  rename PenOk _ _ _ => hp'
  rename 0 ≤ _ => j0
  rename _ < (3 : Int) => j1
  obtain ⟨n, hn⟩ := toNat_of j0
  subst hn
  have hn3 : n < 3 := by omega
  refine Hold.of (Mine.for_range (n := 1 + n) (by simp) (by omega) rfl (fun _ _ => rfl) lF' lN'
    (fun i m l => ∃ svs ss po' rest kk, l = (sl, W.listOf (List.toArray svs) kk) :: (pa, po') :: (ca, co) :: (L + 1 + 1 + 1 + 1, o4) :: (L + 1 + 1 + 1, o3) :: (L + 1 + 1, o2) :: (L + 1, o1) :: rest ∧ AllTup rest ∧ Off L rest ∧ PenOk ca (1 + 3 * (i : Int)) po' ∧
      AllIn (SubjIn rest) svs ss ∧ (∀ S ∈ ss, simpleS S) ∧ ss.length = i) ?_ ?_ ?_)
  · exact ⟨[], [], _, [], 0, rfl, AllTup.nil, (fun _ h => nomatch h), hp'.le (by omega), .nil, (fun _ h => nomatch h), rfl⟩
  · clear lF' lN' hp'
    rintro i t m₁ news₁ h₁ tk₁ its hi ⟨svs, ss, po1, rest, kk, rfl, hrest, hoff, hp1, hS, hsim, hlen⟩ hidle hap F' N'
    have hi3 : i < 3 := by omega
    have a1 : ∀ p ∈ rest, p.1 ≠ sl := tup_ne N' (List.mem_append_right _ (.head _)) rfl (by decide) (fun p hp => List.mem_append_right _ (.tail _ (.tail _ (.tail _ (.tail _ (.tail _ (.tail _ (.tail _ hp)))))))) hrest
    have a2 : ∀ p ∈ rest, p.1 ≠ pa := tup_ne N' (List.mem_append_right _ (.tail _ (.head _))) hp1.cls (by decide) (fun p hp => List.mem_append_right _ (.tail _ (.tail _ (.tail _ (.tail _ (.tail _ (.tail _ (.tail _ hp)))))))) hrest
    have b1 : ∀ p ∈ its, p.1 ≠ sl := fun p hp => (hap _ (.head _) p hp).symm
    have b2 : ∀ p ∈ its, p.1 ≠ pa := fun p hp => (hap _ (.tail _ (.head _)) p hp).symm
    have hz : (List.toArray svs).size ≤ sizeLine := by rw [List.size_toArray, hS.1, hlen]; exact Nat.le_trans (Nat.le_of_lt hi3) (by decide)
    k_steps
    refine Hold.of ?_
    (rename News _ _ _ _ => lN')
    k_dflt (refine item5 lN' (by k_mem) (by assumption) (by assumption) (fun v9 hv9 => ?_) (by with_unfolding_all rfl))
    rename PenOk _ _ _ => hp2; rename simple _ => S9; rename CondIn _ _ _ => C9
    rw [wtext hi3] at lN' C9
    have hgood : ∀ (k : Nat) (po : Obj), PenOk ca (1 + 3 * ↑i + 1 + 2) po → ∀ q ∈ [(sl, W.listOf (List.toArray svs) k), (pa, po), (ca, co), (L + 1 + 1 + 1 + 1, o4), (L + 1 + 1 + 1, o3), (L + 1 + 1, o2), (L + 1, o1)], ¬ Good q.2 := fun k po hpo =>
      List.forall_mem_cons.mpr ⟨notGood_list, List.forall_mem_cons.mpr ⟨hpo.notGood, List.forall_mem_cons.mpr ⟨hco.notGood, List.forall_mem_cons.mpr ⟨notGood_cell d4, List.forall_mem_cons.mpr ⟨notGood_cell d3, List.forall_mem_cons.mpr ⟨notGood_cell ⟨_, d2⟩, List.forall_mem_cons.mpr ⟨notGood_cell ⟨_, d1⟩, List.forall_mem_nil _⟩⟩⟩⟩⟩⟩⟩
    obtain ⟨X, hX, N2, ap2, sub, sub2, hXf⟩ := turn_grown lN' (by simp only [List.cons_append, List.nil_append]; walk_at "Grown") (ap_congr hap (by rfl)) hrest hidle (hgood kk _ hp2)
    have hv' : ∃ S, simpleS S ∧ SubjIn (X ++ rest) v9 S := by
      rcases hv9 with rfl | rfl | rfl | rfl | rfl
      · exact ⟨.worth i, trivial, (SubjIn.worth (by k_mem) (RefIn.mk hi3 (by k_mem) (by k_mem) (by k_mem))).mono sub⟩
      · exact ⟨.truth _, S9, (SubjIn.truth (by k_mem) (CondIn.mono C9 (by walk_at "Sub"))).mono sub⟩
      · exact ⟨.yes, trivial, (SubjIn.yes (by k_mem)).mono sub⟩
      · exact ⟨.no, trivial, (SubjIn.no (by k_mem)).mono sub⟩
      · exact ⟨.yes, trivial, (SubjIn.yes (by k_mem)).mono sub⟩
    obtain ⟨S, hS1, hS2⟩ := hv'
    clear lN' sub C9 hv9
    simp only [List.cons_append, List.nil_append] at N2 ap2
    have a3 : ∀ p ∈ X ++ rest, p.1 ≠ sl := tup_ne N2 (List.mem_append_right _ (.head _)) rfl (by decide) (fun p hp => List.mem_append_right _ (.tail _ (.tail _ (.tail _ (.tail _ (.tail _ (.tail _ (.tail _ hp)))))))) hX
    k_steps
    (rename Fr _ _ _ _ => lF')
    (rename News _ _ _ _ => lN')
    rw [List.push_toArray] at lN'
    refine ⟨_, _, _, _, rfl, lF', lN', ap_congr ap2 (by rfl), (fun p hp => nomatch hp), svs ++ [v9], ss ++ [S], _, X ++ rest, _, rfl, hX, hoff.app hXf (.tail _ (.tail _ (.tail _ (.tail _ (.head _))))) (.tail _ (.tail _ (.tail _ (.head _)))), hp2.le (by omega), AllIn.snoc (hS.imp fun v x h => h.mono (Sub.of sub2)) hS2, fun S' hS' => ?_, by simp [hlen]⟩
    rcases List.mem_append.mp hS' with hS' | hS'
    · exact hsim S' hS'
    · rw [List.mem_singleton.mp hS']; exact hS1
  · rintro m₁ news₁ h₁ tk₁ ⟨svs, ss, po1, rest, kk, rfl, hrest, hoff, hp1, hS, hsim, hlen⟩ F' N'
    exact ret svs ss po1 rest h₁ tk₁ m₁ kk F' N' hrest hoff (hp1.le (by omega)) hS hsim (by omega) (by omega)
end

/- part R1 -/
section
theorem primeR1 : (PySem.Challenge.rw_pq0615_01, Mine.hd.heap_39) = (PySem.Challenge.rw_pq0615_01, Mine.hd.heap_39) := by
  k_fill
  rfl
theorem wordsR10 : True := by
  k_with_none
  w_top off
  k_with "k_mem" => ((refine' mem_of ?_; ktr_member))
  k_with "Sub" => (first | exact Sub.refl | (refine Sub.cons ?_; walk_at "Sub") | (refine Sub.app ?_; walk_at "Sub") | fail "Sub")
  k_with "SubL" => (first | exact sub_refl | (refine sub_cons ?_; walk_at "SubL") | (refine sub_app ?_; walk_at "SubL") | fail "SubL")
  k_with "Lt" => (first | assumption | exact allLt_of (by assumption) | ((try simp only [AllLt, and_true]); assumption) | fail "Lt")
  k_with "Grown" => (first | exact Grown.refl | assumption | (refine Grown.cons ?_ rfl ?_; rotate_left; walk_at "Lt"; walk_at "Grown") | (refine Grown.app ?_ (by assumption) (by assumption); walk_at "Grown") | fail "Grown")
  k_with "Rel" => (first | assumption | exact CondIn.mono (by assumption) (by walk_at "Sub") | exact TrIn.mono (by assumption) (by walk_at "Sub") | exact RefIn.mono (by assumption) (by walk_at "Sub") | exact NumIn.mono (by assumption) (by walk_at "Sub") | exact SubjIn.mono (by assumption) (by walk_at "Sub") | exact ThingIn.mono (by assumption) (by walk_at "Sub") | walk_at "RelCon")
  k_with "RelCon" => (first | (apply TrIn.mk; k_mem) | (apply CondIn.eq; k_mem; walk_at "Rel"; walk_at "Rel") | (apply CondIn.le; k_mem; walk_at "Rel"; walk_at "Rel") | (apply CondIn.ge; k_mem; walk_at "Rel"; walk_at "Rel") | (apply CondIn.and; k_mem; walk_at "Rel"; walk_at "Rel") | (apply CondIn.or; k_mem; walk_at "Rel"; walk_at "Rel") | (apply CondIn.not; k_mem; walk_at "Rel") | fail "RelCon")
  k_with "MyItem" => ((
   (with_reducible show wpAny _ _ (subscriptTail _ _ (Value.ref _) (Value.int _ _)) _ _ _)
   k_here
   k_dflt (first
     | (refine' item_tupleT ?mtA ?mtB ?mtC ?mtD ?mtE ?_; (case mtA => (refine' News.isTup ?n9 ?m9; (case n9 => k_asm); (case m9 => k_mem))); (case mtB => decide); (case mtC => decide); (case mtD => rfl); (case mtE => rfl); k_whole)
     | (refine' item_listT ?mlA ?mlB ?mlC ?mlD ?_; (case mlA => (refine' News.isList ?n9 ?m9; (case n9 => k_asm); (case m9 => k_mem))); (case mlB => first | decide | omega); (case mlC => first | decide | omega); (case mlD => first | rfl | exact tr_b (by assumption) | exact tr_w (by assumption)); k_whole)
     | fail "MyItem")))
  k_with "subscriptTail Name Constant ref int" => (walk_at "MyItem")
  k_with "subscriptTail Name" => (walk_at "MyItem")
  k_with "subscriptTail Subscript" => (walk_at "MyItem")
  k_with "ite" => ((k_closed; first | (refine ite_pos (by decide +kernel) ?_) | (refine ite_neg (by decide +kernel) ?_)))
  k_with "ite" => (first | with_reducible refine if_t ?_ | with_reducible refine if_f ?_)
  k_with "subscriptTail Subscript" => ((
   (with_reducible show wpAny _ _ (subscriptTail _ (Expr.Slice (some _) none none _) (Value.str _ _) _) _ _ _)
   (with_reducible rename Fr _ _ _ _ => F')
   (with_reducible rename News _ _ _ _ => N')
   (refine slice_strN_sn (hsz := ?hsz) (s := ⟨_, _, _, _, _⟩) F' N' ?_)
   (case hsz => size_fits)
   intro _ _ _ _ _))
  k_with "units_room" => (ktr_units)
  k_with "compareOp Eq ref ref" => ((
   (with_reducible show wpAny _ _ (compareOp CmpOp.Eq (Value.ref _) (Value.ref _)) _ _ _)
   k_here
   k_dflt (refine' eq_ref_num ?erA ?erB ?erC ?erD ?_; (case erA => k_asm); (case erB => walk_at "Rel"); (case erC => walk_at "Rel"); (case erD => ktr_units); k_whole)))
  k_with "call type:int" => ((
   (with_reducible show wpAny _ _ (call (Value.type "int") [Value.str (PySem.Txt.slice (wname _) _ _) _]) _ _ _)
   refine KIN.call_text (wname_int (by assumption)) (wname_slen _) ?_))
  k_with "call type:int" => ((
   (with_reducible show wpAny _ _ (call (Value.type "int") [Value.str (PySem.Txt.slice (cname _) _ _) _]) _ _ _)
   refine KIN.call_text (cname_int (by assumption)) (cname_slen _) ?_))
  k_with "MyFor" => ((k_here; (rename Fr _ _ _ _ => lF'); (with_unfolding_all refine' For_turns lF' ?_; k_whole)))
  k_with "exec For Tuple Call cons nil" => (walk_at "MyFor")
  k_with "exec For Tuple Subscript cons nil" => (walk_at "MyFor")
  k_with "exec For Name Name cons nil" => (walk_at "MyFor")
  k_with "exec For Name Call cons nil" => (walk_at "MyFor")
  k_with "k_ne" => (first | assumption | exact ne_new (by assumption) (by k_mem) | exact Ne.symm (by assumption) | exact Ne.symm (ne_new (by assumption) (by k_mem)))
  k_with "Lt" => (first | exact allLt_of (by assumption) | exact allLt_congr (by assumption) (by first | rfl | simp only [List.map_cons, List.map_append]))
  k_with "k_all" => (first | assumption | exact List.forall_mem_nil _ | (apply fresh_ne; assumption; k_mem) | (refine' List.forall_mem_append.mpr ⟨?_, ?_⟩; k_all; k_all) | (refine' List.forall_mem_cons.mpr ⟨?_, ?_⟩; k_ne; k_all))
  k_with "k_updF" => ((apply updF_app; k_all; k_updF))
  k_with "k_mem" => ((refine' mem_app_l ?_; k_mem))
  k_with "k_mem" => ((refine' mem_app_r ?_; k_mem))
  k_with "call ref" => ((
   (with_reducible show wpAny _ _ (call (Value.ref 77) _) _ _ _)
   k_here
   k_dflt (refine' draw_walk ?d1 ?d2 ?kB ?kF ?kX ?kN ?kU ?kc ?kT ?kK ?kp ?kco ?kk ?kd ?ku ?_; (case d1 => decide); (case d2 => decide); (case kB => k_asm); (case kF => k_asm); (case kX => k_asm); (case kN => k_asm); (case kU => k_updF); (case kco => assumption); (case kc => k_mem); (case kT => k_asm); (case kK => first | exact rfl | assumption); (case kp => k_asm); (case kk => omega); (case kd => ktr_room); (case ku => ktr_units))
   intro j9 t9 po9 h9 tk9 j0 j1 hp9 F9 N9
   (try dsimp only at N9)
   (try dsimp only)
   (try k_fold)))
  k_with "call ref" => ((
   (with_reducible show wpAny _ _ (call (Value.ref 84) _) _ _ _)
   k_here
   k_dflt (refine' simple_walk ?kB ?kF ?kX ?kN ?kU ?kc ?kT ?kK ?kp ?kco ?kk ?kd ?ku ?_; (case kB => k_asm); (case kF => k_asm); (case kX => k_asm); (case kN => k_asm); (case kU => k_updF); (case kco => assumption); (case kc => k_mem); (case kT => k_asm); (case kK => first | exact rfl | assumption); (case kp => k_asm); (case kk => omega); (case kd => ktr_room); (case ku => ktr_units))
   intro r9 c9 po9 tl9 h9 tk9 S9 hp9 F9 N9 A9 W9 C9
   (try dsimp only at N9 W9 C9)
   (try dsimp only)
   (try k_fold)))
  k_with "call builtin:list.append" => ((
   (with_reducible show wpAny _ _ (call (Value.builtin "list.append") [Value.ref _, _]) _ _ _)
   k_here
   k_dflt (refine' append_led ?aF ?aN ?aU ?aZ ?_; (case aF => k_asm); (case aN => k_asm); (case aU => k_updF); (case aZ => assumption))
   intro h' F' N'
   (try dsimp only at N')
   (try dsimp only)
   (try k_sweep)))
  k_with "MyFor" => ((k_here; (rename Fr _ _ _ _ => lF'); (with_unfolding_all refine' For_turns lF' ?_ (hE := by first | assumption | passes_own); k_whole)))
  k_with "exec For Tuple Call cons nil" => (walk_at "MyFor")
  k_with "exec For Tuple Subscript cons nil" => (walk_at "MyFor")
  k_with "exec For Name Name cons nil" => (walk_at "MyFor")
  k_with "exec For Name Call cons nil" => (walk_at "MyFor")
  k_with "call type:range" => ((refine Hold.mk ?_))
  k_with "call type:zip" => ((refine Hold.mk ?_))
  k_with "pyIter ref" => ((refine Hold.mk ?_))
  k_with "callWith" => (((with_reducible show wpAny _ _ (callWith _ (Value.builtin "list.append") _ _ _) _ _ _); refine callWith_method1 ?_))
  k_with "Grown" => (first | (with_reducible refine Grown.cons ?_ rfl ?_; rotate_left; walk_at "Lt"; walk_at "Grown") | with_reducible exact Grown.refl | (with_reducible refine Grown.app ?_ (by assumption) (by first | assumption | exact fresh_congr (by assumption) (by simp only [List.map_cons, List.map_append])); walk_at "Grown") | fail "Grown")
  k_with "eval ListComp" => ((refine Hold.mk ?_))
  k_with "call ref" => ((
   (with_reducible show wpAny _ _ (call (Value.ref 91) _) _ _ _)
   refine Hold.mk ?_))
  trivial
def noExpr : PySem.Expr := .Constant .none 0 ⟨0,0,0,0⟩
def compB : PySem.Expr := match lawStmt 4 with | .For _ _ (.Assign _ (.Call _ (e :: _) _ _) _ :: _) _ _ => e | _ => noExpr
def eltB : PySem.Expr := match compB with | .ListComp e _ _ _ => e | _ => noExpr
def scopeB : PySem.Scope := match compB with | .ListComp _ _ sc _ => sc | _ => default

theorem updF_re {d : Addr} {o o' : Obj} {l : Led} {g : Obj → Led} (U : UpdF d o l g) : UpdF d o' (g o') g := by
  induction U with
  | head h => exact .head h
  | tail h _ ih => exact .tail h ih
theorem updF_addr {d : Addr} {o o' : Obj} {l : Led} {g : Obj → Led} (U : UpdF d o l g) : l.map (·.1) = (g o').map (·.1) := by
  induction U with
  | head h => rfl
  | tail h _ ih => simp only [List.map_cons, ih]
theorem updF_has {d : Addr} {o o' : Obj} {l : Led} {g : Obj → Led} (U : UpdF d o l g) : (d, o') ∈ g o' := by
  induction U with
  | head h => exact .head _
  | tail h _ ih => exact .tail _ ih
theorem zip_snoc' {α β : Type} : ∀ {xs : List α} {ys : List β} {x : α} {y : β}, xs[ys.length]? = some x → xs.zip (ys ++ [y]) = xs.zip ys ++ [(x, y)]
  | [], _, _, _, h => by simp at h
  | a :: xs, [], x, y, h => by simp at h; simp [h]
  | a :: xs, b :: ys, x, y, h => by simp at h; simp [zip_snoc' h]
theorem FitsRow.snoc {ss : List Subj} {ts : List Thing} {S : Subj} {t : Thing} (h : FitsRow ss ts) (e : ss[ts.length]? = some S) (k : Fits S t = true) : FitsRow ss (ts ++ [t]) := fun p hp => by
  rw [zip_snoc' e] at hp
  rcases List.mem_append.mp hp with hp | hp
  · exact h p hp
  · rw [List.mem_singleton.mp hp]; exact k

def RowX (own news : Led) (v : Value) (ts : List Thing) : Prop := ∃ ta to tvs, v = .ref ta ∧ (ta, to) ∈ own ∧ SrcO false to (List.toArray tvs) ∧ AllIn (ThingIn news) tvs ts
theorem RowX.mono {own own' news news' : Led} {v : Value} {ts : List Thing} (h : RowX own news v ts) (a : ∀ p ∈ own, p ∈ own') (s : Sub news news') : RowX own' news' v ts := by
  obtain ⟨ta, to, tvs, rfl, hm, hs, hA⟩ := h
  exact ⟨ta, to, tvs, rfl, a _ hm, hs, hA.imp fun v x k => k.mono s⟩
theorem RowX.row {own news : Led} {v : Value} {ts : List Thing} (h : RowX own news v ts) (a : ∀ p ∈ own, p ∈ news) : RowIn news v ts := by
  obtain ⟨ta, to, tvs, rfl, hm, hs, hA⟩ := h
  exact ⟨ta, to, tvs, rfl, a _ hm, hs, hA⟩
theorem obj_use2 {prog : Program} {w : World} {p : Program} {loose : List Str} {mean : ExcName → Option Value} {mg mb : Str → Option Value} {S : Subj} {v : Value}
   {pa ca : Addr} {po co : Obj} {k : Int} {dp un : Nat} {gd : Option (List Code)} {cn : Str} {cs : Scope} {a : Addr} {ccd : Value} {cl : List (Str × Addr)} {outer : List Env} {A₀ : Around} {base h₀ : Heap} {L : Addr} {m : Str → Option Value} {all : Led} {all' : Obj → Led} {s : Shared}
    {Q E : Value → Shared → Prop}
    (B : Below A₀ base outer h₀) (F : Fr h₀ L s.heap m) (X : (Mine.hd.heap_39 w.params).In h₀) (N : News h₀ L s.heap all) (U : UpdF pa po all all') (hc : (ca, co) ∈ all) (T : Top p loose mean mg mb h₀) (hk : cs.kind = .function)
    (hp : PenOk ca k po) (hco : CellsOk co) (hcost : k + 4 ≤ 10000) (hS : SubjIn all v S) (hd : dp + 3 < recursionLimit) (hu : un + 8 * 3 + 400 < cLine)
    (ret : ∀ r t po' tl h' tk', Fits S t = true → simpleT t → PenOk ca (k + 4) po' → Fr h₀ L h' m → News h₀ L h' (tl ++ all' po') → AllTup tl → Fresh tl (all' po') → ThingIn (tl ++ all' po') r t → Q r { s with heap := h', toks := tk' }) :
    wpAny (model prog w) (ktrTop dp un gd cn cs L a ccd cl outer) (call (.ref 91) [.ref pa, v]) Q E s := by
  refine pen_use (object_does (S := S)) (fun _ _ hs h => h.mono hs) (fun _ _ _ hs ⟨t, a, b, c⟩ => ⟨t, a, b, c.mono (Sub.of hs)⟩) B F X N U hc T hk hp hco hcost hS hd hu ?_
  intro r po' tl h' tk' hp' F' N' ht hf ⟨t, h1, h2, h3⟩
  exact ret r t po' tl h' tk' h1 h2 hp' F' N' ht (fresh_congr hf (updF_addr U)) h3
theorem tuple_led {prog : Program} {w : World} {A : Around} {E : Value → Shared → Prop} {s : Shared} {h₀ : Heap} {L D : Addr} {m : Str → Option Value} {news : Led} {ys : List Value} {n : Nat} {Q : Value → Shared → Prop} (F : Fr h₀ L s.heap m) (N : News h₀ L s.heap news) (hm : (D, W.listOf (List.toArray ys) n) ∈ news) (hz : ys.length ≤ 1000)
    (h : ∀ D' h', Fr h₀ L h' m → News h₀ L h' ((D', ({ cls := .type "tuple", data := .seq (List.toArray ys) } : Obj)) :: news) → (∀ p ∈ news, p.1 < D') → Q (.ref D') { s with heap := h' }) :
    wpAny (model prog w) A (call (.type "tuple") [.ref D]) Q E s := by
  refine PySem.call_tuple_list ⟨_, (N _ hm).1, rfl, _, rfl⟩ (fun h' hk => ?_) (by rw [List.size_toArray]; exact Nat.le_trans hz (by decide))
  have F' := F.keeps hk
  refine h _ _ (F'.push _) (fun p hp => ?_) fun p hp => Heap.lt_size (hk _ _ (N p hp).1)
  rcases List.mem_cons.mp hp with rfl | hp
  · exact ⟨Heap.get?_push_size _ rfl, (Nat.ne_of_lt F'.ns.lt).symm, next_is_new F'⟩
  · exact ⟨Heap.get?_push_of_some _ (hk _ _ (N p hp).1), (N p hp).2⟩
theorem updF_sub {d : Addr} {o o1 o2 : Obj} {l : Led} {g : Obj → Led} (U : UpdF d o l g) (h : ¬ Good o1) : Sub (g o1) (g o2) := by
  obtain ⟨pr, ps, rfl, hg, _, _⟩ := U.split
  rw [hg o1, hg o2]
  exact Sub.bothApp (Sub.swap h Sub.refl)
theorem adr_congr {l l' : Led} (e : l.map (·.1) = l'.map (·.1)) {p : Addr × Obj} (hp : p ∈ l') : ∃ q ∈ l, q.1 = p.1 := by
  have : p.1 ∈ l.map (·.1) := e ▸ List.mem_map.mpr ⟨p, hp, rfl⟩
  obtain ⟨q, hq, e'⟩ := List.mem_map.mp this
  exact ⟨q, hq, e'⟩
theorem updF_addr2 {d : Addr} {o o1 o2 : Obj} {l : Led} {g : Obj → Led} (U : UpdF d o l g) : (g o1).map (·.1) = (g o2).map (·.1) := (updF_addr (o' := o1) U).symm.trans (updF_addr (o' := o2) U)
theorem notGood_ns {o : Obj} {m : Str → Option Value} (h : LCg.NsObj o m) : ¬ Good o := fun ⟨_, vs, n, hd, _⟩ => by
  obtain ⟨es, ep, e, _⟩ := h
  rw [e] at hd
  cases hd
theorem notGood_lst {ys : List Value} : ¬ Good (LCg.lst ys) := notGood_cls (n := "list") rfl (by decide)
theorem objs_comp {prog : Program} {w : World} {p : Program} {loose : List Str} {mean : ExcName → Option Value} {mg mb : Str → Option Value} {h₀ : Heap} {L fa C : Addr} {cd : Value} {m : Str → Option Value} {s : Shared} {h : Heap} {tk : Nat} {Q E : Value → Shared → Prop}
   {pa ca sl : Addr} {po co o1 o2 : Obj} {svs : List Value} {ss : List Subj} {kk : Nat} {rest all : Led} {all' : Obj → Led} {k : Int}
   (B : Below callerA h₀ [] h₀) (F : Fr h₀ L h m) (X : (Mine.hd.heap_39 w.params).In h₀) (T : Top p loose mean mg mb h₀)
   (N : News h₀ L h all) (U : UpdF pa po all all') (hca : ∀ o, (ca, co) ∈ all' o) (hsl : ∀ o, (sl, W.listOf (List.toArray svs) kk) ∈ all' o) (hm1 : ∀ o, (L + 1, o1) ∈ all' o) (hm2 : ∀ o, (L + 1 + 1, o2) ∈ all' o)
   (d1 : o1.data = .cell (some (.ref pa))) (d2 : o2.data = .cell (some (.ref sl))) (hp : PenOk ca k po) (hk : k + 12 ≤ 10000) (hco : CellsOk co) (hr : ∀ o, ∀ p ∈ rest, p ∈ all' o) (hS : AllIn (SubjIn rest) svs ss) (hl3 : ss.length ≤ 3)
   (ret : ∀ r po' tl h' tk' ts, PenOk ca (k + 12) po' → Fr h₀ L h' m → News h₀ L h' (tl ++ all' po') → AllTup tl → Fresh tl (all' po') → RowX tl (tl ++ all' po') (.ref r) ts → ss.length = ts.length → FitsRow ss ts → (∀ t ∈ ts, simpleT t) → Q (.ref r) { s with heap := h', toks := tk' }) :
   wpAny (model prog w) (callerA.deeper (envOfC (Str.ofString "law") lawScope L fa cd)) (eval eltB (compEnvC scopeB [(Str.ofString "subjects", L + 1 + 1), (Str.ofString "pen", L + 1)] C (envOfC (Str.ofString "law") lawScope L fa cd))) Q E { s with heap := h, toks := tk } := by
  conv in eltB => whnf
  conv in (occs := *) scopeB => all_goals whnf
  conv in (occs := *) lawScope => all_goals whnf
  have hall : all = all' po := by obtain ⟨pr, ps, rfl, hg, _⟩ := U.split; exact (hg po).symm
  have g1 := hm1 po; have g2 := hm2 po; have g3 := hsl po
  rw [hall] at N
  have hz : (List.toArray svs).size ≤ sizeLine := by rw [List.size_toArray, hS.1]; exact Nat.le_trans hl3 (by decide)
  k_steps
  refine Hold.of ?_
  refine comp_open (by with_unfolding_all rfl) rfl (by decide) ?_
  k_steps
  refine Hold.of ?_
  (rename Fr _ _ _ _ => lF')
  (rename News _ _ _ _ => lN')
  refine comp_src true rfl (by decide) rfl (by rfl) hz lF' lN' g3 ⟨rfl, _, rfl⟩
    (fun i ys l => ∃ po1 tl ts, l = tl ++ all' po1 ∧ AllTup tl ∧ Fresh tl (all' po1) ∧ PenOk ca (k + 4 * (i : Int)) po1 ∧ AllIn (ThingIn (tl ++ all' po1)) ys ts ∧ ts.length = i ∧ FitsRow ss ts ∧ ∀ t ∈ ts, simpleT t) ?_ ?_ ?_
  · exact ⟨po, [], [], rfl, AllTup.nil, (fun _ h => nomatch h), hp.le (by omega), .nil, rfl, (fun p hp => by simp at hp), (fun _ h => nomatch h)⟩
  · rintro i v ys news₁ hv ⟨po1, tl, ts, rfl, htl, hfr, hp1, hT, hlen, hfit, hts⟩ hkm C2 oC D m₂ h₁ tk₁ its E' hm2 hoC hid hCD hap1 hap2 F' N'
    refine wpAny_tests_nil ?_
    simp only [if_true]
    obtain ⟨S, eS, hSv⟩ := hS.at hv
    have q1 := hm1 po1
    have hi3 : i < 3 := Nat.lt_of_lt_of_le (List.getElem?_eq_some_iff.mp eS).1 hl3
    have hpm : ∀ p ∈ its, p.1 ≠ pa := fun p hp => ((hap2 (pa, po1) (List.mem_append_right _ (by
      have := updF_has (o' := po1) U; exact this))).2.2 p hp).symm
    have hCa : C2 ≠ pa := ((hap2 (pa, po1) (List.mem_append_right _ (updF_has U))).1).symm
    have hDa : D ≠ pa := ((hap2 (pa, po1) (List.mem_append_right _ (updF_has U))).2.1).symm
    have htp : ∀ p ∈ tl, p.1 ≠ pa := fun p hp => hfr p hp (pa, po1) (updF_has U)
    have hsub : ∀ p ∈ rest, p ∈ its ++ (C2, oC) :: (D, LCg.lst ys) :: (tl ++ all' po1) := fun p hp => List.mem_append_right _ (.tail _ (.tail _ (List.mem_append_right _ (hr po1 p hp))))
    k_steps
    refine Hold.of ?_
    k_here
    with_unfolding_all refine' obj_use2 (S := S) B F' X N' (updF_app hpm (UpdF.tail hCa (UpdF.tail hDa (updF_app htp (updF_re U))))) (List.mem_append_right _ (.tail _ (.tail _ (List.mem_append_right _ (hca po1))))) T rfl hp1 hco (by omega) (hSv.mono (Sub.of hsub)) (by decide) (by decide) ?_
    intro r t2 po2 tl2 h2 tk2 z1 z2 z3 F2 N2 z4 z5 z6
    k_steps
    refine ⟨h2, tk2, (tl2 ++ tl) ++ all' po2, rfl, F2, fun p hp => N2 p ?_, fun p hp => ?_, fun p hp => ?_, po2, tl2 ++ tl, ts ++ [t2], rfl, z4.app htl, ?_, z3.le (by omega), AllIn.snoc (hT.imp fun v x h => h.mono ?_) (z6.mono ?_), by simp [hlen], hfit.snoc (hlen ▸ eS) z1, fun t ht => ?_⟩
    · simp only [List.mem_append, List.mem_cons] at hp ⊢
      rcases hp with h | h | h | (h | h) | h <;> simp [h]
    · rw [List.append_assoc] at hp
      rcases List.mem_append.mp hp with hp | hp
      · exact ⟨z5 p hp (C2, oC) (List.mem_append_right _ (.head _)), z5 p hp (D, LCg.lst ys) (List.mem_append_right _ (.tail _ (.head _))), fun q hq => z5 p hp q (List.mem_append_left _ hq)⟩
      · obtain ⟨q, hq, e⟩ := adr_congr (l := tl ++ all' po1) (by rw [List.map_append, List.map_append, updF_addr2 (o1 := po1) (o2 := po2) U]) hp
        rw [← e]
        exact hap2 q hq
    · rw [List.mem_singleton.mp hp]; exact List.mem_append_right _ (hsl po2)
    · intro p hp q hq
      rcases List.mem_append.mp hp with hp | hp
      · exact z5 p hp q (List.mem_append_right _ (.tail _ (.tail _ (List.mem_append_right _ hq))))
      · exact fresh_congr hfr (updF_addr2 U) p hp q hq
    · intro p hp g
      rw [List.append_assoc]
      refine List.mem_append_right _ ?_
      exact Sub.bothApp (updF_sub U hp1.notGood) p hp g
    · intro p hp g
      rw [List.append_assoc]
      rcases List.mem_append.mp hp with hp | hp
      · exact List.mem_append_left _ hp
      · rcases List.mem_append.mp hp with hp | hp
        · exact absurd g (hid p hp)
        · rcases List.mem_cons.mp hp with rfl | hp
          · exact absurd g (notGood_ns hoC)
          · rcases List.mem_cons.mp hp with rfl | hp
            · exact absurd g notGood_lst
            · exact List.mem_append_right _ hp
    · rcases List.mem_append.mp ht with ht | ht
      · exact hts t ht
      · rw [List.mem_singleton.mp ht]; exact z2
  · rintro ys news₁ D h₁ tk₁ ⟨po1, tl, ts, rfl, htl, hfr, hp1, hT, hlen, hfit, hts⟩ hD F' N'
    k_steps
    have hsz : svs.toArray.size = ss.length := by rw [List.size_toArray, hS.1]
    refine tuple_led F' N' (.head _) (by rw [hT.1, hlen, hsz]; omega) (fun D2 h2 F2 N2 l2 => ?_)
    refine ret D2 po1 ((D2, { cls := .type "tuple", data := .seq (List.toArray ys) }) :: tl) h2 tk₁ ts (hp1.le (by rw [hsz]; omega)) F2 (fun p hp => N2 p ?_) (AllTup.cons rfl htl) (Fresh.cons hfr fun q hq => (Nat.ne_of_lt (l2 q (.tail _ (List.mem_append_right _ hq)))).symm) ?_ (by rw [hlen, hsz]) hfit hts
    · rcases List.mem_cons.mp hp with rfl | hp
      · exact .head _
      · exact .tail _ (.tail _ hp)
    · exact ⟨D2, _, ys, rfl, .head _, ⟨rfl, _, rfl⟩, hT.imp fun v x h => h.mono (Sub.cons Sub.refl)⟩
end

/- part R2 -/
section
theorem primeR2 : (PySem.Challenge.rw_pq0615_01, Mine.hd.heap_39) = (PySem.Challenge.rw_pq0615_01, Mine.hd.heap_39) := by
  k_fill
  rfl
theorem wordsR20 : True := by
  k_with_none
  w_top off
  k_with "k_mem" => ((refine' mem_of ?_; ktr_member))
  k_with "Sub" => (first | exact Sub.refl | (refine Sub.cons ?_; walk_at "Sub") | (refine Sub.app ?_; walk_at "Sub") | fail "Sub")
  k_with "SubL" => (first | exact sub_refl | (refine sub_cons ?_; walk_at "SubL") | (refine sub_app ?_; walk_at "SubL") | fail "SubL")
  k_with "Lt" => (first | assumption | exact allLt_of (by assumption) | ((try simp only [AllLt, and_true]); assumption) | fail "Lt")
  k_with "Grown" => (first | exact Grown.refl | assumption | (refine Grown.cons ?_ rfl ?_; rotate_left; walk_at "Lt"; walk_at "Grown") | (refine Grown.app ?_ (by assumption) (by assumption); walk_at "Grown") | fail "Grown")
  k_with "Rel" => (first | assumption | exact CondIn.mono (by assumption) (by walk_at "Sub") | exact TrIn.mono (by assumption) (by walk_at "Sub") | exact RefIn.mono (by assumption) (by walk_at "Sub") | exact NumIn.mono (by assumption) (by walk_at "Sub") | exact SubjIn.mono (by assumption) (by walk_at "Sub") | exact ThingIn.mono (by assumption) (by walk_at "Sub") | walk_at "RelCon")
  k_with "RelCon" => (first | (apply TrIn.mk; k_mem) | (apply CondIn.eq; k_mem; walk_at "Rel"; walk_at "Rel") | (apply CondIn.le; k_mem; walk_at "Rel"; walk_at "Rel") | (apply CondIn.ge; k_mem; walk_at "Rel"; walk_at "Rel") | (apply CondIn.and; k_mem; walk_at "Rel"; walk_at "Rel") | (apply CondIn.or; k_mem; walk_at "Rel"; walk_at "Rel") | (apply CondIn.not; k_mem; walk_at "Rel") | fail "RelCon")
  k_with "MyItem" => ((
   (with_reducible show wpAny _ _ (subscriptTail _ _ (Value.ref _) (Value.int _ _)) _ _ _)
   k_here
   k_dflt (first
     | (refine' item_tupleT ?mtA ?mtB ?mtC ?mtD ?mtE ?_; (case mtA => (refine' News.isTup ?n9 ?m9; (case n9 => k_asm); (case m9 => k_mem))); (case mtB => decide); (case mtC => decide); (case mtD => rfl); (case mtE => rfl); k_whole)
     | (refine' item_listT ?mlA ?mlB ?mlC ?mlD ?_; (case mlA => (refine' News.isList ?n9 ?m9; (case n9 => k_asm); (case m9 => k_mem))); (case mlB => first | decide | omega); (case mlC => first | decide | omega); (case mlD => first | rfl | exact tr_b (by assumption) | exact tr_w (by assumption)); k_whole)
     | fail "MyItem")))
  k_with "subscriptTail Name Constant ref int" => (walk_at "MyItem")
  k_with "subscriptTail Name" => (walk_at "MyItem")
  k_with "subscriptTail Subscript" => (walk_at "MyItem")
  k_with "ite" => ((k_closed; first | (refine ite_pos (by decide +kernel) ?_) | (refine ite_neg (by decide +kernel) ?_)))
  k_with "ite" => (first | with_reducible refine if_t ?_ | with_reducible refine if_f ?_)
  k_with "subscriptTail Subscript" => ((
   (with_reducible show wpAny _ _ (subscriptTail _ (Expr.Slice (some _) none none _) (Value.str _ _) _) _ _ _)
   (with_reducible rename Fr _ _ _ _ => F')
   (with_reducible rename News _ _ _ _ => N')
   (refine slice_strN_sn (hsz := ?hsz) (s := ⟨_, _, _, _, _⟩) F' N' ?_)
   (case hsz => size_fits)
   intro _ _ _ _ _))
  k_with "units_room" => (ktr_units)
  k_with "compareOp Eq ref ref" => ((
   (with_reducible show wpAny _ _ (compareOp CmpOp.Eq (Value.ref _) (Value.ref _)) _ _ _)
   k_here
   k_dflt (refine' eq_ref_num ?erA ?erB ?erC ?erD ?_; (case erA => k_asm); (case erB => walk_at "Rel"); (case erC => walk_at "Rel"); (case erD => ktr_units); k_whole)))
  k_with "call type:int" => ((
   (with_reducible show wpAny _ _ (call (Value.type "int") [Value.str (PySem.Txt.slice (wname _) _ _) _]) _ _ _)
   refine KIN.call_text (wname_int (by assumption)) (wname_slen _) ?_))
  k_with "call type:int" => ((
   (with_reducible show wpAny _ _ (call (Value.type "int") [Value.str (PySem.Txt.slice (cname _) _ _) _]) _ _ _)
   refine KIN.call_text (cname_int (by assumption)) (cname_slen _) ?_))
  k_with "MyFor" => ((k_here; (rename Fr _ _ _ _ => lF'); (with_unfolding_all refine' For_turns lF' ?_; k_whole)))
  k_with "exec For Tuple Call cons nil" => (walk_at "MyFor")
  k_with "exec For Tuple Subscript cons nil" => (walk_at "MyFor")
  k_with "exec For Name Name cons nil" => (walk_at "MyFor")
  k_with "exec For Name Call cons nil" => (walk_at "MyFor")
  k_with "k_ne" => (first | assumption | exact ne_new (by assumption) (by k_mem) | exact Ne.symm (by assumption) | exact Ne.symm (ne_new (by assumption) (by k_mem)))
  k_with "Lt" => (first | exact allLt_of (by assumption) | exact allLt_congr (by assumption) (by first | rfl | simp only [List.map_cons, List.map_append]))
  k_with "k_all" => (first | assumption | exact List.forall_mem_nil _ | (apply fresh_ne; assumption; k_mem) | (refine' List.forall_mem_append.mpr ⟨?_, ?_⟩; k_all; k_all) | (refine' List.forall_mem_cons.mpr ⟨?_, ?_⟩; k_ne; k_all))
  k_with "k_updF" => ((apply updF_app; k_all; k_updF))
  k_with "k_mem" => ((refine' mem_app_l ?_; k_mem))
  k_with "k_mem" => ((refine' mem_app_r ?_; k_mem))
  k_with "call ref" => ((
   (with_reducible show wpAny _ _ (call (Value.ref 77) _) _ _ _)
   k_here
   k_dflt (refine' draw_walk ?d1 ?d2 ?kB ?kF ?kX ?kN ?kU ?kc ?kT ?kK ?kp ?kco ?kk ?kd ?ku ?_; (case d1 => decide); (case d2 => decide); (case kB => k_asm); (case kF => k_asm); (case kX => k_asm); (case kN => k_asm); (case kU => k_updF); (case kco => assumption); (case kc => k_mem); (case kT => k_asm); (case kK => first | exact rfl | assumption); (case kp => k_asm); (case kk => omega); (case kd => ktr_room); (case ku => ktr_units))
   intro j9 t9 po9 h9 tk9 j0 j1 hp9 F9 N9
   (try dsimp only at N9)
   (try dsimp only)
   (try k_fold)))
  k_with "call ref" => ((
   (with_reducible show wpAny _ _ (call (Value.ref 84) _) _ _ _)
   k_here
   k_dflt (refine' simple_walk ?kB ?kF ?kX ?kN ?kU ?kc ?kT ?kK ?kp ?kco ?kk ?kd ?ku ?_; (case kB => k_asm); (case kF => k_asm); (case kX => k_asm); (case kN => k_asm); (case kU => k_updF); (case kco => assumption); (case kc => k_mem); (case kT => k_asm); (case kK => first | exact rfl | assumption); (case kp => k_asm); (case kk => omega); (case kd => ktr_room); (case ku => ktr_units))
   intro r9 c9 po9 tl9 h9 tk9 S9 hp9 F9 N9 A9 W9 C9
   (try dsimp only at N9 W9 C9)
   (try dsimp only)
   (try k_fold)))
  k_with "call builtin:list.append" => ((
   (with_reducible show wpAny _ _ (call (Value.builtin "list.append") [Value.ref _, _]) _ _ _)
   k_here
   k_dflt (refine' append_led ?aF ?aN ?aU ?aZ ?_; (case aF => k_asm); (case aN => k_asm); (case aU => k_updF); (case aZ => assumption))
   intro h' F' N'
   (try dsimp only at N')
   (try dsimp only)
   (try k_sweep)))
  k_with "MyFor" => ((k_here; (rename Fr _ _ _ _ => lF'); (with_unfolding_all refine' For_turns lF' ?_ (hE := by first | assumption | passes_own); k_whole)))
  k_with "exec For Tuple Call cons nil" => (walk_at "MyFor")
  k_with "exec For Tuple Subscript cons nil" => (walk_at "MyFor")
  k_with "exec For Name Name cons nil" => (walk_at "MyFor")
  k_with "exec For Name Call cons nil" => (walk_at "MyFor")
  k_with "call type:range" => ((refine Hold.mk ?_))
  k_with "call type:zip" => ((refine Hold.mk ?_))
  k_with "pyIter ref" => ((refine Hold.mk ?_))
  k_with "callWith" => (((with_reducible show wpAny _ _ (callWith _ (Value.builtin "list.append") _ _ _) _ _ _); refine callWith_method1 ?_))
  k_with "Grown" => (first | (with_reducible refine Grown.cons ?_ rfl ?_; rotate_left; walk_at "Lt"; walk_at "Grown") | with_reducible exact Grown.refl | (with_reducible refine Grown.app ?_ (by assumption) (by first | assumption | exact fresh_congr (by assumption) (by simp only [List.map_cons, List.map_append])); walk_at "Grown") | fail "Grown")
  k_with "eval ListComp" => ((refine Hold.mk ?_))
  k_with "call ref" => ((
   (with_reducible show wpAny _ _ (call (Value.ref 91) _) _ _ _)
   refine Hold.mk ?_))
  k_with "k_updF" => (assumption)
  trivial
def iterOf : PySem.Expr → PySem.Expr
  | .ListComp _ (⟨_, i, _, _⟩ :: _) _ _ => i
  | _ => noExpr
def iterB : PySem.Expr := iterOf compB
def targetPos : PySem.Expr → Pos
  | .ListComp _ (⟨.Name _ p, _, _, _⟩ :: _) _ _ => p
  | _ => ⟨0,0,0,0⟩
theorem compB_eq : compB = .ListComp eltB [⟨.Name (Str.ofString "row") (targetPos compB), iterB, [], 0⟩] scopeB compB.pos := by rfl

def RowsOk (ss : List Subj) (rows : List (List Thing)) : Prop := ∀ r ∈ rows, ss.length = r.length ∧ FitsRow ss r ∧ ∀ t ∈ r, simpleT t

theorem rows_comp {prog : Program} {w : World} {p : Program} {loose : List Str} {mean : ExcName → Option Value} {mg mb : Str → Option Value} {h₀ : Heap} {L fa : Addr} {cd : Value} {m : Str → Option Value} {s : Shared} {h : Heap} {tk : Nat} {Q E : Value → Shared → Prop}
   {pa ca sl : Addr} {po co o1 o2 : Obj} {svs : List Value} {ss : List Subj} {kk : Nat} {rest all : Led} {all' : Obj → Led} {k : Int}
   (B : Below callerA h₀ [] h₀) (F : Fr h₀ L h m) (X : (Mine.hd.heap_39 w.params).In h₀) (T : Top p loose mean mg mb h₀)
   (N : News h₀ L h all) (U : UpdF pa po all all') (hca : ∀ o, (ca, co) ∈ all' o) (hsl : ∀ o, (sl, W.listOf (List.toArray svs) kk) ∈ all' o) (hm1 : ∀ o, (L + 1, o1) ∈ all' o) (hm2 : ∀ o, (L + 1 + 1, o2) ∈ all' o)
   (d1 : o1.data = .cell (some (.ref pa))) (d2 : o2.data = .cell (some (.ref sl))) (hp : PenOk ca k po) (hk : k + 30 ≤ 10000) (hco : CellsOk co) (hr : ∀ o, ∀ p ∈ rest, p ∈ all' o) (hS : AllIn (SubjIn rest) svs ss) (hl3 : ss.length ≤ 3)
   (ret : ∀ D po' tl h' tk' rvs rows, PenOk ca (k + 30) po' → Fr h₀ L h' m → News h₀ L h' ((D, W.listOf (List.toArray rvs) rvs.length) :: (tl ++ all' po')) → AllTup tl → Fresh tl (all' po') → (∀ p ∈ tl ++ all' po', p.1 ≠ D) → AllIn (RowX tl (tl ++ all' po')) rvs rows → rows ≠ [] → rows.length ≤ 2 → RowsOk ss rows → Q (.ref D) { s with heap := h', toks := tk' }) :
   wpAny (model prog w) (callerA.deeper (envOfC (Str.ofString "law") lawScope L fa cd)) (eval compB (envOfC (Str.ofString "law") lawScope L fa cd)) Q E { s with heap := h, toks := tk } := by
  rw [compB_eq]
  refine comp_open (cl := [(Str.ofString "subjects", L + 1 + 1), (Str.ofString "pen", L + 1)]) (by with_unfolding_all rfl) rfl (by decide) ?_
  conv in (occs := *) iterB => all_goals whnf
  conv in (occs := *) lawScope => all_goals whnf
  have hall : all = all' po := by obtain ⟨pr, ps, rfl, hg, _⟩ := U.split; exact (hg po).symm
  have g1 : (L + 1, o1) ∈ all := hall ▸ hm1 po
  have g2 : (ca, co) ∈ all := hall ▸ hca po
  k_steps
  refine Hold.of ?_
  (rename Fr _ _ _ _ => lF')
  (rename News _ _ _ _ => lN')
  rename PenOk _ _ _ => hp'
  rename 0 ≤ _ => j0
  rename _ < (2 : Int) => j1
  obtain ⟨n, hn⟩ := toNat_of j0
  subst hn
  have hn2 : n < 2 := by omega
  refine comp_range (n := 1 + n) (by simp) (by omega) rfl (by decide) rfl (by rfl) lF' lN'
    (fun i ys l => ∃ po1 tl rows, l = tl ++ all' po1 ∧ AllTup tl ∧ Fresh tl (all' po1) ∧ PenOk ca (k + 1 + 12 * (i : Int)) po1 ∧ AllIn (RowX tl (tl ++ all' po1)) ys rows ∧ rows.length = i ∧ RowsOk ss rows) ?_ ?_ ?_
  · exact ⟨_, [], [], rfl, AllTup.nil, (fun _ h => nomatch h), hp'.le (by omega), .nil, rfl, (fun _ h => nomatch h)⟩
  · rintro i t ys news₁ hi ⟨po1, tl, rows, rfl, htl, hfr, hp1, hR, hlen, hok⟩ C2 oC D m₂ h₁ tk₁ its E' hm2' hoC hid hCD hap1 hap2 F' N'
    refine wpAny_tests_nil ?_
    simp only [if_true]
    have hpm : ∀ p ∈ its, p.1 ≠ pa := fun p hp => ((hap2 (pa, po1) (List.mem_append_right _ (updF_has U))).2.2 p hp).symm
    have hCa : C2 ≠ pa := ((hap2 (pa, po1) (List.mem_append_right _ (updF_has U))).1).symm
    have hDa : D ≠ pa := ((hap2 (pa, po1) (List.mem_append_right _ (updF_has U))).2.1).symm
    have htp : ∀ p ∈ tl, p.1 ≠ pa := fun p hp => hfr p hp (pa, po1) (updF_has U)
    have inn : ∀ (o : Obj) (p : Addr × Obj), p ∈ all' o → p ∈ its ++ (C2, oC) :: (D, LCg.lst ys) :: (tl ++ all' o) := fun o p hp => List.mem_append_right _ (.tail _ (.tail _ (List.mem_append_right _ hp)))
    refine objs_comp (C := C2) (all' := fun o => its ++ (C2, oC) :: (D, LCg.lst ys) :: (tl ++ all' o)) (rest := rest) B F' X T N' (updF_app hpm (UpdF.tail hCa (UpdF.tail hDa (updF_app htp (updF_re U))))) (fun o => inn o _ (hca o)) (fun o => inn o _ (hsl o)) (fun o => inn o _ (hm1 o)) (fun o => inn o _ (hm2 o)) d1 d2 hp1 (by omega) hco (fun o p hp => inn o p (hr o p hp)) hS hl3 ?_
    intro r po2 tl2 h2 tk2 ts z1 F2 N2 z2 z3 z4 z5 z6 z7
    refine ⟨h2, tk2, (tl2 ++ tl) ++ all' po2, rfl, F2, fun p hp => N2 p ?_, fun p hp => ?_, fun p hp => (nomatch hp), po2, tl2 ++ tl, rows ++ [ts], rfl, z2.app htl, ?_, z1.le (by omega), AllIn.snoc (hR.imp fun v x h => h.mono (fun p hp => List.mem_append_right _ hp) ?_) (z4.mono (fun p hp => List.mem_append_left _ hp) ?_), by simp [hlen], fun x hx => ?_⟩
    · simp only [List.mem_append, List.mem_cons] at hp ⊢
      rcases hp with h | h | h | (h | h) | h <;> simp [h]
    · rw [List.append_assoc] at hp
      rcases List.mem_append.mp hp with hp | hp
      · exact ⟨z3 p hp (C2, oC) (List.mem_append_right _ (.head _)), z3 p hp (D, LCg.lst ys) (List.mem_append_right _ (.tail _ (.head _))), fun q hq => z3 p hp q (List.mem_append_left _ hq)⟩
      · obtain ⟨q, hq, e⟩ := adr_congr (l := tl ++ all' po1) (by rw [List.map_append, List.map_append, updF_addr2 (o1 := po1) (o2 := po2) U]) hp
        rw [← e]
        exact hap2 q hq
    · intro p hp q hq
      rcases List.mem_append.mp hp with hp | hp
      · exact z3 p hp q (List.mem_append_right _ (.tail _ (.tail _ (List.mem_append_right _ hq))))
      · exact fresh_congr hfr (updF_addr2 U) p hp q hq
    · intro p hp g
      rw [List.append_assoc]
      refine List.mem_append_right _ ?_
      exact Sub.bothApp (updF_sub U hp1.notGood) p hp g
    · intro p hp g
      rw [List.append_assoc]
      rcases List.mem_append.mp hp with hp | hp
      · exact List.mem_append_left _ hp
      · rcases List.mem_append.mp hp with hp | hp
        · exact absurd g (hid p hp)
        · rcases List.mem_cons.mp hp with rfl | hp
          · exact absurd g (notGood_ns hoC)
          · rcases List.mem_cons.mp hp with rfl | hp
            · exact absurd g notGood_lst
            · exact List.mem_append_right _ hp
    · rcases List.mem_append.mp hx with hx | hx
      · exact hok x hx
      · rw [List.mem_singleton.mp hx]; exact ⟨z5, z6, z7⟩
  · rintro ys news₁ D h₁ tk₁ ⟨po1, tl, rows, rfl, htl, hfr, hp1, hR, hlen, hok⟩ hD F' N'
    exact ret D po1 tl h₁ tk₁ ys rows (hp1.le (by omega)) F' N' htl hfr hD hR (fun e => by rw [e] at hlen; simp at hlen; omega) (by omega) hok
end

/- part L2 -/
section
theorem primeL2 : (PySem.Challenge.rw_pq0615_01, Mine.hd.heap_39) = (PySem.Challenge.rw_pq0615_01, Mine.hd.heap_39) := by
  k_fill
  rfl
theorem wordsL20 : True := by
  k_with_none
  w_top off
  k_with "k_mem" => ((refine' mem_of ?_; ktr_member))
  k_with "Sub" => (first | exact Sub.refl | (refine Sub.cons ?_; walk_at "Sub") | (refine Sub.app ?_; walk_at "Sub") | fail "Sub")
  k_with "SubL" => (first | exact sub_refl | (refine sub_cons ?_; walk_at "SubL") | (refine sub_app ?_; walk_at "SubL") | fail "SubL")
  k_with "Lt" => (first | assumption | exact allLt_of (by assumption) | ((try simp only [AllLt, and_true]); assumption) | fail "Lt")
  k_with "Grown" => (first | exact Grown.refl | assumption | (refine Grown.cons ?_ rfl ?_; rotate_left; walk_at "Lt"; walk_at "Grown") | (refine Grown.app ?_ (by assumption) (by assumption); walk_at "Grown") | fail "Grown")
  k_with "Rel" => (first | assumption | exact CondIn.mono (by assumption) (by walk_at "Sub") | exact TrIn.mono (by assumption) (by walk_at "Sub") | exact RefIn.mono (by assumption) (by walk_at "Sub") | exact NumIn.mono (by assumption) (by walk_at "Sub") | exact SubjIn.mono (by assumption) (by walk_at "Sub") | exact ThingIn.mono (by assumption) (by walk_at "Sub") | walk_at "RelCon")
  k_with "RelCon" => (first | (apply TrIn.mk; k_mem) | (apply CondIn.eq; k_mem; walk_at "Rel"; walk_at "Rel") | (apply CondIn.le; k_mem; walk_at "Rel"; walk_at "Rel") | (apply CondIn.ge; k_mem; walk_at "Rel"; walk_at "Rel") | (apply CondIn.and; k_mem; walk_at "Rel"; walk_at "Rel") | (apply CondIn.or; k_mem; walk_at "Rel"; walk_at "Rel") | (apply CondIn.not; k_mem; walk_at "Rel") | fail "RelCon")
  k_with "MyItem" => ((
   (with_reducible show wpAny _ _ (subscriptTail _ _ (Value.ref _) (Value.int _ _)) _ _ _)
   k_here
   k_dflt (first
     | (refine' item_tupleT ?mtA ?mtB ?mtC ?mtD ?mtE ?_; (case mtA => (refine' News.isTup ?n9 ?m9; (case n9 => k_asm); (case m9 => k_mem))); (case mtB => decide); (case mtC => decide); (case mtD => rfl); (case mtE => rfl); k_whole)
     | (refine' item_listT ?mlA ?mlB ?mlC ?mlD ?_; (case mlA => (refine' News.isList ?n9 ?m9; (case n9 => k_asm); (case m9 => k_mem))); (case mlB => first | decide | omega); (case mlC => first | decide | omega); (case mlD => first | rfl | exact tr_b (by assumption) | exact tr_w (by assumption)); k_whole)
     | fail "MyItem")))
  k_with "subscriptTail Name Constant ref int" => (walk_at "MyItem")
  k_with "subscriptTail Name" => (walk_at "MyItem")
  k_with "subscriptTail Subscript" => (walk_at "MyItem")
  k_with "ite" => ((k_closed; first | (refine ite_pos (by decide +kernel) ?_) | (refine ite_neg (by decide +kernel) ?_)))
  k_with "ite" => (first | with_reducible refine if_t ?_ | with_reducible refine if_f ?_)
  k_with "subscriptTail Subscript" => ((
   (with_reducible show wpAny _ _ (subscriptTail _ (Expr.Slice (some _) none none _) (Value.str _ _) _) _ _ _)
   (with_reducible rename Fr _ _ _ _ => F')
   (with_reducible rename News _ _ _ _ => N')
   (refine slice_strN_sn (hsz := ?hsz) (s := ⟨_, _, _, _, _⟩) F' N' ?_)
   (case hsz => size_fits)
   intro _ _ _ _ _))
  k_with "units_room" => (ktr_units)
  k_with "compareOp Eq ref ref" => ((
   (with_reducible show wpAny _ _ (compareOp CmpOp.Eq (Value.ref _) (Value.ref _)) _ _ _)
   k_here
   k_dflt (refine' eq_ref_num ?erA ?erB ?erC ?erD ?_; (case erA => k_asm); (case erB => walk_at "Rel"); (case erC => walk_at "Rel"); (case erD => ktr_units); k_whole)))
  k_with "call type:int" => ((
   (with_reducible show wpAny _ _ (call (Value.type "int") [Value.str (PySem.Txt.slice (wname _) _ _) _]) _ _ _)
   refine KIN.call_text (wname_int (by assumption)) (wname_slen _) ?_))
  k_with "call type:int" => ((
   (with_reducible show wpAny _ _ (call (Value.type "int") [Value.str (PySem.Txt.slice (cname _) _ _) _]) _ _ _)
   refine KIN.call_text (cname_int (by assumption)) (cname_slen _) ?_))
  k_with "MyFor" => ((k_here; (rename Fr _ _ _ _ => lF'); (with_unfolding_all refine' For_turns lF' ?_; k_whole)))
  k_with "exec For Tuple Call cons nil" => (walk_at "MyFor")
  k_with "exec For Tuple Subscript cons nil" => (walk_at "MyFor")
  k_with "exec For Name Name cons nil" => (walk_at "MyFor")
  k_with "exec For Name Call cons nil" => (walk_at "MyFor")
  k_with "k_ne" => (first | assumption | exact ne_new (by assumption) (by k_mem) | exact Ne.symm (by assumption) | exact Ne.symm (ne_new (by assumption) (by k_mem)))
  k_with "Lt" => (first | exact allLt_of (by assumption) | exact allLt_congr (by assumption) (by first | rfl | simp only [List.map_cons, List.map_append]))
  k_with "k_all" => (first | assumption | exact List.forall_mem_nil _ | (apply fresh_ne; assumption; k_mem) | (refine' List.forall_mem_append.mpr ⟨?_, ?_⟩; k_all; k_all) | (refine' List.forall_mem_cons.mpr ⟨?_, ?_⟩; k_ne; k_all))
  k_with "k_updF" => ((apply updF_app; k_all; k_updF))
  k_with "k_mem" => ((refine' mem_app_l ?_; k_mem))
  k_with "k_mem" => ((refine' mem_app_r ?_; k_mem))
  k_with "call ref" => ((
   (with_reducible show wpAny _ _ (call (Value.ref 77) _) _ _ _)
   k_here
   k_dflt (refine' draw_walk ?d1 ?d2 ?kB ?kF ?kX ?kN ?kU ?kc ?kT ?kK ?kp ?kco ?kk ?kd ?ku ?_; (case d1 => decide); (case d2 => decide); (case kB => k_asm); (case kF => k_asm); (case kX => k_asm); (case kN => k_asm); (case kU => k_updF); (case kco => assumption); (case kc => k_mem); (case kT => k_asm); (case kK => first | exact rfl | assumption); (case kp => k_asm); (case kk => omega); (case kd => ktr_room); (case ku => ktr_units))
   intro j9 t9 po9 h9 tk9 j0 j1 hp9 F9 N9
   (try dsimp only at N9)
   (try dsimp only)
   (try k_fold)))
  k_with "call ref" => ((
   (with_reducible show wpAny _ _ (call (Value.ref 84) _) _ _ _)
   k_here
   k_dflt (refine' simple_walk ?kB ?kF ?kX ?kN ?kU ?kc ?kT ?kK ?kp ?kco ?kk ?kd ?ku ?_; (case kB => k_asm); (case kF => k_asm); (case kX => k_asm); (case kN => k_asm); (case kU => k_updF); (case kco => assumption); (case kc => k_mem); (case kT => k_asm); (case kK => first | exact rfl | assumption); (case kp => k_asm); (case kk => omega); (case kd => ktr_room); (case ku => ktr_units))
   intro r9 c9 po9 tl9 h9 tk9 S9 hp9 F9 N9 A9 W9 C9
   (try dsimp only at N9 W9 C9)
   (try dsimp only)
   (try k_fold)))
  k_with "call builtin:list.append" => ((
   (with_reducible show wpAny _ _ (call (Value.builtin "list.append") [Value.ref _, _]) _ _ _)
   k_here
   k_dflt (refine' append_led ?aF ?aN ?aU ?aZ ?_; (case aF => k_asm); (case aN => k_asm); (case aU => k_updF); (case aZ => assumption))
   intro h' F' N'
   (try dsimp only at N')
   (try dsimp only)
   (try k_sweep)))
  k_with "MyFor" => ((k_here; (rename Fr _ _ _ _ => lF'); (with_unfolding_all refine' For_turns lF' ?_ (hE := by first | assumption | passes_own); k_whole)))
  k_with "exec For Tuple Call cons nil" => (walk_at "MyFor")
  k_with "exec For Tuple Subscript cons nil" => (walk_at "MyFor")
  k_with "exec For Name Name cons nil" => (walk_at "MyFor")
  k_with "exec For Name Call cons nil" => (walk_at "MyFor")
  k_with "call type:range" => ((refine Hold.mk ?_))
  k_with "call type:zip" => ((refine Hold.mk ?_))
  k_with "pyIter ref" => ((refine Hold.mk ?_))
  k_with "callWith" => (((with_reducible show wpAny _ _ (callWith _ (Value.builtin "list.append") _ _ _) _ _ _); refine callWith_method1 ?_))
  k_with "Grown" => (first | (with_reducible refine Grown.cons ?_ rfl ?_; rotate_left; walk_at "Lt"; walk_at "Grown") | with_reducible exact Grown.refl | (with_reducible refine Grown.app ?_ (by assumption) (by first | assumption | exact fresh_congr (by assumption) (by simp only [List.map_cons, List.map_append])); walk_at "Grown") | fail "Grown")
  k_with "eval ListComp" => ((refine Hold.mk ?_))
  k_with "call ref" => ((
   (with_reducible show wpAny _ _ (call (Value.ref 91) _) _ _ _)
   refine Hold.mk ?_))
  trivial
theorem grown_eq {X core : Led} (G : Grown core (X ++ core)) : AllTup X ∧ Fresh X core := by
  obtain ⟨X', e, h1, h2⟩ := G
  have : X = X' := List.append_cancel_right e
  subst this
  exact ⟨h1, h2⟩
theorem turn_exp {h₀ h' : Heap} {L : Addr} {its fixed rest X : Led} (N : News h₀ L h' (X ++ (its ++ (fixed ++ rest)))) (G : Grown (its ++ (fixed ++ rest)) (X ++ (its ++ (fixed ++ rest)))) (ap : ∀ p ∈ fixed ++ rest, ∀ q ∈ its, p.1 ≠ q.1) (hr : AllTup rest) :
    AllTup (X ++ rest) ∧ News h₀ L h' (its ++ (fixed ++ (X ++ rest))) ∧ (∀ p ∈ fixed ++ (X ++ rest), ∀ q ∈ its, p.1 ≠ q.1) ∧ Fresh X fixed ∧ (∀ p ∈ rest, p ∈ X ++ rest) := by
  obtain ⟨hX, hF⟩ := grown_eq G
  refine ⟨hX.app hr, fun p hp => N p ?_, fun p hp q hq => ?_, fun p hp q hq => hF p hp q (List.mem_append_right _ (List.mem_append_left _ hq)), fun p hp => List.mem_append_right _ hp⟩
  · simp only [List.mem_append] at hp ⊢
    rcases hp with h | h | h | h <;> simp [h]
  · simp only [List.mem_append] at hp
    rcases hp with h | h | h
    · exact ap p (List.mem_append_left _ h) q hq
    · exact hF p h q (List.mem_append_left _ hq)
    · exact ap p (List.mem_append_right _ h) q hq
theorem sub_core {tl its fixed rest X : Led} (hi : Idle its) (hf : ∀ q ∈ fixed, ¬ Good q.2) (ht : ∀ p ∈ tl, p ∈ X) : Sub (tl ++ (its ++ (fixed ++ rest))) (X ++ rest) := fun p hp g => by
  rcases List.mem_append.mp hp with hp | hp
  · exact List.mem_append_left _ (ht p hp)
  · rcases List.mem_append.mp hp with hp | hp
    · exact absurd g (hi p hp)
    · rcases List.mem_append.mp hp with hp | hp
      · exact absurd g (hf p hp)
      · exact List.mem_append_right _ hp
theorem when_make {a b c d D2 : Addr} {t1 t2 t3 t4 : Tok} {i j : Int} {rvs : List Value} {rows : List (List Thing)} {tl rest its fixed : Led} (hf : ∀ q ∈ fixed, ¬ Good q.2) (hi : Idle its) (z5 : AllIn (RowX tl (tl ++ (its ++ (fixed ++ rest)))) rvs rows) :
    WhenIn (((a, ({ cls := .type "tuple", data := .seq #[.ref D2, .ref b] } : Obj)) :: (b, ({ cls := .type "tuple", data := .seq #[.ref c, .ref d] } : Obj)) :: (d, ({ cls := .type "tuple", data := .seq #[.str (Str.ofString "mark") t1, .int j t2] } : Obj)) ::
      (c, ({ cls := .type "tuple", data := .seq #[.str (Str.ofString "mark") t3, .int i t4] } : Obj)) :: (D2, ({ cls := .type "tuple", data := .seq (List.toArray rvs) } : Obj)) :: tl) ++ rest) (.ref a) ⟨rows, [.ref c, .ref d]⟩ := by
  refine ⟨a, D2, _, rvs, .ref b, rfl, .head _, mem_app_l (.tail _ (.tail _ (.tail _ (.tail _ (.head _))))), ⟨rfl, _, rfl⟩, z5.imp fun v x h => ?_, ⟨b, _, rfl, mem_app_l (.tail _ (.head _)), ⟨rfl, _, rfl⟩⟩, fun v hv => ?_⟩
  · refine RowX.row (h.mono (fun p hp => mem_app_l (.tail _ (.tail _ (.tail _ (.tail _ (.tail _ hp)))))) ?_) (fun p hp => hp)
    exact sub_core hi hf fun p hp => .tail _ (.tail _ (.tail _ (.tail _ (.tail _ hp))))
  · rcases List.mem_cons.mp hv with rfl | hv
    · exact ⟨c, _, _, _, rfl, mem_app_l (.tail _ (.tail _ (.tail _ (.head _))))⟩
    · rw [List.mem_singleton.mp hv]
      exact ⟨d, _, _, _, rfl, mem_app_l (.tail _ (.tail _ (.head _)))⟩
theorem lt_tail {D : Addr} {q : Addr × Obj} {l : Led} (h : ∀ p ∈ q :: l, p.1 < D) : ∀ p ∈ l, p.1 < D := fun p hp => h p (List.mem_cons_of_mem _ hp)
theorem loop2 {prog : Program} {w : World} {p : Program} {loose : List Str} {mean : ExcName → Option Value} {mg mb : Str → Option Value} {h₀ : Heap} {L fa : Addr} {cd : Value} {m : Str → Option Value} {s : Shared} {h : Heap} {tk : Nat} {Q : Flow → Shared → Prop} {E : Value → Shared → Prop}
   {pa ca sl wl : Addr} {po co o1 o2 o3 o4 : Obj} {svs : List Value} {ss : List Subj} {kk : Nat} {rest : Led} {u : Str → Option Value}
   (hE : PassesOwn (model prog w) (callerA.deeper (envOfC (Str.ofString "law") lawScope L fa cd)) (envOfC (Str.ofString "law") lawScope L fa cd) E)
   (B : Below callerA h₀ [] h₀) (F : Fr h₀ L h (fun y => if y = Str.ofString "whens" then some (.ref wl) else u y)) (X : (Mine.hd.heap_39 w.params).In h₀) (T : Top p loose mean mg mb h₀)
   (N : News h₀ L h ((wl, W.listOf #[] 0) :: (sl, W.listOf (List.toArray svs) kk) :: (pa, po) :: (ca, co) :: (L + 1 + 1 + 1 + 1, o4) :: (L + 1 + 1 + 1, o3) :: (L + 1 + 1, o2) :: (L + 1, o1) :: rest))
   (d1 : o1.data = .cell (some (.ref pa))) (d2 : o2.data = .cell (some (.ref sl))) (d3 : isCell o3) (d4 : isCell o4) (hp : PenOk ca 20 po) (hco : CellsOk co) (i1 : @LT.lt Nat _ (L + 1 + 1 + 1 + 1) ca) (i2 : @LT.lt Nat _ ca pa) (i3 : @LT.lt Nat _ pa sl) (i4 : @LT.lt Nat _ sl wl)
   (hrest : AllTup rest) (hoff : Off L rest) (hS : AllIn (SubjIn rest) svs ss) (hsim : ∀ S ∈ ss, simpleS S) (hl1 : 1 ≤ ss.length) (hl3 : ss.length ≤ 3)
   (ret : ∀ wvs ws po' o3' rest' h' tk' (u' : Str → Option Value) kk', Fr h₀ L h' (fun y => if y = Str.ofString "whens" then some (.ref wl) else u' y) → News h₀ L h' ((wl, W.listOf (List.toArray wvs) kk') :: (sl, W.listOf (List.toArray svs) kk) :: (pa, po') :: (ca, co) :: (L + 1 + 1 + 1 + 1, o4) :: (L + 1 + 1 + 1, o3') :: (L + 1 + 1, o2) :: (L + 1, o1) :: rest') → AllTup rest' → Off L rest' → PenOk ca 300 po' → isCell o3' → AllIn (SubjIn rest') svs ss → AllIn (WhenIn rest') wvs ws →
     (∀ x ∈ ws, x.rows ≠ [] ∧ x.rows.length ≤ 2 ∧ x.vs.length ≤ 9 ∧ ∀ r ∈ x.rows, ss.length = r.length ∧ FitsRow ss r ∧ ∀ t ∈ r, simpleT t) → ws.length ≤ 3 → Q .next { s with heap := h', toks := tk' }) :
   wpAny (model prog w) (callerA.deeper (envOfC (Str.ofString "law") lawScope L fa cd)) (exec (lawStmt 4) (envOfC (Str.ofString "law") lawScope L fa cd)) Q E { s with heap := h, toks := tk } := by
  conv in lawStmt 4 => whnf
  conv in (occs := *) lawScope => all_goals whnf
  conv at hE in (occs := *) lawScope => all_goals whnf
  have e1 : ∀ p ∈ rest, p.1 ≠ pa := tup_ne N (.tail _ (.tail _ (.head _))) hp.cls (by decide) (fun p hp => .tail _ (.tail _ (.tail _ (.tail _ (.tail _ (.tail _ (.tail _ (.tail _ hp)))))))) hrest
  obtain ⟨n1, n2, n3, n4, n5, n6⟩ := nesP i1 i2 i3
  obtain ⟨m1, m2, m3, m4, m5, m6, m7, m8⟩ := nesW i1 i2 i3 i4
  obtain ⟨c1, c2, c3, c4, c5, c6, c7⟩ := nesC i1 i2 i3 i4
  k_steps
  (rename Fr _ _ _ _ => lF')
  (rename News _ _ _ _ => lN')
  rename PenOk _ _ _ => hp'
  rename 0 ≤ _ => j0
  rename _ < (4 : Int) => j1
  obtain ⟨n, hn⟩ := toNat_of j0
  subst hn
  have hn3 : n ≤ 3 := by omega
  refine Hold.of (Mine.for_range (n := n) rfl (by omega) rfl (fun _ _ => rfl) lF' lN'
    (fun i m l => ∃ wvs ws po' o3' rest' kk', ∃ u' : Str → Option Value, m = (fun y => if y = Str.ofString "whens" then some (.ref wl) else u' y) ∧ l = (wl, W.listOf (List.toArray wvs) kk') :: (sl, W.listOf (List.toArray svs) kk) :: (pa, po') :: (ca, co) :: (L + 1 + 1 + 1 + 1, o4) :: (L + 1 + 1 + 1, o3') :: (L + 1 + 1, o2) :: (L + 1, o1) :: rest' ∧
      AllTup rest' ∧ Off L rest' ∧ PenOk ca (21 + 50 * (i : Int)) po' ∧ isCell o3' ∧ AllIn (SubjIn rest') svs ss ∧ AllIn (WhenIn rest') wvs ws ∧ (∀ x ∈ ws, x.rows ≠ [] ∧ x.rows.length ≤ 2 ∧ x.vs.length ≤ 9 ∧ ∀ r ∈ x.rows, ss.length = r.length ∧ FitsRow ss r ∧ ∀ t ∈ r, simpleT t) ∧ ws.length = i) ?_ ?_ ?_)
  · exact ⟨[], [], _, _, rest, 0, u, rfl, rfl, hrest, hoff, hp'.le (by omega), d3, hS, .nil, (fun _ h => nomatch h), rfl⟩
  · clear lF' lN' hp'
    rintro i t m₁ news₁ h₁ tk₁ its hi ⟨wvs, ws, po1, o31, rest1, kk1, u1, rfl, rfl, hrest1, hoff1, hp1, hd3, hS1, hW, hws, hlen⟩ hidle hap F' N'
    have hi3 : i < 3 := by omega
    have a1 : ∀ p ∈ rest1, p.1 ≠ wl := tup_ne N' (List.mem_append_right _ (.head _)) rfl (by decide) (fun p hp => List.mem_append_right _ (.tail _ (.tail _ (.tail _ (.tail _ (.tail _ (.tail _ (.tail _ (.tail _ hp))))))))) hrest1
    have a2 : ∀ p ∈ rest1, p.1 ≠ pa := tup_ne N' (List.mem_append_right _ (.tail _ (.tail _ (.head _)))) hp1.cls (by decide) (fun p hp => List.mem_append_right _ (.tail _ (.tail _ (.tail _ (.tail _ (.tail _ (.tail _ (.tail _ (.tail _ hp))))))))) hrest1
    have b1 : ∀ p ∈ its, p.1 ≠ wl := fun p hp => (hap _ (.head _) p hp).symm
    have b2 : ∀ p ∈ its, p.1 ≠ pa := fun p hp => (hap _ (.tail _ (.tail _ (.head _))) p hp).symm
    have b3 : ∀ p ∈ its, p.1 ≠ L + 1 + 1 + 1 := fun p hp => (hap (L + 1 + 1 + 1, o31) (.tail _ (.tail _ (.tail _ (.tail _ (.tail _ (.head _)))))) p hp).symm
    have hz : (List.toArray svs).size ≤ sizeLine := by rw [List.size_toArray, hS.1]; exact Nat.le_trans hl3 (by decide)
    have hz2 : (List.toArray wvs).size ≤ sizeLine := by rw [List.size_toArray, hW.1, hlen]; exact Nat.le_trans (Nat.le_of_lt hi3) (by decide)
    obtain ⟨v3, d31⟩ := hd3
    have a3 : ∀ p ∈ rest1, p.1 ≠ L + 1 + 1 + 1 := fun p hp => (hoff1 p hp).1
    k_steps
    refine Hold.of ?_
    (rename Fr _ _ _ _ => lF')
    (rename News _ _ _ _ => lN')
    with_unfolding_all refine' rows_comp (rest := rest1) (pa := pa) (ca := ca) (sl := sl) (all' := fun o => its ++ (wl, W.listOf (List.toArray wvs) kk1) :: (sl, W.listOf (List.toArray svs) kk) :: (pa, o) :: (ca, co) :: (L + 1 + 1 + 1 + 1, o4) :: (L + 1 + 1 + 1, _) :: (L + 1 + 1, o2) :: (L + 1, o1) :: rest1) B lF' X T lN' ?U ?c1 ?c2 ?c3 ?c4 d1 d2 hp1 ?kk hco ?rr hS1 hl3 ?_
    case U => k_updF
    case c1 => intro o; k_mem
    case c2 => intro o; k_mem
    case c3 => intro o; k_mem
    case c4 => intro o; k_mem
    case kk => omega
    case rr => exact fun o p hp => List.mem_append_right _ (.tail _ (.tail _ (.tail _ (.tail _ (.tail _ (.tail _ (.tail _ (.tail _ hp))))))))
    intro D po2 tl2 h2 tk2 rvs rows z1 F2 N2 z2 z3 z4 z5 z6 z7 z8
    k_steps
    refine tuple_led F2 N2 (.head _) ?z (fun D2 h3 F3 N3 l3 => ?_)
    case z => rw [z5.1]; omega
    have N4 := newsSub (l' := (D2, { cls := .type "tuple", data := .seq (List.toArray rvs) }) :: (tl2 ++ (its ++ (wl, W.listOf (List.toArray wvs) kk1) :: (sl, W.listOf (List.toArray svs) kk) :: (pa, po2) :: (ca, co) :: (L + 1 + 1 + 1 + 1, o4) :: (L + 1 + 1 + 1, _) :: (L + 1 + 1, o2) :: (L + 1, o1) :: rest1))) N3 (fun p hp => by
      rcases List.mem_cons.mp hp with rfl | hp
      · exact .head _
      · exact .tail _ (.tail _ hp))
    have l4 := lt_tail l3
    clear N2 N3 l3 F2
    k_steps
    (rename Fr _ _ _ _ => lF')
    (rename News _ _ _ _ => lN')
    rw [List.push_toArray] at lN'
    have hgood : ∀ q ∈ [(wl, W.listOf (List.toArray wvs) kk1), (sl, W.listOf (List.toArray svs) kk), (pa, po2), (ca, co), (L + 1 + 1 + 1 + 1, o4), (L + 1 + 1 + 1, _), (L + 1 + 1, o2), (L + 1, o1)], ¬ Good q.2 :=
      List.forall_mem_cons.mpr ⟨notGood_list, List.forall_mem_cons.mpr ⟨notGood_list, List.forall_mem_cons.mpr ⟨z1.notGood, List.forall_mem_cons.mpr ⟨hco.notGood, List.forall_mem_cons.mpr ⟨notGood_cell d4, List.forall_mem_cons.mpr ⟨notGood_cell ⟨_, by assumption⟩, List.forall_mem_cons.mpr ⟨notGood_cell ⟨_, d2⟩, List.forall_mem_cons.mpr ⟨notGood_cell ⟨_, d1⟩, List.forall_mem_nil _⟩⟩⟩⟩⟩⟩⟩⟩
    obtain ⟨hX, N5, ap5, hXf, hr2⟩ := turn_exp (X := _ :: _ :: _ :: _ :: _ :: tl2) (its := its) (fixed := [(wl, _), (sl, _), (pa, _), (ca, _), (L + 1 + 1 + 1 + 1, _), (L + 1 + 1 + 1, _), (L + 1 + 1, _), (L + 1, _)]) (rest := rest1) lN' (by simp only [List.cons_append, List.nil_append]; walk_at "Grown") (ap_congr hap (by rfl)) hrest1
    have hwhen := fun {a b c d : Addr} {t1 t2 t3 t4 : Tok} {i j : Int} => when_make (a := a) (b := b) (c := c) (d := d) (t1 := t1) (t2 := t2) (t3 := t3) (t4 := t4) (i := i) (j := j) (D2 := D2) hgood hidle z5
    refine ⟨_, _, _, _, rfl, lF', N5, ap5, (fun p hp => nomatch hp), wvs ++ [_], ws ++ [_], po2, _, _, _, _, map_has (by rfl), rfl, hX, hoff1.app hXf (.tail _ (.tail _ (.tail _ (.tail _ (.tail _ (.head _)))))) (.tail _ (.tail _ (.tail _ (.tail _ (.head _))))), z1.le (by omega), ⟨_, by assumption⟩, hS1.imp fun v x h => h.mono (Sub.of hr2),
      AllIn.snoc (hW.imp fun v x h => h.mono hr2) hwhen, ?_, by simp [hlen]⟩
    intro x hx
    rcases List.mem_append.mp hx with hx | hx
    · exact hws x hx
    · rw [List.mem_singleton.mp hx]
      exact ⟨z6, z7, by show 2 ≤ 9; decide, z8⟩
  · rintro m₁ news₁ h₁ tk₁ ⟨wvs, ws, po1, o31, rest1, kk1, u1, rfl, rfl, hrest1, hoff1, hp1, hd3, hS1, hW, hws, hlen⟩ F' N'
    exact ret wvs ws po1 o31 rest1 h₁ tk₁ u1 kk1 F' N' hrest1 hoff1 (hp1.le (by omega)) hd3 hS1 hW hws (by omega)
end

/- part T3 -/
section
theorem primeT3 : (PySem.Challenge.rw_pq0615_01, Mine.hd.heap_39) = (PySem.Challenge.rw_pq0615_01, Mine.hd.heap_39) := by
  k_fill
  rfl
theorem wordsT30 : True := by
  k_with_none
  w_top off
  k_with "k_mem" => ((refine' mem_of ?_; ktr_member))
  k_with "Sub" => (first | exact Sub.refl | (refine Sub.cons ?_; walk_at "Sub") | (refine Sub.app ?_; walk_at "Sub") | fail "Sub")
  k_with "SubL" => (first | exact sub_refl | (refine sub_cons ?_; walk_at "SubL") | (refine sub_app ?_; walk_at "SubL") | fail "SubL")
  k_with "Lt" => (first | assumption | exact allLt_of (by assumption) | ((try simp only [AllLt, and_true]); assumption) | fail "Lt")
  k_with "Grown" => (first | exact Grown.refl | assumption | (refine Grown.cons ?_ rfl ?_; rotate_left; walk_at "Lt"; walk_at "Grown") | (refine Grown.app ?_ (by assumption) (by assumption); walk_at "Grown") | fail "Grown")
  k_with "Rel" => (first | assumption | exact CondIn.mono (by assumption) (by walk_at "Sub") | exact TrIn.mono (by assumption) (by walk_at "Sub") | exact RefIn.mono (by assumption) (by walk_at "Sub") | exact NumIn.mono (by assumption) (by walk_at "Sub") | exact SubjIn.mono (by assumption) (by walk_at "Sub") | exact ThingIn.mono (by assumption) (by walk_at "Sub") | walk_at "RelCon")
  k_with "RelCon" => (first | (apply TrIn.mk; k_mem) | (apply CondIn.eq; k_mem; walk_at "Rel"; walk_at "Rel") | (apply CondIn.le; k_mem; walk_at "Rel"; walk_at "Rel") | (apply CondIn.ge; k_mem; walk_at "Rel"; walk_at "Rel") | (apply CondIn.and; k_mem; walk_at "Rel"; walk_at "Rel") | (apply CondIn.or; k_mem; walk_at "Rel"; walk_at "Rel") | (apply CondIn.not; k_mem; walk_at "Rel") | fail "RelCon")
  k_with "MyItem" => ((
   (with_reducible show wpAny _ _ (subscriptTail _ _ (Value.ref _) (Value.int _ _)) _ _ _)
   k_here
   k_dflt (first
     | (refine' item_tupleT ?mtA ?mtB ?mtC ?mtD ?mtE ?_; (case mtA => (refine' News.isTup ?n9 ?m9; (case n9 => k_asm); (case m9 => k_mem))); (case mtB => decide); (case mtC => decide); (case mtD => rfl); (case mtE => rfl); k_whole)
     | (refine' item_listT ?mlA ?mlB ?mlC ?mlD ?_; (case mlA => (refine' News.isList ?n9 ?m9; (case n9 => k_asm); (case m9 => k_mem))); (case mlB => first | decide | omega); (case mlC => first | decide | omega); (case mlD => first | rfl | exact tr_b (by assumption) | exact tr_w (by assumption)); k_whole)
     | fail "MyItem")))
  k_with "subscriptTail Name Constant ref int" => (walk_at "MyItem")
  k_with "subscriptTail Name" => (walk_at "MyItem")
  k_with "subscriptTail Subscript" => (walk_at "MyItem")
  k_with "ite" => ((k_closed; first | (refine ite_pos (by decide +kernel) ?_) | (refine ite_neg (by decide +kernel) ?_)))
  k_with "ite" => (first | with_reducible refine if_t ?_ | with_reducible refine if_f ?_)
  k_with "subscriptTail Subscript" => ((
   (with_reducible show wpAny _ _ (subscriptTail _ (Expr.Slice (some _) none none _) (Value.str _ _) _) _ _ _)
   (with_reducible rename Fr _ _ _ _ => F')
   (with_reducible rename News _ _ _ _ => N')
   (refine slice_strN_sn (hsz := ?hsz) (s := ⟨_, _, _, _, _⟩) F' N' ?_)
   (case hsz => size_fits)
   intro _ _ _ _ _))
  k_with "units_room" => (ktr_units)
  k_with "compareOp Eq ref ref" => ((
   (with_reducible show wpAny _ _ (compareOp CmpOp.Eq (Value.ref _) (Value.ref _)) _ _ _)
   k_here
   k_dflt (refine' eq_ref_num ?erA ?erB ?erC ?erD ?_; (case erA => k_asm); (case erB => walk_at "Rel"); (case erC => walk_at "Rel"); (case erD => ktr_units); k_whole)))
  k_with "call type:int" => ((
   (with_reducible show wpAny _ _ (call (Value.type "int") [Value.str (PySem.Txt.slice (wname _) _ _) _]) _ _ _)
   refine KIN.call_text (wname_int (by assumption)) (wname_slen _) ?_))
  k_with "call type:int" => ((
   (with_reducible show wpAny _ _ (call (Value.type "int") [Value.str (PySem.Txt.slice (cname _) _ _) _]) _ _ _)
   refine KIN.call_text (cname_int (by assumption)) (cname_slen _) ?_))
  k_with "MyFor" => ((k_here; (rename Fr _ _ _ _ => lF'); (with_unfolding_all refine' For_turns lF' ?_; k_whole)))
  k_with "exec For Tuple Call cons nil" => (walk_at "MyFor")
  k_with "exec For Tuple Subscript cons nil" => (walk_at "MyFor")
  k_with "exec For Name Name cons nil" => (walk_at "MyFor")
  k_with "exec For Name Call cons nil" => (walk_at "MyFor")
  k_with "k_ne" => (first | assumption | exact ne_new (by assumption) (by k_mem) | exact Ne.symm (by assumption) | exact Ne.symm (ne_new (by assumption) (by k_mem)))
  k_with "Lt" => (first | exact allLt_of (by assumption) | exact allLt_congr (by assumption) (by first | rfl | simp only [List.map_cons, List.map_append]))
  k_with "k_all" => (first | assumption | exact List.forall_mem_nil _ | (apply fresh_ne; assumption; k_mem) | (refine' List.forall_mem_append.mpr ⟨?_, ?_⟩; k_all; k_all) | (refine' List.forall_mem_cons.mpr ⟨?_, ?_⟩; k_ne; k_all))
  k_with "k_updF" => ((apply updF_app; k_all; k_updF))
  k_with "k_mem" => ((refine' mem_app_l ?_; k_mem))
  k_with "k_mem" => ((refine' mem_app_r ?_; k_mem))
  k_with "call ref" => ((
   (with_reducible show wpAny _ _ (call (Value.ref 77) _) _ _ _)
   k_here
   k_dflt (refine' draw_walk ?d1 ?d2 ?kB ?kF ?kX ?kN ?kU ?kc ?kT ?kK ?kp ?kco ?kk ?kd ?ku ?_; (case d1 => decide); (case d2 => decide); (case kB => k_asm); (case kF => k_asm); (case kX => k_asm); (case kN => k_asm); (case kU => k_updF); (case kco => assumption); (case kc => k_mem); (case kT => k_asm); (case kK => first | exact rfl | assumption); (case kp => k_asm); (case kk => omega); (case kd => ktr_room); (case ku => ktr_units))
   intro j9 t9 po9 h9 tk9 j0 j1 hp9 F9 N9
   (try dsimp only at N9)
   (try dsimp only)
   (try k_fold)))
  k_with "call ref" => ((
   (with_reducible show wpAny _ _ (call (Value.ref 84) _) _ _ _)
   k_here
   k_dflt (refine' simple_walk ?kB ?kF ?kX ?kN ?kU ?kc ?kT ?kK ?kp ?kco ?kk ?kd ?ku ?_; (case kB => k_asm); (case kF => k_asm); (case kX => k_asm); (case kN => k_asm); (case kU => k_updF); (case kco => assumption); (case kc => k_mem); (case kT => k_asm); (case kK => first | exact rfl | assumption); (case kp => k_asm); (case kk => omega); (case kd => ktr_room); (case ku => ktr_units))
   intro r9 c9 po9 tl9 h9 tk9 S9 hp9 F9 N9 A9 W9 C9
   (try dsimp only at N9 W9 C9)
   (try dsimp only)
   (try k_fold)))
  k_with "call builtin:list.append" => ((
   (with_reducible show wpAny _ _ (call (Value.builtin "list.append") [Value.ref _, _]) _ _ _)
   k_here
   k_dflt (refine' append_led ?aF ?aN ?aU ?aZ ?_; (case aF => k_asm); (case aN => k_asm); (case aU => k_updF); (case aZ => assumption))
   intro h' F' N'
   (try dsimp only at N')
   (try dsimp only)
   (try k_sweep)))
  k_with "MyFor" => ((k_here; (rename Fr _ _ _ _ => lF'); (with_unfolding_all refine' For_turns lF' ?_ (hE := by first | assumption | passes_own); k_whole)))
  k_with "exec For Tuple Call cons nil" => (walk_at "MyFor")
  k_with "exec For Tuple Subscript cons nil" => (walk_at "MyFor")
  k_with "exec For Name Name cons nil" => (walk_at "MyFor")
  k_with "exec For Name Call cons nil" => (walk_at "MyFor")
  k_with "call type:range" => ((refine Hold.mk ?_))
  k_with "call type:zip" => ((refine Hold.mk ?_))
  k_with "pyIter ref" => ((refine Hold.mk ?_))
  k_with "callWith" => (((with_reducible show wpAny _ _ (callWith _ (Value.builtin "list.append") _ _ _) _ _ _); refine callWith_method1 ?_))
  k_with "Grown" => (first | (with_reducible refine Grown.cons ?_ rfl ?_; rotate_left; walk_at "Lt"; walk_at "Grown") | with_reducible exact Grown.refl | (with_reducible refine Grown.app ?_ (by assumption) (by first | assumption | exact fresh_congr (by assumption) (by simp only [List.map_cons, List.map_append])); walk_at "Grown") | fail "Grown")
  k_with "eval ListComp" => ((refine Hold.mk ?_))
  k_with "call ref" => ((
   (with_reducible show wpAny _ _ (call (Value.ref 91) _) _ _ _)
   refine Hold.mk ?_))
  k_with "k_updF" => (assumption)
  trivial
def firstValue : List Stmt → PySem.Expr
  | .Assign _ e _ :: _ => e
  | _ => noExpr
def loop3Body : List Stmt := match lawStmt 7 with | .For _ _ b _ _ => b | _ => []
def truthsExpr : PySem.Expr := firstValue loop3Body

theorem truths_expr {prog : Program} {w : World} {p : Program} {loose : List Str} {mean : ExcName → Option Value} {mg mb : Str → Option Value} {h₀ : Heap} {L fa : Addr} {cd : Value} {m : Str → Option Value} {s : Shared} {h : Heap} {tk : Nat} {Q E : Value → Shared → Prop}
   {pa ca : Addr} {po co o1 o3 : Obj} {all : Led} {all' : Obj → Led} {k : Int} {turn : Nat} {tt : Tok}
   (B : Below callerA h₀ [] h₀) (F : Fr h₀ L h m) (X : (Mine.hd.heap_39 w.params).In h₀) (T : Top p loose mean mg mb h₀)
   (N : News h₀ L h all) (U : UpdF pa po all all') (hca : ∀ o, (ca, co) ∈ all' o) (hm1 : ∀ o, (L + 1, o1) ∈ all' o) (hm3 : ∀ o, (L + 1 + 1 + 1, o3) ∈ all' o)
   (d1 : o1.data = .cell (some (.ref pa))) (d3 : o3.data = .cell (some (.int turn tt))) (ht : turn < 6) (hp : PenOk ca k po) (hk : k + 3 ≤ 10000) (hco : CellsOk co)
   (ret : ∀ D po' h' tk' b0 b1 b2 b3 w0 w1 w2 t0 t1 t2 n, PenOk ca (k + 3) po' → Fr h₀ L h' m → News h₀ L h' ((D, W.listOf #[.bool b0, .bool b1, .bool b2, .bool b3, .int w0 t0, .int w1 t1, .int w2 t2] n) :: all' po') → (∀ p ∈ all' po', p.1 ≠ D) → Q (.ref D) { s with heap := h', toks := tk' }) :
   wpAny (model prog w) (callerA.deeper (envOfC (Str.ofString "law") lawScope L fa cd)) (eval truthsExpr (envOfC (Str.ofString "law") lawScope L fa cd)) Q E { s with heap := h, toks := tk } := by
  conv in truthsExpr => whnf
  conv in (occs := *) lawScope => all_goals whnf
  have hall : all = all' po := by obtain ⟨pr, ps, rfl, hg, _⟩ := U.split; exact (hg po).symm
  subst hall
  have q1 := hm1 po; have q3 := hm3 po; have qp := updF_has (o' := po) U
  cases hp with | @mk i q sd t1 t2 t3 kp a1 a2 a3 a4 a5 =>
  k_steps
  refine Hold.of ?_
  refine comp_open (by with_unfolding_all rfl) rfl (by decide) ?_
  k_steps
  refine Hold.of ?_
  (rename Fr _ _ _ _ => lF')
  (rename News _ _ _ _ => lN')
  refine comp_range (n := 4) rfl (by decide) rfl (by decide) rfl (by rfl) lF' lN'
    (fun i9 ys l => l = all' (penO ca i q sd t1 t2 t3 kp) ∧ ∃ bs : List Bool, ys = bs.map Value.bool ∧ bs.length = i9) ?_ ?_ ?_
  · exact ⟨rfl, [], rfl, rfl⟩
  · rintro j t ys news₁ hj ⟨rfl, bs, rfl, hlen⟩ C2 oC D m₂ h₁ tk₁ its E' hm2 hoC hid hCD hap1 hap2 F' N'
    refine wpAny_tests_nil ?_
    simp only [if_true]
    k_steps
    dsimp only
    refine ⟨h₁, _, _, rfl, F', N', hap2, (fun p hp => nomatch hp), rfl, bs ++ [_], by simp; rfl, by simp [hlen]⟩
  · rintro ys news₁ D h₁ tk₁ ⟨rfl, bs, rfl, hlen⟩ hD F' N'
    clear lF' lN'
    have hpp : PenOk ca k (penO ca i q sd t1 t2 t3 kp) := .mk a1 a2 a3 a4 a5
    have hDp : D ≠ pa := (hD _ qp).symm
    k_steps
    refine Hold.of ?_
    refine comp_open (by with_unfolding_all rfl) rfl (by decide) ?_
    k_steps
    refine Hold.of ?_
    (rename Fr _ _ _ _ => lF')
    (rename News _ _ _ _ => lN')
    refine comp_range (n := 3) rfl (by decide) rfl (by decide) rfl (by rfl) lF' lN'
      (fun i9 ys l => ∃ po1, l = (D, LCg.lst (bs.map Value.bool)) :: all' po1 ∧ PenOk ca (k + (i9 : Int)) po1 ∧ ∃ ws : List (Int × Tok), ys = ws.map (fun x => Value.int x.1 x.2) ∧ ws.length = i9) ?_ ?_ ?_
    · exact ⟨_, rfl, hpp.le (by omega), [], rfl, rfl⟩
    · rintro j t ys news₁ hj ⟨po1, rfl, hp1, ws, rfl, hwl⟩ C2 oC D2 m₂ h₂ tk₂ its E' hm2 hoC hid hCD hap1 hap2 F2 N2
      refine wpAny_tests_nil ?_
      simp only [if_true]
      have pm : (pa, po1) ∈ (D, LCg.lst (bs.map Value.bool)) :: all' po1 := .tail _ (updF_has U)
      have U2 := updF_app (g := fun o => (C2, oC) :: (D2, LCg.lst (ws.map (fun x => Value.int x.1 x.2))) :: (D, LCg.lst (bs.map Value.bool)) :: all' o) (fun p hp => ((hap2 _ pm).2.2 p hp).symm) (UpdF.tail (p := (C2, oC)) (hap2 _ pm).1.symm (UpdF.tail (p := (D2, LCg.lst (ws.map (fun x => Value.int x.1 x.2)))) (hap2 _ pm).2.1.symm (UpdF.tail (p := (D, LCg.lst (bs.map Value.bool))) hDp (updF_re (o' := po1) U))))
      have q2 := hm1 po1; have q4 := hca po1
      k_steps
      (rename Fr _ _ _ _ => lF')
      (rename News _ _ _ _ => lN')
      rename PenOk _ _ _ => hp3
      refine ⟨_, _, (D, LCg.lst (bs.map Value.bool)) :: all' _, rfl, lF', lN', fun p hp => ?_, (fun p hp => nomatch hp), _, rfl, hp3.le (by omega), ws ++ [(_, _)], by simp; exact ⟨rfl, rfl⟩, by simp [hwl]⟩
      obtain ⟨q, hq, e⟩ := adr_congr (l := (D, LCg.lst (bs.map Value.bool)) :: all' po1) (by rw [List.map_cons, List.map_cons, updF_addr2 (o1 := po1) U]) hp
      rw [← e]
      exact hap2 q hq
    · rintro ys news₁ D2 h₂ tk₂ ⟨po1, rfl, hp1, ws, rfl, hwl⟩ hD2 F2 N2
      obtain ⟨b0, b1, b2, b3, rfl⟩ : ∃ b0 b1 b2 b3, bs = [b0, b1, b2, b3] := by
        match bs, hlen with
        | [b0, b1, b2, b3], _ => exact ⟨b0, b1, b2, b3, rfl⟩
      obtain ⟨w0, w1, w2, rfl⟩ : ∃ w0 w1 w2, ws = [w0, w1, w2] := by
        match ws, hwl with
        | [w0, w1, w2], _ => exact ⟨w0, w1, w2, rfl⟩
      simp only [List.map_cons, List.map_nil] at N2
      clear lF' lN'
      refine kmk_add_lit F2 N2 (zs := [.bool b0, .bool b1, .bool b2, .bool b3, .int w0.1 w0.2, .int w1.1 w1.2, .int w2.1 w2.2]) ⟨_, (N2 _ (.tail _ (.head _))).1, rfl, _, rfl⟩ ⟨_, (N2 _ (.head _)).1, rfl, _, rfl⟩ rfl (fun D3 h3 F3 N3 l3 => ?_) (by show 4 + 3 ≤ sizeLine; decide)
      refine ret D3 po1 h3 _ b0 b1 b2 b3 w0.1 w1.1 w2.1 w0.2 w1.2 w2.2 0 (hp1.le (by omega)) F3 (newsSub N3 fun p hp => ?_) fun p hp => Nat.ne_of_lt (l3 p (.tail _ (.tail _ hp)))
      rcases List.mem_cons.mp hp with rfl | hp
      · exact .head _
      · exact .tail _ (.tail _ (.tail _ hp))
end

/- part U3 -/
section
theorem primeU3 : (PySem.Challenge.rw_pq0615_01, Mine.hd.heap_39) = (PySem.Challenge.rw_pq0615_01, Mine.hd.heap_39) := by
  k_fill
  rfl
theorem wordsU30 : True := by
  k_with_none
  w_top off
  k_with "k_mem" => ((refine' mem_of ?_; ktr_member))
  k_with "Sub" => (first | exact Sub.refl | (refine Sub.cons ?_; walk_at "Sub") | (refine Sub.app ?_; walk_at "Sub") | fail "Sub")
  k_with "SubL" => (first | exact sub_refl | (refine sub_cons ?_; walk_at "SubL") | (refine sub_app ?_; walk_at "SubL") | fail "SubL")
  k_with "Lt" => (first | assumption | exact allLt_of (by assumption) | ((try simp only [AllLt, and_true]); assumption) | fail "Lt")
  k_with "Grown" => (first | exact Grown.refl | assumption | (refine Grown.cons ?_ rfl ?_; rotate_left; walk_at "Lt"; walk_at "Grown") | (refine Grown.app ?_ (by assumption) (by assumption); walk_at "Grown") | fail "Grown")
  k_with "Rel" => (first | assumption | exact CondIn.mono (by assumption) (by walk_at "Sub") | exact TrIn.mono (by assumption) (by walk_at "Sub") | exact RefIn.mono (by assumption) (by walk_at "Sub") | exact NumIn.mono (by assumption) (by walk_at "Sub") | exact SubjIn.mono (by assumption) (by walk_at "Sub") | exact ThingIn.mono (by assumption) (by walk_at "Sub") | walk_at "RelCon")
  k_with "RelCon" => (first | (apply TrIn.mk; k_mem) | (apply CondIn.eq; k_mem; walk_at "Rel"; walk_at "Rel") | (apply CondIn.le; k_mem; walk_at "Rel"; walk_at "Rel") | (apply CondIn.ge; k_mem; walk_at "Rel"; walk_at "Rel") | (apply CondIn.and; k_mem; walk_at "Rel"; walk_at "Rel") | (apply CondIn.or; k_mem; walk_at "Rel"; walk_at "Rel") | (apply CondIn.not; k_mem; walk_at "Rel") | fail "RelCon")
  k_with "MyItem" => ((
   (with_reducible show wpAny _ _ (subscriptTail _ _ (Value.ref _) (Value.int _ _)) _ _ _)
   k_here
   k_dflt (first
     | (refine' item_tupleT ?mtA ?mtB ?mtC ?mtD ?mtE ?_; (case mtA => (refine' News.isTup ?n9 ?m9; (case n9 => k_asm); (case m9 => k_mem))); (case mtB => decide); (case mtC => decide); (case mtD => rfl); (case mtE => rfl); k_whole)
     | (refine' item_listT ?mlA ?mlB ?mlC ?mlD ?_; (case mlA => (refine' News.isList ?n9 ?m9; (case n9 => k_asm); (case m9 => k_mem))); (case mlB => first | decide | omega); (case mlC => first | decide | omega); (case mlD => first | rfl | exact tr_b (by assumption) | exact tr_w (by assumption)); k_whole)
     | fail "MyItem")))
  k_with "subscriptTail Name Constant ref int" => (walk_at "MyItem")
  k_with "subscriptTail Name" => (walk_at "MyItem")
  k_with "subscriptTail Subscript" => (walk_at "MyItem")
  k_with "ite" => ((k_closed; first | (refine ite_pos (by decide +kernel) ?_) | (refine ite_neg (by decide +kernel) ?_)))
  k_with "ite" => (first | with_reducible refine if_t ?_ | with_reducible refine if_f ?_)
  k_with "subscriptTail Subscript" => ((
   (with_reducible show wpAny _ _ (subscriptTail _ (Expr.Slice (some _) none none _) (Value.str _ _) _) _ _ _)
   (with_reducible rename Fr _ _ _ _ => F')
   (with_reducible rename News _ _ _ _ => N')
   (refine slice_strN_sn (hsz := ?hsz) (s := ⟨_, _, _, _, _⟩) F' N' ?_)
   (case hsz => size_fits)
   intro _ _ _ _ _))
  k_with "units_room" => (ktr_units)
  k_with "compareOp Eq ref ref" => ((
   (with_reducible show wpAny _ _ (compareOp CmpOp.Eq (Value.ref _) (Value.ref _)) _ _ _)
   k_here
   k_dflt (refine' eq_ref_num ?erA ?erB ?erC ?erD ?_; (case erA => k_asm); (case erB => walk_at "Rel"); (case erC => walk_at "Rel"); (case erD => ktr_units); k_whole)))
  k_with "call type:int" => ((
   (with_reducible show wpAny _ _ (call (Value.type "int") [Value.str (PySem.Txt.slice (wname _) _ _) _]) _ _ _)
   refine KIN.call_text (wname_int (by assumption)) (wname_slen _) ?_))
  k_with "call type:int" => ((
   (with_reducible show wpAny _ _ (call (Value.type "int") [Value.str (PySem.Txt.slice (cname _) _ _) _]) _ _ _)
   refine KIN.call_text (cname_int (by assumption)) (cname_slen _) ?_))
  k_with "MyFor" => ((k_here; (rename Fr _ _ _ _ => lF'); (with_unfolding_all refine' For_turns lF' ?_; k_whole)))
  k_with "exec For Tuple Call cons nil" => (walk_at "MyFor")
  k_with "exec For Tuple Subscript cons nil" => (walk_at "MyFor")
  k_with "exec For Name Name cons nil" => (walk_at "MyFor")
  k_with "exec For Name Call cons nil" => (walk_at "MyFor")
  k_with "k_ne" => (first | assumption | exact ne_new (by assumption) (by k_mem) | exact Ne.symm (by assumption) | exact Ne.symm (ne_new (by assumption) (by k_mem)))
  k_with "Lt" => (first | exact allLt_of (by assumption) | exact allLt_congr (by assumption) (by first | rfl | simp only [List.map_cons, List.map_append]))
  k_with "k_all" => (first | assumption | exact List.forall_mem_nil _ | (apply fresh_ne; assumption; k_mem) | (refine' List.forall_mem_append.mpr ⟨?_, ?_⟩; k_all; k_all) | (refine' List.forall_mem_cons.mpr ⟨?_, ?_⟩; k_ne; k_all))
  k_with "k_updF" => ((apply updF_app; k_all; k_updF))
  k_with "k_mem" => ((refine' mem_app_l ?_; k_mem))
  k_with "k_mem" => ((refine' mem_app_r ?_; k_mem))
  k_with "call ref" => ((
   (with_reducible show wpAny _ _ (call (Value.ref 77) _) _ _ _)
   k_here
   k_dflt (refine' draw_walk ?d1 ?d2 ?kB ?kF ?kX ?kN ?kU ?kc ?kT ?kK ?kp ?kco ?kk ?kd ?ku ?_; (case d1 => decide); (case d2 => decide); (case kB => k_asm); (case kF => k_asm); (case kX => k_asm); (case kN => k_asm); (case kU => k_updF); (case kco => assumption); (case kc => k_mem); (case kT => k_asm); (case kK => first | exact rfl | assumption); (case kp => k_asm); (case kk => omega); (case kd => ktr_room); (case ku => ktr_units))
   intro j9 t9 po9 h9 tk9 j0 j1 hp9 F9 N9
   (try dsimp only at N9)
   (try dsimp only)
   (try k_fold)))
  k_with "call ref" => ((
   (with_reducible show wpAny _ _ (call (Value.ref 84) _) _ _ _)
   k_here
   k_dflt (refine' simple_walk ?kB ?kF ?kX ?kN ?kU ?kc ?kT ?kK ?kp ?kco ?kk ?kd ?ku ?_; (case kB => k_asm); (case kF => k_asm); (case kX => k_asm); (case kN => k_asm); (case kU => k_updF); (case kco => assumption); (case kc => k_mem); (case kT => k_asm); (case kK => first | exact rfl | assumption); (case kp => k_asm); (case kk => omega); (case kd => ktr_room); (case ku => ktr_units))
   intro r9 c9 po9 tl9 h9 tk9 S9 hp9 F9 N9 A9 W9 C9
   (try dsimp only at N9 W9 C9)
   (try dsimp only)
   (try k_fold)))
  k_with "call builtin:list.append" => ((
   (with_reducible show wpAny _ _ (call (Value.builtin "list.append") [Value.ref _, _]) _ _ _)
   k_here
   k_dflt (refine' append_led ?aF ?aN ?aU ?aZ ?_; (case aF => k_asm); (case aN => k_asm); (case aU => k_updF); (case aZ => assumption))
   intro h' F' N'
   (try dsimp only at N')
   (try dsimp only)
   (try k_sweep)))
  k_with "MyFor" => ((k_here; (rename Fr _ _ _ _ => lF'); (with_unfolding_all refine' For_turns lF' ?_ (hE := by first | assumption | passes_own); k_whole)))
  k_with "exec For Tuple Call cons nil" => (walk_at "MyFor")
  k_with "exec For Tuple Subscript cons nil" => (walk_at "MyFor")
  k_with "exec For Name Name cons nil" => (walk_at "MyFor")
  k_with "exec For Name Call cons nil" => (walk_at "MyFor")
  k_with "call type:range" => ((refine Hold.mk ?_))
  k_with "call type:zip" => ((refine Hold.mk ?_))
  k_with "pyIter ref" => ((refine Hold.mk ?_))
  k_with "callWith" => (((with_reducible show wpAny _ _ (callWith _ (Value.builtin "list.append") _ _ _) _ _ _); refine callWith_method1 ?_))
  k_with "Grown" => (first | (with_reducible refine Grown.cons ?_ rfl ?_; rotate_left; walk_at "Lt"; walk_at "Grown") | with_reducible exact Grown.refl | (with_reducible refine Grown.app ?_ (by assumption) (by first | assumption | exact fresh_congr (by assumption) (by simp only [List.map_cons, List.map_append])); walk_at "Grown") | fail "Grown")
  k_with "eval ListComp" => ((refine Hold.mk ?_))
  k_with "call ref" => ((
   (with_reducible show wpAny _ _ (call (Value.ref 91) _) _ _ _)
   refine Hold.mk ?_))
  trivial
def innerIf : Stmt := match loop3Body.drop 2 with
  | Stmt.For _ _ (Stmt.For _ _ (i :: _) _ _ :: _) _ _ :: _ => i
  | _ => .Pass ⟨0,0,0,0⟩
def compE : PySem.Expr := match innerIf with | .If (.Compare e _ _ _) _ _ _ => e | _ => noExpr
theorem ismet_use {prog : Program} {w : World} {p : Program} {loose : List Str} {mean : ExcName → Option Value} {mg mb : Str → Option Value} {T : Tr} {S : Subj} {t : Thing} {v u x : Value} {b : Bool}
   {dp un : Nat} {gd : Option (List Code)} {cn : Str} {cs : Scope} {a : Addr} {ccd : Value} {cl : List (Str × Addr)} {outer : List Env} {A₀ : Around} {base h₀ : Heap} {L : Addr} {m : Str → Option Value} {news : Led} {s : Shared}
    {Q E : Value → Shared → Prop}
    (B : Below A₀ base outer h₀) (F : Fr h₀ L s.heap m) (X : (Mine.hd.heap_39 w.params).In h₀) (N : News h₀ L s.heap news) (TT : Top p loose mean mg mb h₀) (hk : cs.kind = .function) (C : SubjIn news v S) (D : ThingIn news u t) (R : TrIn news x T)
    (hf : Fits S t = true) (hS : S.depth < 3) (ht : t.depth < 3) (hb : isMet T S t = b) (hd : dp + 4 < recursionLimit) (hu : un + 8 * 4 + 400 < cLine)
    (ret : ∀ h' tk', Fr h₀ L h' m → News h₀ L h' news → Q (.bool b) { s with heap := h', toks := tk' }) :
    wpAny (model prog w) (ktrTop dp un gd cn cs L a ccd cl outer) (call (.ref 105) [v, u, x]) Q E s :=
  does_use (ismet_does T S t hf hS ht) B F X N TT hk ⟨_, _, _, rfl, C, D, R⟩ hd hu fun r news' h' tk' F' N' hp => by obtain ⟨rfl, rfl⟩ := hp; rw [hb]; exact ret h' tk' F' N'

theorem wordsU31 : True := by
  k_with "call ref" => ((
   (with_reducible show wpAny _ _ (call (Value.ref 105) _) _ _ _)
   k_here
   k_dflt (refine' ismet_use ?k1 ?k2 ?k3 ?k4 ?k5 ?kK ?kC ?kD ?kR ?kf ?kS ?kt ?kb ?kd ?ku ?_; (case k1 => k_asm); (case k2 => k_asm); (case k3 => k_asm); (case k4 => k_asm); (case k5 => k_asm); (case kK => first | exact rfl | assumption); (case kC => assumption); (case kD => assumption); (case kR => assumption); (case kf => assumption); (case kS => assumption); (case kt => assumption); (case kb => assumption); (case kd => ktr_room); (case ku => ktr_units))
   intro h9 tk9 F9 N9
   (try dsimp only)
   (try k_fold)))
  trivial
theorem unmet_comp {prog : Program} {w : World} {p : Program} {loose : List Str} {mean : ExcName → Option Value} {mg mb : Str → Option Value} {h₀ : Heap} {L fa : Addr} {cd : Value} {m : Str → Option Value} {s : Shared} {h : Heap} {tk : Nat} {Q E : Value → Shared → Prop}
   {sl ta D0 : Addr} {o2 o4 to : Obj} {svs tvs : List Value} {ss : List Subj} {ts : List Thing} {kk : Nat} {all : Led} {T9 : Tr}
   (B : Below callerA h₀ [] h₀) (F : Fr h₀ L h (fun y => if y = Str.ofString "row" then some (.ref ta) else m y)) (X : (Mine.hd.heap_39 w.params).In h₀) (T : Top p loose mean mg mb h₀)
   (N : News h₀ L h all) (hsl : (sl, W.listOf (List.toArray svs) kk) ∈ all) (hta : (ta, to) ∈ all) (hto : SrcO false to (List.toArray tvs)) (hm2 : (L + 1 + 1, o2) ∈ all) (hm4 : (L + 1 + 1 + 1 + 1, o4) ∈ all)
   (d2 : o2.data = .cell (some (.ref sl))) (d4 : o4.data = .cell (some (.ref D0))) (hT : TrIn all (.ref D0) T9) (hS : AllIn (SubjIn all) svs ss) (hth : AllIn (ThingIn all) tvs ts) (hl3 : ss.length ≤ 3) (hlen : ss.length = ts.length) (hfit : FitsRow ss ts) (hsim : ∀ S ∈ ss, simpleS S) (hsit : ∀ t ∈ ts, simpleT t)
   (ret : ∀ D (ks : List Tok) h' tk', Fr h₀ L h' (fun y => if y = Str.ofString "row" then some (.ref ta) else m y) → News h₀ L h' ((D, W.listOf (List.toArray (ks.map (Value.int 1))) ks.length) :: all) → (∀ p ∈ all, p.1 ≠ D) → ks.length ≤ 3 → (ks = [] ↔ rowMet T9 ss ts = true) → Q (.ref D) { s with heap := h', toks := tk' }) :
   wpAny (model prog w) (callerA.deeper (envOfC (Str.ofString "law") lawScope L fa cd)) (eval compE (envOfC (Str.ofString "law") lawScope L fa cd)) Q E { s with heap := h, toks := tk } := by
  conv in compE => whnf
  conv in (occs := *) lawScope => all_goals whnf
  refine comp_open (by with_unfolding_all rfl) rfl (by decide) ?_
  k_steps
  refine Hold.of ?_
  (rename Fr _ _ _ _ => lF')
  (rename News _ _ _ _ => lN')
  refine comp_zip (k1 := true) (k2 := false) rfl (by decide) rfl (by rfl) (by rfl) (by rw [List.size_toArray, hS.1]; exact Nat.le_trans hl3 (by decide)) lF' lN' hsl ⟨rfl, _, rfl⟩ hta hto (by simp [hS.1, hth.1, hlen]) (fun i v hv => ?_) (by decide)
    (fun i zs l => l = all ∧ ∃ ks : List Tok, zs = ks.map (Value.int 1) ∧ ks.length ≤ i ∧ (ks = [] ↔ ((ss.zip ts).take i).all (fun p => isMet T9 p.1 p.2) = true)) ?_ ?_ ?_
  · obtain ⟨S9, _, hS9⟩ := hS.at hv
    cases hS9 <;> exact ⟨_, rfl⟩
  · exact ⟨rfl, [], rfl, Nat.le_refl _, by simp⟩
  · rintro i u v zs news₁ hu hv ⟨rfl, ks, rfl, hkl, hks⟩ hx1 hx2 C2 oC D m₂ h₁ tk₁ its E' ⟨hb1, hb2⟩ hoC hid hCD hap1 hap2 F' N'
    obtain ⟨S, eS, hSu⟩ := hS.at hu
    obtain ⟨t, et, htv⟩ := hth.at hv
    have hzs := zip_snoc eS et
    have hfS : Fits S t = true := hfit (S, t) (List.mem_of_getElem? (by simp [List.getElem?_zip_eq_some, eS, et] : (ss.zip ts)[i]? = some (S, t)))
    have hdS : S.depth < 3 := Nat.lt_succ_of_le (simpleS_depth (hsim S (List.mem_of_getElem? eS)))
    have hdt : t.depth < 3 := Nat.lt_succ_of_le (simpleT_depth (hsit t (List.mem_of_getElem? et)))
    have hsub : ∀ p ∈ news₁, p ∈ its ++ (C2, oC) :: (D, LCg.lst (ks.map (Value.int 1))) :: news₁ := fun p hp => List.mem_append_right _ (.tail _ (.tail _ hp))
    have hSu2 := hSu.mono (Sub.of hsub)
    have htv2 := htv.mono (Sub.of hsub)
    have hT2 := hT.mono hsub
    refine wpAny_tests_one ?_
    obtain ⟨b, hb⟩ : ∃ b, isMet T9 S t = b := ⟨_, rfl⟩
    cases b
    all_goals k_steps
    all_goals (rename Fr _ _ _ _ => lF'; rename News _ _ _ _ => lN'; (try dsimp only))
    · refine ⟨_, _, _, rfl, lF', lN', hap2, keep2 hx1 hx2, rfl, ks ++ [_], by simp; rfl, by simp; omega, ?_⟩
      rw [hzs, List.all_append]
      simp [hb]
    · refine ⟨_, _, _, rfl, lF', lN', hap2, keep2 hx1 hx2, rfl, ks, rfl, Nat.le_succ_of_le hkl, ?_⟩
      rw [hzs, List.all_append]
      simp [hb, hks]
  · rintro zs news₁ D h₁ tk₁ ⟨rfl, ks, rfl, hkl, hks⟩ hD F' N'
    have hz : ((ss.zip ts).take svs.toArray.size) = ss.zip ts := by
      apply List.take_of_length_le
      simp [List.length_zip, hS.1]
      omega
    rw [hz] at hks
    refine ret D ks h₁ tk₁ F' (by simpa [LCg.lst] using N') hD (by rw [List.size_toArray, hS.1] at hkl; omega) hks
end

/- part V3 -/
section
theorem primeV3 : (PySem.Challenge.rw_pq0615_01, Mine.hd.heap_39) = (PySem.Challenge.rw_pq0615_01, Mine.hd.heap_39) := by
  k_fill
  rfl
theorem wordsV30 : True := by
  k_with_none
  w_top off
  k_with "k_mem" => ((refine' mem_of ?_; ktr_member))
  k_with "Sub" => (first | exact Sub.refl | (refine Sub.cons ?_; walk_at "Sub") | (refine Sub.app ?_; walk_at "Sub") | fail "Sub")
  k_with "SubL" => (first | exact sub_refl | (refine sub_cons ?_; walk_at "SubL") | (refine sub_app ?_; walk_at "SubL") | fail "SubL")
  k_with "Lt" => (first | assumption | exact allLt_of (by assumption) | ((try simp only [AllLt, and_true]); assumption) | fail "Lt")
  k_with "Grown" => (first | exact Grown.refl | assumption | (refine Grown.cons ?_ rfl ?_; rotate_left; walk_at "Lt"; walk_at "Grown") | (refine Grown.app ?_ (by assumption) (by assumption); walk_at "Grown") | fail "Grown")
  k_with "Rel" => (first | assumption | exact CondIn.mono (by assumption) (by walk_at "Sub") | exact TrIn.mono (by assumption) (by walk_at "Sub") | exact RefIn.mono (by assumption) (by walk_at "Sub") | exact NumIn.mono (by assumption) (by walk_at "Sub") | exact SubjIn.mono (by assumption) (by walk_at "Sub") | exact ThingIn.mono (by assumption) (by walk_at "Sub") | walk_at "RelCon")
  k_with "RelCon" => (first | (apply TrIn.mk; k_mem) | (apply CondIn.eq; k_mem; walk_at "Rel"; walk_at "Rel") | (apply CondIn.le; k_mem; walk_at "Rel"; walk_at "Rel") | (apply CondIn.ge; k_mem; walk_at "Rel"; walk_at "Rel") | (apply CondIn.and; k_mem; walk_at "Rel"; walk_at "Rel") | (apply CondIn.or; k_mem; walk_at "Rel"; walk_at "Rel") | (apply CondIn.not; k_mem; walk_at "Rel") | fail "RelCon")
  k_with "MyItem" => ((
   (with_reducible show wpAny _ _ (subscriptTail _ _ (Value.ref _) (Value.int _ _)) _ _ _)
   k_here
   k_dflt (first
     | (refine' item_tupleT ?mtA ?mtB ?mtC ?mtD ?mtE ?_; (case mtA => (refine' News.isTup ?n9 ?m9; (case n9 => k_asm); (case m9 => k_mem))); (case mtB => decide); (case mtC => decide); (case mtD => rfl); (case mtE => rfl); k_whole)
     | (refine' item_listT ?mlA ?mlB ?mlC ?mlD ?_; (case mlA => (refine' News.isList ?n9 ?m9; (case n9 => k_asm); (case m9 => k_mem))); (case mlB => first | decide | omega); (case mlC => first | decide | omega); (case mlD => first | rfl | exact tr_b (by assumption) | exact tr_w (by assumption)); k_whole)
     | fail "MyItem")))
  k_with "subscriptTail Name Constant ref int" => (walk_at "MyItem")
  k_with "subscriptTail Name" => (walk_at "MyItem")
  k_with "subscriptTail Subscript" => (walk_at "MyItem")
  k_with "ite" => ((k_closed; first | (refine ite_pos (by decide +kernel) ?_) | (refine ite_neg (by decide +kernel) ?_)))
  k_with "ite" => (first | with_reducible refine if_t ?_ | with_reducible refine if_f ?_)
  k_with "subscriptTail Subscript" => ((
   (with_reducible show wpAny _ _ (subscriptTail _ (Expr.Slice (some _) none none _) (Value.str _ _) _) _ _ _)
   (with_reducible rename Fr _ _ _ _ => F')
   (with_reducible rename News _ _ _ _ => N')
   (refine slice_strN_sn (hsz := ?hsz) (s := ⟨_, _, _, _, _⟩) F' N' ?_)
   (case hsz => size_fits)
   intro _ _ _ _ _))
  k_with "units_room" => (ktr_units)
  k_with "compareOp Eq ref ref" => ((
   (with_reducible show wpAny _ _ (compareOp CmpOp.Eq (Value.ref _) (Value.ref _)) _ _ _)
   k_here
   k_dflt (refine' eq_ref_num ?erA ?erB ?erC ?erD ?_; (case erA => k_asm); (case erB => walk_at "Rel"); (case erC => walk_at "Rel"); (case erD => ktr_units); k_whole)))
  k_with "call type:int" => ((
   (with_reducible show wpAny _ _ (call (Value.type "int") [Value.str (PySem.Txt.slice (wname _) _ _) _]) _ _ _)
   refine KIN.call_text (wname_int (by assumption)) (wname_slen _) ?_))
  k_with "call type:int" => ((
   (with_reducible show wpAny _ _ (call (Value.type "int") [Value.str (PySem.Txt.slice (cname _) _ _) _]) _ _ _)
   refine KIN.call_text (cname_int (by assumption)) (cname_slen _) ?_))
  k_with "MyFor" => ((k_here; (rename Fr _ _ _ _ => lF'); (with_unfolding_all refine' For_turns lF' ?_; k_whole)))
  k_with "exec For Tuple Call cons nil" => (walk_at "MyFor")
  k_with "exec For Tuple Subscript cons nil" => (walk_at "MyFor")
  k_with "exec For Name Name cons nil" => (walk_at "MyFor")
  k_with "exec For Name Call cons nil" => (walk_at "MyFor")
  k_with "k_ne" => (first | assumption | exact ne_new (by assumption) (by k_mem) | exact Ne.symm (by assumption) | exact Ne.symm (ne_new (by assumption) (by k_mem)))
  k_with "Lt" => (first | exact allLt_of (by assumption) | exact allLt_congr (by assumption) (by first | rfl | simp only [List.map_cons, List.map_append]))
  k_with "k_all" => (first | assumption | exact List.forall_mem_nil _ | (apply fresh_ne; assumption; k_mem) | (refine' List.forall_mem_append.mpr ⟨?_, ?_⟩; k_all; k_all) | (refine' List.forall_mem_cons.mpr ⟨?_, ?_⟩; k_ne; k_all))
  k_with "k_updF" => ((apply updF_app; k_all; k_updF))
  k_with "k_mem" => ((refine' mem_app_l ?_; k_mem))
  k_with "k_mem" => ((refine' mem_app_r ?_; k_mem))
  k_with "call ref" => ((
   (with_reducible show wpAny _ _ (call (Value.ref 77) _) _ _ _)
   k_here
   k_dflt (refine' draw_walk ?d1 ?d2 ?kB ?kF ?kX ?kN ?kU ?kc ?kT ?kK ?kp ?kco ?kk ?kd ?ku ?_; (case d1 => decide); (case d2 => decide); (case kB => k_asm); (case kF => k_asm); (case kX => k_asm); (case kN => k_asm); (case kU => k_updF); (case kco => assumption); (case kc => k_mem); (case kT => k_asm); (case kK => first | exact rfl | assumption); (case kp => k_asm); (case kk => omega); (case kd => ktr_room); (case ku => ktr_units))
   intro j9 t9 po9 h9 tk9 j0 j1 hp9 F9 N9
   (try dsimp only at N9)
   (try dsimp only)
   (try k_fold)))
  k_with "call ref" => ((
   (with_reducible show wpAny _ _ (call (Value.ref 84) _) _ _ _)
   k_here
   k_dflt (refine' simple_walk ?kB ?kF ?kX ?kN ?kU ?kc ?kT ?kK ?kp ?kco ?kk ?kd ?ku ?_; (case kB => k_asm); (case kF => k_asm); (case kX => k_asm); (case kN => k_asm); (case kU => k_updF); (case kco => assumption); (case kc => k_mem); (case kT => k_asm); (case kK => first | exact rfl | assumption); (case kp => k_asm); (case kk => omega); (case kd => ktr_room); (case ku => ktr_units))
   intro r9 c9 po9 tl9 h9 tk9 S9 hp9 F9 N9 A9 W9 C9
   (try dsimp only at N9 W9 C9)
   (try dsimp only)
   (try k_fold)))
  k_with "call builtin:list.append" => ((
   (with_reducible show wpAny _ _ (call (Value.builtin "list.append") [Value.ref _, _]) _ _ _)
   k_here
   k_dflt (refine' append_led ?aF ?aN ?aU ?aZ ?_; (case aF => k_asm); (case aN => k_asm); (case aU => k_updF); (case aZ => assumption))
   intro h' F' N'
   (try dsimp only at N')
   (try dsimp only)
   (try k_sweep)))
  k_with "MyFor" => ((k_here; (rename Fr _ _ _ _ => lF'); (with_unfolding_all refine' For_turns lF' ?_ (hE := by first | assumption | passes_own); k_whole)))
  k_with "exec For Tuple Call cons nil" => (walk_at "MyFor")
  k_with "exec For Tuple Subscript cons nil" => (walk_at "MyFor")
  k_with "exec For Name Name cons nil" => (walk_at "MyFor")
  k_with "exec For Name Call cons nil" => (walk_at "MyFor")
  k_with "call type:range" => ((refine Hold.mk ?_))
  k_with "call type:zip" => ((refine Hold.mk ?_))
  k_with "pyIter ref" => ((refine Hold.mk ?_))
  k_with "callWith" => (((with_reducible show wpAny _ _ (callWith _ (Value.builtin "list.append") _ _ _) _ _ _); refine callWith_method1 ?_))
  k_with "Grown" => (first | (with_reducible refine Grown.cons ?_ rfl ?_; rotate_left; walk_at "Lt"; walk_at "Grown") | with_reducible exact Grown.refl | (with_reducible refine Grown.app ?_ (by assumption) (by first | assumption | exact fresh_congr (by assumption) (by simp only [List.map_cons, List.map_append])); walk_at "Grown") | fail "Grown")
  k_with "eval ListComp" => ((refine Hold.mk ?_))
  k_with "call ref" => ((
   (with_reducible show wpAny _ _ (call (Value.ref 91) _) _ _ _)
   refine Hold.mk ?_))
  trivial
def innerFor : Stmt := match loop3Body.drop 2 with
  | Stmt.For _ _ (i :: _) _ _ :: _ => i
  | _ => .Pass ⟨0,0,0,0⟩
theorem list_led {prog : Program} {w : World} {A : Around} {E : Value → Shared → Prop} {s : Shared} {h₀ : Heap} {L sa : Addr} {so : Obj} {m : Str → Option Value} {news : Led} {vs : List Value} {Q : Value → Shared → Prop} (F : Fr h₀ L s.heap m) (N : News h₀ L s.heap news) (hm : (sa, so) ∈ news) (hs : SrcO false so (List.toArray vs)) (hz : vs.length ≤ 9)
    (h : ∀ D c h', Fr h₀ L h' m → News h₀ L h' ((D, W.listOf (List.toArray vs) c) :: news) → Above D news → Q (.ref D) { s with heap := h' }) : wpAny (model prog w) A (call (.type "list") [.ref sa]) Q E s :=
  list_copyKT F N (tupOf N hm hs) (fun D c h' F' N' l1 => h D c h' F' N' l1) (by rw [List.size_toArray]; exact Nat.le_trans hz (by decide))
theorem ones_reads (h : Heap) : ∀ ks : List Tok, ReadsAll h (ks.map (Value.int 1)) (ks.map fun _ => PyData.int 1) []
  | [] => ReadsAll.nil
  | t :: r => readsAll_cons_val (Reads.int _ _) (ones_reads h r)
theorem eq_ones {prog : Program} {w : World} {A : Around} {E : Value → Shared → Prop} {s : Shared} {h₀ : Heap} {L D D' : Addr} {news : Led} {ks : List Tok} {n n' : Nat} {Q : Value → Shared → Prop} (N : News h₀ L s.heap news) (hm : (D, W.listOf (List.toArray (ks.map (Value.int 1))) n) ∈ news) (hm' : (D', W.listOf #[] n') ∈ news) (hk : ks.length ≤ 3) (hu : A.units + 64 < cLine)
    (h : Q (.bool ks.isEmpty) s) : wpAny (model prog w) A (compareOp .Eq (.ref D) (.ref D')) Q E s := by
  refine eq_dataH (reads_list_at (N.get hm) rfl rfl (ones_reads _ ks)) (reads_list_at (N.get hm') rfl rfl ReadsAll.nil) ?_ ?_ hu ?_
  · match ks, hk with
    | [], _ => rfl
    | [_], _ => rfl
    | [_, _], _ => rfl
    | [_, _, _], _ => rfl
  · rfl
  · cases ks <;> exact h

theorem wordsV31 : True := by
  k_with "compareOp Eq ref ref" => ((
   (with_reducible show wpAny _ _ (compareOp CmpOp.Eq (Value.ref _) (Value.ref _)) _ _ _)
   k_here
   k_dflt (refine' eq_ones ?e1 ?e2 ?e3 ?e4 ?e5 ?_; (case e1 => k_asm); (case e2 => k_mem); (case e3 => k_mem); (case e4 => assumption); (case e5 => ktr_units))
   (rename List.isEmpty _ = _ => hb9; rw [hb9])))
  k_with "call type:list" => ((
   (with_reducible show wpAny _ _ (call (Value.type "list") [Value.ref _]) _ _ _)
   k_here
   k_dflt (refine' list_led ?e1 ?e2 ?e3 ?e4 ?e5 ?_; (case e1 => k_asm); (case e2 => k_asm); (case e3 => k_mem); (case e4 => assumption); (case e5 => assumption))
   intro D9 c9 h' F' N' l1))
  trivial
theorem map_over {m f : Str → Option Value} {x : Str} {v : Value} (h : m x = some v) (hf : m = f) : m = fun y => if y = x then some v else f y := by
  funext y
  by_cases e : y = x
  · simp [e, h]
  · simp [e, hf]
theorem fr_as {h₀ h : Heap} {L : Addr} {m m' : Str → Option Value} (F : Fr h₀ L h m) (e : m = m') : Fr h₀ L h m' := e ▸ F
theorem inner_for {prog : Program} {w : World} {p : Program} {loose : List Str} {mean : ExcName → Option Value} {mg mb : Str → Option Value} {h₀ : Heap} {L fa : Addr} {cd : Value} {u : Str → Option Value} {s : Shared} {h : Heap} {tk : Nat} {Q : Flow → Shared → Prop} {E : Value → Shared → Prop}
   {sl D0 sa ra wl oa tb d0 : Addr} {o2 o4 so ro : Obj} {svs rvs dvs0 vs : List Value} {ss : List Subj} {rows : List (List Thing)} {kk n0 : Nat} {base : Led} {T9 : Tr}
   (hE : PassesOwn (model prog w) (callerA.deeper (envOfC (Str.ofString "law") lawScope L fa cd)) (envOfC (Str.ofString "law") lawScope L fa cd) E)
   (B : Below callerA h₀ [] h₀) (F : Fr h₀ L h (fun y => if y = Str.ofString "statements" then some (.ref sa) else if y = Str.ofString "rows" then some (.ref ra) else if y = Str.ofString "due" then some (.ref d0) else if y = Str.ofString "whens" then some (.ref wl) else if y = Str.ofString "others" then some (.ref oa) else if y = Str.ofString "told" then some (.ref tb) else u y)) (X : (Mine.hd.heap_39 w.params).In h₀) (T : Top p loose mean mg mb h₀)
   (N : News h₀ L h ((d0, W.listOf (List.toArray dvs0) n0) :: base)) (hsl : (sl, W.listOf (List.toArray svs) kk) ∈ base) (hra : (ra, ro) ∈ base) (hro : SrcO false ro (List.toArray rvs)) (hm2 : (L + 1 + 1, o2) ∈ base) (hm4 : (L + 1 + 1 + 1 + 1, o4) ∈ base)
   (d2 : o2.data = .cell (some (.ref sl))) (d4 : o4.data = .cell (some (.ref D0))) (hT : TrIn base (.ref D0) T9) (hS : AllIn (SubjIn base) svs ss) (hrw : AllIn (RowIn base) rvs rows) (hl3 : ss.length ≤ 3) (hok : RowsOk ss rows) (hsim : ∀ S ∈ ss, simpleS S)
   (hsa : (sa, so) ∈ base) (hso : SrcO false so (List.toArray vs)) (hv9 : vs.length ≤ 9) (hd0 : ∀ p ∈ base, p.1 ≠ d0)
   (ret : ∀ d dvs n (u' : Str → Option Value) h' tk', Fr h₀ L h' (fun y => if y = Str.ofString "due" then some (.ref d) else if y = Str.ofString "whens" then some (.ref wl) else if y = Str.ofString "others" then some (.ref oa) else if y = Str.ofString "told" then some (.ref tb) else u' y) → News h₀ L h' ((d, W.listOf (List.toArray dvs) n) :: base) → dvs = (if rows.any (rowMet T9 ss) then vs else dvs0) → (∀ p ∈ base, p.1 ≠ d) → Q .next { s with heap := h', toks := tk' }) :
   wpAny (model prog w) (callerA.deeper (envOfC (Str.ofString "law") lawScope L fa cd)) (exec innerFor (envOfC (Str.ofString "law") lawScope L fa cd)) Q E { s with heap := h, toks := tk } := by
  conv in innerFor => whnf
  conv in (occs := *) lawScope => all_goals whnf
  conv at hE in (occs := *) lawScope => all_goals whnf
  k_steps
  refine Hold.of ?_
  (rename Fr _ _ _ _ => lF')
  (rename News _ _ _ _ => lN')
  refine Mine.for_src false rfl lF' lN' (List.Mem.tail _ hra) hro
    (fun j m l => ∃ d dvs n, ∃ u' : Str → Option Value, m = (fun y => if y = Str.ofString "due" then some (.ref d) else if y = Str.ofString "statements" then some (.ref sa) else if y = Str.ofString "whens" then some (.ref wl) else if y = Str.ofString "others" then some (.ref oa) else if y = Str.ofString "told" then some (.ref tb) else u' y) ∧ l = (d, W.listOf (List.toArray dvs) n) :: base ∧ dvs = (if (rows.take j).any (rowMet T9 ss) then vs else dvs0) ∧ ∀ p ∈ base, p.1 ≠ d) ?_ ?_ ?_
  · exact ⟨d0, dvs0, n0, _, map_over (by rfl) (map_over (by rfl) (map_over (by rfl) (map_over (by rfl) (map_over (by rfl) rfl)))), rfl, by simp, hd0⟩
  · clear lF' lN'
    rintro j v9 m₁ news₁ h₁ tk₁ its hv9 ⟨d, dvs, n, u', rfl, rfl, hdv, hdn⟩ hm1 hidle hap F' N'
    obtain ⟨ts, ets, ta, to, tvs, rfl, hta, hto, hth⟩ := hrw.at hv9
    have hts : ts ∈ rows := List.mem_of_getElem? ets
    obtain ⟨hlen, hfit, hsit⟩ := hok ts hts
    have hsub : ∀ p ∈ base, p ∈ its ++ (d, W.listOf (List.toArray dvs) n) :: base := fun p hp => List.mem_append_right _ (.tail _ hp)
    have htk : rows.take (j + 1) = rows.take j ++ [ts] := by rw [List.take_add_one, ets]; rfl
    k_steps
    refine Hold.of ?_
    (rename Fr _ _ _ _ => lF')
    (rename News _ _ _ _ => lN')
    with_unfolding_all refine' unmet_comp (T9 := T9) (ts := ts) B lF' X T lN' (hsub _ hsl) (hsub _ hta) hto (hsub _ hm2) (hsub _ hm4) d2 d4 (hT.mono hsub) (hS.imp fun v x h => h.mono (Sub.of hsub)) (hth.imp fun v x h => h.mono (Sub.of hsub)) hl3 hlen hfit hsim hsit ?_
    intro D ks h2 tk2 F2 N2 hD hk3 hks
    have hsa2 : (sa, so) ∈ base := hsa
    obtain ⟨b, hb⟩ : ∃ b, ks.isEmpty = b := ⟨_, rfl⟩
    clear lF' lN'
    cases b
    all_goals k_steps
    all_goals (rename Fr _ _ _ _ => lF'; rename News _ _ _ _ => lN'; rename List.isEmpty _ = _ => hb)
    · refine ⟨_, _, _, (d, W.listOf (List.toArray dvs) n) :: base, rfl, lF', newsSub lN' (fun p hp => .tail _ (.tail _ hp)), hap, keep1 hm1, d, dvs, n, _, map_over (by rfl) (map_over (by rfl) (map_over (by rfl) (map_over (by rfl) (map_over (by rfl) rfl)))), rfl, ?_, hdn⟩
      have hnm : rowMet T9 ss ts = false := by
        cases hr : rowMet T9 ss ts with
        | false => rfl
        | true => rw [hks.mpr hr] at hb; cases hb
      rw [htk, List.any_append, hdv]
      simp [hnm]
    · rename Above _ _ => l9
      refine' ⟨_, _, _, (_, W.listOf (List.toArray vs) _) :: base, rfl, lF', newsSub lN' (fun p hp => ?_), List.forall_mem_cons.mpr ⟨fun q hq => (Nat.ne_of_lt (l9 _ (.tail _ (.tail _ (List.mem_append_left _ hq))))).symm, fun p hp => hap p (.tail _ hp)⟩, keep1 (.tail _ hra), _, vs, _, _, map_over (by rfl) (map_over (by rfl) (map_over (by rfl) (map_over (by rfl) (map_over (by rfl) rfl)))), rfl, ?_, fun p hp => Nat.ne_of_lt (l9 _ (.tail _ (.tail _ (List.mem_append_right _ (.tail _ hp)))))⟩
      rotate_left
      · rcases List.mem_append.mp hp with hp | hp
        · exact .tail _ (.tail _ (.tail _ (List.mem_append_left _ hp)))
        · rcases List.mem_cons.mp hp with rfl | hp
          · exact .head _
          · exact .tail _ (.tail _ (.tail _ (List.mem_append_right _ (.tail _ hp))))
      · have hnm : rowMet T9 ss ts = true := hks.mp (List.isEmpty_iff.mp hb)
        rw [htk, List.any_append]
        simp [hnm]
  · rintro m₁ news₁ h₁ tk₁ ⟨d, dvs, n, u', rfl, rfl, hdv, hdn⟩ F' N'
    have hall : rows.take (List.toArray rvs).size = rows := by
      apply List.take_of_length_le
      simp [hrw.1]
    rw [hall] at hdv
    exact ret d dvs n _ h₁ tk₁ (fr_as F' (map_over (by rfl) (map_over (by rfl) (map_over (by rfl) (map_over (by rfl) rfl))))) N' hdv hdn
end

/- part W3 -/
section
theorem primeW3 : (PySem.Challenge.rw_pq0615_01, Mine.hd.heap_39) = (PySem.Challenge.rw_pq0615_01, Mine.hd.heap_39) := by
  k_fill
  rfl
theorem wordsW30 : True := by
  k_with_none
  w_top off
  k_with "k_mem" => ((refine' mem_of ?_; ktr_member))
  k_with "Sub" => (first | exact Sub.refl | (refine Sub.cons ?_; walk_at "Sub") | (refine Sub.app ?_; walk_at "Sub") | fail "Sub")
  k_with "SubL" => (first | exact sub_refl | (refine sub_cons ?_; walk_at "SubL") | (refine sub_app ?_; walk_at "SubL") | fail "SubL")
  k_with "Lt" => (first | assumption | exact allLt_of (by assumption) | ((try simp only [AllLt, and_true]); assumption) | fail "Lt")
  k_with "Grown" => (first | exact Grown.refl | assumption | (refine Grown.cons ?_ rfl ?_; rotate_left; walk_at "Lt"; walk_at "Grown") | (refine Grown.app ?_ (by assumption) (by assumption); walk_at "Grown") | fail "Grown")
  k_with "Rel" => (first | assumption | exact CondIn.mono (by assumption) (by walk_at "Sub") | exact TrIn.mono (by assumption) (by walk_at "Sub") | exact RefIn.mono (by assumption) (by walk_at "Sub") | exact NumIn.mono (by assumption) (by walk_at "Sub") | exact SubjIn.mono (by assumption) (by walk_at "Sub") | exact ThingIn.mono (by assumption) (by walk_at "Sub") | walk_at "RelCon")
  k_with "RelCon" => (first | (apply TrIn.mk; k_mem) | (apply CondIn.eq; k_mem; walk_at "Rel"; walk_at "Rel") | (apply CondIn.le; k_mem; walk_at "Rel"; walk_at "Rel") | (apply CondIn.ge; k_mem; walk_at "Rel"; walk_at "Rel") | (apply CondIn.and; k_mem; walk_at "Rel"; walk_at "Rel") | (apply CondIn.or; k_mem; walk_at "Rel"; walk_at "Rel") | (apply CondIn.not; k_mem; walk_at "Rel") | fail "RelCon")
  k_with "MyItem" => ((
   (with_reducible show wpAny _ _ (subscriptTail _ _ (Value.ref _) (Value.int _ _)) _ _ _)
   k_here
   k_dflt (first
     | (refine' item_tupleT ?mtA ?mtB ?mtC ?mtD ?mtE ?_; (case mtA => (refine' News.isTup ?n9 ?m9; (case n9 => k_asm); (case m9 => k_mem))); (case mtB => decide); (case mtC => decide); (case mtD => rfl); (case mtE => rfl); k_whole)
     | (refine' item_listT ?mlA ?mlB ?mlC ?mlD ?_; (case mlA => (refine' News.isList ?n9 ?m9; (case n9 => k_asm); (case m9 => k_mem))); (case mlB => first | decide | omega); (case mlC => first | decide | omega); (case mlD => first | rfl | exact tr_b (by assumption) | exact tr_w (by assumption)); k_whole)
     | fail "MyItem")))
  k_with "subscriptTail Name Constant ref int" => (walk_at "MyItem")
  k_with "subscriptTail Name" => (walk_at "MyItem")
  k_with "subscriptTail Subscript" => (walk_at "MyItem")
  k_with "ite" => ((k_closed; first | (refine ite_pos (by decide +kernel) ?_) | (refine ite_neg (by decide +kernel) ?_)))
  k_with "ite" => (first | with_reducible refine if_t ?_ | with_reducible refine if_f ?_)
  k_with "subscriptTail Subscript" => ((
   (with_reducible show wpAny _ _ (subscriptTail _ (Expr.Slice (some _) none none _) (Value.str _ _) _) _ _ _)
   (with_reducible rename Fr _ _ _ _ => F')
   (with_reducible rename News _ _ _ _ => N')
   (refine slice_strN_sn (hsz := ?hsz) (s := ⟨_, _, _, _, _⟩) F' N' ?_)
   (case hsz => size_fits)
   intro _ _ _ _ _))
  k_with "units_room" => (ktr_units)
  k_with "compareOp Eq ref ref" => ((
   (with_reducible show wpAny _ _ (compareOp CmpOp.Eq (Value.ref _) (Value.ref _)) _ _ _)
   k_here
   k_dflt (refine' eq_ref_num ?erA ?erB ?erC ?erD ?_; (case erA => k_asm); (case erB => walk_at "Rel"); (case erC => walk_at "Rel"); (case erD => ktr_units); k_whole)))
  k_with "call type:int" => ((
   (with_reducible show wpAny _ _ (call (Value.type "int") [Value.str (PySem.Txt.slice (wname _) _ _) _]) _ _ _)
   refine KIN.call_text (wname_int (by assumption)) (wname_slen _) ?_))
  k_with "call type:int" => ((
   (with_reducible show wpAny _ _ (call (Value.type "int") [Value.str (PySem.Txt.slice (cname _) _ _) _]) _ _ _)
   refine KIN.call_text (cname_int (by assumption)) (cname_slen _) ?_))
  k_with "MyFor" => ((k_here; (rename Fr _ _ _ _ => lF'); (with_unfolding_all refine' For_turns lF' ?_; k_whole)))
  k_with "exec For Tuple Call cons nil" => (walk_at "MyFor")
  k_with "exec For Tuple Subscript cons nil" => (walk_at "MyFor")
  k_with "exec For Name Name cons nil" => (walk_at "MyFor")
  k_with "exec For Name Call cons nil" => (walk_at "MyFor")
  k_with "k_ne" => (first | assumption | exact ne_new (by assumption) (by k_mem) | exact Ne.symm (by assumption) | exact Ne.symm (ne_new (by assumption) (by k_mem)))
  k_with "Lt" => (first | exact allLt_of (by assumption) | exact allLt_congr (by assumption) (by first | rfl | simp only [List.map_cons, List.map_append]))
  k_with "k_all" => (first | assumption | exact List.forall_mem_nil _ | (apply fresh_ne; assumption; k_mem) | (refine' List.forall_mem_append.mpr ⟨?_, ?_⟩; k_all; k_all) | (refine' List.forall_mem_cons.mpr ⟨?_, ?_⟩; k_ne; k_all))
  k_with "k_updF" => ((apply updF_app; k_all; k_updF))
  k_with "k_mem" => ((refine' mem_app_l ?_; k_mem))
  k_with "k_mem" => ((refine' mem_app_r ?_; k_mem))
  k_with "call ref" => ((
   (with_reducible show wpAny _ _ (call (Value.ref 77) _) _ _ _)
   k_here
   k_dflt (refine' draw_walk ?d1 ?d2 ?kB ?kF ?kX ?kN ?kU ?kc ?kT ?kK ?kp ?kco ?kk ?kd ?ku ?_; (case d1 => decide); (case d2 => decide); (case kB => k_asm); (case kF => k_asm); (case kX => k_asm); (case kN => k_asm); (case kU => k_updF); (case kco => assumption); (case kc => k_mem); (case kT => k_asm); (case kK => first | exact rfl | assumption); (case kp => k_asm); (case kk => omega); (case kd => ktr_room); (case ku => ktr_units))
   intro j9 t9 po9 h9 tk9 j0 j1 hp9 F9 N9
   (try dsimp only at N9)
   (try dsimp only)
   (try k_fold)))
  k_with "call ref" => ((
   (with_reducible show wpAny _ _ (call (Value.ref 84) _) _ _ _)
   k_here
   k_dflt (refine' simple_walk ?kB ?kF ?kX ?kN ?kU ?kc ?kT ?kK ?kp ?kco ?kk ?kd ?ku ?_; (case kB => k_asm); (case kF => k_asm); (case kX => k_asm); (case kN => k_asm); (case kU => k_updF); (case kco => assumption); (case kc => k_mem); (case kT => k_asm); (case kK => first | exact rfl | assumption); (case kp => k_asm); (case kk => omega); (case kd => ktr_room); (case ku => ktr_units))
   intro r9 c9 po9 tl9 h9 tk9 S9 hp9 F9 N9 A9 W9 C9
   (try dsimp only at N9 W9 C9)
   (try dsimp only)
   (try k_fold)))
  k_with "call builtin:list.append" => ((
   (with_reducible show wpAny _ _ (call (Value.builtin "list.append") [Value.ref _, _]) _ _ _)
   k_here
   k_dflt (refine' append_led ?aF ?aN ?aU ?aZ ?_; (case aF => k_asm); (case aN => k_asm); (case aU => k_updF); (case aZ => assumption))
   intro h' F' N'
   (try dsimp only at N')
   (try dsimp only)
   (try k_sweep)))
  k_with "MyFor" => ((k_here; (rename Fr _ _ _ _ => lF'); (with_unfolding_all refine' For_turns lF' ?_ (hE := by first | assumption | passes_own); k_whole)))
  k_with "exec For Tuple Call cons nil" => (walk_at "MyFor")
  k_with "exec For Tuple Subscript cons nil" => (walk_at "MyFor")
  k_with "exec For Name Name cons nil" => (walk_at "MyFor")
  k_with "exec For Name Call cons nil" => (walk_at "MyFor")
  k_with "call type:range" => ((refine Hold.mk ?_))
  k_with "call type:zip" => ((refine Hold.mk ?_))
  k_with "pyIter ref" => ((refine Hold.mk ?_))
  k_with "callWith" => (((with_reducible show wpAny _ _ (callWith _ (Value.builtin "list.append") _ _ _) _ _ _); refine callWith_method1 ?_))
  k_with "Grown" => (first | (with_reducible refine Grown.cons ?_ rfl ?_; rotate_left; walk_at "Lt"; walk_at "Grown") | with_reducible exact Grown.refl | (with_reducible refine Grown.app ?_ (by assumption) (by first | assumption | exact fresh_congr (by assumption) (by simp only [List.map_cons, List.map_append])); walk_at "Grown") | fail "Grown")
  k_with "eval ListComp" => ((refine Hold.mk ?_))
  k_with "call ref" => ((
   (with_reducible show wpAny _ _ (call (Value.ref 91) _) _ _ _)
   refine Hold.mk ?_))
  k_with "exec For Name Name cons nil" => ((refine Hold.mk ?_))
  trivial
def midFor : Stmt := match loop3Body.drop 2 with
  | i :: _ => i
  | _ => .Pass ⟨0,0,0,0⟩
def WhenOk (ss : List Subj) (x : When) : Prop := x.rows ≠ [] ∧ x.rows.length ≤ 2 ∧ x.vs.length ≤ 9 ∧ RowsOk ss x.rows

theorem slice_list_rev {prog : Program} {w : World} {A : Around} {E : Value → Shared → Prop} {s : Shared} {h₀ : Heap} {L l : Addr} {m : Str → Option Value} {news : Led} {value slice : PySem.Expr} {vs : List Value} {n : Nat} {u : Tok} {ops : List Value} {Q : Value → Shared → Prop}
    (F : Fr h₀ L s.heap m) (N : News h₀ L s.heap news) (hm : (l, W.listOf (List.toArray vs) n) ∈ news) (hz : (List.toArray vs).size ≤ sizeLine)
    (h : ∀ D h', Fr h₀ L h' m → News h₀ L h' ((D, W.listOf (List.toArray vs.reverse) 0) :: news) → Above D news → Q (.ref D) { s with heap := h' })
    (hs : subscripted slice false (.ref l) (.ref s.heap.objs.size) = operate ops (getItem (.ref l) (.ref s.heap.objs.size))) (ht : ∀ r, letTemporaryGo value (.ref l) r = pure ()) :
    wpAny (model prog w) A (subscriptTail value slice (.ref l) (.ref s.heap.objs.size)) Q E { s with heap := s.heap.push { cls := .type "slice", data := .fields #[.none, .none, .int (-1) u] } } :=
  krv_lit (its := vs.toArray) (zs := vs.reverse) F N ⟨_, (N _ hm).1, rfl, _, rfl⟩ (IsPart.int _ _) rfl h hs ht hz
theorem wordsW31 : True := by
  k_with "subscriptTail Name Slice ref ref" => ((
   (with_reducible show wpAny _ _ (subscriptTail _ (PySem.Expr.Slice none none (some _) _) (Value.ref _) (Value.ref _)) _ _ _)
   k_here
   k_dflt (refine' slice_list_rev ?sfF ?sfN ?sfM ?sfZ ?_ ?sfS ?sfG; (case sfF => k_asm); (case sfN => k_asm); (case sfM => k_mem); (case sfZ => assumption); (case sfS => with_unfolding_all rfl); (case sfG => (intro _; with_unfolding_all rfl)))
   intro D9 h' F' N' l9))
  trivial
theorem mid_for {prog : Program} {w : World} {p : Program} {loose : List Str} {mean : ExcName → Option Value} {mg mb : Str → Option Value} {h₀ : Heap} {L fa : Addr} {cd : Value} {u : Str → Option Value} {s : Shared} {h : Heap} {tk : Nat} {Q : Flow → Shared → Prop} {E : Value → Shared → Prop}
   {sl D0 wl oa tb d0 : Addr} {o2 o4 : Obj} {svs wvs dvs0 : List Value} {ss : List Subj} {ws : List When} {kk kw n0 : Nat} {base : Led} {T9 : Tr}
   (hE : PassesOwn (model prog w) (callerA.deeper (envOfC (Str.ofString "law") lawScope L fa cd)) (envOfC (Str.ofString "law") lawScope L fa cd) E)
   (B : Below callerA h₀ [] h₀) (F : Fr h₀ L h (fun y => if y = Str.ofString "due" then some (.ref d0) else if y = Str.ofString "whens" then some (.ref wl) else if y = Str.ofString "others" then some (.ref oa) else if y = Str.ofString "told" then some (.ref tb) else u y)) (X : (Mine.hd.heap_39 w.params).In h₀) (T : Top p loose mean mg mb h₀)
   (N : News h₀ L h ((d0, W.listOf (List.toArray dvs0) n0) :: base)) (hsl : (sl, W.listOf (List.toArray svs) kk) ∈ base) (hwl : (wl, W.listOf (List.toArray wvs) kw) ∈ base) (hm2 : (L + 1 + 1, o2) ∈ base) (hm4 : (L + 1 + 1 + 1 + 1, o4) ∈ base)
   (d2 : o2.data = .cell (some (.ref sl))) (d4 : o4.data = .cell (some (.ref D0))) (hT : TrIn base (.ref D0) T9) (hS : AllIn (SubjIn base) svs ss) (hW : AllIn (WhenIn base) wvs ws) (hl3 : ss.length ≤ 3) (hok : ∀ x ∈ ws, WhenOk ss x) (hw3 : ws.length ≤ 3) (hsim : ∀ S ∈ ss, simpleS S) (hd0 : ∀ p ∈ base, p.1 ≠ d0)
   (ret : ∀ d dvs n (u' : Str → Option Value) h' tk', Fr h₀ L h' (fun y => if y = Str.ofString "due" then some (.ref d) else if y = Str.ofString "whens" then some (.ref wl) else if y = Str.ofString "others" then some (.ref oa) else if y = Str.ofString "told" then some (.ref tb) else u' y) → News h₀ L h' ((d, W.listOf (List.toArray dvs) n) :: base) → dvs = dueOf T9 ss dvs0 ws → (∀ p ∈ base, p.1 ≠ d) → Q .next { s with heap := h', toks := tk' }) :
   wpAny (model prog w) (callerA.deeper (envOfC (Str.ofString "law") lawScope L fa cd)) (exec midFor (envOfC (Str.ofString "law") lawScope L fa cd)) Q E { s with heap := h, toks := tk } := by
  conv in midFor => whnf
  conv in (occs := *) lawScope => all_goals whnf
  have hE' := hE
  conv at hE in (occs := *) lawScope => all_goals whnf
  have hz : (List.toArray wvs).size ≤ sizeLine := by rw [List.size_toArray, hW.1]; exact Nat.le_trans hw3 (by decide)
  have hWr : AllIn (WhenIn base) wvs.reverse ws.reverse := hW.rev
  k_steps
  refine Hold.of ?_
  (rename Fr _ _ _ _ => lF')
  (rename News _ _ _ _ => lN')
  (rename Above _ _ => l9)
  rename Addr => R
  have lN0 := newsSub (l' := (d0, W.listOf (List.toArray dvs0) n0) :: (R, W.listOf (List.toArray wvs.reverse) 0) :: base) lN' (fun p hp => by
    rcases List.mem_cons.mp hp with rfl | hp
    · exact .tail _ (.head _)
    · rcases List.mem_cons.mp hp with rfl | hp
      · exact .head _
      · exact .tail _ (.tail _ hp))
  refine Mine.for_src true rfl lF' lN0 (List.Mem.tail _ (List.Mem.head _)) ⟨rfl, _, rfl⟩
    (fun i m l => ∃ d dvs n, ∃ u' : Str → Option Value, m = (fun y => if y = Str.ofString "due" then some (.ref d) else if y = Str.ofString "whens" then some (.ref wl) else if y = Str.ofString "others" then some (.ref oa) else if y = Str.ofString "told" then some (.ref tb) else u' y) ∧ l = (d, W.listOf (List.toArray dvs) n) :: (R, W.listOf (List.toArray wvs.reverse) 0) :: base ∧ dvs = dueOf T9 ss dvs0 (ws.reverse.take i).reverse ∧ (∀ p ∈ base, p.1 ≠ d) ∧ (@Ne Nat R d)) ?_ ?_ ?_
  · exact ⟨d0, dvs0, n0, _, map_over (by rfl) (map_over (by rfl) (map_over (by rfl) (map_over (by rfl) rfl))), rfl, rfl, hd0, (Nat.ne_of_lt (l9 _ (.head _))).symm⟩
  · clear lF' lN' lN0
    rintro i v9 m₁ news₁ h₁ tk₁ its hv9 ⟨d, dvs, n, u', rfl, rfl, hdv, hdn, hRd⟩ hm1 hidle hap F' N'
    obtain ⟨x9, ex9, a9, ra9, ro9, rvs9, sv9, rfl, hw1, hw2, hw3, hw4, ⟨st9, sto9, rfl, hst1, hst2⟩, hw6⟩ := hWr.at hv9
    have hmem : x9 ∈ ws := List.mem_reverse.mp (List.mem_of_getElem? ex9)
    obtain ⟨ho1, ho2, ho3, ho4⟩ := hok x9 hmem
    have hstep : (ws.reverse.take (i + 1)).reverse = x9 :: (ws.reverse.take i).reverse := by rw [List.take_add_one, ex9]; simp
    have hb : ∀ p ∈ base, p ∈ its ++ (R, W.listOf (List.toArray wvs.reverse) 0) :: base := fun p hp => List.mem_append_right _ (.tail _ hp)
    k_steps
    refine Hold.of ?_
    (rename Fr _ _ _ _ => lF')
    (rename News _ _ _ _ => lN')
    have N2 := newsSub (l' := (d, W.listOf (List.toArray dvs) n) :: (its ++ (R, W.listOf (List.toArray wvs.reverse) 0) :: base)) lN' (fun p hp => by
      simp only [List.mem_append, List.mem_cons] at hp ⊢
      rcases hp with h | h | h | h <;> simp [h])
    with_unfolding_all refine' inner_for (base := its ++ (R, W.listOf (List.toArray wvs.reverse) 0) :: base) (T9 := T9) hE' B lF' X T N2 (hb _ hsl) (hb _ hw2) hw3 (hb _ hm2) (hb _ hm4) d2 d4 (hT.mono hb) (hS.imp fun v x h => h.mono (Sub.of hb)) (hw4.imp fun v x h => h.mono hb) hl3 ho4 hsim (hb _ hst1) hst2 ho3 ?_ ?_
    · intro p hp
      rcases List.mem_append.mp hp with hp | hp
      · exact (hap _ (.head _) p hp).symm
      · rcases List.mem_cons.mp hp with rfl | hp
        · exact hRd
        · exact hdn p hp
    intro d2' dvs2 n2 u2 h2 tk2 F2 N3 e2 hd2
    k_steps
    refine ⟨_, _, _, (d2', W.listOf (List.toArray dvs2) n2) :: (R, W.listOf (List.toArray wvs.reverse) 0) :: base, rfl, F2, newsSub N3 (fun p hp => ?_), List.forall_mem_cons.mpr ⟨fun q hq => (hd2 q (List.mem_append_left _ hq)).symm, fun p hp => hap p (.tail _ hp)⟩, keep1 (.tail _ (.head _)), d2', dvs2, n2, _, map_over (by rfl) (map_over (by rfl) (map_over (by rfl) (map_over (by rfl) rfl))), rfl, ?_, fun p hp => hd2 p (hb p hp), hd2 _ (List.mem_append_right _ (.head _))⟩
    · simp only [List.mem_append, List.mem_cons] at hp ⊢
      rcases hp with h | h | h | h <;> simp [h]
    · rw [hstep, e2, hdv]; rfl
  · rintro m₁ news₁ h₁ tk₁ ⟨d, dvs, n, u', rfl, rfl, hdv, hdn, hRd⟩ F' N'
    have hall : (ws.reverse.take (List.toArray wvs.reverse).size).reverse = ws := by
      rw [List.take_of_length_le (by simp [hW.1]), List.reverse_reverse]
    rw [hall] at hdv
    refine ret d dvs n _ h₁ tk₁ F' (newsSub N' fun p hp => ?_) hdv hdn
    rcases List.mem_cons.mp hp with rfl | hp
    · exact .head _
    · exact .tail _ (.tail _ hp)
end

/- part N3 -/
section
theorem primeN3 : (PySem.Challenge.rw_pq0615_01, Mine.hd.heap_39) = (PySem.Challenge.rw_pq0615_01, Mine.hd.heap_39) := by
  k_fill
  rfl
def mk9 (i : Int) : PyData := .tuple [.str (Str.ofString "mark"), .int i]
theorem marks_reads {h₀ h : Heap} {L : Addr} {news : Led} (N : News h₀ L h news) : ∀ {vs : List Value}, MarksIn news vs → ∃ (is : List Int) (as : List Addr), ReadsAll h vs (is.map mk9) as ∧ is.length = vs.length
  | [], _ => ⟨[], [], ReadsAll.nil, rfl⟩
  | v :: r, hM => by
    obtain ⟨is, as, hr, hl⟩ := marks_reads N (vs := r) fun x hx => hM x (.tail _ hx)
    obtain ⟨a, t, i, t', rfl, hm⟩ := hM v (.head _)
    have h1 := reads_tuple_at (N.get hm) rfl rfl (ReadsAll.cons (Reads.str (Str.ofString "mark") t) (ReadsAll.cons (Reads.int i t') ReadsAll.nil))
    exact ⟨i :: is, _, ReadsAll.cons h1 hr, by simp [hl]⟩
theorem mk9_lay : ∀ is : List Int, PyData.canLayAll0 (is.map mk9) = true
  | [] => rfl
  | i :: r => by
    simp only [List.map_cons, mk9, PyData.canLay0, PyData.canLayAll0, (by decide +kernel : PyData.strOk (Str.ofString "mark") = true), mk9_lay r, Bool.and_self]
theorem mk9_depth : ∀ is : List Int, PyData.depthAll (is.map mk9) ≤ 4
  | [] => Nat.zero_le _
  | i :: r => by
    have := mk9_depth r
    simp only [List.map_cons, mk9, PyData.depth, PyData.depthAll]
    have : max (max 0 (max 0 0) + 1) (PyData.depthAll (List.map mk9 r)) ≤ 4 := by omega
    first | exact this | (simp at this ⊢; omega)
theorem mk9_eqv : ∀ is : List Int, PyData.eqvAll (is.map mk9) (is.map mk9) = true
  | [] => rfl
  | i :: r => by simp [mk9, PyData.eqvAll, PyData.eqv, mk9_eqv r]
theorem ne_marks {prog : Program} {w : World} {A : Around} {E : Value → Shared → Prop} {s : Shared} {h₀ : Heap} {L D D' : Addr} {news : Led} {vs : List Value} {n n' : Nat} {Q : Value → Shared → Prop} (N : News h₀ L s.heap news) (hm : (D, W.listOf (List.toArray vs) n) ∈ news) (hm' : (D', W.listOf (List.toArray vs) n') ∈ news) (hM : MarksIn news vs) (hu : A.units + 64 < cLine)
    (h : Q (.bool false) s) : wpAny (model prog w) A (compareOp .NotEq (.ref D) (.ref D')) Q E s := by
  obtain ⟨is, as, hr, hl⟩ := marks_reads N hM
  have hsh : SeqAt.shaped (.list (is.map mk9)) = true := by
    have h1 := mk9_lay is
    have h2 := mk9_depth is
    refine Bool.and_eq_true_iff.mpr ⟨h1, decide_eq_true ?_⟩
    simp only [PyData.depth]
    omega
  refine ne_dataH (reads_list_at (N.get hm) rfl rfl hr) (reads_list_at (N.get hm') rfl rfl hr) hsh hsh hu ?_
  have he : PyData.eqv (.list (is.map mk9)) (.list (is.map mk9)) = true := mk9_eqv is
  rw [he]
  exact h
end

/- part X3 -/
section
theorem primeX3 : (PySem.Challenge.rw_pq0615_01, Mine.hd.heap_39) = (PySem.Challenge.rw_pq0615_01, Mine.hd.heap_39) := by
  k_fill
  rfl

theorem wordsX30 : True := by
  k_with_none
  w_top off
  k_with "k_mem" => ((refine' mem_of ?_; ktr_member))
  k_with "Sub" => (first | exact Sub.refl | (refine Sub.cons ?_; walk_at "Sub") | (refine Sub.app ?_; walk_at "Sub") | fail "Sub")
  k_with "SubL" => (first | exact sub_refl | (refine sub_cons ?_; walk_at "SubL") | (refine sub_app ?_; walk_at "SubL") | fail "SubL")
  k_with "Lt" => (first | assumption | exact allLt_of (by assumption) | ((try simp only [AllLt, and_true]); assumption) | fail "Lt")
  k_with "Grown" => (first | exact Grown.refl | assumption | (refine Grown.cons ?_ rfl ?_; rotate_left; walk_at "Lt"; walk_at "Grown") | (refine Grown.app ?_ (by assumption) (by assumption); walk_at "Grown") | fail "Grown")
  k_with "Rel" => (first | assumption | exact CondIn.mono (by assumption) (by walk_at "Sub") | exact TrIn.mono (by assumption) (by walk_at "Sub") | exact RefIn.mono (by assumption) (by walk_at "Sub") | exact NumIn.mono (by assumption) (by walk_at "Sub") | exact SubjIn.mono (by assumption) (by walk_at "Sub") | exact ThingIn.mono (by assumption) (by walk_at "Sub") | walk_at "RelCon")
  k_with "RelCon" => (first | (apply TrIn.mk; k_mem) | (apply CondIn.eq; k_mem; walk_at "Rel"; walk_at "Rel") | (apply CondIn.le; k_mem; walk_at "Rel"; walk_at "Rel") | (apply CondIn.ge; k_mem; walk_at "Rel"; walk_at "Rel") | (apply CondIn.and; k_mem; walk_at "Rel"; walk_at "Rel") | (apply CondIn.or; k_mem; walk_at "Rel"; walk_at "Rel") | (apply CondIn.not; k_mem; walk_at "Rel") | fail "RelCon")
  k_with "MyItem" => ((
   (with_reducible show wpAny _ _ (subscriptTail _ _ (Value.ref _) (Value.int _ _)) _ _ _)
   k_here
   k_dflt (first
     | (refine' item_tupleT ?mtA ?mtB ?mtC ?mtD ?mtE ?_; (case mtA => (refine' News.isTup ?n9 ?m9; (case n9 => k_asm); (case m9 => k_mem))); (case mtB => decide); (case mtC => decide); (case mtD => rfl); (case mtE => rfl); k_whole)
     | (refine' item_listT ?mlA ?mlB ?mlC ?mlD ?_; (case mlA => (refine' News.isList ?n9 ?m9; (case n9 => k_asm); (case m9 => k_mem))); (case mlB => first | decide | omega); (case mlC => first | decide | omega); (case mlD => first | rfl | exact tr_b (by assumption) | exact tr_w (by assumption)); k_whole)
     | fail "MyItem")))
  k_with "subscriptTail Name Constant ref int" => (walk_at "MyItem")
  k_with "subscriptTail Name" => (walk_at "MyItem")
  k_with "subscriptTail Subscript" => (walk_at "MyItem")
  k_with "ite" => ((k_closed; first | (refine ite_pos (by decide +kernel) ?_) | (refine ite_neg (by decide +kernel) ?_)))
  k_with "ite" => (first | with_reducible refine if_t ?_ | with_reducible refine if_f ?_)
  k_with "subscriptTail Subscript" => ((
   (with_reducible show wpAny _ _ (subscriptTail _ (Expr.Slice (some _) none none _) (Value.str _ _) _) _ _ _)
   (with_reducible rename Fr _ _ _ _ => F')
   (with_reducible rename News _ _ _ _ => N')
   (refine slice_strN_sn (hsz := ?hsz) (s := ⟨_, _, _, _, _⟩) F' N' ?_)
   (case hsz => size_fits)
   intro _ _ _ _ _))
  k_with "units_room" => (ktr_units)
  k_with "compareOp Eq ref ref" => ((
   (with_reducible show wpAny _ _ (compareOp CmpOp.Eq (Value.ref _) (Value.ref _)) _ _ _)
   k_here
   k_dflt (refine' eq_ref_num ?erA ?erB ?erC ?erD ?_; (case erA => k_asm); (case erB => walk_at "Rel"); (case erC => walk_at "Rel"); (case erD => ktr_units); k_whole)))
  k_with "call type:int" => ((
   (with_reducible show wpAny _ _ (call (Value.type "int") [Value.str (PySem.Txt.slice (wname _) _ _) _]) _ _ _)
   refine KIN.call_text (wname_int (by assumption)) (wname_slen _) ?_))
  k_with "call type:int" => ((
   (with_reducible show wpAny _ _ (call (Value.type "int") [Value.str (PySem.Txt.slice (cname _) _ _) _]) _ _ _)
   refine KIN.call_text (cname_int (by assumption)) (cname_slen _) ?_))
  k_with "MyFor" => ((k_here; (rename Fr _ _ _ _ => lF'); (with_unfolding_all refine' For_turns lF' ?_; k_whole)))
  k_with "exec For Tuple Call cons nil" => (walk_at "MyFor")
  k_with "exec For Tuple Subscript cons nil" => (walk_at "MyFor")
  k_with "exec For Name Name cons nil" => (walk_at "MyFor")
  k_with "exec For Name Call cons nil" => (walk_at "MyFor")
  k_with "k_ne" => (first | assumption | exact ne_new (by assumption) (by k_mem) | exact Ne.symm (by assumption) | exact Ne.symm (ne_new (by assumption) (by k_mem)))
  k_with "Lt" => (first | exact allLt_of (by assumption) | exact allLt_congr (by assumption) (by first | rfl | simp only [List.map_cons, List.map_append]))
  k_with "k_all" => (first | assumption | exact List.forall_mem_nil _ | (apply fresh_ne; assumption; k_mem) | (refine' List.forall_mem_append.mpr ⟨?_, ?_⟩; k_all; k_all) | (refine' List.forall_mem_cons.mpr ⟨?_, ?_⟩; k_ne; k_all))
  k_with "k_updF" => ((apply updF_app; k_all; k_updF))
  k_with "k_mem" => ((refine' mem_app_l ?_; k_mem))
  k_with "k_mem" => ((refine' mem_app_r ?_; k_mem))
  k_with "call ref" => ((
   (with_reducible show wpAny _ _ (call (Value.ref 77) _) _ _ _)
   k_here
   k_dflt (refine' draw_walk ?d1 ?d2 ?kB ?kF ?kX ?kN ?kU ?kc ?kT ?kK ?kp ?kco ?kk ?kd ?ku ?_; (case d1 => decide); (case d2 => decide); (case kB => k_asm); (case kF => k_asm); (case kX => k_asm); (case kN => k_asm); (case kU => k_updF); (case kco => assumption); (case kc => k_mem); (case kT => k_asm); (case kK => first | exact rfl | assumption); (case kp => k_asm); (case kk => omega); (case kd => ktr_room); (case ku => ktr_units))
   intro j9 t9 po9 h9 tk9 j0 j1 hp9 F9 N9
   (try dsimp only at N9)
   (try dsimp only)
   (try k_fold)))
  k_with "call ref" => ((
   (with_reducible show wpAny _ _ (call (Value.ref 84) _) _ _ _)
   k_here
   k_dflt (refine' simple_walk ?kB ?kF ?kX ?kN ?kU ?kc ?kT ?kK ?kp ?kco ?kk ?kd ?ku ?_; (case kB => k_asm); (case kF => k_asm); (case kX => k_asm); (case kN => k_asm); (case kU => k_updF); (case kco => assumption); (case kc => k_mem); (case kT => k_asm); (case kK => first | exact rfl | assumption); (case kp => k_asm); (case kk => omega); (case kd => ktr_room); (case ku => ktr_units))
   intro r9 c9 po9 tl9 h9 tk9 S9 hp9 F9 N9 A9 W9 C9
   (try dsimp only at N9 W9 C9)
   (try dsimp only)
   (try k_fold)))
  k_with "call builtin:list.append" => ((
   (with_reducible show wpAny _ _ (call (Value.builtin "list.append") [Value.ref _, _]) _ _ _)
   k_here
   k_dflt (refine' append_led ?aF ?aN ?aU ?aZ ?_; (case aF => k_asm); (case aN => k_asm); (case aU => k_updF); (case aZ => assumption))
   intro h' F' N'
   (try dsimp only at N')
   (try dsimp only)
   (try k_sweep)))
  k_with "MyFor" => ((k_here; (rename Fr _ _ _ _ => lF'); (with_unfolding_all refine' For_turns lF' ?_ (hE := by first | assumption | passes_own); k_whole)))
  k_with "exec For Tuple Call cons nil" => (walk_at "MyFor")
  k_with "exec For Tuple Subscript cons nil" => (walk_at "MyFor")
  k_with "exec For Name Name cons nil" => (walk_at "MyFor")
  k_with "exec For Name Call cons nil" => (walk_at "MyFor")
  k_with "call type:range" => ((refine Hold.mk ?_))
  k_with "call type:zip" => ((refine Hold.mk ?_))
  k_with "pyIter ref" => ((refine Hold.mk ?_))
  k_with "callWith" => (((with_reducible show wpAny _ _ (callWith _ (Value.builtin "list.append") _ _ _) _ _ _); refine callWith_method1 ?_))
  k_with "Grown" => (first | (with_reducible refine Grown.cons ?_ rfl ?_; rotate_left; walk_at "Lt"; walk_at "Grown") | with_reducible exact Grown.refl | (with_reducible refine Grown.app ?_ (by assumption) (by first | assumption | exact fresh_congr (by assumption) (by simp only [List.map_cons, List.map_append])); walk_at "Grown") | fail "Grown")
  k_with "eval ListComp" => ((refine Hold.mk ?_))
  k_with "call ref" => ((
   (with_reducible show wpAny _ _ (call (Value.ref 91) _) _ _ _)
   refine Hold.mk ?_))
  k_with "exec For Tuple Subscript cons nil" => ((refine Hold.mk ?_))
  k_with "eval BinOp" => ((refine Hold.mk ?_))
  k_with "compareOp NotEq ref ref" => ((refine Hold.mk ?_))
  k_with "call ref" => ((
   (with_reducible show wpAny _ _ (call (Value.ref 112) _) _ _ _)
   refine Hold.mk ?_))
  k_with "call type:list" => ((
   (with_reducible show wpAny _ _ (call (Value.type "list") [Value.ref _]) _ _ _)
   refine Hold.mk ?_))
  trivial
theorem due_marks {T : Tr} {ss : List Subj} {rest : Led} {others : List Value} (ho : MarksIn rest others) (hn : others.length ≤ 9) : ∀ {ws : List When}, (∀ x ∈ ws, MarksIn rest x.vs ∧ x.vs.length ≤ 9) → MarksIn rest (dueOf T ss others ws) ∧ (dueOf T ss others ws).length ≤ 9
  | [], _ => ⟨ho, hn⟩
  | x :: r, h => by
    simp only [dueOf]
    split
    · exact h x (.head _)
    · exact due_marks ho hn fun y hy => h y (.tail _ hy)

theorem loop3 {prog : Program} {w : World} {p : Program} {loose : List Str} {mean : ExcName → Option Value} {mg mb : Str → Option Value} {h₀ : Heap} {L fa : Addr} {cd : Value} {u : Str → Option Value} {s : Shared} {h : Heap} {tk : Nat} {Q : Flow → Shared → Prop} {E : Value → Shared → Prop}
   {pa ca sl wl oa tb : Addr} {po co o1 o2 o3 o4 oo : Obj} {svs wvs others vs : List Value} {ss : List Subj} {ws : List When} {kk kw : Nat} {rest : Led} {c : Cond} {r : Stms}
   (hE : PassesOwn (model prog w) (callerA.deeper (envOfC (Str.ofString "law") lawScope L fa cd)) (envOfC (Str.ofString "law") lawScope L fa cd) E)
   (B : Below callerA h₀ [] h₀) (F : Fr h₀ L h (fun y => if y = Str.ofString "whens" then some (.ref wl) else if y = Str.ofString "others" then some (.ref oa) else if y = Str.ofString "told" then some (.ref tb) else u y)) (X : (Mine.hd.heap_39 w.params).In h₀) (T : Top p loose mean mg mb h₀)
   (N : News h₀ L h ((wl, W.listOf (List.toArray wvs) kw) :: (sl, W.listOf (List.toArray svs) kk) :: (pa, po) :: (ca, co) :: (L + 1 + 1 + 1 + 1, o4) :: (L + 1 + 1 + 1, o3) :: (L + 1 + 1, o2) :: (L + 1, o1) :: rest))
   (d1 : o1.data = .cell (some (.ref pa))) (d2 : o2.data = .cell (some (.ref sl))) (d3 : isCell o3) (d4 : isCell o4) (hp : PenOk ca 400 po) (hco : CellsOk co) (i1 : @LT.lt Nat _ (L + 1 + 1 + 1 + 1) ca) (i2 : @LT.lt Nat _ ca pa) (i3 : @LT.lt Nat _ pa sl) (i4 : @LT.lt Nat _ sl wl)
   (hrest : AllTup rest) (hoff : Off L rest) (hS : AllIn (SubjIn rest) svs ss) (hW : AllIn (WhenIn rest) wvs ws) (hl3 : ss.length ≤ 3) (hok : ∀ x ∈ ws, WhenOk ss x) (hw3 : ws.length ≤ 3) (hsim : ∀ S ∈ ss, simpleS S)
   (hoa : (oa, oo) ∈ rest) (hoo : SrcO false oo (List.toArray others)) (hom : MarksIn rest others) (hon : others.length ≤ 9) (hI : IfIn rest (.ref tb) c vs r) (hmarks : ∀ T, (Stms.iff c vs r).marks T = dueOf T ss others ws) (hok1 : (Stms.iff c vs r).ok) (hsz : (Stms.iff c vs r).size ≤ 9)
   (ret : ∀ m' h' tk' all, Fr h₀ L h' m' → News h₀ L h' all → Q .next { s with heap := h', toks := tk' }) :
   wpAny (model prog w) (callerA.deeper (envOfC (Str.ofString "law") lawScope L fa cd)) (exec (lawStmt 7) (envOfC (Str.ofString "law") lawScope L fa cd)) Q E { s with heap := h, toks := tk } := by
  conv in lawStmt 7 => whnf
  conv in (occs := *) lawScope => all_goals whnf
  have hE' := hE
  conv at hE in (occs := *) lawScope => all_goals whnf
  have e1 : ∀ p ∈ rest, p.1 ≠ pa := tup_ne N (.tail _ (.tail _ (.head _))) hp.cls (by decide) (fun p hp => .tail _ (.tail _ (.tail _ (.tail _ (.tail _ (.tail _ (.tail _ (.tail _ hp)))))))) hrest
  have e3 : ∀ p ∈ rest, p.1 ≠ L + 1 + 1 + 1 := fun p hp => (hoff p hp).1
  have e4 : ∀ p ∈ rest, p.1 ≠ L + 1 + 1 + 1 + 1 := fun p hp => (hoff p hp).2
  obtain ⟨n1, n2, n3, n4, n5, n6⟩ := nesP i1 i2 i3
  obtain ⟨m1, m2, m3, m4, m5, m6, m7, m8⟩ := nesW i1 i2 i3 i4
  obtain ⟨c1, c2, c3, c4, c5, c6, c7⟩ := nesC i1 i2 i3 i4
  obtain ⟨q1, q2, q3, q4, q5, q6, q7⟩ := nesD i1 i2 i3 i4
  have hwm : ∀ x ∈ ws, MarksIn rest x.vs ∧ x.vs.length ≤ 9 := fun x hx => by
    obtain ⟨i, hi⟩ := List.mem_iff_getElem?.mp hx
    have hlt : i < wvs.length := hW.1 ▸ (List.getElem?_eq_some_iff.mp hi).1
    obtain ⟨a, ra, ro, rvs, sv, _, _, _, _, _, _, h6⟩ := hW.2 i wvs[i] x (List.getElem?_eq_getElem hlt) hi
    exact ⟨h6, (hok x hx).2.2.1⟩
  k_steps
  refine Hold.of ?_
  (rename Fr _ _ _ _ => lF')
  (rename News _ _ _ _ => lN')
  refine Mine.for_range (n := 6) rfl (by decide) rfl (fun _ _ => rfl) lF' lN'
    (fun i m l => ∃ po' o3' o4', ∃ u' : Str → Option Value, m = (fun y => if y = Str.ofString "whens" then some (.ref wl) else if y = Str.ofString "others" then some (.ref oa) else if y = Str.ofString "told" then some (.ref tb) else u' y) ∧ l = (wl, W.listOf (List.toArray wvs) kw) :: (sl, W.listOf (List.toArray svs) kk) :: (pa, po') :: (ca, co) :: (L + 1 + 1 + 1 + 1, o4') :: (L + 1 + 1 + 1, o3') :: (L + 1 + 1, o2) :: (L + 1, o1) :: rest ∧ PenOk ca (400 + 3 * (i : Int)) po' ∧ isCell o3' ∧ isCell o4') ?_ ?_ ?_
  · exact ⟨_, _, _, _, rfl, rfl, hp.le (by omega), d3, d4⟩
  · clear lF' lN'
    rintro i t m₁ news₁ h₁ tk₁ its hi ⟨po1, o31, o41, u', rfl, rfl, hp1, ⟨v3, d31⟩, ⟨v4, d41⟩⟩ hidle hap F' N'
    have b2 : ∀ p ∈ its, p.1 ≠ pa := fun p hp => (hap _ (.tail _ (.tail _ (.head _))) p hp).symm
    have b3 : ∀ p ∈ its, p.1 ≠ L + 1 + 1 + 1 := fun p hp => (hap (L + 1 + 1 + 1, o31) (.tail _ (.tail _ (.tail _ (.tail _ (.tail _ (.head _)))))) p hp).symm
    have b4 : ∀ p ∈ its, p.1 ≠ L + 1 + 1 + 1 + 1 := fun p hp => (hap (L + 1 + 1 + 1 + 1, o41) (.tail _ (.tail _ (.tail _ (.tail _ (.head _))))) p hp).symm
    k_steps
    refine Hold.of ?_
    (rename Fr _ _ _ _ => lF')
    (rename News _ _ _ _ => lN')
    with_unfolding_all refine' truths_expr (turn := i) (pa := pa) (ca := ca) (all' := fun o => its ++ (wl, W.listOf (List.toArray wvs) kw) :: (sl, W.listOf (List.toArray svs) kk) :: (pa, o) :: (ca, co) :: (L + 1 + 1 + 1 + 1, o41) :: (L + 1 + 1 + 1, _) :: (L + 1 + 1, o2) :: (L + 1, o1) :: rest) B lF' X T lN' ?U ?c1 ?c2 ?c3 d1 (by assumption) hi hp1 ?kk hco ?_
    case U => k_updF
    case c1 => intro o; k_mem
    case c2 => intro o; k_mem
    case c3 => intro o; k_mem
    case kk => omega
    intro D po2 h2 tk2 x0 x1 x2 x3 w0 w1 w2 t0 t1 t2 n2 hp2 F2 N2 hD
    have hD4 : @Ne Nat (L + 1 + 1 + 1 + 1) D := hD (L + 1 + 1 + 1 + 1, o41) (by k_mem)
    k_steps
    refine Hold.of ?_
    (rename Fr _ _ _ _ => lF')
    (rename News _ _ _ _ => lN')
    refine list_led lF' lN' (by k_mem) hoo hon (fun D4 c4 h4 F4 N4 l4 => ?_)
    clear lF' lN'
    k_steps
    refine Hold.of ?_
    (rename Fr _ _ _ _ => lF')
    (rename News _ _ _ _ => lN')
    with_unfolding_all refine' mid_for (T9 := ⟨bSel x0 x1 x2 x3, wSel w0 w1 w2⟩) (sl := sl) (wl := wl) hE' B lF' X T lN' ?sl ?wl ?m2 ?m4 d2 (by assumption) ?hT ?hS ?hW hl3 hok hw3 hsim (fun p hp => Nat.ne_of_lt (l4 p hp)) ?_
    case sl => k_mem
    case wl => k_mem
    case m2 => k_mem
    case m4 => k_mem
    case hT => exact TrIn.mk (by k_mem)
    case hS => exact hS.imp fun v x h => h.mono (by walk_at "Sub")
    case hW => exact hW.imp fun v x h => h.mono (by walk_at "SubL")
    intro d dvs n u2 h5 tk5 F5 N5 e5 hd5
    subst e5
    clear l4 lN' lF'
    k_steps
    refine Hold.of ?_
    (rename Fr _ _ _ _ => lF')
    (rename News _ _ _ _ => lN')
    have hlen := hsz
    k_here
    with_unfolding_all refine' marks_use (x := .iff c vs r) (T := ⟨bSel x0 x1 x2 x3, wSel w0 w1 w2⟩) B lF' X lN' T rfl ?C ?ht (marks_does _ 10 _ (by omega) hok1) ?kd ?ku ?_
    case C => exact StIn.iff (k := true) (.head _) ⟨rfl, _, rfl⟩ (hI.mono (by walk_at "SubL"))
    case ht => exact TrIn.mk (by k_mem)
    case kd => ktr_room
    case ku => ktr_units
    intro D6 c6 h6 tk6 F6 N6 hn6
    rw [hmarks] at N6
    clear lN' lF'
    k_steps
    refine Hold.of ?_
    (rename Fr _ _ _ _ => lF')
    (rename News _ _ _ _ => lN')
    refine ne_marks lN' (vs := dueOf ⟨bSel x0 x1 x2 x3, wSel w0 w1 w2⟩ ss others ws) (by k_mem) (by k_mem) ((due_marks hom hon hwm).1.mono (by walk_at "SubL")) (by ktr_units) ?_
    k_steps
    refine ⟨_, _, _, _, rfl, lF', newsSub lN' (fun p hp => .tail _ (.tail _ (.tail _ (.tail _ hp)))), ap_congr hap (by rfl), (fun p hp => nomatch hp), po2, _, _, _, map_over (by rfl) (map_over (by rfl) (map_over (by rfl) rfl)), rfl, hp2.le (by omega), ⟨_, by assumption⟩, ⟨_, by assumption⟩⟩
  · rintro m₁ news₁ h₁ tk₁ ⟨po1, o31, o41, u', rfl, rfl, hp1, d31, d41⟩ F' N'
    exact ret _ h₁ tk₁ _ F' N'
end

/- part Y2 -/
section
theorem primeY2 : (PySem.Challenge.rw_pq0615_01, Mine.hd.heap_39) = (PySem.Challenge.rw_pq0615_01, Mine.hd.heap_39) := by
  k_fill
  rfl
/-- all the tuples of the one ledger stand in the other -/
def SubT (l l' : Led) : Prop := ∀ p ∈ l, p.2.cls = .type "tuple" → (∃ vs n, p.2.data = .seq vs n) → p ∈ l'
theorem SubT.sub {l l' : Led} (h : SubT l l') : Sub l l' := fun p hp g => h p hp g.1 (by obtain ⟨_, vs, n, e, _⟩ := g; exact ⟨_, _, e⟩)
theorem TupIn.monoT {news news' : Led} {v : Value} {vs : List Value} (h : TupIn news v vs) (s : SubT news news') : TupIn news' v vs := by
  obtain ⟨a, o, rfl, hm, hs⟩ := h
  exact ⟨a, o, rfl, s _ hm hs.1 (by obtain ⟨n, e⟩ := hs.2; exact ⟨_, _, e⟩), hs⟩
theorem MarksIn.monoT {news news' : Led} {vs : List Value} (h : MarksIn news vs) (s : SubT news news') : MarksIn news' vs := fun v hv => by
  obtain ⟨a, t, i, t', rfl, hm⟩ := h v hv
  exact ⟨a, t, i, t', rfl, s _ hm rfl ⟨_, _, rfl⟩⟩
theorem IfIn.monoT_of {news news' : Led} {v : Value} {c : Cond} {vs : List Value} {rest : Stms} (h : IfIn news v c vs rest) (s : SubT news news') (k : ∀ rv, StmsIn news rv rest → StmsIn news' rv rest) : IfIn news' v c vs rest := by
  cases h with | mk h1 h2 h3 h4 h5 => exact .mk (s _ h1 rfl ⟨_, _, rfl⟩) (h2.mono s.sub) (h3.monoT s) (h4.monoT s) (k _ h5)
theorem StmsIn.monoT {news news' : Led} (s : SubT news news') : ∀ {x : Stms} {v : Value}, StmsIn news v x → StmsIn news' v x
  | .flat vs, v, h => by
    cases h with | flat h1 h2 => exact .flat (h1.monoT s) (h2.monoT s)
  | .iff c vs rest, v, h => by
    cases h with | iff h1 h2 => exact .iff (s _ h1 rfl ⟨_, _, rfl⟩) (h2.monoT_of s fun rv k => StmsIn.monoT s k)
theorem IfIn.monoT {news news' : Led} {v : Value} {c : Cond} {vs : List Value} {rest : Stms} (h : IfIn news v c vs rest) (s : SubT news news') : IfIn news' v c vs rest := h.monoT_of s fun _ k => StmsIn.monoT s k

def NoTup (o : Obj) : Prop := ¬ (o.cls = .type "tuple" ∧ ∃ vs n, o.data = .seq vs n)
theorem noTup_cell {o : Obj} (h : isCell o) : NoTup o := fun ⟨_, vs, n, e⟩ => by
  obtain ⟨v, e'⟩ := h
  rw [e'] at e
  cases e
theorem noTup_cls {o : Obj} {n : String} (h : o.cls = .type n) (hn : n ≠ "tuple") : NoTup o := fun g => by
  have := g.1
  rw [h] at this
  exact hn (Value.type.inj this)
theorem grownT {h₀ h' : Heap} {L : Addr} {fixed rest all : Led} (N : News h₀ L h' all) (G : Grown (fixed ++ rest) all) (hr : AllTup rest) (hf : ∀ q ∈ fixed, NoTup q.2) :
    ∃ X, AllTup (X ++ rest) ∧ News h₀ L h' (fixed ++ (X ++ rest)) ∧ SubT all (X ++ rest) ∧ (∀ p ∈ rest, p ∈ X ++ rest) ∧ Fresh X fixed := by
  obtain ⟨X, rfl, hX, hF⟩ := G
  refine ⟨X, hX.app hr, fun p hp => N p ?_, fun p hp h1 h2 => ?_, fun p hp => List.mem_append_right _ hp, fun p hp q hq => hF p hp q (List.mem_append_left _ hq)⟩
  · simp only [List.mem_append] at hp ⊢
    rcases hp with h | h | h <;> simp [h]
  · rcases List.mem_append.mp hp with hp | hp
    · exact List.mem_append_left _ hp
    · rcases List.mem_append.mp hp with hp | hp
      · exact absurd ⟨h1, h2⟩ (hf p hp)
      · exact List.mem_append_right _ hp

theorem rowsCond_depth {ss : List Subj} {rows : List (List Thing)} (hs : ∀ S ∈ ss, S.depth ≤ 2) (hl3 : ss.length ≤ 3) (hr : rows.length ≤ 2) (ht : ∀ r ∈ rows, ∀ t ∈ r, t.depth ≤ 2) : (rowsCond ss rows).depth ≤ 12 := by
  have one : ∀ r ∈ rows, (rowCond (ss.zip r)).depth ≤ 9 := fun r hr' => by
    have h1 := rowCond_depth (n := 2) (ps := ss.zip r) fun p hp => ⟨hs _ (List.of_mem_zip hp).1, ht r hr' _ (List.of_mem_zip hp).2⟩
    have h2 : (ss.zip r).length ≤ 3 := by rw [List.length_zip]; omega
    omega
  match rows, hr, one with
  | [], _, _ => exact (by decide : (1 : Nat) ≤ 12)
  | [r], _, one => exact Nat.le_trans (one r (.head _)) (by decide)
  | [r, q], _, one =>
    have a := one r (.head _)
    have b := one q (.tail _ (.head _))
    show max (rowCond (ss.zip r)).depth (rowCond (ss.zip q)).depth + 1 ≤ 12
    omega

theorem nest_ok {ss : List Subj} {others : List Value} (hs : ∀ S ∈ ss, simpleS S) (hl3 : ss.length ≤ 3) (hon : others.length ≤ 9) : ∀ {ws : List When}, (∀ x ∈ ws, WhenOk ss x) → (nest ss (.flat others) ws).ok
  | [], _ => hon
  | x :: r, h => by
    obtain ⟨h1, h2, h3, h4⟩ := h x (.head _)
    exact ⟨rowsCond_depth (fun S hS => simpleS_depth (hs S hS)) hl3 h2 (fun r hr t ht => simpleT_depth ((h4 r hr).2.2 t ht)), h3, nest_ok hs hl3 hon fun y hy => h y (.tail _ hy)⟩
theorem nest_size {ss : List Subj} {others : List Value} : ∀ {ws : List When}, (nest ss (.flat others) ws).size = ws.length + 1
  | [] => rfl
  | x :: r => by
    show (nest ss (.flat others) r).size + 1 = _
    rw [nest_size]; rfl
theorem told_ok {ss : List Subj} {others : List Value} (hs : ∀ S ∈ ss, simpleS S) (hl3 : ss.length ≤ 3) (hon : others.length ≤ 9) {ws : List When} (h : ∀ x ∈ ws, WhenOk ss x) (hw3 : ws.length ≤ 3) :
    (∀ T, (Stms.iff (toldOf ss others ws).1 (toldOf ss others ws).2.1 (toldOf ss others ws).2.2).marks T = dueOf T ss others ws) ∧ (Stms.iff (toldOf ss others ws).1 (toldOf ss others ws).2.1 (toldOf ss others ws).2.2).ok ∧ (Stms.iff (toldOf ss others ws).1 (toldOf ss others ws).2.1 (toldOf ss others ws).2.2).size ≤ 9 := by
  cases ws with
  | nil => exact ⟨fun T => rfl, ⟨(by decide : (1 : Nat) ≤ 12), hon, (by decide : (0 : Nat) ≤ 9)⟩, (by decide : (2 : Nat) ≤ 9)⟩
  | cons x r =>
    refine ⟨fun T => ?_, ?_, ?_⟩
    · exact nest_marks (T := T) (ss := ss) (others := others) (x :: r) fun w hw => ⟨(h w hw).1, fun q hq => ((h w hw).2.2.2 q hq).2.1⟩
    · exact nest_ok hs hl3 hon h
    · have : (nest ss (.flat others) (x :: r)).size ≤ 9 := by rw [nest_size]; omega
      exact this
end

/- part Z3 -/
section
theorem primeZ3 : (PySem.Challenge.rw_pq0615_01, Mine.hd.heap_39) = (PySem.Challenge.rw_pq0615_01, Mine.hd.heap_39) := by
  k_fill
  rfl
theorem wordsZ30 : True := by
  k_with_none
  w_top off
  k_with "k_mem" => ((refine' mem_of ?_; ktr_member))
  k_with "Sub" => (first | exact Sub.refl | (refine Sub.cons ?_; walk_at "Sub") | (refine Sub.app ?_; walk_at "Sub") | fail "Sub")
  k_with "SubL" => (first | exact sub_refl | (refine sub_cons ?_; walk_at "SubL") | (refine sub_app ?_; walk_at "SubL") | fail "SubL")
  k_with "Lt" => (first | assumption | exact allLt_of (by assumption) | ((try simp only [AllLt, and_true]); assumption) | fail "Lt")
  k_with "Grown" => (first | exact Grown.refl | assumption | (refine Grown.cons ?_ rfl ?_; rotate_left; walk_at "Lt"; walk_at "Grown") | (refine Grown.app ?_ (by assumption) (by assumption); walk_at "Grown") | fail "Grown")
  k_with "Rel" => (first | assumption | exact CondIn.mono (by assumption) (by walk_at "Sub") | exact TrIn.mono (by assumption) (by walk_at "Sub") | exact RefIn.mono (by assumption) (by walk_at "Sub") | exact NumIn.mono (by assumption) (by walk_at "Sub") | exact SubjIn.mono (by assumption) (by walk_at "Sub") | exact ThingIn.mono (by assumption) (by walk_at "Sub") | walk_at "RelCon")
  k_with "RelCon" => (first | (apply TrIn.mk; k_mem) | (apply CondIn.eq; k_mem; walk_at "Rel"; walk_at "Rel") | (apply CondIn.le; k_mem; walk_at "Rel"; walk_at "Rel") | (apply CondIn.ge; k_mem; walk_at "Rel"; walk_at "Rel") | (apply CondIn.and; k_mem; walk_at "Rel"; walk_at "Rel") | (apply CondIn.or; k_mem; walk_at "Rel"; walk_at "Rel") | (apply CondIn.not; k_mem; walk_at "Rel") | fail "RelCon")
  k_with "MyItem" => ((
   (with_reducible show wpAny _ _ (subscriptTail _ _ (Value.ref _) (Value.int _ _)) _ _ _)
   k_here
   k_dflt (first
     | (refine' item_tupleT ?mtA ?mtB ?mtC ?mtD ?mtE ?_; (case mtA => (refine' News.isTup ?n9 ?m9; (case n9 => k_asm); (case m9 => k_mem))); (case mtB => decide); (case mtC => decide); (case mtD => rfl); (case mtE => rfl); k_whole)
     | (refine' item_listT ?mlA ?mlB ?mlC ?mlD ?_; (case mlA => (refine' News.isList ?n9 ?m9; (case n9 => k_asm); (case m9 => k_mem))); (case mlB => first | decide | omega); (case mlC => first | decide | omega); (case mlD => first | rfl | exact tr_b (by assumption) | exact tr_w (by assumption)); k_whole)
     | fail "MyItem")))
  k_with "subscriptTail Name Constant ref int" => (walk_at "MyItem")
  k_with "subscriptTail Name" => (walk_at "MyItem")
  k_with "subscriptTail Subscript" => (walk_at "MyItem")
  k_with "ite" => ((k_closed; first | (refine ite_pos (by decide +kernel) ?_) | (refine ite_neg (by decide +kernel) ?_)))
  k_with "ite" => (first | with_reducible refine if_t ?_ | with_reducible refine if_f ?_)
  k_with "subscriptTail Subscript" => ((
   (with_reducible show wpAny _ _ (subscriptTail _ (Expr.Slice (some _) none none _) (Value.str _ _) _) _ _ _)
   (with_reducible rename Fr _ _ _ _ => F')
   (with_reducible rename News _ _ _ _ => N')
   (refine slice_strN_sn (hsz := ?hsz) (s := ⟨_, _, _, _, _⟩) F' N' ?_)
   (case hsz => size_fits)
   intro _ _ _ _ _))
  k_with "units_room" => (ktr_units)
  k_with "compareOp Eq ref ref" => ((
   (with_reducible show wpAny _ _ (compareOp CmpOp.Eq (Value.ref _) (Value.ref _)) _ _ _)
   k_here
   k_dflt (refine' eq_ref_num ?erA ?erB ?erC ?erD ?_; (case erA => k_asm); (case erB => walk_at "Rel"); (case erC => walk_at "Rel"); (case erD => ktr_units); k_whole)))
  k_with "call type:int" => ((
   (with_reducible show wpAny _ _ (call (Value.type "int") [Value.str (PySem.Txt.slice (wname _) _ _) _]) _ _ _)
   refine KIN.call_text (wname_int (by assumption)) (wname_slen _) ?_))
  k_with "call type:int" => ((
   (with_reducible show wpAny _ _ (call (Value.type "int") [Value.str (PySem.Txt.slice (cname _) _ _) _]) _ _ _)
   refine KIN.call_text (cname_int (by assumption)) (cname_slen _) ?_))
  k_with "MyFor" => ((k_here; (rename Fr _ _ _ _ => lF'); (with_unfolding_all refine' For_turns lF' ?_; k_whole)))
  k_with "exec For Tuple Call cons nil" => (walk_at "MyFor")
  k_with "exec For Tuple Subscript cons nil" => (walk_at "MyFor")
  k_with "exec For Name Name cons nil" => (walk_at "MyFor")
  k_with "exec For Name Call cons nil" => (walk_at "MyFor")
  k_with "k_ne" => (first | assumption | exact ne_new (by assumption) (by k_mem) | exact Ne.symm (by assumption) | exact Ne.symm (ne_new (by assumption) (by k_mem)))
  k_with "Lt" => (first | exact allLt_of (by assumption) | exact allLt_congr (by assumption) (by first | rfl | simp only [List.map_cons, List.map_append]))
  k_with "k_all" => (first | assumption | exact List.forall_mem_nil _ | (apply fresh_ne; assumption; k_mem) | (refine' List.forall_mem_append.mpr ⟨?_, ?_⟩; k_all; k_all) | (refine' List.forall_mem_cons.mpr ⟨?_, ?_⟩; k_ne; k_all))
  k_with "k_updF" => ((apply updF_app; k_all; k_updF))
  k_with "k_mem" => ((refine' mem_app_l ?_; k_mem))
  k_with "k_mem" => ((refine' mem_app_r ?_; k_mem))
  k_with "call ref" => ((
   (with_reducible show wpAny _ _ (call (Value.ref 77) _) _ _ _)
   k_here
   k_dflt (refine' draw_walk ?d1 ?d2 ?kB ?kF ?kX ?kN ?kU ?kc ?kT ?kK ?kp ?kco ?kk ?kd ?ku ?_; (case d1 => decide); (case d2 => decide); (case kB => k_asm); (case kF => k_asm); (case kX => k_asm); (case kN => k_asm); (case kU => k_updF); (case kco => assumption); (case kc => k_mem); (case kT => k_asm); (case kK => first | exact rfl | assumption); (case kp => k_asm); (case kk => omega); (case kd => ktr_room); (case ku => ktr_units))
   intro j9 t9 po9 h9 tk9 j0 j1 hp9 F9 N9
   (try dsimp only at N9)
   (try dsimp only)
   (try k_fold)))
  k_with "call ref" => ((
   (with_reducible show wpAny _ _ (call (Value.ref 84) _) _ _ _)
   k_here
   k_dflt (refine' simple_walk ?kB ?kF ?kX ?kN ?kU ?kc ?kT ?kK ?kp ?kco ?kk ?kd ?ku ?_; (case kB => k_asm); (case kF => k_asm); (case kX => k_asm); (case kN => k_asm); (case kU => k_updF); (case kco => assumption); (case kc => k_mem); (case kT => k_asm); (case kK => first | exact rfl | assumption); (case kp => k_asm); (case kk => omega); (case kd => ktr_room); (case ku => ktr_units))
   intro r9 c9 po9 tl9 h9 tk9 S9 hp9 F9 N9 A9 W9 C9
   (try dsimp only at N9 W9 C9)
   (try dsimp only)
   (try k_fold)))
  k_with "call builtin:list.append" => ((
   (with_reducible show wpAny _ _ (call (Value.builtin "list.append") [Value.ref _, _]) _ _ _)
   k_here
   k_dflt (refine' append_led ?aF ?aN ?aU ?aZ ?_; (case aF => k_asm); (case aN => k_asm); (case aU => k_updF); (case aZ => assumption))
   intro h' F' N'
   (try dsimp only at N')
   (try dsimp only)
   (try k_sweep)))
  k_with "MyFor" => ((k_here; (rename Fr _ _ _ _ => lF'); (with_unfolding_all refine' For_turns lF' ?_ (hE := by first | assumption | passes_own); k_whole)))
  k_with "exec For Tuple Call cons nil" => (walk_at "MyFor")
  k_with "exec For Tuple Subscript cons nil" => (walk_at "MyFor")
  k_with "exec For Name Name cons nil" => (walk_at "MyFor")
  k_with "exec For Name Call cons nil" => (walk_at "MyFor")
  k_with "call type:range" => ((refine Hold.mk ?_))
  k_with "call type:zip" => ((refine Hold.mk ?_))
  k_with "pyIter ref" => ((refine Hold.mk ?_))
  k_with "callWith" => (((with_reducible show wpAny _ _ (callWith _ (Value.builtin "list.append") _ _ _) _ _ _); refine callWith_method1 ?_))
  k_with "Grown" => (first | (with_reducible refine Grown.cons ?_ rfl ?_; rotate_left; walk_at "Lt"; walk_at "Grown") | with_reducible exact Grown.refl | (with_reducible refine Grown.app ?_ (by assumption) (by first | assumption | exact fresh_congr (by assumption) (by simp only [List.map_cons, List.map_append])); walk_at "Grown") | fail "Grown")
  k_with "eval ListComp" => ((refine Hold.mk ?_))
  k_with "call ref" => ((
   (with_reducible show wpAny _ _ (call (Value.ref 91) _) _ _ _)
   refine Hold.mk ?_))
  k_with "exec For Name Call cons nil" => ((refine Hold.mk ?_))
  k_with "call ref" => ((
   (with_reducible show wpAny _ _ (call (Value.ref 70) _) _ _ _)
   refine Hold.mk ?_))
  k_with "call type:tuple" => ((
   (with_reducible show wpAny _ _ (call (Value.type "tuple") [Value.ref _]) _ _ _)
   k_here
   k_dflt (refine' tuple_led ?tF ?tN ?tM ?tZ ?_; (case tF => k_asm); (case tN => k_asm); (case tM => k_mem); (case tZ => assumption))
   intro D9 h' F' N' l1
   (try k_lt l1)))
  trivial
theorem asifs_use {prog : Program} {w : World} {p : Program} {loose : List Str} {mean : ExcName → Option Value} {mg mb : Str → Option Value} {ss : List Subj} {ws : List When} {others svs wvs : List Value} {ea sa wa oa : Addr} {t : Tok} {so wo oo : Obj}
   {dp un : Nat} {gd : Option (List Code)} {cn : Str} {cs : Scope} {a : Addr} {ccd : Value} {cl : List (Str × Addr)} {outer : List Env} {A₀ : Around} {base h₀ : Heap} {L : Addr} {m : Str → Option Value} {news : Led} {s : Shared}
    {Q E : Value → Shared → Prop}
    (B : Below A₀ base outer h₀) (F : Fr h₀ L s.heap m) (X : (Mine.hd.heap_39 w.params).In h₀) (N : News h₀ L s.heap news) (TT : Top p loose mean mg mb h₀) (hk : cs.kind = .function)
    (hea : (ea, ({ cls := .type "tuple", data := .seq #[.str (Str.ofString "evaluate") t, .ref sa, .ref wa, .ref oa] } : Obj)) ∈ news) (hsa : (sa, so) ∈ news) (hso : SrcO false so (List.toArray svs)) (hS : AllIn (SubjIn news) svs ss) (hwa : (wa, wo) ∈ news) (hwo : SrcO false wo (List.toArray wvs)) (hW : AllIn (WhenIn news) wvs ws)
    (hoa : (oa, oo) ∈ news) (hoo : SrcO false oo others.toArray) (hO : MarksIn news others) (hok : ∀ x ∈ ws, WhenOk ss x) (hw3 : ws.length ≤ 3) (hd : dp + 6 < recursionLimit) (hu : un + 8 * 6 + 400 < cLine)
    (ret : ∀ tb tl h' tk', Fr h₀ L h' m → News h₀ L h' (tl ++ news) → AllTup tl → Fresh tl news → IfIn (tl ++ news) (.ref tb) (toldOf ss others ws).1 (toldOf ss others ws).2.1 (toldOf ss others ws).2.2 → Q (.ref tb) { s with heap := h', toks := tk' }) :
    wpAny (model prog w) (ktrTop dp un gd cn cs L a ccd cl outer) (call (.ref 70) [.ref ea]) Q E s :=
  does_use (asifs_does ss ws others (fun x hx => (hok x hx).1) (fun x hx r hr => ((hok x hx).2.2.2 r hr).1) (fun x hx r hr => ((hok x hx).2.2.2 r hr).2.1) (Nat.le_trans hw3 (by decide))) B F X N TT hk
    ⟨ea, t, sa, so, svs, wa, wo, wvs, oa, oo, rfl, hea, hsa, hso, hS, hwa, hwo, hW, hoa, hoo, hO⟩ hd hu fun r news' h' tk' F' N' hp => by
      obtain ⟨⟨tl, e, ht, hf⟩, hI⟩ := hp
      subst e
      have hI' := hI
      cases hI' with | @mk b _ _ _ _ _ _ _ _ _ _ _ _ => exact ret b tl h' tk' F' N' ht hf hI

theorem tail_fin {prog : Program} {w : World} {p : Program} {loose : List Str} {mean : ExcName → Option Value} {mg mb : Str → Option Value} {h₀ : Heap} {L fa : Addr} {cd : Value} {u : Str → Option Value} {s : Shared} {h : Heap} {tk : Nat} {Q : Flow → Shared → Prop} {E : Value → Shared → Prop}
   {pa ca sl wl ea sa wa oa : Addr} {tt : Tok} {all : Led} {po co o1 o2 o3 o4 so wo oo : Obj} {svs wvs others : List Value} {ss : List Subj} {ws : List When} {kk kw : Nat} {rest : Led}
   (hE : PassesOwn (model prog w) (callerA.deeper (envOfC (Str.ofString "law") lawScope L fa cd)) (envOfC (Str.ofString "law") lawScope L fa cd) E)
   (B : Below callerA h₀ [] h₀) (F : Fr h₀ L h (fun y => if y = Str.ofString "others" then some (.ref oa) else if y = Str.ofString "whens" then some (.ref wl) else u y)) (X : (Mine.hd.heap_39 w.params).In h₀) (T : Top p loose mean mg mb h₀)
   (N : News h₀ L h all) (G : Grown ([(wl, W.listOf (List.toArray wvs) kw), (sl, W.listOf (List.toArray svs) kk), (pa, po), (ca, co), (L + 1 + 1 + 1 + 1, o4), (L + 1 + 1 + 1, o3), (L + 1 + 1, o2), (L + 1, o1)] ++ rest) all)
   (hea : (ea, ({ cls := .type "tuple", data := .seq #[.str (Str.ofString "evaluate") tt, .ref sa, .ref wa, .ref oa] } : Obj)) ∈ all) (hsa : (sa, so) ∈ all) (hso : SrcO false so (List.toArray svs)) (hwa : (wa, wo) ∈ all) (hwo : SrcO false wo (List.toArray wvs)) (hoa : (oa, oo) ∈ all) (hoo : SrcO false oo (List.toArray others)) (hom : MarksIn all others) (hon : others.length ≤ 9)
   (d1 : o1.data = .cell (some (.ref pa))) (d2 : o2.data = .cell (some (.ref sl))) (d3 : isCell o3) (d4 : isCell o4) (hp : PenOk ca 400 po) (hco : CellsOk co) (i1 : @LT.lt Nat _ (L + 1 + 1 + 1 + 1) ca) (i2 : @LT.lt Nat _ ca pa) (i3 : @LT.lt Nat _ pa sl) (i4 : @LT.lt Nat _ sl wl)
   (hrest : AllTup rest) (hoff : Off L rest) (hS : AllIn (SubjIn rest) svs ss) (hW : AllIn (WhenIn rest) wvs ws) (hl3 : ss.length ≤ 3) (hok : ∀ x ∈ ws, WhenOk ss x) (hw3 : ws.length ≤ 3) (hsim : ∀ S ∈ ss, simpleS S)
   (ret : ∀ m' h' tk' all, Fr h₀ L h' m' → News h₀ L h' all → Q (.ret (.bool true)) { s with heap := h', toks := tk' }) :
   wpAny (model prog w) (callerA.deeper (envOfC (Str.ofString "law") lawScope L fa cd)) (call (.ref 70) [.ref ea]) (fun v s₁ => wpAny (model prog w) (callerA.deeper (envOfC (Str.ofString "law") lawScope L fa cd)) (storeName (envOfC (Str.ofString "law") lawScope L fa cd) (Str.ofString "told") v)
     (fun _ s' => wpAny (model prog w) (callerA.deeper (envOfC (Str.ofString "law") lawScope L fa cd)) (execs [lawStmt 7, lawStmt 8] (envOfC (Str.ofString "law") lawScope L fa cd)) Q E s') E s₁) E { s with heap := h, toks := tk } := by
  conv in lawStmt 7 => whnf
  conv in lawStmt 8 => whnf
  conv in (occs := *) lawScope => all_goals whnf
  have hE' := hE
  conv at hE in (occs := *) lawScope => all_goals whnf
  have hra : ∀ p ∈ rest, p ∈ all := fun p hp => G.sub p (List.mem_append_right _ hp)
  have hS0 : AllIn (SubjIn all) svs ss := hS.imp fun v x h => h.mono (Sub.of hra)
  have hW0 : AllIn (WhenIn all) wvs ws := hW.imp fun v x h => h.mono hra
  have hnt : ∀ q ∈ [(wl, W.listOf (List.toArray wvs) kw), (sl, W.listOf (List.toArray svs) kk), (pa, po), (ca, co), (L + 1 + 1 + 1 + 1, o4), (L + 1 + 1 + 1, o3), (L + 1 + 1, o2), (L + 1, o1)], NoTup q.2 :=
    List.forall_mem_cons.mpr ⟨noTup_cls (n := "list") rfl (by decide), List.forall_mem_cons.mpr ⟨noTup_cls (n := "list") rfl (by decide), List.forall_mem_cons.mpr ⟨noTup_cls hp.cls (by decide), List.forall_mem_cons.mpr ⟨noTup_cls hco.cls (by decide), List.forall_mem_cons.mpr ⟨noTup_cell d4, List.forall_mem_cons.mpr ⟨noTup_cell d3, List.forall_mem_cons.mpr ⟨noTup_cell ⟨_, d2⟩, List.forall_mem_cons.mpr ⟨noTup_cell ⟨_, d1⟩, List.forall_mem_nil _⟩⟩⟩⟩⟩⟩⟩⟩
  k_here
  with_unfolding_all refine' asifs_use (ss := ss) (ws := ws) (others := others) B F X N T rfl hea hsa hso hS0 hwa hwo hW0 hoa hoo hom hok hw3 ?kd ?ku ?_
  case kd => ktr_room
  case ku => ktr_units
  intro tb tl h6 tk6 F6 N6 hA hFr hIf
  obtain ⟨Y, hY, N7, hsub, hr2, hYf⟩ := grownT N6 (G.app hA hFr) hrest hnt
  have up : ∀ p ∈ all, p ∈ tl ++ all := fun p hp => List.mem_append_right _ hp
  obtain ⟨tm1, tm2, tm3⟩ := told_ok hsim hl3 hon hok hw3
  clear N6 N
  simp only [List.cons_append, List.nil_append] at N7
  k_steps
  refine Hold.of ?_
  (rename Fr _ _ _ _ => lF')
  (rename News _ _ _ _ => lN')
  with_unfolding_all refine' loop3 (others := others) (oa := oa) (tb := tb) hE' B (fr_as lF' (map_over (by rfl) (map_over (by rfl) (map_over (by rfl) rfl)))) X T lN' d1 d2 d3 d4 hp hco i1 i2 i3 i4 hY ?off (hS.imp fun v x h => h.mono (Sub.of hr2)) (hW.imp fun v x h => h.mono hr2) hl3 hok hw3 hsim ?oa hoo ?om hon (hIf.monoT hsub) tm1 tm2 tm3 ?_
  case off => exact hoff.app hYf (.tail _ (.tail _ (.tail _ (.tail _ (.tail _ (.head _)))))) (.tail _ (.tail _ (.tail _ (.tail _ (.head _)))))
  case oa => exact hsub _ (up _ hoa) hoo.1 (by obtain ⟨n, e⟩ := hoo.2; exact ⟨_, _, e⟩)
  case om => exact (hom.mono up).monoT hsub
  intro m9 h9 tk9 all9 F9 N9
  clear lF' lN'
  k_steps
  exact ret _ _ _ _ F9 N9

theorem tail_fin1 {prog : Program} {w : World} {p : Program} {loose : List Str} {mean : ExcName → Option Value} {mg mb : Str → Option Value} {h₀ : Heap} {L fa : Addr} {cd : Value} {u : Str → Option Value} {s : Shared} {h : Heap} {tk : Nat} {Q : Flow → Shared → Prop} {E : Value → Shared → Prop}
   {pa ca sl wl ea sa wa oa : Addr} {tt : Tok} {dm : Addr} {mi : Int} {mt1 mt2 : Tok} {all : Led} {po co o1 o2 o3 o4 : Obj} {svs wvs : List Value} {ss : List Subj} {ws : List When} {kk kw : Nat} {rest : Led}
   (hE : PassesOwn (model prog w) (callerA.deeper (envOfC (Str.ofString "law") lawScope L fa cd)) (envOfC (Str.ofString "law") lawScope L fa cd) E)
   (B : Below callerA h₀ [] h₀) (F : Fr h₀ L h (fun y => if y = Str.ofString "others" then some (.ref oa) else if y = Str.ofString "whens" then some (.ref wl) else u y)) (X : (Mine.hd.heap_39 w.params).In h₀) (T : Top p loose mean mg mb h₀)
   (N : News h₀ L h all) (G : Grown ([(wl, W.listOf (List.toArray wvs) kw), (sl, W.listOf (List.toArray svs) kk), (pa, po), (ca, co), (L + 1 + 1 + 1 + 1, o4), (L + 1 + 1 + 1, o3), (L + 1 + 1, o2), (L + 1, o1)] ++ rest) all)
   (hea : (ea, ({ cls := .type "tuple", data := .seq #[.str (Str.ofString "evaluate") tt, .ref sa, .ref wa, .ref oa] } : Obj)) ∈ all) (hsa : (sa, ({ cls := .type "tuple", data := .seq (List.toArray svs) } : Obj)) ∈ all) (hwa : (wa, ({ cls := .type "tuple", data := .seq (List.toArray wvs) } : Obj)) ∈ all) (hoa : (oa, ({ cls := .type "tuple", data := .seq #[.ref dm] } : Obj)) ∈ all) (hdm : (dm, ({ cls := .type "tuple", data := .seq #[.str (Str.ofString "mark") mt1, .int mi mt2] } : Obj)) ∈ all)
   (d1 : o1.data = .cell (some (.ref pa))) (d2 : o2.data = .cell (some (.ref sl))) (d3 : isCell o3) (d4 : isCell o4) (hp : PenOk ca 400 po) (hco : CellsOk co) (i1 : @LT.lt Nat _ (L + 1 + 1 + 1 + 1) ca) (i2 : @LT.lt Nat _ ca pa) (i3 : @LT.lt Nat _ pa sl) (i4 : @LT.lt Nat _ sl wl)
   (hrest : AllTup rest) (hoff : Off L rest) (hS : AllIn (SubjIn rest) svs ss) (hW : AllIn (WhenIn rest) wvs ws) (hl3 : ss.length ≤ 3) (hok : ∀ x ∈ ws, WhenOk ss x) (hw3 : ws.length ≤ 3) (hsim : ∀ S ∈ ss, simpleS S)
   (ret : ∀ m' h' tk' all, Fr h₀ L h' m' → News h₀ L h' all → Q (.ret (.bool true)) { s with heap := h', toks := tk' }) :
   wpAny (model prog w) (callerA.deeper (envOfC (Str.ofString "law") lawScope L fa cd)) (call (.ref 70) [.ref ea]) (fun v s₁ => wpAny (model prog w) (callerA.deeper (envOfC (Str.ofString "law") lawScope L fa cd)) (storeName (envOfC (Str.ofString "law") lawScope L fa cd) (Str.ofString "told") v)
     (fun _ s' => wpAny (model prog w) (callerA.deeper (envOfC (Str.ofString "law") lawScope L fa cd)) (execs [lawStmt 7, lawStmt 8] (envOfC (Str.ofString "law") lawScope L fa cd)) Q E s') E s₁) E { s with heap := h, toks := tk } :=
  tail_fin (others := [.ref dm]) hE B F X T N G hea hsa ⟨rfl, _, rfl⟩ hwa ⟨rfl, _, rfl⟩ hoa ⟨rfl, _, rfl⟩ (fun v hv => by rw [List.mem_singleton.mp hv]; exact ⟨_, _, _, _, rfl, hdm⟩) (Nat.le_of_ble_eq_true rfl) d1 d2 d3 d4 hp hco i1 i2 i3 i4 hrest hoff hS hW hl3 hok hw3 hsim ret
theorem tail_fin0 {prog : Program} {w : World} {p : Program} {loose : List Str} {mean : ExcName → Option Value} {mg mb : Str → Option Value} {h₀ : Heap} {L fa : Addr} {cd : Value} {u : Str → Option Value} {s : Shared} {h : Heap} {tk : Nat} {Q : Flow → Shared → Prop} {E : Value → Shared → Prop}
   {pa ca sl wl ea sa wa oa : Addr} {tt : Tok} {all : Led} {po co o1 o2 o3 o4 : Obj} {svs wvs : List Value} {ss : List Subj} {ws : List When} {kk kw : Nat} {rest : Led}
   (hE : PassesOwn (model prog w) (callerA.deeper (envOfC (Str.ofString "law") lawScope L fa cd)) (envOfC (Str.ofString "law") lawScope L fa cd) E)
   (B : Below callerA h₀ [] h₀) (F : Fr h₀ L h (fun y => if y = Str.ofString "others" then some (.ref oa) else if y = Str.ofString "whens" then some (.ref wl) else u y)) (X : (Mine.hd.heap_39 w.params).In h₀) (T : Top p loose mean mg mb h₀)
   (N : News h₀ L h all) (G : Grown ([(wl, W.listOf (List.toArray wvs) kw), (sl, W.listOf (List.toArray svs) kk), (pa, po), (ca, co), (L + 1 + 1 + 1 + 1, o4), (L + 1 + 1 + 1, o3), (L + 1 + 1, o2), (L + 1, o1)] ++ rest) all)
   (hea : (ea, ({ cls := .type "tuple", data := .seq #[.str (Str.ofString "evaluate") tt, .ref sa, .ref wa, .ref oa] } : Obj)) ∈ all) (hsa : (sa, ({ cls := .type "tuple", data := .seq (List.toArray svs) } : Obj)) ∈ all) (hwa : (wa, ({ cls := .type "tuple", data := .seq (List.toArray wvs) } : Obj)) ∈ all) (hoa : (oa, ({ cls := .type "tuple", data := .seq #[] } : Obj)) ∈ all)
   (d1 : o1.data = .cell (some (.ref pa))) (d2 : o2.data = .cell (some (.ref sl))) (d3 : isCell o3) (d4 : isCell o4) (hp : PenOk ca 400 po) (hco : CellsOk co) (i1 : @LT.lt Nat _ (L + 1 + 1 + 1 + 1) ca) (i2 : @LT.lt Nat _ ca pa) (i3 : @LT.lt Nat _ pa sl) (i4 : @LT.lt Nat _ sl wl)
   (hrest : AllTup rest) (hoff : Off L rest) (hS : AllIn (SubjIn rest) svs ss) (hW : AllIn (WhenIn rest) wvs ws) (hl3 : ss.length ≤ 3) (hok : ∀ x ∈ ws, WhenOk ss x) (hw3 : ws.length ≤ 3) (hsim : ∀ S ∈ ss, simpleS S)
   (ret : ∀ m' h' tk' all, Fr h₀ L h' m' → News h₀ L h' all → Q (.ret (.bool true)) { s with heap := h', toks := tk' }) :
   wpAny (model prog w) (callerA.deeper (envOfC (Str.ofString "law") lawScope L fa cd)) (call (.ref 70) [.ref ea]) (fun v s₁ => wpAny (model prog w) (callerA.deeper (envOfC (Str.ofString "law") lawScope L fa cd)) (storeName (envOfC (Str.ofString "law") lawScope L fa cd) (Str.ofString "told") v)
     (fun _ s' => wpAny (model prog w) (callerA.deeper (envOfC (Str.ofString "law") lawScope L fa cd)) (execs [lawStmt 7, lawStmt 8] (envOfC (Str.ofString "law") lawScope L fa cd)) Q E s') E s₁) E { s with heap := h, toks := tk } :=
  tail_fin (others := []) hE B F X T N G hea hsa ⟨rfl, _, rfl⟩ hwa ⟨rfl, _, rfl⟩ hoa ⟨rfl, _, rfl⟩ (fun _ h => nomatch h) (Nat.le_of_ble_eq_true rfl) d1 d2 d3 d4 hp hco i1 i2 i3 i4 hrest hoff hS hW hl3 hok hw3 hsim ret
theorem law_tail {prog : Program} {w : World} {p : Program} {loose : List Str} {mean : ExcName → Option Value} {mg mb : Str → Option Value} {h₀ : Heap} {L fa : Addr} {cd : Value} {u : Str → Option Value} {s : Shared} {h : Heap} {tk : Nat} {Q : Flow → Shared → Prop} {E : Value → Shared → Prop}
   {pa ca sl wl : Addr} {po co o1 o2 o3 o4 : Obj} {svs wvs : List Value} {ss : List Subj} {ws : List When} {kk kw : Nat} {rest : Led}
   (hE : PassesOwn (model prog w) (callerA.deeper (envOfC (Str.ofString "law") lawScope L fa cd)) (envOfC (Str.ofString "law") lawScope L fa cd) E)
   (B : Below callerA h₀ [] h₀) (F : Fr h₀ L h (fun y => if y = Str.ofString "whens" then some (.ref wl) else u y)) (X : (Mine.hd.heap_39 w.params).In h₀) (T : Top p loose mean mg mb h₀)
   (N : News h₀ L h ((wl, W.listOf (List.toArray wvs) kw) :: (sl, W.listOf (List.toArray svs) kk) :: (pa, po) :: (ca, co) :: (L + 1 + 1 + 1 + 1, o4) :: (L + 1 + 1 + 1, o3) :: (L + 1 + 1, o2) :: (L + 1, o1) :: rest))
   (d1 : o1.data = .cell (some (.ref pa))) (d2 : o2.data = .cell (some (.ref sl))) (d3 : isCell o3) (d4 : isCell o4) (hp : PenOk ca 300 po) (hco : CellsOk co) (i1 : @LT.lt Nat _ (L + 1 + 1 + 1 + 1) ca) (i2 : @LT.lt Nat _ ca pa) (i3 : @LT.lt Nat _ pa sl) (i4 : @LT.lt Nat _ sl wl)
   (hrest : AllTup rest) (hoff : Off L rest) (hS : AllIn (SubjIn rest) svs ss) (hW : AllIn (WhenIn rest) wvs ws) (hl3 : ss.length ≤ 3) (hok : ∀ x ∈ ws, WhenOk ss x) (hw3 : ws.length ≤ 3) (hsim : ∀ S ∈ ss, simpleS S)
   (ret : ∀ m' h' tk' all, Fr h₀ L h' m' → News h₀ L h' all → Q (.ret (.bool true)) { s with heap := h', toks := tk' }) :
   wpAny (model prog w) (callerA.deeper (envOfC (Str.ofString "law") lawScope L fa cd)) (execs [lawStmt 5, lawStmt 6, lawStmt 7, lawStmt 8] (envOfC (Str.ofString "law") lawScope L fa cd)) Q E { s with heap := h, toks := tk } := by
  conv in lawStmt 5 => whnf
  conv in lawStmt 6 => whnf
  conv in lawStmt 7 => whnf
  conv in lawStmt 8 => whnf
  conv in (occs := *) lawScope => all_goals whnf
  have hE' := hE
  conv at hE in (occs := *) lawScope => all_goals whnf
  have e1 : ∀ p ∈ rest, p.1 ≠ pa := tup_ne N (.tail _ (.tail _ (.head _))) hp.cls (by decide) (fun p hp => .tail _ (.tail _ (.tail _ (.tail _ (.tail _ (.tail _ (.tail _ (.tail _ hp)))))))) hrest
  obtain ⟨n1, n2, n3, n4, n5, n6⟩ := nesP i1 i2 i3
  obtain ⟨m1, m2, m3, m4, m5, m6, m7, m8⟩ := nesW i1 i2 i3 i4
  have hz1 : svs.length ≤ 1000 := by rw [hS.1]; omega
  have hz2 : wvs.length ≤ 1000 := by rw [hW.1]; omega
  k_steps
  all_goals (refine Hold.of ?_; rename Fr _ _ _ _ => lF'; rename News _ _ _ _ => lN'; rename PenOk _ _ _ => hp3)
  · with_unfolding_all refine' tail_fin1 hE' B lF' X T lN' ?G1 ?ea1 ?sa1 ?wa1 ?oa1 ?dm d1 d2 d3 d4 (hp3.le (by omega)) hco i1 i2 i3 i4 hrest hoff hS hW hl3 hok hw3 hsim ret
    case G1 => simp only [List.cons_append, List.nil_append]; walk_at "Grown"
    case ea1 => k_mem
    case sa1 => k_mem
    case wa1 => k_mem
    case oa1 => k_mem
    case dm => k_mem
  · with_unfolding_all refine' tail_fin0 hE' B lF' X T lN' ?G0 ?ea0 ?sa0 ?wa0 ?oa0 d1 d2 d3 d4 (hp3.le (by omega)) hco i1 i2 i3 i4 hrest hoff hS hW hl3 hok hw3 hsim ret
    case G0 => simp only [List.cons_append, List.nil_append]; walk_at "Grown"
    case ea0 => k_mem
    case sa0 => k_mem
    case wa0 => k_mem
    case oa0 => k_mem
end

/- part Y3 -/
section
theorem primeY3 : (PySem.Challenge.rw_pq0615_01, Mine.hd.heap_39) = (PySem.Challenge.rw_pq0615_01, Mine.hd.heap_39) := by
  k_fill
  rfl
theorem wordsY30 : True := by
  k_with_none
  w_top off
  k_with "k_mem" => ((refine' mem_of ?_; ktr_member))
  k_with "Sub" => (first | exact Sub.refl | (refine Sub.cons ?_; walk_at "Sub") | (refine Sub.app ?_; walk_at "Sub") | fail "Sub")
  k_with "SubL" => (first | exact sub_refl | (refine sub_cons ?_; walk_at "SubL") | (refine sub_app ?_; walk_at "SubL") | fail "SubL")
  k_with "Lt" => (first | assumption | exact allLt_of (by assumption) | ((try simp only [AllLt, and_true]); assumption) | fail "Lt")
  k_with "Grown" => (first | exact Grown.refl | assumption | (refine Grown.cons ?_ rfl ?_; rotate_left; walk_at "Lt"; walk_at "Grown") | (refine Grown.app ?_ (by assumption) (by assumption); walk_at "Grown") | fail "Grown")
  k_with "Rel" => (first | assumption | exact CondIn.mono (by assumption) (by walk_at "Sub") | exact TrIn.mono (by assumption) (by walk_at "Sub") | exact RefIn.mono (by assumption) (by walk_at "Sub") | exact NumIn.mono (by assumption) (by walk_at "Sub") | exact SubjIn.mono (by assumption) (by walk_at "Sub") | exact ThingIn.mono (by assumption) (by walk_at "Sub") | walk_at "RelCon")
  k_with "RelCon" => (first | (apply TrIn.mk; k_mem) | (apply CondIn.eq; k_mem; walk_at "Rel"; walk_at "Rel") | (apply CondIn.le; k_mem; walk_at "Rel"; walk_at "Rel") | (apply CondIn.ge; k_mem; walk_at "Rel"; walk_at "Rel") | (apply CondIn.and; k_mem; walk_at "Rel"; walk_at "Rel") | (apply CondIn.or; k_mem; walk_at "Rel"; walk_at "Rel") | (apply CondIn.not; k_mem; walk_at "Rel") | fail "RelCon")
  k_with "MyItem" => ((
   (with_reducible show wpAny _ _ (subscriptTail _ _ (Value.ref _) (Value.int _ _)) _ _ _)
   k_here
   k_dflt (first
     | (refine' item_tupleT ?mtA ?mtB ?mtC ?mtD ?mtE ?_; (case mtA => (refine' News.isTup ?n9 ?m9; (case n9 => k_asm); (case m9 => k_mem))); (case mtB => decide); (case mtC => decide); (case mtD => rfl); (case mtE => rfl); k_whole)
     | (refine' item_listT ?mlA ?mlB ?mlC ?mlD ?_; (case mlA => (refine' News.isList ?n9 ?m9; (case n9 => k_asm); (case m9 => k_mem))); (case mlB => first | decide | omega); (case mlC => first | decide | omega); (case mlD => first | rfl | exact tr_b (by assumption) | exact tr_w (by assumption)); k_whole)
     | fail "MyItem")))
  k_with "subscriptTail Name Constant ref int" => (walk_at "MyItem")
  k_with "subscriptTail Name" => (walk_at "MyItem")
  k_with "subscriptTail Subscript" => (walk_at "MyItem")
  k_with "ite" => ((k_closed; first | (refine ite_pos (by decide +kernel) ?_) | (refine ite_neg (by decide +kernel) ?_)))
  k_with "ite" => (first | with_reducible refine if_t ?_ | with_reducible refine if_f ?_)
  k_with "subscriptTail Subscript" => ((
   (with_reducible show wpAny _ _ (subscriptTail _ (Expr.Slice (some _) none none _) (Value.str _ _) _) _ _ _)
   (with_reducible rename Fr _ _ _ _ => F')
   (with_reducible rename News _ _ _ _ => N')
   (refine slice_strN_sn (hsz := ?hsz) (s := ⟨_, _, _, _, _⟩) F' N' ?_)
   (case hsz => size_fits)
   intro _ _ _ _ _))
  k_with "units_room" => (ktr_units)
  k_with "compareOp Eq ref ref" => ((
   (with_reducible show wpAny _ _ (compareOp CmpOp.Eq (Value.ref _) (Value.ref _)) _ _ _)
   k_here
   k_dflt (refine' eq_ref_num ?erA ?erB ?erC ?erD ?_; (case erA => k_asm); (case erB => walk_at "Rel"); (case erC => walk_at "Rel"); (case erD => ktr_units); k_whole)))
  k_with "call type:int" => ((
   (with_reducible show wpAny _ _ (call (Value.type "int") [Value.str (PySem.Txt.slice (wname _) _ _) _]) _ _ _)
   refine KIN.call_text (wname_int (by assumption)) (wname_slen _) ?_))
  k_with "call type:int" => ((
   (with_reducible show wpAny _ _ (call (Value.type "int") [Value.str (PySem.Txt.slice (cname _) _ _) _]) _ _ _)
   refine KIN.call_text (cname_int (by assumption)) (cname_slen _) ?_))
  k_with "MyFor" => ((k_here; (rename Fr _ _ _ _ => lF'); (with_unfolding_all refine' For_turns lF' ?_; k_whole)))
  k_with "exec For Tuple Call cons nil" => (walk_at "MyFor")
  k_with "exec For Tuple Subscript cons nil" => (walk_at "MyFor")
  k_with "exec For Name Name cons nil" => (walk_at "MyFor")
  k_with "exec For Name Call cons nil" => (walk_at "MyFor")
  k_with "k_ne" => (first | assumption | exact ne_new (by assumption) (by k_mem) | exact Ne.symm (by assumption) | exact Ne.symm (ne_new (by assumption) (by k_mem)))
  k_with "Lt" => (first | exact allLt_of (by assumption) | exact allLt_congr (by assumption) (by first | rfl | simp only [List.map_cons, List.map_append]))
  k_with "k_all" => (first | assumption | exact List.forall_mem_nil _ | (apply fresh_ne; assumption; k_mem) | (refine' List.forall_mem_append.mpr ⟨?_, ?_⟩; k_all; k_all) | (refine' List.forall_mem_cons.mpr ⟨?_, ?_⟩; k_ne; k_all))
  k_with "k_updF" => ((apply updF_app; k_all; k_updF))
  k_with "k_mem" => ((refine' mem_app_l ?_; k_mem))
  k_with "k_mem" => ((refine' mem_app_r ?_; k_mem))
  k_with "call ref" => ((
   (with_reducible show wpAny _ _ (call (Value.ref 77) _) _ _ _)
   k_here
   k_dflt (refine' draw_walk ?d1 ?d2 ?kB ?kF ?kX ?kN ?kU ?kc ?kT ?kK ?kp ?kco ?kk ?kd ?ku ?_; (case d1 => decide); (case d2 => decide); (case kB => k_asm); (case kF => k_asm); (case kX => k_asm); (case kN => k_asm); (case kU => k_updF); (case kco => assumption); (case kc => k_mem); (case kT => k_asm); (case kK => first | exact rfl | assumption); (case kp => k_asm); (case kk => omega); (case kd => ktr_room); (case ku => ktr_units))
   intro j9 t9 po9 h9 tk9 j0 j1 hp9 F9 N9
   (try dsimp only at N9)
   (try dsimp only)
   (try k_fold)))
  k_with "call ref" => ((
   (with_reducible show wpAny _ _ (call (Value.ref 84) _) _ _ _)
   k_here
   k_dflt (refine' simple_walk ?kB ?kF ?kX ?kN ?kU ?kc ?kT ?kK ?kp ?kco ?kk ?kd ?ku ?_; (case kB => k_asm); (case kF => k_asm); (case kX => k_asm); (case kN => k_asm); (case kU => k_updF); (case kco => assumption); (case kc => k_mem); (case kT => k_asm); (case kK => first | exact rfl | assumption); (case kp => k_asm); (case kk => omega); (case kd => ktr_room); (case ku => ktr_units))
   intro r9 c9 po9 tl9 h9 tk9 S9 hp9 F9 N9 A9 W9 C9
   (try dsimp only at N9 W9 C9)
   (try dsimp only)
   (try k_fold)))
  k_with "call builtin:list.append" => ((
   (with_reducible show wpAny _ _ (call (Value.builtin "list.append") [Value.ref _, _]) _ _ _)
   k_here
   k_dflt (refine' append_led ?aF ?aN ?aU ?aZ ?_; (case aF => k_asm); (case aN => k_asm); (case aU => k_updF); (case aZ => assumption))
   intro h' F' N'
   (try dsimp only at N')
   (try dsimp only)
   (try k_sweep)))
  k_with "MyFor" => ((k_here; (rename Fr _ _ _ _ => lF'); (with_unfolding_all refine' For_turns lF' ?_ (hE := by first | assumption | passes_own); k_whole)))
  k_with "exec For Tuple Call cons nil" => (walk_at "MyFor")
  k_with "exec For Tuple Subscript cons nil" => (walk_at "MyFor")
  k_with "exec For Name Name cons nil" => (walk_at "MyFor")
  k_with "exec For Name Call cons nil" => (walk_at "MyFor")
  k_with "call type:range" => ((refine Hold.mk ?_))
  k_with "call type:zip" => ((refine Hold.mk ?_))
  k_with "pyIter ref" => ((refine Hold.mk ?_))
  k_with "callWith" => (((with_reducible show wpAny _ _ (callWith _ (Value.builtin "list.append") _ _ _) _ _ _); refine callWith_method1 ?_))
  k_with "Grown" => (first | (with_reducible refine Grown.cons ?_ rfl ?_; rotate_left; walk_at "Lt"; walk_at "Grown") | with_reducible exact Grown.refl | (with_reducible refine Grown.app ?_ (by assumption) (by first | assumption | exact fresh_congr (by assumption) (by simp only [List.map_cons, List.map_append])); walk_at "Grown") | fail "Grown")
  k_with "eval ListComp" => ((refine Hold.mk ?_))
  k_with "call ref" => ((
   (with_reducible show wpAny _ _ (call (Value.ref 91) _) _ _ _)
   refine Hold.mk ?_))
  k_with "exec For Name Call cons nil" => ((refine Hold.mk ?_))
  trivial
theorem pick7 {h₀ h : Heap} {L : Addr} {a b c d e f g x y : Addr × Obj} (N : News h₀ L h [a, b, x, c, y, d, e, f, g]) : News h₀ L h [a, b, c, d, e, f, g] := newsSub N fun p hp => by
  simp only [List.mem_cons, List.not_mem_nil, or_false] at hp ⊢
  rcases hp with h | h | h | h | h | h | h <;> simp [h]
theorem lt_new {D a : Addr} {o : Obj} {l : Led} (h : ∀ p ∈ l, p.1 < D) (m : List.Mem (a, o) l) : a < D := h _ m
theorem fmod_range {a : Int} : 0 ≤ a.fmod 1009 ∧ a.fmod 1009 < 1009 := ⟨Int.fmod_nonneg_of_pos _ (by decide), Int.fmod_lt_of_pos _ (by decide)⟩
theorem law_holds : PySem.Challenge.rw_pq0615_01.Holds := hd (by
  k_go0
  all_goals try k_fold
  k_steps
  refine Hold.of ?_
  (rename Fr _ _ _ _ => lF')
  (rename News _ _ _ _ => lN')
  with_unfolding_all refine' loop1 ?hE ?B lF' ?X ?T (pick7 lN') ?d1 ?d2 ?d3 ?d4 ?hp ?hco ?i1 ?i2 ?i3 ?_
  case hE => passes_own
  case B => k_asm
  case X => k_asm
  case T => k_asm
  case d1 => assumption
  case d2 => assumption
  case d3 => exact ⟨_, by assumption⟩
  case d4 => exact ⟨_, by assumption⟩
  case hp => exact PenOk.mk (by decide) (by decide) (by decide) fmod_range.1 fmod_range.2
  case hco => exact ⟨_, _, _, rfl, by assumption, by rw [List.length_take]; exact Nat.min_le_left _ _⟩
  case i1 => exact lt_new (by assumption) (by k_mem)
  case i2 => exact lt_new (by assumption) (by k_mem)
  case i3 => exact lt_new (by assumption) (by k_mem)
  intro svs ss po' rest h' tk' m' kk F2 N2 t1 off1 p1 s1 sim1 la lb
  clear lF' lN'
  k_steps
  refine Hold.of ?_
  (rename Fr _ _ _ _ => lF')
  (rename News _ _ _ _ => lN')
  with_unfolding_all refine' loop2 (ss := ss) (m := fun _ => none) ?hE ?B lF' ?X ?T lN' ?d1 ?d2 ?d3 ?d4 p1 ?hco ?i1 ?i2 ?i3 ?i4 t1 off1 s1 sim1 la lb ?_
  case hE => passes_own
  case B => k_asm
  case X => k_asm
  case T => k_asm
  case d1 => assumption
  case d2 => assumption
  case d3 => exact ⟨_, by assumption⟩
  case d4 => exact ⟨_, by assumption⟩
  case hco => exact ⟨_, _, _, rfl, by assumption, by rw [List.length_take]; exact Nat.min_le_left _ _⟩
  case i1 => exact lt_new (by assumption) (by k_mem)
  case i2 => exact lt_new (by assumption) (by k_mem)
  case i3 => exact lt_new (by assumption) (by k_mem)
  case i4 => exact lt_new (by assumption) (by k_mem)
  intro wvs ws po2 o32 rest2 h2 tk2 u2 kw F3 N3 t2 off2 p2 d32 s2 w2 ok2 lw
  clear lF' lN'
  with_unfolding_all refine' law_tail (ss := ss) (ws := ws) ?hE ?B F3 ?X ?T N3 ?d1 ?d2 d32 ?d4 p2 ?hco ?i1 ?i2 ?i3 ?i4 t2 off2 s2 w2 lb ok2 lw sim1 ?_
  case hE => passes_own
  case B => k_asm
  case X => k_asm
  case T => k_asm
  case d1 => assumption
  case d2 => assumption
  case d4 => exact ⟨_, by assumption⟩
  case hco => exact ⟨_, _, _, rfl, by assumption, by rw [List.length_take]; exact Nat.min_le_left _ _⟩
  case i1 => exact lt_new (by assumption) (by k_mem)
  case i2 => exact lt_new (by assumption) (by k_mem)
  case i3 => exact lt_new (by assumption) (by k_mem)
  case i4 => exact lt_new (by assumption) (by k_mem)
  intro m9 h9 tk9 all9 F9 N9
  k_steps)
end
end Mine

theorem PySem.Challenge.cw_pq0615_01_holds : PySem.Challenge.rw_pq0615_01.Holds := by
  exact Mine.law_holds
