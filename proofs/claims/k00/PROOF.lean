import PyProof.Rows.All
import Wide.All
import OpenK.AllK
import Wide.FinOn
import HandS.ForMost
import HandS.ExcInit
import HandS.Exc
import HandS.ExcOwn
import HandS.Deep
import HandS.TupAny
import HandS.TupLe
import HandS.IsInst
import HandS.Flow
import HandS.Steps
import HandS.WordsExc
import HandS.Ends
import HandS.Iter
import HandS.Rev
import HandS.Zip
import KE.GoesMore
import KE.GoesZip
import KE.GoesEnum
import HandS.Style
import HandS.Conv
import HandS.RaiseMore
import HandS.Dict
import PyProof.ReprRoads
import PyProof.CallFns
import HandS.DictComp
import HandS.ExcIs
import HandS.ExcField
import KE.KExcIs
import HandS.Defaults
import HandS.HeadHook1
import HandS.HeadHook2
import PyProof.FitsInt
import KE.KStateDown
import HandS.Head0
import HandS.Head1
import HandS.Head2
import HandS.HeadEnd
import PySem.Challenge.RW_sevenpoints_k00_errors_made_by_hand
set_option Elab.async false
set_option linter.all false
set_option maxRecDepth 100000
set_option maxHeartbeats 0
namespace Ev
open PySem
/-- a value that nothing changes any more -/
inductive Val where
  | non | bl (b : Bool) | int (i : Int) | str (s : Str)
  | tup (xs : List Val) | lst (xs : List Val) | fzl (xs : List Val)
  | dct (kvs : List (Val × Val))
  | ins (c : Str) (fs : List (Str × Val))
  | gl (n : Str)
  | exc (c : Str) (fs : List (Str × Val))
/-- what a place holds: a value, or an object that nobody else holds -/
inductive Pl where
  | hole
  | val (v : Val)
  | lst (xs : List Val)
  | lstP (ps : List Pl)
  | dct (kvs : List (Val × Val))
  | ins (c : Str) (fs : List (Str × Pl))
  | rcd (fs : List (Str × Pl))
instance : Inhabited Val := ⟨.non⟩
instance : Inhabited Pl := ⟨.hole⟩
mutual
def veq : Val → Val → Bool
  | .non, .non => true
  | .bl a, .bl b => a == b
  | .bl a, .int j => (if a then 1 else 0) == j
  | .int i, .bl b => i == (if b then 1 else 0)
  | .int i, .int j => i == j
  | .str x, .str y => x == y
  | .lst xs, .lst ys => veqs xs ys
  | .tup xs, .tup ys => veqs xs ys
  | _, _ => false
def veqs : List Val → List Val → Bool
  | [], [] => true
  | x :: xs, y :: ys => veq x y && veqs xs ys
  | _, _ => false
end
def sOk (s : Str) : Bool := s.cps.all (· < 0x110000)
mutual
/-- data: none, bools, ints, texts, lists and tuples of these, at most so deep -/
def dat : Nat → Val → Bool
  | _, .non => true
  | _, .bl _ => true
  | _, .int _ => true
  | _, .str s => sOk s
  | n + 1, .tup xs => dats n xs
  | n + 1, .lst xs => dats n xs
  | _, _ => false
def dats : Nat → List Val → Bool
  | _, [] => true
  | n, x :: xs => dat n x && dats n xs
end
mutual
def toData : Val → PyData
  | .non => .none
  | .bl b => .bool b
  | .int i => .int i
  | .str s => .str s
  | .tup xs => .tuple (toDatas xs)
  | .lst xs => .list (toDatas xs)
  | _ => .none
def toDatas : List Val → List PyData
  | [] => []
  | x :: xs => toData x :: toDatas xs
end
def flat : Val → Bool
  | .non => true
  | .bl _ => true
  | .int _ => true
  | .str _ => true
  | _ => false
mutual
def toVal : Pl → Option Val
  | .hole => none
  | .val v => some v
  | .lst xs => some (.lst xs)
  | .lstP ps => (toVals ps).map .lst
  | .dct kvs => some (.dct kvs)
  | .ins c fs => (toValF fs).map (.ins c)
  | .rcd fs => (toValF fs).map fun l => .dct (l.map fun q => (.str q.1, q.2))
def toVals : List Pl → Option (List Val)
  | [] => some []
  | p :: ps => do let v ← toVal p; let vs ← toVals ps; pure (v :: vs)
def toValF : List (Str × Pl) → Option (List (Str × Val))
  | [] => some []
  | (n, p) :: ps => do let v ← toVal p; let vs ← toValF ps; pure ((n, v) :: vs)
end
inductive Step where
  | f (n : Str) | i (n : Nat) | k (n : Str)
def putF {α : Type} (n : Str) (v : α) : List (Str × α) → List (Str × α)
  | [] => [(n, v)]
  | (m, w) :: r => if m = n then (m, v) :: r else (m, w) :: putF n v r
def getP : Pl → List Step → Option Pl
  | p, [] => some p
  | .ins _ fs, .f n :: r => (fs.lookup n).bind fun p => getP p r
  | .val (.ins _ fs), .f n :: r => (fs.lookup n).bind fun v => getP (.val v) r
  | .lstP ps, .i n :: r => ps[n]?.bind fun p => getP p r
  | .rcd fs, .k n :: r => (fs.lookup n).bind fun p => getP p r
  | _, _ :: _ => none
def setP : Pl → List Step → Pl → Pl
  | _, [], q => q
  | .ins c fs, .f n :: r, q => .ins c (match fs.lookup n with | some p => putF n (setP p r q) fs | none => fs)
  | .rcd fs, .k n :: r, q => .rcd (match fs.lookup n with | some p => putF n (setP p r q) fs | none => fs)
  | .lstP ps, .i n :: r, q => .lstP (match ps[n]? with | some p => ps.set n (setP p r q) | none => ps)
  | p, _ :: _, _ => p
abbrev Env := List Pl
inductive Opnd where
  | at (i : Nat) (r : List Step) | tmp (p : Pl)
structure Exn where
  cls : Str
  fs : List (Str × Val)
inductive Out (α : Type) where
  | ok (a : α) (e : Env) | exn (x : Exn) (e : Env) | stuck
inductive SOut where
  | next (e : Env) | brk (e : Env) | cnt (e : Env) | ret (p : Pl) (e : Env) | exn (x : Exn) (e : Env) | stuck
/-- a call's end: the result, the parameters' places behind it -/
inductive COut where
  | ok (r : Pl) (ps : List Pl) | exn (x : Exn) (ps : List Pl) | stuck
def Out.bind {α β : Type} (x : Out α) (k : α → Env → Out β) : Out β :=
  match x with
  | .ok a e => k a e
  | .exn x e => .exn x e
  | .stuck => .stuck
def Out.sbind {α : Type} (x : Out α) (k : α → Env → SOut) : SOut :=
  match x with
  | .ok a e => k a e
  | .exn x e => .exn x e
  | .stuck => .stuck
def SOut.then (x : SOut) (k : Env → SOut) : SOut :=
  match x with
  | .next e => k e
  | o => o
def Out.of {α : Type} (o : Option α) (e : Env) : Out α :=
  match o with
  | some a => .ok a e
  | none => .stuck
@[simp] theorem Out.bind_ok {α β : Type} (a : α) (e : Env) (k : α → Env → Out β) : (Out.ok a e).bind k = k a e := rfl
@[simp] theorem Out.bind_exn {α β : Type} (x : Exn) (e : Env) (k : α → Env → Out β) : (Out.exn x e).bind k = .exn x e := rfl
@[simp] theorem Out.bind_stuck {α β : Type} (k : α → Env → Out β) : (Out.stuck).bind k = .stuck := rfl
theorem Out.bind_assoc {α β γ : Type} (x : Out α) (k : α → Env → Out β) (l : β → Env → Out γ) : (x.bind k).bind l = x.bind fun a e => (k a e).bind l := by cases x <;> rfl
@[simp] theorem Out.sbind_ok {α : Type} (a : α) (e : Env) (k : α → Env → SOut) : (Out.ok a e).sbind k = k a e := rfl
@[simp] theorem Out.sbind_exn {α : Type} (x : Exn) (e : Env) (k : α → Env → SOut) : (Out.exn x e).sbind k = .exn x e := rfl
@[simp] theorem Out.sbind_stuck {α : Type} (k : α → Env → SOut) : (Out.stuck).sbind k = .stuck := rfl
@[simp] theorem SOut.then_next (e : Env) (k : Env → SOut) : (SOut.next e).then k = k e := rfl
@[simp] theorem SOut.then_ret (p : Pl) (e : Env) (k : Env → SOut) : (SOut.ret p e).then k = .ret p e := rfl
@[simp] theorem SOut.then_brk (e : Env) (k : Env → SOut) : (SOut.brk e).then k = .brk e := rfl
@[simp] theorem SOut.then_cnt (e : Env) (k : Env → SOut) : (SOut.cnt e).then k = .cnt e := rfl
@[simp] theorem SOut.then_exn (x : Exn) (e : Env) (k : Env → SOut) : (SOut.exn x e).then k = .exn x e := rfl
@[simp] theorem SOut.then_stuck (k : Env → SOut) : (SOut.stuck).then k = .stuck := rfl
@[simp] theorem Out.of_some {α : Type} (a : α) (e : Env) : Out.of (some a) e = .ok a e := rfl
@[simp] theorem Out.of_none {α : Type} (e : Env) : Out.of (none : Option α) e = .stuck := rfl
/-- the place of an operand as it stands -/
def getE (e : Env) (i : Nat) (r : List Step) : Option Pl := e[i]?.bind fun p => getP p r
def setE (e : Env) (i : Nat) (r : List Step) (q : Pl) : Env :=
  match e[i]? with
  | some p => e.set i (setP p r q)
  | none => e
/-- the value of an operand as it stands -/
def peek (e : Env) : Opnd → Option Val
  | .at i r => (getE e i r).bind toVal
  | .tmp p => toVal p
/-- the value of an operand, which nothing changes from here on -/
def freeze (o : Opnd) (e : Env) : Out Val :=
  match o with
  | .at i r => match (getE e i r).bind toVal with
    | some v => .ok v (setE e i r (.val v))
    | none => .stuck
  | .tmp p => match toVal p with
    | some v => .ok v e
    | none => .stuck
/-- an operand to be stored: a fresh object as it is, all else by its value -/
def own (o : Opnd) (e : Env) : Out Pl :=
  match o with
  | .tmp p => match toVal p with
    | some _ => .ok p e
    | none => .stuck
  | .at i r => (freeze (.at i r) e).bind fun v e => .ok (.val v) e
end Ev
namespace Ev
open PySem PySem.Spec L2
structure Wd where
  K : PySem.W.Frag
  gf : Str → Option Addr
  cf : Str → Option Addr
  flds : List Str
  xf : Str → Option Addr
def keyVal : Key → Val
  | .inl i => .int i
  | .inr s => .str s
mutual
inductive Den (w : Wd) (F : Hp) : V → Val → Prop
  | non : Den w F .non .non
  | bl (b : Bool) : Den w F (.bl b) (.bl b)
  | int (i : Int) : Den w F (.int i) (.int i)
  | str (s : Str) : Den w F (.str s) (.str s)
  | tup {a : Addr} {vs : List V} {xs : List Val} : SqT w.K F a vs → Dens w F vs xs → Den w F (.ref a) (.tup xs)
  | lst {a : Addr} {vs : List V} {xs : List Val} : F a = some (.lst vs) → Dens w F vs xs → Den w F (.ref a) (.lst xs)
  | fzl {a : Addr} {vs : List V} {xs : List Val} : SqL w.K F a vs → Dens w F vs xs → Den w F (.ref a) (.fzl xs)
  | dct {a : Addr} {kvs : List (Key × V)} {ys : List (Val × Val)} : F a = some (.dK kvs) → DenK w F kvs ys → Den w F (.ref a) (.dct ys)
  | ins {a C dx : Addr} {c : Str} {fvs : List (Str × V)} {fs : List (Str × Val)} : w.cf c = some C → F a = some (.ins C dx fvs) → DenF w F fvs fs → Den w F (.ref a) (.ins c fs)
  | gl {a : Addr} {n : Str} : w.gf n = some a → Den w F (.ref a) (.gl n)
  | exc0 {a C : Addr} {c : Str} : w.xf c = some C → F a = some (exo a C none) → Den w F (.ref a) (.exc c [])
  | exc {a C dx : Addr} {c : Str} {fvs : List (Str × V)} {fs : List (Str × Val)} : w.xf c = some C → F a = some (exo a C (some dx)) → F dx = some (exd dx fvs) → DenF w F fvs fs → Den w F (.ref a) (.exc c fs)
inductive Dens (w : Wd) (F : Hp) : List V → List Val → Prop
  | nil : Dens w F [] []
  | cons {v : V} {x : Val} {vs : List V} {xs : List Val} : Den w F v x → Dens w F vs xs → Dens w F (v :: vs) (x :: xs)
inductive DenK (w : Wd) (F : Hp) : List (Key × V) → List (Val × Val) → Prop
  | nil : DenK w F [] []
  | cons {k : Key} {v : V} {x : Val} {vs : List (Key × V)} {xs : List (Val × Val)} : Den w F v x → DenK w F vs xs → DenK w F ((k, v) :: vs) ((keyVal k, x) :: xs)
inductive DenF (w : Wd) (F : Hp) : List (Str × V) → List (Str × Val) → Prop
  | nil : DenF w F [] []
  | cons {n : Str} {v : V} {x : Val} {vs : List (Str × V)} {xs : List (Str × Val)} : Den w F v x → DenF w F vs xs → DenF w F ((n, v) :: vs) ((n, x) :: xs)
end
theorem sqT_mono {K : PySem.W.Frag} {H H' : Hp} {a : Addr} {xs : List V} (e : Same H H') (h : SqT K H a xs) : SqT K H' a xs := by
  rcases h with (h | ⟨o, h⟩) | h
  · exact .inl (.inl (e _ _ h))
  · exact .inl (.inr ⟨o, e _ _ h⟩)
  · exact .inr h
mutual
theorem Den.mono {w : Wd} {F F' : Hp} (e : Same F F') : ∀ {v : V} {x : Val}, Den w F v x → Den w F' v x
  | _, _, .non => .non
  | _, _, .bl b => .bl b
  | _, _, .int i => .int i
  | _, _, .str s => .str s
  | _, _, .tup h d => .tup (sqT_mono e h) (Dens.mono e d)
  | _, _, .lst h d => .lst (e _ _ h) (Dens.mono e d)
  | _, _, .fzl h d => .fzl (e.seq h) (Dens.mono e d)
  | _, _, .dct h d => .dct (e _ _ h) (DenK.mono e d)
  | _, _, .ins c h d => .ins c (e _ _ h) (DenF.mono e d)
  | _, _, .gl h => .gl h
  | _, _, .exc0 c h => .exc0 c (e _ _ h)
  | _, _, .exc c h k d => .exc c (e _ _ h) (e _ _ k) (DenF.mono e d)
theorem Dens.mono {w : Wd} {F F' : Hp} (e : Same F F') : ∀ {v : List V} {x : List Val}, Dens w F v x → Dens w F' v x
  | _, _, .nil => .nil
  | _, _, .cons a b => .cons (Den.mono e a) (Dens.mono e b)
theorem DenK.mono {w : Wd} {F F' : Hp} (e : Same F F') : ∀ {v : List (Key × V)} {x : List (Val × Val)}, DenK w F v x → DenK w F' v x
  | _, _, .nil => .nil
  | _, _, .cons a b => .cons (Den.mono e a) (DenK.mono e b)
theorem DenF.mono {w : Wd} {F F' : Hp} (e : Same F F') : ∀ {v : List (Str × V)} {x : List (Str × Val)}, DenF w F v x → DenF w F' v x
  | _, _, .nil => .nil
  | _, _, .cons a b => .cons (Den.mono e a) (DenF.mono e b)
end
theorem Dens.length {w : Wd} {F : Hp} : ∀ {v : List V} {x : List Val}, Dens w F v x → v.length = x.length
  | _, _, .nil => rfl
  | _, _, .cons _ b => by rw [List.length_cons, List.length_cons, Dens.length b]
theorem Dens.append {w : Wd} {F : Hp} : ∀ {v v' : List V} {x x' : List Val}, Dens w F v x → Dens w F v' x' → Dens w F (v ++ v') (x ++ x')
  | _, _, _, _, .nil, h => h
  | _, _, _, _, .cons a b, h => .cons a (Dens.append b h)
theorem Dens.get {w : Wd} {F : Hp} : ∀ {v : List V} {x : List Val} {i : Nat} {y : Val}, Dens w F v x → x[i]? = some y → ∃ u, v[i]? = some u ∧ Den w F u y
  | _, _, _, _, .nil, h => by simp at h
  | _, _, 0, _, .cons a _, h => by simp at h; subst h; exact ⟨_, rfl, a⟩
  | _, _, i + 1, _, .cons _ b, h => by
    obtain ⟨u, h1, h2⟩ := Dens.get (i := i) b (by simpa using h)
    exact ⟨u, by simpa using h1, h2⟩
theorem Dens.set {w : Wd} {F : Hp} {u : V} {y : Val} (d : Den w F u y) : ∀ {v : List V} {x : List Val} (i : Nat), Dens w F v x → Dens w F (v.set i u) (x.set i y)
  | _, _, _, .nil => .nil
  | _, _, 0, .cons _ b => .cons d b
  | _, _, i + 1, .cons a b => .cons a (Dens.set d i b)
theorem Dens.drop {w : Wd} {F : Hp} : ∀ {v : List V} {x : List Val} (n : Nat), Dens w F v x → Dens w F (v.drop n) (x.drop n)
  | _, _, 0, h => h
  | _, _, _ + 1, .nil => .nil
  | _, _, n + 1, .cons _ b => Dens.drop n b
theorem Dens.take {w : Wd} {F : Hp} : ∀ {v : List V} {x : List Val} (n : Nat), Dens w F v x → Dens w F (v.take n) (x.take n)
  | _, _, 0, _ => .nil
  | _, _, _ + 1, .nil => .nil
  | _, _, n + 1, .cons a b => .cons a (Dens.take n b)
theorem DenF.lookup {w : Wd} {F : Hp} {n : Str} : ∀ {v : List (Str × V)} {x : List (Str × Val)} {y : Val}, DenF w F v x → x.lookup n = some y → ∃ u, v.lookup n = some u ∧ Den w F u y
  | _, _, _, .nil, h => by simp at h
  | _, _, _, .cons (n := m) a b, h => by
    simp only [List.lookup] at h ⊢
    split at h
    · cases h; exact ⟨_, rfl, a⟩
    · exact DenF.lookup b h
/-- a dict whose keys are texts -/
def recK {α : Type} (fs : List (Str × α)) : List (Key × α) := fs.map fun p => (.inr p.1, p.2)
theorem recK_inj {α : Type} : ∀ {fs fs' : List (Str × α)}, recK fs = recK fs' → fs = fs'
  | [], [], _ => rfl
  | [], _ :: _, h => by simp [recK] at h
  | _ :: _, [], h => by simp [recK] at h
  | (n, x) :: fs, (m, y) :: fs', h => by
    simp only [recK, List.map_cons, List.cons.injEq, Prod.mk.injEq, Sum.inr.injEq] at h
    obtain ⟨⟨h1, h2⟩, h3⟩ := h
    subst h1 h2
    rw [recK_inj (fs := fs) (fs' := fs') h3]
theorem DenF.toK {w : Wd} {F : Hp} : ∀ {v : List (Str × V)} {x : List (Str × Val)}, DenF w F v x → DenK w F (recK v) (x.map fun p => (.str p.1, p.2))
  | _, _, .nil => .nil
  | _, _, .cons (n := n) a b => .cons (k := .inr n) a (DenF.toK b)
mutual
def Rep (w : Wd) (F H : Hp) : Pl → V → (Addr → Prop) → Prop
  | .hole, _, _ => True
  | .val x, v, _ => Den w F v x
  | .lst xs, v, A => ∃ a vs, v = .ref a ∧ A a ∧ H a = some (.lst vs) ∧ Dens w F vs xs
  | .lstP ps, v, A => ∃ a vs, v = .ref a ∧ A a ∧ H a = some (.lst vs) ∧ ∃ B : Nat → Addr → Prop, (∀ i b, B i b → A b ∧ b ≠ a) ∧ (∀ i j b, B i b → B j b → i = j) ∧ Reps w F H ps vs B 0
  | .dct ys, v, A => ∃ a kvs, v = .ref a ∧ A a ∧ H a = some (.dK kvs) ∧ DenK w F kvs ys
  | .ins c fs, v, A => ∃ a C dx fvs, v = .ref a ∧ A a ∧ w.cf c = some C ∧ H a = some (.ins C dx fvs) ∧ ∃ B : Nat → Addr → Prop, (∀ i b, B i b → A b ∧ b ≠ a) ∧ (∀ i j b, B i b → B j b → i = j) ∧ RepF w F H fs fvs B 0
  | .rcd fs, v, A => ∃ a fvs, v = .ref a ∧ A a ∧ H a = some (.dK (recK fvs)) ∧ ∃ B : Nat → Addr → Prop, (∀ i b, B i b → A b ∧ b ≠ a) ∧ (∀ i j b, B i b → B j b → i = j) ∧ RepF w F H fs fvs B 0
def Reps (w : Wd) (F H : Hp) : List Pl → List V → (Nat → Addr → Prop) → Nat → Prop
  | [], vs, _, _ => vs = []
  | p :: ps, vs, B, n => ∃ v r, vs = v :: r ∧ Rep w F H p v (B n) ∧ Reps w F H ps r B (n + 1)
def RepF (w : Wd) (F H : Hp) : List (Str × Pl) → List (Str × V) → (Nat → Addr → Prop) → Nat → Prop
  | [], vs, _, _ => vs = []
  | (m, p) :: ps, vs, B, n => ∃ v r, vs = (m, v) :: r ∧ Rep w F H p v (B n) ∧ RepF w F H ps r B (n + 1)
end
mutual
theorem Rep.mono {w : Wd} {F F' H H' : Hp} (e : Same F F') : ∀ (p : Pl) {v : V} {A A' : Addr → Prop}, Rep w F H p v A → (∀ a, A a → ∀ o, H a = some o → H' a = some o) → (∀ a, A a → A' a) → Rep w F' H' p v A'
  | .hole, _, _, _, _, _, _ => by simp only [Rep]
  | .val x, _, _, _, h, _, _ => by
    simp only [Rep] at h ⊢; exact h.mono e
  | .lst xs, _, _, _, h, k, s => by
    simp only [Rep] at h ⊢
    obtain ⟨a, vs, e1, h1, h2, d⟩ := h
    exact ⟨a, vs, e1, s _ h1, k _ h1 _ h2, d.mono e⟩
  | .lstP ps, _, _, _, h, k, s => by
    simp only [Rep] at h ⊢
    obtain ⟨a, vs, e1, h1, h2, B, b1, b2, d⟩ := h
    exact ⟨a, vs, e1, s _ h1, k _ h1 _ h2, B, fun i b hb => ⟨s _ (b1 i b hb).1, (b1 i b hb).2⟩, b2, Reps.mono e ps d fun i a hi => k a (b1 i a hi).1⟩
  | .dct ys, _, _, _, h, k, s => by
    simp only [Rep] at h ⊢
    obtain ⟨a, vs, e1, h1, h2, d⟩ := h
    exact ⟨a, vs, e1, s _ h1, k _ h1 _ h2, d.mono e⟩
  | .ins c fs, _, _, _, h, k, s => by
    simp only [Rep] at h ⊢
    obtain ⟨a, C, dx, fvs, e1, h1, hc, h2, B, b1, b2, d⟩ := h
    exact ⟨a, C, dx, fvs, e1, s _ h1, hc, k _ h1 _ h2, B, fun i b hb => ⟨s _ (b1 i b hb).1, (b1 i b hb).2⟩, b2, RepF.mono e fs d fun i a hi => k a (b1 i a hi).1⟩
  | .rcd fs, _, _, _, h, k, s => by
    simp only [Rep] at h ⊢
    obtain ⟨a, fvs, e1, h1, h2, B, b1, b2, d⟩ := h
    exact ⟨a, fvs, e1, s _ h1, k _ h1 _ h2, B, fun i b hb => ⟨s _ (b1 i b hb).1, (b1 i b hb).2⟩, b2, RepF.mono e fs d fun i a hi => k a (b1 i a hi).1⟩
theorem Reps.mono {w : Wd} {F F' H H' : Hp} (e : Same F F') : ∀ (ps : List Pl) {vs : List V} {B : Nat → Addr → Prop} {n : Nat}, Reps w F H ps vs B n → (∀ i a, B i a → ∀ o, H a = some o → H' a = some o) → Reps w F' H' ps vs B n
  | [], _, _, _, h, _ => by simp only [Reps] at h ⊢; exact h
  | p :: ps, _, _, _, h, k => by
    simp only [Reps] at h ⊢
    obtain ⟨v, r, e1, h1, h2⟩ := h
    exact ⟨v, r, e1, Rep.mono e p h1 (k _) fun _ x => x, Reps.mono e ps h2 k⟩
theorem RepF.mono {w : Wd} {F F' H H' : Hp} (e : Same F F') : ∀ (ps : List (Str × Pl)) {vs : List (Str × V)} {B : Nat → Addr → Prop} {n : Nat}, RepF w F H ps vs B n → (∀ i a, B i a → ∀ o, H a = some o → H' a = some o) → RepF w F' H' ps vs B n
  | [], _, _, _, h, _ => by simp only [RepF] at h ⊢; exact h
  | (m, p) :: ps, _, _, _, h, k => by
    simp only [RepF] at h ⊢
    obtain ⟨v, r, e1, h1, h2⟩ := h
    exact ⟨v, r, e1, Rep.mono e p h1 (k _) fun _ x => x, RepF.mono e ps h2 k⟩
end
mutual
/-- a place's value, once its objects are frozen: F' has all of H that A owns -/
theorem Rep.den {w : Wd} {F F' H : Hp} (e : Same F F') : ∀ (p : Pl) {v : V} {A : Addr → Prop} {x : Val}, Rep w F H p v A → (∀ a, A a → ∀ o, H a = some o → F' a = some o) → toVal p = some x → Den w F' v x
  | .hole, _, _, _, _, _, t => by simp [toVal] at t
  | .val y, _, _, _, h, _, t => by
    simp only [Rep, toVal, Option.some.injEq] at h t; subst t; exact h.mono e
  | .lst xs, _, _, _, h, k, t => by
    simp only [Rep, toVal, Option.some.injEq] at h t; subst t
    obtain ⟨a, vs, e1, h1, h2, d⟩ := h
    subst e1
    exact .lst (k _ h1 _ h2) (d.mono e)
  | .lstP ps, _, _, _, h, k, t => by
    simp only [Rep, toVal] at h t
    obtain ⟨a, vs, e1, h1, h2, B, b1, b2, d⟩ := h
    subst e1
    cases q : toVals ps with
    | none => rw [q] at t; cases t
    | some xs =>
      rw [q] at t; cases t
      exact .lst (k _ h1 _ h2) (Reps.den e ps d (fun i a hi => k a (b1 i a hi).1) q)
  | .dct ys, _, _, _, h, k, t => by
    simp only [Rep, toVal, Option.some.injEq] at h t; subst t
    obtain ⟨a, vs, e1, h1, h2, d⟩ := h
    subst e1
    exact .dct (k _ h1 _ h2) (d.mono e)
  | .ins c fs, _, _, _, h, k, t => by
    simp only [Rep, toVal] at h t
    obtain ⟨a, C, dx, fvs, e1, h1, hc, h2, B, b1, b2, d⟩ := h
    subst e1
    cases q : toValF fs with
    | none => rw [q] at t; cases t
    | some xs =>
      rw [q] at t; cases t
      exact .ins hc (k _ h1 _ h2) (RepF.den e fs d (fun i a hi => k a (b1 i a hi).1) q)
  | .rcd fs, _, _, _, h, k, t => by
    simp only [Rep, toVal] at h t
    obtain ⟨a, fvs, e1, h1, h2, B, b1, b2, d⟩ := h
    subst e1
    cases q : toValF fs with
    | none => rw [q] at t; cases t
    | some xs =>
      rw [q] at t; cases t
      exact .dct (k _ h1 _ h2) (RepF.den e fs d (fun i a hi => k a (b1 i a hi).1) q).toK
theorem Reps.den {w : Wd} {F F' H : Hp} (e : Same F F') : ∀ (ps : List Pl) {vs : List V} {B : Nat → Addr → Prop} {n : Nat} {xs : List Val}, Reps w F H ps vs B n → (∀ i a, B i a → ∀ o, H a = some o → F' a = some o) → toVals ps = some xs → Dens w F' vs xs
  | [], _, _, _, _, h, _, t => by
    simp only [Reps, toVals, Option.some.injEq] at h t; subst h t; exact .nil
  | p :: ps, _, _, _, _, h, k, t => by
    simp only [Reps, toVals] at h t
    obtain ⟨v, r, e1, h1, h2⟩ := h
    subst e1
    cases q1 : toVal p with
    | none => rw [q1] at t; simp at t
    | some x =>
      cases q2 : toVals ps with
      | none => rw [q1, q2] at t; simp at t
      | some xs =>
        rw [q1, q2] at t
        simp at t
        subst t
        exact .cons (Rep.den e p h1 (k _) q1) (Reps.den e ps h2 k q2)
theorem RepF.den {w : Wd} {F F' H : Hp} (e : Same F F') : ∀ (ps : List (Str × Pl)) {vs : List (Str × V)} {B : Nat → Addr → Prop} {n : Nat} {xs : List (Str × Val)}, RepF w F H ps vs B n → (∀ i a, B i a → ∀ o, H a = some o → F' a = some o) → toValF ps = some xs → DenF w F' vs xs
  | [], _, _, _, _, h, _, t => by
    simp only [RepF, toValF, Option.some.injEq] at h t; subst h t; exact .nil
  | (m, p) :: ps, _, _, _, _, h, k, t => by
    simp only [RepF, toValF] at h t
    obtain ⟨v, r, e1, h1, h2⟩ := h
    subst e1
    cases q1 : toVal p with
    | none => rw [q1] at t; simp at t
    | some x =>
      cases q2 : toValF ps with
      | none => rw [q1, q2] at t; simp at t
      | some xs =>
        rw [q1, q2] at t
        simp at t
        subst t
        exact .cons (Rep.den e p h1 (k _) q1) (RepF.den e ps h2 k q2)
end
end Ev
namespace Ev
open PySem PySem.Spec L2
/-- from v along r one comes to u -/
def AtV (w : Wd) (H : Hp) : V → List Step → V → Prop
  | v, [], u => v = u
  | v, .f n :: r, u => ∃ a C dx fvs u1 c, v = .ref a ∧ w.cf c = some C ∧ H a = some (.ins C dx fvs) ∧ fvs.lookup n = some u1 ∧ AtV w H u1 r u
  | v, .i n :: r, u => ∃ a vs u1, v = .ref a ∧ H a = some (.lst vs) ∧ vs[n]? = some u1 ∧ AtV w H u1 r u
  | v, .k n :: r, u => ∃ a fvs u1, v = .ref a ∧ H a = some (.dK (recK fvs)) ∧ fvs.lookup n = some u1 ∧ AtV w H u1 r u
theorem AtV.mono {w : Wd} {H H' : Hp} (e : Same H H') : ∀ {r : List Step} {v u : V}, AtV w H v r u → AtV w H' v r u
  | [], _, _, h => h
  | .f n :: r, _, _, h => by
    obtain ⟨a, C, dx, fvs, u1, c, e1, hc, h1, l, h2⟩ := h
    exact ⟨a, C, dx, fvs, u1, c, e1, hc, e _ _ h1, l, AtV.mono e h2⟩
  | .i n :: r, _, _, h => by
    obtain ⟨a, vs, u1, e1, h1, l, h2⟩ := h
    exact ⟨a, vs, u1, e1, e _ _ h1, l, AtV.mono e h2⟩
  | .k n :: r, _, _, h => by
    obtain ⟨a, vs, u1, e1, h1, l, h2⟩ := h
    exact ⟨a, vs, u1, e1, e _ _ h1, l, AtV.mono e h2⟩
theorem AtV.unique {w : Wd} {H : Hp} : ∀ {r : List Step} {v u u' : V}, AtV w H v r u → AtV w H v r u' → u = u'
  | [], _, _, _, h, h' => h.symm.trans h'
  | .f n :: r, _, _, _, h, h' => by
    obtain ⟨a, C, dx, fvs, u1, c, e1, hc, h1, l, h2⟩ := h
    obtain ⟨a', C', dx', fvs', u1', c', e1', hc', h1', l', h2'⟩ := h'
    subst e1; cases e1'
    rw [h1] at h1'; cases h1'
    rw [l] at l'; cases l'
    exact AtV.unique h2 h2'
  | .i n :: r, _, _, _, h, h' => by
    obtain ⟨a, vs, u1, e1, h1, l, h2⟩ := h
    obtain ⟨a', vs', u1', e1', h1', l', h2'⟩ := h'
    subst e1; cases e1'
    rw [h1] at h1'; cases h1'
    rw [l] at l'; cases l'
    exact AtV.unique h2 h2'
  | .k n :: r, _, _, _, h, h' => by
    obtain ⟨a, vs, u1, e1, h1, l, h2⟩ := h
    obtain ⟨a', vs', u1', e1', h1', l', h2'⟩ := h'
    subst e1; cases e1'
    rw [h1] at h1'
    have := recK_inj (HO.dK.inj (Option.some.inj h1'))
    subst this
    rw [l] at l'; cases l'
    exact AtV.unique h2 h2'
theorem Den.atV {w : Wd} {F H : Hp} (e : Same F H) : ∀ {r : List Step} {x : Val} {v : V} {q : Pl}, Den w F v x → getP (.val x) r = some q → ∃ u y, q = .val y ∧ AtV w H v r u ∧ Den w F u y
  | [], x, v, q, d, g => by simp only [getP, Option.some.injEq] at g; exact ⟨v, x, g.symm, rfl, d⟩
  | .f n :: r, x, v, q, d, g => by
    cases d with
    | ins hc h df =>
      rename_i a C dx c fvs fs
      simp only [getP] at g
      cases l : fs.lookup n with
      | none => rw [l] at g; simp at g
      | some y =>
        rw [l] at g
        simp only [Option.bind_some] at g
        obtain ⟨u1, l1, d1⟩ := DenF.lookup df l
        obtain ⟨u, z, e1, a1, d2⟩ := Den.atV e d1 g
        exact ⟨u, z, e1, ⟨_, _, _, _, _, _, rfl, hc, e _ _ h, l1, a1⟩, d2⟩
    | _ => simp [getP] at g
  | .i n :: r, x, v, q, d, g => by cases d <;> simp [getP] at g
  | .k n :: r, x, v, q, d, g => by cases d <;> simp [getP] at g
/-- a path through frozen objects leads to one thing, whatever the heap around -/
theorem Den.atVF {w : Wd} {F : Hp} : ∀ {r : List Step} {x : Val} {v : V} {q : Pl}, Den w F v x → getP (.val x) r = some q → ∃ u0, ∀ (H : Hp) (u : V), Same F H → AtV w H v r u → u = u0
  | [], x, v, q, d, g => ⟨v, fun H u _ h => h.symm⟩
  | .f n :: r, x, v, q, d, g => by
    cases d with
    | ins hc h df =>
      rename_i a C dx c fvs fs
      simp only [getP] at g
      cases l : fs.lookup n with
      | none => rw [l] at g; simp at g
      | some y =>
        rw [l] at g
        simp only [Option.bind_some] at g
        obtain ⟨u1, l1, d1⟩ := DenF.lookup df l
        obtain ⟨u0, hu⟩ := Den.atVF d1 g
        refine ⟨u0, fun H u e z => ?_⟩
        obtain ⟨a', C', dx', fvs', u1', c', e1, hc', h1, l', h2⟩ := z
        cases e1
        rw [e _ _ h] at h1; cases h1
        rw [l1] at l'; cases l'
        exact hu H u e h2
    | _ => simp [getP] at g
  | .i n :: r, x, v, q, d, g => by cases d <;> simp [getP] at g
  | .k n :: r, x, v, q, d, g => by cases d <;> simp [getP] at g
/-- A without B, and B' -/
def swp (A B B' : Addr → Prop) : Addr → Prop := fun a => (A a ∧ ¬ B a) ∨ B' a
theorem Reps.get {w : Wd} {F H : Hp} : ∀ {ps : List Pl} {vs : List V} {B : Nat → Addr → Prop} {n i : Nat} {p : Pl}, Reps w F H ps vs B n → ps[i]? = some p → ∃ v, vs[i]? = some v ∧ Rep w F H p v (B (n + i))
  | [], _, _, _, _, _, _, g => by simp at g
  | q :: ps, _, B, n, 0, p, h, g => by
    simp only [Reps] at h
    obtain ⟨v, r, e1, h1, h2⟩ := h
    subst e1
    simp at g; subst g
    exact ⟨v, by simp, h1⟩
  | q :: ps, _, B, n, i + 1, p, h, g => by
    simp only [Reps] at h
    obtain ⟨v, r, e1, h1, h2⟩ := h
    subst e1
    obtain ⟨u, l, k⟩ := Reps.get (i := i) h2 (by simpa using g)
    exact ⟨u, by simpa using l, by rw [show n + (i + 1) = n + 1 + i by omega]; exact k⟩
theorem RepF.get {w : Wd} {F H : Hp} {m : Str} : ∀ {fs : List (Str × Pl)} {vs : List (Str × V)} {B : Nat → Addr → Prop} {n : Nat} {p : Pl}, RepF w F H fs vs B n → fs.lookup m = some p → ∃ v i, vs.lookup m = some v ∧ Rep w F H p v (B (n + i)) ∧ (fs.map (·.1)).findIdx (· == m) = i
  | [], _, _, _, _, _, g => by simp at g
  | (k, q) :: fs, _, B, n, p, h, g => by
    simp only [RepF] at h
    obtain ⟨v, r, e1, h1, h2⟩ := h
    subst e1
    by_cases hk : m = k
    · subst hk
      simp [List.lookup] at g; subst g
      exact ⟨v, 0, by simp [List.lookup], h1, by simp [List.findIdx_cons]⟩
    · have hb : (m == k) = false := by simpa using hk
      have hb' : (k == m) = false := by simpa using (fun z => hk z.symm)
      simp only [List.lookup, hb] at g ⊢
      obtain ⟨u, i, l, k1, k2⟩ := RepF.get h2 g
      refine ⟨u, i + 1, l, by rw [show n + (i + 1) = n + 1 + i by omega]; exact k1, ?_⟩
      simp only [List.map_cons, List.findIdx_cons, hb', cond_false, k2]
theorem Reps.put {w : Wd} {F F' H H' : Hp} (e : Same F F') : ∀ {ps : List Pl} {vs : List V} {B B' : Nat → Addr → Prop} {n i : Nat} {q : Pl} {u : V}, Reps w F H ps vs B n → vs[i]? = some u → Rep w F' H' q u (B' (n + i)) →
    (∀ j, j ≠ n + i → ∀ a, B j a → ∀ o, H a = some o → H' a = some o) → (∀ j, j ≠ n + i → ∀ a, B j a → B' j a) → Reps w F' H' (ps.set i q) vs B' n
  | [], _, _, _, _, _, _, _, h, g, _, _, _ => by simp only [Reps] at h; subst h; simp at g
  | p :: ps, _, B, B', n, 0, q, u, h, g, k, s, t => by
    simp only [Reps] at h
    obtain ⟨v, r, e1, h1, h2⟩ := h
    subst e1
    simp at g; subst g
    simp only [List.set_cons_zero, Reps]
    refine ⟨v, r, rfl, k, ?_⟩
    have : ∀ {ps : List Pl} {r : List V} {m : Nat}, n < m → Reps w F H ps r B m → Reps w F' H' ps r B' m := by
      intro ps
      induction ps with
      | nil => intro r m _ h; simp only [Reps] at h ⊢; exact h
      | cons p ps ih =>
        intro r m hm h
        simp only [Reps] at h ⊢
        obtain ⟨v, r, e1, h1, h2⟩ := h
        exact ⟨v, r, e1, Rep.mono e p h1 (s m (by omega)) (t m (by omega)), ih (by omega) h2⟩
    exact this (Nat.lt_succ_self n) h2
  | p :: ps, _, B, B', n, i + 1, q, u, h, g, k, s, t => by
    simp only [Reps] at h
    obtain ⟨v, r, e1, h1, h2⟩ := h
    subst e1
    simp only [List.set_cons_succ, Reps]
    refine ⟨v, r, rfl, Rep.mono e p h1 (s n (by omega)) (t n (by omega)), Reps.put (i := i) e h2 (by simpa using g) (by rw [show n + 1 + i = n + (i + 1) by omega]; exact k) (fun j hj => s j (by omega)) (fun j hj => t j (by omega))⟩
theorem RepF.put {w : Wd} {F F' H H' : Hp} (e : Same F F') {m : Str} : ∀ {ps : List (Str × Pl)} {vs : List (Str × V)} {B B' : Nat → Addr → Prop} {n i : Nat} {q : Pl} {u : V}, RepF w F H ps vs B n → vs.lookup m = some u → (ps.map (·.1)).findIdx (· == m) = i → Rep w F' H' q u (B' (n + i)) →
    (∀ j, j ≠ n + i → ∀ a, B j a → ∀ o, H a = some o → H' a = some o) → (∀ j, j ≠ n + i → ∀ a, B j a → B' j a) → RepF w F' H' (putF m q ps) vs B' n
  | [], _, _, _, _, _, _, _, h, g, _, _, _, _ => by simp only [RepF] at h; subst h; simp at g
  | (k, p) :: ps, _, B, B', n, i, q, u, h, g, f, kk, s, t => by
    simp only [RepF] at h
    obtain ⟨v, r, e1, h1, h2⟩ := h
    subst e1
    by_cases hk : k = m
    · subst hk
      simp [List.lookup] at g; subst g
      simp [List.findIdx_cons] at f; subst f
      simp only [putF, if_true, RepF]
      refine ⟨v, r, rfl, kk, ?_⟩
      have : ∀ {ps : List (Str × Pl)} {r : List (Str × V)} {m : Nat}, n < m → RepF w F H ps r B m → RepF w F' H' ps r B' m := by
        intro ps
        induction ps with
        | nil => intro r m _ h; simp only [RepF] at h ⊢; exact h
        | cons p ps ih =>
          intro r m hm h
          obtain ⟨k', p⟩ := p
          simp only [RepF] at h ⊢
          obtain ⟨v, r, e1, h1, h2⟩ := h
          exact ⟨v, r, e1, Rep.mono e p h1 (s m (by omega)) (t m (by omega)), ih (by omega) h2⟩
      exact this (Nat.lt_succ_self n) h2
    · have hb : (m == k) = false := by simpa using (fun z => hk z.symm)
      have hb' : (k == m) = false := by simpa using hk
      simp only [List.lookup, hb] at g
      simp only [List.map_cons, List.findIdx_cons, hb', cond_false] at f
      subst f
      simp only [putF, if_neg hk, RepF]
      exact ⟨v, r, rfl, Rep.mono e p h1 (s n (by omega)) (t n (by omega)), RepF.put (i := (ps.map (·.1)).findIdx (· == m)) e h2 g rfl (by rw [show ∀ z, n + 1 + z = n + (z + 1) by intro z; omega]; exact kk) (fun j hj => s j (by omega)) (fun j hj => t j (by omega))⟩
/-- the i-th owner's objects exchanged -/
def subB (B : Nat → Addr → Prop) (i : Nat) (X : Addr → Prop) : Nat → Addr → Prop := fun j => if j = i then X else B j
theorem subB_same {B : Nat → Addr → Prop} {i : Nat} {X : Addr → Prop} : subB B i X i = X := if_pos rfl
theorem subB_ne {B : Nat → Addr → Prop} {i j : Nat} {X : Addr → Prop} (h : j ≠ i) : subB B i X j = B j := if_neg h
theorem subB_in {A Aq A' : Addr → Prop} {a : Addr} {B : Nat → Addr → Prop} {i : Nat} (b1 : ∀ i b, B i b → A b ∧ b ≠ a) (b2 : ∀ i j b, B i b → B j b → i = j) (sub : ∀ a, Aq a → B i a) (h1 : A a) (naq : ¬ Aq a) (dis : ∀ a, A' a → A a → Aq a) :
    ∀ j b, subB B i (swp (B i) Aq A') j b → swp A Aq A' b ∧ b ≠ a := fun j b hb => by
  by_cases hj : j = i
  · subst hj
    rw [subB_same] at hb
    rcases hb with hb | hb
    · exact ⟨.inl ⟨(b1 j b hb.1).1, hb.2⟩, (b1 j b hb.1).2⟩
    · refine ⟨.inr hb, fun z => ?_⟩
      subst z
      exact naq (dis _ hb h1)
  · rw [subB_ne hj] at hb
    exact ⟨.inl ⟨(b1 j b hb).1, fun z => hj (b2 j i b hb (sub b z))⟩, (b1 j b hb).2⟩
theorem subB_dis {A Aq A' : Addr → Prop} {a : Addr} {B : Nat → Addr → Prop} {i : Nat} (b1 : ∀ i b, B i b → A b ∧ b ≠ a) (b2 : ∀ i j b, B i b → B j b → i = j) (sub : ∀ a, Aq a → B i a) (dis : ∀ a, A' a → A a → Aq a) :
    ∀ j k b, subB B i (swp (B i) Aq A') j b → subB B i (swp (B i) Aq A') k b → j = k := fun j k b hj hk => by
  by_cases ej : j = i
  · by_cases ek : k = i
    · rw [ej, ek]
    · subst ej
      rw [subB_same] at hj
      rw [subB_ne ek] at hk
      rcases hj with hj | hj
      · exact b2 j k b hj.1 hk
      · exact (ek (b2 k j b hk (sub b (dis b hj (b1 k b hk).1)))).elim
  · by_cases ek : k = i
    · subst ek
      rw [subB_ne ej] at hj
      rw [subB_same] at hk
      rcases hk with hk | hk
      · exact b2 j k b hj hk.1
      · exact (ej (b2 j k b hj (sub b (dis b hk (b1 j b hj).1)))).elim
    · rw [subB_ne ej] at hj
      rw [subB_ne ek] at hk
      exact b2 j k b hj hk
/-- a part of a place: what stands there, and how another thing is put there -/
structure Part (w : Wd) (F H : Hp) (p : Pl) (v : V) (A : Addr → Prop) (r : List Step) (q : Pl) (u : V) (Aq : Addr → Prop) : Prop where
  sub : ∀ a, Aq a → A a
  at_ : AtV w H v r u
  rep : Rep w F H q u Aq
  stay : ∀ H' : Hp, Same F H' → (∀ a, A a → ¬ Aq a → ∀ o, H a = some o → H' a = some o) → AtV w H' v r u
  put : ∀ (F' H' : Hp) (q' : Pl) (A' : Addr → Prop), Same F F' → (∀ a, A a → ¬ Aq a → ∀ o, H a = some o → H' a = some o) → (∀ a, A' a → A a → Aq a) → Rep w F' H' q' u A' → Rep w F' H' (setP p r q') v (swp A Aq A')
theorem part {w : Wd} {F H : Hp} (eF : Same F H) : ∀ (r : List Step) (p : Pl) {v : V} {A : Addr → Prop} {q : Pl}, Rep w F H p v A → getP p r = some q → ∃ u Aq, Part w F H p v A r q u Aq
  | [], p, v, A, q, h, g => by
    simp only [getP, Option.some.injEq] at g
    subst g
    exact ⟨v, A, fun _ x => x, rfl, h, fun _ _ _ => rfl, fun F' H' q' A' _ _ _ h' => by
      simp only [setP]
      exact Rep.mono (Same.refl _) q' h' (fun _ _ _ x => x) fun a x => .inr x⟩
  | .f n :: r, .ins c fs, v, A, q, h, g => by
    simp only [getP] at g
    cases l : fs.lookup n with
    | none => rw [l] at g; simp at g
    | some p1 =>
      rw [l] at g
      simp only [Option.bind_some] at g
      simp only [Rep] at h
      obtain ⟨a, C, dx, fvs, e1, h1, hc, h2, B, b1, b2, d⟩ := h
      subst e1
      obtain ⟨v1, i, l1, k1, k2⟩ := RepF.get d l
      rw [Nat.zero_add] at k1
      obtain ⟨u, Aq, P⟩ := part eF r p1 k1 g
      refine ⟨u, Aq, fun b hb => (b1 i b (P.sub b hb)).1, ⟨a, C, dx, fvs, v1, c, rfl, hc, h2, l1, P.at_⟩, P.rep, fun H' eF' keep => ⟨a, C, dx, fvs, v1, c, rfl, hc, keep a h1 (fun z => (b1 i a (P.sub a z)).2 rfl) _ h2, l1, P.stay H' eF' fun b hb nb o ho => keep b (b1 i b hb).1 nb o ho⟩, fun F' H' q' A' eF' keep dis h' => ?_⟩
      have naq : ¬ Aq a := fun z => (b1 i a (P.sub a z)).2 rfl
      have hq := P.put F' H' q' A' eF' (fun b hb nb o ho => keep b (b1 i b hb).1 nb o ho) (fun b hb hb2 => dis b hb (b1 i b hb2).1) h'
      simp only [setP, l, Rep]
      refine ⟨a, C, dx, fvs, rfl, .inl ⟨h1, naq⟩, hc, keep a h1 naq _ h2, subB B i (swp (B i) Aq A'), subB_in b1 b2 P.sub h1 naq dis, subB_dis (A := A) (a := a) b1 b2 P.sub dis, ?_⟩
      · refine RepF.put eF' (i := i) d l1 k2 ?_ (fun j hj b hb o ho => ?_) (fun j hj b hb => ?_)
        · rw [Nat.zero_add, subB_same]; exact hq
        · rw [Nat.zero_add] at hj
          exact keep b (b1 j b hb).1 (fun z => hj (b2 j i b hb (P.sub b z))) o ho
        · rw [Nat.zero_add] at hj
          rw [subB_ne hj]; exact hb
  | .k n :: r, .rcd fs, v, A, q, h, g => by
    simp only [getP] at g
    cases l : fs.lookup n with
    | none => rw [l] at g; simp at g
    | some p1 =>
      rw [l] at g
      simp only [Option.bind_some] at g
      simp only [Rep] at h
      obtain ⟨a, fvs, e1, h1, h2, B, b1, b2, d⟩ := h
      subst e1
      obtain ⟨v1, i, l1, k1, k2⟩ := RepF.get d l
      rw [Nat.zero_add] at k1
      obtain ⟨u, Aq, P⟩ := part eF r p1 k1 g
      refine ⟨u, Aq, fun b hb => (b1 i b (P.sub b hb)).1, ⟨a, fvs, v1, rfl, h2, l1, P.at_⟩, P.rep, fun H' eF' keep => ⟨a, fvs, v1, rfl, keep a h1 (fun z => (b1 i a (P.sub a z)).2 rfl) _ h2, l1, P.stay H' eF' fun b hb nb o ho => keep b (b1 i b hb).1 nb o ho⟩, fun F' H' q' A' eF' keep dis h' => ?_⟩
      have naq : ¬ Aq a := fun z => (b1 i a (P.sub a z)).2 rfl
      have hq := P.put F' H' q' A' eF' (fun b hb nb o ho => keep b (b1 i b hb).1 nb o ho) (fun b hb hb2 => dis b hb (b1 i b hb2).1) h'
      simp only [setP, l, Rep]
      refine ⟨a, fvs, rfl, .inl ⟨h1, naq⟩, keep a h1 naq _ h2, subB B i (swp (B i) Aq A'), subB_in b1 b2 P.sub h1 naq dis, subB_dis (A := A) (a := a) b1 b2 P.sub dis, ?_⟩
      · refine RepF.put eF' (i := i) d l1 k2 ?_ (fun j hj b hb o ho => ?_) (fun j hj b hb => ?_)
        · rw [Nat.zero_add, subB_same]; exact hq
        · rw [Nat.zero_add] at hj
          exact keep b (b1 j b hb).1 (fun z => hj (b2 j i b hb (P.sub b z))) o ho
        · rw [Nat.zero_add] at hj
          rw [subB_ne hj]; exact hb
  | .i n :: r, .lstP ps, v, A, q, h, g => by
    simp only [getP] at g
    cases l : ps[n]? with
    | none => rw [l] at g; simp at g
    | some p1 =>
      rw [l] at g
      simp only [Option.bind_some] at g
      simp only [Rep] at h
      obtain ⟨a, vs, e1, h1, h2, B, b1, b2, d⟩ := h
      subst e1
      obtain ⟨v1, l1, k1⟩ := Reps.get d l
      rw [Nat.zero_add] at k1
      obtain ⟨u, Aq, P⟩ := part eF r p1 k1 g
      refine ⟨u, Aq, fun b hb => (b1 n b (P.sub b hb)).1, ⟨a, vs, v1, rfl, h2, l1, P.at_⟩, P.rep, fun H' eF' keep => ⟨a, vs, v1, rfl, keep a h1 (fun z => (b1 n a (P.sub a z)).2 rfl) _ h2, l1, P.stay H' eF' fun b hb nb o ho => keep b (b1 n b hb).1 nb o ho⟩, fun F' H' q' A' eF' keep dis h' => ?_⟩
      have naq : ¬ Aq a := fun z => (b1 n a (P.sub a z)).2 rfl
      have hq := P.put F' H' q' A' eF' (fun b hb nb o ho => keep b (b1 n b hb).1 nb o ho) (fun b hb hb2 => dis b hb (b1 n b hb2).1) h'
      simp only [setP, l, Rep]
      refine ⟨a, vs, rfl, .inl ⟨h1, naq⟩, keep a h1 naq _ h2, subB B n (swp (B n) Aq A'), subB_in b1 b2 P.sub h1 naq dis, subB_dis (A := A) (a := a) b1 b2 P.sub dis, ?_⟩
      · refine Reps.put eF' (i := n) d l1 ?_ (fun j hj b hb o ho => ?_) (fun j hj b hb => ?_)
        · rw [Nat.zero_add, subB_same]; exact hq
        · rw [Nat.zero_add] at hj
          exact keep b (b1 j b hb).1 (fun z => hj (b2 j n b hb (P.sub b z))) o ho
        · rw [Nat.zero_add] at hj
          rw [subB_ne hj]; exact hb
  | .f n :: r, .val x, v, A, q, h, g => by
    simp only [Rep] at h
    obtain ⟨u, y, e1, a1, d1⟩ := Den.atV eF h g
    subst e1
    refine ⟨u, fun _ => False, fun _ z => z.elim, a1, by simp only [Rep]; exact d1, fun H' eF' _ => ?_, fun F' H' q' A' eF' keep dis h' => ?_⟩
    · obtain ⟨u', y', e2, a2, d2⟩ := Den.atV eF' h g
      have : u' = u := by
        obtain ⟨u0, q⟩ := Den.atVF h g
        exact (q _ _ eF' a2).trans (q _ _ eF a1).symm
      rw [← this]; exact a2
    · simp only [setP, Rep]
      exact h.mono eF'
  | .f n :: r, .hole, v, A, q, h, g => by simp [getP] at g
  | .f n :: r, .lst _, v, A, q, h, g => by simp [getP] at g
  | .f n :: r, .lstP _, v, A, q, h, g => by simp [getP] at g
  | .f n :: r, .dct _, v, A, q, h, g => by simp [getP] at g
  | .i n :: r, .hole, v, A, q, h, g => by simp [getP] at g
  | .i n :: r, .val _, v, A, q, h, g => by simp [getP] at g
  | .i n :: r, .lst _, v, A, q, h, g => by simp [getP] at g
  | .i n :: r, .dct _, v, A, q, h, g => by simp [getP] at g
  | .i n :: r, .ins _ _, v, A, q, h, g => by simp [getP] at g
  | .i n :: r, .rcd _, v, A, q, h, g => by simp [getP] at g
  | .f n :: r, .rcd _, v, A, q, h, g => by simp [getP] at g
  | .k n :: r, .hole, v, A, q, h, g => by simp [getP] at g
  | .k n :: r, .val _, v, A, q, h, g => by simp [getP] at g
  | .k n :: r, .lst _, v, A, q, h, g => by simp [getP] at g
  | .k n :: r, .lstP _, v, A, q, h, g => by simp [getP] at g
  | .k n :: r, .dct _, v, A, q, h, g => by simp [getP] at g
  | .k n :: r, .ins _ _, v, A, q, h, g => by simp [getP] at g
end Ev
namespace Ev
open PySem PySem.Spec L2
inductive Lab where
  | slot (i : Nat) | tmp (j : Nat)
  deriving DecidableEq
/-- what a body may lean on: the heap at its entry, what it must leave as it is, what it must not freeze, the slots that stay -/
structure Ground where
  H0 : Hp
  out : Addr → Prop
  av : Addr → Prop
  keep : Nat → Option V
def RepO (w : Wd) (F H : Hp) (p : Pl) (o : Option (Option V)) (A : Addr → Prop) : Prop := p = .hole ∨ ∃ v, o = some (some v) ∧ Rep w F H p v A
def RepT (w : Wd) (F H : Hp) (lab : Addr → Option Lab) : List (V × Pl) → Prop
  | [] => True
  | (v, p) :: ts => Rep w F H p v (fun a => lab a = some (.tmp ts.length)) ∧ RepT w F H lab ts
structure Cfg (w : Wd) (G : Ground) (F : Hp) (lab : Addr → Option Lab) (σ : St) (H : Hp) (env : Env) (ts : List (V × Pl)) : Prop where
  fH : Same F H
  own : ∀ a l, lab a = some l → F a = none ∧ ¬ G.out a ∧ H a ≠ none
  av : ∀ a, G.av a → F a = none
  avO : ∀ a, G.av a → G.out a
  out : ∀ a o, G.out a → G.H0 a = some o → H a = some o
  outH : ∀ a, G.out a → G.H0 a ≠ none
  pres : ∀ a, G.H0 a ≠ none → H a ≠ none
  slots : ∀ i p, env[i]? = some p → RepO w F H p σ[i]? (fun a => lab a = some (.slot i))
  temps : RepT w F H lab ts
  keep : ∀ i v, G.keep i = some v → σ[i]? = some (some v)
  len : env.length = σ.length
def CfgE (w : Wd) (G : Ground) (σ : St) (H : Hp) (env : Env) (ts : List (V × Pl)) : Prop := ∃ F lab, Cfg w G F lab σ H env ts
/-- where an operand stands -/
def AtS (w : Wd) (σ : St) (H : Hp) (i : Nat) (r : List Step) (u : V) : Prop := ∃ v, σ[i]? = some (some v) ∧ AtV w H v r u
section
variable {w : Wd} {G : Ground} {F : Hp} {lab : Addr → Option Lab} {σ : St} {H : Hp} {env : Env} {ts : List (V × Pl)} {v u : V} {p q : Pl} {x : Val}
theorem RepO.mono {F' H' : Hp} {o : Option (Option V)} {A A' : Addr → Prop} (e : Same F F') (h : RepO w F H p o A) (k : ∀ a, A a → ∀ o, H a = some o → H' a = some o) (s : ∀ a, A a → A' a) : RepO w F' H' p o A' := by
  rcases h with h | ⟨v, h1, h2⟩
  · exact .inl h
  · exact .inr ⟨v, h1, Rep.mono e p h2 k s⟩
theorem RepT.mono {F' H' : Hp} {lab' : Addr → Option Lab} (e : Same F F') : ∀ {ts : List (V × Pl)}, RepT w F H lab ts → (∀ a j, j < ts.length → lab a = some (.tmp j) → lab' a = some (.tmp j) ∧ ∀ o, H a = some o → H' a = some o) → RepT w F' H' lab' ts
  | [], _, _ => trivial
  | (v, p) :: ts, h, k => ⟨Rep.mono e p h.1 (fun a ha => (k a ts.length (by simp) ha).2) fun a ha => (k a ts.length (by simp) ha).1, RepT.mono e h.2 fun a j hj => k a j (by rw [List.length_cons]; omega)⟩
theorem Cfg.fresh (C : Cfg w G F lab σ H env ts) {p : Addr} (hp : H p = none) : F p = none ∧ lab p = none ∧ ¬ G.out p ∧ G.H0 p = none := by
  have h0 : G.H0 p = none := by
    cases e : G.H0 p with
    | none => rfl
    | some o => exact absurd hp (C.pres p (by rw [e]; simp))
  refine ⟨C.fH.free hp, ?_, fun z => C.outH p z h0, h0⟩
  cases e : lab p with
  | none => rfl
  | some l => exact absurd hp (C.own p l e).2.2
theorem Cfg.push (C : Cfg w G F lab σ H env ts) (d : Den w F v x) : Cfg w G F lab σ H env ((v, .val x) :: ts) :=
  { C with temps := ⟨by simp only [Rep]; exact d, C.temps⟩ }
theorem Cfg.hole (C : Cfg w G F lab σ H env ts) (v : V) : Cfg w G F lab σ H env ((v, .hole) :: ts) :=
  { C with temps := ⟨by simp only [Rep], C.temps⟩ }
theorem Cfg.drop (C : Cfg w G F lab σ H env ((v, p) :: ts)) : Cfg w G F lab σ H env ts := { C with temps := C.temps.2 }
theorem same_new {H : Hp} {p : Addr} {o : HO} (h : H p = none) : Same H (upd H p o) := fun b x e => by
  rw [upd_ne (ne_of_none e h)]
  exact e
/-- a new object that is frozen at once -/
theorem Cfg.newF (C : Cfg w G F lab σ H env ts) {p : Addr} {o : HO} (hp : H p = none) : Cfg w G (upd F p o) lab σ (upd H p o) env ts := by
  obtain ⟨f1, f2, f3, f4⟩ := C.fresh hp
  have eF : Same F (upd F p o) := same_new f1
  have eH : Same H (upd H p o) := same_new hp
  refine ⟨fun b u e => ?_, fun a l e => ?_, fun a e => ?_, C.avO, fun a o' e1 e2 => eH _ _ (C.out a o' e1 e2), C.outH, fun a e => ?_, fun i p' e => (C.slots i p' e).mono eF (fun a _ o h => eH _ _ h) fun a h => h, C.temps.mono eF fun a j _ h => ⟨h, fun o e => eH _ _ e⟩, C.keep, C.len⟩
  · by_cases hb : b = p
    · subst hb; rw [upd_same] at e ⊢; exact e
    · rw [upd_ne hb] at e ⊢; exact C.fH _ _ e
  · obtain ⟨g1, g2, g3⟩ := C.own a l e
    have ne : a ≠ p := fun z => by subst z; exact g3 hp
    exact ⟨by rw [upd_ne ne]; exact g1, g2, by rw [upd_ne ne]; exact g3⟩
  · have ne : a ≠ p := fun z => by subst z; exact f3 (C.avO _ e)
    rw [upd_ne ne]; exact C.av a e
  · by_cases hb : a = p
    · subst hb; rw [upd_same]; simp
    · rw [upd_ne hb]; exact C.pres a e
/-- a new object that the top temporary owns -/
theorem Cfg.newO (C : Cfg w G F lab σ H env ts) {p : Addr} {o : HO} {pl : Pl} (hp : H p = none) (r : Rep w F (upd H p o) pl (.ref p) (fun a => a = p)) : CfgE w G σ (upd H p o) env ((.ref p, pl) :: ts) := by
  obtain ⟨f1, f2, f3, f4⟩ := C.fresh hp
  have eH : Same H (upd H p o) := same_new hp
  have nl : ∀ a l, lab a = some l → a ≠ p := fun a l e z => by subst z; rw [f2] at e; cases e
  refine ⟨F, fun a => if a = p then some (.tmp ts.length) else lab a, ⟨C.fH.trans eH, fun a l e => ?_, C.av, C.avO, fun a o' e1 e2 => eH _ _ (C.out a o' e1 e2), C.outH, fun a e => ?_, fun i p' e => (C.slots i p' e).mono (Same.refl _) (fun a _ o h => eH _ _ h) fun a h => ?_,
    ⟨Rep.mono (Same.refl _) pl r (fun _ _ _ h => h) fun a h => ?_, C.temps.mono (Same.refl _) fun a j _ h => ⟨?_, fun o e => eH _ _ e⟩⟩, C.keep, C.len⟩⟩
  · by_cases hb : a = p
    · subst hb; exact ⟨f1, f3, by rw [upd_same]; simp⟩
    · simp only [if_neg hb] at e
      obtain ⟨g1, g2, g3⟩ := C.own a l e
      exact ⟨g1, g2, by rw [upd_ne hb]; exact g3⟩
  · by_cases hb : a = p
    · subst hb; rw [upd_same]; simp
    · rw [upd_ne hb]; exact C.pres a e
  · show (if a = p then _ else lab a) = _
    rw [if_neg (nl _ _ h)]; exact h
  · show (if a = p then _ else lab a) = _
    rw [if_pos h]
  · show (if a = p then _ else lab a) = _
    rw [if_neg (nl _ _ h)]; exact h
/-- all that the predicate B tells is frozen -/
noncomputable def frzF (F H : Hp) (B : Addr → Prop) : Hp := fun a => open Classical in if B a then H a else F a
noncomputable def frzL (lab : Addr → Option Lab) (B : Addr → Prop) : Addr → Option Lab := fun a => open Classical in if B a then none else lab a
theorem frzF_in {B : Addr → Prop} {a : Addr} (h : B a) : frzF F H B a = H a := if_pos h
theorem frzF_out {B : Addr → Prop} {a : Addr} (h : ¬ B a) : frzF F H B a = F a := if_neg h
theorem frzL_in {B : Addr → Prop} {a : Addr} (h : B a) : frzL lab B a = none := if_pos h
theorem frzL_out {B : Addr → Prop} {a : Addr} (h : ¬ B a) : frzL lab B a = lab a := if_neg h
theorem Cfg.frz_same (C : Cfg w G F lab σ H env ts) (B : Addr → Prop) : Same F (frzF F H B) := fun a o e => by
  by_cases h : B a
  · rw [frzF_in h]; exact C.fH _ _ e
  · rw [frzF_out h]; exact e
/-- the frame of a freezing: what is left to say is what stands at the slots and temporaries -/
theorem Cfg.frz (C : Cfg w G F lab σ H env ts) {B : Addr → Prop} (hB : ∀ a, B a → ∃ l, lab a = some l) {env' : Env} {ts' : List (V × Pl)} (hl : env'.length = env.length)
    (hs : ∀ i p, env'[i]? = some p → RepO w (frzF F H B) H p σ[i]? (fun a => frzL lab B a = some (.slot i))) (ht : RepT w (frzF F H B) H (frzL lab B) ts') : Cfg w G (frzF F H B) (frzL lab B) σ H env' ts' := by
  refine ⟨fun a o e => ?_, fun a l e => ?_, fun a e => ?_, C.avO, C.out, C.outH, C.pres, hs, ht, C.keep, hl.trans C.len⟩
  · by_cases h : B a
    · rw [frzF_in h] at e; exact e
    · rw [frzF_out h] at e; exact C.fH _ _ e
  · by_cases h : B a
    · rw [frzL_in h] at e; cases e
    · rw [frzL_out h] at e
      rw [frzF_out h]
      exact C.own a l e
  · by_cases h : B a
    · obtain ⟨l, hl⟩ := hB a h
      exact absurd (C.avO _ e) (C.own a l hl).2.1
    · rw [frzF_out h]; exact C.av a e
/-- the top temporary by its value -/
theorem Cfg.freezeT (C : Cfg w G F lab σ H env ((v, p) :: ts)) (h : toVal p = some x) : CfgE w G σ H env ((v, .val x) :: ts) := by
  let B : Addr → Prop := fun a => lab a = some (.tmp ts.length)
  have eF := C.frz_same B
  have nB : ∀ {a : Addr} {l : Lab}, lab a = some l → l ≠ .tmp ts.length → frzL lab B a = some l := fun {a l} e n => by
    rw [frzL_out (fun z : lab a = some (.tmp ts.length) => by rw [e] at z; cases z; exact n rfl)]; exact e
  refine ⟨_, _, C.frz (B := B) (fun a h => ⟨_, h⟩) rfl (fun i p' e => (C.slots i p' e).mono eF (fun _ _ _ h => h) fun a h => nB h (by simp)) ⟨?_, C.temps.2.mono eF fun a j hj h => ⟨nB h (by intro z; cases z; exact absurd hj (Nat.lt_irrefl _)), fun _ e => e⟩⟩⟩
  simp only [Rep]
  exact Rep.den eF p C.temps.1 (fun a ha o ho => by rw [frzF_in (show B a from ha)]; exact ho) h
theorem getE_some {env : Env} {i : Nat} {r : List Step} {q : Pl} (h : getE env i r = some q) : ∃ p, env[i]? = some p ∧ getP p r = some q := by
  unfold getE at h
  cases e : env[i]? with
  | none => rw [e] at h; simp at h
  | some p => rw [e] at h; exact ⟨p, rfl, by simpa using h⟩
theorem setE_length (env : Env) (i : Nat) (r : List Step) (q : Pl) : (setE env i r q).length = env.length := by
  unfold setE; split
  · rw [List.length_set]
  · rfl
theorem getP_hole {r : List Step} {q : Pl} (h : getP .hole r = some q) : q = .hole := by
  cases r with
  | nil => simp only [getP, Option.some.injEq] at h; exact h.symm
  | cons s r => cases s <;> simp [getP] at h
/-- an operand as it stands -/
theorem Cfg.look (C : Cfg w G F lab σ H env ts) {i : Nat} {r : List Step} (h : getE env i r = some q) (hq : q ≠ .hole) :
    ∃ p v u Aq, env[i]? = some p ∧ σ[i]? = some (some v) ∧ getP p r = some q ∧ Rep w F H p v (fun a => lab a = some (.slot i)) ∧ Part w F H p v (fun a => lab a = some (.slot i)) r q u Aq := by
  obtain ⟨p, e, g⟩ := getE_some h
  rcases C.slots i p e with z | ⟨v, hv, R⟩
  · subst z; exact absurd (getP_hole g) hq
  · obtain ⟨u, Aq, P⟩ := part C.fH r p R g
    exact ⟨p, v, u, Aq, e, hv, g, R, P⟩
theorem Cfg.atS (C : Cfg w G F lab σ H env ts) {i : Nat} {r : List Step} (h : getE env i r = some q) (hq : q ≠ .hole) : ∃ u A, AtS w σ H i r u ∧ Rep w F H q u A := by
  obtain ⟨p, v, u, Aq, e, hv, g, R, P⟩ := C.look h hq
  exact ⟨u, Aq, ⟨v, hv, P.at_⟩, P.rep⟩
theorem toVal_hole {p : Pl} (h : toVal p = some x) : p ≠ .hole := fun z => by subst z; simp [toVal] at h
/-- an operand frozen where it stands -/
theorem Cfg.freezeS (C : Cfg w G F lab σ H env ts) {i : Nat} {r : List Step} (h : getE env i r = some q) (hx : toVal q = some x) :
    ∃ u, AtS w σ H i r u ∧ CfgE w G σ H (setE env i r (.val x)) ((u, .val x) :: ts) := by
  obtain ⟨p, v, u, Aq, e, hv, g, R, P⟩ := C.look h (toVal_hole hx)
  have eF := C.frz_same Aq
  have sub : ∀ a, Aq a → lab a = some (.slot i) := P.sub
  have d : Den w (frzF F H Aq) u x := Rep.den eF q P.rep (fun a ha o ho => by rw [frzF_in ha]; exact ho) hx
  have nA : ∀ {a : Addr} {l : Lab}, lab a = some l → l ≠ .slot i → frzL lab Aq a = some l := fun {a l} e n => by
    rw [frzL_out (fun z => by rw [sub a z] at e; cases e; exact n rfl)]; exact e
  refine ⟨u, ⟨v, hv, P.at_⟩, _, _, C.frz (B := Aq) (fun a h => ⟨_, sub a h⟩) (setE_length _ _ _ _) (fun j p' e' => ?_) ⟨by simp only [Rep]; exact d, C.temps.mono eF fun a j hj h => ⟨nA h (by simp), fun _ e => e⟩⟩⟩
  unfold setE at e'
  rw [e] at e'
  by_cases hj : i = j
  · subst hj
    rw [List.getElem?_set_self (by exact (List.getElem?_eq_some_iff.mp e).1)] at e'
    cases e'
    refine .inr ⟨v, hv, Rep.mono (Same.refl _) _ (P.put (frzF F H Aq) H (.val x) (fun _ => False) eF (fun _ _ _ _ h => h) (fun _ z => z.elim) (by simp only [Rep]; exact d)) (fun _ _ _ h => h) fun a ha => ?_⟩
    rcases ha with ⟨h1, h2⟩ | z
    · show frzL lab Aq a = _
      rw [frzL_out h2]; exact h1
    · exact z.elim
  · rw [List.getElem?_set_ne hj] at e'
    exact (C.slots j p' e').mono eF (fun _ _ _ h => h) fun a h => nA h (by intro z; cases z; exact hj rfl)
/-- labels exchanged: what was told of B goes to l -/
noncomputable def relab (lab : Addr → Option Lab) (B : Addr → Prop) (l : Lab) : Addr → Option Lab := fun a => open Classical in if B a then some l else lab a
theorem relab_in {B : Addr → Prop} {l : Lab} {a : Addr} (h : B a) : relab lab B l a = some l := if_pos h
theorem relab_out {B : Addr → Prop} {l : Lab} {a : Addr} (h : ¬ B a) : relab lab B l a = lab a := if_neg h
theorem Cfg.relab_own (C : Cfg w G F lab σ H env ts) {B : Addr → Prop} {l : Lab} (hB : ∀ a, B a → ∃ l, lab a = some l) : ∀ a l', relab lab B l a = some l' → F a = none ∧ ¬ G.out a ∧ H a ≠ none := fun a l' e => by
  by_cases h : B a
  · obtain ⟨l0, h0⟩ := hB a h
    exact C.own a l0 h0
  · rw [relab_out h] at e
    exact C.own a l' e
/-- an operand is taken: its place is a hole, the top temporary owns what stood there -/
theorem Cfg.take' (C : Cfg w G F lab σ H env ts) {i : Nat} {r : List Step} (h : getE env i r = some q) (hq : q ≠ .hole) :
    ∃ u, AtS w σ H i r u ∧ ∃ F' lab', F' = F ∧ Cfg w G F' lab' σ H (setE env i r .hole) ((u, q) :: ts) := by
  obtain ⟨p, v, u, Aq, e, hv, g, R, P⟩ := C.look h hq
  have sub : ∀ a, Aq a → lab a = some (.slot i) := P.sub
  have nA : ∀ {a : Addr} {l : Lab}, lab a = some l → l ≠ .slot i → relab lab Aq (.tmp ts.length) a = some l := fun {a l} e n => by
    rw [relab_out (fun z => by rw [sub a z] at e; cases e; exact n rfl)]; exact e
  refine ⟨u, ⟨v, hv, P.at_⟩, F, relab lab Aq (.tmp ts.length), rfl, C.fH, C.relab_own fun a h => ⟨_, sub a h⟩, C.av, C.avO, C.out, C.outH, C.pres, fun j p' e' => ?_, ⟨Rep.mono (Same.refl _) q P.rep (fun _ _ _ h => h) fun a h => relab_in h, C.temps.mono (Same.refl _) fun a j hj h => ⟨nA h (by simp), fun _ e => e⟩⟩, C.keep, (setE_length _ _ _ _).trans C.len⟩
  unfold setE at e'
  rw [e] at e'
  by_cases hj : i = j
  · subst hj
    rw [List.getElem?_set_self (by exact (List.getElem?_eq_some_iff.mp e).1)] at e'
    cases e'
    refine .inr ⟨v, hv, Rep.mono (Same.refl _) _ (P.put F H .hole (fun _ => False) (Same.refl _) (fun _ _ _ _ h => h) (fun _ z => z.elim) (by simp only [Rep])) (fun _ _ _ h => h) fun a ha => ?_⟩
    rcases ha with ⟨h1, h2⟩ | z
    · show relab lab Aq _ a = _
      rw [relab_out h2]; exact h1
    · exact z.elim
  · rw [List.getElem?_set_ne hj] at e'
    exact (C.slots j p' e').mono (Same.refl _) (fun _ _ _ h => h) fun a h => nA h (by intro z; cases z; exact hj rfl)
theorem Cfg.take (C : Cfg w G F lab σ H env ts) {i : Nat} {r : List Step} (h : getE env i r = some q) (hq : q ≠ .hole) :
    ∃ u, AtS w σ H i r u ∧ CfgE w G σ H (setE env i r .hole) ((u, q) :: ts) :=
  let ⟨u, a, F', lab', _, C'⟩ := C.take' h hq
  ⟨u, a, F', lab', C'⟩
/-- .. and put back -/
theorem Cfg.putF (C : Cfg w G F lab σ H env ((u, q) :: ts)) {i : Nat} {r : List Step} (h : getE env i r = some .hole) (ha : AtS w σ H i r u) : ∃ lab', Cfg w G F lab' σ H (setE env i r q) ts := by
  obtain ⟨p, e, g⟩ := getE_some h
  obtain ⟨v, hv, a1⟩ := ha
  let T : Addr → Prop := fun a => lab a = some (.tmp ts.length)
  have nT : ∀ {a : Addr} {l : Lab}, lab a = some l → l ≠ .tmp ts.length → relab lab T (.slot i) a = some l := fun {a l} e n => by
    rw [relab_out (fun z : lab a = some (.tmp ts.length) => by rw [e] at z; cases z; exact n rfl)]; exact e
  refine ⟨relab lab T (.slot i), C.fH, C.relab_own fun a h => ⟨_, h⟩, C.av, C.avO, C.out, C.outH, C.pres, fun j p' e' => ?_, C.temps.2.mono (Same.refl _) fun a j hj h => ⟨nT h (by intro z; cases z; exact absurd hj (Nat.lt_irrefl _)), fun _ e => e⟩, C.keep, (setE_length _ _ _ _).trans C.len⟩
  unfold setE at e'
  rw [e] at e'
  by_cases hj : i = j
  · subst hj
    rw [List.getElem?_set_self (by exact (List.getElem?_eq_some_iff.mp e).1)] at e'
    cases e'
    have top : Rep w F H q u (fun a => relab lab T (.slot i) a = some (.slot i)) := Rep.mono (Same.refl _) q C.temps.1 (fun _ _ _ h => h) fun a h => relab_in (show T a from h)
    rcases C.slots i p e with z | ⟨v', hv', R⟩
    · subst z
      cases r with
      | nil =>
        simp only [setP]
        have a1 : v = u := a1
        subst a1
        exact .inr ⟨_, hv, top⟩
      | cons s r => cases s <;> simp [getP] at g
    · rw [hv] at hv'; cases hv'
      obtain ⟨u', Aq, P⟩ := part C.fH r p R g
      have eu := AtV.unique P.at_ a1
      subst eu
      refine .inr ⟨v, hv, Rep.mono (Same.refl _) _ (P.put F H q T (Same.refl _) (fun _ _ _ _ h => h) (fun a h1 h2 => ?_) C.temps.1) (fun _ _ _ h => h) fun a ha => ?_⟩
      · have h1 : lab a = some (.tmp ts.length) := h1
        have h2 : lab a = some (.slot i) := h2
        rw [h1] at h2; cases h2
      · rcases ha with ⟨h1, h2⟩ | z
        · exact nT h1 (by simp)
        · exact relab_in z
  · rw [List.getElem?_set_ne hj] at e'
    exact (C.slots j p' e').mono (Same.refl _) (fun _ _ _ h => h) fun a h => nT h (by simp)
theorem Cfg.put (C : Cfg w G F lab σ H env ((u, q) :: ts)) {i : Nat} {r : List Step} (h : getE env i r = some .hole) (ha : AtS w σ H i r u) : CfgE w G σ H (setE env i r q) ts :=
  let ⟨lab', C'⟩ := C.putF h ha
  ⟨F, lab', C'⟩
/-- the top temporary goes into a slot -/
theorem Cfg.set (C : Cfg w G F lab σ H env ((v, p) :: ts)) {i : Nat} (hi : i < σ.length) (hk : G.keep i = none) : CfgE w G (σ.set i (some v)) H (env.set i p) ts := by
  let T : Addr → Prop := fun a => lab a = some (.tmp ts.length)
  have nT : ∀ {a : Addr} {l : Lab}, lab a = some l → l ≠ .tmp ts.length → relab lab T (.slot i) a = some l := fun {a l} e n => by
    rw [relab_out (fun z : lab a = some (.tmp ts.length) => by rw [e] at z; cases z; exact n rfl)]; exact e
  refine ⟨F, relab lab T (.slot i), C.fH, C.relab_own fun a h => ⟨_, h⟩, C.av, C.avO, C.out, C.outH, C.pres, fun j p' e' => ?_, C.temps.2.mono (Same.refl _) fun a j hj h => ⟨nT h (by intro z; cases z; exact absurd hj (Nat.lt_irrefl _)), fun _ e => e⟩, fun j v' e' => ?_, by rw [List.length_set, List.length_set]; exact C.len⟩
  · by_cases hj : i = j
    · subst hj
      rw [List.getElem?_set_self (by rw [C.len]; exact hi)] at e'
      cases e'
      exact .inr ⟨v, List.getElem?_set_self hi, Rep.mono (Same.refl _) p C.temps.1 (fun _ _ _ h => h) fun a h => relab_in (show T a from h)⟩
    · rw [List.getElem?_set_ne hj] at e' ⊢
      exact (C.slots j p' e').mono (Same.refl _) (fun _ _ _ h => h) fun a h => nT h (by simp)
  · have hj : i ≠ j := fun z => by subst z; rw [hk] at e'; cases e'
    rw [List.getElem?_set_ne hj]
    exact C.keep j v' e'
/-- what the top temporary owns is changed at a -/
theorem Cfg.write (C : Cfg w G F lab σ H env ((v, p) :: ts)) {a : Addr} {o : HO} (ha : lab a = some (.tmp ts.length)) (r : Rep w F (upd H a o) q v (fun a => lab a = some (.tmp ts.length))) : Cfg w G F lab σ (upd H a o) env ((v, q) :: ts) := by
  obtain ⟨f1, f2, f3⟩ := C.own a _ ha
  have ne : ∀ b l, lab b = some l → l ≠ .tmp ts.length → b ≠ a := fun b l e n z => by subst z; rw [ha] at e; cases e; exact n rfl
  refine ⟨fun b u e => ?_, fun b l e => ⟨(C.own b l e).1, (C.own b l e).2.1, ?_⟩, C.av, C.avO, fun b u e1 e2 => ?_, C.outH, fun b e => ?_, fun j p' e' => (C.slots j p' e').mono (Same.refl _) (fun b h u e => ?_) fun _ h => h, ⟨r, C.temps.2.mono (Same.refl _) fun b j hj h => ⟨h, fun u e => ?_⟩⟩, C.keep, C.len⟩
  · rw [upd_ne (fun z => by subst z; rw [f1] at e; cases e)]; exact C.fH _ _ e
  · by_cases hb : b = a
    · subst hb; rw [upd_same]; simp
    · rw [upd_ne hb]; exact (C.own b l e).2.2
  · rw [upd_ne (fun z => by subst z; exact f2 e1)]; exact C.out b u e1 e2
  · by_cases hb : b = a
    · subst hb; rw [upd_same]; simp
    · rw [upd_ne hb]; exact C.pres b e
  · rw [upd_ne (ne b _ h (by simp))]; exact e
  · rw [upd_ne (ne b _ h (by intro z; cases z; exact absurd hj (Nat.lt_irrefl _)))]; exact e
/-- two temporaries exchanged -/
theorem RepT.pre {f : Addr → Option Lab} {t1 t2 : V × Pl} (h : ∀ a j, j ≠ ts.length → j ≠ ts.length + 1 → lab a = some (.tmp j) → f a = some (.tmp j)) (k : RepT w F H f (t2 :: t1 :: ts)) : ∀ (pre : List (V × Pl)), RepT w F H lab (pre ++ t1 :: t2 :: ts) → RepT w F H f (pre ++ t2 :: t1 :: ts)
  | [], _ => k
  | (v, p) :: pre, r => by
    have e : (pre ++ t1 :: t2 :: ts).length = (pre ++ t2 :: t1 :: ts).length := by simp
    refine ⟨Rep.mono (Same.refl _) p r.1 (fun _ _ _ h => h) fun a ha => ?_, RepT.pre h k pre r.2⟩
    have ha : lab a = some (.tmp (pre ++ t1 :: t2 :: ts).length) := ha
    show f a = some (.tmp (pre ++ t2 :: t1 :: ts).length)
    rw [← e]
    exact h a _ (by simp; omega) (by simp; omega) ha
theorem RepT.tail : ∀ (pre : List (V × Pl)), RepT w F H lab (pre ++ ts) → RepT w F H lab ts
  | [], r => r
  | _ :: pre, r => RepT.tail pre r.2
theorem Cfg.swapAt (pre : List (V × Pl)) {t1 t2 : V × Pl} (C : Cfg w G F lab σ H env (pre ++ t1 :: t2 :: ts)) : CfgE w G σ H env (pre ++ t2 :: t1 :: ts) := by
  let f : Addr → Option Lab := fun a => if lab a = some (.tmp ts.length) then some (.tmp (ts.length + 1)) else if lab a = some (.tmp (ts.length + 1)) then some (.tmp ts.length) else lab a
  have f1 : ∀ a, lab a = some (.tmp ts.length) → f a = some (.tmp (ts.length + 1)) := fun a h => if_pos h
  have f2 : ∀ a, lab a = some (.tmp (ts.length + 1)) → f a = some (.tmp ts.length) := fun a h => by
    show (if _ then _ else _) = _
    rw [if_neg (by rw [h]; simp), if_pos h]
  have f3 : ∀ a, lab a ≠ some (.tmp ts.length) → lab a ≠ some (.tmp (ts.length + 1)) → f a = lab a := fun a h1 h2 => by
    show (if _ then _ else _) = _
    rw [if_neg h1, if_neg h2]
  obtain ⟨v1, p1⟩ := t1
  obtain ⟨v2, p2⟩ := t2
  obtain ⟨c1, c2, c3⟩ := RepT.tail pre C.temps
  refine ⟨F, f, C.fH, fun a l e => ?_, C.av, C.avO, C.out, C.outH, C.pres, fun j p' e' => (C.slots j p' e').mono (Same.refl _) (fun _ _ _ h => h) fun a h => (f3 a (by rw [h]; simp) (by rw [h]; simp)).trans h,
    RepT.pre (fun a j h1 h2 h => (f3 a (by rw [h]; intro z; cases z; exact h1 rfl) (by rw [h]; intro z; cases z; exact h2 rfl)).trans h) ⟨?_, ?_, ?_⟩ pre C.temps, C.keep, C.len⟩
  · by_cases h1 : lab a = some (.tmp ts.length)
    · exact C.own a _ h1
    · by_cases h2 : lab a = some (.tmp (ts.length + 1))
      · exact C.own a _ h2
      · rw [f3 a h1 h2] at e; exact C.own a l e
  · exact Rep.mono (Same.refl _) p2 c2 (fun _ _ _ h => h) fun a h => by rw [List.length_cons]; exact f1 a h
  · exact Rep.mono (Same.refl _) p1 c1 (fun _ _ _ h => h) fun a h => f2 a (by rw [List.length_cons] at h; exact h)
  · exact c3.mono (Same.refl _) fun a j hj h => ⟨(f3 a (by rw [h]; intro z; cases z; exact absurd hj (Nat.lt_irrefl _)) (by rw [h]; intro z; cases z; omega)).trans h, fun _ e => e⟩
theorem Cfg.swap {t1 t2 : V × Pl} (C : Cfg w G F lab σ H env (t1 :: t2 :: ts)) : CfgE w G σ H env (t2 :: t1 :: ts) := Cfg.swapAt [] C
theorem CfgE.permA {l1 l2 : List (V × Pl)} (p : l1.Perm l2) : ∀ (pre : List (V × Pl)), CfgE w G σ H env (pre ++ l1) → CfgE w G σ H env (pre ++ l2) := by
  induction p with
  | nil => exact fun pre h => h
  | cons x _ ih =>
    intro pre h
    have := ih (pre ++ [x]) (by simpa using h)
    simpa using this
  | swap x y l => exact fun pre ⟨F, lab, C⟩ => C.swapAt pre
  | trans _ _ ih1 ih2 => exact fun pre h => ih2 pre (ih1 pre h)
/-- the temporaries in another order -/
theorem CfgE.perm {l1 l2 : List (V × Pl)} (p : l1.Perm l2) (h : CfgE w G σ H env l1) : CfgE w G σ H env l2 := CfgE.permA p [] h
end
end Ev
namespace Ev
open PySem
abbrev line : Nat := 16777216
inductive Ty where
  | int | str | bool | list | tuple | dict | own (c : Str)
inductive Bi where
  | len | listOf | tupleOf | sorted | sum | max | min | any | all | abs | int | strOf | repr | dictOf | lenSet | sortedSet | range1 | range2 | zipL
inductive Bm where
  | append | extend | pop | popAt | get1 | get2 | index | join | items | values
inductive SrcK where
  | seq | range1 | range2 | enum | zip | rev | items | values
inductive Tgt where
  | nm (i : Nat) | tp (is : List Nat)
inductive FnId where
  | fn (f : Str) | me (c m : Str)
  deriving DecidableEq
inductive IE where
  | cst (v : Val) | var (i : Nat) | glo (g : Str)
  | fld (a : IE) (f : Str)
  | tup (es : List IE) | lst (es : List IE) | dct (ks : List Str) (es : List IE) | rcd (ks : List Str) (es : List IE)
  | bin (op : Operator) (a b : IE) | neg (a : IE) | not (a : IE)
  | cmp (op : CmpOp) (a b : IE) | chn (o1 o2 : CmpOp) (a b c : IE)
  | and (a b : IE) | or (a b : IE) | ite (c a b : IE)
  | ix (a b : IE) | sl (a : IE) (lo hi : Option IE)
  | call (f : Str) (as : List IE) | make (c : Str) (as : List IE) | meth (o : IE) (m : Str) (as : List IE)
  | isi (a : IE) (ts : List Ty) | bi (b : Bi) (as : List IE) | bm (o : IE) (m : Bm) (as : List IE)
  | lc (own : List Nat) (tg : Tgt) (k : SrcK) (src : List IE) (ifs : List IE) (elt : IE)
  | lcP (own : List Nat) (tg : Tgt) (k : SrcK) (src : List IE) (elt : IE)
  | dc (own : List Nat) (tg : Tgt) (k : SrcK) (src : List IE) (ifs : List IE) (kx vx : IE)
  | tget (n : Str) (k : IE)
  | mkx (c : Str) (as : List IE) | isx (a : IE) (d : Str) | fldx (a : IE) (f : Str)
inductive IS where
  | asg (i : Nat) (e : IE) | asgT (t : Tgt) (e : IE) | asgs (is : List Nat) (es : List IE)
  | asgSub (o k e : IE) | asgFld (o : IE) (f : Str) (e : IE)
  | aug (i : Nat) (op : Operator) (e : IE) | augFld (o : IE) (f : Str) (op : Operator) (e : IE)
  | expr (e : IE) | ret (e : IE) | retN | pass | brk | cnt
  | ite (c : IE) (a b : List IS) | whl (c : IE) (b : List IS)
  | for (t : Tgt) (k : SrcK) (src : List IE) (b : List IS)
  | raise (c : Str) (as : List IE) | stuck
  | fus (x d : Nat) (key f : Str) (a k : IE)
/-- a place's value, where its items are nobody's -/
def toVal1 : Pl → Option Val
  | .val v => some v
  | .lst xs => some (.lst xs)
  | .dct kvs => some (.dct kvs)
  | _ => none
def peek1 (e : Env) : Opnd → Option Val
  | .at i r => (getE e i r).bind toVal1
  | .tmp p => toVal1 p
mutual
def smp : IE → Bool
  | .cst _ => true | .var _ => true | .glo _ => true
  | .fld a _ => smp a
  | .tup es => smps es | .lst es => smps es | .dct _ es => smps es | .rcd _ _ => false
  | .bin _ a b => smp a && smp b | .neg a => smp a | .not a => smp a
  | .cmp _ a b => smp a && smp b | .chn _ _ a b c => smp a && smp b && smp c
  | .and a b => smp a && smp b | .or a b => smp a && smp b | .ite c a b => smp c && smp a && smp b
  | .ix a b => smp a && smp b
  | .sl a lo hi => smp a && smpo lo && smpo hi
  | .call _ _ => false | .make _ _ => false | .meth _ _ _ => false
  | .isi a _ => smp a
  | .bi _ as => smps as
  | .bm o m as => (match m with | .append => false | .extend => false | .pop => false | .popAt => false | _ => true) && smp o && smps as
  | .lc _ _ _ src ifs elt => smps src && smps ifs && smp elt
  | .lcP _ _ _ src elt => smps src && smp elt
  | .dc _ _ _ src ifs kx vx => smps src && smps ifs && smp kx && smp vx
  | .tget _ k => smp k
  | .mkx _ as => smps as | .isx a _ => smp a | .fldx a _ => smp a
def smps : List IE → Bool
  | [] => true
  | e :: es => smp e && smps es
def smpo : Option IE → Bool
  | none => true
  | some e => smp e
end
def truthy : Val → Option Bool
  | .non => some false
  | .bl b => some b
  | .int i => some (i != 0)
  | .str s => if s.length ≤ line then some (s.length != 0) else none
  | .tup xs => some (!xs.isEmpty)
  | .lst xs => some (!xs.isEmpty)
  | .dct kvs => some (!kvs.isEmpty)
  | _ => none
def binV : Operator → Val → Val → Option Pl
  | .Add, .int i, .int j => some (.val (.int (i + j)))
  | .Sub, .int i, .int j => some (.val (.int (i - j)))
  | .Mult, .int i, .int j => if (-(2 ^ 64) < i ∧ i < 2 ^ 64) ∨ (-(2 ^ 64) < j ∧ j < 2 ^ 64) then some (.val (.int (i * j))) else none
  | .FloorDiv, .int i, .int j => if 0 < j ∧ j < 1073741824 then some (.val (.int (i / j))) else none
  | .Mod, .int i, .int j => if 0 < j then some (.val (.int (i % j))) else none
  | .Pow, .int i, .int j => if 0 ≤ j ∧ j ≤ 1000000 ∧ i.natAbs < 2 ^ 64 then some (.val (.int (i ^ j.toNat))) else none
  | .Add, .str x, .str y => if x.length + y.length ≤ line then some (.val (.str (x ++ y))) else none
  | .Add, .lst xs, .lst ys => if xs.length + ys.length ≤ line then some (.lst (xs ++ ys)) else none
  | .Add, .tup xs, .tup ys => if xs.length + ys.length ≤ line then some (.val (.tup (xs ++ ys))) else none
  | _, _, _ => none
def iopV : Operator → Val → Val → Option Val
  | .Add, .int i, .int j => some (.int (i + j))
  | .Sub, .int i, .int j => some (.int (i - j))
  | .Mult, .int i, .int j => if (-(2 ^ 64) < i ∧ i < 2 ^ 64) ∨ (-(2 ^ 64) < j ∧ j < 2 ^ 64) then some (.int (i * j)) else none
  | .Add, .str x, .str y => if x.length + y.length ≤ line then some (.str (x ++ y)) else none
  | _, _, _ => none
/-- how deep data may be that == looks at -/
abbrev eqDepth : Nat := 60
def isNon : Val → Bool
  | .non => true
  | _ => false
def isBl (b : Bool) : Val → Bool
  | .bl a => a == b
  | _ => false
/-- the one sign of a text -/
def sign (x : Str) : Option Nat :=
  match x.cps.toList with
  | [c] => some c
  | _ => none
def keyOf : Val → Option L2.Key
  | .int i => some (.inl i)
  | .str s => some (.inr s)
  | _ => none
/-- a dict's pairs by keys: none if some key is neither an int nor a text -/
def keysOk (kvs : List (Val × Val)) : Bool := kvs.all fun p => (keyOf p.1).isSome
def dlook (k : Val) : List (Val × Val) → Option Val
  | [] => none
  | (j, v) :: r => if keyOf j = keyOf k then some v else dlook k r
def dput (k v : Val) (kvs : List (Val × Val)) : List (Val × Val) :=
  if kvs.any fun p => decide (keyOf p.1 = keyOf k) then kvs.map fun p => if keyOf p.1 = keyOf k then (p.1, v) else p else kvs ++ [(k, v)]
/-- none: no dict of ours, or no key of ours; some none: it is not there -/
def dgetV (kvs : List (Val × Val)) (k : Val) : Option (Option Val) := if (keyOf k).isSome && keysOk kvs then some (dlook k kvs) else none
def cmpV : CmpOp → Val → Val → Option Bool
  | .Eq, x, y => if dat eqDepth x && dat eqDepth y then some (veq x y) else none
  | .NotEq, x, y => if dat eqDepth x && dat eqDepth y then some (!veq x y) else none
  | .Lt, .int i, .int j => some (decide (i < j))
  | .LtE, .int i, .int j => some (decide (i ≤ j))
  | .Gt, .int i, .int j => some (decide (j < i))
  | .GtE, .int i, .int j => some (decide (j ≤ i))
  | .Lt, .str x, .str y => some (decide (x.cps.toList < y.cps.toList))
  | .Is, x, .non => some (isNon x)
  | .IsNot, x, .non => some (!isNon x)
  | .Is, x, .bl b => some (isBl b x)
  | .IsNot, x, .bl b => some (!isBl b x)
  | .In, x, .lst ys => if dat eqDepth x && dats eqDepth ys then some (ys.any (veq · x)) else none
  | .In, x, .tup ys => if dat eqDepth x && dats eqDepth ys then some (ys.any (veq · x)) else none
  | .NotIn, x, .lst ys => if dat eqDepth x && dats eqDepth ys then some (!ys.any (veq · x)) else none
  | .NotIn, x, .tup ys => if dat eqDepth x && dats eqDepth ys then some (!ys.any (veq · x)) else none
  | .In, x, .dct kvs => (dgetV kvs x).map fun o => o.isSome
  | .NotIn, x, .dct kvs => (dgetV kvs x).map fun o => !o.isSome
  | .In, .str x, .str z => (sign x).map fun c => decide (c ∈ z.cps.toList)
  | .NotIn, .str x, .str z => (sign x).map fun c => !decide (c ∈ z.cps.toList)
  | _, _, _ => none
def ixV : Val → Val → Option Val
  | .lst xs, .int i => L2.atI xs i
  | .tup xs, .int i => L2.atI xs i
  | .dct kvs, k => (dgetV kvs k).bind id
  | .str z, .int i => if z.length ≤ line then (L2.atI z.cps.toList i).map fun c => .str ⟨#[c]⟩ else none
  | _, _ => none
def cut {α : Type} (xs : List α) (lo hi : Option Int) : List α := (xs.drop (HT.sIx xs.length 0 lo)).take (HT.sIx xs.length xs.length hi - HT.sIx xs.length 0 lo)
def slV : Val → Option Int → Option Int → Option Pl
  | .lst xs, lo, hi => some (.lst (cut xs lo hi))
  | .tup xs, lo, hi => some (.val (.tup (cut xs lo hi)))
  | _, _, _ => none
inductive Tag where
  | non | bl | int | str | list | tuple | dict | own (c : Str)
def tagV : Val → Option Tag
  | .non => some .non
  | .bl _ => some .bl
  | .int _ => some .int
  | .str _ => some .str
  | .tup _ => some .tuple
  | .lst _ => some .list
  | .fzl _ => some .list
  | .dct _ => some .dict
  | .ins c _ => some (.own c)
  | .gl _ => none
  | .exc _ _ => none
def tagP : Pl → Option Tag
  | .hole => none
  | .val x => tagV x
  | .lst _ => some .list
  | .lstP _ => some .list
  | .dct _ => some .dict
  | .rcd _ => some .dict
  | .ins c _ => some (.own c)
def isTag : Tag → Ty → Bool
  | .bl, .int => true
  | .bl, .bool => true
  | .int, .int => true
  | .str, .str => true
  | .list, .list => true
  | .tuple, .tuple => true
  | .dict, .dict => true
  | .own c, .own d => c == d
  | _, _ => false
def asInts : List Val → Option (List Int)
  | [] => some []
  | .int i :: r => (asInts r).map (i :: ·)
  | _ :: _ => none
def asBools : List Val → Option (List Bool)
  | [] => some []
  | .bl b :: r => (asBools r).map (b :: ·)
  | _ :: _ => none
/-- the pairs of a dict by a list of pairs -/
def pairsV : List Val → Option (List (Val × Val))
  | [] => some []
  | .tup [k, v] :: r => if (keyOf k).isSome then (pairsV r).map ((k, v) :: ·) else none
  | _ :: _ => none
def mergeV : List (Val × Val) → List (Val × Val) → List (Val × Val)
  | acc, [] => acc
  | acc, (k, v) :: r => mergeV (dput k v acc) r
/-- a table by tuples of texts -/
def strTup : Val → Option (List Str)
  | .tup xs => strTup.go xs
  | _ => none
where go : List Val → Option (List Str)
  | [] => some []
  | .str s :: r => (go r).map (s :: ·)
  | _ :: _ => none
def tlook (k : List Str) : List (Val × Val) → Val
  | [] => .non
  | (j, v) :: r => if strTup j = some k then v else tlook k r
def biV : Bi → List Val → Option Pl
  | .len, [.lst xs] => some (.val (.int xs.length))
  | .len, [.tup xs] => some (.val (.int xs.length))
  | .len, [.fzl xs] => some (.val (.int xs.length))
  | .len, [.str s] => if s.length ≤ line then some (.val (.int s.length)) else none
  | .listOf, [.lst xs] => some (.lst xs)
  | .listOf, [.tup xs] => some (.lst xs)
  | .listOf, [.fzl xs] => some (.lst xs)
  | .listOf, [.dct kvs] => if keysOk kvs then some (.lst (kvs.map (·.1))) else none
  | .tupleOf, [.lst xs] => some (.val (.tup xs))
  | .tupleOf, [.tup xs] => some (.val (.tup xs))
  | .sum, [.lst xs] => (asInts xs).map fun ns => .val (.int ns.sum)
  | .any, [.lst xs] => (asBools xs).map fun bs => .val (.bl (bs.any id))
  | .all, [.lst xs] => (asBools xs).map fun bs => .val (.bl (bs.all id))
  | .abs, [.int i] => some (.val (.int i.natAbs))
  | .int, [.int i] => some (.val (.int i))
  | .strOf, [.int i] => if i.natAbs.log2 < 1920 then some (.val (.str (toString i))) else none
  | .strOf, [.str s] => some (.val (.str s))
  | .repr, [x] => if dat eqDepth x && (toData x).showable && decide ((toData x).shown.length ≤ line) then some (.val (.str (toData x).shown)) else none
  | .max, [.int i, .int j] => some (.val (.int (if j > i then j else i)))
  | .min, [.int i, .int j] => some (.val (.int (if j < i then j else i)))
  | .dictOf, [.lst xs] => (pairsV xs).map fun kvs => .dct (mergeV [] kvs)
  | .zipL, [.tup xs, .tup ys] => if xs.length ≤ line ∧ ys.length ≤ line then some (.lst ((xs.zip ys).map fun p => .tup [p.1, p.2])) else none
  | _, _ => none
/-- what a walk draws, one behind the other -/
def srcV : SrcK → List Val → Option (List Val)
  | .seq, [.lst xs] => some xs
  | .seq, [.tup xs] => some xs
  | .seq, [.fzl xs] => some xs
  | .seq, [.str s] => some (s.cps.toList.map fun c => .str ⟨#[c]⟩)
  | .range1, [.int n] => if -(2 ^ 62) ≤ n ∧ n < 2 ^ 62 then some ((List.range n.toNat).map fun (k : Nat) => .int (k : Int)) else none
  | .enum, [.lst xs] => some (xs.zipIdx.map fun p => .tup [.int (p.2 : Nat), p.1])
  | .zip, [.lst xs, .lst ys] => some ((xs.zip ys).map fun p => .tup [p.1, p.2])
  | .zip, [.tup xs, .tup ys] => some ((xs.zip ys).map fun p => .tup [p.1, p.2])
  | .zip, [.lst xs, .tup ys] => some ((xs.zip ys).map fun p => .tup [p.1, p.2])
  | .zip, [.tup xs, .lst ys] => some ((xs.zip ys).map fun p => .tup [p.1, p.2])
  | .rev, [.lst xs] => some xs.reverse
  | .rev, [.tup xs] => some xs.reverse
  | .range2, [.int m, .int n] => if -(2 ^ 62) ≤ m ∧ m < 2 ^ 62 ∧ -(2 ^ 62) ≤ n ∧ n < 2 ^ 62 then some ((List.range (n - m).toNat).map fun (k : Nat) => .int (m + (k : Int))) else none
  | _, _ => none
def plain : Opnd → Bool
  | .at _ (_ :: _) => false
  | _ => true
def fldO (o : Opnd) (f : Str) (e : Env) : Out Opnd :=
  match o with
  | .at i r => match getE e i (r ++ [.f f]) with
    | none => .stuck
    | some .hole => .stuck
    | some _ => .ok (.at i (r ++ [.f f])) e
  | .tmp (.ins _ fs) => match fs.lookup f with
    | none => .stuck
    | some p => if (toVal p).isSome then .ok (.tmp p) e else .stuck
  | .tmp (.val (.ins _ fs)) => match fs.lookup f with
    | none => .stuck
    | some v => .ok (.tmp (.val v)) e
  | .tmp _ => .stuck
/-- the item of an operand: where it stands, if the operand owns its items, else its value -/
def ixO (o : Opnd) (k : Val) (e : Env) : Out Opnd :=
  match o, k with
  | .at i r, .int n => match getE e i r with
    | some (.lstP ps) => match L2.ixN ps.length n with
      | none => .stuck
      | some j => match ps[j]? with
        | none => .stuck
        | some .hole => .stuck
        | some _ => .ok (.at i (r ++ [.i j])) e
    | _ => Out.of (((peek1 e o).bind fun x => ixV x k).map fun v => .tmp (.val v)) e
  | .at i r, .str n => match getE e i r with
    | some (.rcd fs) => match fs.lookup n with
      | none => .stuck
      | some .hole => .stuck
      | some _ => .ok (.at i (r ++ [.k n])) e
    | _ => Out.of (((peek1 e o).bind fun x => ixV x k).map fun v => .tmp (.val v)) e
  | _, _ => Out.of (((peek1 e o).bind fun x => ixV x k).map fun v => .tmp (.val v)) e
inductive Arg where
  | put (i : Nat) (r : List Step) (p : Pl) | fix (p : Pl)
def Arg.pl : Arg → Pl
  | .put _ _ p => p
  | .fix p => p
/-- the arguments' places, taken out of the slots -/
def takeAll : List Opnd → Env → Option (List Arg × Env)
  | [], e => some ([], e)
  | .tmp p :: os, e => (takeAll os e).map fun (as, e') => (.fix p :: as, e')
  | .at i r :: os, e => match getE e i r with
    | none => none
    | some .hole => none
    | some (.val x) => (takeAll os e).map fun (as, e') => (.fix (.val x) :: as, e')
    | some p => (takeAll os (setE e i r .hole)).map fun (as, e') => (.put i r p :: as, e')
def putAll : List Arg → List Pl → Env → Option Env
  | .put i r _ :: as, p :: ps, e => match getE e i r with
    | some .hole => putAll as ps (setE e i r p)
    | _ => none
  | .fix _ :: as, _ :: ps, e => putAll as ps e
  | [], [], e => some e
  | _, _, _ => none
def holesOk (e : Env) : List Arg → Bool
  | .put i r _ :: as => (match getE e i r with | some .hole => true | _ => false) && holesOk e as
  | .fix _ :: as => holesOk e as
  | [] => true
structure Ctx where
  O : FnId → List Pl → COut
  has : FnId → Bool
  glo : Str → Option Val
  rb : FnId → List Bool
  exf : Str → Option (List Str)
  pin : Nat → Bool
  W : Nat
  tab : Str → List (Val × Val)
  xsub : Str → Str → Option Bool
/-- a call of an own def with places -/
def callO (c : Ctx) (f : FnId) (os : List Opnd) (e : Env) : Out Opnd :=
  match takeAll os e with
  | none => .stuck
  | some (as, e1) => if holesOk e1 as then match c.O f (as.map Arg.pl) with
    | .ok r ps => match putAll as ps e1 with
      | some e2 => .ok (.tmp r) e2
      | none => .stuck
    | .exn x ps => match putAll as ps e1 with
      | some e2 => .exn x e2
      | none => .stuck
    | .stuck => .stuck
    else .stuck
/-- a new instance -/
def makeO (c : Ctx) (k : Str) (os : List Opnd) (e : Env) : Out Opnd :=
  match takeAll os e with
  | none => .stuck
  | some (as, e1) => if holesOk e1 as then match c.O (.me k "__init__") (.ins k [] :: as.map Arg.pl) with
    | .ok (.val .non) (p :: ps) => match putAll as ps e1 with
      | some e2 => .ok (.tmp p) e2
      | none => .stuck
    | .exn x (_ :: ps) => match putAll as ps e1 with
      | some e2 => .exn x e2
      | none => .stuck
    | _ => .stuck
    else .stuck
/-- the class of what stands there, if it has no attribute called so -/
def clsOf (m : Str) : Option Pl → Option Str
  | some (.ins c fs) => if (fs.lookup m).isSome then none else some c
  | some (.val (.ins c fs)) => if (fs.lookup m).isSome then none else some c
  | _ => none
def placeOf (e : Env) : Opnd → Option Pl
  | .at i r => getE e i r
  | .tmp p => some p
def setT (pin : Nat → Bool) (i : Nat) (p : Pl) (e : Env) : Option Env := if !pin i && decide (i < e.length) then some (e.set i p) else none
def setTs (pin : Nat → Bool) : List Nat → List Pl → Env → Option Env
  | [], [], e => some e
  | i :: is, p :: ps, e => (setT pin i p e).bind (setTs pin is ps)
  | _, _, _ => none
def itemsOf : Val → Option (List Val)
  | .tup xs => some xs
  | _ => none
def asgT (pin : Nat → Bool) : Tgt → Val → Env → Option Env
  | .nm i, v, e => setT pin i (.val v) e
  | .tp is, v, e => (itemsOf v).bind fun xs => setTs pin is (xs.map .val) e
def wipeE (own : List Nat) (e : Env) : Env := own.foldr (fun i e => e.set i .hole) e
/-- the block's own slots hold nothing, or values -/
def ownOk (own : List Nat) (e : Env) : Bool := own.all fun i => match e[i]? with
  | some .hole => true
  | some (.val _) => true
  | _ => false
/-- .. and have them back -/
def restE (e0 : Env) : List Nat → Env → Env
  | [], e => e
  | i :: is, e => (restE e0 is e).set i (e0.getD i .hole)
def lcGo (tg : Val → Env → Option Env) (ifs : Env → Out Bool) (elt : Env → Out Val) : List Val → Env → List Val → Out (List Val)
  | [], e, acc => .ok acc e
  | v :: vs, e, acc => match tg v e with
    | none => .stuck
    | some e1 => (ifs e1).bind fun b e2 => if b then (elt e2).bind fun x e3 => if acc.length < line then lcGo tg ifs elt vs e3 (acc ++ [x]) else .stuck else lcGo tg ifs elt vs e2 acc
def dcGo (tg : Val → Env → Option Env) (ifs : Env → Out Bool) (kx vx : Env → Out Val) : List Val → Env → List (Val × Val) → Out (List (Val × Val))
  | [], e, acc => .ok acc e
  | v :: vs, e, acc => match tg v e with
    | none => .stuck
    | some e1 => (ifs e1).bind fun b e2 => if b then (kx e2).bind fun y e3 => (vx e3).bind fun x e4 => if (keyOf y).isSome && decide (acc.length < line) then dcGo tg ifs kx vx vs e4 (dput y x acc) else .stuck else dcGo tg ifs kx vx vs e2 acc
def lcGoP (tg : Val → Env → Option Env) (elt : Env → Out Pl) : List Val → Env → List Pl → Out (List Pl)
  | [], e, acc => .ok acc e
  | v :: vs, e, acc => match tg v e with
    | none => .stuck
    | some e1 => (elt e1).bind fun x e3 => if acc.length < line then lcGoP tg elt vs e3 (acc ++ [x]) else .stuck
def Out.noX {α : Type} : Out α → Out α
  | .ok a e => .ok a e
  | _ => .stuck
/-- a method of a built-in object, by what stands there; the second part: what stands there behind it -/
def bmV : Bm → Val → List Val → Option Val
  | .get1, .dct kvs, [k] => (dgetV kvs k).map fun o => o.getD .non
  | .get2, .dct kvs, [k, d] => (dgetV kvs k).map fun o => o.getD d
  | _, _, _ => none
def bmW : Bm → Pl → List Val → Option (Val × Pl)
  | .append, .lst xs, [v] => if xs.length < line then some (.non, .lst (xs ++ [v])) else none
  | .extend, .lst xs, [.lst ys] => if xs.length + ys.length ≤ line then some (.non, .lst (xs ++ ys)) else none
  | .pop, .lst xs, [] => (xs[xs.length - 1]?).map fun v => (v, .lst xs.dropLast)
  | .popAt, .lst xs, [.int i] => if 0 ≤ i ∧ i < 2 ^ 63 then (xs[i.toNat]?).map fun v => (v, .lst (xs.eraseIdx i.toNat)) else none
  | _, _, _ => none
/-- what a method is asked of -/
def bmT : Bm → Option Tag → Bool
  | .append, some .list => true
  | .extend, some .list => true
  | .pop, some .list => true
  | .popAt, some .list => true
  | .index, some .list => true
  | .get1, some .dict => true
  | .get2, some .dict => true
  | .items, some .dict => true
  | .values, some .dict => true
  | .join, some .str => true
  | _, _ => false
def isW : Bm → Bool
  | .append => true | .extend => true | .pop => true | .popAt => true | _ => false
/-- an exception asked for its class; its field -/
def isxV (sub : Str → Str → Option Bool) (d : Str) : Val → Option Bool
  | .exc c _ => sub c d
  | _ => none
def fldxV (f : Str) : Val → Option Val
  | .exc _ fs => fs.lookup f
  | _ => none
def partInt : Val → Option (Option Int)
  | .int i => some (some i)
  | _ => none
/-- a built-in function's arguments -/
def peeks (e : Env) : List Opnd → Option (List Val)
  | [] => some []
  | o :: os => (peek1 e o).bind fun v => (peeks e os).map (v :: ·)
/-- a test -/
def tst (x : Out Opnd) : Out Bool := x.bind fun o e => Out.of ((peek e o).bind truthy) e
mutual
def evO (c : Ctx) : IE → Env → Out Opnd
  | .cst v, e => .ok (.tmp (.val v)) e
  | .var i, e => match e[i]? with
    | none => .stuck
    | some .hole => .stuck
    | some _ => .ok (.at i []) e
  | .glo g, e => Out.of ((c.glo g).map fun v => .tmp (.val v)) e
  | .fld a f, e => (evO c a e).bind fun o e => fldO o f e
  | .tup es, e => (evXs c es e).bind fun vs e => if vs.length ≤ line then .ok (.tmp (.val (.tup vs))) e else .stuck
  | .lst es, e => (evXs c es e).bind fun vs e => if vs.length ≤ line then .ok (.tmp (.lst vs)) e else .stuck
  | .dct ks es, e => (evXs c es e).bind fun vs e => if vs.length = ks.length ∧ ks.length ≤ 15 then .ok (.tmp (.dct ((ks.zip vs).map fun q => (.str q.1, q.2)))) e else .stuck
  | .rcd ks es, e => (evOwns c es e).bind fun ps e => if ps.length = ks.length ∧ ks.length ≤ 15 then .ok (.tmp (.rcd (ks.zip ps))) e else .stuck
  | .bin op a b, e => (evO c a e).bind fun x e => if plain x || smp b then (evO c b e).bind fun y e => Out.of (((peek1 e x).bind fun u => (peek1 e y).bind fun v => binV op u v).map .tmp) e else .stuck
  | .neg a, e => (evO c a e).bind fun x e => match peek e x with
    | some (.int i) => .ok (.tmp (.val (.int (-i)))) e
    | _ => .stuck
  | .not a, e => (tst (evO c a e)).bind fun b e => .ok (.tmp (.val (.bl (!b)))) e
  | .cmp op a b, e => (evO c a e).bind fun x e => if plain x || smp b then (evO c b e).bind fun y e => Out.of (((peek e x).bind fun u => (peek e y).bind fun v => cmpV op u v).map fun r => .tmp (.val (.bl r))) e else .stuck
  | .chn o1 o2 a b d, e => ((evO c a e).bind freeze).bind fun x e => ((evO c b e).bind freeze).bind fun y e => (Out.of (cmpV o1 x y) e).bind fun r e => if r then ((evO c d e).bind freeze).bind fun z e => Out.of ((cmpV o2 y z).map fun r => .tmp (.val (.bl r))) e else .ok (.tmp (.val (.bl false))) e
  | .and a b, e => ((evO c a e).bind freeze).bind fun x e => match truthy x with
    | none => .stuck
    | some true => evO c b e
    | some false => .ok (.tmp (.val x)) e
  | .or a b, e => ((evO c a e).bind freeze).bind fun x e => match truthy x with
    | none => .stuck
    | some true => .ok (.tmp (.val x)) e
    | some false => evO c b e
  | .ite t a b, e => (tst (evO c t e)).bind fun r e => if r then (evO c a e).bind fun o e => (own o e).bind fun p e => .ok (.tmp p) e else (evO c b e).bind fun o e => (own o e).bind fun p e => .ok (.tmp p) e
  | .ix a b, e => (evO c a e).bind fun x e => if plain x || smp b then ((evO c b e).bind freeze).bind fun k e => ixO x k e else .stuck
  | .sl a lo hi, e => (evO c a e).bind fun x e => if plain x || (smpo lo && smpo hi) then (evPart c lo e).bind fun l e => (evPart c hi e).bind fun h e => Out.of (((peek1 e x).bind fun u => slV u l h).map .tmp) e else .stuck
  | .call f as, e => (evArgs c as (c.rb (.fn f)) e).bind fun os e => callO c (.fn f) os e
  | .make k as, e => (evArgs c as ((c.rb (.me k "__init__")).drop 1) e).bind fun os e => makeO c k os e
  | .meth o m as, e => (evO c o e).bind fun x e => if plain x || smps as then match clsOf m (placeOf e x) with
      | none => .stuck
      | some k => if c.has (.me k m) then (evArgs c as ((c.rb (.me k m)).drop 1) e).bind fun os e => callO c (.me k m) (x :: os) e else .stuck
    else .stuck
  | .isi a ts, e => (evO c a e).bind fun o e => Out.of (((placeOf e o).bind tagP).map fun t => .tmp (.val (.bl (ts.any (isTag t))))) e
  | .bi b as, e => (evArgs c as [] e).bind fun os e => Out.of (((peeks e os).bind fun vs => biV b vs).map .tmp) e
  | .bm o m as, e => (evO c o e).bind fun x e => if (plain x || smps as) && bmT m ((placeOf e x).bind tagP) then (evXs c as e).bind fun vs e =>
      if isW m then match x with
        | .at i r => match (getE e i r).bind fun p => bmW m p vs with
          | some (q, p') => .ok (.tmp (.val q)) (setE e i r p')
          | none => .stuck
        | .tmp _ => .stuck
      else Out.of (((peek1 e x).bind fun u => bmV m u vs).map fun v => .tmp (.val v)) e
    else .stuck
  | .lc own tg k src ifs elt, e => (evXs c src e).bind fun ss e => match srcV k ss with
    | none => .stuck
    | some items => if ownOk own e then ((lcGo (fun v e => asgT (fun i => !own.contains i) tg v (wipeE own e)) (evIfs c ifs) (fun e => (evO c elt e).bind freeze) items e []).bind fun xs e1 => Out.ok (.tmp (.lst xs)) (restE e own e1)).noX else .stuck
  | .lcP own tg k src elt, e => (evXs c src e).bind fun ss e => match srcV k ss with
    | none => .stuck
    | some items => if ownOk own e then ((lcGoP (fun v e => asgT (fun i => !own.contains i) tg v (wipeE own e)) (fun e => (evO c elt e).bind Ev.own) items e []).bind fun xs e1 => Out.ok (.tmp (.lstP xs)) (restE e own e1)).noX else .stuck
  | .dc own tg k src ifs kx vx, e => (evXs c src e).bind fun ss e => match srcV k ss with
    | none => .stuck
    | some items => if ownOk own e then ((dcGo (fun v e => asgT (fun i => !own.contains i) tg v (wipeE own e)) (evIfs c ifs) (fun e => (evO c kx e).bind freeze) (fun e => (evO c vx e).bind freeze) items e []).bind fun xs e1 => Out.ok (.tmp (.dct xs)) (restE e own e1)).noX else .stuck
  | .tget n k, e => ((evO c k e).bind freeze).bind fun v e => match strTup v with
    | some ks => .ok (.tmp (.val (tlook ks (c.tab n)))) e
    | none => .stuck
  | .mkx k as, e => (evXs c as e).bind fun vs e => match c.exf k with
    | some ns => if ns.length = vs.length ∧ vs.length < 100 then .ok (.tmp (.val (.exc k (ns.zip vs).reverse))) e else .stuck
    | none => .stuck
  | .isx a d, e => (evO c a e).bind fun o e => Out.of (((peek1 e o).bind (isxV c.xsub d)).map fun b => .tmp (.val (.bl b))) e
  | .fldx a f, e => (evO c a e).bind fun o e => Out.of (((peek1 e o).bind (fldxV f)).map fun v => .tmp (.val v)) e
def evXs (c : Ctx) : List IE → Env → Out (List Val)
  | [], e => .ok [] e
  | a :: as, e => ((evO c a e).bind freeze).bind fun v e => (evXs c as e).bind fun vs e => .ok (v :: vs) e
def evArgs (c : Ctx) : List IE → List Bool → Env → Out (List Opnd)
  | [], _, e => .ok [] e
  | a :: as, b :: bs, e => (if b then ((evO c a e).bind freeze).bind fun v e => Out.ok (.tmp (.val v)) e else evO c a e).bind fun o e => if plain o || smps as then (evArgs c as bs e).bind fun os e => .ok (o :: os) e else .stuck
  | a :: as, [], e => (evO c a e).bind fun o e => if plain o || smps as then (evArgs c as [] e).bind fun os e => .ok (o :: os) e else .stuck
def evOwns (c : Ctx) : List IE → Env → Out (List Pl)
  | [], e => .ok [] e
  | a :: as, e => ((evO c a e).bind own).bind fun p e => (evOwns c as e).bind fun ps e => .ok (p :: ps) e
def evPart (c : Ctx) : Option IE → Env → Out (Option Int)
  | none, e => .ok none e
  | some a, e => ((evO c a e).bind freeze).bind fun v e => Out.of (partInt v) e
def evIfs (c : Ctx) : List IE → Env → Out Bool
  | [], e => .ok true e
  | a :: as, e => (tst (evO c a e)).bind fun b e => if b then evIfs c as e else .ok false e
end
def evX (c : Ctx) (a : IE) (e : Env) : Out Val := (evO c a e).bind freeze
def evT (c : Ctx) (a : IE) (e : Env) : Out Bool := tst (evO c a e)
def flatOf (p : Option Pl) : Option Val :=
  match p with
  | some (.val v) => some v
  | _ => none
/-- each name once -/
def nodupF {α : Type} : List (Str × α) → Bool
  | [] => true
  | (n, _) :: fs => !(fs.any fun p => decide (p.1 = n)) && nodupF fs
/-- o[k] = v by what stands at o -/
def setSub (p : Pl) (k v : Val) : Option Pl :=
  match p, k with
  | .lst xs, .int i => (L2.ixN xs.length i).map fun j => .lst (xs.set j v)
  | .dct kvs, k => if (keyOf k).isSome && keysOk kvs && decide (kvs.length < line) then some (.dct (dput k v kvs)) else none
  | .rcd fs, .str n => if (fs.lookup n).isSome && nodupF fs && decide (fs.length < line) then some (.rcd (putF n (.val v) fs)) else none
  | _, _ => none
def forGo (tg : Val → Env → Option Env) (b : Env → SOut) : List Val → Env → SOut
  | [], e => .next e
  | v :: vs, e => match tg v e with
    | none => .stuck
    | some e1 => match b e1 with
      | .next e2 => forGo tg b vs e2
      | .cnt e2 => forGo tg b vs e2
      | .brk e2 => .next e2
      | o => o
def whlGo (t : Env → Out Bool) (b : Env → SOut) : Nat → Env → SOut
  | 0, _ => .stuck
  | n + 1, e => (t e).sbind fun r e => if r then match b e with
      | .next e2 => whlGo t b n e2
      | .cnt e2 => whlGo t b n e2
      | .brk e2 => .next e2
      | o => o
    else .next e
def oS (o : Option Env) : SOut :=
  match o with
  | some e => .next e
  | none => .stuck
mutual
def evS (c : Ctx) : IS → Env → SOut
  | .asg i a, e => ((evO c a e).bind own).sbind fun p e => oS (setT c.pin i p e)
  | .asgT t a, e => (evX c a e).sbind fun v e => oS (asgT c.pin t v e)
  | .asgs is as, e => (evOwns c as e).sbind fun ps e => oS (setTs c.pin is ps e)
  | .asgSub o k a, e => (evX c a e).sbind fun v e => (evO c o e).sbind fun x e => if plain x || smp k then (evX c k e).sbind fun kv e => match x with
      | .at i r => match (getE e i r).bind fun p => setSub p kv v with
        | some q => .next (setE e i r q)
        | none => .stuck
      | _ => .stuck
    else .stuck
  | .asgFld o f a, e => ((evO c a e).bind own).sbind fun p e => (evO c o e).sbind fun x e => match x with
      | .at i r => match getE e i r with
        | some (.ins k fs) => if fs.length < 900 then .next (setE e i r (.ins k (putF f p fs))) else .stuck
        | _ => .stuck
      | _ => .stuck
  | .aug i op a, e => match flatOf e[i]? with
    | none => .stuck
    | some x => if flat x then (evX c a e).sbind fun y e => match iopV op x y with
        | some z => oS (setT c.pin i (.val z) e)
        | none => .stuck
      else .stuck
  | .augFld o f op a, e => (evO c o e).sbind fun x e => match x with
      | .at i r => match flatOf (getE e i (r ++ [.f f])) with
        | none => .stuck
        | some u => if flat u && smp a then (evX c a e).sbind fun y e => match iopV op u y with
            | some z => match getE e i r with
              | some (.ins k fs) => if fs.length < 900 then .next (setE e i r (.ins k (putF f (.val z) fs))) else .stuck
              | _ => .stuck
            | none => .stuck
          else .stuck
      | _ => .stuck
  | .expr a, e => (evO c a e).sbind fun _ e => .next e
  | .ret a, e => match a with
    | .var i => if c.pin i then ((evO c a e).bind own).sbind fun p e => .ret p e else match e[i]? with
      | none => .stuck
      | some p => if (toVal p).isSome then .ret p (e.set i .hole) else .stuck
    | _ => ((evO c a e).bind own).sbind fun p e => .ret p e
  | .retN, e => .ret (.val .non) e
  | .pass, e => .next e
  | .stuck, _ => .stuck
  | .brk, e => .brk e
  | .cnt, e => .cnt e
  | .ite t a b, e => (evT c t e).sbind fun r e => if r then evSs c a e else evSs c b e
  | .whl t b, e => whlGo (evT c t) (evSs c b) c.W e
  | .for t k src b, e => (evXs c src e).sbind fun ss e => match srcV k ss with
    | none => .stuck
    | some items => forGo (asgT c.pin t) (evSs c b) items e
  | .fus x d key f a k, e => if smp a && smp k && decide (x ≠ d) then match setT c.pin x .hole e with
      | some e => match getE e d [.k key] with
        | some (.dct _) => (evX c a e).sbind fun v e => ((callO c (.fn f) [.tmp (.val v), .at d [.k key]] e).bind freeze).sbind fun y e => (evX c k e).sbind fun kv e => match (getE e d [.k key]).bind fun p => setSub p kv y with
          | some q => .next (setE e d [.k key] q)
          | none => .stuck
        | _ => .stuck
      | none => .stuck
    else .stuck
  | .raise k as, e => (evXs c as e).sbind fun vs e => match c.exf k with
    | none => .stuck
    | some ns => if ns.length = vs.length then .exn ⟨k, ns.zip vs⟩ e else .stuck
def evSs (c : Ctx) : List IS → Env → SOut
  | [], e => .next e
  | s :: ss, e => (evS c s e).then fun e => evSs c ss e
end
structure FnD where
  np : Nat
  n : Nat
  rb : List Bool
  body : List IS
structure Prg where
  glo : Str → Option Val
  fns : FnId → Option FnD
  exf : Str → Option (List Str)
  tab : Str → List (Val × Val)
  xsub : Str → Str → Option Bool
/-- the parameters' places behind a call: those that are bound anew as they were -/
def outs : List Bool → List Pl → Env → List Pl
  | b :: bs, p :: ps, q :: e => (if b then p else q) :: outs bs ps e
  | [], _ :: ps, q :: e => q :: outs [] ps e
  | _, _, _ => []
/-- what is bound anew is handed in by its value -/
def rbOk : List Bool → List Pl → Bool
  | true :: bs, p :: ps => (match p with | .val _ => true | _ => false) && rbOk bs ps
  | false :: bs, _ :: ps => rbOk bs ps
  | _, _ => true
def finish (d : FnD) (ps : List Pl) : SOut → COut
  | .next e => if ps.length ≤ e.length then .ok (.val .non) (outs d.rb ps e) else .stuck
  | .ret p e => if ps.length ≤ e.length then .ok p (outs d.rb ps e) else .stuck
  | .exn x e => if ps.length ≤ e.length then .exn x (outs d.rb ps e) else .stuck
  | _ => .stuck
def ctxOf (P : Prg) (W : Nat) (O : FnId → List Pl → COut) (d : FnD) : Ctx :=
  { O := O, has := fun f => (P.fns f).isSome, glo := P.glo, rb := fun f => ((P.fns f).map (·.rb)).getD [], exf := P.exf, pin := fun i => decide (i < d.np) && !(d.rb.getD i false), W := W, tab := P.tab, xsub := P.xsub }
def callN (P : Prg) (W : Nat) : Nat → FnId → List Pl → COut
  | 0, _, _ => .stuck
  | n + 1, f, ps => match P.fns f with
    | none => .stuck
    | some d => if ps.length = d.np ∧ d.np ≤ d.n ∧ rbOk d.rb ps then finish d ps (evSs (ctxOf P W (callN P W n) d) d.body (ps ++ List.replicate (d.n - d.np) .hole)) else .stuck
end Ev
namespace Ev
open PySem PySem.Spec L2
theorem PE.imp {X : Cx} {e : Expr} {t t' : TE} (h : PE X e t) (k : ∀ σ H Q, t' σ H Q → t σ H Q) : PE X e t' := ⟨fun pins s σ H Q I q => h.run pins s σ H Q I (k _ _ _ q)⟩
theorem PT.imp {X : Cx} {e : Expr} {t t' : TT} (h : PT X e t) (k : ∀ σ H Q, t' σ H Q → t σ H Q) : PT X e t' := ⟨fun pins s σ H Q I q => h.run pins s σ H Q I (k _ _ _ q)⟩
theorem PA.imp {X : Cx} {e : List Expr} {t t' : TA} (h : PA X e t) (k : ∀ σ H Q, t' σ H Q → t σ H Q) : PA X e t' := ⟨fun pos pins s σ H Q I q => h.run pos pins s σ H Q I (k _ _ _ q)⟩
/-- an exception's object by its fields -/
def ExR (w : Wd) (F : Hp) (x : Exn) (cls : Value) (d : Option Addr) : Prop := ∃ C dd fvs, w.gf x.cls = some C ∧ cls = .ref C ∧ d = some dd ∧ F dd = some (.xd fvs) ∧ DenF w F fvs x.fs
def CfgX (w : Wd) (G : Ground) (σ : L2.St) (H : Hp) (e : Env) (ts : List (V × Pl)) (x : Exn) (cls : Value) (d : Option Addr) : Prop := ∃ F lab, Cfg w G F lab σ H e ts ∧ ExR w F x cls d
theorem CfgX.drop {w : Wd} {G : Ground} {σ : L2.St} {H : Hp} {e : Env} {t : V × Pl} {ts : List (V × Pl)} {x : Exn} {cls : Value} {d : Option Addr} (h : CfgX w G σ H e (t :: ts) x cls d) : CfgX w G σ H e ts x cls d :=
  let ⟨F, lab, C, r⟩ := h
  ⟨F, lab, C.drop, r⟩
def tsOf (o : Opnd) (v : V) (ts : List (V × Pl)) : List (V × Pl) :=
  match o with
  | .at _ _ => ts
  | .tmp p => (v, p) :: ts
def Has (w : Wd) (σ : L2.St) (H : Hp) (ts : List (V × Pl)) (o : Opnd) (v : V) : Prop :=
  match o with
  | .at i r => AtS w σ H i r v
  | .tmp p => (v, p) ∈ ts
theorem has_self {w : Wd} {σ : L2.St} {H : Hp} {ts : List (V × Pl)} {p : Pl} {v : V} : Has w σ H (tsOf (.tmp p) v ts) (.tmp p) v := List.mem_cons_self
theorem tsOf_sub {o : Opnd} {v : V} {ts : List (V × Pl)} : ∀ t ∈ ts, t ∈ tsOf o v ts := fun t h => by
  cases o with
  | «at» i r => exact h
  | tmp p => exact List.mem_cons_of_mem _ h
theorem AtS.mono {w : Wd} {σ : L2.St} {H H' : Hp} {i : Nat} {r : List Step} {u : V} (h : AtS w σ H i r u) (e : Same H H') : AtS w σ H' i r u :=
  let ⟨v, h1, h2⟩ := h
  ⟨v, h1, h2.mono e⟩
theorem AtS.unique {w : Wd} {σ : L2.St} {H : Hp} {i : Nat} {r : List Step} {u u' : V} (h : AtS w σ H i r u) (h' : AtS w σ H i r u') : u = u' := by
  obtain ⟨v, h1, h2⟩ := h
  obtain ⟨v', h1', h2'⟩ := h'
  rw [h1] at h1'; cases h1'
  exact h2.unique h2'
/-- an operand stays where it is while another one is reckoned -/
theorem Has.stay {w : Wd} {σ : L2.St} {H H' : Hp} {ts ts' : List (V × Pl)} {o : Opnd} {v : V} {s : Bool} (h : Has w σ H ts o v) (hp : (plain o || s) = true) (hs : s = true → Same H H') (ht : ∀ t ∈ ts, t ∈ ts') : Has w σ H' ts' o v := by
  cases o with
  | tmp p => exact ht _ h
  | «at» i r =>
    cases r with
    | nil => exact h
    | cons a r =>
      have hs' : s = true := by simpa [plain] using hp
      exact AtS.mono h (hs hs')
/-- what is wanted of an operand's computation -/
def RO (w : Wd) (G : Ground) (W : WX) (s : Bool) (σ : L2.St) (H : Hp) (ts : List (V × Pl)) (Q : VK) : Out Opnd → Prop
  | .ok o e' => ∀ H' v, CfgE w G σ H' e' (tsOf o v ts) → Has w σ H' (tsOf o v ts) o v → (s = true → Same H H') → Q v H'
  | .exn x e' => ∀ cls d H', CfgX w G σ H' e' ts x cls d → W cls d σ H'
  | .stuck => False
def tO (w : Wd) (W : WX) (s : Bool) (m : Env → Out Opnd) : TE := fun σ H Q => ∃ G e ts, CfgE w G σ H e ts ∧ RO w G W s σ H ts Q (m e)
/-- .. of a value's computation -/
def RX (w : Wd) (G : Ground) (W : WX) (s : Bool) (σ : L2.St) (H : Hp) (ts : List (V × Pl)) (Q : VK) : Out Val → Prop
  | .ok x e' => ∀ H' v, CfgE w G σ H' e' ((v, .val x) :: ts) → (s = true → Same H H') → Q v H'
  | .exn x e' => ∀ cls d H', CfgX w G σ H' e' ts x cls d → W cls d σ H'
  | .stuck => False
/-- .. of a place's computation -/
def RP (w : Wd) (G : Ground) (W : WX) (s : Bool) (σ : L2.St) (H : Hp) (ts : List (V × Pl)) (Q : VK) : Out Pl → Prop
  | .ok p e' => ∀ H' v, CfgE w G σ H' e' ((v, p) :: ts) → (s = true → Same H H') → Q v H'
  | .exn x e' => ∀ cls d H', CfgX w G σ H' e' ts x cls d → W cls d σ H'
  | .stuck => False
/-- .. of values -/
def RXs (w : Wd) (G : Ground) (W : WX) (s : Bool) (σ : L2.St) (H : Hp) (ts : List (V × Pl)) (Q : List V → Hp → Prop) : Out (List Val) → Prop
  | .ok xs e' => ∀ H' vs F lab, Cfg w G F lab σ H' e' ts → Dens w F vs xs → (s = true → Same H H') → Q vs H'
  | .exn x e' => ∀ cls d H', CfgX w G σ H' e' ts x cls d → W cls d σ H'
  | .stuck => False
def tXs (w : Wd) (W : WX) (s : Bool) (m : Env → Out (List Val)) : TA := fun σ H Q => ∃ G e ts, CfgE w G σ H e ts ∧ RXs w G W s σ H ts Q (m e)
/-- .. of a test -/
def RT (w : Wd) (G : Ground) (W : WX) (s : Bool) (σ : L2.St) (H : Hp) (ts : List (V × Pl)) (Q : Bool → Hp → Prop) : Out Bool → Prop
  | .ok b e' => ∀ H', CfgE w G σ H' e' ts → (s = true → Same H H') → Q b H'
  | .exn x e' => ∀ cls d H', CfgX w G σ H' e' ts x cls d → W cls d σ H'
  | .stuck => False
def tT (w : Wd) (W : WX) (s : Bool) (m : Env → Out Bool) : TT := fun σ H Q => ∃ G e ts, CfgE w G σ H e ts ∧ RT w G W s σ H ts Q (m e)
section
variable {w : Wd} {G : Ground} {W : WX} {σ : L2.St} {H : Hp} {e : Env} {ts : List (V × Pl)} {F : Hp} {lab : Addr → Option Lab} {o : Opnd} {v : V} {x : Val}
theorem RepT.mem : ∀ {ts : List (V × Pl)} {v : V} {p : Pl}, RepT w F H lab ts → (v, p) ∈ ts → ∃ A, Rep w F H p v A
  | (u, q) :: ts, v, p, h, m => by
    rcases List.mem_cons.mp m with z | z
    · cases z; exact ⟨_, h.1⟩
    · exact RepT.mem h.2 z
/-- an operand's place, by its owner -/
theorem Cfg.rep (C : Cfg w G F lab σ H e ts) (h : Has w σ H ts o v) {q : Pl} (g : placeOf e o = some q) (hq : q ≠ .hole) : ∃ A, Rep w F H q v A := by
  cases o with
  | tmp p => cases g; exact C.temps.mem h
  | «at» i r =>
    obtain ⟨u, A, a1, R⟩ := C.atS g hq
    have := AtS.unique a1 h
    subst this
    exact ⟨A, R⟩
theorem peek_place (h : peek e o = some x) : ∃ q, placeOf e o = some q ∧ toVal q = some x := by
  cases o with
  | tmp p => exact ⟨p, rfl, h⟩
  | «at» i r =>
    have h : (getE e i r).bind toVal = some x := h
    cases g : getE e i r with
    | none => rw [g] at h; simp at h
    | some q => rw [g] at h; exact ⟨q, g, by simpa using h⟩
theorem peek1_place (h : peek1 e o = some x) : ∃ q, placeOf e o = some q ∧ toVal1 q = some x := by
  cases o with
  | tmp p => exact ⟨p, rfl, h⟩
  | «at» i r =>
    have h : (getE e i r).bind toVal1 = some x := h
    cases g : getE e i r with
    | none => rw [g] at h; simp at h
    | some q => rw [g] at h; exact ⟨q, g, by simpa using h⟩
/-- what an operand is worth as the heap stands -/
theorem Cfg.den (C : Cfg w G F lab σ H e ts) (h : Has w σ H ts o v) (p : peek e o = some x) : Den w H v x := by
  obtain ⟨q, g, t⟩ := peek_place p
  obtain ⟨A, R⟩ := C.rep h g (toVal_hole t)
  exact Rep.den C.fH q R (fun _ _ _ h => h) t
/-- a value as the heap stands, its items for ever -/
inductive Vw (w : Wd) (F H : Hp) : V → Val → Prop
  | old {v : V} {x : Val} : Den w F v x → Vw w F H v x
  | lst {a : Addr} {vs : List V} {xs : List Val} : H a = some (.lst vs) → Dens w F vs xs → Vw w F H (.ref a) (.lst xs)
  | dct {a : Addr} {kvs : List (Key × V)} {ys : List (Val × Val)} : H a = some (.dK kvs) → DenK w F kvs ys → Vw w F H (.ref a) (.dct ys)
theorem Cfg.vw (C : Cfg w G F lab σ H e ts) (h : Has w σ H ts o v) (p : peek1 e o = some x) : Vw w F H v x := by
  obtain ⟨q, g, t⟩ := peek1_place p
  have hq : q ≠ .hole := fun z => by subst z; simp [toVal1] at t
  obtain ⟨A, R⟩ := C.rep h g hq
  cases q with
  | hole => exact absurd rfl hq
  | val y =>
    simp only [toVal1, Option.some.injEq] at t; subst t
    simp only [Rep] at R
    exact .old R
  | lst xs =>
    simp only [toVal1, Option.some.injEq] at t; subst t
    simp only [Rep] at R
    obtain ⟨a, vs, e1, _, h2, d⟩ := R
    subst e1
    exact .lst h2 d
  | dct kvs =>
    simp only [toVal1, Option.some.injEq] at t; subst t
    simp only [Rep] at R
    obtain ⟨a, vs, e1, _, h2, d⟩ := R
    subst e1
    exact .dct h2 d
  | lstP _ => simp [toVal1] at t
  | ins _ _ => simp [toVal1] at t
  | rcd _ => simp [toVal1] at t
theorem Cfg.dropO (C : Cfg w G F lab σ H e (tsOf o v ts)) : Cfg w G F lab σ H e ts := by
  cases o with
  | «at» i r => exact C
  | tmp p => exact C.drop
theorem CfgX.dropO {y : Exn} {cls : Value} {d : Option Addr} (C : CfgX w G σ H e (tsOf o v ts) y cls d) : CfgX w G σ H e ts y cls d := by
  cases o with
  | «at» i r => exact C
  | tmp p => exact C.drop
theorem RO.toX {s : Bool} {Q : VK} {m : Out Opnd} (h : RX w G W s σ H ts Q (m.bind freeze)) : RO w G W s σ H ts Q m := by
  cases m with
  | stuck => exact h
  | exn y e1 => exact h
  | ok o e1 =>
    intro H' v C ha hs
    cases o with
    | tmp p =>
      simp only [Out.bind_ok, freeze] at h
      cases t : toVal p with
      | none => rw [t] at h; exact h.elim
      | some x =>
        rw [t] at h
        obtain ⟨F, lab, C⟩ := C
        exact h H' v (C.freezeT t) hs
    | «at» i r =>
      simp only [Out.bind_ok, freeze] at h
      cases g : getE e1 i r with
      | none => rw [g] at h; exact h.elim
      | some q =>
        cases t : toVal q with
        | none => rw [g] at h; simp only [Option.bind_some, t] at h; exact h.elim
        | some x =>
          rw [g] at h; simp only [Option.bind_some, t] at h
          obtain ⟨F, lab, C⟩ := C
          obtain ⟨u, a1, C'⟩ := C.freezeS g t
          have := AtS.unique a1 ha
          subst this
          exact h H' u C' hs
theorem RO.toP {s : Bool} {Q : VK} {m : Out Opnd} (h : RP w G W s σ H ts Q (m.bind own)) : RO w G W s σ H ts Q m := by
  cases m with
  | stuck => exact h
  | exn y e1 => exact h
  | ok o e1 =>
    cases o with
    | tmp p =>
      intro H' v C ha hs
      simp only [Out.bind_ok, own] at h
      cases t : toVal p with
      | none => rw [t] at h; exact h.elim
      | some x =>
        rw [t] at h
        exact h H' v C hs
    | «at» i r =>
      refine RO.toX (m := .ok (.at i r) e1) ?_
      simp only [Out.bind_ok, own] at h ⊢
      cases f : freeze (.at i r) e1 with
      | stuck => rw [f] at h; exact h
      | exn y e2 => rw [f] at h; exact h
      | ok x e2 => rw [f] at h; exact h
theorem RX.mono {s s' : Bool} {Q : VK} {m : Out Val} (h : RX w G W s σ H ts Q m) (k : s = true → s' = true) : RX w G W s' σ H ts Q m := by
  cases m with
  | stuck => exact h
  | exn y e1 => exact h
  | ok x e1 => exact fun H' v C hs => h H' v C fun z => hs (k z)
end
end Ev
namespace Ev
open PySem PySem.Spec L2
theorem OpR.or {X : Cx} {f : Value → Value → Sem Value} {r1 r2 : R2} (h1 : OpR X f r1) (h2 : OpR X f r2) : OpR X f (fun x y H Q => r1 x y H Q ∨ r2 x y H Q) := fun pins s σ H x y v u Q I rx ry h => by
  rcases h with h | h
  · exact h1 pins s σ H x y v u Q I rx ry h
  · exact h2 pins s σ H x y v u Q I rx ry h
theorem OpR.no {X : Cx} {f : Value → Value → Sem Value} : OpR X f (fun _ _ _ _ => False) := fun _ _ _ _ _ _ _ _ _ _ _ _ h => h.elim
def rStr : R2 := fun x y H Q => ∃ i j, x = .str i ∧ y = .str j ∧ i.length + j.length ≤ sizeLine ∧ Q (.str (i ++ j)) H
def rBin (K : PySem.W.Frag) : Operator → R2
  | .Add => fun x y H Q => rI0 (fun i j => .int (i + j)) x y H Q ∨ rStr x y H Q ∨ rCat x y H Q ∨ rCatA K x y H Q
  | .Sub => rI0 fun i j => .int (i - j)
  | .Mult => rI CMul fun i j => .int (i * j)
  | .FloorDiv => rI CDiv fun i j => .int (i / j)
  | .Mod => rI (fun _ j => 0 < j) fun i j => .int (i % j)
  | .Pow => rI CPow fun i j => .int (i ^ j.toNat)
  | _ => fun _ _ _ _ => False
theorem op_bin {X : Cx} : ∀ (op : Operator), OpR X (binaryOp op) (rBin X.K op)
  | .Add => OpR.or op_add (OpR.or op_add_str (OpR.or op_cat op_catA))
  | .Sub => op_sub
  | .Mult => op_mul
  | .FloorDiv => op_fdiv
  | .Mod => op_mod
  | .Pow => op_pow
  | .MatMult => OpR.no | .Div => OpR.no | .LShift => OpR.no | .RShift => OpR.no | .BitOr => OpR.no | .BitXor => OpR.no | .BitAnd => OpR.no
section
variable {w : Wd} {G : Ground} {W : WX} {σ : L2.St} {H : Hp} {e : Env} {ts : List (V × Pl)} {F : Hp} {lab : Addr → Option Lab} {o : Opnd} {v : V} {x : Val}
/-- new frozen objects as results -/
theorem RO.newF {s : Bool} {Q : VK} {e' : Env} {ob : HO} {H1 : Hp} (h : RO w G W s σ H ts Q (.ok (.tmp (.val x)) e')) (C : Cfg w G F lab σ H1 e' ts) (d : ∀ p, H1 p = none → F p = none → Den w (upd F p ob) (.ref p) x) (hs : s = true → Same H H1) :
    ∀ p, H1 p = none → Q (.ref p) (upd H1 p ob) := fun p hp =>
  h _ _ ⟨_, _, (C.newF hp (o := ob)).push (d p hp (C.fH.free hp))⟩ has_self fun z => (hs z).trans (same_new hp)
theorem RO.newO {s : Bool} {Q : VK} {e' : Env} {ob : HO} {pl : Pl} {H1 : Hp} (h : RO w G W s σ H ts Q (.ok (.tmp pl) e')) (C : Cfg w G F lab σ H1 e' ts) (d : ∀ p, H1 p = none → Rep w F (upd H1 p ob) pl (.ref p) (fun a => a = p)) (hs : s = true → Same H H1) :
    ∀ p, H1 p = none → Q (.ref p) (upd H1 p ob) := fun p hp =>
  h _ _ (C.newO hp (d p hp)) has_self fun z => (hs z).trans (same_new hp)
theorem RO.value {s : Bool} {Q : VK} {e' : Env} {H1 : Hp} (h : RO w G W s σ H ts Q (.ok (.tmp (.val x)) e')) (C : Cfg w G F lab σ H1 e' ts) (d : Den w F v x) (hs : s = true → Same H H1) : Q v H1 :=
  h _ _ ⟨_, _, C.push d⟩ has_self hs
theorem rep_lst {vs : List V} {xs : List Val} {p : Addr} {H1 : Hp} (d : Dens w F vs xs) : Rep w F (upd H1 p (.lst vs)) (.lst xs) (.ref p) (fun a => a = p) := by
  simp only [Rep]
  exact ⟨p, vs, rfl, rfl, upd_same, d⟩
theorem Vw.int {i : Int} {H1 : Hp} (h : Vw w F H1 v (.int i)) : v = .int i := by
  cases h with | old d => cases d; rfl
theorem Vw.str {i : Str} {H1 : Hp} (h : Vw w F H1 v (.str i)) : v = .str i := by
  cases h with | old d => cases d; rfl
theorem Vw.lstH {xs : List Val} {H1 : Hp} (fH : Same F H1) (h : Vw w F H1 v (.lst xs)) : ∃ a vs, v = .ref a ∧ H1 a = some (.lst vs) ∧ Dens w F vs xs := by
  cases h with
  | old d => cases d with | lst h1 d => exact ⟨_, _, rfl, fH _ _ h1, d⟩
  | lst h1 d => exact ⟨_, _, rfl, h1, d⟩
theorem Vw.tupH {xs : List Val} {H1 : Hp} (h : Vw w F H1 v (.tup xs)) : ∃ a vs, v = .ref a ∧ SqT w.K F a vs ∧ Dens w F vs xs := by
  cases h with
  | old d => cases d with | tup h1 d => exact ⟨_, _, rfl, h1, d⟩
theorem Vw.dctH {kvs : List (Val × Val)} {H1 : Hp} (fH : Same F H1) (h : Vw w F H1 v (.dct kvs)) : ∃ a ks, v = .ref a ∧ H1 a = some (.dK ks) ∧ DenK w F ks kvs := by
  cases h with
  | old d => cases d with | dct h1 d => exact ⟨_, _, rfl, fH _ _ h1, d⟩
  | dct h1 d => exact ⟨_, _, rfl, h1, d⟩
theorem Vw.fzlH {xs : List Val} {H1 : Hp} (h : Vw w F H1 v (.fzl xs)) : ∃ a vs, v = .ref a ∧ SqL w.K F a vs ∧ Dens w F vs xs := by
  cases h with
  | old d => cases d with | fzl h1 d => exact ⟨_, _, rfl, h1, d⟩
/-- a binary operator's reading, from the values -/
theorem bin_of {op : Operator} {x y : Val} {p : Pl} {vx vy : V} {s : Bool} {Q : VK} {e' : Env} {H1 : Hp} (hb : binV op x y = some p) (C : Cfg w G F lab σ H1 e' ts) (hx : Vw w F H1 vx x) (hy : Vw w F H1 vy y) (hs : s = true → Same H H1)
    (h : RO w G W s σ H ts Q (.ok (.tmp p) e')) : rBin w.K op vx vy H1 Q := by
  have line_eq : line = sizeLine := by rw [sizeLine_eq]
  unfold binV at hb
  split at hb
  · cases hb; rw [hx.int, hy.int]; exact .inl ⟨_, _, rfl, rfl, h.value C (.int _) hs⟩
  · cases hb; rw [hx.int, hy.int]; exact ⟨_, _, rfl, rfl, h.value C (.int _) hs⟩
  · split at hb
    · rename_i hc; cases hb; rw [hx.int, hy.int]; exact ⟨_, _, rfl, rfl, hc, h.value C (.int _) hs⟩
    · cases hb
  · split at hb
    · rename_i hc; cases hb; rw [hx.int, hy.int]; exact ⟨_, _, rfl, rfl, hc, h.value C (.int _) hs⟩
    · cases hb
  · split at hb
    · rename_i hc; cases hb; rw [hx.int, hy.int]; exact ⟨_, _, rfl, rfl, hc, h.value C (.int _) hs⟩
    · cases hb
  · split at hb
    · rename_i hc; cases hb; rw [hx.int, hy.int]; exact ⟨_, _, rfl, rfl, hc, h.value C (.int _) hs⟩
    · cases hb
  · split at hb
    · rename_i hc; cases hb; rw [hx.str, hy.str]; exact .inr (.inl ⟨_, _, rfl, rfl, by rw [← line_eq]; exact hc, h.value C (.str _) hs⟩)
    · cases hb
  · split at hb
    · rename_i hc; cases hb
      obtain ⟨a, vs, rfl, h1, d1⟩ := hx.lstH C.fH
      obtain ⟨b, us, rfl, h2, d2⟩ := hy.lstH C.fH
      refine .inr (.inr (.inl ⟨a, b, vs, us, rfl, rfl, h1, h2, by rw [d1.length, d2.length, ← line_eq]; exact hc, h.newO C (fun p hp => rep_lst (d1.append d2)) hs⟩))
    · cases hb
  · split at hb
    · rename_i hc; cases hb
      obtain ⟨a, vs, rfl, h1, d1⟩ := hx.tupH
      obtain ⟨b, us, rfl, h2, d2⟩ := hy.tupH
      refine .inr (.inr (.inr ⟨a, b, vs, us, rfl, rfl, sqT_mono C.fH h1, sqT_mono C.fH h2, by rw [d1.length, d2.length, ← line_eq]; exact hc, fun z => ?_, fun _ z => ?_, fun _ _ => ?_⟩))
      · subst z; cases d1
        exact h.value C (.tup h2 d2) hs
      · subst z; cases d2
        rw [List.append_nil] at h
        exact h.value C (.tup h1 d1) hs
      · exact h.newF C (fun p hp fp => .tup (.inl (.inl upd_same)) ((d1.append d2).mono (same_new fp))) hs
    · cases hb
  · cases hb
/-- two operands, one behind the other -/
theorem two {sa sb : Bool} {ma mb : Env → Out Opnd} {k : Opnd → Opnd → Env → Out Opnd} {Q : VK} {r : R2} (C : CfgE w G σ H e ts)
    (h : RO w G W (sa && sb) σ H ts Q ((ma e).bind fun x e => if plain x || sb then (mb e).bind fun y e => k x y e else .stuck))
    (fin : ∀ o1 o2 e2 H2 v1 v2 F lab ts2, Cfg w G F lab σ H2 e2 ts2 → Cfg w G F lab σ H2 e2 ts → Has w σ H2 ts2 o1 v1 → Has w σ H2 ts2 o2 v2 → ((sa && sb) = true → Same H H2) → RO w G W (sa && sb) σ H ts Q (k o1 o2 e2) → r v1 v2 H2 Q) :
    tO w W sa ma σ H fun x H1 => tO w W sb mb σ H1 fun y H2 => r x y H2 Q := by
  refine ⟨G, e, ts, C, ?_⟩
  cases m1 : ma e with
  | stuck => rw [m1] at h; exact h.elim
  | exn y e1 => rw [m1] at h; exact h
  | ok o1 e1 =>
    rw [m1] at h
    simp only [Out.bind_ok] at h
    intro H1 v1 C1 a1 s1
    by_cases hp : (plain o1 || sb) = true
    · rw [if_pos hp] at h
      refine ⟨G, e1, tsOf o1 v1 ts, C1, ?_⟩
      cases m2 : mb e1 with
      | stuck => rw [m2] at h; exact h.elim
      | exn y e2 => rw [m2] at h; exact fun cls d H' c => h cls d H' c.dropO
      | ok o2 e2 =>
        rw [m2] at h
        simp only [Out.bind_ok] at h
        intro H2 v2 C2 a2 s2
        obtain ⟨F, lab, C2⟩ := C2
        refine fin o1 o2 e2 H2 v1 v2 F lab _ C2 C2.dropO.dropO (a1.stay hp s2 tsOf_sub) a2 (fun z => ?_) h
        rw [Bool.and_eq_true] at z
        exact (s1 z.1).trans (s2 z.2)
    · rw [if_neg hp] at h; exact h.elim
end
section
variable {X : Cx} {W : WX} {w : Wd} {c : Ctx} {a b : Expr} {ia ib : IE} {pos : Pos}
theorem pe_bin {op : Operator} (hK : X.K = w.K) (ha : PE X a (tO w W (smp ia) (evO c ia))) (hb : PE X b (tO w W (smp ib) (evO c ib))) : PE X (.BinOp a op b pos) (tO w W (smp (.bin op ia ib)) (evO c (.bin op ia ib))) := by
  refine PE.imp (pe_op (op_bin op) ha hb) fun σ H Q h => ?_
  obtain ⟨G, e, ts, C, h⟩ := h
  simp only [evO, smp] at h
  refine two C h fun o1 o2 e2 H2 v1 v2 F lab ts2 C2 C0 a1 a2 hs hr => ?_
  cases p1 : peek1 e2 o1 with
  | none => rw [p1] at hr; exact hr.elim
  | some x =>
    cases p2 : peek1 e2 o2 with
    | none => rw [p1, p2] at hr; exact hr.elim
    | some y =>
      rw [p1, p2] at hr
      simp only [Option.bind_some] at hr
      cases hb : binV op x y with
      | none => rw [hb] at hr; exact hr.elim
      | some p =>
        rw [hb] at hr
        rw [hK]
        exact bin_of hb C0 (C2.vw a1 p1) (C2.vw a2 p2) hs hr
end
end Ev
namespace Ev
open PySem PySem.Spec L2
mutual
theorem dp_of {w : Wd} {H : Hp} : ∀ (n : Nat) (x : Val) {v : V}, dat n x = true → Den w H v x → Dp w.K H v (toData x)
  | n, .non, _, _, h => by cases h; simp only [toData]; exact .non
  | n, .bl b, _, _, h => by cases h; simp only [toData]; exact .bl b
  | n, .int i, _, _, h => by cases h; simp only [toData]; exact .int i
  | n, .str s, _, _, h => by cases h; simp only [toData]; exact .str s
  | n + 1, .tup xs, _, k, h => by
    cases h with | tup h1 d => simp only [toData]; simp only [dat] at k; exact .tup h1 (dps_of n xs k d)
  | n + 1, .lst xs, _, k, h => by
    cases h with | lst h1 d => simp only [toData]; simp only [dat] at k; exact .lst (.inl (.inl h1)) (dps_of n xs k d)
  | 0, .tup _, _, k, _ => by simp [dat] at k
  | 0, .lst _, _, k, _ => by simp [dat] at k
  | n, .fzl _, _, k, _ => by simp [dat] at k
  | n, .dct _, _, k, _ => by simp [dat] at k
  | n, .ins _ _, _, k, _ => by simp [dat] at k
  | n, .gl _, _, k, _ => by simp [dat] at k
  | n, .exc _ _, _, k, _ => by simp [dat] at k
theorem dps_of {w : Wd} {H : Hp} : ∀ (n : Nat) (xs : List Val) {vs : List V}, dats n xs = true → Dens w H vs xs → DpAll w.K H vs (toDatas xs)
  | _, [], _, _, h => by cases h; simp only [toDatas]; exact .nil
  | n, x :: xs, _, k, h => by
    simp only [dats, Bool.and_eq_true] at k
    cases h with | cons a b => simp only [toDatas]; exact .cons (dp_of n x k.1 a) (dps_of n xs k.2 b)
end
mutual
theorem lay_of : ∀ (n : Nat) (x : Val), dat n x = true → (toData x).canLay0 = true ∧ (toData x).depth ≤ n
  | n, .non, _ => by simp [toData, PyData.canLay0, PyData.depth]
  | n, .bl b, _ => by simp [toData, PyData.canLay0, PyData.depth]
  | n, .int i, _ => by simp [toData, PyData.canLay0, PyData.depth]
  | n, .str s, h => by
    have h' : sOk s = true := by cases n <;> simpa [dat] using h
    simpa [toData, PyData.canLay0, PyData.depth, PyData.strOk, sOk] using h'
  | n + 1, .tup xs, k => by
    simp only [dat] at k
    obtain ⟨h1, h2⟩ := lays_of n xs k
    simp only [toData, PyData.canLay0, PyData.depth]
    exact ⟨h1, by omega⟩
  | n + 1, .lst xs, k => by
    simp only [dat] at k
    obtain ⟨h1, h2⟩ := lays_of n xs k
    simp only [toData, PyData.canLay0, PyData.depth]
    exact ⟨h1, by omega⟩
  | 0, .tup _, k => by simp [dat] at k
  | 0, .lst _, k => by simp [dat] at k
  | n, .fzl _, k => by simp [dat] at k
  | n, .dct _, k => by simp [dat] at k
  | n, .ins _ _, k => by simp [dat] at k
  | n, .gl _, k => by simp [dat] at k
  | n, .exc _ _, k => by simp [dat] at k
theorem lays_of : ∀ (n : Nat) (xs : List Val), dats n xs = true → PyData.canLayAll0 (toDatas xs) = true ∧ PyData.depthAll (toDatas xs) ≤ n
  | n, [], _ => by simp [toDatas, PyData.canLayAll0, PyData.depthAll]
  | n, x :: xs, k => by
    simp only [dats, Bool.and_eq_true] at k
    obtain ⟨h1, h2⟩ := lay_of n x k.1
    obtain ⟨h3, h4⟩ := lays_of n xs k.2
    simp only [toDatas, PyData.canLayAll0, PyData.depthAll, h1, h3, Bool.and_self, true_and]
    omega
end
theorem shaped_of {n : Nat} {x : Val} (hn : n ≤ 64) (h : dat n x = true) : SeqAt.shaped (toData x) = true := by
  obtain ⟨h1, h2⟩ := lay_of n x h
  unfold SeqAt.shaped
  rw [h1, Bool.true_and]
  exact decide_eq_true (by omega)
mutual
theorem veq_eqv : ∀ (n : Nat) (x y : Val), dat n x = true → dat n y = true → veq x y = PyData.eqv (toData x) (toData y)
  | n, x, y, hx, hy => by
    cases x with
    | tup xs =>
      cases n with
      | zero => simp [dat] at hx
      | succ n =>
        cases y with
        | tup ys => simp only [dat] at hx hy; simp only [veq, toData, PyData.eqv]; exact veqs_eqv n xs ys hx hy
        | fzl _ => simp [dat] at hy
        | dct _ => simp [dat] at hy
        | ins _ _ => simp [dat] at hy
        | gl _ => simp [dat] at hy
        | exc _ _ => simp [dat] at hy
        | _ => simp [veq, toData, PyData.eqv]
    | lst xs =>
      cases n with
      | zero => simp [dat] at hx
      | succ n =>
        cases y with
        | lst ys => simp only [dat] at hx hy; simp only [veq, toData, PyData.eqv]; exact veqs_eqv n xs ys hx hy
        | fzl _ => simp [dat] at hy
        | dct _ => simp [dat] at hy
        | ins _ _ => simp [dat] at hy
        | gl _ => simp [dat] at hy
        | exc _ _ => simp [dat] at hy
        | _ => simp [veq, toData, PyData.eqv]
    | fzl _ => simp [dat] at hx
    | dct _ => simp [dat] at hx
    | ins _ _ => simp [dat] at hx
    | gl _ => simp [dat] at hx
    | exc _ _ => simp [dat] at hx
    | _ => cases y <;> first | (simp [veq, toData, PyData.eqv]; done) | (simp [dat] at hy; done)
theorem veqs_eqv : ∀ (n : Nat) (xs ys : List Val), dats n xs = true → dats n ys = true → veqs xs ys = PyData.eqvAll (toDatas xs) (toDatas ys)
  | _, [], [], _, _ => by simp [veqs, toDatas, PyData.eqvAll]
  | _, [], _ :: _, _, _ => by simp [veqs, toDatas, PyData.eqvAll]
  | _, _ :: _, [], _, _ => by simp [veqs, toDatas, PyData.eqvAll]
  | n, x :: xs, y :: ys, hx, hy => by
    simp only [dats, Bool.and_eq_true] at hx hy
    simp only [veqs, toDatas, PyData.eqvAll, veq_eqv n x y hx.1 hy.1, veqs_eqv n xs ys hx.2 hy.2]
end
theorem any_eqv {n : Nat} {x : Val} (hx : dat n x = true) : ∀ (ys : List Val), dats n ys = true → ys.any (veq · x) = (toDatas ys).any (fun z => PyData.eqv z (toData x))
  | [], _ => by simp [toDatas]
  | y :: ys, h => by
    simp only [dats, Bool.and_eq_true] at h
    simp only [List.any_cons, toDatas, veq_eqv n y x h.1 hx, any_eqv hx ys h.2]
section
variable {X : Cx}
def rInT (K : PySem.W.Frag) : R2 := fun x y H Q => ∃ d ds, Dp K H x d ∧ Dp K H y (.tuple ds) ∧ SeqAt.shaped d = true ∧ SeqAt.shaped (.tuple ds) = true ∧ Q (.bl (ds.any fun z => PyData.eqv z d)) H
def rNotInT (K : PySem.W.Frag) : R2 := fun x y H Q => ∃ d ds, Dp K H x d ∧ Dp K H y (.tuple ds) ∧ SeqAt.shaped d = true ∧ SeqAt.shaped (.tuple ds) = true ∧ Q (.bl (!ds.any fun z => PyData.eqv z d)) H
theorem op_inT (hu : X.A.units + 65 < cLine) : OpR X (compareOp .In) (rInT X.K) := by
  intro pins s σ H x y v u Q I rx ry h
  obtain ⟨d, ds, hd, he, sd, se, q⟩ := h
  obtain ⟨as, r1⟩ := Dp.reads I d x v hd rx
  obtain ⟨bs, r2⟩ := Dp.reads I (.tuple ds) y u he ry
  exact SeqAt.in_tuple_reads r2 r1 (SeqAt.canLay_of_shaped se) (SeqAt.canLay_of_shaped sd) (PyProof.Rows.room_in_shaped sd hu) ⟨.bl _, H, I, rfl, q⟩
theorem op_notInT (hu : X.A.units + 65 < cLine) : OpR X (compareOp .NotIn) (rNotInT X.K) := by
  intro pins s σ H x y v u Q I rx ry h
  obtain ⟨d, ds, hd, he, sd, se, q⟩ := h
  obtain ⟨as, r1⟩ := Dp.reads I d x v hd rx
  obtain ⟨bs, r2⟩ := Dp.reads I (.tuple ds) y u he ry
  exact SeqAt.notIn_tuple_reads r2 r1 (SeqAt.canLay_of_shaped se) (SeqAt.canLay_of_shaped sd) (PyProof.Rows.room_in_shaped sd hu) ⟨.bl _, H, I, rfl, q⟩
theorem is_bool_gen {M : Model} {A : Around} {E : Value → Shared → Prop} {s : Shared} {Q : Value → Shared → Prop} {x : V} {v : Value} {b : Bool} (r : RelV x v) (h : Q (.bool (v == .bool b)) s) : wpAny M A (compareOp .Is v (.bool b)) Q E s := by
  cases x with
  | non => cases (show v = Value.none from r); exact wpAny_pure h
  | bl a => cases (show v = Value.bool a from r); exact wpAny_pure h
  | int i => obtain ⟨t, rfl⟩ := r; exact wpAny_pure h
  | str i => obtain ⟨t, rfl⟩ := r; exact wpAny_pure h
  | byt i => obtain ⟨t, rfl⟩ := r; exact wpAny_pure h
  | flt i => obtain ⟨t, rfl⟩ := r; exact wpAny_pure h
  | ref a => cases (show v = Value.ref a from r); exact wpAny_pure h
  | ty a => cases (show v = Value.type a from r); exact wpAny_pure h
theorem isnot_bool_gen {M : Model} {A : Around} {E : Value → Shared → Prop} {s : Shared} {Q : Value → Shared → Prop} {x : V} {v : Value} {b : Bool} (r : RelV x v) (h : Q (.bool (!(v == .bool b))) s) : wpAny M A (compareOp .IsNot v (.bool b)) Q E s := by
  cases x with
  | non => cases (show v = Value.none from r); exact wpAny_pure h
  | bl a => cases (show v = Value.bool a from r); exact wpAny_pure h
  | int i => obtain ⟨t, rfl⟩ := r; exact wpAny_pure h
  | str i => obtain ⟨t, rfl⟩ := r; exact wpAny_pure h
  | byt i => obtain ⟨t, rfl⟩ := r; exact wpAny_pure h
  | flt i => obtain ⟨t, rfl⟩ := r; exact wpAny_pure h
  | ref a => cases (show v = Value.ref a from r); exact wpAny_pure h
  | ty a => cases (show v = Value.type a from r); exact wpAny_pure h
def rIsB (neg : Bool) : R2 := fun x y H Q => ∃ b, y = .bl b ∧ Q (.bl (if neg then !decide (x = .bl b) else decide (x = .bl b))) H
theorem relV_bl {x : V} {v : Value} {b : Bool} (r : RelV x v) : (v == Value.bool b) = decide (x = .bl b) := by
  cases x with
  | bl a =>
    cases (show v = Value.bool a from r)
    by_cases e : a = b
    · subst e; simp
    · have h1 : ¬ (V.bl a = V.bl b) := fun z => e (V.bl.inj z)
      have h2 : ¬ (Value.bool a = Value.bool b) := fun z => e (Value.bool.inj z)
      rw [decide_eq_false h1]; simpa using h2
  | non => cases (show v = Value.none from r); simp
  | int i => obtain ⟨t, rfl⟩ := r; simp
  | str i => obtain ⟨t, rfl⟩ := r; simp
  | byt i => obtain ⟨t, rfl⟩ := r; simp
  | flt i => obtain ⟨t, rfl⟩ := r; simp
  | ref a => cases (show v = Value.ref a from r); simp
  | ty a => cases (show v = Value.type a from r); simp
theorem op_isB : OpR X (compareOp .Is) (rIsB false) := by
  intro pins s σ H x y v u Q I rx ry h
  obtain ⟨b, rfl, q⟩ := h
  cases ry
  exact is_bool_gen rx (fin_bl I q (by rw [relV_bl rx]; rfl))
theorem op_isnotB : OpR X (compareOp .IsNot) (rIsB true) := by
  intro pins s σ H x y v u Q I rx ry h
  obtain ⟨b, rfl, q⟩ := h
  cases ry
  exact isnot_bool_gen rx (fin_bl I q (by rw [relV_bl rx]; rfl))
def rInK : R2 := fun x y H Q => ∃ a o, y = .ref a ∧ DGet H a x o ∧ Q (.bl o.isSome) H
def rNotInK : R2 := fun x y H Q => ∃ a o, y = .ref a ∧ DGet H a x o ∧ Q (.bl (!o.isSome)) H
theorem op_inK {X : Cx} (hu : X.A.units + 1 < cLine) : OpR X (compareOp .In) rInK := by
  intro pins s σ H x y v u Q I rx ry h
  obtain ⟨a, o, rfl, g, q⟩ := h
  cases ry
  exact d_in hu I g rx fun s' I' => ⟨.bl _, H, I', rfl, q⟩
theorem op_notInK {X : Cx} (hu : X.A.units + 1 < cLine) : OpR X (compareOp .NotIn) rNotInK := by
  intro pins s σ H x y v u Q I rx ry h
  obtain ⟨a, o, rfl, g, q⟩ := h
  cases ry
  exact d_notIn hu I g rx fun s' I' => ⟨.bl _, H, I', rfl, q⟩
def rCmp (K : PySem.W.Frag) : CmpOp → R2
  | .Eq => rEqD K
  | .NotEq => rNeD K
  | .Lt => fun x y H Q => rI0 (fun i j => .bl (decide (i < j))) x y H Q ∨ ∃ i j, x = .str i ∧ y = .str j ∧ Q (.bl (decide (i.cps.toList < j.cps.toList))) H
  | .LtE => rI0 fun i j => .bl (decide (i ≤ j))
  | .Gt => rI0 fun i j => .bl (decide (j < i))
  | .GtE => rI0 fun i j => .bl (decide (j ≤ i))
  | .Is => fun x y H Q => (y = .non ∧ Q (.bl (decide (x = .non))) H) ∨ rIsB false x y H Q
  | .IsNot => fun x y H Q => (y = .non ∧ Q (.bl (!decide (x = .non))) H) ∨ rIsB true x y H Q
  | .In => fun x y H Q => rInD K x y H Q ∨ rInT K x y H Q ∨ rInK x y H Q ∨ rInS x y H Q
  | .NotIn => fun x y H Q => rNotInD K x y H Q ∨ rNotInT K x y H Q ∨ rNotInK x y H Q ∨ rNotInS x y H Q
theorem op_cmp (hu : X.A.units + 65 < cLine) : ∀ (op : CmpOp), OpR X (compareOp op) (rCmp X.K op)
  | .Eq => op_eqD (by omega)
  | .NotEq => op_neD (by omega)
  | .Lt => OpR.or op_lt op_lt_str
  | .LtE => op_le
  | .Gt => op_gt
  | .GtE => op_ge
  | .Is => OpR.or op_isN op_isB
  | .IsNot => OpR.or op_notN op_isnotB
  | .In => OpR.or (op_inD hu) (OpR.or (op_inT hu) (OpR.or (op_inK (by omega)) op_inS))
  | .NotIn => OpR.or (op_notInD hu) (OpR.or (op_notInT hu) (OpR.or (op_notInK (by omega)) op_notInS))
end
theorem Den.non_iff {w : Wd} {F : Hp} {v : V} {x : Val} (d : Den w F v x) : decide (v = .non) = isNon x := by
  cases d <;> simp [isNon]
theorem Den.bl_iff {w : Wd} {F : Hp} {v : V} {x : Val} {b : Bool} (d : Den w F v x) : decide (v = .bl b) = isBl b x := by
  cases d with
  | bl a =>
    by_cases e : a = b
    · subst e; simp [isBl]
    · have h1 : ¬ (V.bl a = V.bl b) := fun z => e (V.bl.inj z)
      rw [decide_eq_false h1]; simp [isBl, e]
  | _ => simp [isBl]
theorem dat_lst {n : Nat} {xs : List Val} (h : dats n xs = true) : dat (n + 1) (.lst xs) = true := by simp only [dat]; exact h
theorem dat_tup {n : Nat} {xs : List Val} (h : dats n xs = true) : dat (n + 1) (.tup xs) = true := by simp only [dat]; exact h
section
variable {w : Wd}
theorem keyOf_den {F : Hp} {v : V} {x : Val} {k : Key} (d : Den w F v x) (h : keyOf x = some k) : v = kV k ∧ x = keyVal k := by
  cases d <;> simp [keyOf] at h <;> subst h <;> exact ⟨rfl, rfl⟩
theorem keyOf_keyVal (k : Key) : keyOf (keyVal k) = some k := by cases k <;> rfl
theorem dlook_den {F : Hp} {k : Val} {kk : Key} (hk : keyOf k = some kk) : ∀ {kvs : List (Key × V)} {ys : List (Val × Val)}, DenK w F kvs ys → match dlook k ys with
    | some y => ∃ u, valV kvs kk = some u ∧ Den w F u y
    | none => valV kvs kk = none
  | _, _, .nil => by simp [dlook, valV]
  | _, _, .cons (k := j) (v := v) a r => by
    simp only [dlook, keyOf_keyVal, hk]
    by_cases e : j = kk
    · subst e
      rw [if_pos rfl]
      exact ⟨v, by simp [valV], a⟩
    · rw [if_neg (fun z => e (Option.some.inj z))]
      have ih := dlook_den hk r
      have ev : ∀ {vs : List (Key × V)}, valV ((j, v) :: vs) kk = valV vs kk := by
        intro vs
        simp [valV, List.find?_cons, e]
      rw [ev]
      exact ih
theorem dgetH_of {H : Hp} {v u : V} {kvs : List (Val × Val)} {k : Val} {r : Option Val} (hd : dgetV kvs k = some r) (d : Den w H v (.dct kvs)) (dk : Den w H u k) : ∃ a ov, v = .ref a ∧ DGet H a u ov ∧ ov.isSome = r.isSome := by
  cases d with
  | dct h1 d =>
    rename_i a ks
    unfold dgetV at hd
    split at hd
    · rename_i hc
      rw [Bool.and_eq_true] at hc
      obtain ⟨kk, hk⟩ := Option.isSome_iff_exists.mp hc.1
      simp only [Option.some.injEq] at hd
      have q := dlook_den hk d
      rw [hd] at q
      obtain ⟨rfl, _⟩ := keyOf_den dk hk
      refine ⟨a, _, rfl, DGet.k h1, ?_⟩
      cases r with
      | none => have q : valV ks kk = none := q; rw [q]; rfl
      | some y => obtain ⟨t, q1, _⟩ := q; rw [q1]; rfl
    · cases hd
theorem sign_eq {x : Str} {c : Nat} (h : sign x = some c) : x = ⟨#[c]⟩ := by
  unfold sign at h
  split at h
  · rename_i l
    cases h
    cases x with
    | mk cps =>
      have : cps = #[c] := Array.toList_inj.mp (by simpa using l)
      rw [this]
  · cases h
end
theorem cmp_of {w : Wd} {op : CmpOp} {x y : Val} {r : Bool} {vx vy : V} {H : Hp} {Q : VK} (hb : cmpV op x y = some r) (hx : Den w H vx x) (hy : Den w H vy y) (q : Q (.bl r) H) : rCmp w.K op vx vy H Q := by
  have he : eqDepth ≤ 64 := by decide
  unfold cmpV at hb
  split at hb
  · split at hb
    · rename_i hc; cases hb
      rw [Bool.and_eq_true] at hc
      exact ⟨_, _, dp_of _ _ hc.1 hx, dp_of _ _ hc.2 hy, shaped_of he hc.1, shaped_of he hc.2, by rw [← veq_eqv _ _ _ hc.1 hc.2]; exact q⟩
    · cases hb
  · split at hb
    · rename_i hc; cases hb
      rw [Bool.and_eq_true] at hc
      exact ⟨_, _, dp_of _ _ hc.1 hx, dp_of _ _ hc.2 hy, shaped_of he hc.1, shaped_of he hc.2, by rw [← veq_eqv _ _ _ hc.1 hc.2]; exact q⟩
    · cases hb
  · cases hb; cases hx; cases hy; exact .inl ⟨_, _, rfl, rfl, q⟩
  · cases hb; cases hx; cases hy; exact ⟨_, _, rfl, rfl, q⟩
  · cases hb; cases hx; cases hy; exact ⟨_, _, rfl, rfl, q⟩
  · cases hb; cases hx; cases hy; exact ⟨_, _, rfl, rfl, q⟩
  · cases hb; cases hx; cases hy; exact .inr ⟨_, _, rfl, rfl, q⟩
  · cases hb; cases hy; exact .inl ⟨rfl, by rw [hx.non_iff]; exact q⟩
  · cases hb; cases hy; exact .inl ⟨rfl, by rw [hx.non_iff]; exact q⟩
  · cases hb; cases hy; exact .inr ⟨_, rfl, by rw [if_neg Bool.false_ne_true, hx.bl_iff]; exact q⟩
  · cases hb; cases hy; exact .inr ⟨_, rfl, by rw [if_pos rfl, hx.bl_iff]; exact q⟩
  · split at hb
    · rename_i hc; cases hb
      rw [Bool.and_eq_true] at hc
      have hl := dat_lst hc.2
      have h2 := dp_of _ _ hl hy
      have s2 := shaped_of (n := eqDepth + 1) (by decide) hl
      simp only [toData] at h2 s2
      exact .inl ⟨_, _, dp_of _ _ hc.1 hx, h2, shaped_of he hc.1, s2, by rw [← any_eqv hc.1 _ hc.2]; exact q⟩
    · cases hb
  · split at hb
    · rename_i hc; cases hb
      rw [Bool.and_eq_true] at hc
      have hl := dat_tup hc.2
      have h2 := dp_of _ _ hl hy
      have s2 := shaped_of (n := eqDepth + 1) (by decide) hl
      simp only [toData] at h2 s2
      exact .inr (.inl ⟨_, _, dp_of _ _ hc.1 hx, h2, shaped_of he hc.1, s2, by rw [← any_eqv hc.1 _ hc.2]; exact q⟩)
    · cases hb
  · split at hb
    · rename_i hc; cases hb
      rw [Bool.and_eq_true] at hc
      have hl := dat_lst hc.2
      have h2 := dp_of _ _ hl hy
      have s2 := shaped_of (n := eqDepth + 1) (by decide) hl
      simp only [toData] at h2 s2
      exact .inl ⟨_, _, dp_of _ _ hc.1 hx, h2, shaped_of he hc.1, s2, by rw [← any_eqv hc.1 _ hc.2]; exact q⟩
    · cases hb
  · split at hb
    · rename_i hc; cases hb
      rw [Bool.and_eq_true] at hc
      have hl := dat_tup hc.2
      have h2 := dp_of _ _ hl hy
      have s2 := shaped_of (n := eqDepth + 1) (by decide) hl
      simp only [toData] at h2 s2
      exact .inr (.inl ⟨_, _, dp_of _ _ hc.1 hx, h2, shaped_of he hc.1, s2, by rw [← any_eqv hc.1 _ hc.2]; exact q⟩)
    · cases hb
  · cases hd : dgetV _ x with
    | none => rw [hd] at hb; cases hb
    | some o =>
      rw [hd] at hb; cases hb
      obtain ⟨a, ov, rfl, dg, e⟩ := dgetH_of hd hy hx
      simp only [← e] at q
      exact .inr (.inr (.inl ⟨a, ov, rfl, dg, q⟩))
  · cases hd : dgetV _ x with
    | none => rw [hd] at hb; cases hb
    | some o =>
      rw [hd] at hb; cases hb
      obtain ⟨a, ov, rfl, dg, e⟩ := dgetH_of hd hy hx
      simp only [← e] at q
      exact .inr (.inr (.inl ⟨a, ov, rfl, dg, q⟩))
  · rename_i x z
    cases hd : sign x with
    | none => rw [hd] at hb; cases hb
    | some o =>
      rw [hd] at hb; cases hb; cases hx; cases hy
      exact .inr (.inr (.inr ⟨o, z, by rw [sign_eq hd], rfl, q⟩))
  · rename_i x z
    cases hd : sign x with
    | none => rw [hd] at hb; cases hb
    | some o =>
      rw [hd] at hb; cases hb; cases hx; cases hy
      exact .inr (.inr (.inr ⟨o, z, by rw [sign_eq hd], rfl, q⟩))
  · cases hb
section
variable {X : Cx} {W : WX} {w : Wd} {c : Ctx} {a b : Expr} {ia ib : IE} {pos : Pos}
theorem cmp_imp {op : CmpOp} (hK : X.K = w.K) {σ : L2.St} {H : Hp} {Q : VK} (h : tO w W (smp (.cmp op ia ib)) (evO c (.cmp op ia ib)) σ H Q) : tOp (rCmp X.K op) (tO w W (smp ia) (evO c ia)) (tO w W (smp ib) (evO c ib)) σ H Q := by
  obtain ⟨G, e, ts, C, h⟩ := h
  simp only [evO, smp] at h
  refine two C h fun o1 o2 e2 H2 v1 v2 F lab ts2 C2 C0 a1 a2 hs hr => ?_
  cases p1 : peek e2 o1 with
  | none => rw [p1] at hr; exact hr.elim
  | some x =>
    cases p2 : peek e2 o2 with
    | none => rw [p1, p2] at hr; exact hr.elim
    | some y =>
      rw [p1, p2] at hr
      simp only [Option.bind_some] at hr
      cases hb : cmpV op x y with
      | none => rw [hb] at hr; exact hr.elim
      | some p =>
        rw [hb] at hr
        rw [hK]
        exact cmp_of hb (C2.den a1 p1) (C2.den a2 p2) (RO.value hr C0 (.bl _) hs)
theorem pe_cmpO {op : CmpOp} (hK : X.K = w.K) (hu : X.A.units + 65 < cLine) (hm : behindInMarks op b = false) (ha : PE X a (tO w W (smp ia) (evO c ia))) (hb : PE X b (tO w W (smp ib) (evO c ib))) :
    PE X (.Compare a [op] [b] pos) (tO w W (smp (.cmp op ia ib)) (evO c (.cmp op ia ib))) := PE.imp (pe_cmpR (op_cmp hu op) ha hb hm) fun σ H Q h => cmp_imp hK h
end
section
variable {w : Wd} {G : Ground} {W : WX} {σ : L2.St} {H : Hp} {e : Env} {ts : List (V × Pl)} {F : Hp} {lab : Addr → Option Lab} {o : Opnd} {v : V} {x : Val}
theorem tru_of {k : Bool} (d : Den w H v x) (t : truthy x = some k) : TruV w.K v H k := by
  have line_eq : line = sizeLine := by rw [sizeLine_eq]
  cases d with
  | non => simp only [truthy, Option.some.injEq] at t; exact t.symm
  | bl b => simp only [truthy, Option.some.injEq] at t; exact t.symm
  | int i => simp only [truthy, Option.some.injEq] at t; exact t.symm
  | str s =>
    simp only [truthy] at t
    split at t
    · rename_i hc
      simp only [Option.some.injEq] at t
      refine ⟨by rw [← line_eq]; exact hc, ?_⟩
      rw [← t]
      rw [Bool.eq_iff_iff]; simp
    · cases t
  | tup h1 d =>
    simp only [truthy, Option.some.injEq] at t
    refine .inr (.inl ⟨_, h1, ?_⟩)
    rw [← t]
    cases d <;> rfl
  | lst h1 d =>
    simp only [truthy, Option.some.injEq] at t
    refine .inl ⟨_, .inl (.inl h1), ?_⟩
    rw [← t]
    cases d <;> rfl
  | dct h1 d =>
    simp only [truthy, Option.some.injEq] at t
    refine .inr (.inr ⟨_, h1, ?_⟩)
    rw [← t]
    cases d <;> rfl
  | fzl _ _ => simp [truthy] at t
  | ins _ _ _ => simp [truthy] at t
  | gl _ => simp [truthy] at t
  | exc0 _ _ => simp [truthy] at t
  | exc _ _ _ _ => simp [truthy] at t
/-- the truth of any expression -/
theorem tst_of {s : Bool} {m : Env → Out Opnd} {Q : Bool → Hp → Prop} (h : tT w W s (fun e => tst (m e)) σ H Q) : tO w W s m σ H fun x H' => ∃ k, TruV w.K x H' k ∧ Q k H' := by
  obtain ⟨G, e, ts, C, h⟩ := h
  refine ⟨G, e, ts, C, ?_⟩
  have h : RT w G W s σ H ts Q (tst (m e)) := h
  unfold tst at h
  cases m1 : m e with
  | stuck => rw [m1] at h; exact h.elim
  | exn y e1 => rw [m1] at h; exact h
  | ok o e1 =>
    rw [m1] at h
    simp only [Out.bind_ok] at h
    intro H1 v1 C1 a1 s1
    obtain ⟨F, lab, C1⟩ := C1
    cases p : peek e1 o with
    | none => rw [p] at h; exact h.elim
    | some x =>
      rw [p] at h
      simp only [Option.bind_some] at h
      cases t : truthy x with
      | none => rw [t] at h; exact h.elim
      | some k =>
        rw [t] at h
        exact ⟨k, tru_of (C1.den a1 p) t, h H1 ⟨F, lab, C1.dropO⟩ s1⟩
end
end Ev
namespace Ev
open PySem PySem.Spec L2
/-- what a body's context must be -/
structure Gd (w : Wd) (W : WX) (X : Cx) : Prop where
  K : X.K = w.K
  calm : X.calm = true
  hu : X.A.units + 65 < cLine
  gd : X.A.guards = some []
  nd : X.N.Nodup
  cls : ∀ c C, w.cf c = some C → Cls w.K C ∧ ∀ f ∈ w.flds, NoAttr w.K C f
  tk : Takes X W
structure Snd (X : Cx) (W : WX) (w : Wd) (c : Ctx) (e : Expr) (ir : IE) : Prop where
  pe : PE X e (tO w W (smp ir) (evO c ir))
  pt : PT X e (tT w W (smp ir) (fun env => tst (evO c ir env)))
structure SndX (X : Cx) (W : WX) (w : Wd) (c : Ctx) (es : List Expr) (irs : List IE) : Prop where
  pa : PA X es (tXs w W (smps irs) (evXs c irs))
section
variable {X : Cx} {W : WX} {w : Wd} {c : Ctx} {e a b d : Expr} {ir ia ib id : IE} {pos : Pos}
theorem snd_plain (g : Gd w W X) (h : PE X e (tO w W (smp ir) (evO c ir))) (he : ∀ whole, isTrue e X.env whole = (do let v ← whole; standAt e.pos; holding [v] (PySem.truthy v))) : Snd X W w c e ir :=
  ⟨h, PT.imp (pt_truth h he) fun σ H Q q => by
    have := tst_of (m := evO c ir) q
    rw [g.K]; exact this⟩
theorem snd_cst (g : Gd w W X) {v : V} {x : Val} (hd : ∀ F, Den w F v x) (h : PE X e (tC v)) (he : ∀ whole, isTrue e X.env whole = (do let v ← whole; standAt e.pos; holding [v] (PySem.truthy v))) : Snd X W w c e (.cst x) :=
  snd_plain g (PE.imp h fun σ H Q q => by
    obtain ⟨G, en, ts, ⟨F, lab, C⟩, q⟩ := q
    simp only [evO] at q
    exact RO.value q C (hd F) fun _ => Same.refl _) he
theorem snd_var (g : Gd w W X) {i : Nat} {x : Str} (hN : X.N[i]? = some x) (hv : Vis X.env.scope x) (hd : (x == ("__debug__" : Str)) = false) (hcd : (x == ("__classdict__" : Str)) = false) : Snd X W w c (.Name x pos) (.var i) :=
  snd_plain g (PE.imp (pe_var hN hv hd hcd) fun σ H Q q => by
    obtain ⟨G, en, ts, ⟨F, lab, C⟩, q⟩ := q
    simp only [evO] at q
    split at q
    · exact q.elim
    · exact q.elim
    · rename_i p hp e1
      have gi : getE en i [] = some p := by unfold getE; rw [e1]; rfl
      obtain ⟨u, A, a1, R⟩ := C.atS gi (fun z => hp z)
      obtain ⟨v, h1, h2⟩ := id a1
      have h2 : v = u := h2
      subst h2
      exact ⟨_, h1, q H _ ⟨F, lab, C⟩ a1 fun _ => Same.refl _⟩) fun _ => rfl
/-- a chain link: one operand's value, frozen, ahead of the rest -/
theorem oneX {w : Wd} {W : WX} {σ : L2.St} {H : Hp} {en : Env} {ts : List (V × Pl)} {G : Ground} {sa sb : Bool} {ma : Env → Out Opnd} {k : Val → Env → Out Opnd} {Q : VK} {R : V → Hp → Prop} (C : CfgE w G σ H en ts)
    (h : RO w G W (sa && sb) σ H ts Q (((ma en).bind freeze).bind k))
    (fin : ∀ x e1 H1 v, CfgE w G σ H1 e1 ((v, .val x) :: ts) → (sa = true → Same H H1) → RO w G W (sa && sb) σ H ts Q (k x e1) → R v H1) :
    tO w W sa ma σ H R := by
  refine ⟨G, en, ts, C, RO.toX ?_⟩
  cases m1 : (ma en).bind freeze with
  | stuck => rw [m1] at h; exact h.elim
  | exn y e1 => rw [m1] at h; exact h
  | ok x e1 =>
    rw [m1] at h
    exact fun H1 v C1 s1 => fin x e1 H1 v C1 s1 h
/-- the rest of a computation, from a state further on -/
theorem RO.step {w : Wd} {G : Ground} {W : WX} {σ : L2.St} {H H1 : Hp} {ts : List (V × Pl)} {t : V × Pl} {sa sb : Bool} {Q : VK} {m : Out Opnd} (h : RO w G W (sa && sb) σ H ts Q m) (hs : sa = true → Same H H1)
    (dr : ∀ o v e' H', CfgE w G σ H' e' (tsOf o v (t :: ts)) → CfgE w G σ H' e' (tsOf o v ts)) : RO w G W sb σ H1 (t :: ts) Q m := by
  cases m with
  | stuck => exact h
  | exn y e1 => exact fun cls d H' c => h cls d H' c.drop
  | ok o e1 =>
    intro H' v C ha s2
    refine h H' v (dr o v e1 H' C) ?_ fun z => ?_
    · cases o with
      | «at» i r => exact ha
      | tmp p => exact has_self
    · rw [Bool.and_eq_true] at z
      exact (hs z.1).trans (s2 z.2)
theorem drop2 {w : Wd} {G : Ground} {σ : L2.St} {ts : List (V × Pl)} {t : V × Pl} (o : Opnd) (v : V) (e' : Env) (H' : Hp) (C : CfgE w G σ H' e' (tsOf o v (t :: ts))) : CfgE w G σ H' e' (tsOf o v ts) := by
  obtain ⟨F, lab, C⟩ := C
  cases o with
  | «at» i r => exact ⟨F, lab, C.drop⟩
  | tmp p =>
    obtain ⟨F', lab', C'⟩ := C.swap
    exact ⟨F', lab', C'.drop⟩
theorem snd_not (g : Gd w W X) (ha : Snd X W w c a ia) : Snd X W w c (.UnaryOp .Not a pos) (.not ia) := by
  have key : ∀ {σ : L2.St} {H : Hp} {Q : Bool → Hp → Prop}, (tT w W (smp (.not ia)) (fun env => tst (evO c (.not ia) env)) σ H Q) → tT w W (smp ia) (fun env => tst (evO c ia env)) σ H fun k H1 => Q (!k) H1 := fun {σ H Q} h => by
    obtain ⟨G, en, ts, C, h⟩ := h
    refine ⟨G, en, ts, C, ?_⟩
    simp only [evO, smp] at h ⊢
    cases m : tst (evO c ia en) with
    | stuck => rw [m] at h; exact h.elim
    | exn y e1 => rw [m] at h; exact h
    | ok k e1 => rw [m] at h; exact h
  refine ⟨PE.imp (pe_notT ha.pe) fun σ H Q h => ?_, PT.imp (pt_not ha.pt) fun σ H Q h => key h⟩
  obtain ⟨G, en, ts, C, h⟩ := h
  rw [g.K]
  refine tst_of (m := evO c ia) (Q := fun k H1 => Q (.bl (!k)) H1) ⟨G, en, ts, C, ?_⟩
  simp only [evO, smp] at h
  show RT w G W (smp ia) σ H ts _ (tst (evO c ia en))
  cases m : tst (evO c ia en) with
  | stuck => rw [m] at h; exact h.elim
  | exn y e1 => rw [m] at h; exact h
  | ok k e1 =>
    rw [m] at h
    intro H' ⟨F, lab, C'⟩ hs
    exact RO.value h C' (.bl _) hs
theorem snd_cmp (g : Gd w W X) {op : CmpOp} (hm : behindInMarks op b = false) (ha : Snd X W w c a ia) (hb : Snd X W w c b ib) : Snd X W w c (.Compare a [op] [b] pos) (.cmp op ia ib) := by
  refine ⟨pe_cmpO g.K g.hu hm ha.pe hb.pe, PT.imp (pt_cmpR (op_cmp g.hu op) ha.pe hb.pe hm) fun σ H Q h => cmp_imp g.K ?_⟩
  obtain ⟨G, en, ts, C, h⟩ := h
  refine ⟨G, en, ts, C, ?_⟩
  cases m : evO c (.cmp op ia ib) en with
  | stuck => simp only [m, tst, Out.bind_stuck] at h; exact h.elim
  | exn y e1 => simp only [m, tst, Out.bind_exn] at h; exact h
  | ok o e1 =>
    have : ∃ k, o = .tmp (.val (.bl k)) := by
      simp only [evO] at m
      cases m1 : evO c ia en with
      | stuck => rw [m1] at m; cases m
      | exn y e1 => rw [m1] at m; cases m
      | ok x e2 =>
        rw [m1] at m
        simp only [Out.bind_ok] at m
        split at m
        · cases m2 : evO c ib e2 with
          | stuck => rw [m2] at m; cases m
          | exn y e1 => rw [m2] at m; cases m
          | ok y e3 =>
            rw [m2] at m
            simp only [Out.bind_ok] at m
            cases m3 : ((peek e3 x).bind fun u => (peek e3 y).bind fun v => cmpV op u v) with
            | none => rw [m3] at m; cases m
            | some k => rw [m3] at m; cases m; exact ⟨k, rfl⟩
        · cases m
    obtain ⟨k, rfl⟩ := this
    simp only [m, tst, Out.bind_ok, peek, toVal, Option.bind_some, truthy, Out.of_some] at h
    intro H' v ⟨F, lab, C'⟩ ha hs
    have d := C'.temps.1
    simp only [Rep] at d
    cases d
    exact ⟨k, rfl, h H' ⟨F, lab, C'.drop⟩ hs⟩
/-- and, or: the rest is a BoolOp of its own -/
theorem snd_and (g : Gd w W X) {rest : List Expr} (ha : Snd X W w c a ia) (hb : PE X (.BoolOp .And (b :: rest) pos) (tO w W (smp ib) (evO c ib))) (hbt : PW X (.BoolOp .And (b :: rest) pos) (tT w W (smp ib) (fun env => tst (evO c ib env)))) :
    PE X (.BoolOp .And (a :: b :: rest) pos) (tO w W (smp (.and ia ib)) (evO c (.and ia ib))) ∧ PW X (.BoolOp .And (a :: b :: rest) pos) (tT w W (smp (.and ia ib)) (fun env => tst (evO c (.and ia ib) env))) := by
  refine ⟨PE.imp (pe_andT ha.pe hb) fun σ H Q h => ?_, ⟨fun wh pins s σ H Q I h => (pw_and ha.pt hbt).run wh pins s σ H Q I ?_⟩⟩
  · obtain ⟨G, en, ts, C, h⟩ := h
    simp only [evO, smp] at h
    refine oneX (R := fun x H1 => ∃ k, TruV X.K x H1 k ∧ if k = true then tO w W (smp ib) (evO c ib) σ H1 Q else Q x H1) C h fun x e1 H1 v C1 s1 hr => ?_
    obtain ⟨F, lab, C1⟩ := C1
    have d := C1.temps.1
    simp only [Rep] at d
    cases t : truthy x with
    | none => rw [t] at hr; exact hr.elim
    | some k =>
      rw [t] at hr
      refine ⟨k, by rw [g.K]; exact tru_of (d.mono C1.fH) t, ?_⟩
      cases k with
      | true => rw [if_pos rfl]; exact ⟨G, e1, _, ⟨F, lab, C1⟩, hr.step s1 drop2⟩
      | false => rw [if_neg Bool.false_ne_true]; exact hr H1 v ⟨F, lab, C1⟩ has_self fun z => s1 (by rw [Bool.and_eq_true] at z; exact z.1)
  · obtain ⟨G, en, ts, C, h⟩ := h
    simp only [evO, smp] at h
    have h : RT w G W (smp ia && smp ib) σ H ts Q (tst (((evO c ia en).bind freeze).bind fun x e => match truthy x with
      | none => .stuck
      | some true => evO c ib e
      | some false => .ok (.tmp (.val x)) e)) := h
    refine ⟨G, en, ts, C, ?_⟩
    show RT w G W (smp ia) σ H ts _ (tst (evO c ia en))
    cases m1 : evO c ia en with
    | stuck => rw [m1] at h; exact h.elim
    | exn y e1 => rw [m1] at h; exact h
    | ok o e1 =>
      rw [m1] at h
      simp only [Out.bind_ok] at h
      simp only [tst, Out.bind_ok]
      cases pk : peek e1 o with
      | none =>
        cases o with
        | tmp p => simp only [peek] at pk; simp only [freeze, pk] at h; exact h.elim
        | «at» i r => simp only [peek] at pk; simp only [freeze, pk] at h; exact h.elim
      | some x =>
        simp only [Option.bind_some]
        have fz : ∃ e2, freeze o e1 = .ok x e2 ∧ ∀ H' , CfgE w G σ H' e1 ts → CfgE w G σ H' e2 ts := by
          cases o with
          | tmp p => simp only [peek] at pk; simp only [freeze, pk]; exact ⟨_, rfl, fun _ h => h⟩
          | «at» i r =>
            simp only [peek] at pk
            simp only [freeze, pk]
            refine ⟨_, rfl, fun H' ⟨F, lab, C'⟩ => ?_⟩
            cases ge : getE e1 i r with
            | none => rw [ge] at pk; simp at pk
            | some q =>
              rw [ge] at pk
              obtain ⟨u, _, F', lab', C''⟩ := C'.freezeS ge (by simpa using pk)
              exact ⟨F', lab', C''.drop⟩
        obtain ⟨e2, f1, f2⟩ := fz
        rw [f1] at h
        simp only [Out.bind_ok] at h
        cases t : truthy x with
        | none => rw [t] at h; exact h.elim
        | some k =>
          rw [t] at h
          simp only [Out.of_some]
          intro H1 C1 s1
          cases k with
          | false =>
            rw [if_neg Bool.false_ne_true]
            simp only [tst, Out.bind_ok, peek, toVal, Option.bind_some, t, Out.of_some] at h
            exact h H1 (f2 H1 C1) fun z => s1 (by rw [Bool.and_eq_true] at z; exact z.1)
          | true =>
            rw [if_pos rfl]
            refine ⟨G, e2, ts, f2 H1 C1, ?_⟩
            show RT w G W (smp ib) σ H1 ts Q (tst (evO c ib e2))
            have h : RT w G W (smp ia && smp ib) σ H ts Q (tst (evO c ib e2)) := h
            cases m2 : tst (evO c ib e2) with
            | stuck => rw [m2] at h; exact h
            | exn y e3 => rw [m2] at h; exact h
            | ok k e3 =>
              rw [m2] at h
              exact fun H2 C2 s2 => h H2 C2 fun z => by
                rw [Bool.and_eq_true] at z
                exact (s1 z.1).trans (s2 z.2)
end
end Ev
namespace Ev
open PySem PySem.Spec L2
section
variable {X : Cx} {W : WX} {w : Wd} {c : Ctx} {e a b d : Expr} {ir ia ib id : IE} {pos : Pos}
/-- and, or: the rest is a BoolOp of its own -/
theorem snd_or (g : Gd w W X) {rest : List Expr} (ha : Snd X W w c a ia) (hb : PE X (.BoolOp .Or (b :: rest) pos) (tO w W (smp ib) (evO c ib))) (hbt : PW X (.BoolOp .Or (b :: rest) pos) (tT w W (smp ib) (fun env => tst (evO c ib env)))) :
    PE X (.BoolOp .Or (a :: b :: rest) pos) (tO w W (smp (.or ia ib)) (evO c (.or ia ib))) ∧ PW X (.BoolOp .Or (a :: b :: rest) pos) (tT w W (smp (.or ia ib)) (fun env => tst (evO c (.or ia ib) env))) := by
  refine ⟨PE.imp (pe_orT ha.pe hb) fun σ H Q h => ?_, ⟨fun wh pins s σ H Q I h => (pw_or ha.pt hbt).run wh pins s σ H Q I ?_⟩⟩
  · obtain ⟨G, en, ts, C, h⟩ := h
    simp only [evO, smp] at h
    refine oneX (R := fun x H1 => ∃ k, TruV X.K x H1 k ∧ if k = true then Q x H1 else tO w W (smp ib) (evO c ib) σ H1 Q) C h fun x e1 H1 v C1 s1 hr => ?_
    obtain ⟨F, lab, C1⟩ := C1
    have d := C1.temps.1
    simp only [Rep] at d
    cases t : truthy x with
    | none => rw [t] at hr; exact hr.elim
    | some k =>
      rw [t] at hr
      refine ⟨k, by rw [g.K]; exact tru_of (d.mono C1.fH) t, ?_⟩
      cases k with
      | false => rw [if_neg Bool.false_ne_true]; exact ⟨G, e1, _, ⟨F, lab, C1⟩, hr.step s1 drop2⟩
      | true => rw [if_pos rfl]; exact hr H1 v ⟨F, lab, C1⟩ has_self fun z => s1 (by rw [Bool.and_eq_true] at z; exact z.1)
  · obtain ⟨G, en, ts, C, h⟩ := h
    simp only [evO, smp] at h
    have h : RT w G W (smp ia && smp ib) σ H ts Q (tst (((evO c ia en).bind freeze).bind fun x e => match truthy x with
      | none => .stuck
      | some true => .ok (.tmp (.val x)) e
      | some false => evO c ib e)) := h
    refine ⟨G, en, ts, C, ?_⟩
    show RT w G W (smp ia) σ H ts _ (tst (evO c ia en))
    cases m1 : evO c ia en with
    | stuck => rw [m1] at h; exact h.elim
    | exn y e1 => rw [m1] at h; exact h
    | ok o e1 =>
      rw [m1] at h
      simp only [Out.bind_ok] at h
      simp only [tst, Out.bind_ok]
      cases pk : peek e1 o with
      | none =>
        cases o with
        | tmp p => simp only [peek] at pk; simp only [freeze, pk] at h; exact h.elim
        | «at» i r => simp only [peek] at pk; simp only [freeze, pk] at h; exact h.elim
      | some x =>
        simp only [Option.bind_some]
        have fz : ∃ e2, freeze o e1 = .ok x e2 ∧ ∀ H' , CfgE w G σ H' e1 ts → CfgE w G σ H' e2 ts := by
          cases o with
          | tmp p => simp only [peek] at pk; simp only [freeze, pk]; exact ⟨_, rfl, fun _ h => h⟩
          | «at» i r =>
            simp only [peek] at pk
            simp only [freeze, pk]
            refine ⟨_, rfl, fun H' ⟨F, lab, C'⟩ => ?_⟩
            cases ge : getE e1 i r with
            | none => rw [ge] at pk; simp at pk
            | some q =>
              rw [ge] at pk
              obtain ⟨u, _, F', lab', C''⟩ := C'.freezeS ge (by simpa using pk)
              exact ⟨F', lab', C''.drop⟩
        obtain ⟨e2, f1, f2⟩ := fz
        rw [f1] at h
        simp only [Out.bind_ok] at h
        cases t : truthy x with
        | none => rw [t] at h; exact h.elim
        | some k =>
          rw [t] at h
          simp only [Out.of_some]
          intro H1 C1 s1
          cases k with
          | true =>
            rw [if_pos rfl]
            simp only [tst, Out.bind_ok, peek, toVal, Option.bind_some, t, Out.of_some] at h
            exact h H1 (f2 H1 C1) fun z => s1 (by rw [Bool.and_eq_true] at z; exact z.1)
          | false =>
            rw [if_neg Bool.false_ne_true]
            refine ⟨G, e2, ts, f2 H1 C1, ?_⟩
            show RT w G W (smp ib) σ H1 ts Q (tst (evO c ib e2))
            have h : RT w G W (smp ia && smp ib) σ H ts Q (tst (evO c ib e2)) := h
            cases m2 : tst (evO c ib e2) with
            | stuck => rw [m2] at h; exact h
            | exn y e3 => rw [m2] at h; exact h
            | ok k e3 =>
              rw [m2] at h
              exact fun H2 C2 s2 => h H2 C2 fun z => by
                rw [Bool.and_eq_true] at z
                exact (s1 z.1).trans (s2 z.2)
theorem pt_ite {t : Expr} {tA tB tC : TT} (ht : PT X t tA) (ha : PT X a tB) (hb : PT X b tC) : PT X (.IfExp t a b pos) (fun σ H Q => tA σ H fun k H1 => if k = true then tB σ H1 Q else tC σ H1 Q) := by
  refine ⟨fun pins s σ H Q I h => ?_⟩
  show wpAny _ _ (do if ← isTrue t X.env (eval t X.env) then isTrue a X.env (eval a X.env) else isTrue b X.env (eval b X.env)) _ _ _
  refine wpAny_bind (thn (ht.run pins s σ H _ I h) fun k s1 ⟨H1, I1, q1⟩ => ?_)
  cases k with
  | true => rw [if_pos rfl] at q1 ⊢; exact ha.run pins s1 σ H1 Q I1 q1
  | false => rw [if_neg Bool.false_ne_true] at q1 ⊢; exact hb.run pins s1 σ H1 Q I1 q1
/-- the rest of a computation behind a test -/
theorem RO.stepT {w : Wd} {G : Ground} {σ : L2.St} {H H1 : Hp} {ts : List (V × Pl)} {sa sb : Bool} {Q : VK} {m : Out Opnd} (h : RO w G W (sa && sb) σ H ts Q m) (hs : sa = true → Same H H1) : RO w G W sb σ H1 ts Q m := by
  cases m with
  | stuck => exact h
  | exn y e1 => exact h
  | ok o e1 =>
    intro H' v C ha s2
    refine h H' v C ha fun z => ?_
    rw [Bool.and_eq_true] at z
    exact (hs z.1).trans (s2 z.2)
theorem RO.weak {w : Wd} {G : Ground} {σ : L2.St} {H : Hp} {ts : List (V × Pl)} {sa sb : Bool} {Q : VK} {m : Out Opnd} (h : RO w G W sa σ H ts Q m) (k : sa = true → sb = true) : RO w G W sb σ H ts Q m := by
  cases m with
  | stuck => exact h
  | exn y e1 => exact h
  | ok o e1 => exact fun H' v C ha s2 => h H' v C ha fun z => s2 (k z)
theorem RT.weak {w : Wd} {G : Ground} {σ : L2.St} {H : Hp} {ts : List (V × Pl)} {sa sb : Bool} {Q : Bool → Hp → Prop} {m : Out Bool} (h : RT w G W sa σ H ts Q m) (k : sa = true → sb = true) : RT w G W sb σ H ts Q m := by
  cases m with
  | stuck => exact h
  | exn y e1 => exact h
  | ok o e1 => exact fun H' C s2 => h H' C fun z => s2 (k z)
theorem RP.toO {w : Wd} {G : Ground} {σ : L2.St} {H : Hp} {ts : List (V × Pl)} {s : Bool} {Q : VK} {m : Out Pl} (h : RO w G W s σ H ts Q (m.bind fun p e => .ok (.tmp p) e)) : RP w G W s σ H ts Q m := by
  cases m with
  | stuck => exact h
  | exn y e1 => exact h
  | ok p e1 => exact fun H' v C hs => h H' v C has_self hs
theorem snd_ite (g : Gd w W X) {t : Expr} {it : IE} (ht : Snd X W w c t it) (ha : Snd X W w c a ia) (hb : Snd X W w c b ib) : Snd X W w c (.IfExp t a b pos) (.ite it ia ib) := by
  refine ⟨PE.imp (pe_ifExp ht.pt ha.pe hb.pe) fun σ H Q h => ?_, PT.imp (pt_ite ht.pt ha.pt hb.pt) fun σ H Q h => ?_⟩
  · obtain ⟨G, en, ts, C, h⟩ := h
    simp only [evO, smp] at h
    refine ⟨G, en, ts, C, ?_⟩
    show RT w G W (smp it) σ H ts _ (tst (evO c it en))
    cases m : tst (evO c it en) with
    | stuck => rw [m] at h; exact h.elim
    | exn y e1 => rw [m] at h; exact h
    | ok k e1 =>
      rw [m] at h
      simp only [Out.bind_ok] at h
      intro H1 C1 s1
      cases k with
      | true =>
        rw [if_pos rfl] at h ⊢
        refine ⟨G, e1, ts, C1, RO.toP (RP.toO ?_)⟩
        rw [Out.bind_assoc]
        exact RO.stepT (sa := smp it) (h.weak fun z => by simp only [Bool.and_eq_true] at z ⊢; exact ⟨z.1.1, z.1.2⟩) s1
      | false =>
        rw [if_neg Bool.false_ne_true] at h ⊢
        refine ⟨G, e1, ts, C1, RO.toP (RP.toO ?_)⟩
        rw [Out.bind_assoc]
        exact RO.stepT (sa := smp it) (h.weak fun z => by simp only [Bool.and_eq_true] at z ⊢; exact ⟨z.1.1, z.2⟩) s1
  · obtain ⟨G, en, ts, C, h⟩ := h
    have h : RT w G W (smp (.ite it ia ib)) σ H ts Q (tst (evO c (.ite it ia ib) en)) := h
    simp only [evO, smp] at h
    refine ⟨G, en, ts, C, ?_⟩
    show RT w G W (smp it) σ H ts _ (tst (evO c it en))
    cases m : tst (evO c it en) with
    | stuck => rw [m] at h; exact h.elim
    | exn y e1 => rw [m] at h; exact h
    | ok k e1 =>
      rw [m] at h
      simp only [Out.bind_ok] at h
      intro H1 C1 s1
      have fin : ∀ {ix : IE}, RT w G W (smp it && smp ix) σ H ts Q (tst (((evO c ix e1).bind fun o e => (own o e).bind fun p e => .ok (.tmp p) e))) → tT w W (smp ix) (fun env => tst (evO c ix env)) σ H1 Q := fun {ix} h => by
        refine ⟨G, e1, ts, C1, ?_⟩
        show RT w G W (smp ix) σ H1 ts Q (tst (evO c ix e1))
        cases m2 : evO c ix e1 with
        | stuck => rw [m2] at h; exact h
        | exn y e2 => rw [m2] at h; exact h
        | ok o e2 =>
          rw [m2] at h
          simp only [Out.bind_ok] at h
          simp only [tst, Out.bind_ok]
          cases o with
          | tmp p =>
            simp only [own] at h
            cases tv : toVal p with
            | none => rw [tv] at h; exact h.elim
            | some x =>
              rw [tv] at h
              simp only [Out.bind_ok, tst, peek, tv, Option.bind_some] at h ⊢
              cases tr : truthy x with
              | none => rw [tr] at h; exact h.elim
              | some k =>
                rw [tr] at h
                exact fun H2 C2 s2 => h H2 C2 fun z => by
                  rw [Bool.and_eq_true] at z
                  exact (s1 z.1).trans (s2 z.2)
          | «at» i r =>
            simp only [own, freeze, peek] at h ⊢
            cases ge : getE e2 i r with
            | none => rw [ge] at h; exact h.elim
            | some q =>
              rw [ge] at h
              simp only [Option.bind_some] at h ⊢
              cases tv : toVal q with
              | none => rw [tv] at h; exact h.elim
              | some x =>
                rw [tv] at h
                simp only [Out.bind_ok, tst, peek, toVal, Option.bind_some] at h ⊢
                cases tr : truthy x with
                | none => rw [tr] at h; exact h.elim
                | some k =>
                  rw [tr] at h
                  intro H2 ⟨F, lab, C2⟩ s2
                  obtain ⟨u, _, F', lab', C'⟩ := C2.freezeS ge tv
                  exact h H2 ⟨F', lab', C'.drop⟩ fun z => by
                    rw [Bool.and_eq_true] at z
                    exact (s1 z.1).trans (s2 z.2)
      cases k with
      | true =>
        rw [if_pos rfl] at h ⊢
        exact fin (h.weak fun z => by simp only [Bool.and_eq_true] at z ⊢; exact ⟨z.1.1, z.1.2⟩)
      | false =>
        rw [if_neg Bool.false_ne_true] at h ⊢
        exact fin (h.weak fun z => by simp only [Bool.and_eq_true] at z ⊢; exact ⟨z.1.1, z.2⟩)
end
end Ev
namespace Ev
open PySem PySem.Spec L2
section
variable {X : Cx} {W : WX} {w : Wd} {c : Ctx} {e a b d : Expr} {ir ia ib id : IE} {pos : Pos} {es : List Expr} {irs : List IE}
def notStar : Expr → Bool
  | .Starred _ _ => false
  | _ => true
theorem star_of {X : Cx} (h : notStar e = true) : starEach (e :: es) X.env = (false, eval e X.env) :: starEach es X.env := by
  cases e <;> first | rfl | (simp [notStar] at h)
theorem sndx_nil : SndX X W w c [] [] := ⟨PA.imp pa_nil fun σ H Q h => by
  obtain ⟨G, en, ts, ⟨F, lab, C⟩, h⟩ := h
  simp only [evXs] at h
  exact h H [] F lab C .nil fun _ => Same.refl _⟩
theorem sndx_cons (g : Gd w W X) (hn : notStar e = true) (h1 : Snd X W w c e ir) (h2 : SndX X W w c es irs) : SndX X W w c (e :: es) (ir :: irs) := ⟨PA.imp (pa_cons h1.pe h2.pa (star_of hn)) fun σ H Q h => by
  obtain ⟨G, en, ts, C, h⟩ := h
  simp only [evXs, smps] at h
  refine ⟨G, en, ts, C, RO.toX ?_⟩
  cases m1 : (evO c ir en).bind freeze with
  | stuck => rw [m1] at h; exact h.elim
  | exn y e1 => rw [m1] at h; exact h
  | ok x e1 =>
    rw [m1] at h
    simp only [Out.bind_ok] at h
    intro H1 v1 C1 s1
    refine ⟨G, e1, _, C1, ?_⟩
    cases m2 : evXs c irs e1 with
    | stuck => rw [m2] at h; exact h.elim
    | exn y e2 => rw [m2] at h; exact fun cls d H' c => h cls d H' c.drop
    | ok xs e2 =>
      rw [m2] at h
      simp only [Out.bind_ok] at h
      intro H2 vs F lab C2 d s2
      have dv := C2.temps.1
      simp only [Rep] at dv
      refine h H2 (v1 :: vs) F lab C2.drop (.cons dv d) fun z => ?_
      rw [Bool.and_eq_true] at z
      exact (s1 z.1).trans (s2 z.2)⟩
theorem xs_imp {σ : L2.St} {H : Hp} {Q : VK} {G : Ground} {ts : List (V × Pl)} {s : Bool} {m : Out (List Val)} {k : List Val → Env → Out Opnd} {R : List V → Hp → Prop} (h : RO w G W s σ H ts Q (m.bind k))
    (fin : ∀ xs e1 H1 vs F lab, Cfg w G F lab σ H1 e1 ts → Dens w F vs xs → (s = true → Same H H1) → RO w G W s σ H ts Q (k xs e1) → R vs H1) : RXs w G W s σ H ts R m := by
  cases m with
  | stuck => exact h
  | exn y e1 => exact h
  | ok xs e1 => exact fun H1 vs F lab C d hs => fin xs e1 H1 vs F lab C d hs h
theorem line_eq : line = sizeLine := by rw [sizeLine_eq]
theorem snd_tup (g : Gd w W X) {k : Nat} (h : SndX X W w c es irs) : Snd X W w c (.Tuple es k pos) (.tup irs) :=
  snd_plain g (PE.imp (pe_tup h.pa) fun σ H Q q => by
    obtain ⟨G, en, ts, C, q⟩ := q
    simp only [evO, smp] at q
    refine ⟨G, en, ts, C, xs_imp q fun xs e1 H1 vs F lab C1 d hs hr => ?_⟩
    split at hr
    · rename_i hl
      exact ⟨by rw [d.length, ← line_eq]; exact hl, hr.newF C1 (fun p hp fp => .tup (.inl (.inl upd_same)) (d.mono (same_new fp))) hs⟩
    · exact hr.elim) fun _ => rfl
theorem snd_lst (g : Gd w W X) (h : SndX X W w c es irs) : Snd X W w c (.List es pos) (.lst irs) :=
  snd_plain g (PE.imp (pe_lst h.pa) fun σ H Q q => by
    obtain ⟨G, en, ts, C, q⟩ := q
    simp only [evO, smp] at q
    refine ⟨G, en, ts, C, xs_imp q fun xs e1 H1 vs F lab C1 d hs hr => ?_⟩
    split at hr
    · rename_i hl
      exact ⟨by rw [d.length, ← line_eq]; exact hl, hr.newO C1 (fun p hp => rep_lst d) hs⟩
    · exact hr.elim) fun _ => rfl
theorem AtV.app {H : Hp} {t : List Step} : ∀ {r : List Step} {v u : V}, AtV w H v (r ++ t) u → ∃ m, AtV w H v r m ∧ AtV w H m t u
  | [], v, u, h => ⟨v, rfl, h⟩
  | .f n :: r, v, u, h => by
    obtain ⟨a, C, dx, fvs, u1, c, e1, hc, h1, l, h2⟩ := h
    obtain ⟨m, k1, k2⟩ := AtV.app (r := r) h2
    exact ⟨m, ⟨a, C, dx, fvs, u1, c, e1, hc, h1, l, k1⟩, k2⟩
  | .i n :: r, v, u, h => by
    obtain ⟨a, vs, u1, e1, h1, l, h2⟩ := h
    obtain ⟨m, k1, k2⟩ := AtV.app (r := r) h2
    exact ⟨m, ⟨a, vs, u1, e1, h1, l, k1⟩, k2⟩
  | .k n :: r, v, u, h => by
    obtain ⟨a, vs, u1, e1, h1, l, h2⟩ := h
    obtain ⟨m, k1, k2⟩ := AtV.app (r := r) h2
    exact ⟨m, ⟨a, vs, u1, e1, h1, l, k1⟩, k2⟩
/-- a path made longer -/
theorem AtV.cat {H : Hp} {t : List Step} {m u : V} (h2 : AtV w H m t u) : ∀ {r : List Step} {v : V}, AtV w H v r m → AtV w H v (r ++ t) u
  | [], v, h => by have h : v = m := h; subst h; exact h2
  | .f n :: r, v, h => by
    obtain ⟨a, C, dx, fvs, u1, c, e1, hc, h1, l, h3⟩ := h
    exact ⟨a, C, dx, fvs, u1, c, e1, hc, h1, l, AtV.cat h2 h3⟩
  | .i n :: r, v, h => by
    obtain ⟨a, vs, u1, e1, h1, l, h3⟩ := h
    exact ⟨a, vs, u1, e1, h1, l, AtV.cat h2 h3⟩
  | .k n :: r, v, h => by
    obtain ⟨a, vs, u1, e1, h1, l, h3⟩ := h
    exact ⟨a, vs, u1, e1, h1, l, AtV.cat h2 h3⟩
theorem valV_rec {α : Type} {n : Str} : ∀ {fs : List (Str × V)}, valV (recK fs) (.inr n) = fs.lookup n
  | [] => rfl
  | (m, x) :: fs => by
    have ih := valV_rec (α := α) (n := n) (fs := fs)
    by_cases h : n = m
    · subst h; simp [valV, recK, List.lookup]
    · have hb : (n == m) = false := by simpa using h
      have : valV (recK ((m, x) :: fs)) (.inr n) = valV (recK fs) (.inr n) := by
        have h' : ¬ m = n := fun z => h z.symm
        simp [valV, recK, List.find?_cons, h']
      rw [this, ih]
      simp only [List.lookup, hb]
theorem AtS.app {σ : L2.St} {H : Hp} {i : Nat} {r t : List Step} {u : V} (h : AtS w σ H i (r ++ t) u) : ∃ m, AtS w σ H i r m ∧ AtV w H m t u := by
  obtain ⟨v, h1, h2⟩ := h
  obtain ⟨m, k1, k2⟩ := h2.app
  exact ⟨m, ⟨v, h1, k1⟩, k2⟩
/-- a field of an operand, as the heap stands -/
theorem fld_of {G : Ground} {F H : Hp} {lab : Addr → Option Lab} {σ : L2.St} {ts : List (V × Pl)} {s : Bool} {Q : VK} {H1 : Hp} {e1 : Env} {o : Opnd} {v : V} {f : Str} (g : Gd w W X) (hf : f ∈ w.flds) (C : Cfg w G F lab σ H1 e1 (tsOf o v ts)) (ha : Has w σ H1 (tsOf o v ts) o v)
    (hs : s = true → Same H H1) (h : RO w G W s σ H ts Q (fldO o f e1)) :
    ∃ a C dx fs u, v = .ref a ∧ H1 a = some (.ins C dx fs) ∧ Cls w.K C ∧ NoAttr w.K C f ∧ fs.lookup f = some u ∧ Q u H1 := by
  cases o with
  | «at» i r =>
    simp only [fldO] at h
    cases ge : getE e1 i (r ++ [.f f]) with
    | none => rw [ge] at h; exact h.elim
    | some p =>
      by_cases hp : p = .hole
      · subst hp; rw [ge] at h; exact h.elim
      · have h : RO w G W s σ H ts Q (.ok (.at i (r ++ [.f f])) e1) := by
          rw [ge] at h
          cases p with
          | hole => exact absurd rfl hp
          | _ => exact h
        obtain ⟨u, A, a1, R⟩ := C.atS ge hp
        obtain ⟨m, k1, k2⟩ := a1.app
        have := k1.unique ha
        subst this
        obtain ⟨a, C', dx, fvs, u1, cn, rfl, hc, h1, l, z⟩ := k2
        have z : u1 = u := z
        subst z
        obtain ⟨c1, c2⟩ := g.cls _ _ hc
        exact ⟨a, C', dx, fvs, u1, rfl, h1, c1, c2 f hf, l, h H1 u1 ⟨F, lab, C⟩ a1 hs⟩
  | tmp p =>
    cases p with
    | ins k fs =>
      simp only [fldO] at h
      have R := C.temps.1
      simp only [Rep] at R
      obtain ⟨a, C', dx, fvs, rfl, ha1, hc, h1, B, b1, b2, R⟩ := R
      cases l : fs.lookup f with
      | none => rw [l] at h; exact h.elim
      | some q =>
        rw [l] at h
        simp only at h
        split at h
        · obtain ⟨u, i, l2, R2, _⟩ := RepF.get R l
          obtain ⟨c1, c2⟩ := g.cls _ _ hc
          refine ⟨a, C', dx, fvs, u, rfl, h1, c1, c2 f hf, l2, h H1 u ⟨F, lab, { C with temps := ⟨?_, C.temps.2⟩ }⟩ has_self hs⟩
          exact Rep.mono (Same.refl _) q R2 (fun _ _ _ h => h) fun b hb => (b1 _ b hb).1
        · exact h.elim
    | val x =>
      have d := C.temps.1
      simp only [Rep] at d
      cases d with
      | ins hc hF df =>
        rename_i a C' dx k fvs fs
        simp only [fldO] at h
        cases l : fs.lookup f with
        | none => rw [l] at h; exact h.elim
        | some y =>
          rw [l] at h
          obtain ⟨u, l2, d2⟩ := df.lookup l
          obtain ⟨c1, c2⟩ := g.cls _ _ hc
          exact ⟨a, C', dx, fvs, u, rfl, C.fH _ _ hF, c1, c2 f hf, l2, RO.value h C.drop d2 hs⟩
      | _ => exact h.elim
    | hole => exact h.elim
    | lst _ => exact h.elim
    | lstP _ => exact h.elim
    | rcd _ => exact h.elim
    | dct _ => exact h.elim
theorem snd_fld (g : Gd w W X) {f : Str} (hf : f ∈ w.flds) (hb : attributeBase a f X.env (eval a X.env) = eval a X.env) (ha : Snd X W w c a ia) : Snd X W w c (.Attribute a f pos) (.fld ia f) :=
  snd_plain g (PE.imp (pe_fld ha.pe hb) fun σ H Q h => by
    obtain ⟨G, en, ts, C, h⟩ := h
    simp only [evO, smp] at h
    refine ⟨G, en, ts, C, ?_⟩
    cases m1 : evO c ia en with
    | stuck => rw [m1] at h; exact h.elim
    | exn y e1 => rw [m1] at h; exact h
    | ok o e1 =>
      rw [m1] at h
      intro H1 v ⟨F, lab, C1⟩ ha hs
      rw [g.K]
      exact fld_of g hf C1 ha hs h) fun _ => rfl
def rIxD : R2 := fun x y H Q => ∃ a v, x = .ref a ∧ DGet H a y (some v) ∧ Q v H
theorem ix_dict (hu : X.A.units + 1 < cLine) : IxR X rIxD := by
  intro value slice pins s σ H x y v u Q I rx ry h hs
  obtain ⟨a, z, rfl, g, q⟩ := h
  cases rx
  exact PyProof.Rows.tail_any (dict_typeIs I g) PySem.F.slot_dict_getitem.lookup (d_getItem hu I g ry fun w' s' I' r' => ⟨z, H, I', r', q⟩) hs
theorem IxR.or' {r1 r2 : R2} (h1 : IxR X r1) (h2 : IxR X r2) : IxR X (fun x y H Q => r1 x y H Q ∨ r2 x y H Q) := fun value slice pins s σ H x y v u Q I rx ry h hs => by
  rcases h with h | h
  · exact h1 value slice pins s σ H x y v u Q I rx ry h hs
  · exact h2 value slice pins s σ H x y v u Q I rx ry h hs
def rIxE (K : PySem.W.Frag) : R2 := fun x y H Q => rIxL K x y H Q ∨ rIxT K x y H Q ∨ rIxS x y H Q ∨ rIxD x y H Q
theorem ix_all (hu : X.A.units + 1 < cLine) : IxR X (rIxE X.K) := IxR.or' ix_list (IxR.or' ix_tup (IxR.or' ix_str (ix_dict hu)))
theorem atI_den {F : Hp} {vs : List V} {xs : List Val} {i : Int} {y : Val} (d : Dens w F vs xs) (h : atI xs i = some y) : ∃ u, atI vs i = some u ∧ Den w F u y := by
  unfold atI at h ⊢
  rw [d.length]
  cases q : ixN xs.length i with
  | none => rw [q] at h; simp at h
  | some j =>
    rw [q] at h
    exact Dens.get d (by simpa using h)
/-- an item's reading, from the values -/
theorem ix_of {G : Ground} {F H : Hp} {lab : Addr → Option Lab} {σ : L2.St} {ts : List (V × Pl)} {s : Bool} {Q : VK} {H1 : Hp} {e1 : Env} {vx vy : V} {x k y : Val} (hb : ixV x k = some y) (C : Cfg w G F lab σ H1 e1 ts) (hx : Vw w F H1 vx x) (hy : Den w F vy k) (hs : s = true → Same H H1)
    (h : RO w G W s σ H ts Q (.ok (.tmp (.val y)) e1)) : rIxE w.K vx vy H1 Q := by
  unfold ixV at hb
  split at hb
  · cases hy
    obtain ⟨a, vs, rfl, h1, d⟩ := hx.lstH C.fH
    obtain ⟨u, l, d2⟩ := atI_den d hb
    exact .inl ⟨a, vs, _, u, rfl, rfl, .inl (.inl h1), l, RO.value h C d2 hs⟩
  · cases hy
    obtain ⟨a, vs, rfl, h1, d⟩ := hx.tupH
    obtain ⟨u, l, d2⟩ := atI_den d hb
    exact .inr (.inl ⟨a, vs, _, u, rfl, rfl, sqT_mono C.fH h1, l, RO.value h C d2 hs⟩)
  · obtain ⟨a, ks, rfl, h1, d⟩ := hx.dctH C.fH
    unfold dgetV at hb
    split at hb
    · rename_i hc
      rw [Bool.and_eq_true] at hc
      obtain ⟨kk, hk⟩ := Option.isSome_iff_exists.mp hc.1
      simp only [Option.bind_some, id_eq] at hb
      have q := dlook_den hk d
      rw [hb] at q
      obtain ⟨u, l, d2⟩ := q
      obtain ⟨rfl, _⟩ := keyOf_den hy hk
      exact .inr (.inr (.inr ⟨a, u, rfl, by rw [← l]; exact DGet.k h1, RO.value h C d2 hs⟩))
    · simp at hb
  · split at hb
    · rename_i hl
      cases hy
      have hx := hx.str
      subst hx
      cases q : atI (Str.cps _).toList _ with
      | none => rw [q] at hb; simp at hb
      | some c =>
        rw [q] at hb
        simp only [Option.map_some, Option.some.injEq] at hb
        subst hb
        exact .inr (.inr (.inl ⟨_, _, c, rfl, rfl, by rw [← line_eq]; exact hl, q, RO.value h C (.str _) hs⟩))
    · cases hb
  · cases hb
theorem snd_ix (g : Gd w W X) (hp : PlainIx b) (ha : Snd X W w c a ia) (hb : Snd X W w c b ib) : Snd X W w c (.Subscript a b pos) (.ix ia ib) :=
  snd_plain g (PE.imp (pe_ix (ix_all (by have := g.hu; omega)) ha.pe hb.pe hp) fun σ H Q h => by
    obtain ⟨G, en, ts, C, h⟩ := h
    simp only [evO, smp] at h
    refine ⟨G, en, ts, C, ?_⟩
    cases m1 : evO c ia en with
    | stuck => rw [m1] at h; exact h.elim
    | exn y e1 => rw [m1] at h; exact h
    | ok o e1 =>
      rw [m1] at h
      simp only [Out.bind_ok] at h
      intro H1 v1 C1 a1 s1
      by_cases hp : (plain o || smp ib) = true
      · rw [if_pos hp] at h
        refine ⟨G, e1, _, C1, RO.toX ?_⟩
        cases m2 : (evO c ib e1).bind freeze with
        | stuck => rw [m2] at h; exact h.elim
        | exn y e2 => rw [m2] at h; exact fun cls d H' c => h cls d H' c.dropO
        | ok k e2 =>
          rw [m2] at h
          simp only [Out.bind_ok] at h
          intro H2 v2 ⟨F, lab, C2⟩ s2
          have hs : (smp ia && smp ib) = true → Same H H2 := fun z => by
            rw [Bool.and_eq_true] at z
            exact (s1 z.1).trans (s2 z.2)
          have dk := C2.temps.1
          simp only [Rep] at dk
          have a2 : Has w σ H2 (tsOf o v1 ts) o v1 := a1.stay hp s2 fun t h => h
          have C3 := C2.drop
          rw [g.K]
          have vwcase : RO w G W (smp ia && smp ib) σ H ts Q (Out.of (((peek1 e2 o).bind fun x => ixV x k).map fun v => .tmp (.val v)) e2) → rIxE w.K v1 v2 H2 Q := fun h => by
            cases p1 : peek1 e2 o with
            | none => rw [p1] at h; exact h.elim
            | some x =>
              rw [p1] at h
              simp only [Option.bind_some] at h
              cases hi : ixV x k with
              | none => rw [hi] at h; exact h.elim
              | some y =>
                rw [hi] at h
                exact ix_of hi C3.dropO (C3.vw a2 p1) dk hs h
          cases o with
          | tmp p => exact vwcase (by simpa only [ixO] using h)
          | «at» i r =>
            cases k with
            | int n =>
              simp only [ixO] at h
              split at h
              · rename_i ps hg
                cases hx : ixN ps.length n with
                | none => rw [hx] at h; exact h.elim
                | some j =>
                  rw [hx] at h
                  simp only at h
                  cases hj : ps[j]? with
                  | none => rw [hj] at h; exact h.elim
                  | some q =>
                    rw [hj] at h
                    have hq : q ≠ .hole := fun z => by subst z; exact h.elim
                    have h : RO w G W (smp ia && smp ib) σ H ts Q (.ok (.at i (r ++ [.i j])) e2) := by
                      cases q with
                      | hole => exact absurd rfl hq
                      | _ => exact h
                    obtain ⟨u0, A0, a0, R0⟩ := C3.atS hg (by simp)
                    have := a0.unique a2
                    subst this
                    simp only [Rep] at R0
                    obtain ⟨a, vs, rfl, _, h1, B, b1, b2, R⟩ := R0
                    obtain ⟨u, l, R2⟩ := R.get hj
                    have hlen : vs.length = ps.length := by
                      have : ∀ {ps : List Pl} {vs : List V} {B : Nat → Addr → Prop} {n : Nat}, Reps w F H2 ps vs B n → vs.length = ps.length := by
                        intro ps
                        induction ps with
                        | nil => intro vs B n h; simp only [Reps] at h; subst h; rfl
                        | cons p ps ih => intro vs B n h; simp only [Reps] at h; obtain ⟨v, r, rfl, _, h2⟩ := h; rw [List.length_cons, List.length_cons, ih h2]
                      exact this R
                    cases dk
                    refine .inl ⟨a, vs, n, u, rfl, rfl, .inl (.inl h1), ?_, h H2 u ⟨F, lab, C3⟩ ?_ hs⟩
                    · unfold atI; rw [hlen, hx]; exact l
                    · obtain ⟨v0, k1, k2⟩ := a2
                      refine ⟨v0, k1, ?_⟩
                      exact AtV.cat (show AtV w H2 (.ref a) [.i j] u from ⟨a, vs, u, rfl, h1, l, rfl⟩) k2
              · exact vwcase h
            | str n =>
              simp only [ixO] at h
              split at h
              · rename_i fs hg
                cases hj : fs.lookup n with
                | none => rw [hj] at h; exact h.elim
                | some q =>
                  rw [hj] at h
                  have hq : q ≠ .hole := fun z => by subst z; exact h.elim
                  have h : RO w G W (smp ia && smp ib) σ H ts Q (.ok (.at i (r ++ [.k n])) e2) := by
                    cases q with
                    | hole => exact absurd rfl hq
                    | _ => exact h
                  obtain ⟨u0, A0, a0, R0⟩ := C3.atS hg (by simp)
                  have := a0.unique a2
                  subst this
                  simp only [Rep] at R0
                  obtain ⟨a, fvs, rfl, _, h1, B, b1, b2, R⟩ := R0
                  obtain ⟨u, i', l, R2, _⟩ := R.get hj
                  cases dk
                  have l' : valV (recK fvs) (.inr n) = some u := by rw [valV_rec (α := V)]; exact l
                  refine .inr (.inr (.inr ⟨a, u, rfl, by rw [← l']; exact DGet.k (k := .inr n) h1, h H2 u ⟨F, lab, C3⟩ ?_ hs⟩))
                  obtain ⟨v0, k1, k2⟩ := a2
                  exact ⟨v0, k1, AtV.cat (show AtV w H2 (.ref a) [.k n] u from ⟨a, fvs, u, rfl, h1, l, rfl⟩) k2⟩
              · exact vwcase h
            | _ => exact vwcase (by simpa only [ixO] using h)
      · rw [if_neg hp] at h; exact h.elim) fun _ => rfl
end
end Ev
namespace Ev
open PySem PySem.Spec L2
/-- what is wanted of a slice's part -/
def RI (w : Wd) (G : Ground) (W : WX) (s : Bool) (σ : L2.St) (H : Hp) (ts : List (V × Pl)) (Q : Option Int → Hp → Prop) : Out (Option Int) → Prop
  | .ok i e' => ∀ H', CfgE w G σ H' e' ts → (s = true → Same H H') → Q i H'
  | .exn x e' => ∀ cls d H', CfgX w G σ H' e' ts x cls d → W cls d σ H'
  | .stuck => False
def tI (w : Wd) (W : WX) (s : Bool) (m : Env → Out (Option Int)) : TO := fun σ H Q => ∃ G e ts, CfgE w G σ H e ts ∧ RI w G W s σ H ts Q (m e)
structure SndI (X : Cx) (W : WX) (w : Wd) (c : Ctx) (e : Option Expr) (ir : Option IE) : Prop where
  po : PO X e (tI w W (smpo ir) (evPart c ir))
theorem PO.imp {X : Cx} {e : Option Expr} {t t' : TO} (h : PO X e t) (k : ∀ σ H Q, t' σ H Q → t σ H Q) : PO X e t' := ⟨fun pins s σ H Q I q => h.run pins s σ H Q I (k _ _ _ q)⟩
section
variable {X : Cx} {W : WX} {w : Wd} {c : Ctx} {e a b d : Expr} {ir ia ib id : IE} {pos p2 : Pos} {lo hi : Option Expr} {il ih : Option IE}
theorem sndi_none : SndI X W w c none none := ⟨PO.imp po_none fun σ H Q h => by
  obtain ⟨G, en, ts, C, h⟩ := h
  simp only [evPart] at h
  exact h H C fun _ => Same.refl _⟩
theorem sndi_some (ha : Snd X W w c a ia) : SndI X W w c (some a) (some ia) := ⟨PO.imp (po_some ha.pe) fun σ H Q h => by
  obtain ⟨G, en, ts, C, h⟩ := h
  simp only [evPart, smpo] at h
  refine ⟨G, en, ts, C, RO.toX ?_⟩
  cases m1 : (evO c ia en).bind freeze with
  | stuck => rw [m1] at h; exact h.elim
  | exn y e1 => rw [m1] at h; exact h
  | ok x e1 =>
    rw [m1] at h
    simp only [Out.bind_ok] at h
    intro H1 v ⟨F, lab, C1⟩ hs
    have dv := C1.temps.1
    simp only [Rep] at dv
    cases dv with
    | int i =>
      simp only [partInt, Out.of_some] at h
      exact ⟨i, rfl, h H1 ⟨F, lab, C1.drop⟩ hs⟩
    | _ => exact h.elim⟩
def rSlE (K : PySem.W.Frag) : V → Option Int → Option Int → Hp → VK → Prop := fun x lo hi H Q => rSlL K x lo hi H Q ∨ rSlA K x lo hi H Q
theorem sl_seq : SlR X (rSlE X.K) := SlR.or sl_list sl_tupA
theorem cut_den {F : Hp} {vs : List V} {xs : List Val} {lo hi : Option Int} (d : Dens w F vs xs) : Dens w F (cutV vs lo hi) (cut xs lo hi) := by
  unfold cutV cut
  rw [d.length]
  exact (d.drop _).take _
theorem cut_whole {xs : List Val} {lo hi : Option Int} (h : HT.sIx xs.length 0 lo = 0 ∧ HT.sIx xs.length xs.length hi = xs.length) : cut xs lo hi = xs := by
  unfold cut
  rw [h.1, h.2, Nat.sub_zero, List.drop_zero, List.take_length]
theorem sl_of {G : Ground} {F H : Hp} {lab : Addr → Option Lab} {σ : L2.St} {ts : List (V × Pl)} {s : Bool} {Q : VK} {H1 : Hp} {e1 : Env} {vx : V} {x : Val} {l h : Option Int} {p : Pl} (hb : slV x l h = some p) (C : Cfg w G F lab σ H1 e1 ts) (hx : Vw w F H1 vx x) (hs : s = true → Same H H1)
    (hr : RO w G W s σ H ts Q (.ok (.tmp p) e1)) : rSlE w.K vx l h H1 Q := by
  unfold slV at hb
  split at hb
  · cases hb
    obtain ⟨a, vs, rfl, h1, d⟩ := hx.lstH C.fH
    exact .inl ⟨a, vs, rfl, .inl (.inl h1), hr.newO C (fun p hp => rep_lst (cut_den d)) hs⟩
  · cases hb
    obtain ⟨a, vs, rfl, h1, d⟩ := hx.tupH
    refine .inr ⟨a, vs, rfl, sqT_mono C.fH h1, fun z => ?_, fun z => hr.newF C (fun p hp fp => .tup (.inl (.inl upd_same)) ((cut_den d).mono (same_new fp))) hs⟩
    rw [d.length] at z
    rw [cut_whole z] at hr
    exact RO.value hr C (.tup h1 d) hs
  · cases hb
theorem snd_sl (g : Gd w W X) (ha : Snd X W w c a ia) (hl : SndI X W w c lo il) (hh : SndI X W w c hi ih) : Snd X W w c (.Subscript a (.Slice lo hi none p2) pos) (.sl ia il ih) :=
  snd_plain g (PE.imp (pe_slice sl_seq ha.pe hl.po hh.po) fun σ H Q h => by
    obtain ⟨G, en, ts, C, h⟩ := h
    simp only [evO, smp] at h
    refine ⟨G, en, ts, C, ?_⟩
    cases m1 : evO c ia en with
    | stuck => rw [m1] at h; exact h.elim
    | exn y e1 => rw [m1] at h; exact h
    | ok o e1 =>
      rw [m1] at h
      simp only [Out.bind_ok] at h
      intro H1 v1 C1 a1 s1
      by_cases hp : (plain o || (smpo il && smpo ih)) = true
      · rw [if_pos hp] at h
        refine ⟨G, e1, _, C1, ?_⟩
        cases m2 : evPart c il e1 with
        | stuck => rw [m2] at h; exact h.elim
        | exn y e2 => rw [m2] at h; exact fun cls d H' c => h cls d H' c.dropO
        | ok l e2 =>
          rw [m2] at h
          simp only [Out.bind_ok] at h
          intro H2 C2 s2
          refine ⟨G, e2, _, C2, ?_⟩
          cases m3 : evPart c ih e2 with
          | stuck => rw [m3] at h; exact h.elim
          | exn y e3 => rw [m3] at h; exact fun cls d H' c => h cls d H' c.dropO
          | ok u e3 =>
            rw [m3] at h
            simp only [Out.bind_ok] at h
            intro H3 ⟨F, lab, C3⟩ s3
            have a3 : Has w σ H3 (tsOf o v1 ts) o v1 := a1.stay hp (fun z => by rw [Bool.and_eq_true] at z; exact (s2 z.1).trans (s3 z.2)) fun t h => h
            cases p1 : peek1 e3 o with
            | none => rw [p1] at h; exact h.elim
            | some x =>
              rw [p1] at h
              simp only [Option.bind_some] at h
              cases hi : slV x l u with
              | none => rw [hi] at h; exact h.elim
              | some p =>
                rw [hi] at h
                rw [g.K]
                exact sl_of hi C3.dropO (C3.vw a3 p1) (fun z => by
                  rw [Bool.and_eq_true, Bool.and_eq_true] at z
                  exact (s1 z.1.1).trans ((s2 z.1.2).trans (s3 z.2))) h
      · rw [if_neg hp] at h; exact h.elim) fun _ => rfl
theorem snd_neg (g : Gd w W X) (ha : Snd X W w c a ia) : Snd X W w c (.UnaryOp .USub a pos) (.neg ia) :=
  snd_plain g (PE.imp (pe_un un_neg ha.pe) fun σ H Q h => by
    obtain ⟨G, en, ts, C, h⟩ := h
    simp only [evO, smp] at h
    refine ⟨G, en, ts, C, ?_⟩
    cases m1 : evO c ia en with
    | stuck => rw [m1] at h; exact h.elim
    | exn y e1 => rw [m1] at h; exact h
    | ok o e1 =>
      rw [m1] at h
      simp only [Out.bind_ok] at h
      intro H1 v1 ⟨F, lab, C1⟩ a1 s1
      cases p1 : peek e1 o with
      | none => rw [p1] at h; exact h.elim
      | some x =>
        have d := C1.den a1 p1
        rw [p1] at h
        cases d with
        | int i => exact ⟨i, rfl, RO.value h C1.dropO (.int _) s1⟩
        | _ => exact h.elim) fun _ => rfl
theorem RX.drop {σ : L2.St} {H : Hp} {ts : List (V × Pl)} {G : Ground} {s : Bool} {R : V → Hp → Prop} {m : Out Val} {f : Out Val → Prop} : True := trivial
theorem chn_imp (g : Gd w W X) {o1 o2 : CmpOp} {σ : L2.St} {H : Hp} {Q : VK} (h : tO w W (smp (.chn o1 o2 ia ib id)) (evO c (.chn o1 o2 ia ib id)) σ H Q) :
    tChain (rCmp X.K o1) (rCmp X.K o2) (tO w W (smp ia) (evO c ia)) (tO w W (smp ib) (evO c ib)) (tO w W (smp id) (evO c id)) σ H Q := by
  obtain ⟨G, en, ts, C, h⟩ := h
  simp only [evO, smp] at h
  rw [g.K]
  refine ⟨G, en, ts, C, RO.toX ?_⟩
  cases m1 : (evO c ia en).bind freeze with
  | stuck => rw [m1] at h; exact h.elim
  | exn y e1 => rw [m1] at h; exact h
  | ok x e1 =>
    rw [m1] at h
    simp only [Out.bind_ok] at h
    intro H1 v1 C1 s1
    refine ⟨G, e1, _, C1, RO.toX ?_⟩
    cases m2 : (evO c ib e1).bind freeze with
    | stuck => rw [m2] at h; exact h.elim
    | exn y e2 => rw [m2] at h; exact fun cls d H' c => h cls d H' c.drop
    | ok y e2 =>
      rw [m2] at h
      simp only [Out.bind_ok] at h
      intro H2 v2 ⟨F, lab, C2⟩ s2
      have d2 := C2.temps.1
      have d1 := C2.temps.2.1
      simp only [Rep] at d1 d2
      cases r1 : cmpV o1 x y with
      | none => rw [r1] at h; exact h.elim
      | some k =>
        rw [r1] at h
        simp only [Out.of_some, Out.bind_ok] at h
        refine cmp_of r1 (d1.mono C2.fH) (d2.mono C2.fH) ⟨k, rfl, ?_⟩
        cases k with
        | false =>
          rw [if_neg Bool.false_ne_true] at h ⊢
          exact RO.value h C2.drop.drop (.bl _) fun z => by
            simp only [Bool.and_eq_true] at z
            exact (s1 z.1.1).trans (s2 z.1.2)
        | true =>
          rw [if_pos rfl] at h ⊢
          refine ⟨G, e2, _, ⟨F, lab, C2⟩, RO.toX ?_⟩
          cases m3 : (evO c id e2).bind freeze with
          | stuck => rw [m3] at h; exact h.elim
          | exn y e3 => rw [m3] at h; exact fun cls d H' c => h cls d H' c.drop.drop
          | ok z e3 =>
            rw [m3] at h
            simp only [Out.bind_ok] at h
            intro H3 v3 ⟨F', lab', C3⟩ s3
            have d3 := C3.temps.1
            have d2 := C3.temps.2.1
            simp only [Rep] at d2 d3
            cases r2 : cmpV o2 y z with
            | none => rw [r2] at h; exact h.elim
            | some k2 =>
              rw [r2] at h
              exact cmp_of r2 (d2.mono C3.fH) (d3.mono C3.fH) (RO.value h C3.drop.drop.drop (.bl _) fun z => by
                simp only [Bool.and_eq_true] at z
                exact (s1 z.1.1).trans ((s2 z.1.2).trans (s3 z.2)))
theorem chn_bl {o1 o2 : CmpOp} {en : Env} {o : Opnd} {e1 : Env} (m : evO c (.chn o1 o2 ia ib id) en = .ok o e1) : ∃ k, o = .tmp (.val (.bl k)) := by
  simp only [evO] at m
  cases m1 : (evO c ia en).bind freeze with
  | stuck => rw [m1] at m; cases m
  | exn y e1 => rw [m1] at m; cases m
  | ok x e2 =>
    rw [m1] at m
    simp only [Out.bind_ok] at m
    cases m2 : (evO c ib e2).bind freeze with
    | stuck => rw [m2] at m; cases m
    | exn y e1 => rw [m2] at m; cases m
    | ok y e3 =>
      rw [m2] at m
      simp only [Out.bind_ok] at m
      cases r1 : cmpV o1 x y with
      | none => rw [r1] at m; cases m
      | some k =>
        rw [r1] at m
        simp only [Out.of_some, Out.bind_ok] at m
        cases k with
        | false => rw [if_neg Bool.false_ne_true] at m; cases m; exact ⟨_, rfl⟩
        | true =>
          rw [if_pos rfl] at m
          cases m3 : (evO c id e3).bind freeze with
          | stuck => rw [m3] at m; cases m
          | exn y e1 => rw [m3] at m; cases m
          | ok z e4 =>
            rw [m3] at m
            simp only [Out.bind_ok] at m
            cases r2 : cmpV o2 y z with
            | none => rw [r2] at m; cases m
            | some k2 => rw [r2] at m; cases m; exact ⟨_, rfl⟩
/-- a test whose value is a bool -/
theorem tst_bool {s : Bool} {m : Env → Out Opnd} (hm : ∀ en o e1, m en = .ok o e1 → ∃ k, o = .tmp (.val (.bl k))) {σ : L2.St} {H : Hp} {Q : Bool → Hp → Prop} (h : tT w W s (fun e => tst (m e)) σ H Q) : tO w W s m σ H fun x H' => ∃ k, x = .bl k ∧ Q k H' := by
  obtain ⟨G, en, ts, C, h⟩ := h
  have h : RT w G W s σ H ts Q (tst (m en)) := h
  refine ⟨G, en, ts, C, ?_⟩
  cases m1 : m en with
  | stuck => rw [m1] at h; exact h.elim
  | exn y e1 => rw [m1] at h; exact h
  | ok o e1 =>
    obtain ⟨k, rfl⟩ := hm _ _ _ m1
    rw [m1] at h
    simp only [tst, Out.bind_ok, peek, toVal, Option.bind_some, truthy, Out.of_some] at h
    intro H' v ⟨F, lab, C'⟩ ha hs
    have d := C'.temps.1
    simp only [Rep] at d
    cases d
    exact ⟨k, rfl, h H' ⟨F, lab, C'.drop⟩ hs⟩
theorem snd_chn (g : Gd w W X) {o1 o2 : CmpOp} (hm : lastMarks [o1, o2] [b, d] = false) (ha : Snd X W w c a ia) (hb : Snd X W w c b ib) (hd : Snd X W w c d id) : Snd X W w c (.Compare a [o1, o2] [b, d] pos) (.chn o1 o2 ia ib id) :=
  ⟨PE.imp (pe_chain (op_cmp g.hu o1) (op_cmp g.hu o2) ha.pe hb.pe hd.pe hm) fun σ H Q h => chn_imp g h,
   PT.imp (pt_chain (op_cmp g.hu o1) (op_cmp g.hu o2) ha.pe hb.pe hd.pe hm) fun σ H Q h => chn_imp g (tst_bool (fun en o e1 => chn_bl) h)⟩
end
end Ev
namespace Ev
open PySem PySem.Spec L2
section
variable {w : Wd} {G : Ground} {F : Hp} {lab : Addr → Option Lab} {σ : L2.St} {H : Hp} {e : Env} {ts as : List (V × Pl)}
theorem RepT.split {lab2 : Addr → Option Lab} (h : ∀ a j, lab a = some (.tmp (j + ts.length)) → lab2 a = some (.tmp j)) : ∀ {as : List (V × Pl)}, RepT w F H lab (as ++ ts) → RepT w F H lab2 as
  | [], _ => trivial
  | (v, p) :: as, r => ⟨Rep.mono (Same.refl _) p r.1 (fun _ _ _ h => h) fun a ha => h a as.length (by
      have ha : lab a = some (.tmp (as ++ ts).length) := ha
      rw [List.length_append] at ha; exact ha), RepT.split h r.2⟩
theorem RepT.join {F' H' : Hp} {lab' lab2 : Addr → Option Lab} (eF : Same F' F) (h : ∀ a j, lab' a = some (.tmp j) → lab2 a = some (.tmp (j + ts.length))) (k : RepT w F H' lab2 ts) : ∀ {rs : List (V × Pl)}, RepT w F' H' lab' rs → RepT w F H' lab2 (rs ++ ts)
  | [], _ => k
  | (v, p) :: rs, r => ⟨Rep.mono eF p r.1 (fun _ _ _ h => h) fun a ha => by
      have q := h a rs.length ha
      show lab2 a = some (.tmp (rs ++ ts).length)
      rw [List.length_append]; exact q, RepT.join eF h k r.2⟩
/-- paths to holes stay -/
def Stays (w : Wd) (σ : L2.St) (H : Hp) (e : Env) (H' : Hp) : Prop := ∀ i r u, getE e i r = some .hole → AtS w σ H i r u → AtS w σ H' i r u
open Classical in
/-- the arguments alone, for a callee; and back -/
theorem Cfg.call (C : Cfg w G F lab σ H e (as ++ ts)) : ∃ G', CfgE w G' [] H [] as ∧ ∀ H' rs F' lab', Cfg w G' F' lab' [] H' [] rs → Stays w σ H e H' ∧ ∃ F2 lab2, Same F' F2 ∧ Cfg w G F2 lab2 σ H' e (rs ++ ts) := by
  let isArg : Addr → Prop := fun a => ∃ j, ts.length ≤ j ∧ lab a = some (.tmp j)
  let G' : Ground := ⟨H, fun a => H a ≠ none ∧ ¬ isArg a, fun a => G.av a ∨ (∃ l, lab a = some l) ∧ ¬ isArg a, fun _ => none⟩
  let lab2 : Addr → Option Lab := fun a => match lab a with
    | some (.tmp j) => if ts.length ≤ j then some (.tmp (j - ts.length)) else none
    | _ => none
  have l2 : ∀ a l, lab2 a = some l → isArg a := fun a l h => by
    simp only [lab2] at h
    split at h
    · rename_i j hj
      split at h
      · rename_i hl; exact ⟨j, hl, hj⟩
      · cases h
    · cases h
  refine ⟨G', ⟨F, lab2, C.fH, fun a l h => ?_, fun a h => ?_, fun a h => ?_, fun a o h e => e, fun a h => h.1, fun a h => h, fun i p h => by simp at h, RepT.split (ts := ts) (fun a j h => ?_) C.temps, fun i v h => (by cases h), rfl⟩, fun H' rs F' lab' C' => ?_⟩
  · obtain ⟨j, h1, h2⟩ := l2 a l h
    obtain ⟨g1, g2, g3⟩ := C.own a _ h2
    exact ⟨g1, fun z => z.2 ⟨j, h1, h2⟩, g3⟩
  · rcases h with h | ⟨⟨l, h⟩, _⟩
    · exact C.av a h
    · exact (C.own a l h).1
  · rcases h with h | ⟨⟨l, h⟩, hn⟩
    · have ho := C.avO a h
      exact ⟨C.pres a (C.outH a ho), fun ⟨j, h1, h2⟩ => (C.own a _ h2).2.1 ho⟩
    · exact ⟨(C.own a l h).2.2, hn⟩
  · show lab2 a = _
    simp only [lab2, h]
    rw [if_pos (by omega)]
    congr 2; omega
  · -- back
    have keepH : ∀ a, ¬ isArg a → ∀ o, H a = some o → H' a = some o := fun a hn o h => C'.out a o ⟨by rw [h]; simp, hn⟩ h
    have nonF : ∀ a o, F a = some o → ¬ isArg a := fun a o h ⟨j, _, h2⟩ => by rw [(C.own a _ h2).1] at h; cases h
    have eFH : Same F H' := fun a o h => keepH a (nonF a o h) o (C.fH _ _ h)
    let F2 : Hp := fun a => match F' a with | some o => some o | none => F a
    have F2' : Same F' F2 := fun a o h => by show (match F' a with | some o => some o | none => F a) = _; rw [h]
    have F2F : Same F F2 := fun a o h => by
      show (match F' a with | some o => some o | none => F a) = _
      cases q : F' a with
      | none => exact h
      | some o' => rw [← (C'.fH _ _ q).symm.trans (eFH _ _ h)]
    have F2H : Same F2 H' := fun a o h => by
      have h : (match F' a with | some o => some o | none => F a) = some o := h
      cases q : F' a with
      | none => rw [q] at h; exact eFH _ _ h
      | some o' => rw [q] at h; rw [← h]; exact C'.fH _ _ q
    let lab3 : Addr → Option Lab := fun a => match lab' a with
      | some (.tmp j) => some (.tmp (j + ts.length))
      | some (.slot _) => none
      | none => if isArg a then none else lab a
    have nl' : ∀ a l, lab a = some l → ¬ isArg a → lab' a = none := fun a l h hn => by
      cases q : lab' a with
      | none => rfl
      | some l' => exact absurd ⟨(C.own a l h).2.2, hn⟩ (C'.own a l' q).2.1
    have old : ∀ a l, lab a = some l → ¬ isArg a → lab3 a = some l := fun a l h hn => by
      simp only [lab3, nl' a l h hn]
      rw [if_neg hn]; exact h
    have slotN : ∀ a i, lab a = some (.slot i) → ¬ isArg a := fun a i h ⟨j, _, h2⟩ => by rw [h] at h2; cases h2
    have tmpN : ∀ a j, j < ts.length → lab a = some (.tmp j) → ¬ isArg a := fun a j hj h ⟨k, h1, h2⟩ => by rw [h] at h2; cases h2; omega
    refine ⟨fun i r u hg hat => ?_, F2, lab3, F2', F2H, fun a l h => ?_, fun a h => ?_, C.avO, fun a o h1 h2 => ?_, C.outH, fun a h => C'.pres a (C.pres a h), fun i p h => (C.slots i p h).mono F2F (fun a ha o ho => keepH a (slotN a i ha) o ho) fun a ha => old a _ ha (slotN a i ha), RepT.join F2' (fun a j h => ?_) ?_ C'.temps, C.keep, C.len⟩
    · obtain ⟨v, h1, h2⟩ := hat
      obtain ⟨p, hp, gp⟩ := getE_some hg
      rcases C.slots i p hp with z | ⟨v', hv', R⟩
      · subst z
        cases r with
        | nil => exact ⟨v, h1, h2⟩
        | cons t r => cases t <;> simp [getP] at gp
      · rw [h1] at hv'; cases hv'
        obtain ⟨u', Aq, P⟩ := part C.fH r p R gp
        have := P.at_.unique h2
        subst this
        exact ⟨v, h1, P.stay H' eFH fun a ha _ o ho => keepH a (slotN a i ha) o ho⟩
    · cases q : lab' a with
      | some l' =>
        obtain ⟨g1, g2, g3⟩ := C'.own a l' q
        have na : ∀ o, H a = some o → isArg a := fun o ho => Classical.byContradiction fun hn => g2 ⟨by rw [ho]; simp, hn⟩
        refine ⟨?_, fun z => ?_, g3⟩
        · show (match F' a with | some o => some o | none => F a) = none
          rw [g1]
          cases f : F a with
          | none => rfl
          | some o => exact absurd (na o (C.fH _ _ f)) (nonF a o f)
        · cases f : H a with
          | none => exact C.pres a (C.outH a z) f
          | some o =>
            obtain ⟨j, _, h2⟩ := na o f
            exact (C.own a _ h2).2.1 z
      | none =>
        simp only [lab3, q] at h
        by_cases hn : isArg a
        · rw [if_pos hn] at h; cases h
        · rw [if_neg hn] at h
          obtain ⟨g1, g2, g3⟩ := C.own a l h
          refine ⟨?_, g2, ?_⟩
          · show (match F' a with | some o => some o | none => F a) = none
            rw [C'.av a (.inr ⟨⟨l, h⟩, hn⟩)]; exact g1
          · exact C'.pres a g3
    · show (match F' a with | some o => some o | none => F a) = none
      rw [C'.av a (.inl h)]; exact C.av a h
    · exact keepH a (fun ⟨j, _, z⟩ => (C.own a _ z).2.1 h1) o (C.out a o h1 h2)
    · show lab3 a = _
      simp only [lab3, h]
    · exact (RepT.tail as C.temps).mono F2F fun a j hj h => ⟨old a _ h (tmpN a j hj h), fun o ho => keepH a (tmpN a j hj h) o ho⟩
/-- a new object that nobody speaks of -/
theorem Cfg.newN (C : Cfg w G F lab σ H e ts) {p : Addr} {o : HO} (hp : H p = none) : Cfg w G F lab σ (upd H p o) e ts := by
  have eH : Same H (upd H p o) := same_new hp
  refine ⟨C.fH.trans eH, fun a l h => ?_, C.av, C.avO, fun a u h1 h2 => eH _ _ (C.out a u h1 h2), C.outH, fun a h => ?_, fun i q h => (C.slots i q h).mono (Same.refl _) (fun a _ u hu => eH _ _ hu) fun _ h => h, C.temps.mono (Same.refl _) fun a j _ h => ⟨h, fun u hu => eH _ _ hu⟩, C.keep, C.len⟩
  · obtain ⟨g1, g2, g3⟩ := C.own a l h
    refine ⟨g1, g2, ?_⟩
    rw [upd_ne (fun z => by subst z; exact g3 hp)]; exact g3
  · by_cases hb : a = p
    · subst hb; rw [upd_same]; simp
    · rw [upd_ne hb]; exact C.pres a h
def tsOfs : List Opnd → List V → List (V × Pl) → List (V × Pl)
  | o :: os, v :: vs, ts => tsOfs os vs (tsOf o v ts)
  | _, _, ts => ts
/-- each operand stands where its value says -/
def HasA (w : Wd) (σ : L2.St) (H : Hp) : List Opnd → List V → Prop
  | [], [] => True
  | .at i r :: os, v :: vs => AtS w σ H i r v ∧ HasA w σ H os vs
  | .tmp _ :: os, _ :: vs => HasA w σ H os vs
  | _, _ => False
theorem HasA.length : ∀ {os : List Opnd} {vs : List V}, HasA w σ H os vs → os.length = vs.length
  | [], [], _ => rfl
  | .at _ _ :: os, _ :: vs, h => by rw [List.length_cons, List.length_cons, HasA.length h.2]
  | .tmp _ :: os, _ :: vs, h => by rw [List.length_cons, List.length_cons, HasA.length (show HasA w σ H os vs from h)]
  | [], _ :: _, h => h.elim
  | .at _ _ :: _, [], h => h.elim
  | .tmp _ :: _, [], h => h.elim
def tmps : List Opnd → List V → List (V × Pl)
  | .tmp p :: os, v :: vs => (v, p) :: tmps os vs
  | .at _ _ :: os, _ :: vs => tmps os vs
  | _, _ => []
theorem tsOfs_perm : ∀ {os : List Opnd} {vs : List V} {ts : List (V × Pl)}, (tsOfs os vs ts).Perm (tmps os vs ++ ts)
  | [], _, ts => by simp [tsOfs, tmps]
  | .at _ _ :: os, [], ts => by simp [tsOfs, tmps]
  | .tmp _ :: os, [], ts => by simp [tsOfs, tmps]
  | .at _ _ :: os, v :: vs, ts => by
    simp only [tsOfs, tmps, tsOf]
    exact tsOfs_perm
  | .tmp p :: os, v :: vs, ts => by
    simp only [tsOfs, tmps, tsOf]
    refine (tsOfs_perm (os := os) (vs := vs) (ts := (v, p) :: ts)).trans ?_
    rw [List.cons_append]
    exact List.perm_middle
/-- for each argument that goes back: where it is -/
def PutA (w : Wd) (σ : L2.St) (H : Hp) : List Arg → List V → Prop
  | [], [] => True
  | .put i r _ :: as, v :: vs => AtS w σ H i r v ∧ PutA w σ H as vs
  | .fix _ :: as, _ :: vs => PutA w σ H as vs
  | _, _ => False
theorem takeAll_ok : ∀ {os : List Opnd} {vs : List V} {e e1 : Env} {as : List Arg} {acc : List (V × Pl)}, takeAll os e = some (as, e1) → HasA w σ H os vs → CfgE w G σ H e (tmps os vs ++ acc) →
    CfgE w G σ H e1 (vs.zip (as.map Arg.pl) ++ acc) ∧ PutA w σ H as vs ∧ as.length = vs.length
  | [], [], e, e1, as, acc, h, _, C => by
    simp only [takeAll, Option.some.injEq, Prod.mk.injEq] at h
    obtain ⟨rfl, rfl⟩ := h
    exact ⟨by simpa [tmps] using C, trivial, rfl⟩
  | .tmp p :: os, v :: vs, e, e1, as, acc, h, ha, C => by
    simp only [takeAll] at h
    cases q : takeAll os e with
    | none => rw [q] at h; cases h
    | some z =>
      obtain ⟨as', e'⟩ := z
      rw [q] at h
      simp only [Option.map_some, Option.some.injEq, Prod.mk.injEq] at h
      obtain ⟨rfl, rfl⟩ := h
      have ha : HasA w σ H os vs := ha
      have C1 : CfgE w G σ H e (tmps os vs ++ (v, p) :: acc) := CfgE.perm (by simp only [tmps, List.cons_append]; exact List.perm_middle.symm) C
      obtain ⟨C2, P, l⟩ := takeAll_ok (os := os) (vs := vs) (acc := (v, p) :: acc) q ha C1
      exact ⟨CfgE.perm (by simp only [List.map_cons, Arg.pl, List.zip_cons_cons, List.cons_append]; exact List.perm_middle) C2, P, by rw [List.length_cons, List.length_cons, l]⟩
  | .at i r :: os, v :: vs, e, e1, as, acc, h, ha, C => by
    obtain ⟨a1, ha⟩ := ha
    have C : CfgE w G σ H e (tmps os vs ++ acc) := C
    simp only [takeAll] at h
    cases g : getE e i r with
    | none => rw [g] at h; cases h
    | some p =>
      rw [g] at h
      by_cases hh : p = .hole
      · subst hh; cases h
      · by_cases hv : ∃ x, p = .val x
        · obtain ⟨x, rfl⟩ := hv
          simp only at h
          cases q : takeAll os e with
          | none => rw [q] at h; cases h
          | some z =>
            obtain ⟨as', e'⟩ := z
            rw [q] at h
            simp only [Option.map_some, Option.some.injEq, Prod.mk.injEq] at h
            obtain ⟨rfl, rfl⟩ := h
            obtain ⟨F, lab, C0⟩ := C
            obtain ⟨u, A, a2, R⟩ := C0.atS g hh
            have := a2.unique a1
            subst this
            simp only [Rep] at R
            have C1 : CfgE w G σ H e (tmps os vs ++ (u, .val x) :: acc) := CfgE.perm List.perm_middle.symm ⟨F, lab, C0.push R⟩
            obtain ⟨C2, P, l⟩ := takeAll_ok (os := os) (vs := vs) (acc := (u, .val x) :: acc) q ha C1
            exact ⟨CfgE.perm (by simp only [List.map_cons, Arg.pl, List.zip_cons_cons, List.cons_append]; exact List.perm_middle) C2, P, by rw [List.length_cons, List.length_cons, l]⟩
        · have h : (takeAll os (setE e i r .hole)).map (fun (as, e') => (Arg.put i r p :: as, e')) = some (as, e1) := by
            cases p with
            | hole => exact absurd rfl hh
            | val x => exact absurd ⟨x, rfl⟩ hv
            | _ => exact h
          cases q : takeAll os (setE e i r .hole) with
          | none => rw [q] at h; cases h
          | some z =>
            obtain ⟨as', e'⟩ := z
            rw [q] at h
            simp only [Option.map_some, Option.some.injEq, Prod.mk.injEq] at h
            obtain ⟨rfl, rfl⟩ := h
            obtain ⟨F, lab, C0⟩ := C
            obtain ⟨u, a2, C1⟩ := C0.take g hh
            have := a2.unique a1
            subst this
            have C1 : CfgE w G σ H (setE e i r .hole) (tmps os vs ++ (u, p) :: acc) := CfgE.perm List.perm_middle.symm C1
            obtain ⟨C2, P, l⟩ := takeAll_ok (os := os) (vs := vs) (acc := (u, p) :: acc) q ha C1
            exact ⟨CfgE.perm (by simp only [List.map_cons, Arg.pl, List.zip_cons_cons, List.cons_append]; exact List.perm_middle) C2, ⟨a1, P⟩, by rw [List.length_cons, List.length_cons, l]⟩
theorem PutA.stays {H' : Hp} (st : Stays w σ H e H') : ∀ {as : List Arg} {vs : List V}, holesOk e as = true → PutA w σ H as vs → PutA w σ H' as vs
  | [], [], _, _ => trivial
  | .put i r p :: as, v :: vs, h, ⟨a, b⟩ => by
    simp only [holesOk, Bool.and_eq_true] at h
    refine ⟨st i r v ?_ a, PutA.stays st h.2 b⟩
    cases g : getE e i r with
    | none => rw [g] at h; simp at h
    | some q => cases q <;> first | rfl | (rw [g] at h; simp at h)
  | .fix p :: as, v :: vs, h, b => by
    have h : holesOk e as = true := by simpa only [holesOk] using h
    have b : PutA w σ H as vs := b
    exact PutA.stays (as := as) (vs := vs) st h b
  | [], _ :: _, _, b => b.elim
  | .put _ _ _ :: _, [], _, b => b.elim
  | .fix _ :: _, [], _, b => b.elim
theorem putAll_ok : ∀ {as : List Arg} {vs : List V} {ps : List Pl} {e e2 : Env} {acc : List (V × Pl)}, putAll as ps e = some e2 → PutA w σ H as vs → CfgE w G σ H e (vs.zip ps ++ acc) → CfgE w G σ H e2 acc
  | [], [], [], e, e2, acc, h, _, C => by
    simp only [putAll, Option.some.injEq] at h
    subst h
    simpa using C
  | .put i r p :: as, v :: vs, q :: ps, e, e2, acc, h, ⟨a, b⟩, C => by
    simp only [putAll] at h
    split at h
    · rename_i g
      simp only [List.zip_cons_cons, List.cons_append] at C
      obtain ⟨F, lab, C⟩ := C
      exact putAll_ok h b (C.put g a)
    · cases h
  | .fix p :: as, v :: vs, q :: ps, e, e2, acc, h, b, C => by
    simp only [putAll] at h
    simp only [List.zip_cons_cons, List.cons_append] at C
    obtain ⟨F, lab, C⟩ := C
    exact putAll_ok h (show PutA w σ H as vs from b) ⟨F, lab, C.drop⟩
  | [], _ :: _, _, _, _, _, _, b, _ => b.elim
  | .put _ _ _ :: _, [], _, _, _, _, _, b, _ => b.elim
  | .fix _ :: _, [], _, _, _, _, _, b, _ => b.elim
  | [], [], _ :: _, _, _, _, h, _, _ => by simp [putAll] at h
  | .put _ _ _ :: _, _ :: _, [], _, _, _, h, _, _ => by simp [putAll] at h
  | .fix _ :: _, _ :: _, [], _, _, _, h, _, _ => by simp [putAll] at h
/-- as putAll_ok, with an exception in the air -/
theorem putAll_okX {x : Exn} {cls : Value} {d : Option Addr} : ∀ {as : List Arg} {vs : List V} {ps : List Pl} {e e2 : Env} {acc : List (V × Pl)}, putAll as ps e = some e2 → PutA w σ H as vs → CfgX w G σ H e (vs.zip ps ++ acc) x cls d → CfgX w G σ H e2 acc x cls d
  | [], [], [], e, e2, acc, h, _, C => by
    simp only [putAll, Option.some.injEq] at h
    subst h
    simpa using C
  | .put i r p :: as, v :: vs, q :: ps, e, e2, acc, h, ⟨a, b⟩, C => by
    simp only [putAll] at h
    split at h
    · rename_i g
      simp only [List.zip_cons_cons, List.cons_append] at C
      obtain ⟨F, lab, C, r⟩ := C
      obtain ⟨lab', C'⟩ := C.putF g a
      exact putAll_okX h b ⟨F, lab', C', r⟩
    · cases h
  | .fix p :: as, v :: vs, q :: ps, e, e2, acc, h, b, C => by
    simp only [putAll] at h
    simp only [List.zip_cons_cons, List.cons_append] at C
    exact putAll_okX h (show PutA w σ H as vs from b) C.drop
  | [], _ :: _, _, _, _, _, _, b, _ => b.elim
  | .put _ _ _ :: _, [], _, _, _, _, _, b, _ => b.elim
  | .fix _ :: _, [], _, _, _, _, _, b, _ => b.elim
  | [], [], _ :: _, _, _, _, h, _, _ => by simp [putAll] at h
  | .put _ _ _ :: _, _ :: _, [], _, _, _, h, _, _ => by simp [putAll] at h
  | .fix _ :: _, _ :: _, [], _, _, _, h, _, _ => by simp [putAll] at h
end
end Ev
namespace Ev
open PySem PySem.Spec L2 PyProof.Rows
/-- there is room, and no text of an object is being made -/
structure Rm (k : Nat) (A : Around) : Prop where
  rm : Room k A
  gd : A.guards = some []
theorem Rm.mono {j k : Nat} {A : Around} (r : Rm k A) (h : j ≤ k) : Rm j A := ⟨r.rm.mono h, r.gd⟩
theorem Rm.deeper {k : Nat} {A : Around} (r : Rm (k + 1) A) (env : PySem.Env) : Rm k (A.deeper env) := ⟨r.rm.deeper env, r.gd⟩
theorem Rm.make {k : Nat} {A : Around} (r : Rm (k + 1) A) (C : Addr) (us : List Value) (kw : List (Str × Value)) : Rm k (A.under (.builtin "type.__call__" ⟨.ref C :: us, kw⟩)) :=
  ⟨r.rm.make C us kw, by
    have h : (Code.builtin "type.__call__" ⟨.ref C :: us, kw⟩).isGuard = false := by
      show guardIds.contains "type.__call__" = false
      decide +kernel
    simp only [Around.under, Code.guards, h, pushGuards, r.gd]
    rfl⟩
structure FnOg (P : Program) (w : World) (K : PySem.W.Frag) (mg : Str → Option Value) (base : Heap) (CX : CXT) (k : Nat) (f : Addr) (fd : FuncData) (ps : List Str) (sp : Sp) : Prop where
  len : ∀ vs H Q E, sp vs H Q E → vs.length = ps.length
  run : ∀ (A : Around) (outer : List PySem.Env) (s : Shared) (H : Hp) (args : Args) (us : List Value) (vs : List V) (Q : VK) (E : XK), Rm k A → Env0 P w K mg base A outer s H →
    BindsTo s fd args (ps.zip us) → Vals vs us → sp vs H Q E → codeAny (model P w) A (.call (.ref f) args) (CR CX outer P w H s Q E) s
section
variable {X : Cx} {CX : CXT} {k : Nat} {f C : Addr} {fd : FuncData} {ps : List Str} {sp : Sp} {E : L2.St → XK} {x m : Str} {p pos apos : Pos} {e o : Expr} {es : List Expr} {ta : TE} {t : TA}
theorem run_fnG {pn : List (Addr × Obj)} {sl : L2.St} {H0 : Hp} {s0 : Shared} {K0 : VK} {us : List Value} {vs : List V} (Fg : FnOg X.prog X.w X.K X.mg X.base CX k f fd ps sp) (rm : Rm k X.A)
    (bd : Binds X.K fd ps []) (ps' : PassesAt CX X sl (E sl)) (J : Inv X pn sl H0 s0) (rel : Vals vs us) (hsp : sp vs H0 K0 (E sl)) :
    wpAny (model X.prog X.w) X.A (call (.ref f) us) (EP X pn sl K0) X.xe s0 := by
  have ln : us.length = ps.length := rel.length.symm.trans (Fg.len _ _ _ _ hsp)
  have bb := bd s0 us J.kIn (by simpa using ln)
  rw [List.append_nil] at bb
  refine wpAny_call (codeAny_mono (Fg.run _ _ _ _ ⟨us, []⟩ us vs K0 (E sl) rm J.env0 bb rel hsp) fun rr s1 hr => ?_)
  match rr, hr with
  | .error er, hr => exact ps' pn H0 s0 er s1 J hr
  | .ok (.ret u), hr => exact J.after hr
  | .ok .next, hr => exact hr.elim
  | .ok .brk, hr => exact hr.elim
  | .ok .cont, hr => exact hr.elim
theorem pe_callG (Fg : FnOg X.prog X.w X.K X.mg X.base CX k f fd ps sp) (rm : Rm k X.A) (gl : Gl X x) (mg : X.mg x = some (.ref f)) (kp : PySem.W.keepIn X.K (.ref f) = true) (bd : Binds X.K fd ps [])
    (ps' : ∀ sl, PassesAt CX X sl (E sl)) (args : PA X (e :: es) t) (nd : (x == ("__debug__" : Str)) = false) (st : starEach (e :: es) X.env = (false, eval e X.env) :: starEach es X.env)
    (pl : (backTo pos (starEach es X.env)).any (·.1) = false) : PE X (.Call (.Name x p) (e :: es) [] pos) (tCallS sp E t) := by
  refine ⟨fun pn s0 sl H0 K0 J h => wpAny_Call_Name_kw (ld_glob J gl mg ?_ nd)⟩
  exact PySem.W.callWith_K (h₀ := X.base) J.ok.mod.kin kp (thn (args.run pos pn s0 sl H0 _ J h) fun us s1 ⟨vs, H1, J1, rel, q⟩ => ⟨J1.kIn, run_fnG Fg rm bd (ps' sl) J1 rel q⟩) st pl
end
/-- a def by its body -/
theorem fn_ofG {CX : CXT} {P : Program} {w : World} {K : PySem.W.Frag} {mg : Str → Option Value} {base : Heap} {k : Nat} {f : Addr} {name qual : Str} {params : Arguments} {body : List Stmt} {scope : Scope} {dV kV doc pm cdv ct oc : Value} {an od : Option Addr}
    {osl : Array (Option Value)} {N ps : List Str} {sp : Sp} (lk : K.lookup f = some ⟨oc, od, .func (PySem.W.fnOf name qual params body scope dV kV doc pm an cdv ct), osl⟩)
    (cd : PySem.W.codeIn K cdv qual = true) (S : FnScope N ps scope) (ln : ∀ vs H Q E, sp vs H Q E → vs.length = ps.length)
    (bdy : ∀ (A : Around) (outer : List PySem.Env) (s : Shared) (H : Hp) (vs : List V) (Q : VK) (E : XK), Rm k (A.deeper (envOfC qual scope s.heap.objs.size f cdv)) → sp vs H Q E →
      ∃ t, PSs (cxOf CX P w K mg base N qual scope f cdv A outer s H E) body t ∧ t { nx := fun _ H' => Q .non H', rt := Q } (start N vs) H) :
    FnOg P w K mg base CX (k + 1) f (PySem.W.fnOf name qual params body scope dV kV doc pm an cdv ct) ps sp where
  len := ln
  run A outer s H args us vs Q E rm e0 bt rel hsp := by
    have l0 := ln _ _ _ _ hsp
    have kin : K.In s.heap := e0.mod.kin.keeps fun b o q => (e0.bs b o q).1
    have nolim : s.heap.NoLimit := e0.mod.nolimit.keeps fun b o q => (e0.bs b o q).1
    have kinds : ∀ y ∈ ps.zip us, scope.names.lookup y.1 = some .local ∨ (scope.names.lookup y.1 = some .cell ∧ ((cellsFrom (s.heap.objs.size + 1) scope.names []).lookup y.1).isSome = true) := by
      rintro ⟨n, v⟩ hy
      exact (S.par n (List.of_mem_zip hy).1).imp id fun q => ⟨q, PySem.W.cellsFrom_some _ _ _ (.inl q)⟩
    refine codeAny_call_function rm.rm.depth (kin _ _ lk) rfl S.co S.gen rfl (PySem.W.codeRec_of kin cd) (bt _ _ _ _ ?_)
    refine wpAny_newFunctionEnv_cells S.kind kinds fun env he s1 z => ?_
    subst he
    refine ⟨nolim.keeps z.toInCall.keep, codeAny_func ?_⟩
    obtain ⟨t, pt, qt⟩ := bdy A outer s H vs Q E (rm.deeper _) hsp
    have J : Inv (cxOf CX P w K mg base N qual scope f cdv A outer s H E) [] (start N vs) H s1 := inv_start S rm.rm.hd e0 l0 rel z
    refine wpAny_mono (pt.run [] s1 (start N vs) H _ J qt) (fun fl s2 z => ?_) fun _ _ z => z
    match fl, z with
    | .ret u, z =>
      obtain ⟨v, sl', H', J', rv, q⟩ := z
      exact ⟨v, H', J'.os, J'.bare, J'.base, J'.hok, rv, q⟩
    | .next, z =>
      obtain ⟨sl', H', J', q⟩ := z
      exact ⟨V.non, H', J'.os, J'.bare, J'.base, J'.hok, rfl, q⟩
    | .brk, z => exact z.choose_spec.choose_spec.2.elim
    | .cont, z => exact z.choose_spec.choose_spec.2.elim
/-- the law's call by its caller -/
theorem law_callG {P : Program} {w : World} {K : PySem.W.Frag} {mg mb : Str → Option Value} {CX : CXT} {k : Nat} {fa a : Addr} {fd : FuncData} {x : Str} {sp : Sp} {t1 : Shared} {us : List Value} {ns : List Int}
    (kin : K.In t1.heap) (mns : t1.heap.Ns mainGlobals mg) (bns : t1.heap.Ns builtinsNs mb) (blt : ∀ x : Str, x ≠ "__name__" → mb x = bootBuiltins x) (nolim : t1.heap.NoLimit) (nog : t1.gens = #[])
    (oa : t1.heap.get? a = some { cls := .type "list", data := .seq us.toArray }) (ar : IntsAre us ns) (short : ns.length ≤ sizeLine) (rm : Rm k callerA)
    (Fg : ∀ base : Heap, K.In base → base.Ns mainGlobals mg → FnOg P w K mg base CX k fa fd [x] sp) (bd : ∀ (s : Shared) (u : Value), BindsTo s fd ⟨[u], []⟩ [(x, u)])
    (ask : ∀ H : Hp, Only H → SqL K H a (ns.map V.int) → sp [.ref a] H (fun v _ => v = .bl true) fun _ _ _ => False) (cx : ∀ H e s', CX [] H t1 (fun _ _ _ => False) e s' → False) :
    codeAny (model P w) callerA (.call (.ref fa) ⟨[.ref a], []⟩) (fun r s' => r = .ok (.ret (.bool true)) ∧ OldK t1.heap s'.heap ∧ s'.os = t1.os ∧ AllBare s'.gens) t1 := by
  have rel := vals_ints ar
  have ln := ar.length
  have main : ∀ H : Hp, Only H → SqL K H a (ns.map V.int) → HOk P w H t1.heap → (∀ b, H b ≠ none → b = a) → (H a ≠ none → K.lookup a = none) →
      codeAny (model P w) callerA (.call (.ref fa) ⟨[.ref a], []⟩) (fun r s' => r = .ok (.ret (.bool true)) ∧ OldK t1.heap s'.heap ∧ s'.os = t1.os ∧ AllBare s'.gens) t1 := by
    intro H only sq ok at_ out
    have notA : ∀ {b : Addr} {u : Obj}, t1.heap.get? b = some u → (∀ xs n, u.data ≠ .seq xs n) → H b = none := fun {b u} e d => by
      cases q : H b with
      | none => rfl
      | some z =>
        obtain rfl : b = a := at_ b (by rw [q]; simp)
        rw [oa] at e; cases e
        exact absurd rfl (d _ _)
    have ns' : ∀ {b : Addr} {m : Str → Option Value}, t1.heap.Ns b m → (hidT t1.heap H).Ns b m := fun {b m} ⟨o, es, ep, e, d, r⟩ => ⟨o, es, ep, hidT_get e (notA e fun xs n z => by rw [d] at z; cases z), d, r⟩
    have kb : K.In (hidT t1.heap H) := fun b u e => hidT_get (kin b u e) (by
      cases q : H b with
      | none => rfl
      | some z =>
        obtain rfl : b = a := at_ b (by rw [q]; simp)
        rw [out (by rw [q]; simp)] at e; cases e)
    have md : Mod K mg (hidT t1.heap H) := ⟨kb, ns' mns, ⟨mb, ns' bns, blt⟩, let ⟨mc, z1, z2⟩ := nolim; ⟨mc, ns' z1, z2⟩⟩
    have e0 : Env0 P w K mg (hidT t1.heap H) callerA [] t1 H :=
      ⟨rfl, md, fun b u e => of_hidT e, Nat.le_of_eq (hidT_size _ _), trivial, fun b hb => absurd (show b ∈ ([] : List Addr) from hb) (by simp), ok, .of_eq nog⟩
    refine codeAny_mono ((Fg _ kb (ns' mns)).run callerA [] t1 H ⟨[.ref a], []⟩ [.ref a] [.ref a] _ _ rm e0 (bd t1 (.ref a)) (.cons rfl .nil) (ask H only sq)) fun r s' z => ?_
    match r, z with
    | .error e, z => exact (cx H e s' z).elim
    | .ok .next, z => exact z.elim
    | .ok .brk, z => exact z.elim
    | .ok .cont, z => exact z.elim
    | .ok (.ret u), ⟨v, H', os, bare, un, ok', rv, q⟩ =>
      have q2 : v = .bl true := q
      subst q2
      obtain rfl : u = Value.bool true := rv
      refine ⟨rfl, OldK.of_keep fun b u e => ?_, os, bare⟩
      cases q3 : H b with
      | none => exact un.keep b u e q3 (fun z => absurd (show b ∈ ([] : List Addr) from z) (by simp)) (by simp)
      | some z =>
        rcases only b with y | ⟨ob, xs, y⟩
        · rw [q3] at y; cases y
        · have y2 := un.frzs b ob _ y
          obtain ⟨g1, _⟩ := ok b _ y
          obtain ⟨g2, _⟩ := ok' b _ y2
          rw [e] at g1; cases g1
          exact g2
  cases lk : K.lookup a with
  | some u =>
    have e := kin a u lk
    rw [oa] at e
    cases e
    refine main (fun _ => none) (fun _ => .inl rfl) (.inr ⟨_, us.toArray, _, lk, rfl, rfl, rfl, by rw [List.size_toArray, ln]; exact short, by simpa using rel⟩) (fun b u z => ?_) (fun b z => absurd rfl z) fun z => absurd rfl z
    have z2 : (none : Option HO) = some u := z
    cases z2
  | none =>
    refine main (fun b => if b = a then some (.frz { cls := .type "list", data := .seq us.toArray } (.lst (ns.map V.int))) else none) (fun b => ?_) (.inl (.inr ⟨{ cls := .type "list", data := .seq us.toArray }, if_pos rfl⟩)) (fun b u z => ?_) (fun b z => ?_) fun _ => lk
    · by_cases hb : b = a
      · exact .inr ⟨_, _, if_pos hb⟩
      · exact .inl (if_neg hb)
    · by_cases hb : b = a
      · subst hb
        have z2 := (if_pos rfl).symm.trans z
        cases z2
        exact ⟨oa, by rw [List.length_map]; exact short, us, _, rel, oa⟩
      · have z2 := (if_neg hb).symm.trans z
        cases z2
    · by_cases hb : b = a
      · exact hb
      · exact absurd (if_neg hb) z
end Ev
namespace Ev
open PySem PySem.Spec L2
/-- what is wanted of arguments -/
def ROs (w : Wd) (G : Ground) (W : WX) (s : Bool) (σ : L2.St) (H : Hp) (ts : List (V × Pl)) (Q : List V → Hp → Prop) : Out (List Opnd) → Prop
  | .ok os e' => ∀ H' vs, CfgE w G σ H' e' (tsOfs os vs ts) → HasA w σ H' os vs → (s = true → Same H H') → Q vs H'
  | .exn x e' => ∀ cls d H', CfgX w G σ H' e' ts x cls d → W cls d σ H'
  | .stuck => False
def tOs (w : Wd) (W : WX) (s : Bool) (m : Env → Out (List Opnd)) : TA := fun σ H Q => ∃ G e ts, CfgE w G σ H e ts ∧ ROs w G W s σ H ts Q (m e)
structure SndA (X : Cx) (W : WX) (w : Wd) (c : Ctx) (es : List Expr) (irs : List IE) (rb : List Bool) : Prop where
  pa : PA X es (tOs w W (smps irs) (evArgs c irs rb))
section
variable {X : Cx} {W : WX} {w : Wd} {c : Ctx} {e a b d : Expr} {ir ia ib id : IE} {pos : Pos} {es : List Expr} {irs : List IE} {rb : List Bool}
theorem HasA.cons {σ : L2.St} {H1 H2 : Hp} {ts' : List (V × Pl)} {o : Opnd} {v : V} {os : List Opnd} {vs : List V} {s : Bool} (h : Has w σ H1 ts' o v) (hp : (plain o || s) = true) (hs : s = true → Same H1 H2) (t : HasA w σ H2 os vs) : HasA w σ H2 (o :: os) (v :: vs) := by
  cases o with
  | tmp p => exact t
  | «at» i r => exact ⟨(h.stay (ts' := ts') hp hs fun _ z => z), t⟩
theorem args_cons {ma : Env → Out Opnd} {mr : Env → Out (List Opnd)} {sa sr : Bool} {σ : L2.St} {H : Hp} {Q : List V → Hp → Prop} {G : Ground} {en : Env} {ts : List (V × Pl)} (C : CfgE w G σ H en ts)
    (h : ROs w G W (sa && sr) σ H ts Q ((ma en).bind fun o e => if plain o || sr then (mr e).bind fun os e => .ok (o :: os) e else .stuck)) :
    tO w W sa ma σ H fun x H1 => tOs w W sr mr σ H1 fun xs H2 => Q (x :: xs) H2 := by
  refine ⟨G, en, ts, C, ?_⟩
  cases m1 : ma en with
  | stuck => rw [m1] at h; exact h.elim
  | exn y e1 => rw [m1] at h; exact h
  | ok o e1 =>
    rw [m1] at h
    simp only [Out.bind_ok] at h
    intro H1 v1 C1 a1 s1
    by_cases hp : (plain o || sr) = true
    · rw [if_pos hp] at h
      refine ⟨G, e1, _, C1, ?_⟩
      cases m2 : mr e1 with
      | stuck => rw [m2] at h; exact h.elim
      | exn y e2 => rw [m2] at h; exact fun cls d H' c => h cls d H' c.dropO
      | ok os e2 =>
        rw [m2] at h
        simp only [Out.bind_ok] at h
        intro H2 vs C2 a2 s2
        refine h H2 (v1 :: vs) C2 (HasA.cons a1 hp s2 a2) fun z => ?_
        rw [Bool.and_eq_true] at z
        exact (s1 z.1).trans (s2 z.2)
    · rw [if_neg hp] at h; exact h.elim
theorem snda_nil : SndA X W w c [] [] rb := ⟨PA.imp pa_nil fun σ H Q h => by
  obtain ⟨G, en, ts, C, h⟩ := h
  simp only [evArgs] at h
  exact h H [] C trivial fun _ => Same.refl _⟩
/-- the first argument by its value -/
theorem frzO_of {m : Env → Out Opnd} {s : Bool} {σ : L2.St} {H : Hp} {Q : VK} (h : tO w W s (fun e => ((m e).bind freeze).bind fun v e => Out.ok (.tmp (.val v)) e) σ H Q) : tO w W s m σ H Q := by
  obtain ⟨G, en, ts, C, h⟩ := h
  refine ⟨G, en, ts, C, RO.toX ?_⟩
  cases m1 : (m en).bind freeze with
  | stuck => simp only [m1, Out.bind_stuck] at h; exact h.elim
  | exn y e1 => simp only [m1, Out.bind_exn] at h; exact h
  | ok v e1 =>
    simp only [m1, Out.bind_ok] at h
    exact fun H' u C' hs => h H' u C' has_self hs
theorem snda_cons (g : Gd w W X) (hn : notStar e = true) (h1 : Snd X W w c e ir) (h2 : SndA X W w c es irs rb.tail) : SndA X W w c (e :: es) (ir :: irs) rb := ⟨PA.imp (pa_cons h1.pe h2.pa (star_of hn)) fun σ H Q h => by
  obtain ⟨G, en, ts, C, h⟩ := h
  cases rb with
  | nil =>
    simp only [evArgs, smps] at h
    exact args_cons C h
  | cons b bs =>
    simp only [evArgs, smps] at h
    cases b with
    | false =>
      simp only [Bool.false_eq_true, if_false] at h
      exact args_cons C h
    | true =>
      simp only [if_true] at h
      exact frzO_of (args_cons (ma := fun e => ((evO c ir e).bind freeze).bind fun v e => Out.ok (.tmp (.val v)) e) C h)⟩
def spC (w : Wd) (O : List Pl → COut) : Sp := fun vs H Q E => ∃ G ps, CfgE w G [] H [] (vs.zip ps) ∧ vs.length = ps.length ∧ match O ps with
  | .ok r ps' => ∀ v H', CfgE w G [] H' [] ((v, r) :: vs.zip ps') → Q v H'
  | .exn x ps' => ∀ cls d H', CfgX w G [] H' [] (vs.zip ps') x cls d → E cls d H'
  | .stuck => False
theorem ExR.mono {F F' : Hp} {x : Exn} {cls : Value} {d : Option Addr} (e : Same F F') (h : ExR w F x cls d) : ExR w F' x cls d := by
  obtain ⟨C, dd, fvs, h1, h2, h3, h4, h5⟩ := h
  exact ⟨C, dd, fvs, h1, h2, h3, e _ _ h4, h5.mono e⟩
/-- from the caller's state to the callee's promise, and back -/
theorem call_sp {O : List Pl → COut} {σ : L2.St} {H1 : Hp} {e2 : Env} {G : Ground} {ts : List (V × Pl)} {as : List Arg} {vs : List V} {Q : VK} {E : XK} (C : CfgE w G σ H1 e2 (vs.zip (as.map Arg.pl) ++ ts)) (hl : as.length = vs.length) (P : PutA w σ H1 as vs) (hh : holesOk e2 as = true)
    (h : match O (as.map Arg.pl) with
      | .ok r ps => ∃ e3, putAll as ps e2 = some e3 ∧ ∀ v H', CfgE w G σ H' e3 ((v, r) :: ts) → Q v H'
      | .exn x ps => ∃ e3, putAll as ps e2 = some e3 ∧ ∀ cls d H', CfgX w G σ H' e3 ts x cls d → E cls d H'
      | .stuck => False) : spC w O vs H1 Q E := by
  obtain ⟨F, lab, C⟩ := C
  obtain ⟨G', C1, back⟩ := C.call
  refine ⟨G', as.map Arg.pl, C1, by rw [List.length_map, hl], ?_⟩
  cases o : O (as.map Arg.pl) with
  | stuck => rw [o] at h; exact h
  | ok r ps =>
    rw [o] at h
    obtain ⟨e3, hp, h⟩ := h
    intro v H' ⟨F', lab', C2⟩
    obtain ⟨st, F2, lab2, _, C3⟩ := back H' _ F' lab' C2
    have C4 : CfgE w G σ H' e2 (vs.zip ps ++ (v, r) :: ts) := CfgE.perm List.perm_middle.symm ⟨F2, lab2, C3⟩
    exact h v H' (putAll_ok hp (PutA.stays st hh P) C4)
  | exn x ps =>
    rw [o] at h
    obtain ⟨e3, hp, h⟩ := h
    intro cls d H' ⟨F', lab', C2, r⟩
    obtain ⟨st, F2, lab2, eF, C3⟩ := back H' _ F' lab' C2
    exact h cls d H' (putAll_okX hp (PutA.stays st hh P) ⟨F2, lab2, C3, r.mono eF⟩)
theorem callO_sp {f : FnId} {σ : L2.St} {H H1 : Hp} {e1 : Env} {G : Ground} {ts : List (V × Pl)} {os : List Opnd} {vs : List V} {Q : VK} (C : CfgE w G σ H1 e1 (tsOfs os vs ts)) (ha : HasA w σ H1 os vs) (h : RO w G W false σ H ts Q (callO c f os e1)) : spC w (c.O f) vs H1 Q (WE W σ) := by
  unfold callO at h
  cases t : takeAll os e1 with
  | none => rw [t] at h; exact h.elim
  | some z =>
    obtain ⟨as, e2⟩ := z
    rw [t] at h
    simp only at h
    obtain ⟨C2, P, hl⟩ := takeAll_ok t ha (CfgE.perm tsOfs_perm C)
    by_cases hh : holesOk e2 as = true
    · rw [if_pos hh] at h
      refine call_sp C2 hl P hh ?_
      cases o : c.O f (as.map Arg.pl) with
      | stuck => rw [o] at h; exact h
      | ok r ps =>
        rw [o] at h
        simp only at h
        cases p : putAll as ps e2 with
        | none => rw [p] at h; exact h.elim
        | some e3 =>
          rw [p] at h
          exact ⟨e3, p, fun v H' C' => h H' v C' has_self fun z => by cases z⟩
      | exn x ps =>
        rw [o] at h
        simp only at h
        cases p : putAll as ps e2 with
        | none => rw [p] at h; exact h.elim
        | some e3 =>
          rw [p] at h
          exact ⟨e3, p, fun cls d H' C' => h cls d H' C'⟩
    · rw [if_neg hh] at h; exact h.elim
/-- an own def that stands at f and keeps its promise -/
structure FnF (w : Wd) (X : Cx) (O : List Pl → COut) (f : Addr) : Prop where
  ex : ∃ k fd ps, FnOg X.prog X.w X.K X.mg X.base (L2.CX X.prog X.w) k f fd ps (spC w O) ∧ Rm (k + 1) X.A ∧ Binds X.K fd ps []
  kp : PySem.W.keepIn X.K (.ref f) = true
theorem pe_callS0 {k : Nat} {f : Addr} {fd : FuncData} {ps : List Str} {sp : Sp} {E : L2.St → XK} {x : Str} {p : Pos} {CX : CXT} (F : FnOg X.prog X.w X.K X.mg X.base CX k f fd ps sp) (hr : Rm k X.A) (hg : Gl X x) (hm : X.mg x = some (.ref f)) (hk : PySem.W.keepIn X.K (.ref f) = true) (hb : Binds X.K fd ps []) (hx : ∀ σ, PassesAt CX X σ (E σ))
    (hdb : (x == ("__debug__" : Str)) = false) : PE X (.Call (.Name x p) [] [] pos) (tCallS sp E tNil) := by
  refine ⟨fun pins s σ H Q I h => ?_⟩
  refine wpAny_Call_Name_kw (ld_glob I hg hm ?_ hdb)
  exact PySem.W.callWith_K0 I.kIn hk (run_fnG (us := []) F hr hb (hx σ) I .nil h)
theorem call_imp {f : Str} {σ : L2.St} {H : Hp} {Q : VK} (h : tO w W (smp (.call f irs)) (evO c (.call f irs)) σ H Q) : tCallS (spC w (c.O (.fn f))) (WE W) (tOs w W (smps irs) (evArgs c irs (c.rb (.fn f)))) σ H Q := by
  obtain ⟨G, en, ts, C, h⟩ := h
  simp only [evO, smp] at h
  refine ⟨G, en, ts, C, ?_⟩
  cases m1 : evArgs c irs (c.rb (.fn f)) en with
  | stuck => rw [m1] at h; exact h.elim
  | exn y e1 => rw [m1] at h; exact h
  | ok os e1 =>
    rw [m1] at h
    exact fun H1 vs C1 a1 _ => callO_sp C1 a1 h
theorem snd_call (g : Gd w W X) {f : Str} {p : Pos} {fa : Addr} (F : FnF w X (c.O (.fn f)) fa) (hg : Gl X f) (hm : X.mg f = some (.ref fa)) (hdb : (f == ("__debug__" : Str)) = false) (hn : ∀ e ∈ es.head?, notStar e = true) (ha : SndA X W w c es irs (c.rb (.fn f)))
    (hpl : ∀ q, (backTo q (starEach es.tail X.env)).any (·.1) = false) (hnil : es = [] → irs = []) : Snd X W w c (.Call (.Name f p) es [] pos) (.call f irs) :=
  snd_plain g (by
    obtain ⟨⟨k, fd, ps, FO, hr, hb⟩, kp⟩ := F
    cases es with
    | nil =>
      refine PE.imp (pe_callS0 FO (hr.mono (Nat.le_succ k)) hg hm kp hb (passAt g.tk) hdb) fun σ H Q h => ?_
      obtain ⟨G, en, ts, C, h⟩ := h
      simp only [evO, smp] at h
      have z := hnil rfl
      subst z
      simp only [evArgs, Out.bind_ok] at h
      exact callO_sp (os := []) (vs := []) C trivial h
    | cons e es =>
      exact PE.imp (pe_callG FO (hr.mono (Nat.le_succ k)) hg hm kp hb (passAt g.tk) ha.pa hdb (star_of (hn e (by simp))) (hpl pos)) fun σ H Q h => call_imp h) fun _ => rfl
end
end Ev
namespace Ev
open PySem PySem.Spec L2
theorem plain_args {env : PySem.Env} {pos : Pos} : ∀ {es : List Expr}, (∀ e ∈ es, notStar e = true) → ((backTo pos (starEach es env)).all fun x => !x.1) = true ∧ (backTo pos (starEach es env)).any (·.1) = false
  | [], _ => ⟨rfl, rfl⟩
  | e :: es, h => by
    have h1 := h e (by simp)
    obtain ⟨i1, i2⟩ := plain_args (env := env) (pos := pos) (es := es) fun e' he => h e' (List.mem_cons_of_mem _ he)
    have : starEach (e :: es) env = (false, eval e env) :: starEach es env := by cases e <;> first | rfl | (simp [notStar] at h1)
    rw [this]
    exact ⟨by simpa [backTo] using i1, by simpa [backTo] using i2⟩
section
variable {X : Cx} {W : WX} {w : Wd} {c : Ctx} {e a b d : Expr} {ir ia ib id : IE} {pos : Pos} {es : List Expr} {irs : List IE} {rb : List Bool}
theorem run_makeS {k : Nat} {C f : Addr} {fd : FuncData} {ps : List Str} {sp : Sp} {E : L2.St → XK} {CX : CXT} {pins : List (Addr × Obj)} {σ : L2.St} {H : Hp} {s : Shared} {Q : VK} {us : List Value} {vs : List V} (M : Mk X.K C f) (F : FnOg X.prog X.w X.K X.mg X.base CX k f fd ps sp) (hr : Rm (k + 1) X.A) (hb : Binds X.K fd ps [])
    (hx : PassesAt CX X σ (E σ)) (I : Inv X pins σ H s) (r : Vals vs us)
    (h : ∀ x dx, H x = none → H dx = none → dx ≠ x → sp (.ref x :: vs) (upd (upd H dx (.own x)) x (.ins C dx [])) (fun v H2 => v = .non ∧ Q (.ref x) H2) (E σ)) :
    wpAny (model X.prog X.w) X.A (call (.ref C) us) (EP X pins σ Q) X.xe s := by
  have hq := h (s.heap.objs.size + 1) s.heap.objs.size (I.hok.fresh (Nat.le_succ _)) (I.hok.fresh (Nat.le_refl _)) (Nat.ne_of_lt (Nat.lt_succ_self _))
  have I2 := Inv.made (C := C) I
  have r2 : Vals (V.ref (s.heap.objs.size + 1) :: vs) (Value.ref (s.heap.objs.size + 1) :: us) := .cons rfl r
  have hl : (Value.ref (s.heap.objs.size + 1) :: us ++ []).length = ps.length := by
    rw [List.append_nil, ← F.len _ _ _ _ hq]
    exact r2.length.symm
  have bb := hb _ (Value.ref (s.heap.objs.size + 1) :: us) I2.kIn hl
  rw [List.append_nil] at bb
  refine wpAny_call (make_map (f := f) I.kIn M.makes M.init (beq_iff_eq.mp M.fn) (codeAny_mono (F.run _ X.stack _ _ ⟨Value.ref (s.heap.objs.size + 1) :: us, []⟩ (Value.ref (s.heap.objs.size + 1) :: us) _ _ (E σ) (hr.make C us [])
    (I2.env0.make C us []) bb r2 hq) fun r s' hq' => ?_))
  cases r with
  | error e => exact hx pins _ _ e s' I2 hq'
  | ok fl =>
    cases fl with
    | ret u =>
      obtain ⟨v, H', I3, rv, ev, q3⟩ := I2.after hq'
      subst ev
      exact ⟨rv, ⟨V.ref (s.heap.objs.size + 1), H', I3, rfl, q3⟩⟩
    | next => exact False.elim hq'
    | brk => exact False.elim hq'
    | cont => exact False.elim hq'
def tMakeS (C : Addr) (sp : Sp) (E : L2.St → XK) (t : TA) : TE := fun σ H Q => t σ H fun vs H1 => ∀ x dx, H1 x = none → H1 dx = none → dx ≠ x →
  sp (.ref x :: vs) (upd (upd H1 dx (.own x)) x (.ins C dx [])) (fun v H2 => v = .non ∧ Q (.ref x) H2) (E σ)
theorem pe_makeS {k : Nat} {C f : Addr} {fd : FuncData} {ps : List Str} {sp : Sp} {E : L2.St → XK} {CX : CXT} {x : Str} {p : Pos} {t : TA} (M : Mk X.K C f) (F : FnOg X.prog X.w X.K X.mg X.base CX k f fd ps sp) (hr : Rm (k + 1) X.A) (hg : Gl X x) (hm : X.mg x = some (.ref C)) (hb : Binds X.K fd ps []) (hx : ∀ σ, PassesAt CX X σ (E σ))
    (ha : PA X (e :: es) t) (hdb : (x == ("__debug__" : Str)) = false) (he : starEach (e :: es) X.env = (false, eval e X.env) :: starEach es X.env) (hpl : (backTo pos (starEach es X.env)).any (·.1) = false) :
    PE X (.Call (.Name x p) (e :: es) [] pos) (tMakeS C sp E t) := by
  refine ⟨fun pins s σ H Q I h => ?_⟩
  refine wpAny_Call_Name_kw (ld_glob I hg hm ?_ hdb)
  refine PySem.W.callWith_K (h₀ := X.base) I.ok.mod.kin M.kp (thn (ha.run pos pins s σ H _ I h) fun us s1 ⟨vs, H1, I1, r, q⟩ => ⟨I1.kIn, ?_⟩) he hpl
  exact run_makeS M F hr hb (hx σ) I1 r q
theorem pe_makeS0 {k : Nat} {C f : Addr} {fd : FuncData} {ps : List Str} {sp : Sp} {E : L2.St → XK} {CX : CXT} {x : Str} {p : Pos} (M : Mk X.K C f) (F : FnOg X.prog X.w X.K X.mg X.base CX k f fd ps sp) (hr : Rm (k + 1) X.A) (hg : Gl X x) (hm : X.mg x = some (.ref C)) (hb : Binds X.K fd ps []) (hx : ∀ σ, PassesAt CX X σ (E σ))
    (hdb : (x == ("__debug__" : Str)) = false) : PE X (.Call (.Name x p) [] [] pos) (tMakeS C sp E tNil) := by
  refine ⟨fun pins s σ H Q I h => ?_⟩
  refine wpAny_Call_Name_kw (ld_glob I hg hm ?_ hdb)
  exact PySem.W.callWith_K0 I.kIn M.kp (run_makeS (us := []) M F hr hb (hx σ) I .nil h)
theorem makeO_sp {k : Str} {C : Addr} {σ : L2.St} {H H1 : Hp} {e1 : Env} {G : Ground} {ts : List (V × Pl)} {os : List Opnd} {vs : List V} {Q : VK} (hC : w.cf k = some C) (C1 : CfgE w G σ H1 e1 (tsOfs os vs ts)) (ha : HasA w σ H1 os vs) (h : RO w G W false σ H ts Q (makeO c k os e1)) :
    ∀ x dx, H1 x = none → H1 dx = none → dx ≠ x → spC w (c.O (.me k "__init__")) (.ref x :: vs) (upd (upd H1 dx (.own x)) x (.ins C dx [])) (fun v H2 => v = .non ∧ Q (.ref x) H2) (WE W σ) := by
  intro x dx hx hdx hne
  unfold makeO at h
  cases t : takeAll os e1 with
  | none => rw [t] at h; exact h.elim
  | some z =>
    obtain ⟨as, e2⟩ := z
    rw [t] at h
    simp only at h
    obtain ⟨⟨F, lab, C2⟩, P, hl⟩ := takeAll_ok t ha (CfgE.perm tsOfs_perm C1)
    by_cases hh : holesOk e2 as = true
    · rw [if_pos hh] at h
      have C3 := C2.newN (o := .own x) hdx
      have hx2 : (upd H1 dx (.own x)) x = none := by rw [upd_ne hne.symm]; exact hx
      have eH : Same H1 (upd (upd H1 dx (.own x)) x (.ins C dx [])) := (same_new hdx).trans (same_new hx2)
      have C4 : CfgE w G σ (upd (upd H1 dx (.own x)) x (.ins C dx [])) e2 ((.ref x, .ins k []) :: (vs.zip (as.map Arg.pl) ++ ts)) := C3.newO hx2 (pl := .ins k []) (by
        simp only [Rep]
        exact ⟨x, C, dx, [], rfl, rfl, hC, upd_same, fun _ _ => False, fun _ _ z => z.elim, fun _ _ _ z => z.elim, by simp only [RepF]⟩)
      obtain ⟨F4, lab4, C4⟩ := C4
      have C4 : Cfg w G F4 lab4 σ (upd (upd H1 dx (.own x)) x (.ins C dx [])) e2 (((.ref x, .ins k []) :: vs.zip (as.map Arg.pl)) ++ ts) := C4
      obtain ⟨G', C5, back⟩ := C4.call
      refine ⟨G', .ins k [] :: as.map Arg.pl, C5, by rw [List.length_cons, List.length_cons, List.length_map, hl], ?_⟩
      have P' : PutA w σ (upd (upd H1 dx (.own x)) x (.ins C dx [])) as vs := by
        have : ∀ {as : List Arg} {vs : List V}, PutA w σ H1 as vs → PutA w σ (upd (upd H1 dx (.own x)) x (.ins C dx [])) as vs := by
          intro as
          induction as with
          | nil => intro vs h; cases vs <;> exact h
          | cons a as ih =>
            intro vs h
            cases vs with
            | nil => cases a <;> exact h
            | cons v vs => cases a with
              | put i r p => exact ⟨h.1.mono eH, ih h.2⟩
              | fix p => exact ih (show PutA w σ H1 as vs from h)
        exact this P
      cases o : c.O (.me k "__init__") (.ins k [] :: as.map Arg.pl) with
      | stuck => rw [o] at h; exact h
      | ok r ps =>
        rw [o] at h
        split at h
        · rename_i p ps' heq
          cases heq
          cases pa : putAll as ps' e2 with
          | none => rw [pa] at h; exact h.elim
          | some e3 =>
            rw [pa] at h
            intro v H' ⟨F', lab', C6⟩
            obtain ⟨st, F2, lab2, _, C7⟩ := back H' _ F' lab' C6
            have dv := C7.temps.1
            simp only [Rep] at dv
            cases dv
            refine ⟨rfl, ?_⟩
            have C8 : CfgE w G σ H' e2 (vs.zip ps' ++ (V.ref x, p) :: ts) := CfgE.perm List.perm_middle.symm ⟨F2, lab2, C7.drop⟩
            exact h H' _ (putAll_ok pa (PutA.stays st hh P') C8) has_self fun z => by cases z
        · rename_i heq; cases heq
        · exact h.elim
      | exn y ps =>
        rw [o] at h
        cases ps with
        | nil => exact h.elim
        | cons p ps' =>
          simp only at h
          cases pa : putAll as ps' e2 with
          | none => rw [pa] at h; exact h.elim
          | some e3 =>
            rw [pa] at h
            intro cls d H' ⟨F', lab', C6, r⟩
            obtain ⟨st, F2, lab2, eF, C7⟩ := back H' _ F' lab' C6
            exact h cls d H' (putAll_okX pa (PutA.stays st hh P') ⟨F2, lab2, C7.drop, r.mono eF⟩)
    · rw [if_neg hh] at h; exact h.elim
theorem make_imp {k : Str} {C : Addr} (hC : w.cf k = some C) {σ : L2.St} {H : Hp} {Q : VK} (h : tO w W (smp (.make k irs)) (evO c (.make k irs)) σ H Q) : tMakeS C (spC w (c.O (.me k "__init__"))) (WE W) (tOs w W (smps irs) (evArgs c irs ((c.rb (.me k "__init__")).drop 1))) σ H Q := by
  obtain ⟨G, en, ts, C0, h⟩ := h
  simp only [evO, smp] at h
  refine ⟨G, en, ts, C0, ?_⟩
  cases m1 : evArgs c irs ((c.rb (.me k "__init__")).drop 1) en with
  | stuck => rw [m1] at h; exact h.elim
  | exn y e1 => rw [m1] at h; exact h
  | ok os e1 =>
    rw [m1] at h
    exact fun H1 vs C1 a1 _ => makeO_sp hC C1 a1 h
theorem snd_make (g : Gd w W X) {k : Str} {p : Pos} {C fa : Addr} (hC : w.cf k = some C) (M : Mk X.K C fa) (F : FnF w X (c.O (.me k "__init__")) fa) (hg : Gl X k) (hm : X.mg k = some (.ref C)) (hdb : (k == ("__debug__" : Str)) = false) (hn : ∀ e ∈ es, notStar e = true)
    (ha : SndA X W w c es irs ((c.rb (.me k "__init__")).drop 1)) (hnil : es = [] → irs = []) : Snd X W w c (.Call (.Name k p) es [] pos) (.make k irs) :=
  snd_plain g (by
    obtain ⟨⟨j, fd, ps, FO, hr, hb⟩, kp⟩ := F
    cases es with
    | nil =>
      refine PE.imp (pe_makeS0 M FO hr hg hm hb (passAt g.tk) hdb) fun σ H Q h => ?_
      obtain ⟨G, en, ts, C0, h⟩ := h
      simp only [evO, smp] at h
      have z := hnil rfl
      subst z
      simp only [evArgs, Out.bind_ok] at h
      exact makeO_sp (os := []) (vs := []) hC C0 trivial h
    | cons e es =>
      exact PE.imp (pe_makeS M FO hr hg hm hb (passAt g.tk) ha.pa hdb (star_of (hn e (by simp))) (plain_args fun e' h => hn e' (List.mem_cons_of_mem _ h)).2) fun σ H Q h => make_imp hC h) fun _ => rfl
/-- the methods: where the def of a class stands -/
def MethF (w : Wd) (X : Cx) (c : Ctx) (m : Str) : Prop := ∀ k C, w.cf k = some C → c.has (.me k m) = true → ∃ fm, Meth X.K C m fm ∧ FnF w X (c.O (.me k m)) fm
def tMethS (w : Wd) (X : Cx) (c : Ctx) (m : Str) (E : L2.St → XK) (ta : TE) (t : TA) : TE := fun σ H Q => ta σ H fun x H1 => ∃ a C dx fs k fm, x = .ref a ∧ H1 a = some (.ins C dx fs) ∧ Cls X.K C ∧ Meth X.K C m fm ∧ FnF w X (c.O (.me k m)) fm ∧ fs.lookup m = none ∧
  t σ H1 fun vs H2 => spC w (c.O (.me k m)) (x :: vs) H2 Q (E σ)
theorem pe_methS' {o : Expr} {m : Str} {apos : Pos} {E : L2.St → XK} {ta : TE} {t : TA} (he : PE X o ta) (hn : ∀ e ∈ es, notStar e = true) (hlen : es.length < 30)
    (hb : attributeBase o m X.env (eval o X.env) = eval o X.env) (hl : (apos.endLine == pos.line) = true)
    (hcall : ∀ (pins : List (Addr × Obj)) (s1 : Shared) (σ : L2.St) (H1 : Hp) (Q : VK) (I1 : Inv X pins σ H1 s1) (a : Addr) (k : Str) (fm : Addr) {j : Nat} {fd : FuncData} {ps : List Str} (FO : FnOg X.prog X.w X.K X.mg X.base (L2.CX X.prog X.w) j fm fd ps (spC w (c.O (.me k m)))) (hr : Rm (j + 1) X.A) (hb' : Binds X.K fd ps []) (kp : PySem.W.keepIn X.K (.ref fm) = true) (kp2 : PySem.W.keepIn X.K (.ref fm) = true)
      (q : t σ H1 fun vs H2 => spC w (c.O (.me k m)) (.ref a :: vs) H2 Q (E σ)), wpAny (model X.prog X.w) X.A (callWith pos (.ref fm) [.ref a] (backTo pos (starEach es X.env)) (backToKw pos (keywordEach [] X.env))) (EP X pins σ Q) X.xe s1) :
    PE X (.Call (.Attribute o m apos) es [] pos) (tMethS w X c m E ta t) := by
  have ht : eval (.Call (.Attribute o m apos) es [] pos) X.env = (do
      let ov ← eval o X.env
      standAt apos.atName
      let (f, first) ← holding [ov] (getMethod ov m (do return (← importBound o X.env).getD true))
      callWith pos f first (backTo pos (starEach es X.env)) (backToKw pos (keywordEach [] X.env))) := by
    have hf : methodCallForm (es.length + ([] : List Keyword).length) (backTo pos (starEach es X.env)) (backToKw pos (keywordEach [] X.env)) = true := by
      unfold methodCallForm
      have := (plain_args (env := X.env) (pos := pos) hn).1
      rw [this]
      simp [backToKw, keywordEach, hlen]
    show (do
      let ov ← attributeBase o m X.env (eval o X.env)
      standAt apos.atName
      methodCall o m apos pos X.env ov (es.length + ([] : List Keyword).length) (backTo pos (starEach es X.env)) (backToKw pos (keywordEach [] X.env))) = _
    rw [hb]
    unfold methodCall calleeOf methodCallPos
    rw [hf]
    simp only [hl, if_true, Bool.not_true, Bool.false_or, pure_bind]
  refine ⟨fun pins s σ H Q I h => ?_⟩
  refine PySem.W.methodCall_KW (thn (he.run pins s σ H _ I h) fun u s1 ⟨x, H1, I1, rx, a, C, dx, fs, k, fm, ex, ea, cl, hm, ⟨⟨j, fd, ps, FO, hr, hb'⟩, kp⟩, l, q⟩ => ?_) ht
  subst ex
  obtain rfl : u = Value.ref a := rx
  refine getmeth_ok I1 ea cl hm l ?_
  exact hcall pins s1 σ H1 Q I1 a k fm FO hr hb' kp hm.kp q
theorem pe_methA {o : Expr} {m : Str} {apos : Pos} {E : L2.St → XK} {ta : TE} {t : TA} (he : PE X o ta) (hx : ∀ σ, PassesAt (L2.CX X.prog X.w) X σ (E σ)) (ha : PA X (e :: es) t) (hn : ∀ e' ∈ e :: es, notStar e' = true) (hlen : (e :: es).length < 30)
    (hb : attributeBase o m X.env (eval o X.env) = eval o X.env) (hl : (apos.endLine == pos.line) = true) :
    PE X (.Call (.Attribute o m apos) (e :: es) [] pos) (tMethS w X c m E ta t) :=
  pe_methS' he hn hlen hb hl fun pins s1 σ H1 Q I1 a k fm {j fd ps} FO hr hb' kp kp2 q => by
    refine PySem.W.callWith_K (first := [.ref a]) (h₀ := X.base) I1.ok.mod.kin kp2 (thn (ha.run pos pins s1 σ H1 _ I1 q) fun us s2 ⟨vs, H2, I2, r, q2⟩ => ⟨I2.kIn, ?_⟩) (star_of (hn e (by simp))) (plain_args fun e' h => hn e' (List.mem_cons_of_mem _ h)).2
    exact run_fnG (us := .ref a :: us) (vs := .ref a :: vs) FO (hr.mono (Nat.le_succ j)) hb' (hx σ) I2 (.cons rfl r) q2
theorem pe_meth0A {o : Expr} {m : Str} {apos : Pos} {E : L2.St → XK} {ta : TE} (he : PE X o ta) (hx : ∀ σ, PassesAt (L2.CX X.prog X.w) X σ (E σ))
    (hb : attributeBase o m X.env (eval o X.env) = eval o X.env) (hl : (apos.endLine == pos.line) = true) :
    PE X (.Call (.Attribute o m apos) [] [] pos) (tMethS w X c m E ta tNil) :=
  pe_methS' he (fun _ h => by cases h) (by decide) hb hl fun pins s1 σ H1 Q I1 a k fm {j fd ps} FO hr hb' kp kp2 q =>
    PySem.W.callWith_K0 (first := [.ref a]) I1.kIn kp2 (run_fnG (us := [.ref a]) (vs := [.ref a]) FO (hr.mono (Nat.le_succ j)) hb' (hx σ) I1 (.cons rfl .nil) q)
/-- the receiver's class and its attributes -/
theorem cls_of {G : Ground} {F H : Hp} {lab : Addr → Option Lab} {σ : L2.St} {ts : List (V × Pl)} {en : Env} {o : Opnd} {v : V} {m k : Str} (C : Cfg w G F lab σ H en ts) (ha : Has w σ H ts o v) (hk : clsOf m (placeOf en o) = some k) :
    ∃ a C' dx fs, v = .ref a ∧ H a = some (.ins C' dx fs) ∧ w.cf k = some C' ∧ fs.lookup m = none := by
  cases pl : placeOf en o with
  | none => rw [pl] at hk; simp [clsOf] at hk
  | some p =>
    rw [pl] at hk
    have hp : p ≠ .hole := fun z => by subst z; simp [clsOf] at hk
    obtain ⟨A, R⟩ := C.rep ha pl hp
    cases p with
    | ins k' fs =>
      simp only [clsOf] at hk
      split at hk
      · cases hk
      · rename_i hn
        cases hk
        simp only [Rep] at R
        obtain ⟨a, C', dx, fvs, rfl, _, hc, h1, B, _, _, RF⟩ := R
        refine ⟨a, C', dx, fvs, rfl, h1, hc, ?_⟩
        have : ∀ {fs : List (Str × Pl)} {fvs : List (Str × V)} {n : Nat}, RepF w F H fs fvs B n → ¬ (fs.lookup m).isSome = true → fvs.lookup m = none := by
          intro fs
          induction fs with
          | nil => intro fvs n h _; simp only [RepF] at h; subst h; rfl
          | cons t fs ih =>
            intro fvs n h hn
            obtain ⟨f, p⟩ := t
            simp only [RepF] at h
            obtain ⟨v, r, rfl, _, h2⟩ := h
            simp only [List.lookup] at hn ⊢
            split at hn
            · simp at hn
            · exact ih h2 hn
        exact this RF hn
    | val x =>
      simp only [Rep] at R
      cases R with
      | ins hc hF df =>
        rename_i a C' dx k' fvs fs
        simp only [clsOf] at hk
        split at hk
        · cases hk
        · rename_i hn
          cases hk
          refine ⟨a, C', dx, fvs, rfl, C.fH _ _ hF, hc, ?_⟩
          have : ∀ {fs : List (Str × Val)} {fvs : List (Str × V)}, DenF w F fvs fs → ¬ (fs.lookup m).isSome = true → fvs.lookup m = none := by
            intro fs
            induction fs with
            | nil => intro fvs h _; cases h; rfl
            | cons t fs ih =>
              intro fvs h hn
              cases h with
              | cons d r =>
                simp only [List.lookup] at hn ⊢
                split at hn
                · simp at hn
                · exact ih r hn
          exact this df hn
      | _ => simp [clsOf] at hk
    | _ => simp [clsOf] at hk
theorem meth_imp (g : Gd w W X) {m : Str} (hM : MethF w X c m) {σ : L2.St} {H : Hp} {Q : VK} (h : tO w W (smp (.meth ia m irs)) (evO c (.meth ia m irs)) σ H Q) {t : TA}
    (ht : ∀ (rbk : List Bool) (σ : L2.St) (H : Hp) (Q : List V → Hp → Prop), tOs w W (smps irs) (evArgs c irs rbk) σ H Q → t σ H Q) : tMethS w X c m (WE W) (tO w W (smp ia) (evO c ia)) t σ H Q := by
  obtain ⟨G, en, ts, C0, h⟩ := h
  simp only [evO, smp] at h
  refine ⟨G, en, ts, C0, ?_⟩
  cases m1 : evO c ia en with
  | stuck => rw [m1] at h; exact h.elim
  | exn y e1 => rw [m1] at h; exact h
  | ok o e1 =>
    rw [m1] at h
    simp only [Out.bind_ok] at h
    intro H1 v1 ⟨F, lab, C1⟩ a1 s1
    by_cases hp : (plain o || smps irs) = true
    · rw [if_pos hp] at h
      cases hk : clsOf m (placeOf e1 o) with
      | none => rw [hk] at h; exact h.elim
      | some k =>
        rw [hk] at h
        simp only at h
        obtain ⟨a, C', dx, fs, rfl, h1, hc, hl⟩ := cls_of C1 a1 hk
        obtain ⟨cl, _⟩ := g.cls _ _ hc
        by_cases hex : c.has (.me k m) = true
        · rw [if_pos hex] at h
          obtain ⟨fm, M, FF⟩ := hM k C' hc hex
          refine ⟨a, C', dx, fs, k, fm, rfl, h1, by rw [g.K]; exact cl, M, FF, hl, ht ((c.rb (.me k m)).drop 1) _ _ _ ⟨G, e1, _, ⟨F, lab, C1⟩, ?_⟩⟩
          cases m2 : evArgs c irs ((c.rb (.me k m)).drop 1) e1 with
          | stuck => rw [m2] at h; exact h.elim
          | exn y e2 => rw [m2] at h; exact fun cls d H' c => h cls d H' c.dropO
          | ok os e2 =>
            rw [m2] at h
            simp only [Out.bind_ok] at h
            intro H2 vs C2 a2 s2
            exact callO_sp (os := o :: os) (vs := .ref a :: vs) (ts := ts) C2 (HasA.cons a1 hp s2 a2) h
        · rw [if_neg hex] at h; exact h.elim
    · rw [if_neg hp] at h; exact h.elim
theorem snd_meth (g : Gd w W X) {o : Expr} {m : Str} {apos : Pos} (hM : MethF w X c m) (ho : Snd X W w c o ia) (hn : ∀ e ∈ es, notStar e = true) (hlen : es.length < 30) (hb : attributeBase o m X.env (eval o X.env) = eval o X.env) (hl : (apos.endLine == pos.line) = true)
    (ha : ∀ rbk, SndA X W w c es irs rbk) (hnil : es = [] → irs = []) : Snd X W w c (.Call (.Attribute o m apos) es [] pos) (.meth ia m irs) :=
  snd_plain g (by
    cases es with
    | nil =>
      have z := hnil rfl
      subst z
      exact PE.imp (pe_meth0A (w := w) (c := c) ho.pe (passAt g.tk) hb hl) fun σ H Q h => meth_imp g hM h fun rbk σ H Q q => by
        obtain ⟨G, en, ts, C, q⟩ := q
        simp only [evArgs] at q
        exact q H [] C trivial fun _ => Same.refl _
    | cons e es =>
      exact PE.imp (pe_methA (w := w) (c := c) (t := fun σ H Q => ∃ rbk, tOs w W (smps irs) (evArgs c irs rbk) σ H Q) ho.pe (passAt g.tk) ⟨fun pos pins s σ H Q I ⟨rbk, q⟩ => (ha rbk).pa.run pos pins s σ H Q I q⟩ hn hlen hb hl) fun σ H Q h => meth_imp g hM h fun rbk σ H Q q => ⟨rbk, q⟩) fun _ => rfl
end
end Ev
namespace Ev
open PySem PySem.Spec L2
theorem PS.imp {X : Cx} {e : Stmt} {t t' : TS} (h : PS X e t) (k : ∀ D σ H, t' D σ H → t D σ H) : PS X e t' := ⟨fun pins s σ H D I q => h.run pins s σ H D I (k _ _ _ q)⟩
theorem PSs.imp {X : Cx} {e : List Stmt} {t t' : TS} (h : PSs X e t) (k : ∀ D σ H, t' D σ H → t D σ H) : PSs X e t' := ⟨fun pins s σ H D I q => h.run pins s σ H D I (k _ _ _ q)⟩
/-- the slots that are not bound anew stay -/
def PinOk (pin : Nat → Bool) (G : Ground) : Prop := ∀ i, pin i = false → G.keep i = none
def RS (w : Wd) (G : Ground) (W : WX) (ts : List (V × Pl)) (D : Ends) : SOut → Prop
  | .next e => ∀ σ' H', CfgE w G σ' H' e ts → D.nx σ' H'
  | .brk e => ∀ σ' H', CfgE w G σ' H' e ts → D.bk σ' H'
  | .cnt e => ∀ σ' H', CfgE w G σ' H' e ts → D.ct σ' H'
  | .ret p e => ∀ v σ' H', CfgE w G σ' H' e ((v, p) :: ts) → D.rt v H'
  | .exn x e => ∀ cls d σ' H', CfgX w G σ' H' e ts x cls d → W cls d σ' H'
  | .stuck => False
def tS (w : Wd) (W : WX) (pin : Nat → Bool) (m : Env → SOut) : TS := fun D σ H => ∃ G e ts, CfgE w G σ H e ts ∧ PinOk pin G ∧ RS w G W ts D (m e)
structure SndS (X : Cx) (W : WX) (w : Wd) (c : Ctx) (st : Stmt) (ir : IS) : Prop where
  ps : PS X st (tS w W c.pin (evS c ir))
structure SndSs (X : Cx) (W : WX) (w : Wd) (c : Ctx) (sts : List Stmt) (irs : List IS) : Prop where
  pss : PSs X sts (tS w W c.pin (evSs c irs))
def slotsT : Tgt → List Nat
  | .nm i => [i]
  | .tp is => is
/-- σ2 is σ but for these slots -/
def SetOn (l : List Nat) (σ σ2 : L2.St) : Prop := σ2.length = σ.length ∧ ∀ j, j ∉ l → σ2[j]? = σ[j]?
def gNames : List Nat → TGs
  | [] => gNil
  | i :: is => gCons (gName i) (gNames is)
/-- the target's reading -/
def gT (K : PySem.W.Frag) : Tgt → TG
  | .nm i => gName i
  | .tp is => gTup K is.length (gNames is)
structure SndT (w : Wd) (X : Cx) (tg : Expr) (t : Tgt) : Prop where
  pg : PG X tg (gT w.K t)
section
variable {X : Cx} {W : WX} {w : Wd} {c : Ctx} {e a b d : Expr} {ir ia ib id : IE} {pos pos' : Pos} {es : List Expr} {irs : List IE} {pin : Nat → Bool}
theorem set_of {G : Ground} {σ : L2.St} {H : Hp} {e e1 : Env} {x : V} {p : Pl} {ts : List (V × Pl)} {i : Nat} (hp : PinOk pin G) (C : CfgE w G σ H e ((x, p) :: ts)) (h : setT pin i p e = some e1) : CfgE w G (σ.set i (some x)) H e1 ts := by
  unfold setT at h
  split at h
  · rename_i hc
    simp only [Bool.and_eq_true, Bool.not_eq_true', decide_eq_true_eq] at hc
    cases h
    obtain ⟨F, lab, C⟩ := C
    exact C.set (by rw [← C.len]; exact hc.2) (hp i hc.1)
  · cases h
theorem setOn_set {σ : L2.St} {i : Nat} {x : V} : SetOn [i] σ (σ.set i (some x)) := ⟨by rw [List.length_set], fun j hj => by rw [List.getElem?_set_ne (fun z => hj (by simp [z]))]⟩
theorem SetOn.trans {l1 l2 : List Nat} {σ σ1 σ2 : L2.St} (h1 : SetOn l1 σ σ1) (h2 : SetOn l2 σ1 σ2) : SetOn (l1 ++ l2) σ σ2 := ⟨h2.1.trans h1.1, fun j hj => by
  rw [List.mem_append, not_or] at hj
  exact (h2.2 j hj.2).trans (h1.2 j hj.1)⟩
theorem sndt_nm {i : Nat} {x : Str} (hN : X.N.Nodup) (hi : X.N[i]? = some x) (hx : Loc X.env.scope x) (hf : X.fn x = true ∨ X.env.scope.names.lookup x = some .local) : SndT w X (.Name x pos) (.nm i) :=
  ⟨pg_name hN hi hx hf⟩
/-- the names of a tuple target -/
def nameAt (X : Cx) (e : Expr) (i : Nat) : Prop := ∃ x pos, e = .Name x pos ∧ X.N[i]? = some x ∧ Loc X.env.scope x ∧ (X.fn x = true ∨ X.env.scope.names.lookup x = some .local)
inductive NamesAt (X : Cx) : List Expr → List Nat → Prop
  | nil : NamesAt X [] []
  | cons {e : Expr} {es : List Expr} {i : Nat} {is : List Nat} : nameAt X e i → NamesAt X es is → NamesAt X (e :: es) (i :: is)
theorem dens_zip {F : Hp} {lab : Addr → Option Lab} {G : Ground} {σ : L2.St} {H : Hp} {e : Env} {ts : List (V × Pl)} : ∀ {vs : List V} {xs : List Val}, Dens w F vs xs → Cfg w G F lab σ H e ts → Cfg w G F lab σ H e (vs.zip (xs.map .val) ++ ts)
  | _, _, .nil, C => C
  | _, _, .cons a r, C => (dens_zip r C).push a
theorem setTs_length : ∀ {is : List Nat} {ps : List Pl} {e e1 : Env}, setTs pin is ps e = some e1 → is.length = ps.length
  | [], [], _, _, _ => rfl
  | [], _ :: _, _, _, h => by simp [setTs] at h
  | _ :: _, [], _, _, h => by simp [setTs] at h
  | i :: is, p :: ps, e, e1, h => by
    simp only [setTs] at h
    cases h1 : setT pin i p e with
    | none => rw [h1] at h; cases h
    | some e2 => rw [h1] at h; rw [List.length_cons, List.length_cons, setTs_length (by simpa using h)]
theorem star_names {es : List Expr} {is : List Nat} (h : NamesAt X es is) : (assignEach es X.env).findIdx? (·.1) = none ∧ (assignEach es X.env).length = is.length := by
  induction h with
  | nil => exact ⟨rfl, rfl⟩
  | cons a _ ih =>
    obtain ⟨x, pos, rfl, _⟩ := a
    exact ⟨by simpa [assignEach, List.findIdx?_cons] using ih.1, by simpa [assignEach] using ih.2⟩
theorem names_pgs (hN : X.N.Nodup) {is : List Nat} (h : NamesAt X es is) : PGs X es (gNames is) := by
  induction h with
  | nil => exact pgs_nil
  | cons a r ih =>
    obtain ⟨x, pos, rfl, hi, hx, hf⟩ := a
    exact pgs_cons (pg_name hN hi hx hf) ih
theorem sndt_tp (hK : X.K = w.K) (hN : X.N.Nodup) (hc : X.calm = true) {is : List Nat} {k : Nat} (h : NamesAt X es is) : SndT w X (.Tuple es k pos) (.tp is) := by
  have hst := star_names h
  refine ⟨?_⟩
  show PG X _ (gTup w.K is.length (gNames is))
  rw [← hK]
  exact pg_tup hc (names_pgs hN h) hst.2 hst.1
theorem gNames_sem {G : Ground} (hp : PinOk pin G) {H : Hp} : ∀ {is : List Nat} {σ : L2.St} {e e1 : Env} {xs : List V} {ps : List Pl} {ts : List (V × Pl)} {Q : L2.St → Hp → Prop},
      CfgE w G σ H e (xs.zip ps ++ ts) → xs.length = ps.length → setTs pin is ps e = some e1 → (∀ σ2, SetOn is σ σ2 → CfgE w G σ2 H e1 ts → Q σ2 H) → gNames is xs σ H Q
  | [], σ, e, e1, xs, ps, ts, Q, C, hl, h, k => by
    cases ps with
    | nil =>
      simp only [setTs, Option.some.injEq] at h
      subst h
      have : xs = [] := List.eq_nil_of_length_eq_zero (by simpa using hl)
      subst this
      exact ⟨rfl, k σ ⟨rfl, fun _ _ => rfl⟩ (by simpa using C)⟩
    | cons p ps => simp [setTs] at h
  | i :: is, σ, e, e1, xs, ps, ts, Q, C, hl, h, k => by
    cases ps with
    | nil => simp [setTs] at h
    | cons p ps =>
      cases xs with
      | nil => simp at hl
      | cons y xs =>
        simp only [setTs] at h
        cases h1 : setT pin i p e with
        | none => rw [h1] at h; cases h
        | some e2 =>
          rw [h1] at h
          simp only [Option.bind_some] at h
          have C1 := set_of hp (ts := xs.zip ps ++ ts) (by simpa using C) h1
          exact ⟨y, xs, rfl, gNames_sem hp C1 (by simpa using hl) h fun σ2 s2 C2 => k σ2 (setOn_set.trans s2) C2⟩
theorem gT_sem {t : Tgt} {σ : L2.St} {H : Hp} {e e1 : Env} {x : V} {v : Val} {ts : List (V × Pl)} {G : Ground} {Q : L2.St → Hp → Prop} (hp : PinOk pin G) (C : CfgE w G σ H e ((x, .val v) :: ts)) (ha : asgT pin t v e = some e1)
    (k : ∀ σ2, SetOn (slotsT t) σ σ2 → CfgE w G σ2 H e1 ts → Q σ2 H) : gT w.K t x σ H Q := by
  cases t with
  | nm i => exact k _ setOn_set (set_of hp C ha)
  | tp is =>
    simp only [asgT] at ha
    cases v with
    | tup xs =>
      simp only [itemsOf, Option.bind_some] at ha
      obtain ⟨F, lab, C⟩ := C
      have dv := C.temps.1
      simp only [Rep] at dv
      cases dv with
      | tup h1 dd =>
        rename_i a vs
        have hl := setTs_length ha
        rw [List.length_map] at hl
        refine ⟨a, vs, rfl, ?_, by rw [dd.length, hl], ?_⟩
        · exact sqT_mono C.fH h1
        · exact gNames_sem hp (ps := xs.map .val) ⟨F, lab, dens_zip dd C.drop⟩ (by rw [List.length_map, dd.length]) ha k
    | _ => simp [itemsOf] at ha
end
end Ev
namespace Ev
open PySem PySem.Spec L2
section
variable {w : Wd} {G : Ground} {F : Hp} {lab : Addr → Option Lab} {σ : L2.St} {H : Hp} {e : Env} {ts : List (V × Pl)} {i : Nat} {r : List Step} {q q' : Pl} {u : V}
theorem getP_val : ∀ {r : List Step} {x : Val} {q : Pl}, getP (.val x) r = some q → ∃ y, q = .val y
  | [], x, q, h => by simp only [getP, Option.some.injEq] at h; exact ⟨x, h.symm⟩
  | .f n :: r, .ins c fs, q, h => by
    simp only [getP] at h
    cases l : fs.lookup n with
    | none => rw [l] at h; simp at h
    | some y => rw [l] at h; exact getP_val (by simpa using h)
  | .f n :: r, .non, q, h => by simp [getP] at h
  | .f n :: r, .bl _, q, h => by simp [getP] at h
  | .f n :: r, .int _, q, h => by simp [getP] at h
  | .f n :: r, .str _, q, h => by simp [getP] at h
  | .f n :: r, .tup _, q, h => by simp [getP] at h
  | .f n :: r, .lst _, q, h => by simp [getP] at h
  | .f n :: r, .fzl _, q, h => by simp [getP] at h
  | .f n :: r, .dct _, q, h => by simp [getP] at h
  | .f n :: r, .gl _, q, h => by simp [getP] at h
  | .i n :: r, x, q, h => by cases x <;> simp [getP] at h
  | .k n :: r, x, q, h => by cases x <;> simp [getP] at h
theorem lookup_put {α : Type} {n : Str} {v : α} : ∀ {fs : List (Str × α)}, (putF n v fs).lookup n = some v
  | [] => by simp [putF, List.lookup]
  | (m, x) :: fs => by
    by_cases h : m = n
    · subst h; simp [putF, List.lookup]
    · have hb : (n == m) = false := by simpa using (fun z => h z.symm)
      simp only [putF, if_neg h, List.lookup, hb]
      exact lookup_put
theorem getP_setP : ∀ {r : List Step} {p : Pl} {q q' : Pl}, getP p r = some q → (∀ y, q ≠ .val y) → getP (setP p r q') r = some q'
  | [], p, q, q', _, _ => by simp [setP, getP]
  | .f n :: r, .ins c fs, q, q', h, hv => by
    simp only [getP] at h
    cases l : fs.lookup n with
    | none => rw [l] at h; simp at h
    | some p1 =>
      rw [l] at h
      simp only [setP, l, getP, lookup_put, Option.bind_some]
      exact getP_setP (by simpa using h) hv
  | .f n :: r, .val x, q, q', h, hv => by
    obtain ⟨y, hy⟩ := getP_val h
    exact absurd hy (hv y)
  | .i n :: r, .lstP ps, q, q', h, hv => by
    simp only [getP] at h
    cases l : ps[n]? with
    | none => rw [l] at h; simp at h
    | some p1 =>
      rw [l] at h
      have hn : n < ps.length := (List.getElem?_eq_some_iff.mp l).1
      simp only [setP, l, getP, List.getElem?_set_self hn, Option.bind_some]
      exact getP_setP (by simpa using h) hv
  | .f n :: r, .hole, _, _, h, _ => by simp [getP] at h
  | .f n :: r, .lst _, _, _, h, _ => by simp [getP] at h
  | .f n :: r, .lstP _, _, _, h, _ => by simp [getP] at h
  | .f n :: r, .dct _, _, _, h, _ => by simp [getP] at h
  | .i n :: r, .hole, _, _, h, _ => by simp [getP] at h
  | .i n :: r, .val _, _, _, h, _ => by simp [getP] at h
  | .i n :: r, .lst _, _, _, h, _ => by simp [getP] at h
  | .i n :: r, .dct _, _, _, h, _ => by simp [getP] at h
  | .i n :: r, .ins _ _, _, _, h, _ => by simp [getP] at h
  | .k n :: r, .rcd fs, q, q', h, hv => by
    simp only [getP] at h
    cases l : fs.lookup n with
    | none => rw [l] at h; simp at h
    | some p1 =>
      rw [l] at h
      simp only [setP, l, getP, lookup_put, Option.bind_some]
      exact getP_setP (by simpa using h) hv
  | .i n :: r, .rcd _, _, _, h, _ => by simp [getP] at h
  | .f n :: r, .rcd _, _, _, h, _ => by simp [getP] at h
  | .k n :: r, .hole, _, _, h, _ => by simp [getP] at h
  | .k n :: r, .val _, _, _, h, _ => by simp [getP] at h
  | .k n :: r, .lst _, _, _, h, _ => by simp [getP] at h
  | .k n :: r, .lstP _, _, _, h, _ => by simp [getP] at h
  | .k n :: r, .dct _, _, _, h, _ => by simp [getP] at h
  | .k n :: r, .ins _ _, _, _, h, _ => by simp [getP] at h
theorem getE_setE (h : getE e i r = some q) (hv : ∀ y, q ≠ .val y) : getE (setE e i r q') i r = some q' := by
  obtain ⟨p, hp, g⟩ := getE_some h
  have hi : i < e.length := (List.getElem?_eq_some_iff.mp hp).1
  unfold getE setE
  rw [hp]
  simp only [List.getElem?_set_self hi, Option.bind_some]
  exact getP_setP g hv
theorem putF_putF {α : Type} {n : Str} {a b : α} : ∀ {fs : List (Str × α)}, putF n b (putF n a fs) = putF n b fs
  | [] => by simp [putF]
  | (m, x) :: fs => by
    by_cases h : m = n
    · subst h; simp [putF]
    · simp only [putF, if_neg h, putF_putF]
theorem setP_setP : ∀ {r : List Step} {p : Pl} {q q1 q2 : Pl}, getP p r = some q → setP (setP p r q1) r q2 = setP p r q2
  | [], p, _, q1, q2, _ => by simp [setP]
  | .f n :: r, .ins c fs, q, q1, q2, h => by
    simp only [getP] at h
    cases l : fs.lookup n with
    | none => rw [l] at h; simp at h
    | some p1 =>
      rw [l] at h
      simp only [setP, l, lookup_put]
      rw [setP_setP (by simpa using h)]
      have : ∀ {fs : List (Str × Pl)} {a b : Pl}, putF n b (putF n a fs) = putF n b fs := by
        intro fs a b
        induction fs with
        | nil => simp [putF]
        | cons t fs ih =>
          obtain ⟨m, x⟩ := t
          by_cases h : m = n
          · subst h; simp [putF]
          · simp only [putF, if_neg h, ih]
      rw [this]
  | .f n :: r, .val x, q, q1, q2, h => by simp [setP]
  | .i n :: r, .lstP ps, q, q1, q2, h => by
    simp only [getP] at h
    cases l : ps[n]? with
    | none => rw [l] at h; simp at h
    | some p1 =>
      rw [l] at h
      have hn : n < ps.length := (List.getElem?_eq_some_iff.mp l).1
      simp only [setP, l, List.getElem?_set_self hn]
      rw [setP_setP (by simpa using h), List.set_set]
  | .f n :: r, .hole, _, _, _, h => by simp [getP] at h
  | .f n :: r, .lst _, _, _, _, h => by simp [getP] at h
  | .f n :: r, .lstP _, _, _, _, h => by simp [getP] at h
  | .f n :: r, .dct _, _, _, _, h => by simp [getP] at h
  | .i n :: r, .hole, _, _, _, h => by simp [getP] at h
  | .i n :: r, .val _, _, _, _, h => by simp [getP] at h
  | .i n :: r, .lst _, _, _, _, h => by simp [getP] at h
  | .i n :: r, .dct _, _, _, _, h => by simp [getP] at h
  | .i n :: r, .ins _ _, _, _, _, h => by simp [getP] at h
  | .k n :: r, .rcd fs, q, q1, q2, h => by
    simp only [getP] at h
    cases l : fs.lookup n with
    | none => rw [l] at h; simp at h
    | some p1 =>
      rw [l] at h
      simp only [setP, l, lookup_put]
      rw [setP_setP (by simpa using h), putF_putF]
  | .i n :: r, .rcd _, _, _, _, h => by simp [getP] at h
  | .f n :: r, .rcd _, _, _, _, h => by simp [getP] at h
  | .k n :: r, .hole, _, _, _, h => by simp [getP] at h
  | .k n :: r, .val _, _, _, _, h => by simp [setP]
  | .k n :: r, .lst _, _, _, _, h => by simp [getP] at h
  | .k n :: r, .lstP _, _, _, _, h => by simp [getP] at h
  | .k n :: r, .dct _, _, _, _, h => by simp [getP] at h
  | .k n :: r, .ins _ _, _, _, _, h => by simp [getP] at h
theorem setE_setE {q1 q2 : Pl} (h : getE e i r = some q) : setE (setE e i r q1) i r q2 = setE e i r q2 := by
  obtain ⟨p, hp, g⟩ := getE_some h
  have hi : i < e.length := (List.getElem?_eq_some_iff.mp hp).1
  unfold setE
  rw [hp]
  simp only [List.getElem?_set_self hi]
  rw [setP_setP g, List.set_set]
/-- the way to a hole stays while the slot's own objects do -/
theorem Cfg.hole_stay {H' : Hp} (C : Cfg w G F lab σ H e ts) (g : getE e i r = some .hole) (ha : AtS w σ H i r u) (eF : Same F H') (keep : ∀ a, lab a = some (.slot i) → ∀ o, H a = some o → H' a = some o) : AtS w σ H' i r u := by
  obtain ⟨v, h1, h2⟩ := ha
  obtain ⟨p, hp, gp⟩ := getE_some g
  rcases C.slots i p hp with z | ⟨v', hv', R⟩
  · subst z
    cases r with
    | nil => exact ⟨v, h1, h2⟩
    | cons t r => cases t <;> simp [getP] at gp
  · rw [h1] at hv'; cases hv'
    obtain ⟨u', Aq, P⟩ := part C.fH r p R gp
    have := P.at_.unique h2
    subst this
    exact ⟨v, h1, P.stay H' eF fun a ha _ o ho => keep a ha o ho⟩
/-- what an operand owns is changed where it stands -/
theorem Cfg.edit (C : Cfg w G F lab σ H e ts) (g : getE e i r = some q) (hq : q ≠ .hole) (hv : ∀ y, q ≠ .val y) (ha : AtS w σ H i r u) :
    ∃ A : Addr → Prop, Rep w F H q u A ∧ ∀ (a : Addr) (o : HO) (q' : Pl), A a → Rep w F (upd H a o) q' u A → CfgE w G σ (upd H a o) (setE e i r q') ts := by
  obtain ⟨u', a1, F', lab', C1⟩ := C.take' g hq
  obtain ⟨rfl, C1⟩ := C1
  have := a1.unique ha
  subst this
  refine ⟨_, C1.temps.1, fun a o q' hA R => ?_⟩
  have hA : lab' a = some (.tmp ts.length) := hA
  have C2 := C1.write hA R
  have gh : getE (setE e i r .hole) i r = some .hole := getE_setE g hv
  have st : AtS w σ (upd H a o) i r u' := C1.hole_stay gh a1 C2.fH fun b hb ob ho => by
    rw [upd_ne (fun z => by subst z; rw [hA] at hb; cases hb)]; exact ho
  have := C2.put gh st
  rw [setE_setE g] at this
  exact this
end
section
variable {w : Wd} {F H H' : Hp} {v y : V} {p : Pl}
/-- the fields' places where the owners below n do not count -/
theorem RepF.monoB : ∀ (fs : List (Str × Pl)) {vs : List (Str × V)} {B B' : Nat → Addr → Prop} {n : Nat}, RepF w F H fs vs B n → (∀ i, n ≤ i → ∀ a, B i a → ∀ o, H a = some o → H' a = some o) → (∀ i, n ≤ i → ∀ a, B i a → B' i a) → RepF w F H' fs vs B' n
  | [], _, _, _, _, h, _, _ => by simp only [RepF] at h ⊢; exact h
  | (m, p) :: fs, _, _, _, n, h, k, s => by
    simp only [RepF] at h ⊢
    obtain ⟨v, r, e1, h1, h2⟩ := h
    exact ⟨v, r, e1, Rep.mono (Same.refl _) p h1 (k n (Nat.le_refl _)) (s n (Nat.le_refl _)), RepF.monoB fs h2 (fun i hi => k i (Nat.le_of_succ_le hi)) fun i hi => s i (Nat.le_of_succ_le hi)⟩
theorem RepF.store {f : Str} {A2 : Addr → Prop} (hp : Rep w F H' p y A2) : ∀ (fs : List (Str × Pl)) {vs : List (Str × V)} {B : Nat → Addr → Prop} {n : Nat}, RepF w F H fs vs B n → (∀ i a, B i a → ∀ o, H a = some o → H' a = some o) →
    ∃ i0, RepF w F H' (putF f p fs) (L2.putF f y vs) (fun i a => if i = i0 then A2 a else B i a) n ∧ n ≤ i0
  | [], vs, B, n, h, k => by
    simp only [RepF] at h
    subst h
    refine ⟨n, ?_, Nat.le_refl _⟩
    simp only [putF, L2.putF, RepF]
    exact ⟨y, [], rfl, by simpa using hp, rfl⟩
  | (m, q) :: fs, vs, B, n, h, k => by
    simp only [RepF] at h
    obtain ⟨v, r, e1, h1, h2⟩ := h
    subst e1
    by_cases hm : m = f
    · subst hm
      refine ⟨n, ?_, Nat.le_refl _⟩
      simp only [putF, L2.putF, if_pos, RepF]
      refine ⟨y, r, rfl, by simpa using hp, RepF.monoB fs h2 (fun i _ => k i) fun i hi a ha => ?_⟩
      rw [if_neg (by omega)]; exact ha
    · obtain ⟨i0, h3, h4⟩ := RepF.store hp fs h2 k
      refine ⟨i0, ?_, Nat.le_of_succ_le h4⟩
      simp only [putF, L2.putF, if_neg hm, RepF]
      refine ⟨v, _, rfl, ?_, h3⟩
      refine Rep.mono (Same.refl _) q h1 (k n) fun a ha => ?_
      rw [if_neg (by omega)]; exact ha
theorem RepF.names : ∀ {fs : List (Str × Pl)} {vs : List (Str × V)} {B : Nat → Addr → Prop} {n : Nat}, RepF w F H fs vs B n → vs.map (·.1) = fs.map (·.1)
  | [], _, _, _, h => by simp only [RepF] at h; subst h; rfl
  | (m, p) :: fs, _, _, _, h => by
    simp only [RepF] at h
    obtain ⟨v, r, e1, _, h2⟩ := h
    subst e1
    simp only [List.map_cons, RepF.names h2]
theorem putK_rec {n : Str} {v : V} {α : Type} : ∀ {fs : List (Str × α)} {vs : List (Str × V)}, nodupF fs = true → vs.map (·.1) = fs.map (·.1) → (fs.lookup n).isSome = true → putK (recK vs) (.inr n) v = recK (L2.putF n v vs)
  | [], _, _, _, h => by simp at h
  | (m, x) :: fs, [], _, e, _ => by simp at e
  | (m, x) :: fs, (m', u) :: vs, hn, e, h => by
    simp only [List.map_cons, List.cons.injEq] at e
    obtain ⟨e1, e2⟩ := e
    subst e1
    simp only [nodupF, Bool.and_eq_true, Bool.not_eq_true'] at hn
    by_cases hm : m' = n
    · subst hm
      have none : ∀ {l : List (Str × V)}, (∀ q ∈ l, q.1 ≠ m') → (recK l).map (fun kv => if kv.1 = Sum.inr m' then (kv.1, v) else kv) = recK l := by
        intro l
        induction l with
        | nil => intro _; rfl
        | cons q l ih =>
          intro hq
          have h1 : ¬ ((Sum.inr q.1 : Key) = Sum.inr m') := fun z => hq q List.mem_cons_self (Sum.inr.inj z)
          simp only [recK, List.map_cons, if_neg h1]
          congr 1
          exact ih fun q' hq' => hq q' (List.mem_cons_of_mem _ hq')
      have hno : ∀ q ∈ vs, q.1 ≠ m' := fun q hq z => by
        have hm : q.1 ∈ fs.map (·.1) := by rw [← e2]; exact List.mem_map_of_mem hq
        obtain ⟨q', hq', ez⟩ := List.mem_map.mp hm
        have := hn.1
        rw [List.any_eq_false] at this
        exact this q' hq' (by simpa using ez.trans z)
      have hv := none hno
      unfold putK
      rw [if_pos (by simp [recK])]
      have e0 : (recK ((m', u) :: vs)).map (fun kv => if kv.1 = (Sum.inr m' : Key) then (kv.1, v) else kv) = ((Sum.inr m' : Key), v) :: (recK vs).map (fun kv => if kv.1 = (Sum.inr m' : Key) then (kv.1, v) else kv) := by
        simp [recK]
      rw [e0, hv]
      simp [recK, L2.putF]
    · have hb : (n == m') = false := by simpa using (fun z => hm z.symm)
      simp only [List.lookup, hb] at h
      have ih := putK_rec (v := v) hn.2 e2 h
      have h1 : ¬ ((Sum.inr m' : Key) = Sum.inr n) := fun z => hm (Sum.inr.inj z)
      have ha : ((recK ((m', u) :: vs)).any fun kv => decide (kv.1 = Sum.inr n)) = ((recK vs).any fun kv => decide (kv.1 = Sum.inr n)) := by
        simp [recK, h1]
      have hany : ((recK vs).any fun kv => decide (kv.1 = (Sum.inr n : Key))) = true := by
        have : n ∈ fs.map (·.1) := by
          cases hl : fs.lookup n with
          | none => rw [hl] at h; cases h
          | some z => exact List.mem_map.mpr ⟨_, PySem.mem_of_lookup hl, rfl⟩
        rw [← e2] at this
        obtain ⟨q, hq, ez⟩ := List.mem_map.mp this
        rw [List.any_eq_true]
        refine ⟨(.inr q.1, q.2), List.mem_map.mpr ⟨q, hq, rfl⟩, by simp [ez]⟩
      unfold putK at ih ⊢
      rw [ha, if_pos hany]
      rw [if_pos hany] at ih
      simp only [L2.putF, if_neg hm]
      simp only [recK, List.map_cons, if_neg h1] at ih ⊢
      rw [ih]
end
end Ev
namespace Ev
open PySem PySem.Spec L2
section
variable {X : Cx} {W : WX} {w : Wd} {c : Ctx} {e a b d : Expr} {ir ia ib id : IE} {pos pos' : Pos} {es : List Expr} {irs : List IE} {pin : Nat → Bool} {st : Stmt} {sts : List Stmt} {is : IS} {iss : List IS}
theorem sss_nil : SndSs X W w c [] [] := ⟨PSs.imp pss_nil fun D σ H h => by
  obtain ⟨G, en, ts, C, hp, h⟩ := h
  simp only [evSs] at h
  exact h σ H C⟩
theorem sss_cons (h1 : SndS X W w c st is) (h2 : SndSs X W w c sts iss) : SndSs X W w c (st :: sts) (is :: iss) := ⟨PSs.imp (pss_cons h1.ps h2.pss) fun D σ H h => by
  obtain ⟨G, en, ts, C, hp, h⟩ := h
  simp only [evSs] at h
  refine ⟨G, en, ts, C, hp, ?_⟩
  cases m : evS c is en with
  | next e1 => rw [m] at h; exact fun σ' H' C' => ⟨G, e1, ts, C', hp, h⟩
  | brk e1 => rw [m] at h; exact h
  | cnt e1 => rw [m] at h; exact h
  | ret p e1 => rw [m] at h; exact h
  | exn x e1 => rw [m] at h; exact h
  | stuck => rw [m] at h; exact h⟩
theorem ss_pass : SndS X W w c (.Pass pos) .pass := ⟨PS.imp ps_pass fun D σ H h => by
  obtain ⟨G, en, ts, C, hp, h⟩ := h
  simp only [evS] at h
  exact h σ H C⟩
theorem ss_brk : SndS X W w c (.Break pos) .brk := ⟨PS.imp ps_break fun D σ H h => by
  obtain ⟨G, en, ts, C, hp, h⟩ := h
  simp only [evS] at h
  exact h σ H C⟩
theorem ss_cnt : SndS X W w c (.Continue pos) .cnt := ⟨PS.imp ps_continue fun D σ H h => by
  obtain ⟨G, en, ts, C, hp, h⟩ := h
  simp only [evS] at h
  exact h σ H C⟩
theorem ss_retN : SndS X W w c (.Return none pos) .retN := ⟨PS.imp ps_retN fun D σ H h => by
  obtain ⟨G, en, ts, ⟨F, lab, C⟩, hp, h⟩ := h
  simp only [evS] at h
  exact h .non σ H ⟨F, lab, C.push .non⟩⟩
theorem ss_if (ht : Snd X W w c a ia) (h1 : SndSs X W w c sts iss) {sts2 : List Stmt} {iss2 : List IS} (h2 : SndSs X W w c sts2 iss2) : SndS X W w c (.If a sts sts2 pos) (.ite ia iss iss2) := ⟨PS.imp (ps_if ht.pt h1.pss h2.pss) fun D σ H h => by
  obtain ⟨G, en, ts, C, hp, h⟩ := h
  simp only [evS, evT] at h
  refine ⟨G, en, ts, C, ?_⟩
  show RT w G W (smp ia) σ H ts _ (tst (evO c ia en))
  cases m : tst (evO c ia en) with
  | stuck => rw [m] at h; exact h
  | exn y e1 => rw [m] at h; exact fun cls d H' c' => h cls d σ H' c'
  | ok k e1 =>
    rw [m] at h
    simp only [Out.sbind_ok] at h
    intro H1 C1 _
    cases k with
    | true => rw [if_pos rfl] at h ⊢; exact ⟨G, e1, ts, C1, hp, h⟩
    | false => rw [if_neg Bool.false_ne_true] at h ⊢; exact ⟨G, e1, ts, C1, hp, h⟩⟩
theorem ss_whl (hpo : PassesOwn (model X.prog X.w) X.A X.env X.xe) (ht : Snd X W w c a ia) (h1 : SndSs X W w c sts iss) : SndS X W w c (.While a sts [] pos) (.whl ia iss) := ⟨PS.imp (ps_while hpo ht.pt h1.pss) fun D σ H h => by
  obtain ⟨G, en, ts, C, hp, h⟩ := h
  simp only [evS] at h
  refine ⟨fun m σ H => ∃ e, CfgE w G σ H e ts ∧ RS w G W ts D (whlGo (evT c ia) (evSs c iss) m e), ⟨c.W, en, C, h⟩, fun m σ H ⟨e, C, h⟩ => ?_⟩
  cases m with
  | zero => exact h.elim
  | succ m =>
    simp only [whlGo, evT] at h
    refine ⟨G, e, ts, C, ?_⟩
    show RT w G W (smp ia) σ H ts _ (tst (evO c ia e))
    cases mt : tst (evO c ia e) with
    | stuck => rw [mt] at h; exact h
    | exn y e1 => rw [mt] at h; exact fun cls d H' c' => h cls d σ H' c'
    | ok k e1 =>
      rw [mt] at h
      simp only [Out.sbind_ok] at h
      intro H1 C1 _
      cases k with
      | false => rw [if_neg Bool.false_ne_true] at h ⊢; exact h σ H1 C1
      | true =>
        rw [if_pos rfl] at h ⊢
        refine ⟨fun σ' H' => ∃ e, CfgE w G σ' H' e ts ∧ RS w G W ts D (whlGo (evT c ia) (evSs c iss) m e), fun σ' H' q => ⟨m, Nat.lt_succ_self m, q⟩, G, e1, ts, C1, hp, ?_⟩
        cases mb : evSs c iss e1 with
        | next e2 => rw [mb] at h; exact fun σ' H' C' => ⟨e2, C', h⟩
        | cnt e2 => rw [mb] at h; exact fun σ' H' C' => ⟨e2, C', h⟩
        | brk e2 => rw [mb] at h; exact h
        | ret p e2 => rw [mb] at h; exact h
        | exn x e2 => rw [mb] at h; exact h
        | stuck => rw [mb] at h; exact h⟩
/-- an expression whose computation is handed on to a statement -/
theorem sbind_P {σ : L2.St} {H : Hp} {ts : List (V × Pl)} {G : Ground} {s : Bool} {D : Ends} {m : Out Pl} {k : Pl → Env → SOut} {R : V → Hp → Prop} (h : RS w G W ts D (m.sbind k))
    (fin : ∀ p e1 H1 v, CfgE w G σ H1 e1 ((v, p) :: ts) → RS w G W ts D (k p e1) → R v H1) : RP w G W s σ H ts R m := by
  cases m with
  | stuck => exact h
  | exn y e1 => exact fun cls d H' c' => h cls d σ H' c'
  | ok p e1 => exact fun H1 v C _ => fin p e1 H1 v C h
theorem sbind_X {σ : L2.St} {H : Hp} {ts : List (V × Pl)} {G : Ground} {s : Bool} {D : Ends} {m : Out Val} {k : Val → Env → SOut} {R : V → Hp → Prop} (h : RS w G W ts D (m.sbind k))
    (fin : ∀ x e1 H1 v, CfgE w G σ H1 e1 ((v, .val x) :: ts) → RS w G W ts D (k x e1) → R v H1) : RX w G W s σ H ts R m := by
  cases m with
  | stuck => exact h
  | exn y e1 => exact fun cls d H' c' => h cls d σ H' c'
  | ok p e1 => exact fun H1 v C _ => fin p e1 H1 v C h
theorem ss_expr (ha : Snd X W w c a ia) (hs : swapsWith a none pos.line X.env = pure false) : SndS X W w c (.Expr a pos) (.expr ia) := ⟨PS.imp (ps_expr ha.pe hs) fun D σ H h => by
  obtain ⟨G, en, ts, C, hp, h⟩ := h
  simp only [evS] at h
  refine ⟨G, en, ts, C, ?_⟩
  cases m : evO c ia en with
  | stuck => rw [m] at h; exact h
  | exn y e1 => rw [m] at h; exact fun cls d H' c' => h cls d σ H' c'
  | ok o e1 => rw [m] at h; exact fun H1 v ⟨F, lab, C1⟩ _ _ => h σ H1 ⟨F, lab, C1.dropO⟩⟩
theorem ret_P {σ : L2.St} {H : Hp} {D : Ends} {G : Ground} {en : Env} {ts : List (V × Pl)} (C : CfgE w G σ H en ts) (h : RS w G W ts D (((evO c ia en).bind own).sbind fun p e => .ret p e)) : tO w W (smp ia) (evO c ia) σ H D.rt :=
  ⟨G, en, ts, C, RO.toP (sbind_P h fun p e1 H1 v C1 h => h v σ H1 C1)⟩
theorem ss_ret (ha : Snd X W w c a ia) : SndS X W w c (.Return (some a) pos) (.ret ia) := ⟨PS.imp (ps_ret ha.pe) fun D σ H h => by
  obtain ⟨G, en, ts, C, hp, h⟩ := h
  show tO w W (smp ia) (evO c ia) σ H D.rt
  cases ia with
  | var i =>
    simp only [evS] at h
    by_cases hc : c.pin i = true
    · rw [if_pos hc] at h
      exact ret_P C h
    · rw [if_neg hc] at h
      refine ⟨G, en, ts, C, ?_⟩
      simp only [evO]
      cases g : en[i]? with
      | none => rw [g] at h; exact h.elim
      | some p =>
        rw [g] at h
        simp only at h
        by_cases hv : (toVal p).isSome = true
        · rw [if_pos hv] at h
          have hh : p ≠ .hole := fun z => by subst z; simp [toVal] at hv
          have fin : RO w G W (smp (.var i)) σ H ts D.rt (.ok (.at i []) en) := by
            intro H1 v ⟨F, lab, C1⟩ a1 _
            have ge : getE en i [] = some p := by unfold getE; rw [g]; rfl
            obtain ⟨u, a2, C2⟩ := C1.take ge hh
            have := a2.unique a1
            subst this
            have es : setE en i [] .hole = en.set i .hole := by unfold setE; rw [g]; rfl
            rw [es] at C2
            exact h u σ H1 C2
          cases p with
          | hole => exact absurd rfl hh
          | _ => exact fin
        · rw [if_neg hv] at h; exact h.elim
  | _ => exact ret_P C (by simpa only [evS] using h)⟩
/-- a plain assignment to a name -/
structure SndV (X : Cx) (W : WX) (w : Wd) (c : Ctx) (x : Str) (pos' : Pos) (e : Expr) (pos : Pos) (i : Nat) (ir : IE) : Prop where
  ps : PS X (.Assign [.Name x pos'] e pos) (tAsg (tO w W (smp ir) (evO c ir)) (gName i))
theorem sndv_of {i : Nat} {x : Str} (hN : X.N.Nodup) (hi : X.N[i]? = some x) (hx : Loc X.env.scope x) (ha : Snd X W w c a ia) (hs : swapsWith a (some (.Name x pos')) pos.line X.env = pure false) (hf : X.fn x = true ∨ X.env.scope.names.lookup x = some .local) :
    SndV X W w c x pos' a pos i ia := ⟨ps_set hN hi hx ha.pe hs hf⟩
theorem ss_asg {i : Nat} {x : Str} (ha : SndV X W w c x pos' a pos i ia) : SndS X W w c (.Assign [.Name x pos'] a pos) (.asg i ia) := ⟨PS.imp ha.ps fun D σ H h => by
  obtain ⟨G, en, ts, C, hp, h⟩ := h
  simp only [evS] at h
  refine ⟨G, en, ts, C, RO.toP (sbind_P h fun p e1 H1 v C1 h => ?_)⟩
  cases hs : setT c.pin i p e1 with
  | none => rw [hs] at h; exact h.elim
  | some e2 =>
    rw [hs] at h
    exact h _ H1 (set_of hp C1 hs)⟩
theorem ss_asgT {t : Tgt} {tg : Expr} (ha : Snd X W w c a ia) (ht : SndT w X tg t) (hs : swapsWithSole [tg] a pos.line X.env = pure false) (hw : swappedStores [tg] a X.env = pure none) (h1 : (assignEach [tg] X.env).map (·.2) = [assign tg X.env]) :
    SndS X W w c (.Assign [tg] a pos) (.asgT t ia) := by
  refine ⟨PS.imp (ps_asg ha.pe ht.pg hs hw h1) fun D σ H h => ?_⟩
  obtain ⟨G, en, ts, C, hp, h⟩ := h
  simp only [evS, evX] at h
  refine ⟨G, en, ts, C, RO.toX (sbind_X h fun x e1 H1 v C1 h => ?_)⟩
  cases ha : asgT c.pin t x e1 with
  | none => rw [ha] at h; exact h.elim
  | some e2 =>
    rw [ha] at h
    exact gT_sem hp C1 ha fun σ2 _ C2 => h σ2 H1 C2
def rSetD : V → V → V → Hp → (Hp → Prop) → Prop := fun o i v H Q => ∃ a H', o = .ref a ∧ DPut H a i v H' ∧ Q H'
theorem set_dict (hu : X.A.units + 1 < cLine) : PSet X rSetD := by
  intro pins s σ H o i v ov iv u Q I ro ri rv h
  obtain ⟨a, H', rfl, g, q⟩ := h
  cases ro
  exact d_setItem hu I g ri rv fun s4 I4 => ⟨H', I4, q⟩
theorem set_all (hu : X.A.units + 1 < cLine) : PSet X (fun o i v H Q => rSetL o i v H Q ∨ rSetD o i v H Q) := fun pins s σ H o i v ov iv u Q I ro ri rv h => by
  rcases h with h | h
  · exact set_list pins s σ H o i v ov iv u Q I ro ri rv h
  · exact set_dict hu pins s σ H o i v ov iv u Q I ro ri rv h
theorem dput_den {F : Hp} {k y : Val} {kk : Key} {v : V} (hk : keyOf k = some kk) (dk : k = keyVal kk) (dv : Den w F v y) {kvs : List (Key × V)} {ys : List (Val × Val)} (d : DenK w F kvs ys) : DenK w F (putK kvs kk v) (dput k y ys) := by
  have any : ∀ {kvs : List (Key × V)} {ys : List (Val × Val)}, DenK w F kvs ys → (kvs.any fun p => decide (p.1 = kk)) = (ys.any fun p => decide (keyOf p.1 = keyOf k)) := by
    intro kvs ys d
    induction kvs generalizing ys with
    | nil => cases d; rfl
    | cons p kvs ih =>
      cases d with
      | cons a r =>
        rename_i j u x xs
        simp only [List.any_cons, ih r, keyOf_keyVal, hk]
        congr 1
        by_cases h : j = kk
        · subst h; simp
        · have : ¬ (some j = some kk) := fun z => h (Option.some.inj z)
          simp [h]
  have mp : ∀ {kvs : List (Key × V)} {ys : List (Val × Val)}, DenK w F kvs ys → DenK w F (kvs.map fun kv => if kv.1 = kk then (kv.1, v) else kv) (ys.map fun p => if keyOf p.1 = keyOf k then (p.1, y) else p) := by
    intro kvs ys d
    induction kvs generalizing ys with
    | nil => cases d; exact .nil
    | cons p kvs ih =>
      cases d with
      | cons a r =>
        rename_i j u x xs
        have ih' := ih r
        simp only [hk] at ih'
        simp only [List.map_cons, keyOf_keyVal, hk]
        by_cases h : j = kk
        · subst h
          simp only [if_true]
          exact .cons dv ih'
        · rw [if_neg h, if_neg (fun z => h (Option.some.inj z))]
          exact .cons a ih'
  have ap : ∀ {kvs : List (Key × V)} {ys : List (Val × Val)}, DenK w F kvs ys → DenK w F (kvs ++ [(kk, v)]) (ys ++ [(k, y)]) := by
    intro kvs ys d
    induction kvs generalizing ys with
    | nil => cases d; rw [dk]; exact .cons dv .nil
    | cons p kvs ih =>
      cases d with
      | cons a r => exact .cons a (ih r)
  unfold putK dput
  rw [any d]
  by_cases hc : (ys.any fun p => decide (keyOf p.1 = keyOf k)) = true
  · rw [if_pos hc, if_pos hc]; exact mp d
  · rw [if_neg hc, if_neg hc]; exact ap d
theorem denK_length {F : Hp} : ∀ {kvs : List (Key × V)} {ys : List (Val × Val)}, DenK w F kvs ys → kvs.length = ys.length
  | _, _, .nil => rfl
  | _, _, .cons _ r => by rw [List.length_cons, List.length_cons, denK_length r]
theorem nosub {o k : Expr} {l : Nat} {env : PySem.Env} : swapsWithSole [.Subscript o k pos'] a l env = pure false := by
  cases a <;> rfl
theorem nosubw {o k : Expr} {env : PySem.Env} : swappedStores [.Subscript o k pos'] a env = pure none := by
  cases a <;> rfl
theorem ss_asgSub (g : Gd w W X) {o k : Expr} {io ik : IE} (ho : Snd X W w c o io) (hk : Snd X W w c k ik) (ha : Snd X W w c a ia)
    (has : ∀ v, assign (.Subscript o k pos') X.env v = (do
      let ov ← holding [v] (eval o X.env)
      let iv ← holding [v, ov] (eval k X.env)
      standAt pos'
      holding [v, ov, iv] (setItem ov iv v)
      release [v, ov, iv] [])) : SndS X W w c (.Assign [.Subscript o k pos'] a pos) (.asgSub io ik ia) := by
  refine ⟨PS.imp (ps_asg ha.pe (pg_sub ho.pe hk.pe (set_all (by have := g.hu; omega)) has) nosub nosubw rfl) fun D σ H h => ?_⟩
  obtain ⟨G, en, ts, C, hp, h⟩ := h
  simp only [evS, evX] at h
  refine ⟨G, en, ts, C, RO.toX (sbind_X h fun y e1 H1 v C1 h => ⟨G, e1, _, C1, ?_⟩)⟩
  cases m2 : evO c io e1 with
  | stuck => rw [m2] at h; exact h
  | exn z e2 => rw [m2] at h; exact fun cls d H' c' => h cls d σ H' c'.drop
  | ok x e2 =>
    rw [m2] at h
    simp only [Out.sbind_ok] at h
    intro H2 v2 C2 a2 s2
    by_cases hpl : (plain x || smp ik) = true
    · rw [if_pos hpl] at h
      refine ⟨G, e2, _, C2, RO.toX ?_⟩
      cases m3 : (evO c ik e2).bind freeze with
      | stuck => rw [m3] at h; exact h
      | exn z e3 => rw [m3] at h; exact fun cls d H' c' => h cls d σ H' c'.dropO.drop
      | ok kv e3 =>
        rw [m3] at h
        simp only [Out.sbind_ok] at h
        intro H3 v3 ⟨F, lab, C3⟩ s3
        have a3 : Has w σ H3 (tsOf x v2 ((v, .val y) :: ts)) x v2 := a2.stay hpl s3 fun t h => h
        have dk := C3.temps.1
        simp only [Rep] at dk
        have C4 := C3.drop
        cases x with
        | tmp p => exact h.elim
        | «at» i r =>
          simp only [tsOf] at C4
          have dv := C4.temps.1
          simp only [Rep] at dv
          have C5 := C4.drop
          simp only at h
          cases gp : getE e3 i r with
          | none => rw [gp] at h; exact h.elim
          | some p =>
            rw [gp] at h
            simp only [Option.bind_some] at h
            cases sp : setSub p kv y with
            | none => rw [sp] at h; exact h.elim
            | some q' =>
              rw [sp] at h
              simp only at h
              unfold setSub at sp
              split at sp
              · rename_i xs n
                cases hx : ixN xs.length n with
                | none => rw [hx] at sp; cases sp
                | some j =>
                  rw [hx] at sp
                  cases sp
                  cases dk
                  obtain ⟨A, R, ed⟩ := C5.edit gp (by simp) (by simp) a3
                  have R0 := R
                  simp only [Rep] at R
                  obtain ⟨adr, vs, rfl, hA, hH, dd⟩ := R
                  refine .inl ⟨adr, vs, n, j, rfl, rfl, hH, by rw [dd.length]; exact hx, h σ _ (ed adr _ _ hA ?_)⟩
                  simp only [Rep]
                  exact ⟨adr, _, rfl, hA, upd_same, dd.set dv j⟩
              · rename_i kvs kx
                split at sp
                · rename_i hc
                  cases sp
                  simp only [Bool.and_eq_true, decide_eq_true_eq] at hc
                  obtain ⟨kk, hk⟩ := Option.isSome_iff_exists.mp hc.1.1
                  obtain ⟨e1, e2⟩ := keyOf_den dk hk
                  subst e1
                  obtain ⟨A, R, ed⟩ := C5.edit gp (by simp) (by simp) a3
                  simp only [Rep] at R
                  obtain ⟨adr, ks, rfl, hA, hH, dd⟩ := R
                  refine .inr ⟨adr, _, rfl, DPut.k hH (by rw [denK_length dd, ← line_eq]; exact hc.2), h σ _ (ed adr _ _ hA ?_)⟩
                  simp only [Rep]
                  exact ⟨adr, _, rfl, hA, upd_same, dput_den hk e2 dv dd⟩
                · cases sp
              · rename_i fs n
                split at sp
                · rename_i hc
                  cases sp
                  simp only [Bool.and_eq_true, decide_eq_true_eq] at hc
                  cases dk
                  obtain ⟨A, R, ed⟩ := C5.edit gp (by simp) (by simp) a3
                  simp only [Rep] at R
                  obtain ⟨adr, fvs, rfl, hA, hH, B, b1, b2, RF⟩ := R
                  have en := RepF.names RF
                  have eK : putK (recK fvs) (.inr n) v = recK (L2.putF n v fvs) := putK_rec hc.1.2 en hc.1.1
                  have hlen : (recK fvs).length < sizeLine := by
                    have := congrArg List.length en
                    rw [List.length_map, List.length_map] at this
                    rw [← line_eq]
                    unfold recK
                    rw [List.length_map, this]; exact hc.2
                  have dp := DPut.k (k := .inr n) (v := v) hH hlen
                  rw [eK] at dp
                  refine .inr ⟨adr, _, rfl, dp, h σ _ (ed adr _ _ hA ?_)⟩
                  obtain ⟨i0, hS, _⟩ := RepF.store (w := w) (H' := upd H3 adr (.dK (recK (L2.putF n v fvs)))) (p := .val y) (y := v) (f := n) (A2 := fun _ => False) (by simp only [Rep]; exact dv) fs RF (fun i b hb o ho => by rw [upd_ne (b1 i b hb).2]; exact ho)
                  simp only [Rep]
                  refine ⟨adr, _, rfl, hA, upd_same, _, fun i b hb => ?_, fun i j b hi hj => ?_, hS⟩
                  · by_cases hi : i = i0
                    · rw [if_pos hi] at hb; exact hb.elim
                    · rw [if_neg hi] at hb; exact b1 i b hb
                  · by_cases hi0 : i = i0
                    · rw [if_pos hi0] at hi; exact hi.elim
                    · rw [if_neg hi0] at hi
                      by_cases hj0 : j = i0
                      · rw [if_pos hj0] at hj; exact hj.elim
                      · rw [if_neg hj0] at hj; exact b2 i j b hi hj
                · cases sp
              · cases sp
    · rw [if_neg hpl] at h; exact h.elim
end
end Ev
namespace Ev
open PySem PySem.Spec L2
section
variable {w : Wd} {G : Ground} {F : Hp} {lab : Addr → Option Lab} {σ : L2.St} {H : Hp} {e : Env} {ts l : List (V × Pl)} {t : V × Pl}
theorem CfgE.drop (C : CfgE w G σ H e (t :: ts)) : CfgE w G σ H e ts := let ⟨F, lab, C⟩ := C; ⟨F, lab, Cfg.drop (v := t.1) (p := t.2) C⟩
theorem CfgE.dropL : ∀ {l : List (V × Pl)}, CfgE w G σ H e (l ++ ts) → CfgE w G σ H e ts
  | [], C => C
  | _ :: _, C => CfgE.dropL C.drop
theorem CfgE.dropM (C : CfgE w G σ H e (t :: (l ++ ts))) : CfgE w G σ H e (t :: ts) := by
  have p : (t :: (l ++ ts)).Perm (l ++ (t :: ts)) := List.perm_middle.symm
  exact CfgE.dropL (C.perm p)
theorem CfgX.dropL {x : Exn} {cls : Value} {d : Option Addr} : ∀ {l : List (V × Pl)}, CfgX w G σ H e (l ++ ts) x cls d → CfgX w G σ H e ts x cls d
  | [], C => C
  | _ :: _, C => CfgX.dropL C.drop
def srcT (sv : List (V × Val)) : List (V × Pl) := sv.map fun p => (p.1, .val p.2)
theorem mem_srcT {sv : List (V × Val)} {p : V × Val} (h : p ∈ sv) : (p.1, Pl.val p.2) ∈ srcT sv ++ ts := List.mem_append_left _ (List.mem_map_of_mem h)
theorem Cfg.mem (C : Cfg w G F lab σ H e ts) {v : V} {x : Val} (m : (v, Pl.val x) ∈ ts) : Den w F v x := by
  obtain ⟨A, R⟩ := C.temps.mem m
  simpa only [Rep] using R
/-- an iterator whose turns give these items, while the source's values stand -/
structure ItOk (w : Wd) (J : It) (sv : List (V × Val)) (items : List Val) : Prop where
  stop : ∀ {G F lab σ H e ts}, Cfg w G F lab σ H e ts → (∀ p ∈ sv, (p.1, Pl.val p.2) ∈ ts) → J.stop items.length H
  go : ∀ {G F lab σ H e ts}, Cfg w G F lab σ H e ts → (∀ p ∈ sv, (p.1, Pl.val p.2) ∈ ts) → ∀ i y, items[i]? = some y → J.go i H ∧ ∀ x H', J.yld i H x H' → CfgE w G σ H' e ((x, .val y) :: ts) ∧ Same H H'
def RIt (w : Wd) (G : Ground) (W : WX) (s : Bool) (σ : L2.St) (H : Hp) (ts : List (V × Pl)) (R : It → Hp → Prop) : Out (List Val) → Prop
  | .ok items e' => ∀ H' J sv, ItOk w J sv items → CfgE w G σ H' e' (srcT sv ++ ts) → (s = true → Same H H') → R J H'
  | .exn x e' => ∀ cls d H', CfgX w G σ H' e' ts x cls d → W cls d σ H'
  | .stuck => False
def tIt (w : Wd) (W : WX) (s : Bool) (m : Env → Out (List Val)) : TI := fun σ H R => ∃ G e ts, CfgE w G σ H e ts ∧ RIt w G W s σ H ts R (m e)
/-- what the walk of a for or of a block draws -/
def evSrc (c : Ctx) (k : SrcK) (src : List IE) (e : Env) : Out (List Val) := (evXs c src e).bind fun ss e => match srcV k ss with
  | none => .stuck
  | some items => .ok items e
structure SndIt (X : Cx) (W : WX) (w : Wd) (c : Ctx) (tg iter : Expr) (k : SrcK) (src : List IE) : Prop where
  pi : PI X tg iter (tIt w W (smps src) (evSrc c k src))
end
section
variable {X : Cx} {W : WX} {w : Wd} {c : Ctx} {tg iter : Expr} {pos : Pos} {sts : List Stmt} {iss : List IS} {k : SrcK} {src : List IE} {t : Tgt}
theorem evS_for {e : Env} : evS c (.for t k src iss) e = (evSrc c k src e).sbind fun items e => forGo (asgT c.pin t) (evSs c iss) items e := by
  simp only [evS, evSrc]
  cases evXs c src e with
  | stuck => rfl
  | exn x e1 => rfl
  | ok ss e1 =>
    simp only [Out.sbind_ok, Out.bind_ok]
    cases srcV k ss <;> rfl
theorem RS.dropL {G : Ground} {ts l : List (V × Pl)} {D : Ends} {o : SOut} (h : RS w G W ts D o) : RS w G W (l ++ ts) D o := by
  cases o with
  | next e => exact fun σ' H' C => h σ' H' C.dropL
  | brk e => exact fun σ' H' C => h σ' H' C.dropL
  | cnt e => exact fun σ' H' C => h σ' H' C.dropL
  | ret p e => exact fun v σ' H' C => h v σ' H' C.dropM
  | exn x e => exact fun cls d σ' H' C => h cls d σ' H' C.dropL
  | stuck => exact h
theorem ss_for (hpo : PassesOwn (model X.prog X.w) X.A X.env X.xe) (hc : X.calm = true) (hi : SndIt X W w c tg iter k src) (ht : SndT w X tg t) (hb : SndSs X W w c sts iss)
    (hs : ∀ x, foldedSetIterable iter X.env x = pure x) : SndS X W w c (.For tg iter sts [] pos) (.for t k src iss) := by
  refine ⟨PS.imp (ps_for hpo hc hi.pi ht.pg hb.pss hs) fun D σ H h => ?_⟩
  obtain ⟨G, en, ts, C, hp, h⟩ := h
  rw [evS_for] at h
  refine ⟨G, en, ts, C, ?_⟩
  cases m : evSrc c k src en with
  | stuck => rw [m] at h; exact h
  | exn y e1 => rw [m] at h; exact fun cls d H' c' => h cls d σ H' c'
  | ok items e1 =>
    rw [m] at h
    simp only [Out.sbind_ok] at h
    intro H1 J sv ok C1 _
    refine ⟨fun i m σ H => m = items.length - i ∧ i ≤ items.length ∧ ∃ e, CfgE w G σ H e (srcT sv ++ ts) ∧ RS w G W ts D (forGo (asgT c.pin t) (evSs c iss) (items.drop i) e), ⟨items.length, by simp, Nat.zero_le _, e1, C1, by simpa using h⟩, ?_⟩
    rintro i m σ2 H2 ⟨rfl, hi, e, ⟨F, lab, C2⟩, h⟩
    by_cases hlt : i < items.length
    · refine .inr ?_
      have hy : items[i]? = some items[i] := List.getElem?_eq_getElem hlt
      have hd : items.drop i = items[i] :: items.drop (i + 1) := List.drop_eq_getElem_cons hlt
      rw [hd] at h
      obtain ⟨go, yl⟩ := ok.go C2 (fun p hp => mem_srcT hp) i _ hy
      refine ⟨go, fun σ' H' => i + 1 ≤ items.length ∧ ∃ e, CfgE w G σ' H' e (srcT sv ++ ts) ∧ RS w G W ts D (forGo (asgT c.pin t) (evSs c iss) (items.drop (i + 1)) e), fun σ' H' ⟨q1, q2⟩ => ⟨_, by omega, rfl, q1, q2⟩, fun x H' y => ?_⟩
      have C3 := (yl x H' y).1
      simp only [forGo] at h
      cases ha : asgT c.pin t items[i] e with
      | none => rw [ha] at h; exact h.elim
      | some e3 =>
        rw [ha] at h
        simp only at h
        refine gT_sem hp C3 ha fun σ4 _ C4 => ⟨G, e3, _, C4, hp, ?_⟩
        cases mb : evSs c iss e3 with
        | next e4 => rw [mb] at h; exact fun σ' H' C' => ⟨hlt, e4, C', h⟩
        | cnt e4 => rw [mb] at h; exact fun σ' H' C' => ⟨hlt, e4, C', h⟩
        | brk e4 => rw [mb] at h; exact fun σ' H' C' => h σ' H' C'.dropL
        | ret p e4 => rw [mb] at h; exact fun v σ' H' C' => h v σ' H' C'.dropM
        | exn x e4 => rw [mb] at h; exact fun cls d σ' H' C' => h cls d σ' H' C'.dropL
        | stuck => rw [mb] at h; exact h.elim
    · have hi' : i = items.length := by omega
      subst hi'
      refine .inl ⟨ok.stop C2 (fun p hp => mem_srcT hp), ?_⟩
      simp only [List.drop_length, forGo] at h
      exact h σ2 H2 (CfgE.dropL ⟨F, lab, C2⟩)
end
end Ev
namespace Ev
open PySem PySem.Spec L2
section
variable {w : Wd} {G : Ground} {F : Hp} {lab : Addr → Option Lab} {σ σ' : L2.St} {H : Hp} {e e0 : Env} {ts l : List (V × Pl)} {t : V × Pl} {vs : List Nat}
theorem wipe_out : ∀ {vs : List Nat} {i : Nat}, i ∉ vs → (wipe σ vs)[i]? = σ[i]?
  | [], _, _ => rfl
  | v :: vs, i, h => by
    rw [List.mem_cons, not_or] at h
    unfold wipe
    rw [List.getElem?_set_ne (fun z => h.1 z.symm)]
    exact wipe_out h.2
theorem wipe_in : ∀ {vs : List Nat} {i : Nat}, i ∈ vs → i < σ.length → (wipe σ vs)[i]? = some none
  | v :: vs, i, h, hl => by
    unfold wipe
    by_cases hv : v = i
    · subst hv
      rw [List.getElem?_set_self (by rw [wipe_length]; exact hl)]
    · rw [List.getElem?_set_ne hv]
      exact wipe_in ((List.mem_cons.mp h).resolve_left fun z => hv z.symm) hl
theorem wipe_eq (hl : σ'.length = σ.length) (h : ∀ i, i ∉ vs → σ'[i]? = σ[i]?) : wipe σ' vs = wipe σ vs := by
  apply List.ext_getElem?
  intro i
  by_cases hi : i ∈ vs
  · by_cases hl' : i < σ.length
    · rw [wipe_in hi hl', wipe_in hi (by rw [hl]; exact hl')]
    · rw [List.getElem?_eq_none (by rw [wipe_length]; omega), List.getElem?_eq_none (by rw [wipe_length]; omega)]
  · rw [wipe_out hi, wipe_out hi, h i hi]
theorem wipeE_length : (wipeE vs e).length = e.length := by
  unfold wipeE
  induction vs with
  | nil => rfl
  | cons v vs ih => simp only [List.foldr_cons, List.length_set]; exact ih
theorem wipeE_get {i : Nat} {p : Pl} : (wipeE vs e)[i]? = some p → p = .hole ∨ (i ∉ vs ∧ e[i]? = some p) := by
  unfold wipeE
  induction vs with
  | nil => exact fun h => .inr ⟨by simp, h⟩
  | cons v vs ih =>
    intro h
    simp only [List.foldr_cons] at h
    by_cases hv : v = i
    · subst hv
      by_cases hl : v < (vs.foldr (fun i e => e.set i .hole) e).length
      · rw [List.getElem?_set_self hl] at h
        exact .inl (Option.some.inj h).symm
      · rw [List.getElem?_eq_none (by rw [List.length_set]; omega)] at h; cases h
    · rw [List.getElem?_set_ne hv] at h
      rcases ih h with z | ⟨z1, z2⟩
      · exact .inl z
      · exact .inr ⟨by rw [List.mem_cons, not_or]; exact ⟨fun q => hv q.symm, z1⟩, z2⟩
theorem restE_length : ∀ {vs : List Nat}, (restE e0 vs e).length = e.length
  | [] => rfl
  | _ :: vs => by unfold restE; rw [List.length_set]; exact restE_length
theorem restE_get : ∀ {vs : List Nat} {i : Nat} {p : Pl}, (restE e0 vs e)[i]? = some p → (i ∈ vs ∧ p = e0.getD i .hole) ∨ (i ∉ vs ∧ e[i]? = some p)
  | [], i, p, h => .inr ⟨by simp, h⟩
  | v :: vs, i, p, h => by
    unfold restE at h
    by_cases hv : v = i
    · subst hv
      by_cases hl : v < (restE e0 vs e).length
      · rw [List.getElem?_set_self hl] at h
        exact .inl ⟨List.mem_cons_self, (Option.some.inj h).symm⟩
      · rw [List.getElem?_eq_none (by rw [List.length_set]; omega)] at h; cases h
    · rw [List.getElem?_set_ne hv] at h
      rcases restE_get h with ⟨z1, z2⟩ | ⟨z1, z2⟩
      · exact .inl ⟨List.mem_cons_of_mem _ z1, z2⟩
      · exact .inr ⟨by rw [List.mem_cons, not_or]; exact ⟨fun q => hv q.symm, z1⟩, z2⟩
/-- the ground within a block: its own slots may be set -/
def Ground.open (G : Ground) (vs : List Nat) : Ground := { G with keep := fun i => if i ∈ vs then none else G.keep i }
theorem Cfg.open (C : Cfg w G F lab σ H e ts) : Cfg w (G.open vs) F lab σ H e ts := { C with
  keep := fun i v h => by
    have h : (if i ∈ vs then none else G.keep i) = some v := h
    by_cases hi : i ∈ vs
    · rw [if_pos hi] at h; cases h
    · rw [if_neg hi] at h; exact C.keep i v h }
theorem Cfg.wipe (C : Cfg w (G.open vs) F lab σ H e ts) : Cfg w (G.open vs) F lab (wipe σ vs) H (wipeE vs e) ts := { C with
  slots := fun i p h => by
    rcases wipeE_get h with z | ⟨z1, z2⟩
    · exact .inl z
    · rw [wipe_out z1]; exact C.slots i p z2
  keep := fun i v h => by
    have h0 : (if i ∈ vs then none else G.keep i) = some v := h
    by_cases hi : i ∈ vs
    · rw [if_pos hi] at h0; cases h0
    · rw [wipe_out hi]; exact C.keep i v h
  len := by rw [wipeE_length, wipe_length]; exact C.len }
/-- what the own slots held -/
def Held (w : Wd) (σ : L2.St) (e0 : Env) (sv : List (V × Val)) (vs : List Nat) : Prop := ∀ i ∈ vs, e0.getD i .hole = .hole ∨ ∃ v x, e0.getD i .hole = .val x ∧ σ[i]? = some (some v) ∧ (v, x) ∈ sv
theorem Held.of (C : Cfg w G F lab σ H e ts) : ∀ {vs : List Nat}, ownOk vs e = true → ∃ sv : List (V × Val), Held w σ e sv vs ∧ ∀ p ∈ sv, Den w F p.1 p.2
  | [], _ => ⟨[], fun i h => by simp at h, fun p h => by simp at h⟩
  | i :: is, h => by
    unfold ownOk at h
    rw [List.all_cons, Bool.and_eq_true] at h
    obtain ⟨sv, h1, h2⟩ := Held.of C (vs := is) h.2
    have hd := h.1
    cases ei : e[i]? with
    | none => rw [ei] at hd; cases hd
    | some p =>
      rw [ei] at hd
      have eg : e.getD i .hole = p := by rw [List.getD_eq_getElem?_getD, ei]; rfl
      cases p with
      | hole =>
        refine ⟨sv, fun j hj => ?_, h2⟩
        rcases List.mem_cons.mp hj with z | z
        · subst z; exact .inl eg
        · exact h1 j z
      | val x =>
        rcases C.slots i _ ei with z | ⟨v, hv, R⟩
        · cases z
        · simp only [Rep] at R
          refine ⟨(v, x) :: sv, fun j hj => ?_, fun p hp => ?_⟩
          · rcases List.mem_cons.mp hj with z | z
            · subst z; exact .inr ⟨v, x, eg, hv, List.mem_cons_self⟩
            · rcases h1 j z with q | ⟨v', x', q1, q2, q3⟩
              · exact .inl q
              · exact .inr ⟨v', x', q1, q2, List.mem_cons_of_mem _ q3⟩
          · rcases List.mem_cons.mp hp with z | z
            · subst z; exact R
            · exact h2 p z
      | lst _ => cases hd
      | lstP _ => cases hd
      | dct _ => cases hd
      | ins _ _ => cases hd
      | rcd _ => cases hd
theorem Cfg.pushL (C : Cfg w G F lab σ H e ts) : ∀ {sv : List (V × Val)}, (∀ p ∈ sv, Den w F p.1 p.2) → Cfg w G F lab σ H e (srcT sv ++ ts)
  | [], _ => C
  | p :: sv, h => Cfg.push (Cfg.pushL C fun q hq => h q (List.mem_cons_of_mem _ hq)) (h p List.mem_cons_self)
theorem Cfg.leave {sv : List (V × Val)} (C : Cfg w (G.open vs) F lab σ' H e ts) (hw : L2.wipe σ' vs = L2.wipe σ vs) (hk : ∀ i v, G.keep i = some v → σ[i]? = some (some v)) (hh : Held w σ e0 sv vs) (hm : ∀ p ∈ sv, Den w F p.1 p.2) : Cfg w G F lab σ H (restE e0 vs e) ts := { C with
  slots := fun i p h => by
    rcases restE_get h with ⟨z1, z2⟩ | ⟨z1, z2⟩
    · subst z2
      rcases hh i z1 with q | ⟨v, x, q1, q2, q3⟩
      · rw [q]; exact .inl rfl
      · rw [q1]
        refine .inr ⟨v, q2, ?_⟩
        simp only [Rep]
        exact hm _ q3
    · have : σ'[i]? = σ[i]? := by rw [← wipe_out (σ := σ') z1, hw, wipe_out z1]
      rw [← this]; exact C.slots i p z2
  keep := hk
  len := by
    have h1 := congrArg List.length hw
    rw [wipe_length, wipe_length] at h1
    rw [restE_length, C.len, h1] }
end
section
variable {X : Cx} {W : WX} {w : Wd} {c : Ctx} {tg iter elt : Expr} {pos : Pos} {k : SrcK} {src : List IE} {t : Tgt} {ifs : List Expr} {iifs : List IE} {ie : IE} {scope : Scope} {own : List (Str × Nat)}
structure SndIfs (X : Cx) (W : WX) (w : Wd) (c : Ctx) (ifs : List Expr) (iifs : List IE) : Prop where
  pts : PTs X ifs (tT w W (smps iifs) (evIfs c iifs))
theorem ifs_nil : SndIfs X W w c [] [] := ⟨⟨fun pins s σ H Q I h => pts_nil.run pins s σ H Q I (by
  obtain ⟨G, en, ts, C, h⟩ := h
  simp only [evIfs] at h
  exact h H C fun _ => Same.refl _)⟩⟩
theorem ifs_one {a : Expr} {ia : IE} (ha : Snd X W w c a ia) : SndIfs X W w c [a] [ia] := ⟨⟨fun pins s σ H Q I h => (pts_one ha.pt).run pins s σ H Q I (by
  obtain ⟨G, en, ts, C, h⟩ := h
  refine ⟨G, en, ts, C, ?_⟩
  simp only [evIfs, smps] at h
  rw [Bool.and_true] at h
  cases m : tst (evO c ia en) with
  | stuck => rw [m] at h; exact h.elim
  | exn y e1 => rw [m] at h; show RT w G W (smp ia) σ H ts Q (tst (evO c ia en)); rw [m]; exact h
  | ok k e1 =>
    rw [m] at h
    show RT w G W (smp ia) σ H ts Q (tst (evO c ia en))
    rw [m]
    cases k with
    | true => exact h
    | false => exact h)⟩⟩
abbrev WF : WX := fun _ _ _ _ => False
theorem asgT_in {vs : List Nat} {v : Val} {e e1 : Env} (h : asgT (fun i => !vs.contains i) t v e = some e1) : ∀ i ∈ slotsT t, i ∈ vs := by
  have one : ∀ {i : Nat} {p : Pl} {e e1 : Env}, setT (fun i => !vs.contains i) i p e = some e1 → i ∈ vs := fun {i p e e1} h => by
    unfold setT at h
    split at h
    · rename_i hc
      simp only [Bool.not_not, Bool.and_eq_true, decide_eq_true_eq] at hc
      simpa using hc.1
    · cases h
  cases t with
  | nm i =>
      intro j hj
      have : j = i := by simpa [slotsT] using hj
      subst this
      exact one h
  | tp is =>
    simp only [asgT] at h
    cases hv : itemsOf v with
    | none => rw [hv] at h; cases h
    | some xs =>
      rw [hv] at h
      simp only [Option.bind_some] at h
      have many : ∀ {is : List Nat} {ps : List Pl} {e e1 : Env}, setTs (fun i => !vs.contains i) is ps e = some e1 → ∀ i ∈ is, i ∈ vs := by
        intro is
        induction is with
        | nil => intro ps e e1 _ i hi; simp at hi
        | cons j is ih =>
          intro ps e e1 h i hi
          cases ps with
          | nil => simp [setTs] at h
          | cons p ps =>
            simp only [setTs] at h
            cases h1 : setT (fun i => !vs.contains i) j p e with
            | none => rw [h1] at h; cases h
            | some e2 =>
              rw [h1] at h
              rcases List.mem_cons.mp hi with z | z
              · subst z; exact one h1
              · exact ih (by simpa using h) i z
      exact many h
theorem setOn_wipe {l vs : List Nat} {σ σ2 : L2.St} (h : SetOn l (wipe σ vs) σ2) (hl : ∀ i ∈ l, i ∈ vs) : wipe σ2 vs = wipe σ vs := by
  refine wipe_eq (by rw [h.1, wipe_length]) fun i hi => ?_
  rw [h.2 i (fun z => hi (hl i z)), wipe_out hi]
theorem evO_lc {vs : List Nat} {e : Env} : evO c (.lc vs t k src iifs ie) e = (evSrc c k src e).bind fun items e => if ownOk vs e then ((lcGo (fun v e => asgT (fun i => !vs.contains i) t v (wipeE vs e)) (evIfs c iifs) (fun e => (evO c ie e).bind freeze) items e []).bind fun xs e1 => Out.ok (.tmp (.lst xs)) (restE e vs e1)).noX else .stuck := by
  simp only [evO, evSrc]
  cases evXs c src e with
  | stuck => rfl
  | exn x e1 => rfl
  | ok ss e1 =>
    simp only [Out.bind_ok]
    cases srcV k ss <;> rfl
theorem Same.updNew {H H1 : Hp} {D : Addr} {o : HO} (s : Same H H1) (h : H1 D = none) : Same H (upd H1 D o) := s.trans (same_new h)
theorem lc_reads (g : Gd w W X) {σ : L2.St} {H : Hp} {Q : VK} {vs : List Nat} (h : tO w W (smp (.lc vs t k src iifs ie)) (evO c (.lc vs t k src iifs ie)) σ H Q) :
    tLc (tIt w W (smps src) (evSrc c k src)) (gT w.K t) (tT w WF (smps iifs) (evIfs c iifs)) (tO w WF (smp ie) (evO c ie)) vs σ H Q := by
  obtain ⟨G, en, ts, C, h⟩ := h
  rw [evO_lc] at h
  refine ⟨G, en, ts, C, ?_⟩
  cases m : evSrc c k src en with
  | stuck => rw [m] at h; exact h
  | exn y e1 => rw [m] at h; exact h
  | ok items e1 =>
    rw [m] at h
    simp only [Out.bind_ok] at h
    intro H1 J sv ok C1 s1 D hD
    by_cases hown : ownOk vs e1 = true
    · rw [if_pos hown] at h
      cases mg : lcGo (fun v e => asgT (fun i => !vs.contains i) t v (wipeE vs e)) (evIfs c iifs) (fun e => (evO c ie e).bind freeze) items e1 [] with
      | stuck => rw [mg] at h; exact h.elim
      | exn y e2 => rw [mg] at h; exact h.elim
      | ok xs eF =>
        rw [mg] at h
        have h : RO w G W (smp (.lc vs t k src iifs ie)) σ H ts Q (.ok (.tmp (.lst xs)) (restE e1 vs eF)) := h
        obtain ⟨F1, lab1, C1⟩ := C1
        obtain ⟨svo, hh, hd⟩ := Held.of C1 hown
        have keep := C1.keep
        have C2 : Cfg w (G.open vs) F1 lab1 σ H1 e1 (srcT svo ++ (srcT sv ++ ts)) := (C1.pushL hd).open
        have C3 := C2.newO (p := D) (o := .lst []) hD (pl := .lst []) (rep_lst .nil)
        let TS := srcT svo ++ (srcT sv ++ ts)
        have hkeepS : smp (.lc vs t k src iifs ie) = true → smps src = true ∧ smps iifs = true ∧ smp ie = true := fun z => by
          simp only [smp, Bool.and_eq_true] at z
          exact ⟨z.1.1, z.1.2, z.2⟩
        -- the turns
        refine ⟨fun i m Hh => m = items.length - i ∧ i ≤ items.length ∧ ∃ e acc σ', wipe σ' vs = wipe σ vs ∧ CfgE w (G.open vs) σ' Hh e ((.ref D, .lst acc) :: TS) ∧ (smp (.lc vs t k src iifs ie) = true → Same H Hh) ∧
            lcGo (fun v e => asgT (fun i => !vs.contains i) t v (wipeE vs e)) (evIfs c iifs) (fun e => (evO c ie e).bind freeze) (items.drop i) e acc = .ok xs eF, ⟨items.length, by simp, Nat.zero_le _, e1, [], σ, rfl, C3, fun z => Same.updNew (s1 (hkeepS z).1) hD, by simpa using mg⟩, ?_⟩
        rintro i m H2 ⟨rfl, hi, e, acc, σ', hw, C4, sH, hgo⟩
        have memS : ∀ p ∈ sv, (p.1, Pl.val p.2) ∈ ((V.ref D, Pl.lst acc) :: TS) := fun p hp => List.mem_cons_of_mem _ (List.mem_append_right _ (mem_srcT hp))
        obtain ⟨F4, lab4, C4⟩ := C4
        by_cases hlt : i < items.length
        · refine .inr ?_
          have hy : items[i]? = some items[i] := List.getElem?_eq_getElem hlt
          have hdr : items.drop i = items[i] :: items.drop (i + 1) := List.drop_eq_getElem_cons hlt
          rw [hdr] at hgo
          have C5 := C4.wipe
          rw [hw] at C5
          obtain ⟨go, yl⟩ := ok.go C5 memS i _ hy
          refine ⟨go, fun Hh => i + 1 ≤ items.length ∧ ∃ e acc σ', wipe σ' vs = wipe σ vs ∧ CfgE w (G.open vs) σ' Hh e ((.ref D, .lst acc) :: TS) ∧ (smp (.lc vs t k src iifs ie) = true → Same H Hh) ∧
            lcGo (fun v e => asgT (fun i => !vs.contains i) t v (wipeE vs e)) (evIfs c iifs) (fun e => (evO c ie e).bind freeze) (items.drop (i + 1)) e acc = .ok xs eF, fun H' ⟨q1, q2⟩ => ⟨_, by omega, rfl, q1, q2⟩, fun x H' y => ?_⟩
          obtain ⟨C6, s6⟩ := yl x H' y
          simp only [lcGo] at hgo
          cases ha : asgT (fun i => !vs.contains i) t items[i] (wipeE vs e) with
          | none => rw [ha] at hgo; cases hgo
          | some e3 =>
            rw [ha] at hgo
            simp only at hgo
            have hpin : PinOk (fun i => !vs.contains i) (G.open vs) := fun i hi => by
              have hi : i ∈ vs := by simpa using hi
              show (if i ∈ vs then none else G.keep i) = none
              rw [if_pos hi]
            refine gT_sem hpin C6 ha fun σ2 hset C7 => ?_
            have hw2 := setOn_wipe hset (asgT_in ha)
            refine ⟨hw2, G.open vs, e3, _, C7, ?_⟩
            cases mi : evIfs c iifs e3 with
            | stuck => rw [mi] at hgo; cases hgo
            | exn z e4 => rw [mi] at hgo; cases hgo
            | ok b e4 =>
              rw [mi] at hgo
              simp only [Out.bind_ok] at hgo
              intro H3 C8 s8
              cases b with
              | false =>
                rw [if_neg Bool.false_ne_true] at hgo ⊢
                exact ⟨hlt, e4, acc, σ2, hw2, C8, fun z => ((sH z).trans s6).trans (s8 (hkeepS z).2.1), hgo⟩
              | true =>
                rw [if_pos rfl] at hgo ⊢
                refine ⟨G.open vs, e4, _, C8, RO.toX ?_⟩
                cases me : (evO c ie e4).bind freeze with
                | stuck => rw [me] at hgo; cases hgo
                | exn z e5 => rw [me] at hgo; cases hgo
                | ok x5 e5 =>
                  rw [me] at hgo
                  simp only [Out.bind_ok] at hgo
                  intro H4 v4 ⟨F9, lab9, C9⟩ s9
                  by_cases hz : acc.length < line
                  · rw [if_pos hz] at hgo
                    have d9 := C9.temps.1
                    simp only [Rep] at d9
                    have C10 := C9.drop
                    have R10 := C10.temps.1
                    simp only [Rep] at R10
                    obtain ⟨a, vsD, eD, hA, hH, dd⟩ := R10
                    cases eD
                    have C11 := C10.write (a := D) (o := .lst (vsD ++ [v4])) (q := .lst (acc ++ [x5])) hA (by
                      simp only [Rep]
                      exact ⟨D, _, rfl, hA, upd_same, dd.append (.cons d9 .nil)⟩)
                    refine ⟨vsD, hH, by rw [dd.length, ← line_eq]; exact hz, hlt, e5, acc ++ [x5], σ2, hw2, ⟨_, _, C11⟩, fun z => ?_, hgo⟩
                    have hs3 : Same H H3 := ((sH z).trans s6).trans (s8 (hkeepS z).2.1)
                    have hs4 := hs3.trans (s9 (hkeepS z).2.2)
                    have nD : H D = none := (s1 (hkeepS z).1).free hD
                    intro b o hb
                    rw [upd_ne (fun q => by subst q; rw [nD] at hb; cases hb)]
                    exact hs4 _ _ hb
                  · rw [if_neg hz] at hgo; cases hgo
        · have hi' : i = items.length := by omega
          subst hi'
          refine .inl ⟨ok.stop C4 memS, ?_⟩
          simp only [List.drop_length, lcGo, Out.ok.injEq] at hgo
          obtain ⟨rfl, rfl⟩ := hgo
          have hm : ∀ p ∈ svo, Den w F4 p.1 p.2 := fun p hp => C4.mem (List.mem_cons_of_mem _ (mem_srcT hp))
          have C5 := C4.leave hw keep hh hm
          have C6 : CfgE w G σ H2 (restE e1 vs e) ((.ref D, .lst acc) :: ts) := by
            have C7 : CfgE w G σ H2 (restE e1 vs e) ((.ref D, .lst acc) :: ((srcT svo ++ srcT sv) ++ ts)) := ⟨F4, lab4, by rw [List.append_assoc]; exact C5⟩
            exact C7.dropM
          exact h H2 (.ref D) C6 has_self sH
    · rw [if_neg hown] at h; exact h.elim
theorem gd_blk (g : Gd w W X) (s : Shared) (H : Hp) (cenv : PySem.Env) (fp : List Addr) : Gd w WF (X.blk s H scope cenv fp) :=
  { K := g.K, calm := g.calm, hu := g.hu, gd := g.gd, nd := g.nd, cls := g.cls, tk := fun u s' ⟨a, B, sI, pins, σ, H, cls, d, e, I, nb, up, sky, na, os, ag, z⟩ => z }
theorem snd_lc (g : Gd w W X) (hi : SndIt X W w c tg iter k src) (ok : BlkOk X.N X.env.scope scope own)
    (ht : ∀ s H C cl fp, SndT w (X.blk s H scope (compEnvC scope cl C X.env) fp) tg t)
    (hf : ∀ s H C cl fp, SndIfs (X.blk s H scope (compEnvC scope cl C X.env) fp) WF w c ifs iifs)
    (he : ∀ s H C cl fp, Snd (X.blk s H scope (compEnvC scope cl C X.env) fp) WF w c elt ie)
    (hs : ∀ x, foldedSetIterable iter X.env x = pure x) : Snd X W w c (.ListComp elt [⟨tg, iter, ifs, 0⟩] scope pos) (.lc (own.map (·.2)) t k src iifs ie) :=
  snd_plain g (PE.imp (pe_lc g.calm g.nd hi.pi ok (fun s H C cl fp => (ht s H C cl fp).pg) (fun s H C cl fp => (hf s H C cl fp).pts) (fun s H C cl fp => (he s H C cl fp).pe) hs) fun σ H Q h => lc_reads g h) fun _ => rfl
/-- name = [..] on one line -/
theorem sndv_lc (g : Gd w W X) {i : Nat} {y : Str} {py spos : Pos} (hy : X.N[i]? = some y) (hyl : X.env.scope.names.lookup y = some .local)
    (hsw : swapsWith (.ListComp elt [⟨tg, iter, ifs, 0⟩] scope pos) (some (.Name y py)) spos.line X.env = pure true) (hi : SndIt X W w c tg iter k src) (ok : BlkOk X.N X.env.scope scope own)
    (ht : ∀ s H C cl fp, SndT w (X.blk s H scope (compEnvC scope cl C X.env) fp) tg t)
    (hf : ∀ s H C cl fp, SndIfs (X.blk s H scope (compEnvC scope cl C X.env) fp) WF w c ifs iifs)
    (he : ∀ s H C cl fp, Snd (X.blk s H scope (compEnvC scope cl C X.env) fp) WF w c elt ie)
    (hs : ∀ x, foldedSetIterable iter X.env x = pure x) : SndV X W w c y py (.ListComp elt [⟨tg, iter, ifs, 0⟩] scope pos) spos i (.lc (own.map (·.2)) t k src iifs ie) :=
  ⟨PS.imp (ps_setLc g.calm g.nd hy hyl hsw hi.pi ok (fun s H C cl fp => (ht s H C cl fp).pg) (fun s H C cl fp => (hf s H C cl fp).pts) (fun s H C cl fp => (he s H C cl fp).pe) hs) fun D σ H h => lc_reads g h⟩
end
end Ev
namespace Ev
open PySem PySem.Spec PyProof.Rows L2
/-- a list (true) or a tuple -/
def SqB (K : PySem.W.Frag) (k : Bool) (H : Hp) (a : Addr) (xs : List V) : Prop := match k with
  | true => SqL K H a xs
  | false => SqT K H a xs
def ItB (k : Bool) (h : Heap) (it a : Addr) (i : Nat) : Prop := match k with
  | true => h.IsListIter it a i
  | false => h.IsTupleIter it a i
def SeqB (k : Bool) (h : Heap) (a : Addr) (items : Array Value) : Prop := match k with
  | true => h.IsList a items
  | false => h.IsTuple a items
def itO (k : Bool) (a : Addr) : Obj := match k with
  | true => { cls := .type "list_iterator", data := .fields #[.ref a, .int 0 0] }
  | false => { cls := .type "tuple_iterator", data := .fields #[.ref a, .int 0 0] }
theorem drawsB {prog : Program} {w : World} {A : Around} (hh : A.handled = none) (k : Bool) (it a : Addr) (hne : a ≠ it) (items : Array Value) : Draws prog w A it [it, a] items.size (fun i v => items[i]? = some v) (fun i h => ItB k h it a i ∧ SeqB k h a items) := by
  cases k
  · exact Draws.tuple hh it a hne items
  · exact Draws.list hh it a hne items
theorem beginsB (k : Bool) (a : Addr) (items : Array Value) : Begins (.ref a) (itO k a) fun h => SeqB k h a items := by
  cases k
  · exact begins_tuple a items
  · exact begins_list a items
theorem itB_new {k : Bool} {h : Heap} {it a : Addr} (e : h.get? it = some (itO k a)) : ItB k h it a 0 := by
  cases k
  · exact ⟨_, e, rfl, rfl⟩
  · exact ⟨_, e, rfl, rfl⟩
theorem itB_at {k : Bool} {h h' : Heap} {it a : Addr} {i : Nat} (x : ItB k h it a i) (e : ∀ o, h.get? it = some o → h'.get? it = some o) : ItB k h' it a i := by
  cases k
  · exact Heap.IsTupleIter.at x e
  · exact Heap.IsListIter.at x e
theorem itB_ob {k : Bool} {h : Heap} {it a : Addr} {i : Nat} (x : ItB k h it a i) : ∃ o, h.get? it = some o ∧ ∀ v, o.data ≠ .cell v := by
  cases k
  all_goals
    obtain ⟨o, e, _, d⟩ := x
    exact ⟨o, e, fun v q => by rw [d] at q; cases q⟩
theorem seqB_ob {k : Bool} {h : Heap} {a : Addr} {items : Array Value} (x : SeqB k h a items) : ∃ o, h.get? a = some o := by
  cases k
  all_goals (obtain ⟨o, e, _⟩ := x; exact ⟨o, e⟩)
section
variable {X : Cx} {pins : List (Addr × Obj)} {σ : L2.St} {H : Hp} {s : Shared} {k : Bool} {a : Addr} {xs ys : List V}
theorem inv_seqB (I : Inv X pins σ H s) (h : SqB X.K k H a xs) : ∃ its : List Value, Vals xs its ∧ SeqB k s.heap a its.toArray := by
  cases k
  · obtain ⟨its, r, p, _⟩ := I.tuple h
    exact ⟨its, r, p⟩
  · obtain ⟨its, r, p, _⟩ := I.list h
    exact ⟨its, r, p.isList⟩
theorem inv_seqB_inj (I : Inv X pins σ H s) (h : SqB X.K k H a xs) (h' : SqB X.K k H a ys) : xs = ys := by
  cases k
  · exact I.tuple_inj h h'
  · exact I.list_inj h h'
end
def ItzM (K : PySem.W.Frag) (k1 k2 : Bool) (a b : Addr) : It :=
  ⟨fun i H => ∃ xs ys x y, SqB K k1 H a xs ∧ SqB K k2 H b ys ∧ xs[i]? = some x ∧ ys[i]? = some y,
   fun i H v H' => ∃ T x y, v = .ref T ∧ H T = none ∧ H' = upd H T (.tup [x, y]) ∧ (∀ zs, SqB K k1 H a zs → zs[i]? = some x) ∧ ∀ zs, SqB K k2 H b zs → zs[i]? = some y,
   fun i H => ∃ xs ys : List V, SqB K k1 H a xs ∧ SqB K k2 H b ys ∧ i ≤ xs.length ∧ i ≤ ys.length ∧ (i = xs.length ∨ i = ys.length)⟩
theorem mem5 {c z TI TO i1 i2 : Addr} (h : c ∈ [z, TI, TO, i1, i2]) : c = z ∨ c = TI ∨ c = TO ∨ c = i1 ∨ c = i2 := by simpa using h
theorem turn_zipM {P : Program} {w : World} {K : PySem.W.Frag} {elts : List Expr} {kk : Nat} {tpos : Pos} {k1 k2 : Bool} {a b z TI TO i1 i2 : Addr} (D : ZipSep2 z TI TO i1 i2 [i1, a] [i2, b]) (na : a ≠ i1) (nb : b ≠ i2) :
    Turn P w K (.Tuple elts kk tpos) (ItzM K k1 k2 a b) [z, TI, TO, i1, i2] z (fun i h => IsZip h z TI TO .none ∧ IsTupOf2 h TI (.ref i1) (.ref i2) ∧ (∃ x y, IsTupOf2 h TO x y) ∧ ItB k1 h i1 a i ∧ ItB k2 h i2 b i) where
  mem := by simp
  obj := fun i h ⟨hz, hTI, ⟨x, y, hTO⟩, h1, h2⟩ c hc => by
    rcases mem5 hc with e | e | e | e | e <;> subst e
    · exact ⟨_, hz, nofun⟩
    · exact ⟨_, hTI, nofun⟩
    · exact ⟨_, hTO, nofun⟩
    · exact itB_ob h1
    · exact itB_ob h2
  keep := fun i h h' ⟨hz, hTI, ⟨x, y, hTO⟩, h1, h2⟩ kp => ⟨kp z (by simp) _ hz, kp TI (by simp) _ hTI, ⟨x, y, kp TO (by simp) _ hTO⟩, itB_at h1 (kp i1 (by simp)), itB_at h2 (kp i2 (by simp))⟩
  item := by
    intro X hP hw hK hc i pins s σ H E I hf ⟨hz, hTI, ⟨x0, y0, hTO⟩, h1, h2⟩ ⟨xs, ys, x, y, hqx, hqy, hx, hy⟩
    subst hP hw hK
    obtain ⟨its, rv, p⟩ := inv_seqB I hqx
    obtain ⟨its2, rv2, p2⟩ := inv_seqB I hqy
    obtain ⟨u, hu, ru⟩ := rv.get hx
    obtain ⟨u2, hu2, ru2⟩ := rv2.get hy
    have hhd : X.A.in1.handled = none := I.ok.hd hc
    have D1 := drawsB (prog := X.prog) (w := X.w) (A := X.A.in1) hhd k1 i1 a na its.toArray
    have D2 := drawsB (prog := X.prog) (w := X.w) (A := X.A.in1) hhd k2 i2 b nb its2.toArray
    have hzl : z < s.heap.objs.size := Heap.lt_size hz
    have q1 : i < its.toArray.size := by have := (List.getElem?_eq_some_iff.mp hu).1; simpa using this
    have q2 : i < its2.toArray.size := by have := (List.getElem?_eq_some_iff.mp hu2).1; simpa using this
    refine wpAny_pyNext_zipD2_item D D1 D2 hz hTI hTO ⟨h1, p⟩ ⟨h2, p2⟩ q1 q2 fun v1 v2 h' tk e1 e2 z' TO' n1 n2 hT hsz hk => ?_
    have e1 : its.toArray[i]? = some v1 := e1
    have e2 : its2.toArray[i]? = some v2 := e2
    have hv1 : v1 = u := by rw [List.getElem?_toArray, hu] at e1; exact (Option.some.inj e1).symm
    have hv2 : v2 = u2 := by rw [List.getElem?_toArray, hu2] at e2; exact (Option.some.inj e2).symm
    subst hv1 hv2
    refine ⟨_, rfl, wpAny_letOwnedTupleGo_zip (s := { s with heap := h', toks := tk }) z' fun h'' z'' sb => ?_⟩
    have hT2 : h''.get? s.heap.objs.size = some { cls := .type "tuple", data := .seq #[v1, v2] } := (sb.2 _ (Nat.ne_of_gt hzl)).trans hT
    have new : ObjOk X.prog X.w (upd H s.heap.objs.size (.tup [x, y])) h'' s.heap.objs.size (.tup [x, y]) := ⟨by show 2 ≤ sizeLine; decide, [v1, v2], .cons ru (.cons ru2 .nil), ⟨_, hT2, rfl, _, rfl⟩⟩
    have I1 : Inv X pins σ (upd H s.heap.objs.size (.tup [x, y])) { s with heap := h'', toks := tk } :=
      I.turnedNew (t' := tk) (ch := [z, TI, TO, i1, i2]) (fun c o hb q => (sb.2 c (fun z0 => hb (by simp [z0]))).trans (hk c o (fun z0 => hb (by simp [z0])) (fun z0 => hb (by simp [z0])) (fun z0 => hb (by simp [z0])) (fun z0 => hb (by simp [z0])) q)) hf (Nat.le_refl _) new
    refine ⟨.ref s.heap.objs.size, _, I1, rfl, ⟨_, x, y, rfl, I.hok.fresh (Nat.le_refl _), rfl, fun l hl => by rw [inv_seqB_inj I hl hqx]; exact hx, fun l hl => by rw [inv_seqB_inj I hl hqy]; exact hy⟩, ⟨z'', ?_, ⟨v1, v2, ?_⟩, ?_, ?_⟩, fun c hcm => ?_⟩
    · exact (sb.2 _ D.TIz).trans (hk _ _ D.TIz D.TITO D.TIi1 D.TIi2 hTI)
    · exact (sb.2 _ D.TOz).trans TO'
    · exact itB_at n1.1 fun o q => (sb.2 _ (fun e => D.zi1 e.symm)).trans q
    · exact itB_at n2.1 fun o q => (sb.2 _ (fun e => D.zi2 e.symm)).trans q
    · have hlt : c < s.heap.objs.size := by
        obtain ⟨o1, ho1, _⟩ := itB_ob h1
        obtain ⟨o2, ho2, _⟩ := itB_ob h2
        rcases mem5 hcm with e | e | e | e | e <;> subst e
        · exact hzl
        · exact Heap.lt_size hTI
        · exact Heap.lt_size hTO
        · exact Heap.lt_size ho1
        · exact Heap.lt_size ho2
      rw [upd_ne (Nat.ne_of_lt hlt)]
      exact (hf c hcm).1
  done := by
    intro X hP hw hK hc i pins s σ H E I hf ⟨hz, hTI, ⟨x0, y0, hTO⟩, h1, h2⟩ ⟨xs, ys, hqx, hqy, le1, le2, hend⟩
    subst hP hw hK
    obtain ⟨its, rv, p⟩ := inv_seqB I hqx
    obtain ⟨its2, rv2, p2⟩ := inv_seqB I hqy
    have l1 := rv.length
    have l2 := rv2.length
    have hhd : X.A.in1.handled = none := I.ok.hd hc
    have D1 := drawsB (prog := X.prog) (w := X.w) (A := X.A.in1) hhd k1 i1 a na its.toArray
    have D2 := drawsB (prog := X.prog) (w := X.w) (A := X.A.in1) hhd k2 i2 b nb its2.toArray
    refine wpAny_pyNext_zipD2_end D D1 D2 hz hTI hTO ⟨h1, p⟩ ⟨h2, p2⟩ (by simp only [List.size_toArray]; omega) (by simp only [List.size_toArray]; omega) (by simp only [List.size_toArray]; omega) fun h' tk hk => ⟨rfl, ?_⟩
    exact I.turnedL (t' := tk) (ch := [z, TI, TO, i1, i2]) (fun c o hb q => hk c o (fun z0 => hb (by simp [z0])) (fun z0 => hb (by simp [z0])) (fun z0 => hb (by simp [z0])) (fun z0 => hb (by simp [z0])) q) hf
  self := fun A i s Q E st h => wpAny_pyIter_zip st.1 h
def iZipM (K : PySem.W.Frag) (ta : TA) : TI := fun σ H R => ta σ H fun vs H1 => ∃ k1 k2 a b xs ys, vs = [.ref a, .ref b] ∧ SqB K k1 H1 a xs ∧ SqB K k2 H1 b ys ∧ R (ItzM K k1 k2 a b) H1
theorem pi_zipM {X : Cx} {e e2 : Expr} {ta : TA} {p pos tpos : Pos} {elts : List Expr} {kk : Nat} (hg : Gl X "zip") (hm : X.mg "zip" = none) (ha : PA X [e, e2] ta)
    (hs : starEach [e, e2] X.env = (false, eval e X.env) :: starEach [e2] X.env) (hpl : (backTo pos (starEach [e2] X.env)).any (·.1) = false) :
    PI X (.Tuple elts kk tpos) (.Call (.Name "zip" p) [e, e2] [] pos) (iZipM X.K ta) := by
  refine ⟨fun pins s σ H R I h => ?_⟩
  refine Call_ (ld_blt I hg hm PyProof.Rows.boot_zip (PyProof.Rows.callWith_type1 (thn (ha.run pos pins s σ H _ I h) fun us s1 ⟨vs, H1, I1, r1, k1, k2, a, b, xs, ys, ex, hqx, hqy, q⟩ => ?_) hs hpl))
  subst ex
  cases r1 with
  | cons r rr =>
    cases rr with
    | cons r' rr =>
      cases rr
      cases r; cases r'
      have fresh5 : ∀ c, c ∈ [s1.heap.objs.size + 4, s1.heap.objs.size + 2, s1.heap.objs.size + 3, s1.heap.objs.size, s1.heap.objs.size + 1] → FpOk X pins H1 c := fun c hcm => by
        have hle : s1.heap.objs.size ≤ c := by
          rcases mem5 hcm with z | z | z | z | z <;> rw [z]
          all_goals first | exact Nat.le_add_right _ _ | exact Nat.le_refl _
        exact I1.fpOk hle (I1.hok.fresh hle)
      obtain ⟨its, rv, p1⟩ := inv_seqB I1 hqx
      obtain ⟨its2, rv2, p2⟩ := inv_seqB I1 hqy
      obtain ⟨o1, ho1⟩ := seqB_ob p1
      obtain ⟨o2, ho2⟩ := seqB_ob p2
      have la : a < s1.heap.objs.size := Heap.lt_size ho1
      have lb : b < s1.heap.objs.size := Heap.lt_size ho2
      refine zip_begins2 (beginsB k1 a its.toArray) (beginsB k2 b its2.toArray) p1 p2 fun h' hz hTI hTO h1 h2 hsz hk => wpAny_pyIter_zip hz ?_
      have I2 : Inv X pins σ H1 { s1 with heap := h' } := I1.kept (t' := s1.toks) hk
      have sep := zip_sep2 (N := s1.heap.objs.size) (fp1 := [a]) (fp2 := [b]) (fun c hc => by rw [List.mem_singleton.mp hc]; exact la) (fun c hc => by rw [List.mem_singleton.mp hc]; exact lb)
      exact ⟨s1.heap.objs.size + 4, [s1.heap.objs.size + 4, s1.heap.objs.size + 2, s1.heap.objs.size + 3, s1.heap.objs.size, s1.heap.objs.size + 1], _, _, H1, rfl, I2,
        turn_zipM sep (Nat.ne_of_lt la) (Nat.ne_of_lt (Nat.lt_succ_of_lt lb)), ⟨hz, hTI, ⟨_, _, hTO⟩, itB_new h1, itB_new h2⟩, fresh5, q⟩
end Ev
namespace Ev
open PySem PySem.Spec L2
section
variable {w : Wd} {G : Ground} {F : Hp} {lab : Addr → Option Lab} {σ : L2.St} {H : Hp} {e : Env} {ts : List (V × Pl)}
/-- a list's or a tuple's items by its value -/
def seqL : Val → Option (List Val)
  | .lst xs => some xs
  | .fzl xs => some xs
  | _ => none
def seqT : Val → Option (List Val)
  | .tup xs => some xs
  | _ => none
theorem den_seqL {v : V} {x : Val} {xs : List Val} (d : Den w F v x) (h : seqL x = some xs) : ∃ a vs, v = .ref a ∧ SqL w.K F a vs ∧ Dens w F vs xs := by
  cases d with
  | lst h1 dd => cases h; exact ⟨_, _, rfl, .inl (.inl h1), dd⟩
  | fzl h1 dd => cases h; exact ⟨_, _, rfl, h1, dd⟩
  | _ => cases h
theorem den_seqT {v : V} {x : Val} {xs : List Val} (d : Den w F v x) (h : seqT x = some xs) : ∃ a vs, v = .ref a ∧ SqT w.K F a vs ∧ Dens w F vs xs := by
  cases d with
  | tup h1 dd => cases h; exact ⟨_, _, rfl, h1, dd⟩
  | _ => cases h
theorem it_list {a : Addr} {x : Val} {xs : List Val} (h : seqL x = some xs) : ItOk w (Itl w.K a) [(.ref a, x)] xs := by
  refine ⟨fun {G F lab σ H e ts} C m => ?_, fun {G F lab σ H e ts} C m i y hy => ?_⟩
  · obtain ⟨a', vs, e1, h1, dd⟩ := den_seqL (C.mem (m _ List.mem_cons_self)) h
    cases e1
    exact ⟨vs, C.fH.seq h1, by rw [dd.length]; exact Nat.le_refl _⟩
  · obtain ⟨a', vs, e1, h1, dd⟩ := den_seqL (C.mem (m _ List.mem_cons_self)) h
    cases e1
    obtain ⟨u, hu, du⟩ := dd.get hy
    refine ⟨⟨vs, u, C.fH.seq h1, hu⟩, fun x' H' ⟨eH, q⟩ => ?_⟩
    have := q vs (C.fH.seq h1)
    rw [hu] at this; cases this
    subst eH
    exact ⟨⟨F, lab, C.push du⟩, Same.refl _⟩
theorem it_tup {a : Addr} {x : Val} {xs : List Val} (h : seqT x = some xs) : ItOk w (Itt w.K a) [(.ref a, x)] xs := by
  refine ⟨fun {G F lab σ H e ts} C m => ?_, fun {G F lab σ H e ts} C m i y hy => ?_⟩
  · obtain ⟨a', vs, e1, h1, dd⟩ := den_seqT (C.mem (m _ List.mem_cons_self)) h
    cases e1
    exact ⟨vs, sqT_mono C.fH h1, by rw [dd.length]; exact Nat.le_refl _⟩
  · obtain ⟨a', vs, e1, h1, dd⟩ := den_seqT (C.mem (m _ List.mem_cons_self)) h
    cases e1
    obtain ⟨u, hu, du⟩ := dd.get hy
    refine ⟨⟨vs, u, sqT_mono C.fH h1, hu⟩, fun x' H' ⟨eH, q⟩ => ?_⟩
    have := q vs (sqT_mono C.fH h1)
    rw [hu] at this; cases this
    subst eH
    exact ⟨⟨F, lab, C.push du⟩, Same.refl _⟩
theorem rev_get {α : Type} {xs : List α} {i : Nat} {y : α} (h : xs.reverse[i]? = some y) : i < xs.length ∧ xs[xs.length - 1 - i]? = some y := by
  have hi : i < xs.length := by
    have := (List.getElem?_eq_some_iff.mp h).1
    simpa using this
  exact ⟨hi, by rw [← List.getElem?_reverse hi]; exact h⟩
theorem it_revL {a : Addr} {x : Val} {xs : List Val} {n : Nat} (h : seqL x = some xs) (hn : n = xs.length) : ItOk w (Itv w.K a n) [(.ref a, x)] xs.reverse := by
  subst hn
  refine ⟨fun {G F lab σ H e ts} C m => by simp [Itv], fun {G F lab σ H e ts} C m i y hy => ?_⟩
  obtain ⟨a', vs, e1, h1, dd⟩ := den_seqL (C.mem (m _ List.mem_cons_self)) h
  cases e1
  obtain ⟨hi, hy⟩ := rev_get hy
  obtain ⟨u, hu, du⟩ := dd.get hy
  refine ⟨⟨hi, vs, u, C.fH.seq h1, hu⟩, fun x' H' ⟨eH, q⟩ => ?_⟩
  have := q vs (C.fH.seq h1)
  rw [hu] at this; cases this
  subst eH
  exact ⟨⟨F, lab, C.push du⟩, Same.refl _⟩
theorem it_revT {a : Addr} {x : Val} {xs : List Val} {n : Nat} (h : seqT x = some xs) (hn : n = xs.length) : ItOk w (RT.ItvT w.K a n) [(.ref a, x)] xs.reverse := by
  subst hn
  refine ⟨fun {G F lab σ H e ts} C m => by simp [RT.ItvT], fun {G F lab σ H e ts} C m i y hy => ?_⟩
  obtain ⟨a', vs, e1, h1, dd⟩ := den_seqT (C.mem (m _ List.mem_cons_self)) h
  cases e1
  obtain ⟨hi, hy⟩ := rev_get hy
  obtain ⟨u, hu, du⟩ := dd.get hy
  refine ⟨⟨hi, vs, u, sqT_mono C.fH h1, hu⟩, fun x' H' ⟨eH, q⟩ => ?_⟩
  have := q vs (sqT_mono C.fH h1)
  rw [hu] at this; cases this
  subst eH
  exact ⟨⟨F, lab, C.push du⟩, Same.refl _⟩
/-- a new tuple, as a value -/
theorem Cfg.newTup (C : Cfg w G F lab σ H e ts) {T : Addr} {vs : List V} {xs : List Val} (hT : H T = none) (d : Dens w F vs xs) : CfgE w G σ (upd H T (.tup vs)) e ((.ref T, .val (.tup xs)) :: ts) ∧ Same H (upd H T (.tup vs)) := by
  have f := C.newF (o := .tup vs) hT
  have eF : Same F (upd F T (.tup vs)) := same_new (C.fresh hT).1
  exact ⟨⟨_, _, f.push (.tup (.inl (.inl upd_same)) (Dens.mono eF d))⟩, same_new hT⟩
theorem it_enum {a : Addr} {x : Val} {xs : List Val} (h : seqL x = some xs) : ItOk w (Ite w.K a) [(.ref a, x)] (xs.zipIdx.map fun p => .tup [.int (p.2 : Nat), p.1]) := by
  refine ⟨fun {G F lab σ H e ts} C m => ?_, fun {G F lab σ H e ts} C m i y hy => ?_⟩
  · obtain ⟨a', vs, e1, h1, dd⟩ := den_seqL (C.mem (m _ List.mem_cons_self)) h
    cases e1
    exact ⟨vs, C.fH.seq h1, by rw [dd.length]; simp⟩
  · obtain ⟨a', vs, e1, h1, dd⟩ := den_seqL (C.mem (m _ List.mem_cons_self)) h
    cases e1
    have hz : ∃ z, xs[i]? = some z ∧ y = .tup [.int (i : Nat), z] := by
      rw [List.getElem?_map, List.getElem?_zipIdx] at hy
      cases ex : xs[i]? with
      | none => rw [ex] at hy; simp at hy
      | some z => rw [ex] at hy; simp at hy; exact ⟨z, rfl, hy.symm⟩
    obtain ⟨z, hz, rfl⟩ := hz
    obtain ⟨u, hu, du⟩ := dd.get hz
    refine ⟨⟨vs, u, C.fH.seq h1, hu⟩, fun x' H' ⟨T, z', e1, hT, eH, q⟩ => ?_⟩
    have := q vs (C.fH.seq h1)
    rw [hu] at this; cases this
    subst eH e1
    exact C.newTup hT (.cons (.int _) (.cons du .nil))
theorem zip_get {xs ys : List Val} {i : Nat} {y : Val} (hy : ((xs.zip ys).map fun p => Val.tup [p.1, p.2])[i]? = some y) : ∃ z z', xs[i]? = some z ∧ ys[i]? = some z' ∧ y = .tup [z, z'] := by
  rw [List.getElem?_map] at hy
  cases ez : (xs.zip ys)[i]? with
  | none => rw [ez] at hy; simp at hy
  | some p =>
    rw [ez] at hy
    obtain ⟨z, z'⟩ := p
    have := List.getElem?_zip_eq_some.mp ez
    exact ⟨z, z', this.1, this.2, by simpa using hy.symm⟩
theorem it_str {z : Str} : ItOk w (Its z) [] (z.cps.toList.map fun c => .str ⟨#[c]⟩) := by
  refine ⟨fun {G F lab σ H e ts} C m => by simp [Its], fun {G F lab σ H e ts} C m i y hy => ?_⟩
  rw [List.getElem?_map] at hy
  cases hc : z.cps.toList[i]? with
  | none => rw [hc] at hy; simp at hy
  | some c =>
    rw [hc] at hy
    simp at hy
    subst hy
    have hc' : z.cps[i]? = some c := by simpa using hc
    refine ⟨(Array.getElem?_eq_some_iff.mp hc').1, fun x' H' ⟨eH, c', e1, e2⟩ => ?_⟩
    rw [hc'] at e1; cases e1
    subst eH e2
    exact ⟨⟨F, lab, C.push (.str _)⟩, Same.refl _⟩
theorem it_rng {lo : Int} {n : Nat} : ItOk w (Itr lo n) [] ((List.range n).map fun (k : Nat) => .int (lo + (k : Int))) := by
  refine ⟨fun {G F lab σ H e ts} C m => by simp [Itr], fun {G F lab σ H e ts} C m i y hy => ?_⟩
  rw [List.getElem?_map] at hy
  by_cases hi : i < n
  · rw [List.getElem?_range hi] at hy
    simp at hy
    subst hy
    refine ⟨hi, fun x' H' ⟨eH, ex⟩ => ?_⟩
    subst eH ex
    exact ⟨⟨F, lab, C.push (.int _)⟩, Same.refl _⟩
  · rw [List.getElem?_eq_none (by simp; omega)] at hy; simp at hy
end
section
variable {X : Cx} {W : WX} {w : Wd} {c : Ctx} {tg a b : Expr} {pos p : Pos} {ia ib : IE}
def iSeq (K : PySem.W.Frag) (tl : TE) : TI := fun σ H R => tl σ H fun x H1 => (∃ a xs, x = .ref a ∧ ((SqL K H1 a xs ∧ R (Itl K a) H1) ∨ (SqT K H1 a xs ∧ R (Itt K a) H1))) ∨ ∃ z, x = .str z ∧ R (Its z) H1
theorem pi_seq {l : Expr} {tl : TE} (hl : PE X l tl) : PI X tg l (iSeq X.K tl) := by
  refine ⟨fun pins s σ H R I h => ?_⟩
  refine thn (hl.run pins s σ H _ I h) fun v s1 ⟨x, H1, I1, r1, q1⟩ => ?_
  rcases q1 with q1 | ⟨z, e, q⟩
  rotate_left
  · subst e
    obtain ⟨t, rfl⟩ := r1
    cases ha : z.cps.all (· < 128)
    · exact wpAny_pyIter_wide ha (pi_one (tk := s1.toks) I1 _ (turn_str _ z t "str_iterator" (.inr rfl)) ⟨_, Heap.get?_push_size _ rfl, rfl, rfl⟩ q)
    · exact wpAny_pyIter_ascii ha (pi_one (tk := s1.toks) I1 _ (turn_str _ z t "str_ascii_iterator" (.inl rfl)) ⟨_, Heap.get?_push_size _ rfl, rfl, rfl⟩ q)
  obtain ⟨a, xs, e, q⟩ := q1
  subst e
  cases r1
  have fp : ∀ b ∈ [s1.heap.objs.size], FpOk X pins H1 b := fun b hb => by
    have e : b = s1.heap.objs.size := by simpa using hb
    subst e
    exact I1.fpOk (Nat.le_refl _) (I1.hok.fresh (Nat.le_refl _))
  rcases q with ⟨hq, q⟩ | ⟨hq, q⟩
  · obtain ⟨its, rv, p, hz⟩ := I1.list hq
    refine wpAny_pyIter_list p.isList ?_
    exact ⟨s1.heap.objs.size, [s1.heap.objs.size], _, _, H1, rfl, I1.kept (t' := s1.toks) fun b o e => Heap.get?_push_of_some _ e, turn_list a _, ⟨_, Heap.get?_push_size _ rfl, rfl, rfl⟩, fp, q⟩
  · obtain ⟨its, rv, p, hz⟩ := I1.tuple hq
    refine wpAny_pyIter_tuple (show s1.heap.IsTuple a its.toArray from p) ?_
    exact ⟨s1.heap.objs.size, [s1.heap.objs.size], _, _, H1, rfl, I1.kept (t' := s1.toks) fun b o e => Heap.get?_push_of_some _ e, turn_tuple a _, ⟨_, Heap.get?_push_size _ rfl, rfl, rfl⟩, fp, q⟩
/-- one source by its value -/
theorem src_one {σ : L2.St} {H : Hp} {k : SrcK} {R : It → Hp → Prop} (h : tIt w W (smps [ia]) (evSrc c k [ia]) σ H R) {P : V → Hp → Prop}
    (fin : ∀ G e ts x items v H1, srcV k [x] = some items → CfgE w G σ H1 e ((v, .val x) :: ts) → (∀ H' J sv, ItOk w J sv items → CfgE w G σ H' e (srcT sv ++ ts) → Same H1 H' → R J H') → P v H1) : tO w W (smp ia) (evO c ia) σ H P := by
  obtain ⟨G, en, ts, C, h⟩ := h
  refine ⟨G, en, ts, C, RO.toX ?_⟩
  simp only [evSrc, evXs, smps, Bool.and_true] at h
  cases m : (evO c ia en).bind freeze with
  | stuck => rw [m] at h; exact h.elim
  | exn y e1 => rw [m] at h; exact h
  | ok x e1 =>
    rw [m] at h
    simp only [Out.bind_ok] at h
    cases ms : srcV k [x] with
    | none => rw [ms] at h; exact h.elim
    | some items =>
      rw [ms] at h
      intro H1 v C1 s1
      exact fin G e1 ts x items v H1 ms C1 fun H' J sv ok C' s' => h H' J sv ok C' fun z => (s1 z).trans s'
theorem src_ta {σ : L2.St} {H : Hp} {k : SrcK} {src : List IE} {R : It → Hp → Prop} (h : tIt w W (smps src) (evSrc c k src) σ H R) {P : List V → Hp → Prop}
    (fin : ∀ G F lab e ts xs items vs H1, srcV k xs = some items → Cfg w G F lab σ H1 e ts → Dens w F vs xs → (∀ H' J sv, ItOk w J sv items → CfgE w G σ H' e (srcT sv ++ ts) → Same H1 H' → R J H') → P vs H1) : tXs w W (smps src) (evXs c src) σ H P := by
  obtain ⟨G, en, ts, C, h⟩ := h
  refine ⟨G, en, ts, C, ?_⟩
  simp only [evSrc] at h
  cases m : evXs c src en with
  | stuck => rw [m] at h; exact h.elim
  | exn y e1 => rw [m] at h; exact h
  | ok xs e1 =>
    rw [m] at h
    simp only [Out.bind_ok] at h
    cases ms : srcV k xs with
    | none => rw [ms] at h; exact h.elim
    | some items =>
      rw [ms] at h
      intro H1 vs F lab C1 d1 s1
      exact fin G F lab e1 ts xs items vs H1 ms C1 d1 fun H' J sv ok C' s' => h H' J sv ok C' fun z => (s1 z).trans s'
theorem si_seq (g : Gd w W X) (ha : Snd X W w c a ia) : SndIt X W w c tg a .seq [ia] := ⟨⟨fun pins s σ H R I h => (pi_seq ha.pe).run pins s σ H R I (by
  refine src_one h fun G e ts x items v H1 hs C1 k => ?_
  obtain ⟨F, lab, C⟩ := C1
  have d := C.temps.1
  simp only [Rep] at d
  have L : ∀ {xs : List Val}, seqL x = some xs → items = xs → ∃ a vs, v = .ref a ∧ ((SqL X.K H1 a vs ∧ R (Itl X.K a) H1) ∨ (SqT X.K H1 a vs ∧ R (Itt X.K a) H1)) := fun {xs} hx hi => by
    obtain ⟨a, vs, rfl, h1, dd⟩ := den_seqL d hx
    subst hi
    exact ⟨a, vs, rfl, .inl ⟨by rw [g.K]; exact C.fH.seq h1, by rw [g.K]; exact k H1 _ [(.ref a, x)] (it_list hx) ⟨F, lab, C⟩ (Same.refl _)⟩⟩
  cases x with
  | lst xs => exact .inl (L rfl (by simpa [srcV] using hs.symm))
  | fzl xs => exact .inl (L rfl (by simpa [srcV] using hs.symm))
  | str z =>
    have hi : items = z.cps.toList.map fun c => .str ⟨#[c]⟩ := by simpa [srcV] using hs.symm
    subst hi
    cases d
    exact .inr ⟨z, rfl, k H1 _ [] it_str ⟨F, lab, C.drop⟩ (Same.refl _)⟩
  | tup xs =>
    have hi : items = xs := by simpa [srcV] using hs.symm
    subst hi
    obtain ⟨a, vs, rfl, h1, dd⟩ := den_seqT d (xs := items) rfl
    exact .inl ⟨a, vs, rfl, .inr ⟨by rw [g.K]; exact sqT_mono C.fH h1, by rw [g.K]; exact k H1 _ [(.ref a, .tup items)] (it_tup rfl) ⟨F, lab, C⟩ (Same.refl _)⟩⟩
  | _ => simp [srcV] at hs)⟩⟩
theorem si_rev (g : Gd w W X) (hg : Gl X "reversed") (hm : X.mg "reversed" = none) (hn : notStar a = true) (ha : Snd X W w c a ia) : SndIt X W w c tg (.Call (.Name "reversed" p) [a] [] pos) .rev [ia] := ⟨⟨fun pins s σ H R I h => (RT.pi_revA hg hm ha.pe (star_of hn)).run pins s σ H R I (by
  refine src_one h fun G e ts x items v H1 hs C1 k => ?_
  obtain ⟨F, lab, C⟩ := C1
  have d := C.temps.1
  simp only [Rep] at d
  cases x with
  | lst xs =>
    have hi : items = xs.reverse := by simpa [srcV] using hs.symm
    subst hi
    obtain ⟨a, vs, rfl, h1, dd⟩ := den_seqL d (xs := xs) rfl
    exact ⟨a, vs, rfl, .inl ⟨by rw [g.K]; exact C.fH.seq h1, by rw [g.K]; exact k H1 _ [(.ref a, .lst xs)] (it_revL rfl dd.length) ⟨F, lab, C⟩ (Same.refl _)⟩⟩
  | tup xs =>
    have hi : items = xs.reverse := by simpa [srcV] using hs.symm
    subst hi
    obtain ⟨a, vs, rfl, h1, dd⟩ := den_seqT d (xs := xs) rfl
    exact ⟨a, vs, rfl, .inr ⟨by rw [g.K]; exact sqT_mono C.fH h1, by rw [g.K]; exact k H1 _ [(.ref a, .tup xs)] (it_revT rfl dd.length) ⟨F, lab, C⟩ (Same.refl _)⟩⟩
  | _ => simp [srcV] at hs)⟩⟩
theorem den_int_of {w : Wd} {F : Hp} {v : V} {i : Int} (d : Den w F v (.int i)) : v = .int i := by cases d; rfl
theorem star_one {env : PySem.Env} (h : notStar a = true) : starEach [a] env = [(false, eval a env)] := by
  cases a <;> first | rfl | (simp [notStar] at h)
theorem si_rng1 (hg : Gl X "range") (hm : X.mg "range" = none) (hn : notStar a = true) (ha : SndX X W w c [a] [ia]) : SndIt X W w c tg (.Call (.Name "range" p) [a] [] pos) .range1 [ia] := ⟨⟨fun pins s σ H R I h => (pi_range1 hg hm ha.pa (star_one hn)).run pins s σ H R I (by
  refine src_ta h fun G F lab e ts xs items vs H1 hs C d k => ?_
  unfold srcV at hs
  split at hs
  all_goals first | contradiction | skip
  rename_i n _
  split at hs
  · rename_i hb
    cases hs
    cases d with
    | cons d r =>
      cases r
      rw [den_int_of d]
      refine ⟨n, rfl, hb.1, hb.2, k H1 _ [] ?_ ⟨F, lab, C⟩ (Same.refl _)⟩
      have := it_rng (w := w) (lo := 0) (n := n.toNat)
      simpa using this
  · cases hs)⟩⟩
theorem si_rng2 (hg : Gl X "range") (hm : X.mg "range" = none) (hn : notStar a = true) (hn2 : notStar b = true) (ha : SndX X W w c [a, b] [ia, ib]) : SndIt X W w c tg (.Call (.Name "range" p) [a, b] [] pos) .range2 [ia, ib] := ⟨⟨fun pins s σ H R I h => (pi_range2 hg hm ha.pa (by rw [star_of hn, star_one hn2]) (star_one hn2)).run pins s σ H R I (by
  refine src_ta h fun G F lab e ts xs items vs H1 hs C d k => ?_
  unfold srcV at hs
  split at hs
  all_goals first | contradiction | skip
  rename_i m n _
  split at hs
  · rename_i hb
    cases hs
    cases d with
    | cons d r =>
      cases r with
      | cons d2 r =>
        cases r
        rw [den_int_of d, den_int_of d2]
        exact ⟨m, n, rfl, hb, k H1 _ [] it_rng ⟨F, lab, C⟩ (Same.refl _)⟩
  · cases hs)⟩⟩
theorem si_enum (g : Gd w W X) {elts : List Expr} {kk : Nat} {tpos : Pos} (hg : Gl X "enumerate") (hm : X.mg "enumerate" = none) (hn : notStar a = true) (ha : SndX X W w c [a] [ia]) : SndIt X W w c (.Tuple elts kk tpos) (.Call (.Name "enumerate" p) [a] [] pos) .enum [ia] := ⟨⟨fun pins s σ H R I h => (pi_enum hg hm ha.pa (star_one hn)).run pins s σ H R I (by
  refine src_ta h fun G F lab e ts xs items vs H1 hs C d k => ?_
  unfold srcV at hs
  split at hs
  all_goals first | contradiction | skip
  rename_i ys _
  cases hs
  cases d with
  | cons d r =>
    cases r
    obtain ⟨a, us, rfl, h1, dd⟩ := den_seqL d (xs := ys) rfl
    refine ⟨a, us, rfl, by rw [g.K]; exact C.fH.seq h1, ?_⟩
    rw [g.K]
    exact k H1 _ [(.ref a, .lst ys)] (it_enum rfl) ⟨F, lab, C.push d⟩ (Same.refl _))⟩⟩
theorem it_zipM {k1 k2 : Bool} {a b : Addr} {x x2 : Val} {xs ys : List Val} (h : ∀ {F : Hp} {v : V}, Den w F v x → ∃ a vs, v = .ref a ∧ SqB w.K k1 F a vs ∧ Dens w F vs xs) (h2 : ∀ {F : Hp} {v : V}, Den w F v x2 → ∃ a vs, v = .ref a ∧ SqB w.K k2 F a vs ∧ Dens w F vs ys) :
    ItOk w (ItzM w.K k1 k2 a b) [(.ref a, x), (.ref b, x2)] ((xs.zip ys).map fun p => .tup [p.1, p.2]) := by
  have mo : ∀ {k : Bool} {F H : Hp} {a : Addr} {vs : List V}, Same F H → SqB w.K k F a vs → SqB w.K k H a vs := fun {k F H a vs} e q => by
    cases k
    · exact sqT_mono e q
    · exact e.seq q
  refine ⟨fun {G F lab σ H e ts} C m => ?_, fun {G F lab σ H e ts} C m i y hy => ?_⟩
  · obtain ⟨a', vs, e1, h1, dd⟩ := h (C.mem (m _ List.mem_cons_self))
    obtain ⟨b', vs2, e2, h3, dd2⟩ := h2 (C.mem (m _ (List.mem_cons_of_mem _ List.mem_cons_self)))
    cases e1; cases e2
    exact ⟨vs, vs2, mo C.fH h1, mo C.fH h3, by rw [dd.length, List.length_map, List.length_zip]; omega, by rw [dd2.length, List.length_map, List.length_zip]; omega, by rw [dd.length, dd2.length, List.length_map, List.length_zip]; omega⟩
  · obtain ⟨a', vs, e1, h1, dd⟩ := h (C.mem (m _ List.mem_cons_self))
    obtain ⟨b', vs2, e2, h3, dd2⟩ := h2 (C.mem (m _ (List.mem_cons_of_mem _ List.mem_cons_self)))
    cases e1; cases e2
    obtain ⟨z, z', q1, q2, rfl⟩ := zip_get hy
    obtain ⟨u, hu, du⟩ := dd.get q1
    obtain ⟨u', hu', du'⟩ := dd2.get q2
    refine ⟨⟨vs, vs2, u, u', mo C.fH h1, mo C.fH h3, hu, hu'⟩, fun x' H' ⟨T, y1, y2, e1, hT, eH, r1, r2⟩ => ?_⟩
    have t1 := r1 vs (mo C.fH h1)
    rw [hu] at t1; cases t1
    have t2 := r2 vs2 (mo C.fH h3)
    rw [hu'] at t2; cases t2
    subst eH e1
    exact C.newTup hT (.cons du (.cons du' .nil))
theorem zip_kinds {F : Hp} {x : Val} {xs : List Val} (h : seqL x = some xs ∨ seqT x = some xs) : ∃ k : Bool, ∀ {F : Hp} {v : V}, Den w F v x → ∃ a vs, v = .ref a ∧ SqB w.K k F a vs ∧ Dens w F vs xs := by
  rcases h with h | h
  · exact ⟨true, fun d => den_seqL d h⟩
  · exact ⟨false, fun d => den_seqT d h⟩
theorem srcV_zip {vs items : List Val} (h : srcV .zip vs = some items) : ∃ x y xs ys, vs = [x, y] ∧ (seqL x = some xs ∨ seqT x = some xs) ∧ (seqL y = some ys ∨ seqT y = some ys) ∧ items = (xs.zip ys).map fun p => .tup [p.1, p.2] := by
  unfold srcV at h
  split at h
  all_goals first | contradiction | skip
  all_goals first
    | (cases h; exact ⟨_, _, _, _, rfl, .inl rfl, .inl rfl, rfl⟩)
    | (cases h; exact ⟨_, _, _, _, rfl, .inr rfl, .inr rfl, rfl⟩)
    | (cases h; exact ⟨_, _, _, _, rfl, .inl rfl, .inr rfl, rfl⟩)
    | (cases h; exact ⟨_, _, _, _, rfl, .inr rfl, .inl rfl, rfl⟩)
theorem si_zip (g : Gd w W X) {elts : List Expr} {kk : Nat} {tpos : Pos} (hg : Gl X "zip") (hm : X.mg "zip" = none) (hn : notStar a = true) (hn2 : notStar b = true) (ha : SndX X W w c [a, b] [ia, ib]) : SndIt X W w c (.Tuple elts kk tpos) (.Call (.Name "zip" p) [a, b] [] pos) .zip [ia, ib] := ⟨⟨fun pins s σ H R I h => (pi_zipM hg hm ha.pa (star_of hn) (by rw [star_one hn2]; rfl)).run pins s σ H R I (by
  refine src_ta h fun G F lab e ts xs items vs H1 hs C d k => ?_
  obtain ⟨x, y, us, zs, rfl, hx, hy, rfl⟩ := srcV_zip hs
  obtain ⟨k1, e1⟩ := zip_kinds (w := w) (F := F) hx
  obtain ⟨k2, e2⟩ := zip_kinds (w := w) (F := F) hy
  have mo : ∀ {k : Bool} {F H : Hp} {a : Addr} {vs : List V}, Same F H → SqB w.K k F a vs → SqB w.K k H a vs := fun {k F H a vs} e q => by
    cases k
    · exact sqT_mono e q
    · exact e.seq q
  cases d with
  | cons d r =>
    cases r with
    | cons d2 r =>
      cases r
      obtain ⟨a, vs1, rfl, h1, _⟩ := e1 d
      obtain ⟨b, vs2, rfl, h2, _⟩ := e2 d2
      refine ⟨k1, k2, a, b, vs1, vs2, rfl, by rw [g.K]; exact mo C.fH h1, by rw [g.K]; exact mo C.fH h2, ?_⟩
      rw [g.K]
      exact k H1 _ [(.ref a, x), (.ref b, y)] (it_zipM e1 e2) ⟨F, lab, (C.push d2).push d⟩ (Same.refl _))⟩⟩
end
end Ev
namespace Ev
open PySem PySem.Spec L2
section
variable {w : Wd} {G : Ground} {F H H' : Hp} {lab : Addr → Option Lab} {σ : L2.St} {e : Env} {ts : List (V × Pl)} {u v y : V} {p q q' : Pl} {i : Nat} {r : List Step}
theorem tmp_inj {a b : Nat} (h : some (Lab.tmp a) = some (Lab.tmp b)) : a = b := by injection h with h; injection h
/-- the two topmost temporaries become one, at an address of the upper one's -/
theorem Cfg.merge (C : Cfg w G F lab σ H e ((u, q) :: (y, p) :: ts)) {a : Addr} {o : HO} (ha : lab a = some (.tmp (ts.length + 1))) (R : Rep w F (upd H a o) q' u (fun b => lab b = some (.tmp (ts.length + 1)) ∨ lab b = some (.tmp ts.length))) : CfgE w G σ (upd H a o) e ((u, q') :: ts) := by
  obtain ⟨f1, f2, f3⟩ := C.own a _ ha
  let T : Addr → Prop := fun b => lab b = some (.tmp (ts.length + 1))
  have hT : ∀ {b : Addr}, T b → lab b = some (.tmp (ts.length + 1)) := fun h => h
  have nT : ∀ {b : Addr} {l : Lab}, lab b = some l → l ≠ .tmp (ts.length + 1) → relab lab T (.tmp ts.length) b = some l := fun {b l} h n => by
    rw [relab_out (fun z => by rw [hT z] at h; cases h; exact n rfl)]; exact h
  have ne : ∀ b l, lab b = some l → l ≠ .tmp (ts.length + 1) → b ≠ a := fun b l h n z => by subst z; rw [ha] at h; cases h; exact n rfl
  have own := C.relab_own (B := T) (l := .tmp ts.length) fun a h => ⟨_, hT h⟩
  refine ⟨F, relab lab T (.tmp ts.length), fun b o' h => ?_, fun b l h => ⟨(own b l h).1, (own b l h).2.1, ?_⟩, C.av, C.avO, fun b o' h1 h2 => ?_, C.outH, fun b h => ?_, fun j p' h => (C.slots j p' h).mono (Same.refl _) (fun b hb o' h => ?_) fun b hb => nT hb (by simp), ⟨Rep.mono (Same.refl _) q' R (fun _ _ _ h => h) fun b hb => ?_, C.temps.2.2.mono (Same.refl _) fun b j hj h => ⟨nT h (by intro z; have := tmp_inj (congrArg some z); omega), fun o' h' => ?_⟩⟩, C.keep, C.len⟩
  · rw [upd_ne (fun z => by subst z; rw [f1] at h; cases h)]; exact C.fH _ _ h
  · by_cases hb : b = a
    · subst hb; rw [upd_same]; simp
    · rw [upd_ne hb]; exact (own b l h).2.2
  · rw [upd_ne (fun z => by subst z; exact f2 h1)]; exact C.out b o' h1 h2
  · by_cases hb : b = a
    · subst hb; rw [upd_same]; simp
    · rw [upd_ne hb]; exact C.pres b h
  · rw [upd_ne (ne b _ hb (by simp))]; exact h
  · rcases hb with hb | hb
    · exact relab_in (show T b from hb)
    · exact nT hb (by intro z; have := tmp_inj (congrArg some z); omega)
  · rw [upd_ne (ne b _ h (by intro z; have := tmp_inj (congrArg some z); omega))]; exact h'
/-- the top temporary goes into a field of an instance that stands at a path -/
theorem Cfg.storeF (C : Cfg w G F lab σ H e ((y, p) :: ts)) {k f : Str} {fs : List (Str × Pl)} {u : V} (g : getE e i r = some (.ins k fs)) (ha : AtS w σ H i r u) :
    ∃ a K dx fvs, u = .ref a ∧ H a = some (.ins K dx fvs) ∧ w.cf k = some K ∧ fvs.length = fs.length ∧ CfgE w G σ (upd H a (.ins K dx (L2.putF f y fvs))) (setE e i r (.ins k (Ev.putF f p fs))) ts := by
  obtain ⟨u', a1, F', lab', C1⟩ := C.take' g (by simp)
  obtain ⟨rfl, C1⟩ := C1
  have := a1.unique ha
  subst this
  have R := C1.temps.1
  have Rp := C1.temps.2.1
  simp only [Rep] at R
  obtain ⟨a, K, dx, fvs, rfl, hA, hK, hH, B, hB, hd, hF⟩ := R
  have hlen : fvs.length = fs.length := by
    have : ∀ (fs : List (Str × Pl)) {vs : List (Str × V)} {n : Nat}, RepF w F' H fs vs B n → vs.length = fs.length := by
      intro fs
      induction fs with
      | nil => intro vs n h; simp only [RepF] at h; subst h; rfl
      | cons t fs ih =>
        obtain ⟨m, q⟩ := t
        intro vs n h
        simp only [RepF] at h
        obtain ⟨v, r, e1, _, h2⟩ := h
        subst e1
        rw [List.length_cons, List.length_cons, ih h2]
    exact this fs hF
  have keepB : ∀ i b, B i b → ∀ o, H b = some o → upd H a (.ins K dx (L2.putF f y fvs)) b = some o := fun i b hb o ho => by rw [upd_ne (hB i b hb).2]; exact ho
  have hA : lab' a = some (.tmp (ts.length + 1)) := hA
  have Rp' : Rep w F' (upd H a (.ins K dx (L2.putF f y fvs))) p y (fun b => lab' b = some (.tmp ts.length)) := Rep.mono (Same.refl _) p Rp (fun b hb o ho => by
    have hb : lab' b = some (.tmp ts.length) := hb
    rw [upd_ne (fun z => by subst z; rw [hA] at hb; have := tmp_inj hb; omega)]; exact ho) fun _ h => h
  obtain ⟨i0, hS, _⟩ := RepF.store (f := f) Rp' fs hF keepB
  have C2 := C1.merge (a := a) (o := .ins K dx (L2.putF f y fvs)) (q' := .ins k (Ev.putF f p fs)) hA (by
    simp only [Rep]
    refine ⟨a, K, dx, _, rfl, .inl hA, hK, upd_same, _, fun i b hb => ?_, fun i j b hi hj => ?_, hS⟩
    · by_cases hi : i = i0
      · rw [if_pos hi] at hb
        exact ⟨.inr hb, fun z => by subst z; rw [hA] at hb; have := tmp_inj hb; omega⟩
      · rw [if_neg hi] at hb
        exact ⟨.inl (hB i b hb).1, (hB i b hb).2⟩
    · by_cases hi0 : i = i0
      · rw [if_pos hi0] at hi
        by_cases hj0 : j = i0
        · rw [hi0, hj0]
        · rw [if_neg hj0] at hj
          have z : lab' b = some (.tmp (ts.length + 1)) := (hB j b hj).1
          rw [hi] at z; have := tmp_inj z; omega
      · rw [if_neg hi0] at hi
        by_cases hj0 : j = i0
        · rw [if_pos hj0] at hj
          have z : lab' b = some (.tmp (ts.length + 1)) := (hB i b hi).1
          rw [hj] at z; have := tmp_inj z; omega
        · rw [if_neg hj0] at hj
          exact hd i j b hi hj)
  obtain ⟨F2, lab2, C2⟩ := C2
  have gh : getE (setE e i r .hole) i r = some .hole := getE_setE g (by simp)
  have st : AtS w σ (upd H a (.ins K dx (L2.putF f y fvs))) i r (.ref a) := C1.hole_stay gh a1 (fun b o ho => by
    rw [upd_ne (fun z => by subst z; rw [(C1.own _ _ hA).1] at ho; cases ho)]; exact C1.fH _ _ ho) fun b hb ob ho => by
      rw [upd_ne (fun z => by subst z; rw [hA] at hb; cases hb)]; exact ho
  have C3 := C2.put gh st
  rw [setE_setE g] at C3
  exact ⟨a, K, dx, fvs, rfl, hH, hK, hlen, C3⟩
end
end Ev
namespace Ev
open PySem PySem.Spec L2
section
variable {X : Cx} {W : WX} {w : Wd} {c : Ctx} {a b o : Expr} {ia ib io : IE} {pos pos' : Pos} {f : Str} {es : List Expr} {irs : List IE} {pin : Nat → Bool}
theorem ss_asgFld (g : Gd w W X) (hf : f ∈ w.flds) (ho : Snd X W w c o io) (ha : Snd X W w c a ia) (hs : swapsWith a (some (.Attribute o f pos')) pos.line X.env = pure false) : SndS X W w c (.Assign [.Attribute o f pos'] a pos) (.asgFld io f ia) := by
  refine ⟨PS.imp (ps_fld ho.pe ha.pe hs) fun D σ H h => ?_⟩
  obtain ⟨G, en, ts, C, hp, h⟩ := h
  simp only [evS] at h
  refine ⟨G, en, ts, C, RO.toP (sbind_P h fun y e1 H1 v C1 h => ⟨G, e1, _, C1, ?_⟩)⟩
  cases m2 : evO c io e1 with
  | stuck => rw [m2] at h; exact h
  | exn z e2 => rw [m2] at h; exact fun cls d H' c' => h cls d σ H' c'.drop
  | ok x e2 =>
    rw [m2] at h
    simp only [Out.sbind_ok] at h
    intro H2 v2 C2 a2 s2
    cases x with
    | tmp p => exact h.elim
    | «at» i r =>
      simp only at h
      cases gp : getE e2 i r with
      | none => rw [gp] at h; exact h.elim
      | some p =>
        rw [gp] at h
        cases p with
        | ins k fs =>
          simp only at h
          by_cases hl : fs.length < 900
          · rw [if_pos hl] at h
            obtain ⟨F, lab, C2⟩ := C2
            obtain ⟨ad, K, dx, fvs, rfl, hH, hK, hlen, C3⟩ := Cfg.storeF (f := f) C2 gp a2
            obtain ⟨c1, c2⟩ := g.cls k K hK
            exact ⟨ad, K, dx, fvs, rfl, hH, by rw [g.K]; exact c1, by rw [g.K]; exact c2 f hf, by omega, h σ _ C3⟩
          · rw [if_neg hl] at h; exact h.elim
        | _ => exact h.elim
def rIop : Operator → R2
  | .Add => fun x y H Q => rI0 (fun i j => .int (i + j)) x y H Q ∨ rStr x y H Q
  | .Sub => rI0 fun i j => .int (i - j)
  | .Mult => rI CMul fun i j => .int (i * j)
  | _ => fun _ _ _ _ => False
theorem iop_all {X : Cx} : ∀ (op : Operator), OpR X (inplaceOp op) (rIop op)
  | .Add => OpR.or iop_add iop_add_str
  | .Sub => iop_sub
  | .Mult => iop_mul
  | .FloorDiv => OpR.no | .Mod => OpR.no | .Pow => OpR.no
  | .MatMult => OpR.no | .Div => OpR.no | .LShift => OpR.no | .RShift => OpR.no | .BitOr => OpR.no | .BitXor => OpR.no | .BitAnd => OpR.no
theorem iop_of {F H : Hp} {op : Operator} {x y z : Val} {u v : V} {Q : VK} (h : iopV op x y = some z) (du : Den w F u x) (dv : Den w F v y) (q : ∀ t, Den w F t z → Q t H) : rIop op u v H Q := by
  unfold iopV at h
  split at h
  · cases h; cases du; cases dv; exact .inl ⟨_, _, rfl, rfl, q _ (.int _)⟩
  · cases h; cases du; cases dv; exact ⟨_, _, rfl, rfl, q _ (.int _)⟩
  · split at h
    · rename_i hc
      cases h; cases du; cases dv
      exact ⟨_, _, rfl, rfl, hc, q _ (.int _)⟩
    · cases h
  · split at h
    · rename_i hc
      cases h; cases du; cases dv
      exact .inr ⟨_, _, rfl, rfl, by rw [← line_eq]; exact hc, q _ (.str _)⟩
    · cases h
  · cases h
theorem flat_any {F F' : Hp} {u : V} {x : Val} (d : Den w F u x) (h : flat x = true) : Den w F' u x := by
  cases d with
  | non => exact .non
  | bl b => exact .bl b
  | int i => exact .int i
  | str s => exact .str s
  | _ => cases h
theorem flatOf_some {p : Option Pl} {x : Val} (h : flatOf p = some x) : p = some (.val x) := by
  unfold flatOf at h
  split at h
  · cases h; rfl
  · cases h
theorem ss_aug {op : Operator} {i : Nat} {x : Str} (hN : X.N.Nodup) (hi : X.N[i]? = some x) (hx : Loc X.env.scope x) (hf : X.fn x = true ∨ X.env.scope.names.lookup x = some .local) (ha : Snd X W w c a ia) : SndS X W w c (.AugAssign (.Name x pos') op a pos) (.aug i op ia) := by
  refine ⟨PS.imp (ps_aug hN hi hx ha.pe (iop_all op) hf) fun D σ H h => ?_⟩
  obtain ⟨G, en, ts, C, hp, h⟩ := h
  simp only [evS, evX] at h
  cases fo : flatOf en[i]? with
  | none => rw [fo] at h; exact h.elim
  | some u =>
    rw [fo] at h
    simp only at h
    by_cases hfl : flat u = true
    · rw [if_pos hfl] at h
      have ei := flatOf_some fo
      obtain ⟨F0, lab0, C0⟩ := C
      rcases C0.slots i _ ei with z | ⟨uv, hv, R⟩
      · cases z
      · simp only [Rep] at R
        refine ⟨uv, hv, G, en, ts, ⟨F0, lab0, C0⟩, RO.toX (sbind_X h fun y e1 H1 v C1 h => ?_)⟩
        cases io : iopV op u y with
        | none => rw [io] at h; exact h.elim
        | some z =>
          rw [io] at h
          obtain ⟨F, lab, C1⟩ := C1
          have dv := C1.temps.1
          simp only [Rep] at dv
          refine iop_of io (flat_any R hfl) dv fun t dt => ?_
          cases hs : setT c.pin i (.val z) e1 with
          | none => simp only at h; rw [hs] at h; exact h.elim
          | some e2 =>
            simp only at h
            rw [hs] at h
            exact h _ H1 (set_of hp ⟨F, lab, C1.drop.push dt⟩ hs)
    · rw [if_neg hfl] at h; exact h.elim
end
end Ev
namespace Ev
open PySem PySem.Spec L2
section
variable {X : Cx} {W : WX} {w : Wd} {c : Ctx} {a b o e : Expr} {ia ib io ir : IE} {pos pos' : Pos} {f : Str} {es : List Expr} {irs : List IE} {pin : Nat → Bool}
theorem ss_augFld (g : Gd w W X) {op : Operator} (hf : f ∈ w.flds) (ho : Snd X W w c o io) (ha : Snd X W w c a ia) : SndS X W w c (.AugAssign (.Attribute o f pos') op a pos) (.augFld io f op ia) := by
  refine ⟨PS.imp (ps_fldaug ho.pe ha.pe (iop_all op)) fun D σ H h => ?_⟩
  obtain ⟨G, en, ts, C, hp, h⟩ := h
  simp only [evS, evX] at h
  refine ⟨G, en, ts, C, ?_⟩
  cases m1 : evO c io en with
  | stuck => rw [m1] at h; exact h
  | exn z e2 => rw [m1] at h; exact fun cls d H' c' => h cls d σ H' c'
  | ok x e1 =>
    rw [m1] at h
    simp only [Out.sbind_ok] at h
    intro H1 v1 C1 a1 s1
    cases x with
    | tmp p => exact h.elim
    | «at» i r =>
      simp only at h
      cases fo : flatOf (getE e1 i (r ++ [.f f])) with
      | none => rw [fo] at h; exact h.elim
      | some u =>
        rw [fo] at h
        simp only at h
        have ge := flatOf_some fo
        by_cases hc : (flat u && smp ia) = true
        · rw [if_pos hc] at h
          rw [Bool.and_eq_true] at hc
          obtain ⟨F1, lab1, C1⟩ := C1
          have C1 : Cfg w G F1 lab1 σ H1 e1 ts := C1
          -- the field as it stands
          let Q : VK := fun t H' => H' = H1 → AtS w σ H1 i (r ++ [.f f]) t
          have hro : RO w G W false σ H1 ts Q (fldO (.at i r) f e1) := by
            unfold fldO
            simp only [ge]
            exact fun H' t _ at' _ eH => by subst eH; exact at'
          obtain ⟨ad, K, dx, fs, t, rfl, hH, c1, c2, lk, q⟩ := fld_of (o := .at i r) (v := v1) g hf C1 a1 (fun z => by cases z) hro
          have at2 := q rfl
          obtain ⟨t', A, at3, R⟩ := C1.atS ge (by simp)
          have := at3.unique at2
          subst this
          simp only [Rep] at R
          refine ⟨ad, K, dx, fs, t', rfl, hH, by rw [g.K]; exact c1, by rw [g.K]; exact c2, lk, G, e1, ts, ⟨F1, lab1, C1⟩, RO.toX ?_⟩
          cases m3 : (evO c ia e1).bind freeze with
          | stuck => rw [m3] at h; exact h
          | exn z e3 => rw [m3] at h; exact fun cls d H' c' => h cls d σ H' c'
          | ok y e3 =>
            rw [m3] at h
            simp only [Out.sbind_ok] at h
            intro H2 v2 ⟨F2, lab2, C2⟩ s2
            cases iv : iopV op u y with
            | none => rw [iv] at h; exact h.elim
            | some z =>
              rw [iv] at h
              simp only at h
              have d2 := C2.temps.1
              simp only [Rep] at d2
              refine iop_of iv (flat_any R hc.1) d2 fun tz dz => ?_
              cases gp : getE e3 i r with
              | none => rw [gp] at h; exact h.elim
              | some p =>
                rw [gp] at h
                cases p with
                | ins k fs3 =>
                  simp only at h
                  by_cases hl : fs3.length < 900
                  · rw [if_pos hl] at h
                    have ai : AtS w σ H2 i r (.ref ad) := AtS.mono a1 (s2 hc.2)
                    obtain ⟨ad', K', dx', fvs', e4, hH2, hK2, hlen, C3⟩ := Cfg.storeF (f := f) (C2.drop.push dz) gp ai
                    cases e4
                    have same := s2 hc.2 _ _ hH
                    rw [same] at hH2
                    cases hH2
                    exact ⟨dx, fs, same, by omega, h σ _ C3⟩
                  · rw [if_neg hl] at h; exact h.elim
                | _ => exact h.elim
        · rw [if_neg hc] at h; exact h.elim
def RPs (w : Wd) (G : Ground) (W : WX) (σ : L2.St) (H : Hp) (ts : List (V × Pl)) (Q : List V → Hp → Prop) : Out (List Pl) → Prop
  | .ok ps e' => ∀ H' vs, vs.length = ps.length → CfgE w G σ H' e' (vs.zip ps ++ ts) → Q vs H'
  | .exn x e' => ∀ cls d H', CfgX w G σ H' e' ts x cls d → W cls d σ H'
  | .stuck => False
def tPs (w : Wd) (W : WX) (m : Env → Out (List Pl)) : TA := fun σ H Q => ∃ G e ts, CfgE w G σ H e ts ∧ RPs w G W σ H ts Q (m e)
structure SndP (X : Cx) (W : WX) (w : Wd) (c : Ctx) (es : List Expr) (irs : List IE) : Prop where
  pa : PA X es (tPs w W (evOwns c irs))
theorem sndp_nil : SndP X W w c [] [] := ⟨PA.imp pa_nil fun σ H Q h => by
  obtain ⟨G, en, ts, C, h⟩ := h
  simp only [evOwns] at h
  exact h H [] rfl C⟩
theorem sndp_cons (hn : notStar e = true) (h1 : Snd X W w c e ir) (h2 : SndP X W w c es irs) : SndP X W w c (e :: es) (ir :: irs) := ⟨PA.imp (pa_cons h1.pe h2.pa (star_of hn)) fun σ H Q h => by
  obtain ⟨G, en, ts, C, h⟩ := h
  simp only [evOwns] at h
  refine ⟨G, en, ts, C, RO.toP ?_⟩
  cases m : (evO c ir en).bind own with
  | stuck => rw [m] at h; exact h
  | exn z e2 => rw [m] at h; exact h
  | ok p e1 =>
    rw [m] at h
    simp only [Out.bind_ok] at h
    intro H1 v C1 _
    refine ⟨G, e1, _, C1, ?_⟩
    cases m2 : evOwns c irs e1 with
    | stuck => rw [m2] at h; exact h
    | exn z e2 => rw [m2] at h; exact fun cls d H' c' => h cls d H' c'.drop
    | ok ps e2 =>
      rw [m2] at h
      exact fun H2 vs hl C2 => h H2 (v :: vs) (by simpa using hl) (C2.perm (by
        show (vs.zip ps ++ (v, p) :: ts).Perm ((v, p) :: (vs.zip ps ++ ts))
        exact List.perm_middle))⟩
def setAll : L2.St → List Nat → List V → L2.St
  | σ, i :: is, x :: xs => setAll (σ.set i (some x)) is xs
  | σ, _, _ => σ
theorem setTs_all {G : Ground} (hp : PinOk pin G) {H : Hp} : ∀ {is : List Nat} {σ : L2.St} {en e1 : Env} {xs : List V} {ps : List Pl} {ts : List (V × Pl)},
      CfgE w G σ H en (xs.zip ps ++ ts) → xs.length = ps.length → setTs pin is ps en = some e1 → CfgE w G (setAll σ is xs) H e1 ts
  | [], σ, en, e1, xs, ps, ts, C, hl, h => by
    cases ps with
    | nil =>
      simp only [setTs, Option.some.injEq] at h
      subst h
      have : xs = [] := List.eq_nil_of_length_eq_zero (by simpa using hl)
      subst this
      simpa [setAll] using C
    | cons p ps => simp [setTs] at h
  | i :: is, σ, en, e1, xs, ps, ts, C, hl, h => by
    cases ps with
    | nil => simp [setTs] at h
    | cons p ps =>
      cases xs with
      | nil => simp at hl
      | cons y xs =>
        simp only [setTs] at h
        cases h1 : setT pin i p en with
        | none => rw [h1] at h; cases h
        | some e2 =>
          rw [h1] at h
          simp only [Option.bind_some] at h
          have C1 := set_of hp (ts := xs.zip ps ++ ts) (by simpa using C) h1
          show CfgE w G (setAll (σ.set i (some y)) is xs) H e1 ts
          exact setTs_all hp C1 (by simpa using hl) h
/-- an object more that nobody asks for -/
theorem Cfg.junk {G : Ground} {F H : Hp} {lab : Addr → Option Lab} {σ : L2.St} {en : Env} {ts : List (V × Pl)} (C : Cfg w G F lab σ H en ts) {p : Addr} {ob : HO} (hp : H p = none) : Cfg w G (upd F p ob) lab σ (upd H p ob) en ts := C.newF hp
theorem asgs_par {is : List Nat} (h2 : SndP X W w c es irs) {st : Stmt} {pr : TA → TS} (hps : ∀ ta, PA X es ta → PS X st (pr ta))
    (hpr : ∀ (D : Ends) (σ : L2.St) (H : Hp) (ta : TA), ta σ H (fun vs H1 => vs.length = is.length ∧ D.nx (setAll σ is vs) H1) → pr ta D σ H) : SndS X W w c st (.asgs is irs) := by
  refine ⟨PS.imp (hps _ h2.pa) fun D σ H h => hpr D σ H _ ?_⟩
  obtain ⟨G, en, ts, C, hp, h⟩ := h
  simp only [evS] at h
  refine ⟨G, en, ts, C, ?_⟩
  cases m : evOwns c irs en with
  | stuck => rw [m] at h; exact h
  | exn z e2 => rw [m] at h; exact fun cls d H' c' => h cls d σ H' c'
  | ok ps e1 =>
    rw [m] at h
    simp only [Out.sbind_ok] at h
    intro H1 vs hl C1
    cases hs : setTs c.pin is ps e1 with
    | none => rw [hs] at h; exact h.elim
    | some e2 =>
      rw [hs] at h
      exact ⟨by rw [hl, setTs_length hs], h _ H1 (setTs_all hp C1 hl hs)⟩
theorem len2 {α : Type} {l : List α} (h : l.length = 2) : ∃ a b, l = [a, b] := by
  match l, h with
  | [a, b], _ => exact ⟨a, b, rfl⟩
theorem len3 {α : Type} {l : List α} (h : l.length = 3) : ∃ a b c, l = [a, b, c] := by
  match l, h with
  | [a, b, c], _ => exact ⟨a, b, c, rfl⟩
theorem ss_par2 (g : Gd w W X) {i j : Nat} {x y : Str} {px py pt : Pos} {kt k2 : Nat} {pt2 : Pos} (hi : X.N[i]? = some x) (hj : X.N[j]? = some y) (hij : i ≠ j) (hx : X.env.scope.names.lookup x = some .local) (hy : X.env.scope.names.lookup y = some .local) (h2 : SndP X W w c [a, b] irs)
    (hw : swappedStores [.Tuple [.Name x px, .Name y py] kt pt] (.Tuple [a, b] k2 pt2) X.env = pure (some [x, y])) : SndS X W w c (.Assign [.Tuple [.Name x px, .Name y py] kt pt] (.Tuple [a, b] k2 pt2) pos) (.asgs [i, j] irs) :=
  asgs_par h2 (pr := tPar i j) (fun ta h => ps_par g.calm g.nd hi hj hij hx hy h hw rfl) fun D σ H ta h => by
    have : (fun vs H1 => ∃ v w, vs = [v, w] ∧ D.nx ((σ.set i (some v)).set j (some w)) H1) = (fun vs H1 => vs.length = 2 ∧ D.nx (setAll σ [i, j] vs) H1) := by
      funext vs H1
      apply propext
      constructor
      · rintro ⟨v, w, rfl, q⟩; exact ⟨rfl, q⟩
      · rintro ⟨hl, q⟩
        obtain ⟨v, w, rfl⟩ := len2 hl
        exact ⟨v, w, rfl, q⟩
    show ta σ H (fun vs H1 => ∃ v w, vs = [v, w] ∧ D.nx ((σ.set i (some v)).set j (some w)) H1)
    rw [this]; exact h
theorem ss_par3 (g : Gd w W X) {i j l : Nat} {x y z : Str} {d : Expr} {px py pz pt : Pos} {kt k2 : Nat} {pt2 : Pos} (hi : X.N[i]? = some x) (hj : X.N[j]? = some y) (hl : X.N[l]? = some z) (hij : i ≠ j) (hil : i ≠ l) (hjl : j ≠ l) (hx : X.env.scope.names.lookup x = some .local) (hy : X.env.scope.names.lookup y = some .local) (hz : X.env.scope.names.lookup z = some .local) (h2 : SndP X W w c [a, b, d] irs)
    (hw : swappedStores [.Tuple [.Name x px, .Name y py, .Name z pz] kt pt] (.Tuple [a, b, d] k2 pt2) X.env = pure (some [x, y, z])) : SndS X W w c (.Assign [.Tuple [.Name x px, .Name y py, .Name z pz] kt pt] (.Tuple [a, b, d] k2 pt2) pos) (.asgs [i, j, l] irs) :=
  asgs_par h2 (pr := tPar3 i j l) (fun ta h => ps_par3 g.calm g.nd hi hj hl hij hil hjl hx hy hz h hw rfl) fun D σ H ta h => by
    have : (fun vs H1 => ∃ u v w, vs = [u, v, w] ∧ D.nx (((σ.set i (some u)).set j (some v)).set l (some w)) H1) = (fun vs H1 => vs.length = 3 ∧ D.nx (setAll σ [i, j, l] vs) H1) := by
      funext vs H1
      apply propext
      constructor
      · rintro ⟨u, v, w, rfl, q⟩; exact ⟨rfl, q⟩
      · rintro ⟨hl, q⟩
        obtain ⟨u, v, w, rfl⟩ := len3 hl
        exact ⟨u, v, w, rfl, q⟩
    show ta σ H (fun vs H1 => ∃ u v w, vs = [u, v, w] ∧ D.nx (((σ.set i (some u)).set j (some v)).set l (some w)) H1)
    rw [this]; exact h
/-- .. where the tuple is built and unpacked -/
theorem ss_asgsT (g : Gd w W X) {ns : List Expr} {is : List Nat} {k k2 : Nat} {pt pt2 : Pos} (ht : NamesAt X ns is) (h2 : SndP X W w c es irs) (hs : swapsWithSole [.Tuple ns k pt] (.Tuple es k2 pt2) pos.line X.env = pure false) (hw : swappedStores [.Tuple ns k pt] (.Tuple es k2 pt2) X.env = pure none)
    (hl : is.length ≤ line) : SndS X W w c (.Assign [.Tuple ns k pt] (.Tuple es k2 pt2) pos) (.asgs is irs) := by
  have T := sndt_tp (w := w) (k := k) (pos := pt) g.K g.nd g.calm ht
  refine ⟨PS.imp (ps_asg (pe_tup h2.pa) T.pg hs hw rfl) fun D σ H h => ?_⟩
  obtain ⟨G, en, ts, C, hp, h⟩ := h
  simp only [evS] at h
  refine ⟨G, en, ts, C, ?_⟩
  cases m : evOwns c irs en with
  | stuck => rw [m] at h; exact h
  | exn z e2 => rw [m] at h; exact fun cls d H' c' => h cls d σ H' c'
  | ok ps e1 =>
    rw [m] at h
    simp only [Out.sbind_ok] at h
    intro H1 vs hv ⟨F, lab, C1⟩
    cases hs : setTs c.pin is ps e1 with
    | none => rw [hs] at h; exact h.elim
    | some e2 =>
      rw [hs] at h
      have hlen := setTs_length hs
      refine ⟨by rw [hv, ← hlen, ← line_eq]; exact hl, fun p hn => ?_⟩
      refine ⟨p, vs, rfl, .inl (.inl upd_same), by rw [hv, hlen], ?_⟩
      exact gNames_sem hp (ps := ps) ⟨_, _, C1.junk (ob := .tup vs) hn⟩ hv hs fun σ2 _ C2 => h σ2 _ C2
end
end Ev
namespace Ev
open PySem PySem.Spec L2
section
variable {w : Wd} {G : Ground} {F : Hp} {lab : Addr → Option Lab} {σ : L2.St} {H : Hp} {e : Env} {ts : List (V × Pl)}
def Vws (w : Wd) (F H : Hp) : List V → List Val → Prop
  | [], [] => True
  | v :: vs, x :: xs => Vw w F H v x ∧ Vws w F H vs xs
  | _, _ => False
theorem tsOfs_sub : ∀ {os : List Opnd} {vs : List V} {ts : List (V × Pl)} {t : V × Pl}, t ∈ ts → t ∈ tsOfs os vs ts
  | [], _, _, _, h => by simpa [tsOfs] using h
  | o :: os, [], _, _, h => by cases o <;> simpa [tsOfs] using h
  | o :: os, v :: vs, ts, t, h => by
    simp only [tsOfs]
    exact tsOfs_sub (tsOf_sub t h)
theorem vws_of {acc : List (V × Pl)} (C : Cfg w G F lab σ H e acc) : ∀ {os : List Opnd} {vs : List V} {xs : List Val} {ts : List (V × Pl)}, (∀ t ∈ tsOfs os vs ts, t ∈ acc) → HasA w σ H os vs → peeks e os = some xs → Vws w F H vs xs
  | [], [], xs, ts, _, _, h => by simp only [peeks, Option.some.injEq] at h; subst h; trivial
  | o :: os, v :: vs, xs, ts, m, ha, h => by
    simp only [peeks] at h
    cases p : peek1 e o with
    | none => rw [p] at h; simp at h
    | some x =>
      rw [p] at h
      simp only [Option.bind_some] at h
      cases q : peeks e os with
      | none => rw [q] at h; simp at h
      | some ys =>
        rw [q] at h
        simp only [Option.map_some, Option.some.injEq] at h
        subst h
        have hh : Has w σ H acc o v ∧ HasA w σ H os vs := by
          cases o with
          | «at» i r => exact ha
          | tmp pl => exact ⟨m _ (by simp only [tsOfs]; exact tsOfs_sub (show (v, pl) ∈ tsOf (.tmp pl) v ts from List.mem_cons_self)), ha⟩
        exact ⟨C.vw hh.1 p, vws_of C (ts := tsOf o v ts) m hh.2 q⟩
  | [], _ :: _, _, _, _, ha, _ => ha.elim
  | .at _ _ :: _, [], _, _, _, ha, _ => ha.elim
  | .tmp _ :: _, [], _, _, _, ha, _ => ha.elim
theorem Cfg.dropOs : ∀ {os : List Opnd} {vs : List V} {ts : List (V × Pl)}, Cfg w G F lab σ H e (tsOfs os vs ts) → Cfg w G F lab σ H e ts
  | [], _, _, h => by simpa [tsOfs] using h
  | o :: os, [], _, h => by cases o <;> simpa [tsOfs] using h
  | o :: os, v :: vs, ts, h => by
    simp only [tsOfs] at h
    exact (Cfg.dropOs h).dropO
theorem Vws.one {vs : List V} {x : Val} (h : Vws w F H vs [x]) : ∃ v, vs = [v] ∧ Vw w F H v x := by
  match vs, h with
  | [v], h => exact ⟨v, rfl, h.1⟩
theorem Vws.two {vs : List V} {x y : Val} (h : Vws w F H vs [x, y]) : ∃ v u, vs = [v, u] ∧ Vw w F H v x ∧ Vw w F H u y := by
  match vs, h with
  | [v, u], h => exact ⟨v, u, rfl, h.1, h.2.1⟩
theorem dens_ints : ∀ {vs : List V} {xs : List Val} {ns : List Int}, Dens w F vs xs → asInts xs = some ns → vs = ns.map V.int
  | _, [], ns, .nil, h => by simp only [asInts, Option.some.injEq] at h; subst h; rfl
  | _, x :: xs, ns, .cons d r, h => by
    cases x with
    | int i =>
      simp only [asInts] at h
      cases q : asInts xs with
      | none => rw [q] at h; simp at h
      | some ms =>
        rw [q] at h
        simp only [Option.map_some, Option.some.injEq] at h
        subst h
        cases d
        rw [List.map_cons, dens_ints r q]
    | _ => simp [asInts] at h
theorem dens_bools : ∀ {vs : List V} {xs : List Val} {ns : List Bool}, Dens w F vs xs → asBools xs = some ns → vs = ns.map V.bl
  | _, [], ns, .nil, h => by simp only [asBools, Option.some.injEq] at h; subst h; rfl
  | _, x :: xs, ns, .cons d r, h => by
    cases x with
    | bl i =>
      simp only [asBools] at h
      cases q : asBools xs with
      | none => rw [q] at h; simp at h
      | some ms =>
        rw [q] at h
        simp only [Option.map_some, Option.some.injEq] at h
        subst h
        cases d
        rw [List.map_cons, dens_bools r q]
    | _ => simp [asBools] at h
theorem denK_keys : ∀ {kvs : List (Key × V)} {ys : List (Val × Val)}, DenK w F kvs ys → Dens w F (kvs.map fun kv => kV kv.1) (ys.map (·.1))
  | _, _, .nil => .nil
  | _, _, .cons (k := k) a r => .cons (by cases k <;> constructor) (denK_keys r)
theorem pairs_den {K : PySem.W.Frag} (hK : w.K = K) : ∀ {us : List V} {xs : List Val} {ys : List (Val × Val)}, Dens w F us xs → pairsV xs = some ys → ∃ (ps : List Addr) (kvs : List (Key × V)), us = ps.map V.ref ∧ Paired (fun p kv => SqT K F p [kV kv.1, kv.2]) ps kvs ∧ DenK w F kvs ys
  | _, [], ys, .nil, h => by
    simp only [pairsV, Option.some.injEq] at h
    subst h
    exact ⟨[], [], rfl, .nil, .nil⟩
  | _, x :: xs, ys, .cons d r, h => by
    unfold pairsV at h
    split at h
    · rename_i heq; cases heq
    · rename_i k v r' heq
      cases heq
      split at h
      · rename_i hk
        cases q : pairsV xs with
        | none => rw [q] at h; cases h
        | some zs =>
          rw [q] at h
          cases h
          obtain ⟨kk, hk⟩ := Option.isSome_iff_exists.mp hk
          obtain ⟨ps, kvs, rfl, hp, hd⟩ := pairs_den hK r q
          cases d with
          | tup h1 dd =>
            cases dd with
            | cons d1 dd =>
              cases dd with
              | cons d2 dd =>
                cases dd
                obtain ⟨e1, e2⟩ := keyOf_den d1 hk
                subst e1 e2
                rw [hK] at h1
                exact ⟨_ :: ps, (kk, _) :: kvs, rfl, .cons h1 hp, .cons d2 hd⟩
      · cases h
    · cases h
theorem merge_den : ∀ {kvs acc : List (Key × V)} {ys acc' : List (Val × Val)}, DenK w F kvs ys → DenK w F acc acc' → DenK w F (mergeK acc kvs) (mergeV acc' ys)
  | _, _, _, _, .nil, a => a
  | _, _, _, _, .cons (k := k) d r, a => by
    have hk : keyOf (keyVal k) = some k := by cases k <;> rfl
    have := merge_den r (dput_den hk rfl d a)
    exact this
abbrev RV := List V → Hp → VK → Prop
def rLenE (K : PySem.W.Frag) : RV := fun xs H Q => (∃ p ys, xs = [.ref p] ∧ (SqL K H p ys ∨ SqT K H p ys) ∧ Q (.int ys.length) H) ∨ ∃ z, xs = [.str z] ∧ z.length ≤ sizeLine ∧ Q (.int z.length) H
def rListE (K : PySem.W.Frag) : RV := fun xs H Q => (∃ p ys, xs = [.ref p] ∧ (SqL K H p ys ∨ SqT K H p ys) ∧ ∀ l, H l = none → Q (.ref l) (upd H l (.lst ys))) ∨ rListD xs H Q
def rTupE (K : PySem.W.Frag) : RV := fun xs H Q => ∃ p ys, xs = [.ref p] ∧ ((SqL K H p ys ∧ ∀ l, H l = none → Q (.ref l) (upd H l (.tup ys))) ∨ (SqT K H p ys ∧ Q (.ref p) H))
def rAbs : RV := fun xs H Q => ∃ i, xs = [.int i] ∧ Q (.int (if i < 0 then -i else i)) H
def rInt1 : RV := fun xs H Q => (∃ i, xs = [.int i] ∧ Q (.int i) H) ∨ ∃ k, xs = [.bl k] ∧ Q (.int (if k then 1 else 0)) H
def rStrE : RV := fun xs H Q => (∃ i, xs = [.int i] ∧ i.natAbs.log2 < 1920 ∧ Q (.str (toString i)) H) ∨ ∃ a, xs = [.str a] ∧ Q (.str a) H
def rMin2E : RV := fun xs H Q => ∃ i j, xs = [.int i, .int j] ∧ Q (.int (if j < i then j else i)) H
def rMax2E : RV := fun xs H Q => ∃ i j, xs = [.int i, .int j] ∧ Q (.int (if j > i then j else i)) H
theorem CallR.or {X : Cx} {f : Value} {r1 r2 : RV} (h1 : CallR X f r1) (h2 : CallR X f r2) : CallR X f (fun xs H Q => r1 xs H Q ∨ r2 xs H Q) := fun pins s σ H xs us Q I r h => by
  rcases h with h | h
  · exact h1 pins s σ H xs us Q I r h
  · exact h2 pins s σ H xs us Q I r h
def rDictP (K : PySem.W.Frag) : RV := fun xs H Q => ∃ (a : Addr) (ps : List Addr) (kvs : List (Key × V)), xs = [.ref a] ∧ SqL K H a (ps.map V.ref) ∧ Paired (fun p kv => SqT K H p [kV kv.1, kv.2]) ps kvs ∧ ∀ p, H p = none → Q (.ref p) (upd H p (.dK (mergeK [] kvs)))
/-- repr(x), x data -/
def rReprD (K : PySem.W.Frag) : RV := fun xs H Q => ∃ (x : V) (d : PyData), xs = [x] ∧ Dp K H x d ∧ SeqAt.shaped d = true ∧ d.showable = true ∧ d.shown.length ≤ sizeLine ∧ Q (.str d.shown) H
theorem cr_repr {X : Cx} (hg : X.A.guards = some []) (hu : X.A.units + 65 < cLine) : CallR X (.builtin "repr") (rReprD X.K) := by
  intro pins s σ H xs us Q I r h
  obtain ⟨x, d, rfl, hd, hsh, hs, hl, q⟩ := h
  obtain ⟨u, rfl, rx⟩ := vals1 r
  obtain ⟨as, rd⟩ := Dp.reads I d x u hd rx
  have hc := SeqAt.canLay_of_shaped hsh
  have hdp : d.depth ≤ 64 := by
    unfold SeqAt.shaped at hsh
    rw [Bool.and_eq_true] at hsh
    have := of_decide_eq_true hsh.2
    omega
  have far : ∀ (tx : Str) (tk : Tok) (s' : Shared), tx = d.shown → Inv X pins σ H s' → EP X pins σ Q (.str tx tk) s' := fun tx tk s' e I' => by
    subst e
    exact ⟨.str d.shown, H, I', ⟨tk, rfl⟩, q⟩
  cases rd with
  | none => exact PySem.P.repr_of_none (far _ _ _ (by simp only [PyData.shown]) (I.tok _))
  | bool b => exact PySem.P.repr_of_bool (far _ _ _ (by simp only [PyData.shown]) (I.tok _))
  | int i t => exact PySem.P.repr_of_int (by simpa [PyData.showable] using hs) (far _ _ _ (by simp only [PyData.shown]) (I.tok _))
  | str z t => exact PySem.P.repr_of_str (far _ _ _ (by simp only [PyData.shown]) (I.tok _)) (by simpa only [PyData.shown] using hl)
  | list h1 h2 h3 h4 => exact repr_of_reads' (.list h1 h2 h3 h4) hs (PyData.noDict_hsm (PyData.hasDict_of_canLay _ hc)) hg (by omega) (fun _ _ e => e) (fun h' u tk k => far _ _ _ rfl (I.kept (t' := tk) k)) hl
  | tuple h1 h2 h3 h4 => exact repr_of_reads' (.tuple h1 h2 h3 h4) hs (PyData.noDict_hsm (PyData.hasDict_of_canLay _ hc)) hg (by omega) (fun _ _ e => e) (fun h' u tk k => far _ _ _ rfl (I.kept (t' := tk) k)) hl
  | dict _ _ _ _ _ => simp [PyData.canLay0] at hc
theorem Vw.dat {w : Wd} {F H1 : Hp} {v : V} {x : Val} {n : Nat} (h : Vw w F H1 v x) (fH : Same F H1) (hx : dat n x = true) : Den w H1 v x := by
  cases h with
  | old d => exact d.mono fH
  | lst h d => exact .lst h (d.mono fH)
  | dct h d => cases n <;> simp [Ev.dat] at hx
/-- what each built-in function of ours is -/
def biR (K : PySem.W.Frag) : Bi → RV
  | .len => rLenE K
  | .listOf => rListE K
  | .tupleOf => rTupE K
  | .sum => rSum K
  | .any => rAny K
  | .all => rAll K
  | .abs => rAbs
  | .int => rInt1
  | .strOf => rStrE
  | .max => rMax2E
  | .min => rMin2E
  | .dictOf => rDictP K
  | .repr => rReprD K
  | _ => fun _ _ _ => False
def biF : Bi → Option Value
  | .len => some (.builtin "len")
  | .listOf => some (.type "list")
  | .tupleOf => some (.type "tuple")
  | .sum => some (.builtin "sum")
  | .any => some (.builtin "any")
  | .all => some (.builtin "all")
  | .abs => some (.builtin "abs")
  | .int => some (.type "int")
  | .strOf => some (.type "str")
  | .max => some (.builtin "max")
  | .min => some (.builtin "min")
  | .dictOf => some (.type "dict")
  | .repr => some (.builtin "repr")
  | _ => none
theorem bi_call {X : Cx} (hc : X.calm = true) (hg : X.A.guards = some []) (hu : X.A.units + 65 < cLine) : ∀ {b : Bi} {f : Value}, biF b = some f → CallR X f (biR X.K b)
  | .len, f, h => by cases h; exact CallR.or call_len_seq call_len_str
  | .listOf, f, h => by cases h; exact CallR.or call_list_of (call_list_dK hc)
  | .tupleOf, f, h => by cases h; exact call_tuple_of
  | .sum, f, h => by cases h; exact cr_sum hc
  | .any, f, h => by cases h; exact cr_any hc
  | .all, f, h => by cases h; exact cr_all hc
  | .abs, f, h => by cases h; exact call_abs
  | .int, f, h => by cases h; exact call_int1
  | .strOf, f, h => by cases h; exact CallR.or call_str_int SkE.call_str_str
  | .max, f, h => by cases h; exact call_max2 hc
  | .min, f, h => by cases h; exact call_min2 hc
  | .sorted, f, h => by cases h
  | .repr, f, h => by cases h; exact cr_repr hg hu
  | .dictOf, f, h => by cases h; exact call_dictP hc
  | .zipL, f, h => by cases h
  | .lenSet, f, h => by cases h
  | .sortedSet, f, h => by cases h
  | .range1, f, h => by cases h
  | .range2, f, h => by cases h
theorem bi_of {W : WX} {b : Bi} {xs : List Val} {p : Pl} {vs : List V} {s : Bool} {Q : VK} {e' : Env} {H1 : Hp} (hf : (biF b).isSome = true) (hb : biV b xs = some p) (C : Cfg w G F lab σ H1 e' ts) (hx : Vws w F H1 vs xs) (hs : s = true → Same H H1)
    (h : RO w G W s σ H ts Q (.ok (.tmp p) e')) : biR w.K b vs H1 Q := by
  unfold biV at hb
  split at hb
  · cases hb; obtain ⟨v, rfl, h1x⟩ := hx.one
    obtain ⟨a, us, rfl, h1, d⟩ := h1x.lstH C.fH
    rw [← d.length] at h
    exact .inl ⟨a, us, rfl, .inl (.inl (.inl h1)), h.value C (.int _) hs⟩
  · cases hb; obtain ⟨v, rfl, h1x⟩ := hx.one
    obtain ⟨a, us, rfl, h1, d⟩ := h1x.tupH
    rw [← d.length] at h
    exact .inl ⟨a, us, rfl, .inr (sqT_mono C.fH h1), h.value C (.int _) hs⟩
  · cases hb; obtain ⟨v, rfl, h1x⟩ := hx.one
    obtain ⟨a, us, rfl, h1, d⟩ := h1x.fzlH
    rw [← d.length] at h
    exact .inl ⟨a, us, rfl, .inl (C.fH.seq h1), h.value C (.int _) hs⟩
  · split at hb
    · rename_i hl
      cases hb; obtain ⟨v, rfl, h1x⟩ := hx.one
      rw [h1x.str]
      exact .inr ⟨_, rfl, by rw [← line_eq]; exact hl, h.value C (.int _) hs⟩
    · cases hb
  · cases hb; obtain ⟨v, rfl, h1x⟩ := hx.one
    obtain ⟨a, us, rfl, h1, d⟩ := h1x.lstH C.fH
    exact .inl ⟨a, us, rfl, .inl (.inl (.inl h1)), h.newO C (fun q hq => rep_lst d) hs⟩
  · cases hb; obtain ⟨v, rfl, h1x⟩ := hx.one
    obtain ⟨a, us, rfl, h1, d⟩ := h1x.tupH
    exact .inl ⟨a, us, rfl, .inr (sqT_mono C.fH h1), h.newO C (fun q hq => rep_lst d) hs⟩
  · cases hb; obtain ⟨v, rfl, h1x⟩ := hx.one
    obtain ⟨a, us, rfl, h1, d⟩ := h1x.fzlH
    exact .inl ⟨a, us, rfl, .inl (C.fH.seq h1), h.newO C (fun q hq => rep_lst d) hs⟩
  · split at hb
    · cases hb; obtain ⟨v, rfl, h1x⟩ := hx.one
      obtain ⟨a, ks, rfl, h1, d⟩ := h1x.dctH C.fH
      exact .inr ⟨a, ks, rfl, h1, h.newO C (fun q hq => rep_lst (denK_keys d)) hs⟩
    · cases hb
  · cases hb; obtain ⟨v, rfl, h1x⟩ := hx.one
    obtain ⟨a, us, rfl, h1, d⟩ := h1x.lstH C.fH
    exact ⟨a, us, rfl, .inl ⟨.inl (.inl h1), h.newF C (fun q hq hF => .tup (.inl (.inl upd_same)) (d.mono (same_new hF))) hs⟩⟩
  · cases hb; obtain ⟨v, rfl, h1x⟩ := hx.one
    obtain ⟨a, us, rfl, h1, d⟩ := h1x.tupH
    exact ⟨a, us, rfl, .inr ⟨sqT_mono C.fH h1, h.value C (.tup h1 d) hs⟩⟩
  · obtain ⟨v, rfl, h1x⟩ := hx.one
    cases q : asInts _ with
    | none => rw [q] at hb; simp at hb
    | some ns =>
      rw [q] at hb
      cases hb
      obtain ⟨a, us, rfl, h1, d⟩ := h1x.lstH C.fH
      exact ⟨a, ns, rfl, .inl (.inl (by rw [← dens_ints d q]; exact h1)), h.value C (.int _) hs⟩
  · obtain ⟨v, rfl, h1x⟩ := hx.one
    cases q : asBools _ with
    | none => rw [q] at hb; simp at hb
    | some ns =>
      rw [q] at hb
      cases hb
      obtain ⟨a, us, rfl, h1, d⟩ := h1x.lstH C.fH
      exact ⟨a, ns, rfl, .inl (.inl (by rw [← dens_bools d q]; exact h1)), h.value C (.bl _) hs⟩
  · obtain ⟨v, rfl, h1x⟩ := hx.one
    cases q : asBools _ with
    | none => rw [q] at hb; simp at hb
    | some ns =>
      rw [q] at hb
      cases hb
      obtain ⟨a, us, rfl, h1, d⟩ := h1x.lstH C.fH
      exact ⟨a, ns, rfl, .inl (.inl (by rw [← dens_bools d q]; exact h1)), h.value C (.bl _) hs⟩
  · cases hb; obtain ⟨v, rfl, h1x⟩ := hx.one
    rename_i i
    rw [h1x.int]
    have e0 : (i.natAbs : Int) = if i < 0 then -i else i := by split <;> omega
    rw [e0] at h
    exact ⟨i, rfl, h.value C (.int _) hs⟩
  · cases hb; obtain ⟨v, rfl, h1x⟩ := hx.one
    rw [h1x.int]
    exact .inl ⟨_, rfl, h.value C (.int _) hs⟩
  · split at hb
    · rename_i hl
      cases hb; obtain ⟨v, rfl, h1x⟩ := hx.one
      rw [h1x.int]
      exact .inl ⟨_, rfl, hl, h.value C (.str _) hs⟩
    · cases hb
  · cases hb; obtain ⟨v, rfl, h1x⟩ := hx.one
    rw [h1x.str]
    exact .inr ⟨_, rfl, h.value C (.str _) hs⟩
  · split at hb
    · rename_i hc
      cases hb; obtain ⟨v, rfl, h1x⟩ := hx.one
      simp only [Bool.and_eq_true, decide_eq_true_eq] at hc
      obtain ⟨⟨h1, h2⟩, h3⟩ := hc
      exact ⟨v, _, rfl, dp_of _ _ h1 (h1x.dat C.fH h1), shaped_of (by decide) h1, h2, by rw [← line_eq]; exact h3, h.value C (.str _) hs⟩
    · cases hb
  · cases hb; obtain ⟨v, u, rfl, h1x, h1y⟩ := hx.two
    rw [h1x.int, h1y.int]
    exact ⟨_, _, rfl, h.value C (.int _) hs⟩
  · cases hb; obtain ⟨v, u, rfl, h1x, h1y⟩ := hx.two
    rw [h1x.int, h1y.int]
    exact ⟨_, _, rfl, h.value C (.int _) hs⟩
  · obtain ⟨v, rfl, h1x⟩ := hx.one
    cases q : pairsV _ with
    | none => rw [q] at hb; simp at hb
    | some ys =>
      rw [q] at hb
      cases hb
      obtain ⟨a, us, rfl, h1, d⟩ := h1x.lstH C.fH
      obtain ⟨ps, kvs, rfl, hp, hd⟩ := pairs_den rfl d q
      refine ⟨a, ps, kvs, rfl, .inl (.inl h1), Paired.mono (fun p kv z => sqT_mono C.fH z) hp, h.newO C (fun r hr => ?_) hs⟩
      simp only [Rep]
      exact ⟨r, _, rfl, rfl, upd_same, merge_den hd .nil⟩
  · simp [biF] at hf
  · cases hb
end
section
variable {X : Cx} {W : WX} {w : Wd} {c : Ctx} {e a b : Expr} {es : List Expr} {irs : List IE} {pos p : Pos}
theorem bi_reads (g : Gd w W X) {k : Bi} (hf : (biF k).isSome = true) {σ : L2.St} {H : Hp} {Q : VK} (h : tO w W (smp (.bi k irs)) (evO c (.bi k irs)) σ H Q) : tCB (biR X.K k) (tOs w W (smps irs) (evArgs c irs [])) σ H Q := by
  obtain ⟨G, en, ts, C, h⟩ := h
  simp only [evO, smp] at h
  refine ⟨G, en, ts, C, ?_⟩
  cases m1 : evArgs c irs [] en with
  | stuck => rw [m1] at h; exact h.elim
  | exn y e1 => rw [m1] at h; exact h
  | ok os e1 =>
    rw [m1] at h
    simp only [Out.bind_ok] at h
    intro H1 vs ⟨F, lab, C1⟩ a1 s1
    cases pk : peeks e1 os with
    | none => rw [pk] at h; exact h.elim
    | some xs =>
      rw [pk] at h
      simp only [Option.bind_some] at h
      cases bv : biV k xs with
      | none => rw [bv] at h; exact h.elim
      | some q =>
        rw [bv] at h
        have vw := vws_of C1 (fun t h => h) a1 pk
        rw [g.K]
        exact bi_of hf bv C1.dropOs vw s1 h
theorem snd_biB (g : Gd w W X) {k : Bi} {x : Str} {id : String} (hf : biF k = some (.builtin id)) (hg : Gl X x) (hm : X.mg x = none) (hv : bootBuiltins x = some (.builtin id)) (hn : x ≠ "__name__") (hdb : (x == ("__debug__" : Str)) = false) (hs : ∀ e' ∈ e :: es, notStar e' = true) (ha : SndA X W w c (e :: es) irs []) :
    Snd X W w c (.Call (.Name x p) (e :: es) [] pos) (.bi k irs) :=
  snd_plain g (PE.imp (pe_callB (bi_call g.calm g.gd g.hu hf) hg hm hv ha.pa hn hdb (star_of (hs e (by simp))) (plain_args fun e' he => hs e' (List.mem_cons_of_mem _ he)).2) fun σ H Q h => bi_reads g (by rw [hf]; rfl) h) fun _ => rfl
theorem snd_biT (g : Gd w W X) {k : Bi} {x : Str} {T : String} (hf : biF k = some (.type T)) (hg : Gl X x) (hm : X.mg x = none) (hv : bootBuiltins x = some (.type T)) (hn : x ≠ "__name__") (hdb : (x == ("__debug__" : Str)) = false) (hs : ∀ e' ∈ e :: es, notStar e' = true) (ha : SndA X W w c (e :: es) irs []) :
    Snd X W w c (.Call (.Name x p) (e :: es) [] pos) (.bi k irs) :=
  snd_plain g (PE.imp (pe_callTy (bi_call g.calm g.gd g.hu hf) hg hm hv ha.pa hn hdb (star_of (hs e (by simp))) (plain_args fun e' he => hs e' (List.mem_cons_of_mem _ he)).2) fun σ H Q h => bi_reads g (by rw [hf]; rfl) h) fun _ => rfl
end
end Ev
namespace Ev
open PySem PySem.Spec L2
def tagN : Tag → Option String
  | .non => some "NoneType" | .bl => some "bool" | .int => some "int" | .str => some "str" | .list => some "list" | .tuple => some "tuple" | .dict => some "dict"
  | .own _ => none
def tyN : Ty → Option String
  | .int => some "int" | .str => some "str" | .bool => some "bool" | .list => some "list" | .tuple => some "tuple" | .dict => some "dict"
  | .own _ => none
def tagU (w : Wd) : Tag → Option Value
  | .own c => (w.cf c).map Value.ref
  | t => (tagN t).map Value.type
def tyU (w : Wd) : Ty → Option Value
  | .own c => (w.cf c).map Value.ref
  | t => (tyN t).map Value.type
/-- what isinstance asks of the own classes -/
structure IsF (w : Wd) : Prop where
  cl : ∀ c C, w.cf c = some C → PySem.W.findIn w.K (.ref C) "__class__" = some (some (.builtin "object.__class__")) ∧ PySem.W.mroIn w.K C (.type "object") = some true
  sp : PySem.W.specialIn w.K (.builtin "object.__class__") "__get__" = some (some (.builtin "getset_descriptor.__get__")) ∧ PySem.W.takesIn w.K (.builtin "object.__class__") = some true
  ow : ∀ c C d D, w.cf c = some C → w.cf d = some D → PySem.W.kitOne w.K (.ref C) (.ref D) = some (c == d)
  ob : ∀ c C t n, w.cf c = some C → tyN t = some n → PySem.W.kitOne w.K (.ref C) (.type n) = some false
  bo : ∀ c C t n, w.cf c = some C → tagN t = some n → PySem.W.kitOne w.K (.type n) (.ref C) = some false
theorem kit_bb {K : PySem.W.Frag} {t : Tag} {y : Ty} {n m : String} (h1 : tagN t = some n) (h2 : tyN y = some m) : PySem.W.kitOne K (.type n) (.type m) = some (isTag t y) := by
  cases t <;> simp only [tagN, Option.some.injEq] at h1 <;> first | (subst h1) | cases h1
  all_goals (cases y <;> simp only [tyN, Option.some.injEq] at h2 <;> first | (subst h2) | cases h2)
  all_goals exact kit_ty (by decide +kernel)
theorem kit_one {w : Wd} (f : IsF w) {t : Tag} {y : Ty} {u v : Value} (h1 : tagU w t = some u) (h2 : tyU w y = some v) : PySem.W.kitOne w.K u v = some (isTag t y) := by
  cases hn : tagN t with
  | some n =>
    have hu : u = .type n := by
      cases t <;> simp only [tagN, Option.some.injEq] at hn <;> first | (subst hn; simpa [tagU, tagN] using h1.symm) | cases hn
    subst hu
    cases hm : tyN y with
    | some m =>
      have hv : v = .type m := by
        cases y <;> simp only [tyN, Option.some.injEq] at hm <;> first | (subst hm; simpa [tyU, tyN] using h2.symm) | cases hm
      subst hv
      exact kit_bb hn hm
    | none =>
      cases y with
      | own d =>
        simp only [tyU] at h2
        cases hd : w.cf d with
        | none => rw [hd] at h2; cases h2
        | some D =>
          rw [hd] at h2
          simp only [Option.map_some, Option.some.injEq] at h2
          subst h2
          rw [f.bo d D t n hd hn]
          cases t <;> first | rfl | (simp [tagN] at hn)
      | _ => simp [tyN] at hm
  | none =>
    cases t with
    | own c =>
      simp only [tagU] at h1
      cases hc : w.cf c with
      | none => rw [hc] at h1; cases h1
      | some C =>
        rw [hc] at h1
        simp only [Option.map_some, Option.some.injEq] at h1
        subst h1
        cases hm : tyN y with
        | some m =>
          have hv : v = .type m := by
            cases y <;> simp only [tyN, Option.some.injEq] at hm <;> first | (subst hm; simpa [tyU, tyN] using h2.symm) | cases hm
          subst hv
          rw [f.ob c C y m hc hm]
          cases y <;> first | rfl | (simp [tyN] at hm)
        | none =>
          cases y with
          | own d =>
            simp only [tyU] at h2
            cases hd : w.cf d with
            | none => rw [hd] at h2; cases h2
            | some D =>
              rw [hd] at h2
              simp only [Option.map_some, Option.some.injEq] at h2
              subst h2
              exact f.ow c C d D hc hd
          | _ => simp [tyN] at hm
    | _ => simp [tagN] at hn
def TysU (w : Wd) : List Ty → List Value → Prop
  | [], [] => True
  | t :: ts, u :: us => tyU w t = some u ∧ TysU w ts us
  | _, _ => False
theorem kit_any {w : Wd} (f : IsF w) {t : Tag} {u : Value} (h1 : tagU w t = some u) : ∀ {ys : List Ty} {vs : List Value}, TysU w ys vs → PySem.W.kitAny w.K u vs = some (ys.any (isTag t))
  | [], [], _ => rfl
  | y :: ys, v :: vs, h => by
    refine kitAny_cons (kit_one f h1 h.1) (fun hb => ?_) fun hb => ?_
    · rw [kit_any f h1 h.2, List.any_cons, hb, Bool.false_or]
    · rw [List.any_cons, hb, Bool.true_or]
  | [], _ :: _, h => h.elim
  | _ :: _, [], h => h.elim
section
variable {w : Wd} {G : Ground} {F : Hp} {lab : Addr → Option Lab} {σ : L2.St} {H : Hp} {e : Env} {ts : List (V × Pl)}
theorem tyX_seqL {K : PySem.W.Frag} {H : Hp} {a : Addr} {xs : List V} (h : SqL K H a xs) : TyX K H (.ref a) (.type "list") := by
  rcases h with (h | ⟨o, h⟩) | ⟨o, its, n, h, c, _⟩
  · exact .base (.lst h)
  · exact .base (.frz h)
  · exact .kList h c
theorem tyX_seqT {K : PySem.W.Frag} {H : Hp} {a : Addr} {xs : List V} (h : SqT K H a xs) : TyX K H (.ref a) (.type "tuple") := by
  rcases h with (h | ⟨o, h⟩) | ⟨o, its, n, h, c, _⟩
  · exact .base (.tup h)
  · exact .fTuple h
  · exact .kTuple h c
theorem tyX_ins (g : ∀ c C, w.cf c = some C → Cls w.K C) (f : IsF w) {c : Str} {C a dx : Addr} {fs : List (Str × V)} (hc : w.cf c = some C) (h : H a = some (.ins C dx fs)) : TyX w.K H (.ref a) (.ref C) :=
  .base (.ins h (g c C hc) (f.cl c C hc).1 f.sp.1 f.sp.2 (f.cl c C hc).2)
theorem tyX_of (g : ∀ c C, w.cf c = some C → Cls w.K C) (f : IsF w) (fH : Same F H) {p : Pl} {v : V} {A : Addr → Prop} {t : Tag} (R : Rep w F H p v A) (ht : tagP p = some t) : ∃ u, tagU w t = some u ∧ TyX w.K H v u := by
  cases p with
  | hole => cases ht
  | val x =>
    simp only [Rep] at R
    simp only [tagP] at ht
    cases R with
    | non => cases ht; exact ⟨_, rfl, .base .non⟩
    | bl b => cases ht; exact ⟨_, rfl, .base (.bl b)⟩
    | int i => cases ht; exact ⟨_, rfl, .base (.int i)⟩
    | str s => cases ht; exact ⟨_, rfl, .base (.str s)⟩
    | tup h d => cases ht; exact ⟨_, rfl, tyX_seqT (sqT_mono fH h)⟩
    | lst h d => cases ht; exact ⟨_, rfl, .base (.lst (fH _ _ h))⟩
    | fzl h d => cases ht; exact ⟨_, rfl, tyX_seqL (fH.seq h)⟩
    | dct h d => cases ht; exact ⟨_, rfl, .base (.dK (fH _ _ h))⟩
    | ins hc h d => cases ht; exact ⟨_, by simp only [tagU, hc]; rfl, tyX_ins g f hc (fH _ _ h)⟩
    | gl h => cases ht
    | exc0 _ _ => cases ht
    | exc _ _ _ _ => cases ht
  | lst xs => simp only [Rep] at R; obtain ⟨a, vs, rfl, _, h, _⟩ := R; cases ht; exact ⟨_, rfl, .base (.lst h)⟩
  | lstP xs => simp only [Rep] at R; obtain ⟨a, vs, rfl, _, h, _⟩ := R; cases ht; exact ⟨_, rfl, .base (.lst h)⟩
  | dct xs => simp only [Rep] at R; obtain ⟨a, vs, rfl, _, h, _⟩ := R; cases ht; exact ⟨_, rfl, .base (.dK h)⟩
  | rcd xs => simp only [Rep] at R; obtain ⟨a, vs, rfl, _, h, _⟩ := R; cases ht; exact ⟨_, rfl, .base (.dK h)⟩
  | ins c fs => simp only [Rep] at R; obtain ⟨a, C, dx, fvs, rfl, _, hc, h, _⟩ := R; cases ht; exact ⟨_, by simp only [tagU, hc]; rfl, tyX_ins g f hc h⟩
end
section
variable {X : Cx} {W : WX} {w : Wd} {c : Ctx} {a T : Expr} {ia : IE} {pos p : Pos}
/-- a class's name as an expression -/
structure ClsE (X : Cx) (w : Wd) (T : Expr) (t : Ty) : Prop where
  ex : ∃ v u, PE X T (tC v) ∧ ClsV v u ∧ tyU w t = some u
theorem isi_place (g : Gd w W X) (f : IsF w) {σ : L2.St} {H : Hp} {Q : VK} {ts' : List Ty} (h : tO w W (smp (.isi ia ts')) (evO c (.isi ia ts')) σ H Q) {P : V → Hp → Prop}
    (fin : ∀ G F lab e1 ts H1 v t u, Cfg w G F lab σ H1 e1 ts → tagU w t = some u → TyX w.K H1 v u → (smp ia = true → Same H H1) → (∀ H' r, CfgE w G σ H' e1 ((r, .val (.bl (ts'.any (isTag t)))) :: ts) → (smp ia = true → Same H H') → Q r H') → P v H1) : tO w W (smp ia) (evO c ia) σ H P := by
  obtain ⟨G, en, ts, C, h⟩ := h
  simp only [evO, smp] at h
  refine ⟨G, en, ts, C, ?_⟩
  cases m1 : evO c ia en with
  | stuck => rw [m1] at h; exact h.elim
  | exn y e1 => rw [m1] at h; exact h
  | ok o e1 =>
    rw [m1] at h
    simp only [Out.bind_ok] at h
    intro H1 v ⟨F, lab, C1⟩ a1 s1
    cases pk : placeOf e1 o with
    | none => rw [pk] at h; exact h.elim
    | some q =>
      rw [pk] at h
      simp only [Option.bind_some] at h
      cases tp : tagP q with
      | none => rw [tp] at h; exact h.elim
      | some t =>
        rw [tp] at h
        have hq : q ≠ .hole := fun z => by subst z; cases tp
        obtain ⟨A, R⟩ := C1.rep a1 pk hq
        obtain ⟨u, hu, ty⟩ := tyX_of (fun c C hc => (g.cls c C hc).1) f C1.fH R tp
        exact fin G F lab e1 ts H1 v t u C1.dropO hu ty s1 fun H' r C' s' => h H' r C' has_self s'
theorem snd_isi1 (g : Gd w W X) (f : IsF w) {t : Ty} (hT : ClsE X w T t) (hg : Gl X "isinstance") (hm : X.mg "isinstance" = none) (hn : notStar a = true) (hn2 : notStar T = true) (ha : Snd X W w c a ia) :
    Snd X W w c (.Call (.Name "isinstance" p) [a, T] [] pos) (.isi ia [t]) := by
  obtain ⟨tv, tu, hpe, hcv, htu⟩ := hT.ex
  refine snd_plain g (PE.imp (pe_callB call_isi hg hm (by decide +kernel) (pa_cons ha.pe (pa_cons hpe pa_nil (star_of hn2)) (star_of hn)) (by decide) (by decide) (star_of hn) (by rw [star_one hn2]; rfl)) fun σ H Q h => ?_) fun _ => rfl
  refine isi_place g f h fun G F lab e1 ts H1 v t' u C hu ty s1 k => ?_
  refine ⟨v, tv, u, tu, isTag t' t, rfl, hcv, by rw [g.K]; exact ty, by rw [g.K]; exact kit_one f hu htu, k H1 _ ⟨F, lab, C.push ?_⟩ s1⟩
  simp only [List.any_cons, List.any_nil, Bool.or_false]
  exact .bl _
theorem snd_isi2 (g : Gd w W X) (f : IsF w) {t1 t2 : Ty} {T2 : Expr} {kk : Nat} {tp : Pos} (hT : ClsE X w T t1) (hT2 : ClsE X w T2 t2) (hg : Gl X "isinstance") (hm : X.mg "isinstance" = none) (hn : notStar a = true) (hn2 : notStar T = true) (hn3 : notStar T2 = true) (ha : Snd X W w c a ia) :
    Snd X W w c (.Call (.Name "isinstance" p) [a, .Tuple [T, T2] kk tp] [] pos) (.isi ia [t1, t2]) := by
  obtain ⟨tv, tu, hpe, hcv, htu⟩ := hT.ex
  obtain ⟨tv2, tu2, hpe2, hcv2, htu2⟩ := hT2.ex
  refine snd_plain g (PE.imp (pe_callB call_isiT hg hm (by decide +kernel) (pa_cons ha.pe (pa_cons (pe_tup (pa_cons hpe (pa_cons hpe2 pa_nil (star_of hn3)) (star_of hn2))) pa_nil rfl) (star_of hn)) (by decide) (by decide) (star_of hn) rfl) fun σ H Q h => ?_) fun _ => rfl
  refine isi_place g f h fun G F lab e1 ts H1 v t' u C hu ty s1 k => ?_
  refine ⟨by show 2 ≤ sizeLine; decide, fun q hq => ?_⟩
  have ty' : TyX w.K (upd H1 q (.tup [tv, tv2])) v u := by
    have sm : Same H1 (upd H1 q (.tup [tv, tv2])) := same_new hq
    cases ty with
    | base b =>
      cases b with
      | non => exact .base .non
      | bl y => exact .base (.bl y)
      | int i => exact .base (.int i)
      | str y => exact .base (.str y)
      | flt y => exact .base (.flt y)
      | lst h => exact .base (.lst (sm _ _ h))
      | frz h => exact .base (.frz (sm _ _ h))
      | tup h => exact .base (.tup (sm _ _ h))
      | dK h => exact .base (.dK (sm _ _ h))
      | dT h => exact .base (.dT (sm _ _ h))
      | ins h c1 c2 c3 c4 c5 => exact .base (.ins (sm _ _ h) c1 c2 c3 c4 c5)
    | byt b => exact .byt b
    | set h => exact .set (sm _ _ h)
    | kList h c => exact .kList h c
    | kTuple h c => exact .kTuple h c
    | kDict h c => exact .kDict h c
    | fTuple h => exact .fTuple (sm _ _ h)
    | fDict h => exact .fDict (sm _ _ h)
  refine ⟨v, q, [tv, tv2], u, [tu, tu2], _, rfl, upd_same, .cons hcv (.cons hcv2 .nil), by rw [g.K]; exact ty', by rw [g.K]; exact kit_any f hu (ys := [t1, t2]) ⟨htu, htu2, trivial⟩, k _ _ ⟨_, _, (C.junk hq).push (.bl _)⟩ fun z => (s1 z).trans (same_new hq)⟩
end
end Ev
namespace Ev
open PySem PySem.Spec L2
section
variable {w : Wd} {G : Ground} {F : Hp} {lab : Addr → Option Lab} {σ : L2.St} {H : Hp} {e : Env} {ts : List (V × Pl)}
theorem Dens.dropLast : ∀ {v : List V} {x : List Val}, Dens w F v x → Dens w F v.dropLast x.dropLast
  | _, _, .nil => .nil
  | _, _, .cons a .nil => .nil
  | _, _, .cons a (.cons b r) => by
    simp only [List.dropLast_cons₂]
    exact .cons a (Dens.dropLast (.cons b r))
theorem Dens.eraseIdx : ∀ {v : List V} {x : List Val} (n : Nat), Dens w F v x → Dens w F (v.eraseIdx n) (x.eraseIdx n)
  | _, _, _, .nil => .nil
  | _, _, 0, .cons a r => r
  | _, _, n + 1, .cons a r => .cons a (Dens.eraseIdx n r)
abbrev RM := V → List V → Hp → VK → Prop
def bmR : Bm → RM
  | .append => rAppend
  | .extend => rExtend
  | .pop => rPop
  | .popAt => rPopAt
  | _ => fun _ _ _ _ => False
theorem bmw_of {m : Bm} {vs : List Val} {us : List V} {p p' : Pl} {q : Val} {i : Nat} {r : List Step} {u : V} {Q : VK} (hb : bmW m p vs = some (q, p')) (C : Cfg w G F lab σ H e ts) (gp : getE e i r = some p) (ha : AtS w σ H i r u) (d : Dens w F us vs)
    (k : ∀ H' t, CfgE w G σ H' (setE e i r p') ((t, .val q) :: ts) → Q t H') : bmR m u us H Q := by
  have main : ∀ {xs ys : List Val} {y : Val}, p = .lst xs → p' = .lst ys → ∃ a vs, u = .ref a ∧ H a = some (.lst vs) ∧ Dens w F vs xs ∧ ∀ vs' t, Dens w F vs' ys → Den w F t q → Q t (upd H a (.lst vs')) := by
    intro xs ys y h1 h2
    subst h1 h2
    obtain ⟨A, R, ed⟩ := C.edit gp (by simp) (by simp) ha
    simp only [Rep] at R
    obtain ⟨a, vs, rfl, hA, hH, dd⟩ := R
    refine ⟨a, vs, rfl, hH, dd, fun vs' t d' dt => ?_⟩
    obtain ⟨A2, R2, ed2⟩ := (C.push dt).edit gp (by simp) (by simp) ha
    simp only [Rep] at R2
    obtain ⟨a2, vs2, e2, hA2, _, _⟩ := R2
    cases e2
    refine k _ t (ed2 a _ _ hA2 ?_)
    simp only [Rep]
    exact ⟨a, vs', rfl, hA2, upd_same, d'⟩
  unfold bmW at hb
  split at hb
  · split at hb
    · rename_i hl
      cases hb
      obtain ⟨a, vs, rfl, hH, dd, fin⟩ := main (y := .non) rfl rfl
      cases d with
      | cons dv r =>
        cases r
        exact ⟨a, vs, _, rfl, rfl, hH, by rw [dd.length, ← line_eq]; exact hl, fin _ _ (dd.append (.cons dv .nil)) .non⟩
    · cases hb
  · split at hb
    · rename_i hl
      cases hb
      obtain ⟨a, vs, rfl, hH, dd, fin⟩ := main (y := .non) rfl rfl
      cases d with
      | cons dv r =>
        cases r
        cases dv with
        | lst h d2 =>
          exact ⟨a, _, vs, _, rfl, rfl, hH, C.fH _ _ h, by rw [dd.length, d2.length, ← line_eq]; exact hl, fin _ _ (dd.append d2) .non⟩
    · cases hb
  · rename_i xs
    cases hx : xs[xs.length - 1]? with
    | none => rw [hx] at hb; cases hb
    | some y =>
      rw [hx] at hb
      cases hb
      obtain ⟨a, vs, rfl, hH, dd, fin⟩ := main (y := .non) rfl rfl
      cases d
      obtain ⟨t, ht, dt⟩ := dd.get hx
      exact ⟨a, vs, t, rfl, rfl, hH, by rw [dd.length]; exact ht, fin _ _ dd.dropLast dt⟩
  · rename_i xs j
    split at hb
    · rename_i hj
      cases hx : xs[j.toNat]? with
      | none => rw [hx] at hb; cases hb
      | some y =>
        rw [hx] at hb
        cases hb
        obtain ⟨a, vs, rfl, hH, dd, fin⟩ := main (y := .non) rfl rfl
        cases d with
        | cons dv r =>
          cases r
          cases dv
          obtain ⟨t, ht, dt⟩ := dd.get hx
          have hlt : j.toNat < vs.length := (List.getElem?_eq_some_iff.mp ht).1
          refine ⟨a, vs, j, j.toNat, t, rfl, rfl, hH, by omega, hj.2, ?_, ht, fin _ _ (dd.eraseIdx _) dt⟩
          unfold seqIndex?
          have h0 : ¬ j < 0 := by omega
          have h1 : j < (vs.length : Int) := by omega
          simp only [h0, if_false, hj.1, h1, decide_true, Bool.and_self, if_true]
    · cases hb
  · cases hb
end
section
variable {X : Cx} {W : WX} {w : Wd} {c : Ctx} {a b o : Expr} {io ia ib : IE} {es : List Expr} {irs : List IE} {pos apos : Pos}
theorem few_of {env : PySem.Env} {es : List Expr} (hn : ∀ e ∈ es, notStar e = true) (hl : es.length < 30) : ((backTo pos (starEach es env)).all (fun x => !x.1) && (backToKw pos (keywordEach [] env)).all (fun x => x.1.isSome)
      && decide (es.length + ([] : List Keyword).length + (if ([] : List Keyword).isEmpty then 0 else 1) < 30)) = true := by
  rw [(plain_args hn).1]
  simpa [backToKw, keywordEach] using hl
/-- what an operand of this kind is -/
theorem ty_list {F H : Hp} {p : Pl} {v : V} {A : Addr → Prop} (fH : Same F H) (R : Rep w F H p v A) (ht : tagP p = some .list) : tyV w.K "list" v H := by
  cases p with
  | hole => cases ht
  | val x =>
    simp only [Rep] at R
    simp only [tagP] at ht
    cases R with
    | lst h d => exact .inl ⟨rfl, _, .inl (.inl (fH _ _ h))⟩
    | fzl h d => exact .inl ⟨rfl, _, fH.seq h⟩
    | _ => cases ht
  | lst xs => simp only [Rep] at R; obtain ⟨a, vs, rfl, _, h, _⟩ := R; exact .inl ⟨rfl, _, .inl (.inl h)⟩
  | lstP xs => simp only [Rep] at R; obtain ⟨a, vs, rfl, _, h, _⟩ := R; exact .inl ⟨rfl, _, .inl (.inl h)⟩
  | dct xs => cases ht
  | rcd xs => cases ht
  | ins c fs => cases ht
theorem ty_dict {F H : Hp} {p : Pl} {v : V} {A : Addr → Prop} (fH : Same F H) (R : Rep w F H p v A) (ht : tagP p = some .dict) : ∃ a, v = .ref a ∧ IsD H a := by
  cases p with
  | hole => cases ht
  | val x =>
    simp only [Rep] at R
    simp only [tagP] at ht
    cases R with
    | dct h d => exact ⟨_, rfl, .inl ⟨_, .inl (fH _ _ h)⟩⟩
    | _ => cases ht
  | lst xs => cases ht
  | lstP xs => cases ht
  | dct xs => simp only [Rep] at R; obtain ⟨a, vs, rfl, _, h, _⟩ := R; exact ⟨a, rfl, .inl ⟨_, .inl h⟩⟩
  | rcd xs => simp only [Rep] at R; obtain ⟨a, vs, rfl, _, h, _⟩ := R; exact ⟨a, rfl, .inl ⟨_, .inl h⟩⟩
  | ins c fs => cases ht
/-- the object of a method, its kind, and the rest -/
theorem bm_open {m : Bm} {σ : L2.St} {H : Hp} {Q : VK} (h : tO w W (smp (.bm o' m irs)) (evO c (.bm o' m irs)) σ H Q) {P : V → Hp → Prop} {io : IE} (eo : o' = io)
    (fin : ∀ G F lab e1 ts H1 v x p A t, Cfg w G F lab σ H1 e1 (tsOf x v ts) → Has w σ H1 (tsOf x v ts) x v → (plain x || smps irs) = true → (smp io = true → Same H H1) → placeOf e1 x = some p → Rep w F H1 p v A → tagP p = some t → bmT m (some t) = true →
      RO w G W (smp (.bm io m irs)) σ H ts Q ((evXs c irs e1).bind fun vs e =>
        if isW m then match x with
          | .at i r => match (getE e i r).bind fun p => bmW m p vs with
            | some (q, p') => .ok (.tmp (.val q)) (setE e i r p')
            | none => .stuck
          | .tmp _ => .stuck
        else Out.of (((peek1 e x).bind fun u => bmV m u vs).map fun v => .tmp (.val v)) e) → P v H1) : tO w W (smp io) (evO c io) σ H P := by
  subst eo
  obtain ⟨G, en, ts, C, h⟩ := h
  have h : RO w G W (smp (.bm o' m irs)) σ H ts Q (evO c (.bm o' m irs) en) := h
  simp only [evO] at h
  refine ⟨G, en, ts, C, ?_⟩
  cases m1 : evO c o' en with
  | stuck => rw [m1] at h; exact h.elim
  | exn y e1 => rw [m1] at h; exact h
  | ok x e1 =>
    rw [m1] at h
    simp only [Out.bind_ok] at h
    intro H1 v ⟨F, lab, C1⟩ a1 s1
    by_cases hc : ((plain x || smps irs) && bmT m ((placeOf e1 x).bind tagP)) = true
    · rw [if_pos hc] at h
      rw [Bool.and_eq_true] at hc
      cases pk : placeOf e1 x with
      | none => rw [pk] at hc; have := hc.2; cases m <;> simp [bmT] at this
      | some p =>
        rw [pk] at hc
        simp only [Option.bind_some] at hc
        cases tp : tagP p with
        | none => rw [tp] at hc; have := hc.2; cases m <;> simp [bmT] at this
        | some t =>
          rw [tp] at hc
          have hq : p ≠ .hole := fun z => by subst z; cases tp
          obtain ⟨A, R⟩ := C1.rep a1 pk hq
          exact fin G F lab e1 ts H1 v x p A t C1 a1 hc.1 s1 pk R tp hc.2 h
    · rw [if_neg hc] at h; exact h.elim
theorem bm_reads (g : Gd w W X) {m : Bm} (hm : isW m = true) {σ : L2.St} {H : Hp} {Q : VK} (h : tO w W (smp (.bm io m irs)) (evO c (.bm io m irs)) σ H Q) : tBM X.K "list" (bmR m) (tO w W (smp io) (evO c io)) (tXs w W (smps irs) (evXs c irs)) σ H Q := by
  refine bm_open h rfl fun G F lab e1 ts H1 v x p A t C1 a1 hp s1 pk R tp hb h => ?_
  have tl : t = .list := by cases m <;> cases t <;> simp_all [bmT, isW]
  subst tl
  refine ⟨by rw [g.K]; exact ty_list C1.fH R tp, G, e1, _, ⟨F, lab, C1⟩, ?_⟩
  cases m2 : evXs c irs e1 with
  | stuck => rw [m2] at h; exact h.elim
  | exn y e2 => rw [m2] at h; exact fun cls d H' c' => h cls d H' c'.dropO
  | ok vs e2 =>
    rw [m2] at h
    simp only [Out.bind_ok, hm, if_true] at h
    intro H2 us F2 lab2 C2 d2 s2
    have a2 : Has w σ H2 (tsOf x v ts) x v := a1.stay hp s2 fun t h => h
    cases x with
    | tmp q => exact h.elim
    | «at» i r =>
      simp only at h
      cases gp : getE e2 i r with
      | none => rw [gp] at h; exact h.elim
      | some p2 =>
        rw [gp] at h
        simp only [Option.bind_some] at h
        cases bw : bmW m p2 vs with
        | none => rw [bw] at h; exact h.elim
        | some z =>
          obtain ⟨q, p'⟩ := z
          rw [bw] at h
          have hs : smp (.bm io m irs) = true → False := fun z => by cases m <;> simp [smp, isW] at z hm
          exact bmw_of (ts := ts) bw C2 gp a2 d2 fun H' t C' => h H' t C' has_self fun z => (hs z).elim
/-- e.m(f, ..) of a list -/
theorem snd_bmL (g : Gd w W X) {m : Bm} (hw : isW m = true) {nm : Str} {id : String} (slot : Slot "list" nm id) (hty : typeOf (.builtin id) = pure (.type "method_descriptor")) (hm : MtR X id (bmR m)) (hn : ∀ e' ∈ a :: es, notStar e' = true) (hlen : (a :: es).length < 30)
    (hb : attributeBase o nm X.env (eval o X.env) = eval o X.env) (hl : (apos.endLine == pos.line) = true) (ho : Snd X W w c o io) (ha : SndX X W w c (a :: es) irs) : Snd X W w c (.Call (.Attribute o nm apos) (a :: es) [] pos) (.bm io m irs) :=
  snd_plain g (PE.imp (pe_bm PySem.F.plainAttrs_list slot hty hm ho.pe ha.pa hb (few_of hn hlen) hl (star_of (hn a (by simp))) (plain_args fun e' he => hn e' (List.mem_cons_of_mem _ he)).2) fun σ H Q h => bm_reads g hw h) fun _ => rfl
theorem dget_of {F H : Hp} {v u : V} {kvs : List (Val × Val)} {k : Val} {r : Option Val} (hd : dgetV kvs k = some r) (fH : Same F H) (vw : Vw w F H v (.dct kvs)) (dk : Den w F u k) : ∃ a ov, v = .ref a ∧ DGet H a u ov ∧ (match r with | some y => ∃ t, ov = some t ∧ Den w F t y | none => ov = none) := by
  obtain ⟨a, ks, rfl, h1, d⟩ := vw.dctH fH
  unfold dgetV at hd
  split at hd
  · rename_i hc
    rw [Bool.and_eq_true] at hc
    obtain ⟨kk, hk⟩ := Option.isSome_iff_exists.mp hc.1
    simp only [Option.some.injEq] at hd
    have q := dlook_den hk d
    rw [hd] at q
    obtain ⟨rfl, _⟩ := keyOf_den dk hk
    refine ⟨a, _, rfl, DGet.k h1, ?_⟩
    cases r with
    | none => exact q
    | some y => exact q
  · cases hd
/-- d.get(k), d.get(k, x) -/
theorem snd_get1 (g : Gd w W X) (hn : notStar a = true) (hb : attributeBase o "get" X.env (eval o X.env) = eval o X.env) (hl : (apos.endLine == pos.line) = true) (ho : Snd X W w c o io) (ha : Snd X W w c a ia) : Snd X W w c (.Call (.Attribute o "get" apos) [a] [] pos) (.bm io .get1 [ia]) :=
  snd_plain g (PE.imp (pe_dget1 (by have := g.hu; omega) ho.pe ha.pe ⟨hb, few_of (fun e h => by simp at h; subst h; exact hn) (by simp), hl, by rw [star_one hn]; rfl⟩) fun σ H Q h => by
    refine bm_open h rfl fun G F lab e1 ts H1 v x p A t C1 a1 hp s1 pk R tp hb h => ?_
    have tl : t = .dict := by cases t <;> simp_all [bmT]
    subst tl
    obtain ⟨ad, rfl, isd⟩ := ty_dict C1.fH R tp
    refine ⟨ad, rfl, isd, G, e1, _, ⟨F, lab, C1⟩, RO.toX ?_⟩
    simp only [evXs] at h
    cases m2 : (evO c ia e1).bind freeze with
    | stuck => rw [m2] at h; exact h.elim
    | exn y e2 => rw [m2] at h; exact fun cls d H' c' => h cls d H' c'.dropO
    | ok k e2 =>
      rw [m2] at h
      simp only [Out.bind_ok, isW, Bool.false_eq_true, if_false] at h
      intro H2 u2 ⟨F2, lab2, C2⟩ s2
      have a2 : Has w σ H2 (tsOf x (.ref ad) ts) x (.ref ad) := a1.stay hp (fun z => s2 (by simpa [smps] using z)) fun t h => h
      have dk := C2.temps.1
      simp only [Rep] at dk
      cases pk2 : peek1 e2 x with
      | none => rw [pk2] at h; exact h.elim
      | some y =>
        rw [pk2] at h
        simp only [Option.bind_some] at h
        cases bv : bmV .get1 y [k] with
        | none => rw [bv] at h; exact h.elim
        | some z =>
          rw [bv] at h
          have vw := C2.drop.vw a2 pk2
          have hh : ∃ kvs r, y = .dct kvs ∧ dgetV kvs k = some r ∧ z = r.getD .non := by
            cases y <;> simp only [bmV] at bv <;> first | contradiction | skip
            rename_i kvs
            cases hd : dgetV kvs k with
            | none => rw [hd] at bv; cases bv
            | some r => rw [hd] at bv; cases bv; exact ⟨kvs, r, rfl, hd, rfl⟩
          obtain ⟨kvs, r, rfl, hd, rfl⟩ := hh
          obtain ⟨a', ov, e3, dg, hr⟩ := dget_of hd C2.fH vw dk
          cases e3
          refine ⟨ov, dg, ?_⟩
          have hs : smp (.bm io .get1 [ia]) = true → Same H H2 := fun z => by
            simp only [smp, smps, Bool.and_eq_true, Bool.true_and, Bool.and_true] at z
            exact (s1 z.1).trans (s2 z.2)
          cases r with
          | none => rw [hr]; exact RO.value h C2.drop.dropO .non hs
          | some y =>
            obtain ⟨t', rfl, dt⟩ := hr
            exact RO.value h C2.drop.dropO dt hs) fun _ => rfl
theorem snd_get2 (g : Gd w W X) (hn : notStar a = true) (hn2 : notStar b = true) (hb : attributeBase o "get" X.env (eval o X.env) = eval o X.env) (hl : (apos.endLine == pos.line) = true) (ho : Snd X W w c o io) (ha : Snd X W w c a ia) (hbb : Snd X W w c b ib) : Snd X W w c (.Call (.Attribute o "get" apos) [a, b] [] pos) (.bm io .get2 [ia, ib]) :=
  snd_plain g (PE.imp (pe_dget2 (by have := g.hu; omega) ho.pe ha.pe hbb.pe ⟨hb, few_of (fun e h => by simp at h; rcases h with h | h <;> subst h <;> assumption) (by simp), hl, by rw [star_of hn, star_one hn2]; rfl⟩) fun σ H Q h => by
    refine bm_open h rfl fun G F lab e1 ts H1 v x p A t C1 a1 hp s1 pk R tp hb h => ?_
    have tl : t = .dict := by cases t <;> simp_all [bmT]
    subst tl
    obtain ⟨ad, rfl, isd⟩ := ty_dict C1.fH R tp
    refine ⟨ad, rfl, isd, G, e1, _, ⟨F, lab, C1⟩, RO.toX ?_⟩
    simp only [evXs] at h
    cases m2 : (evO c ia e1).bind freeze with
    | stuck => rw [m2] at h; exact h.elim
    | exn y e2 => rw [m2] at h; exact fun cls d H' c' => h cls d H' c'.dropO
    | ok k e2 =>
      rw [m2] at h
      simp only [Out.bind_ok] at h
      intro H2 u2 C2 s2
      refine ⟨G, e2, _, C2, RO.toX ?_⟩
      cases m3 : (evO c ib e2).bind freeze with
      | stuck => rw [m3] at h; exact h.elim
      | exn y e3 => rw [m3] at h; exact fun cls d H' c' => h cls d H' c'.drop.dropO
      | ok dflt e3 =>
        rw [m3] at h
        simp only [Out.bind_ok, isW, Bool.false_eq_true, if_false] at h
        intro H3 u3 ⟨F3, lab3, C3⟩ s3
        have hs12 : smps [ia, ib] = true → Same H1 H3 := fun z => by
          simp only [smps, Bool.and_eq_true, Bool.and_true] at z
          exact (s2 z.1).trans (s3 z.2)
        have a2 : Has w σ H3 (tsOf x (.ref ad) ts) x (.ref ad) := a1.stay hp hs12 fun t h => h
        have dd := C3.temps.1
        have dk := C3.temps.2.1
        simp only [Rep] at dk dd
        cases pk2 : peek1 e3 x with
        | none => rw [pk2] at h; exact h.elim
        | some y =>
          rw [pk2] at h
          simp only [Option.bind_some] at h
          cases bv : bmV .get2 y [k, dflt] with
          | none => rw [bv] at h; exact h.elim
          | some z =>
            rw [bv] at h
            have vw := C3.drop.drop.vw a2 pk2
            have hh : ∃ kvs r, y = .dct kvs ∧ dgetV kvs k = some r ∧ z = r.getD dflt := by
              cases y <;> simp only [bmV] at bv <;> first | contradiction | skip
              rename_i kvs
              cases hd : dgetV kvs k with
              | none => rw [hd] at bv; cases bv
              | some r => rw [hd] at bv; cases bv; exact ⟨kvs, r, rfl, hd, rfl⟩
            obtain ⟨kvs, r, rfl, hd, rfl⟩ := hh
            obtain ⟨a', ov, e3', dg, hr⟩ := dget_of hd C3.fH vw dk
            cases e3'
            refine ⟨ov, dg, ?_⟩
            have hs : smp (.bm io .get2 [ia, ib]) = true → Same H H3 := fun z => by
              simp only [smp, Bool.and_eq_true, Bool.true_and] at z
              exact (s1 z.1).trans (hs12 z.2)
            cases r with
            | none => rw [hr]; exact RO.value h C3.drop.drop.dropO dd hs
            | some y =>
              obtain ⟨t', rfl, dt⟩ := hr
              exact RO.value h C3.drop.drop.dropO dt hs) fun _ => rfl
end
end Ev
namespace Ev
open PySem PySem.Spec L2
section
variable {X : Cx} {W : WX} {w : Wd} {c : Ctx} {pos : Pos}
inductive SndL (X : Cx) (W : WX) (w : Wd) (c : Ctx) : List Expr → List IE → Prop
  | nil : SndL X W w c [] []
  | cons {e : Expr} {ir : IE} {es : List Expr} {irs : List IE} : Snd X W w c e ir → SndL X W w c es irs → SndL X W w c (e :: es) (ir :: irs)
inductive KeysE (X : Cx) : List (Option Expr) → List Str → Prop
  | nil : KeysE X [] []
  | cons {e : Expr} {k : Str} {es : List (Option Expr)} {ks : List Str} : PE X e (tC (.str k)) → KeysE X es ks → KeysE X (some e :: es) (k :: ks)
def trsOf (W : WX) (w : Wd) (c : Ctx) : List Str → List IE → List (TE × TE)
  | k :: ks, ir :: irs => (tC (.str k), tO w W (smp ir) (evO c ir)) :: trsOf W w c ks irs
  | _, _ => []
theorem pps_of : ∀ {kes : List (Option Expr)} {ks : List Str} {es : List Expr} {irs : List IE}, KeysE X kes ks → SndL X W w c es irs → kes.length = es.length → PPs X pos kes es (trsOf W w c ks irs)
  | _, _, _, _, .nil, .nil, _ => pps_nil
  | _, _, _, _, .cons k ks, .cons e es, h => pps_cons k e.pe (pps_of ks es (by simpa using h))
  | _, _, _, _, .nil, .cons _ _, h => by simp at h
  | _, _, _, _, .cons _ _, .nil, h => by simp at h
theorem keysE_length : ∀ {kes : List (Option Expr)} {ks : List Str}, KeysE X kes ks → kes.length = ks.length ∧ kes.all (·.isSome) = true
  | _, _, .nil => ⟨rfl, rfl⟩
  | _, _, .cons _ r => ⟨by rw [List.length_cons, List.length_cons, (keysE_length r).1], by simp [(keysE_length r).2]⟩
theorem sndL_length : ∀ {es : List Expr} {irs : List IE}, SndL X W w c es irs → es.length = irs.length
  | _, _, .nil => rfl
  | _, _, .cons _ r => by rw [List.length_cons, List.length_cons, sndL_length r]
/-- the pairs, their values as places -/
theorem pairs_P {σ : L2.St} : ∀ {ks : List Str} {irs : List IE} {H : Hp} {Q : List (V × V) → Hp → Prop}, ks.length = irs.length → tPs w W (evOwns c irs) σ H (fun vs H' => vs.length = ks.length → Q ((ks.map V.str).zip vs) H') → tPairs (trsOf W w c ks irs) σ H Q
  | [], [], H, Q, _, h => by
    obtain ⟨G, en, ts, C, h⟩ := h
    simp only [evOwns] at h
    exact h H [] rfl C rfl
  | k :: ks, ir :: irs, H, Q, hl, h => by
    obtain ⟨G, en, ts, C, h⟩ := h
    simp only [evOwns] at h
    refine ⟨G, en, ts, C, RO.toP ?_⟩
    cases m : (evO c ir en).bind own with
    | stuck => rw [m] at h; exact h
    | exn z e2 => rw [m] at h; exact h
    | ok p e1 =>
      rw [m] at h
      simp only [Out.bind_ok] at h
      intro H1 v C1 _
      refine pairs_P (by simpa using hl) ⟨G, e1, _, C1, ?_⟩
      cases m2 : evOwns c irs e1 with
      | stuck => rw [m2] at h; exact h
      | exn z e2 => rw [m2] at h; exact fun cls d H' c' => h cls d H' c'.drop
      | ok ps e2 =>
        rw [m2] at h
        exact fun H2 vs hl C2 hlen => h H2 (v :: vs) (by simpa using hl) (C2.perm (by
          show (vs.zip ps ++ (v, p) :: ts).Perm ((v, p) :: (vs.zip ps ++ ts))
          exact List.perm_middle)) (by simpa using hlen)
  | [], _ :: _, _, _, hl, _ => by simp at hl
  | _ :: _, [], _, _, hl, _ => by simp at hl
theorem zip_pairs : ∀ {ks : List Str} {vs : List V}, (ks.map V.str).zip vs = (recK (ks.zip vs)).map fun kv => (kV kv.1, kv.2)
  | [], vs => by simp [recK]
  | k :: ks, [] => by simp [recK]
  | k :: ks, v :: vs => by
    have ih := zip_pairs (ks := ks) (vs := vs)
    simp only [List.map_cons, List.zip_cons_cons, recK] at ih ⊢
    rw [ih]
    rfl
theorem mergeK_rec : ∀ {ks : List Str} {vs : List V} {acc : List (Str × V)}, ks.Nodup → (∀ k ∈ ks, k ∉ acc.map (·.1)) → mergeK (recK acc) (recK (ks.zip vs)) = recK (acc ++ ks.zip vs)
  | [], vs, acc, _, _ => by simp [mergeK, recK]
  | k :: ks, [], acc, _, _ => by simp [mergeK, recK]
  | k :: ks, v :: vs, acc, hn, ha => by
    have hk : ((recK acc).any fun kv => decide (kv.1 = (Sum.inr k : Key))) = false := by
      rw [List.any_eq_false]
      intro q hq
      obtain ⟨t, ht, rfl⟩ := List.mem_map.mp hq
      have := ha k List.mem_cons_self
      simp only [decide_eq_true_eq]
      exact fun z => this (List.mem_map.mpr ⟨t, ht, Sum.inr.inj z⟩)
    have hp : putK (recK acc) (Sum.inr k) v = recK (acc ++ [(k, v)]) := by
      unfold putK
      rw [hk]
      simp [recK]
    have step : mergeK (recK acc) (recK ((k :: ks).zip (v :: vs))) = mergeK (putK (recK acc) (Sum.inr k) v) (recK (ks.zip vs)) := rfl
    rw [step, hp, mergeK_rec (List.nodup_cons.mp hn).2 fun k' hk' => ?_]
    · simp [List.append_assoc]
    · simp only [List.map_append, List.map_cons, List.map_nil, List.mem_append, List.mem_singleton, not_or]
      exact ⟨ha k' (List.mem_cons_of_mem _ hk'), fun z => (List.nodup_cons.mp hn).1 (z ▸ hk')⟩
theorem putF_new {α : Type} {n : Str} {x : α} : ∀ {fs : List (Str × α)}, n ∉ fs.map (·.1) → Ev.putF n x fs = fs ++ [(n, x)]
  | [], _ => rfl
  | (m, y) :: fs, h => by
    simp only [List.map_cons, List.mem_cons, not_or] at h
    simp only [Ev.putF, if_neg (fun (z : m = n) => h.1 z.symm), putF_new h.2, List.cons_append]
theorem putF_newV {n : Str} {x : V} : ∀ {fs : List (Str × V)}, n ∉ fs.map (·.1) → L2.putF n x fs = fs ++ [(n, x)]
  | [], _ => rfl
  | (m, y) :: fs, h => by
    simp only [List.map_cons, List.mem_cons, not_or] at h
    simp only [L2.putF, if_neg (fun (z : m = n) => h.1 z.symm), putF_newV h.2, List.cons_append]
theorem upd_self {H : Hp} {a : Addr} {o : HO} (h : H a = some o) : upd H a o = H := by
  funext b
  by_cases hb : b = a
  · subst hb; rw [upd_same, h]
  · rw [upd_ne hb]
theorem merge_all {G : Ground} {σ : L2.St} {en : Env} {D : Addr} {ts : List (V × Pl)} : ∀ {ks : List Str} {vs : List V} {ps : List Pl} {fs : List (Str × Pl)} {fvs : List (Str × V)} {H : Hp}, CfgE w G σ H en ((.ref D, .rcd fs) :: (vs.zip ps ++ ts)) → H D = some (.dK (recK fvs)) → vs.length = ks.length → ps.length = ks.length → ks.Nodup → (∀ k ∈ ks, k ∉ fs.map (·.1)) →
    CfgE w G σ (upd H D (.dK (recK (fvs ++ ks.zip vs)))) en ((.ref D, .rcd (fs ++ ks.zip ps)) :: ts)
  | [], [], [], fs, fvs, H, C, hD, _, _, _, _ => by
    simp only [List.zip_nil_left, List.append_nil]
    rw [upd_self hD]
    simpa using C
  | k :: ks, v :: vs, p :: ps, fs, fvs, H, C, hD, h1, h2, hn, hf => by
    obtain ⟨F, lab, C⟩ := C
    have C : Cfg w G F lab σ H en ((.ref D, .rcd fs) :: (v, p) :: (vs.zip ps ++ ts)) := C
    have R := C.temps.1
    have Rp := C.temps.2.1
    simp only [Rep] at R
    obtain ⟨a, fv, e1, hA, hH, B, b1, b2, RF⟩ := R
    cases e1
    rw [hD] at hH
    have := recK_inj (HO.dK.inj (Option.some.inj hH))
    subst this
    have hA : lab D = some (.tmp ((vs.zip ps ++ ts).length + 1)) := hA
    have en1 := RepF.names RF
    have nk : k ∉ fs.map (·.1) := hf k List.mem_cons_self
    have nkv : k ∉ fvs.map (·.1) := by rw [en1]; exact nk
    have Rp' : Rep w F (upd H D (.dK (recK (fvs ++ [(k, v)])))) p v (fun b => lab b = some (.tmp (vs.zip ps ++ ts).length)) := Rep.mono (Same.refl _) p Rp (fun b hb o ho => by
      have hb : lab b = some (.tmp (vs.zip ps ++ ts).length) := hb
      rw [upd_ne (fun z => by subst z; rw [hA] at hb; have := tmp_inj hb; omega)]; exact ho) fun _ h => h
    obtain ⟨i0, hS, _⟩ := RepF.store (f := k) Rp' fs RF (fun i b hb o ho => by rw [upd_ne (b1 i b hb).2]; exact ho)
    rw [putF_new nk, putF_newV nkv] at hS
    have C2 := C.merge (a := D) (o := .dK (recK (fvs ++ [(k, v)]))) (q' := .rcd (fs ++ [(k, p)])) hA (by
      simp only [Rep]
      refine ⟨D, _, rfl, .inl hA, upd_same, _, fun i b hb => ?_, fun i j b hi hj => ?_, hS⟩
      · by_cases hi : i = i0
        · rw [if_pos hi] at hb
          exact ⟨.inr hb, fun z => by subst z; rw [hA] at hb; have := tmp_inj hb; omega⟩
        · rw [if_neg hi] at hb
          exact ⟨.inl (b1 i b hb).1, (b1 i b hb).2⟩
      · by_cases hi0 : i = i0
        · rw [if_pos hi0] at hi
          by_cases hj0 : j = i0
          · rw [hi0, hj0]
          · rw [if_neg hj0] at hj
            have z : lab b = some (.tmp ((vs.zip ps ++ ts).length + 1)) := (b1 j b hj).1
            rw [hi] at z; have := tmp_inj z; omega
        · rw [if_neg hi0] at hi
          by_cases hj0 : j = i0
          · rw [if_pos hj0] at hj
            have z : lab b = some (.tmp ((vs.zip ps ++ ts).length + 1)) := (b1 i b hi).1
            rw [hj] at z; have := tmp_inj z; omega
          · rw [if_neg hj0] at hj
            exact b2 i j b hi hj)
    have ih := merge_all (ks := ks) (vs := vs) (ps := ps) (fs := fs ++ [(k, p)]) (fvs := fvs ++ [(k, v)]) C2 upd_same (by simpa using h1) (by simpa using h2) (List.nodup_cons.mp hn).2 (fun k' hk' => by
      simp only [List.map_append, List.map_cons, List.map_nil, List.mem_append, List.mem_singleton, not_or]
      exact ⟨hf k' (List.mem_cons_of_mem _ hk'), fun z => (List.nodup_cons.mp hn).1 (z ▸ hk')⟩)
    rw [upd_upd] at ih
    simpa [List.append_assoc] using ih
  | [], _ :: _, _, _, _, _, _, _, h1, _, _, _ => by simp at h1
  | [], [], _ :: _, _, _, _, _, _, _, h2, _, _ => by simp at h2
  | _ :: _, [], _, _, _, _, _, _, h1, _, _, _ => by simp at h1
  | _ :: _, _ :: _, [], _, _, _, _, _, _, h2, _, _ => by simp at h2
theorem snd_rcd (g : Gd w W X) {kes : List (Option Expr)} {ks : List Str} {es : List Expr} {irs : List IE} (hk : KeysE X kes ks) (he : SndL X W w c es irs) (hl : kes.length = es.length) (h0 : kes ≠ []) (h15 : kes.length ≤ 15) (hn : ks.Nodup) :
    Snd X W w c (.Dict kes es pos) (.rcd ks irs) := by
  obtain ⟨l1, l2⟩ := keysE_length hk
  have l3 := sndL_length he
  refine snd_plain g (PE.imp (pe_disp (pps_of hk he hl) l2 hl h0 h15) fun σ H Q h => ?_) fun _ => rfl
  obtain ⟨G, en, ts, ⟨F, lab, C⟩, h⟩ := h
  intro p hp
  refine pairs_P (by omega) ?_
  have C0 := C.newO (p := p) (o := .dK []) hp (pl := .rcd []) (by
    simp only [Rep]
    exact ⟨p, [], rfl, rfl, upd_same, fun _ _ => False, fun i b z => z.elim, fun i j b z => z.elim, by simp only [RepF]⟩)
  refine ⟨G, en, _, C0, ?_⟩
  simp only [evO, smp] at h
  cases m : evOwns c irs en with
  | stuck => rw [m] at h; exact h.elim
  | exn y e1 => rw [m] at h; exact fun cls d H' c' => h cls d H' c'.drop
  | ok ps e1 =>
    rw [m] at h
    simp only [Out.bind_ok] at h
    intro H2 vs hv C2 hlen
    by_cases hc : ps.length = ks.length ∧ ks.length ≤ 15
    · rw [if_pos hc] at h
      have C3 : CfgE w G σ H2 e1 ((.ref p, .rcd []) :: (vs.zip ps ++ ts)) := C2.perm List.perm_middle
      obtain ⟨F3, lab3, C3'⟩ := id C3
      have R := C3'.temps.1
      simp only [Rep] at R
      obtain ⟨a, fvs, e3, hA, hH, B, _, _, RF⟩ := R
      cases e3
      simp only [RepF] at RF
      subst RF
      refine ⟨hH, recK (ks.zip vs), zip_pairs, by simp [recK]; omega, ?_⟩
      have eM : mergeK [] (recK (ks.zip vs)) = recK (ks.zip vs) := by
        have := mergeK_rec (vs := vs) (acc := []) hn (fun k _ => by simp)
        simpa [recK] using this
      rw [eM]
      have C4 := merge_all (ks := ks) C3 hH hlen hc.1 hn (fun k _ => by simp)
      simp only [List.nil_append] at C4
      exact h _ _ C4 has_self fun z => by cases z
    · rw [if_neg hc] at h; exact h.elim
end
end Ev
namespace Ev
open PySem PySem.Spec L2
section
variable {X : Cx} {W : WX} {w : Wd} {c : Ctx} {e : Expr} {pos : Pos}
theorem snd_glo (g : Gd w W X) {n : Str} {v : V} {x : Val} (hc : c.glo n = some x) (hd : ∀ F, Den w F v x) (h : PE X e (tC v)) (he : ∀ whole, isTrue e X.env whole = (do let v ← whole; standAt e.pos; holding [v] (PySem.truthy v))) : Snd X W w c e (.glo n) :=
  snd_plain g (PE.imp h fun σ H Q q => by
    obtain ⟨G, en, ts, ⟨F, lab, C⟩, q⟩ := q
    simp only [evO, hc, Option.map_some, Out.of_some] at q
    exact RO.value q C (hd F) fun _ => Same.refl _) he
theorem snd_dct0 (g : Gd w W X) : Snd X W w c (.Dict [] [] pos) (.dct [] []) :=
  snd_plain g (PE.imp pe_dnewK fun σ H Q q => by
    obtain ⟨G, en, ts, ⟨F, lab, C⟩, q⟩ := q
    simp only [evO, evXs, Out.bind_ok] at q
    rw [if_pos ⟨rfl, by decide⟩] at q
    exact RO.newO q C (fun p hp => by
      simp only [Rep]
      exact ⟨p, [], rfl, rfl, upd_same, .nil⟩) fun _ => Same.refl _) fun _ => rfl
/-- a statement that is never reached -/
theorem ss_never {st : Stmt} {k : Str} : SndS X W w c st .stuck := ⟨PS.imp ps_never fun D σ H h => by
  obtain ⟨G, en, ts, C, hp, h⟩ := h
  simp only [evS] at h
  exact h⟩
end
end Ev
namespace Ev
open PySem PySem.Spec L2
section
variable {w : Wd} {G : Ground} {F H : Hp} {lab : Addr → Option Lab} {σ : L2.St} {e : Env}
theorem RepT.get : ∀ {ts : List (V × Pl)} {i : Nat} {v : V} {p : Pl}, RepT w F H lab ts → ts[i]? = some (v, p) → Rep w F H p v (fun a => lab a = some (.tmp (ts.length - 1 - i)))
  | [], i, v, p, _, h => by simp at h
  | (u, q) :: ts, 0, v, p, r, h => by
    simp at h
    obtain ⟨rfl, rfl⟩ := h
    exact Rep.mono (Same.refl _) q r.1 (fun _ _ _ h => h) fun a ha => by simpa using ha
  | (u, q) :: ts, i + 1, v, p, r, h => by
    have := RepT.get (i := i) r.2 (by simpa using h)
    exact Rep.mono (Same.refl _) p this (fun _ _ _ h => h) fun a ha => by
      rw [ha]; congr 2; simp; omega
theorem RepT.ofGet : ∀ {ts : List (V × Pl)}, (∀ i v p, ts[i]? = some (v, p) → Rep w F H p v (fun a => lab a = some (.tmp (ts.length - 1 - i)))) → RepT w F H lab ts
  | [], _ => trivial
  | (u, q) :: ts, h => ⟨Rep.mono (Same.refl _) q (h 0 u q rfl) (fun _ _ _ h => h) fun a ha => by simpa using ha, RepT.ofGet fun i v p hi => Rep.mono (Same.refl _) p (h (i + 1) v p (by simpa using hi)) (fun _ _ _ h => h) fun a ha => by
      rw [ha]; congr 2; simp; omega⟩
def pinP (np : Nat) (rb : List Bool) (i : Nat) : Bool := decide (i < np) && !(rb.getD i false)
def keepP (rb : List Bool) (vs : List V) (i : Nat) : Option V := if pinP vs.length rb i then vs[i]? else none
/-- the parameters that are bound anew, as they came -/
def rbT : List Bool → List V → List Pl → List (V × Pl)
  | b :: bs, v :: vs, p :: ps => if b then (v, p) :: rbT bs vs ps else rbT bs vs ps
  | _, _, _ => []
def Ground.call (G : Ground) (rb : List Bool) (vs : List V) : Ground := { G with keep := keepP rb vs }
theorem rbT_den : ∀ {rb : List Bool} {vs : List V} {ps : List Pl}, rbOk rb ps = true → (∀ (i : Nat) (v : V) (p : Pl), vs[i]? = some v → ps[i]? = some p → ∃ A, Rep w F H p v A) → ∃ sv : List (V × Val), rbT rb vs ps = srcT sv ∧ ∀ q ∈ sv, Den w F q.1 q.2
  | b :: bs, v :: vs, p :: ps, h, k => by
    have h2 : rbOk bs ps = true := by cases b <;> simp [rbOk] at h <;> first | exact h | exact h.2
    obtain ⟨sv, e1, e2⟩ := rbT_den (rb := bs) (vs := vs) (ps := ps) h2 fun i v p hv hp => k (i + 1) v p (by simpa using hv) (by simpa using hp)
    cases b with
    | false => exact ⟨sv, by simpa [rbT] using e1, e2⟩
    | true =>
      cases p with
      | val x =>
        obtain ⟨A, R⟩ := k 0 v _ rfl rfl
        simp only [Rep] at R
        refine ⟨(v, x) :: sv, by simp [rbT, srcT] at e1 ⊢; exact e1, fun q hq => ?_⟩
        rcases List.mem_cons.mp hq with z | z
        · subst z; exact R
        · exact e2 q z
      | _ => simp [rbOk] at h
  | [], _, _, _, _ => ⟨[], by simp [rbT, srcT], fun q h => by simp at h⟩
  | _ :: _, [], _, _, _ => ⟨[], by simp [rbT, srcT], fun q h => by simp at h⟩
  | _ :: _, _ :: _, [], _, _ => ⟨[], by simp [rbT, srcT], fun q h => by simp at h⟩
theorem Cfg.enter {vs : List V} {ps : List Pl} {rb : List Bool} {n : Nat} {N : List Str} (C : Cfg w G F lab [] H [] (vs.zip ps)) (hl : vs.length = ps.length) (hN : N.length = n) (hn : vs.length ≤ n) (hr : rbOk rb ps = true) :
    CfgE w (G.call rb vs) (L2.start N vs) H (ps ++ List.replicate (n - ps.length) .hole) (rbT rb vs ps) := by
  let lab' : Addr → Option Lab := fun a => match lab a with
    | some (.tmp j) => if j < vs.length then some (.slot (vs.length - 1 - j)) else none
    | _ => none
  have zl : (vs.zip ps).length = vs.length := by rw [List.length_zip]; omega
  have rep : ∀ (i : Nat) (v : V) (p : Pl), vs[i]? = some v → ps[i]? = some p → Rep w F H p v (fun a => lab' a = some (.slot i)) := fun i v p hv hp => by
    have hz : (vs.zip ps)[i]? = some (v, p) := List.getElem?_zip_eq_some.mpr ⟨hv, hp⟩
    have hi : i < vs.length := (List.getElem?_eq_some_iff.mp hv).1
    refine Rep.mono (Same.refl _) p (C.temps.get hz) (fun _ _ _ h => h) fun a ha => ?_
    rw [zl] at ha
    show lab' a = _
    simp only [lab', ha]
    rw [if_pos (by omega)]
    congr 2; omega
  obtain ⟨sv, e1, e2⟩ := rbT_den (w := w) (F := F) (H := H) (vs := vs) hr fun i v p hv hp => ⟨_, rep i v p hv hp⟩
  have C0 : Cfg w (G.call rb vs) F lab' (L2.start N vs) H (ps ++ List.replicate (n - ps.length) .hole) [] := by
    refine ⟨C.fH, fun a l h => ?_, C.av, C.avO, C.out, C.outH, C.pres, fun i p h => ?_, trivial, fun i v h => ?_, by simp only [L2.start, List.length_append, List.length_map, List.length_replicate]; omega⟩
    · simp only [lab'] at h
      split at h
      · rename_i j hj; exact C.own a _ hj
      · cases h
    · by_cases hi : i < ps.length
      · rw [List.getElem?_append_left hi] at h
        have hv : vs[i]? = some vs[i] := List.getElem?_eq_getElem (by omega)
        refine .inr ⟨vs[i], ?_, rep i _ p hv h⟩
        unfold L2.start
        rw [List.getElem?_append_left (by rw [List.length_map]; omega), List.getElem?_map, hv]
        rfl
      · rw [List.getElem?_append_right (by omega), List.getElem?_replicate] at h
        split at h
        · cases h; exact .inl rfl
        · cases h
    · have h : keepP rb vs i = some v := h
      unfold keepP at h
      split at h
      · unfold L2.start
        have hi : i < vs.length := (List.getElem?_eq_some_iff.mp h).1
        rw [List.getElem?_append_left (by rw [List.length_map]; omega), List.getElem?_map, h]
        rfl
      · cases h
  have := C0.pushL e2
  rw [List.append_nil, ← e1] at this
  exact ⟨F, lab', this⟩
theorem outs_get : ∀ {rb : List Bool} {ps : List Pl} {e : Env} {i : Nat} {q : Pl}, (outs rb ps e)[i]? = some q → ∃ p, ps[i]? = some p ∧ ((rb.getD i false = true ∧ q = p) ∨ (rb.getD i false = false ∧ e[i]? = some q))
  | b :: bs, p :: ps, r :: e, 0, q, h => by
    simp only [outs] at h
    simp at h
    cases b with
    | true => exact ⟨p, rfl, .inl ⟨rfl, by simpa using h.symm⟩⟩
    | false => exact ⟨p, rfl, .inr ⟨rfl, by simpa using h⟩⟩
  | b :: bs, p :: ps, r :: e, i + 1, q, h => by
    simp only [outs] at h
    obtain ⟨p', h1, h2⟩ := outs_get (rb := bs) (ps := ps) (e := e) (i := i) (by simpa using h)
    exact ⟨p', by simpa using h1, by simpa using h2⟩
  | [], p :: ps, r :: e, 0, q, h => by
    simp only [outs] at h
    exact ⟨p, rfl, .inr ⟨rfl, by simpa using h⟩⟩
  | [], p :: ps, r :: e, i + 1, q, h => by
    simp only [outs] at h
    obtain ⟨p', h1, h2⟩ := outs_get (rb := []) (ps := ps) (e := e) (i := i) (by simpa using h)
    exact ⟨p', by simpa using h1, by simpa using h2⟩
  | [], [], _, _, _, h => by simp [outs] at h
  | _ :: _, [], _, _, _, h => by simp [outs] at h
  | [], _ :: _, [], _, _, h => by simp [outs] at h
  | _ :: _, _ :: _, [], _, _, h => by simp [outs] at h
theorem outs_length : ∀ {rb : List Bool} {ps : List Pl} {e : Env}, ps.length ≤ e.length → (outs rb ps e).length = ps.length
  | b :: bs, p :: ps, r :: e, h => by simp only [outs, List.length_cons]; rw [outs_length (by simpa using h)]
  | [], p :: ps, r :: e, h => by simp only [outs, List.length_cons]; rw [outs_length (by simpa using h)]
  | [], [], _, _ => by simp [outs]
  | _ :: _, [], _, _ => by simp [outs]
  | [], _ :: _, [], h => by simp at h
  | _ :: _, _ :: _, [], h => by simp at h
theorem rbT_mem : ∀ {rb : List Bool} {vs : List V} {ps : List Pl} {i : Nat} {v : V} {p : Pl}, vs[i]? = some v → ps[i]? = some p → rb.getD i false = true → (v, p) ∈ rbT rb vs ps
  | b :: bs, v' :: vs, p' :: ps, 0, v, p, hv, hp, hb => by
    simp at hv hp hb
    subst hv hp hb
    simp [rbT]
  | b :: bs, v' :: vs, p' :: ps, i + 1, v, p, hv, hp, hb => by
    have := rbT_mem (rb := bs) (vs := vs) (ps := ps) (i := i) (by simpa using hv) (by simpa using hp) (by simpa using hb)
    cases b <;> simp [rbT, this]
  | [], _, _, _, _, _, _, _, hb => by simp at hb
  | _ :: _, [], _, _, _, _, hv, _, _ => by simp at hv
  | _ :: _, _ :: _, [], _, _, _, _, hp, _ => by simp at hp
end
end Ev
namespace Ev
open PySem PySem.Spec L2
section
variable {w : Wd} {G : Ground} {F H : Hp} {lab : Addr → Option Lab} {σ : L2.St} {e : Env}
/-- from the callee's last state: the results t (none or one), the parameters' places -/
theorem Cfg.exit {vs : List V} {ps : List Pl} {rb : List Bool} {res : List (V × Pl)} (hG : ∀ i, G.keep i = none) (C : Cfg w (G.call rb vs) F lab σ H e (res ++ rbT rb vs ps)) (hl : vs.length = ps.length) (hr : rbOk rb ps = true) (hn : vs.length ≤ e.length) :
    ∃ lab', Cfg w G F lab' [] H [] (res ++ vs.zip (outs rb ps e)) := by
  let m := (rbT rb vs ps).length
  let np := vs.length
  let lab' : Addr → Option Lab := fun a => match lab a with
    | some (.tmp j) => if m ≤ j then some (.tmp (j - m + np)) else none
    | some (.slot i) => if i < np then some (.tmp (np - 1 - i)) else none
    | none => none
  have ol : (outs rb ps e).length = np := by rw [outs_length (by omega)]; exact hl.symm
  have zl : (vs.zip (outs rb ps e)).length = np := by rw [List.length_zip, ol]; exact Nat.min_self _
  have own' : ∀ a l, lab' a = some l → ∃ l', lab a = some l' := fun a l h => by
    simp only [lab'] at h
    cases q : lab a with
    | none => rw [q] at h; cases h
    | some l' => exact ⟨l', rfl⟩
  refine ⟨lab', C.fH, fun a l h => ?_, C.av, C.avO, C.out, C.outH, C.pres, fun i p h => by simp at h, RepT.ofGet fun i v p hi => ?_, fun i v h => (by rw [hG] at h; cases h), rfl⟩
  · obtain ⟨l', h'⟩ := own' a l h
    exact C.own a l' h'
  · have tl : (res ++ vs.zip (outs rb ps e)).length = res.length + np := by rw [List.length_append, zl]
    rw [tl]
    by_cases hi' : i < res.length
    · rw [List.getElem?_append_left hi'] at hi
      have h2 : (res ++ rbT rb vs ps)[i]? = some (v, p) := by rw [List.getElem?_append_left hi']; exact hi
      refine Rep.mono (Same.refl _) p (C.temps.get h2) (fun _ _ _ h => h) fun a ha => ?_
      rw [List.length_append] at ha
      show lab' a = _
      simp only [lab', ha]
      rw [if_pos (by show m ≤ _; omega)]
      congr 2; show _ - m + np = _; omega
    · rw [List.getElem?_append_right (by omega)] at hi
      obtain ⟨hv, hq⟩ := List.getElem?_zip_eq_some.mp hi
      have hlt : i - res.length < np := (List.getElem?_eq_some_iff.mp hv).1
      obtain ⟨p0, hp0, hh⟩ := outs_get hq
      rcases hh with ⟨hb, rfl⟩ | ⟨hb, he⟩
      · have hm := rbT_mem hv hp0 hb
        have hval : ∃ x, p = .val x := by
          have : ∀ {rb : List Bool} {ps : List Pl} {i : Nat} {p : Pl}, rbOk rb ps = true → ps[i]? = some p → rb.getD i false = true → ∃ x, p = .val x := by
            intro rb
            induction rb with
            | nil => intro ps i p _ _ h; simp at h
            | cons b rb ih =>
              intro ps i p h1 h2 h3
              cases ps with
              | nil => simp at h2
              | cons q ps =>
                cases i with
                | zero =>
                  simp at h2 h3
                  subst h2 h3
                  cases q with
                  | val x => exact ⟨x, rfl⟩
                  | _ => simp [rbOk] at h1
                | succ i =>
                  refine ih (ps := ps) (i := i) ?_ (by simpa using h2) (by simpa using h3)
                  cases b <;> simp [rbOk] at h1 <;> first | exact h1 | exact h1.2
          exact this hr hp0 hb
        obtain ⟨x, rfl⟩ := hval
        have d := C.mem (List.mem_append_right res hm)
        simp only [Rep]
        exact d
      · rcases C.slots _ p he with z | ⟨v', hv', R⟩
        · subst z; simp only [Rep]
        · have hk : (G.call rb vs).keep (i - res.length) = some v := by
            show keepP rb vs _ = _
            unfold keepP pinP
            rw [if_pos (by
              rw [Bool.and_eq_true]
              exact ⟨by simpa using hlt, by rw [hb]; rfl⟩)]
            exact hv
          have hs := C.keep _ _ hk
          rw [hs] at hv'
          cases hv'
          refine Rep.mono (Same.refl _) p R (fun _ _ _ h => h) fun a ha => ?_
          show lab' a = _
          have ha : lab a = some (.slot (i - res.length)) := ha
          simp only [lab', ha]
          rw [if_pos hlt]
          congr 2; omega
end
section
variable {P : Program} {pw : World} {K : PySem.W.Frag} {mg : Str → Option Value} {base : Heap} {w : Wd}
/-- what a def answers by its body -/
def bodyO (d : FnD) (c : Ctx) (ps : List Pl) : COut := if ps.length = d.np ∧ d.np ≤ d.n ∧ rbOk d.rb ps then finish d ps (evSs c d.body (ps ++ List.replicate (d.n - d.np) .hole)) else .stuck
theorem fn_sp {k : Nat} {f : Addr} {name qual : Str} {params : Arguments} {body : List Stmt} {scope : Scope} {dV kV doc pm cdv ct oc : Value} {an od : Option Addr} {osl : Array (Option Value)} {N ps : List Str} {d : FnD} {c : Ctx}
    (lk : K.lookup f = some ⟨oc, od, .func (PySem.W.fnOf name qual params body scope dV kV doc pm an cdv ct), osl⟩) (hcd : PySem.W.codeIn K cdv qual = true) (S : FnScope N ps scope)
    (hnp : d.np = ps.length) (hn : d.n = N.length) (hpin : ∀ i, c.pin i = pinP d.np d.rb i)
    (hs : ∀ (A : Around) (outer : List PySem.Env) (s : Shared) (H : Hp) (E : XK), Rm k (A.deeper (PyProof.Rows.envOfC qual scope s.heap.objs.size f cdv)) → SndSs (cxOf (L2.CX P pw) P pw K mg base N qual scope f cdv A outer s H E) (fun cls d _ H => E cls d H) w c body d.body) :
    FnOg P pw K mg base (L2.CX P pw) (k + 1) f (PySem.W.fnOf name qual params body scope dV kV doc pm an cdv ct) ps (spC w (bodyO d c)) := by
  refine fn_ofG lk hcd S (fun vs H Q E h => ?_) fun A outer s H vs Q E hr hsp => ⟨_, (hs A outer s H E hr).pss, ?_⟩
  · obtain ⟨G, ps', C, hl, h⟩ := h
    by_cases hc : ps'.length = d.np ∧ d.np ≤ d.n ∧ rbOk d.rb ps' = true
    · rw [hl, hc.1, hnp]
    · unfold bodyO at h; rw [if_neg hc] at h; exact h.elim
  · obtain ⟨G, ps', ⟨F, lab, C⟩, hl, h⟩ := hsp
    by_cases hc : ps'.length = d.np ∧ d.np ≤ d.n ∧ rbOk d.rb ps' = true
    · unfold bodyO at h
      rw [if_pos hc] at h
      have hG : ∀ i, G.keep i = none := fun i => by
        cases q : G.keep i with
        | none => rfl
        | some v => have := C.keep i v q; simp at this
      have C1 := C.enter (rb := d.rb) (N := N) hl hn.symm (by omega) hc.2.2
      rw [hc.1] at C1
      refine ⟨G.call d.rb vs, _, _, C1, fun i hi => ?_, ?_⟩
      · rw [hpin] at hi
        show keepP d.rb vs i = none
        unfold keepP
        rw [hl, hc.1, hi]
        rfl
      · have exit : ∀ {F : Hp} {lab : Addr → Option Lab} {σ' : L2.St} {H' : Hp} {e : Env} {res : List (V × Pl)}, ps'.length ≤ e.length → Cfg w (G.call d.rb vs) F lab σ' H' e (res ++ rbT d.rb vs ps') → ∃ lab', Cfg w G F lab' [] H' [] (res ++ vs.zip (outs d.rb ps' e)) := fun hle C' => C'.exit hG hl hc.2.2 (by omega)
        cases m : evSs c d.body (ps' ++ List.replicate (d.n - d.np) .hole) with
        | next e =>
          rw [m] at h
          simp only [finish] at h
          by_cases hle : ps'.length ≤ e.length
          · rw [if_pos hle] at h
            intro σ' H' ⟨F', lab', C'⟩
            obtain ⟨lab2, C2⟩ := exit (res := [(.non, .val .non)]) hle (C'.push .non)
            exact h .non H' ⟨F', lab2, C2⟩
          · rw [if_neg hle] at h; exact h.elim
        | ret p e =>
          rw [m] at h
          simp only [finish] at h
          by_cases hle : ps'.length ≤ e.length
          · rw [if_pos hle] at h
            intro v σ' H' ⟨F', lab', C'⟩
            obtain ⟨lab2, C2⟩ := exit (res := [(v, p)]) hle C'
            exact h v H' ⟨F', lab2, C2⟩
          · rw [if_neg hle] at h; exact h.elim
        | exn x e =>
          rw [m] at h
          simp only [finish] at h
          by_cases hle : ps'.length ≤ e.length
          · rw [if_pos hle] at h
            intro cls dd σ' H' ⟨F', lab', C', r⟩
            obtain ⟨lab2, C2⟩ := exit (res := []) hle C'
            exact h cls dd H' ⟨F', lab2, C2, r⟩
          · rw [if_neg hle] at h; exact h.elim
        | brk e => rw [m] at h; exact h.elim
        | cnt e => rw [m] at h; exact h.elim
        | stuck => rw [m] at h; exact h.elim
    · unfold bodyO at h; rw [if_neg hc] at h; exact h.elim
end
end Ev
namespace Ev
open PySem PySem.Spec L2
section
variable {X : Cx} {W : WX} {w : Wd} {c : Ctx} {tg iter kx vx : Expr} {pos : Pos} {k : SrcK} {src : List IE} {t : Tgt} {ifs : List Expr} {iifs : List IE} {ik ie : IE} {scope : Scope} {own : List (Str × Nat)}
theorem evO_dc {vs : List Nat} {e : Env} : evO c (.dc vs t k src iifs ik ie) e = (evSrc c k src e).bind fun items e => if ownOk vs e then ((dcGo (fun v e => asgT (fun i => !vs.contains i) t v (wipeE vs e)) (evIfs c iifs) (fun e => (evO c ik e).bind freeze) (fun e => (evO c ie e).bind freeze) items e []).bind fun xs e1 => Out.ok (.tmp (.dct xs)) (restE e vs e1)).noX else .stuck := by
  simp only [evO, evSrc]
  cases evXs c src e with
  | stuck => rfl
  | exn x e1 => rfl
  | ok ss e1 =>
    simp only [Out.bind_ok]
    cases srcV k ss <;> rfl
theorem dc_reads (g : Gd w W X) {σ : L2.St} {H : Hp} {Q : VK} {vs : List Nat} (h : tO w W (smp (.dc vs t k src iifs ik ie)) (evO c (.dc vs t k src iifs ik ie)) σ H Q) :
    L2.tDc (tIt w W (smps src) (evSrc c k src)) (gT w.K t) (tT w WF (smps iifs) (evIfs c iifs)) (tO w WF (smp ik) (evO c ik)) (tO w WF (smp ie) (evO c ie)) vs σ H Q := by
  obtain ⟨G, en, ts, C, h⟩ := h
  rw [evO_dc] at h
  refine ⟨G, en, ts, C, ?_⟩
  cases m : evSrc c k src en with
  | stuck => rw [m] at h; exact h
  | exn y e1 => rw [m] at h; exact h
  | ok items e1 =>
    rw [m] at h
    simp only [Out.bind_ok] at h
    intro H1 J sv ok C1 s1 D hD
    by_cases hown : ownOk vs e1 = true
    · rw [if_pos hown] at h
      cases mg : dcGo (fun v e => asgT (fun i => !vs.contains i) t v (wipeE vs e)) (evIfs c iifs) (fun e => (evO c ik e).bind freeze) (fun e => (evO c ie e).bind freeze) items e1 [] with
      | stuck => rw [mg] at h; exact h.elim
      | exn y e2 => rw [mg] at h; exact h.elim
      | ok xs eF =>
        rw [mg] at h
        have h : RO w G W (smp (.dc vs t k src iifs ik ie)) σ H ts Q (.ok (.tmp (.dct xs)) (restE e1 vs eF)) := h
        obtain ⟨F1, lab1, C1⟩ := C1
        obtain ⟨svo, hh, hd⟩ := Held.of C1 hown
        have keep := C1.keep
        have C2 : Cfg w (G.open vs) F1 lab1 σ H1 e1 (srcT svo ++ (srcT sv ++ ts)) := (C1.pushL hd).open
        have C3 := C2.newO (p := D) (o := .dK []) hD (pl := .dct []) (by simp only [Rep]; exact ⟨D, [], rfl, rfl, upd_same, .nil⟩)
        let TS := srcT svo ++ (srcT sv ++ ts)
        have hkeepS : smp (.dc vs t k src iifs ik ie) = true → smps src = true ∧ smps iifs = true ∧ smp ik = true ∧ smp ie = true := fun z => by
          simp only [smp, Bool.and_eq_true] at z
          exact ⟨z.1.1.1, z.1.1.2, z.1.2, z.2⟩
        -- the turns
        refine ⟨fun i m Hh => m = items.length - i ∧ i ≤ items.length ∧ ∃ e acc σ', wipe σ' vs = wipe σ vs ∧ CfgE w (G.open vs) σ' Hh e ((.ref D, .dct acc) :: TS) ∧ (smp (.dc vs t k src iifs ik ie) = true → Same H Hh) ∧
            dcGo (fun v e => asgT (fun i => !vs.contains i) t v (wipeE vs e)) (evIfs c iifs) (fun e => (evO c ik e).bind freeze) (fun e => (evO c ie e).bind freeze) (items.drop i) e acc = .ok xs eF, ⟨items.length, by simp, Nat.zero_le _, e1, [], σ, rfl, C3, fun z => Same.updNew (s1 (hkeepS z).1) hD, by simpa using mg⟩, ?_⟩
        rintro i m H2 ⟨rfl, hi, e, acc, σ', hw, C4, sH, hgo⟩
        have memS : ∀ p ∈ sv, (p.1, Pl.val p.2) ∈ ((V.ref D, Pl.dct acc) :: TS) := fun p hp => List.mem_cons_of_mem _ (List.mem_append_right _ (mem_srcT hp))
        obtain ⟨F4, lab4, C4⟩ := C4
        by_cases hlt : i < items.length
        · refine .inr ?_
          have hy : items[i]? = some items[i] := List.getElem?_eq_getElem hlt
          have hdr : items.drop i = items[i] :: items.drop (i + 1) := List.drop_eq_getElem_cons hlt
          rw [hdr] at hgo
          have C5 := C4.wipe
          rw [hw] at C5
          obtain ⟨go, yl⟩ := ok.go C5 memS i _ hy
          refine ⟨go, fun Hh => i + 1 ≤ items.length ∧ ∃ e acc σ', wipe σ' vs = wipe σ vs ∧ CfgE w (G.open vs) σ' Hh e ((.ref D, .dct acc) :: TS) ∧ (smp (.dc vs t k src iifs ik ie) = true → Same H Hh) ∧
            dcGo (fun v e => asgT (fun i => !vs.contains i) t v (wipeE vs e)) (evIfs c iifs) (fun e => (evO c ik e).bind freeze) (fun e => (evO c ie e).bind freeze) (items.drop (i + 1)) e acc = .ok xs eF, fun H' ⟨q1, q2⟩ => ⟨_, by omega, rfl, q1, q2⟩, fun x H' y => ?_⟩
          obtain ⟨C6, s6⟩ := yl x H' y
          simp only [dcGo] at hgo
          cases ha : asgT (fun i => !vs.contains i) t items[i] (wipeE vs e) with
          | none => rw [ha] at hgo; cases hgo
          | some e3 =>
            rw [ha] at hgo
            simp only at hgo
            have hpin : PinOk (fun i => !vs.contains i) (G.open vs) := fun i hi => by
              have hi : i ∈ vs := by simpa using hi
              show (if i ∈ vs then none else G.keep i) = none
              rw [if_pos hi]
            refine gT_sem hpin C6 ha fun σ2 hset C7 => ?_
            have hw2 := setOn_wipe hset (asgT_in ha)
            refine ⟨hw2, G.open vs, e3, _, C7, ?_⟩
            cases mi : evIfs c iifs e3 with
            | stuck => rw [mi] at hgo; cases hgo
            | exn z e4 => rw [mi] at hgo; cases hgo
            | ok b e4 =>
              rw [mi] at hgo
              simp only [Out.bind_ok] at hgo
              intro H3 C8 s8
              cases b with
              | false =>
                rw [if_neg Bool.false_ne_true] at hgo ⊢
                exact ⟨hlt, e4, acc, σ2, hw2, C8, fun z => ((sH z).trans s6).trans (s8 (hkeepS z).2.1), hgo⟩
              | true =>
                rw [if_pos rfl] at hgo ⊢
                refine ⟨G.open vs, e4, _, C8, RO.toX ?_⟩
                cases mk : (evO c ik e4).bind freeze with
                | stuck => rw [mk] at hgo; cases hgo
                | exn z e5 => rw [mk] at hgo; cases hgo
                | ok ky e5 =>
                  rw [mk] at hgo
                  simp only [Out.bind_ok] at hgo
                  intro H4 v4 C9 s9
                  refine ⟨G.open vs, e5, _, C9, RO.toX ?_⟩
                  cases me : (evO c ie e5).bind freeze with
                  | stuck => rw [me] at hgo; cases hgo
                  | exn z e6 => rw [me] at hgo; cases hgo
                  | ok x6 e6 =>
                    rw [me] at hgo
                    simp only [Out.bind_ok] at hgo
                    intro H5 v5 ⟨F9, lab9, C10⟩ s10
                    by_cases hz : ((keyOf ky).isSome && decide (acc.length < line)) = true
                    · rw [if_pos hz] at hgo
                      simp only [Bool.and_eq_true, decide_eq_true_eq] at hz
                      obtain ⟨kk, hkk⟩ := Option.isSome_iff_exists.mp hz.1
                      have d10 := C10.temps.1
                      have dk := C10.temps.2.1
                      simp only [Rep] at d10 dk
                      have C11 := C10.drop.drop
                      have R10 := C11.temps.1
                      simp only [Rep] at R10
                      obtain ⟨a, kvsD, eD, hA, hH, dd⟩ := R10
                      cases eD
                      obtain ⟨rfl, ekk⟩ := keyOf_den dk hkk
                      have C12 := C11.write (a := D) (o := .dK (putK kvsD kk v5)) (q := .dct (dput ky x6 acc)) hA (by
                        simp only [Rep]
                        exact ⟨D, _, rfl, hA, upd_same, dput_den hkk ekk d10 dd⟩)
                      refine ⟨kvsD, kk, rfl, hH, by rw [denK_length dd, ← line_eq]; exact hz.2, hlt, e6, dput ky x6 acc, σ2, hw2, ⟨_, _, C12⟩, fun z => ?_, hgo⟩
                      have hs3 : Same H H3 := ((sH z).trans s6).trans (s8 (hkeepS z).2.1)
                      have hs4 := (hs3.trans (s9 (hkeepS z).2.2.1)).trans (s10 (hkeepS z).2.2.2)
                      have nD : H D = none := (s1 (hkeepS z).1).free hD
                      intro b o hb
                      rw [upd_ne (fun q => by subst q; rw [nD] at hb; cases hb)]
                      exact hs4 _ _ hb
                    · rw [if_neg hz] at hgo; cases hgo
        · have hi' : i = items.length := by omega
          subst hi'
          refine .inl ⟨ok.stop C4 memS, ?_⟩
          simp only [List.drop_length, dcGo, Out.ok.injEq] at hgo
          obtain ⟨rfl, rfl⟩ := hgo
          have hm : ∀ p ∈ svo, Den w F4 p.1 p.2 := fun p hp => C4.mem (List.mem_cons_of_mem _ (mem_srcT hp))
          have C5 := C4.leave hw keep hh hm
          have C6 : CfgE w G σ H2 (restE e1 vs e) ((.ref D, .dct acc) :: ts) := by
            have C7 : CfgE w G σ H2 (restE e1 vs e) ((.ref D, .dct acc) :: ((srcT svo ++ srcT sv) ++ ts)) := ⟨F4, lab4, by rw [List.append_assoc]; exact C5⟩
            exact C7.dropM
          exact h H2 (.ref D) C6 has_self sH
    · rw [if_neg hown] at h; exact h.elim
theorem snd_dc (g : Gd w W X) (hi : SndIt X W w c tg iter k src) (ok : BlkOk X.N X.env.scope scope own)
    (ht : ∀ s H C cl fp, SndT w (X.blk s H scope (compEnvC scope cl C X.env) fp) tg t)
    (hf : ∀ s H C cl fp, SndIfs (X.blk s H scope (compEnvC scope cl C X.env) fp) WF w c ifs iifs)
    (hk : ∀ s H C cl fp, Snd (X.blk s H scope (compEnvC scope cl C X.env) fp) WF w c kx ik)
    (he : ∀ s H C cl fp, Snd (X.blk s H scope (compEnvC scope cl C X.env) fp) WF w c vx ie)
    (hs : ∀ x, foldedSetIterable iter X.env x = pure x) : Snd X W w c (.DictComp kx vx [⟨tg, iter, ifs, 0⟩] scope pos) (.dc (own.map (·.2)) t k src iifs ik ie) :=
  snd_plain g (PE.imp (pe_dc g.calm g.nd hi.pi ok (fun s H C cl fp => (ht s H C cl fp).pg) (fun s H C cl fp => (hf s H C cl fp).pts) (fun s H C cl fp => (hk s H C cl fp).pe) (fun s H C cl fp => (he s H C cl fp).pe) hs) fun σ H Q h => dc_reads g h) fun _ => rfl
end
end Ev
namespace Ev
open PySem PySem.Spec L2 PyProof.Rows
def xiH (H : Hp) (C a dx : Addr) (fs : List (Str × V)) : Hp := upd (upd H dx (exd dx fs)) a (exo a C (some dx))
theorem xiH_a {H : Hp} {C a dx : Addr} {fs : List (Str × V)} : xiH H C a dx fs a = some (exo a C (some dx)) := upd_same
theorem xiH_d {H : Hp} {C a dx : Addr} {fs : List (Str × V)} (h : dx ≠ a) : xiH H C a dx fs dx = some (exd dx fs) := (upd_ne h).trans upd_same
theorem xiH_put {H : Hp} {C a dx : Addr} {fs fs' : List (Str × V)} (h : dx ≠ a) : upd (xiH H C a dx fs) dx (exd dx fs') = xiH H C a dx fs' := by
  funext b
  unfold xiH
  by_cases h1 : b = dx
  · subst h1; rw [upd_same, upd_ne h, upd_same]
  · rw [upd_ne h1]
    by_cases h2 : b = a
    · subst h2; rw [upd_same, upd_same]
    · rw [upd_ne h2, upd_ne h1, upd_ne h2, upd_ne h1]
theorem xiH_new {H : Hp} {C a dx : Addr} {fs : List (Str × V)} {o : HO} : xiH (upd H a o) C a dx fs = xiH H C a dx fs := by
  funext b
  unfold xiH
  by_cases h2 : b = a
  · subst h2; rw [upd_same, upd_same]
  · rw [upd_ne h2, upd_ne h2]
    by_cases h1 : b = dx
    · subst h1; rw [upd_same, upd_same]
    · rw [upd_ne h1, upd_ne h1, upd_ne h2]
/-- what such an __init__ answers -/
def spXI (K : PySem.W.Frag) (C : Addr) (ns : List Str) : Sp := fun vs H Q _ => ∃ (a : Addr) (xs : List V), vs = .ref a :: xs ∧ xs.length = ns.length ∧ H a = some (exo a C none) ∧
  ((ns = [] ∧ Q .non H) ∨ (ns ≠ [] ∧ ∀ dx, H dx = none → dx ≠ a → Q .non (xiH H C a dx (ns.zip xs).reverse)))
/-- self.f = p, one behind the other -/
def xas (N : List Str) (sc : Scope) : Nat → List Str → List Stmt → Bool
  | _, [], [] => true
  | i, f :: fs, .Assign [.Attribute (.Name s _) g _] (.Name p _) _ :: r =>
    decide (N[0]? = some s) && visB' sc s && okN' s && decide (g = f) && decide (N[i]? = some p) && visB' sc p && okN' p && xas N sc (i + 1) fs r
  | _, _, _ => false
where
  visB' (sc : Scope) (x : Str) : Bool := match sc.names.lookup x with
    | some .local => true
    | some .cell => true
    | some .free => true
    | _ => false
  okN' (x : Str) : Bool := !(x == ("__debug__" : Str)) && !(x == ("__classdict__" : Str)) && !decide (x = "__name__")
theorem xas_vis {sc : Scope} {x : Str} (h : xas.visB' sc x = true) : Vis sc x := by
  unfold xas.visB' at h
  split at h
  · rename_i e; exact .inl e
  · rename_i e; exact .inr (.inl e)
  · rename_i e; exact .inr (.inr e)
  · cases h
theorem xas_okN {x : Str} (h : xas.okN' x = true) : (x == ("__debug__" : Str)) = false ∧ (x == ("__classdict__" : Str)) = false := by
  unfold xas.okN' at h
  simp only [Bool.and_eq_true, Bool.not_eq_true', decide_eq_false_iff_not] at h
  exact ⟨h.1.1, h.1.2⟩
section
variable {X : Cx} {C : Addr}
theorem swaps_at {a o : Expr} {f : Str} {p : Pos} {l : Nat} {env : PySem.Env} : swapsWith a (some (.Attribute o f p)) l env = pure false := by cases a <;> rfl
theorem xas_inv {N : List Str} {sc : Scope} {i : Nat} {f : Str} {fs : List Str} {st : Stmt} {sts : List Stmt} (h : xas N sc i (f :: fs) (st :: sts) = true) :
    ∃ s p1 p2 p p3 pos, st = .Assign [.Attribute (.Name s p1) f p2] (.Name p p3) pos ∧ N[0]? = some s ∧ xas.visB' sc s = true ∧ xas.okN' s = true ∧ N[i]? = some p ∧ xas.visB' sc p = true ∧ xas.okN' p = true ∧ xas N sc (i + 1) fs sts = true := by
  unfold xas at h
  split at h
  · rename_i e; cases e
  · rename_i s p1 g p2 p p3 pos r e1 e2
    cases e1; cases e2
    simp only [Bool.and_eq_true, decide_eq_true_eq] at h
    obtain ⟨⟨⟨⟨⟨⟨⟨h1, h2⟩, h3⟩, rfl⟩, h5⟩, h6⟩, h7⟩, h8⟩ := h
    exact ⟨s, p1, p2, p, p3, pos, rfl, h1, h2, h3, h5, h6, h7, h8⟩
  · cases h
theorem xas_one {sc : Scope} (hs : X.env.scope = sc) {i : Nat} {s p f : Str} {p1 p2 p3 pos : Pos} (h0 : X.N[0]? = some s) (hi : X.N[i]? = some p) (v1 : xas.visB' sc s = true) (v2 : xas.visB' sc p = true) (o1 : xas.okN' s = true) (o2 : xas.okN' p = true) :
    PS X (.Assign [.Attribute (.Name s p1) f p2] (.Name p p3) pos) (tOst X.K f (tVar 0) (tVar i)) :=
  ps_ost (pe_var h0 (by rw [hs]; exact xas_vis v1) (xas_okN o1).1 (xas_okN o1).2) (pe_var hi (by rw [hs]; exact xas_vis v2) (xas_okN o2).1 (xas_okN o2).2) swaps_at
/-- the stores behind the first one -/
theorem xas_more {sc : Scope} (hs : X.env.scope = sc) (T : OexC X.K C) : ∀ (fs : List Str) (i : Nat) (sts : List Stmt), xas X.N sc i fs sts = true → (∀ f ∈ fs, PySem.W.findIn X.K (.ref C) f = some none) →
    PSs X sts (fun D σ H => ∃ (H0 : Hp) (a dx : Addr) (gs : List (Str × V)) (xs : List V), H = xiH H0 C a dx gs ∧ dx ≠ a ∧ σ[0]? = some (some (.ref a)) ∧ xs.length = fs.length ∧ (∀ j x, xs[j]? = some x → σ[i + j]? = some (some x)) ∧ gs.length + fs.length ≤ 800 ∧
      D.nx σ (xiH H0 C a dx ((fs.zip xs).reverse ++ gs)))
  | [], i, [], _, _ => PSs.imp pss_nil fun D σ H ⟨H0, a, dx, gs, xs, e, _, _, hl, _, _, q⟩ => by
    cases xs with
    | nil => subst e; exact q
    | cons => cases hl
  | f :: fs, i, st :: sts, h, hno => by
    obtain ⟨s, p1, p2, p, p3, pos, rfl, h1, h2, h3, h5, h6, h7, h8⟩ := xas_inv h
    refine PSs.imp (pss_cons (xas_one hs h1 h5 h2 h6 h3 h7) (xas_more hs T fs (i + 1) sts h8 fun f hf => hno f (List.mem_cons_of_mem _ hf))) fun D σ H ⟨H0, a, dx, gs, xs, e, ne, h0, hl, hx, hz, q⟩ => ?_
    cases xs with
    | nil => cases hl
    | cons x xs =>
      refine ⟨x, by simpa using hx 0 x rfl, .ref a, h0, a, C, rfl, T, hno _ List.mem_cons_self, .inr ⟨dx, gs, by rw [e]; exact xiH_a, by rw [e]; exact xiH_d ne, by rw [List.length_cons] at hz; omega, ?_⟩⟩
      refine ⟨H0, a, dx, _ :: gs, xs, by rw [e, xiH_put ne], ne, h0, by simpa using hl, fun j y hj => ?_, by rw [List.length_cons] at hz ⊢; omega, ?_⟩
      · have := hx (j + 1) y (by simpa using hj)
        rw [show i + 1 + j = i + (j + 1) by omega]
        exact this
      · simp only [List.zip_cons_cons, List.reverse_cons, List.append_assoc, List.singleton_append] at q
        exact q
  | [], _, _ :: _, h, _ => by simp [xas] at h
  | _ :: _, _, [], h, _ => by simp [xas] at h
/-- all stores -/
theorem xas_all {sc : Scope} (hs : X.env.scope = sc) (T : OexC X.K C) (ns : List Str) (sts : List Stmt) (h : xas X.N sc 1 ns sts = true) (hno : ∀ f ∈ ns, PySem.W.findIn X.K (.ref C) f = some none) (hz : ns.length ≤ 100) :
    PSs X sts (fun D σ H => ∃ (a : Addr) (xs : List V), H a = some (exo a C none) ∧ σ[0]? = some (some (.ref a)) ∧ xs.length = ns.length ∧ (∀ j x, xs[j]? = some x → σ[1 + j]? = some (some x)) ∧
      ((ns = [] ∧ D.nx σ H) ∨ (ns ≠ [] ∧ ∀ dx, H dx = none → dx ≠ a → D.nx σ (xiH H C a dx (ns.zip xs).reverse)))) := by
  cases ns with
  | nil =>
    cases sts with
    | nil =>
      refine PSs.imp pss_nil fun D σ H ⟨a, xs, _, _, _, _, q⟩ => ?_
      rcases q with ⟨_, q⟩ | ⟨z, _⟩
      · exact q
      · exact absurd rfl z
    | cons => simp [xas] at h
  | cons f fs =>
    cases sts with
    | nil => simp [xas] at h
    | cons st sts =>
      obtain ⟨s, p1, p2, p, p3, pos, rfl, h1, h2, h3, h5, h6, h7, h8⟩ := xas_inv h
      refine PSs.imp (pss_cons (xas_one hs h1 h5 h2 h6 h3 h7) (xas_more hs T fs 2 sts h8 fun f hf => hno f (List.mem_cons_of_mem _ hf))) fun D σ H ⟨a, xs, ha, h0, hl, hx, q⟩ => ?_
      rcases q with ⟨z, _⟩ | ⟨_, q⟩
      · cases z
      · cases xs with
        | nil => cases hl
        | cons x xs =>
          refine ⟨x, by simpa using hx 0 x rfl, .ref a, h0, a, C, rfl, T, hno _ List.mem_cons_self, .inl ⟨ha, fun dx hd ne => ?_⟩⟩
          refine ⟨H, a, dx, _, xs, rfl, ne, h0, by simpa using hl, fun j y hj => ?_, by simp only [List.length_cons, List.length_nil] at hz ⊢; omega, ?_⟩
          · have := hx (j + 1) y (by simpa using hj)
            rw [show 2 + j = 1 + (j + 1) by omega]
            exact this
          · have := q dx hd ne
            simpa using this
/-- P.__init__(self, e) of an own class P that has ValueError's -/
structure PinF (K : PySem.W.Frag) (D : Addr) : Prop where
  ga : PySem.W.specialIn K (.ref D) "__getattribute__" = some (some (.builtin "type.__getattribute__"))
  rd : PySem.W.readsIn K D (.type "type") = true
  at_ : PySem.W.findCls K (.ref D) (.type "type") "__init__" = some (.val (.builtin "ValueError.__init__"))
theorem pe_pinit {P : Str} {D : Addr} {e : Expr} {es : List Expr} {ta : TA} {p1 p2 pos : Pos} (gl : Gl X P) (mg : X.mg P = some (.ref D)) (nd : (P == ("__debug__" : Str)) = false) (Fd : PinF X.K D) (ha : PA X (e :: es) ta) (hn : ∀ e' ∈ e :: es, notStar e' = true) (hlen : (e :: es).length < 30)
    (hl : (p2.endLine == pos.line) = true) : PE X (.Call (.Attribute (.Name P p1) "__init__" p2) (e :: es) [] pos) (tVeI X.K ta) := by
  have ht : eval (.Call (.Attribute (.Name P p1) "__init__" p2) (e :: es) [] pos) X.env = (do
      let ov ← eval (.Name P p1) X.env
      standAt p2.atName
      let (f, first) ← holding [ov] (getMethod ov "__init__" (do return (← importBound (.Name P p1) X.env).getD true))
      callWith pos f first (backTo pos (starEach (e :: es) X.env)) (backToKw pos (keywordEach [] X.env))) := by
    have form : methodCallForm ((e :: es).length + ([] : List Keyword).length) (backTo pos (starEach (e :: es) X.env)) (backToKw pos (keywordEach [] X.env)) = true := by
      unfold methodCallForm
      rw [(plain_args (env := X.env) (pos := pos) hn).1]
      simp [backToKw, keywordEach] at hlen ⊢
      omega
    show (do
      let ov ← attributeBase (.Name P p1) "__init__" X.env (eval (.Name P p1) X.env)
      standAt p2.atName
      methodCall (.Name P p1) "__init__" p2 pos X.env ov ((e :: es).length + ([] : List Keyword).length) (backTo pos (starEach (e :: es) X.env)) (backToKw pos (keywordEach [] X.env))) = _
    rw [show attributeBase (.Name P p1) "__init__" X.env (eval (.Name P p1) X.env) = eval (.Name P p1) X.env from rfl]
    unfold methodCall calleeOf methodCallPos
    rw [form]
    simp only [hl, if_true, Bool.not_true, Bool.false_or, pure_bind]
  refine ⟨fun pins s σ H Q I h => ?_⟩
  refine PySem.W.methodCall_KW (ld_glob I gl mg ?_ nd) ht
  refine PySem.W.method_cls I.kIn Fd.ga (PySem.W.cls_value I.kIn Fd.rd Fd.at_ (by decide +kernel) ?_)
  show wpAny _ _ (callWith pos (Value.builtin "ValueError.__init__") [] (backTo pos (starEach (e :: es) X.env)) []) _ _ _
  refine PyProof.Rows.callWith_method1 (thn (ha.run pos pins _ σ H _ (I.tok _) h) fun us s1 ⟨vs, H1, J, r1, a, C', ws, ev, hw, T, ea, q⟩ => ?_) (star_of (hn e (by simp))) (plain_args fun e' he => hn e' (List.mem_cons_of_mem _ he)).2
  subst ev
  cases r1 with
  | @cons _ u0 _ ur ra rw' =>
    obtain rfl : u0 = Value.ref a := ra
    refine oinit_ok T J ea ?_ fun s' J' => ⟨.non, H1, J', rfl, q⟩
    rw [← Paired.length rw', sizeLine_eq]
    omega
/-- the whole body -/
def xinB (N : List Str) (sc : Scope) (P : Str) (ns : List Str) : List Stmt → Bool
  | .Expr (.Call (.Attribute (.Name P' _) m p2) [.Name s _, .Constant (.str _) _ _] [] pos) _ :: r => decide (P' = P) && decide (m = "__init__") && (p2.endLine == pos.line) && (match sc.names.lookup P with
      | some .globalImplicit => true
      | _ => false) && xas.okN' P && decide (N[0]? = some s) && xas.visB' sc s && xas.okN' s && xas N sc 1 ns r && decide (ns.length ≤ 100)
  | _ => false
theorem xin_pss {sc : Scope} {P : Str} {D : Addr} {ns : List Str} {body : List Stmt} (hs : X.env.scope = sc) (h : xinB X.N sc P ns body = true) (mg : X.mg P = some (.ref D)) (Fd : PinF X.K D) (T : OexC X.K C) (hno : ∀ f ∈ ns, PySem.W.findIn X.K (.ref C) f = some none) :
    PSs X body (fun D σ H => ∃ (a : Addr) (xs : List V), H a = some (exo a C none) ∧ σ[0]? = some (some (.ref a)) ∧ xs.length = ns.length ∧ (∀ j x, xs[j]? = some x → σ[1 + j]? = some (some x)) ∧
      ((ns = [] ∧ D.nx σ H) ∨ (ns ≠ [] ∧ ∀ dx, H dx = none → dx ≠ a → D.nx σ (xiH H C a dx (ns.zip xs).reverse)))) := by
  unfold xinB at h
  split at h
  · rename_i P' p1 m p2 s p3 z k p4 pos p5 r
    simp only [Bool.and_eq_true, decide_eq_true_eq] at h
    obtain ⟨⟨⟨⟨⟨⟨⟨⟨⟨rfl, rfl⟩, hl⟩, hg⟩, hP⟩, h0⟩, hv⟩, ho⟩, hx⟩, hz⟩ := h
    have gl : Gl X P' := by
      split at hg
      · rename_i e; unfold Gl Env.kindOf; rw [hs]; exact e
      · cases hg
    refine PSs.imp (pss_cons (ps_expr (pe_pinit gl mg (xas_okN hP).1 Fd (pa_cons (pe_var h0 (by rw [hs]; exact xas_vis hv) (xas_okN ho).1 (xas_okN ho).2) (pa_cons pe_str pa_nil rfl) rfl) (by intro e' he; simp at he; rcases he with rfl | rfl <;> rfl) (by simp) hl) rfl) (xas_all hs T ns r hx hno hz)) fun D σ H h => ?_
    obtain ⟨a, xs, ha, hσ, q⟩ := h
    exact ⟨.ref a, hσ, a, C, [_], rfl, by simp, T, ha, a, xs, ha, hσ, q⟩
  · cases h
end
/-- .. as a promise -/
theorem fn_xi {P : Program} {pw : World} {K : PySem.W.Frag} {mg : Str → Option Value} {base : Heap} {f C D : Addr} {name qual : Str} {params : Arguments} {body : List Stmt} {scope : Scope} {dV kV doc pm cdv ct oc : Value} {an od : Option Addr} {osl : Array (Option Value)} {N ps : List Str} {Pn : Str} {ns : List Str}
    (lk : K.lookup f = some ⟨oc, od, .func (PySem.W.fnOf name qual params body scope dV kV doc pm an cdv ct), osl⟩) (hcd : PySem.W.codeIn K cdv qual = true) (S : FnScope N ps scope) (hps : ps.length = ns.length + 1) (hN : ps.length ≤ N.length)
    (h : xinB N scope Pn ns body = true) (hm : mg Pn = some (.ref D)) (Fd : PinF K D) (T : OexC K C) (hno : ∀ f ∈ ns, PySem.W.findIn K (.ref C) f = some none) :
    FnOg P pw K mg base (L2.CX P pw) 1 f (PySem.W.fnOf name qual params body scope dV kV doc pm an cdv ct) ps (spXI K C ns) := by
  refine fn_ofG lk hcd S (fun vs H Q E ⟨a, xs, e, hl, _⟩ => by subst e; rw [List.length_cons, hl, hps]) fun A outer s H vs Q E hr hsp => ⟨_, xin_pss (X := cxOf (L2.CX P pw) P pw K mg base N qual scope f cdv A outer s H E) rfl h hm Fd T hno, ?_⟩
  obtain ⟨a, xs, rfl, hl, ha, q⟩ := hsp
  refine ⟨a, xs, ha, rfl, hl, fun j x hj => ?_, q⟩
  have hlt : j < xs.length := (List.getElem?_eq_some_iff.mp hj).1
  unfold L2.start
  rw [Nat.add_comm 1 j, List.map_cons, List.cons_append, List.getElem?_cons_succ, List.getElem?_append_left (by rw [List.length_map]; exact hlt), List.getElem?_map, hj]
  rfl
end Ev
namespace Ev
open PySem PySem.Spec L2 PyProof.Rows
/-- a class whose exceptions are made by an own __init__ that stores ns -/
structure XMk (K : PySem.W.Frag) (C fI : Addr) : Prop where
  ox : OexC K C
  init : PySem.W.findIn K (.ref C) "__init__" = some (some (.ref fI))
  fn : PySem.W.typeIn K (.ref fI) = some (.type "function")
structure XIn (X : Cx) (C fI : Addr) (ns : List Str) : Prop where
  ex : ∃ k fd ps, FnOg X.prog X.w X.K X.mg X.base (L2.CX X.prog X.w) k fI fd ps (spXI X.K C ns) ∧ Rm (k + 1) X.A ∧ Binds X.K fd ps []
section
variable {X : Cx} {W : WX} {w : Wd} {c : Ctx} {e a : Expr} {es : List Expr} {irs : List IE} {ia : IE} {pos p : Pos} {C fI : Addr} {ns : List Str}
theorem run_mkx {k : Nat} {fd : FuncData} {ps : List Str} {pn : List (Addr × Obj)} {sl : L2.St} {H0 : Hp} {s0 : Shared} {K0 : VK} {us : List Value} {vs : List V} (M : XMk X.K C fI) (Fg : FnOg X.prog X.w X.K X.mg X.base (L2.CX X.prog X.w) k fI fd ps (spXI X.K C ns))
    (rm : Rm (k + 1) X.A) (bd : Binds X.K fd ps []) (tk : Takes X W) (J : Inv X pn sl H0 s0) (rel : Vals vs us) (small : vs.length ≤ 1000)
    (hsp : ∀ x, H0 x = none → spXI X.K C ns (.ref x :: vs) (upd H0 x (exo x C none)) (fun v H2 => v = .non ∧ K0 (.ref x) H2) (WE W sl)) : wpAny (model X.prog X.w) X.A (call (.ref C) us) (EP X pn sl K0) X.xe s0 := by
  obtain ⟨nm, q, N, bs, bm, sn, sub, ab, col, dd, k0, k1, k2, k3, k5, hC, hbm⟩ := M.ox.cls
  obtain ⟨hp, g, dr, tok, os⟩ := s0
  have new : H0 (hp.objs.size + 1) = none := J.hok.fresh (Nat.le_succ _)
  have got : ((hp.push (PySem.W.kdv_tup us)).push (PySem.HandSPX.excO C hp.objs.size)).get? (hp.objs.size + 1) = some (PySem.HandSPX.excO C hp.objs.size) := by heap_get
  have J2 : Inv X pn sl (upd H0 (hp.objs.size + 1) (exo (hp.objs.size + 1) C none)) ⟨(hp.push (PySem.W.kdv_tup us)).push (PySem.HandSPX.excO C hp.objs.size), g, dr, tok, os⟩ :=
    J.laid (t' := tok) (a := hp.objs.size + 1) (o := exo (hp.objs.size + 1) C none) (h' := (hp.push (PySem.W.kdv_tup us)).push (PySem.HandSPX.excO C hp.objs.size))
      (fun b o z => Heap.get?_push_of_some _ (Heap.get?_push_of_some _ z)) (Nat.le_succ _) (exo_ok got)
  have ask := hsp _ new
  have rel2 : Vals (V.ref (hp.objs.size + 1) :: vs) (Value.ref (hp.objs.size + 1) :: us) := .cons rfl rel
  have ln : (Value.ref (hp.objs.size + 1) :: us ++ []).length = ps.length := by
    rw [List.append_nil, ← rel2.length]
    exact Fg.len _ _ _ _ ask
  have fits : us.length ≤ sizeLine := by
    rw [← Paired.length rel, sizeLine_eq]
    omega
  have bb := bd _ (Value.ref (hp.objs.size + 1) :: us) J2.kIn ln
  rw [List.append_nil] at bb
  refine wpAny_call (PySem.HandSPX.call_own F.excBase_ValueError (fun Y => PySem.HandSPX.refsVE_contains Y bm hbm) (J.kIn _ _ hC) (PySem.W.looks_findIn J.kIn M.init) (fun self => PySem.W.bind_fn J.kIn self M.fn) fits
    (codeAny_mono (Fg.run _ X.stack _ _ ⟨Value.ref (hp.objs.size + 1) :: us, []⟩ (Value.ref (hp.objs.size + 1) :: us) _ _ (WE W sl) (rm.make C us []) (J2.env0.make C us []) bb rel2 ask) fun rr s1 z => ?_))
  match rr, z with
  | .error er, z => exact passAt tk sl pn _ _ er s1 J2 z
  | .ok .next, z => exact z.elim
  | .ok .brk, z => exact z.elim
  | .ok .cont, z => exact z.elim
  | .ok (.ret u), z =>
    obtain ⟨v, H', J3, rv, ev, q3⟩ := J2.after z
    subst ev
    exact ⟨rv, ⟨V.ref (hp.objs.size + 1), H', J3, rfl, q3⟩⟩
def tMkx (K : PySem.W.Frag) (C : Addr) (ns : List Str) (W : WX) (t : TA) : TE := fun σ H Q => t σ H fun vs H1 => vs.length ≤ 1000 ∧ ∀ x, H1 x = none → spXI K C ns (.ref x :: vs) (upd H1 x (exo x C none)) (fun v H2 => v = .non ∧ Q (.ref x) H2) (WE W σ)
theorem pe_mkx {n : Str} {t : TA} (M : XMk X.K C fI) (Fg : XIn X C fI ns) (tk : Takes X W) (gl : Gl X n) (mg : X.mg n = some (.ref C)) (nd : (n == ("__debug__" : Str)) = false) (ha : PA X es t) (hn : ∀ e' ∈ es, notStar e' = true) (hnil : es = [] → ∀ σ H Q, t σ H Q → Q [] H) :
    PE X (.Call (.Name n p) es [] pos) (tMkx X.K C ns W t) := by
  obtain ⟨k, fd, ps, FO, rm, bd⟩ := Fg.ex
  refine ⟨fun pn s0 sl H0 K0 J h => wpAny_Call_Name_kw (ld_glob J gl mg ?_ nd)⟩
  cases es with
  | nil =>
    obtain ⟨h1, h2⟩ := hnil rfl _ _ _ h
    exact PySem.W.callWith_K0 J.kIn M.ox.kC (run_mkx (us := []) M FO rm bd tk J .nil h1 h2)
  | cons e es =>
    exact PySem.W.callWith_K (h₀ := X.base) J.ok.mod.kin M.ox.kC (thn (ha.run pos pn s0 sl H0 _ J h) fun us s1 ⟨vs, H1, J1, rel, h1, h2⟩ => ⟨J1.kIn, run_mkx M FO rm bd tk J1 rel h1 h2⟩) (star_of (hn e (by simp)))
      (plain_args fun e' h => hn e' (List.mem_cons_of_mem _ h)).2
theorem denF_zip {F : Hp} : ∀ {ns : List Str} {vs : List V} {xs : List Val}, Dens w F vs xs → DenF w F (ns.zip vs) (ns.zip xs)
  | [], _, _, _ => by simp only [List.zip_nil_left]; exact .nil
  | _ :: _, _, _, .nil => by simp only [List.zip_nil_right]; exact .nil
  | n :: ns, _, _, .cons a b => by simp only [List.zip_cons_cons]; exact .cons a (denF_zip b)
theorem denF_app {F : Hp} : ∀ {a b : List (Str × V)} {x y : List (Str × Val)}, DenF w F a x → DenF w F b y → DenF w F (a ++ b) (x ++ y)
  | _, _, _, _, .nil, h => h
  | _, _, _, _, .cons d r, h => .cons d (denF_app r h)
theorem denF_rev {F : Hp} : ∀ {a : List (Str × V)} {x : List (Str × Val)}, DenF w F a x → DenF w F a.reverse x.reverse
  | _, _, .nil => .nil
  | _, _, .cons d r => by
    rw [List.reverse_cons, List.reverse_cons]
    exact denF_app (denF_rev r) (.cons d .nil)
/-- C(e, ..), an exception -/
theorem snd_mkx (g : Gd w W X) {n : Str} (hC : w.xf n = some C) (hx : c.exf n = some ns) (M : XMk X.K C fI) (Fg : XIn X C fI ns) (gl : Gl X n) (mg : X.mg n = some (.ref C)) (nd : (n == ("__debug__" : Str)) = false) (hn : ∀ e' ∈ es, notStar e' = true)
    (ha : SndX X W w c es irs) (hnil : es = [] → irs = []) : Snd X W w c (.Call (.Name n p) es [] pos) (.mkx n irs) :=
  snd_plain g (by
    refine PE.imp (pe_mkx M Fg g.tk gl mg nd ha.pa hn fun e1 σ H Q q => ?_) fun σ H Q q => ?_
    · rw [hnil e1] at q
      obtain ⟨G, en, ts, ⟨F, lab, C1⟩, q⟩ := q
      simp only [evXs, smps] at q
      exact q H [] F lab C1 .nil fun _ => Same.refl _
    · obtain ⟨G, en, ts, C0, q⟩ := q
      simp only [evO, smp, hx] at q
      refine ⟨G, en, ts, C0, xs_imp q fun xs e1 H1 vs F lab C1 d hs hr => ?_⟩
      split at hr
      · rename_i hl
        have dl := d.length
        refine ⟨by omega, fun x hx1 => ⟨x, vs, rfl, by omega, upd_same, ?_⟩⟩
        by_cases h0 : ns = []
        · subst h0
          refine .inl ⟨rfl, rfl, ?_⟩
          refine hr _ _ ⟨_, _, (C1.newF hx1 (o := exo x C none)).push ?_⟩ has_self fun z => (hs z).trans (same_new hx1)
          rw [List.zip_nil_left, List.reverse_nil]
          exact .exc0 hC upd_same
        · refine .inr ⟨h0, fun dx hd ne => ⟨rfl, ?_⟩⟩
          rw [xiH_new]
          have hd1 : H1 dx = none := by rw [upd_ne ne] at hd; exact hd
          have hx2 : (upd H1 dx (exd dx (ns.zip vs).reverse)) x = none := by rw [upd_ne (Ne.symm ne)]; exact hx1
          have C2 := (C1.newF hd1 (o := exd dx (ns.zip vs).reverse)).newF hx2 (o := exo x C (some dx))
          have s1 : Same F (upd (upd F dx (exd dx (ns.zip vs).reverse)) x (exo x C (some dx))) := (same_new (C1.fH.free hd1)).trans (same_new (by rw [upd_ne (Ne.symm ne)]; exact C1.fH.free hx1))
          refine hr _ _ ⟨_, _, C2.push (.exc hC upd_same ((upd_ne ne).trans upd_same) (denF_rev (denF_zip (d.mono s1))))⟩ has_self fun z => ((hs z).trans (same_new hd1)).trans (same_new hx2)
      · exact hr.elim) fun _ => rfl
/-- a class's name as an expression, by its value -/
structure ClsX (X : Cx) (T : Expr) (u : Value) : Prop where
  ex : ∃ v, PE X T (tC v) ∧ ClsV v u
/-- what is asked of the classes -/
structure XsF (w : Wd) (sub : Str → Str → Option Bool) (d : Str) (u : Value) : Prop where
  ec : ∀ c C, w.xf c = some C → ExcC w.K C
  kit : ∀ c C b, w.xf c = some C → sub c d = some b → PySem.W.kitOne w.K (.ref C) u = some b
def rIsX (K : PySem.W.Frag) : RV := fun xs H Q => ∃ (a C : Addr) (o : Option Addr) (c : V) (u : Value) (b : Bool), xs = [.ref a, c] ∧ H a = some (exo a C o) ∧ (∀ dx, o = some dx → ∃ fs, H dx = some (exd dx fs)) ∧ ExcC K C ∧ ClsV c u ∧ PySem.W.kitOne K (.ref C) u = some b ∧ Q (.bl b) H
theorem call_isX : CallR X (.builtin "isinstance") (rIsX X.K) := by
  intro pn s sl H xs us Q J r h
  obtain ⟨a, C, o, c, u, b, rfl, ha, ho, E, hc, hk, q⟩ := h
  cases r with
  | cons rx rr =>
    cases rr with
    | cons rt rr =>
      cases rr
      cases rx
      have ec := hc.eq rt
      subst ec
      obtain ⟨t1, hx⟩ := exo_at J.hok ha
      have hcl : (PySem.W.clsIn X.K C).isSome = true := by
        obtain ⟨cd, hcd, _⟩ := PySem.W.any_some E.hd
        rw [hcd]; rfl
      have at_ : ∃ od, PySem.W.InstAt s.heap a { cls := .ref C, dict := o, data := .fields #[.ref t1, .none, .none, .none, .bool false, .none] } C od := by
        cases o with
        | none => exact ⟨none, hx, rfl, rfl, trivial⟩
        | some dx =>
          obtain ⟨fs, hd⟩ := ho dx rfl
          obtain ⟨mA, hns, rel⟩ := exd_at J.hok hd
          obtain ⟨oD, _, _, hoD, _, _⟩ := hns.count (within_of rel)
          exact ⟨some oD, hx, rfl, rfl, hoD⟩
      obtain ⟨od, I0⟩ := at_
      exact PySem.W.kia_one (PySem.W.kitx_exc hcl E.hg E.hk E.hs E.ha E.hn E.ht E.hm) J.kIn I0 hk (fun z => nomatch z) fun tk => ⟨.bl b, H, J.kept (t' := tk) fun _ _ z => z, rfl, q⟩
theorem snd_isx (g : Gd w W X) {T : Expr} {d : Str} {u : Value} (hT : ClsX X T u) (hf : XsF w c.xsub d u) (hg : Gl X "isinstance") (hm : X.mg "isinstance" = none) (hn : notStar a = true) (hn2 : notStar T = true) (ha : Snd X W w c a ia) :
    Snd X W w c (.Call (.Name "isinstance" p) [a, T] [] pos) (.isx ia d) := by
  obtain ⟨tv, hpe, hcv⟩ := hT.ex
  refine snd_plain g (PE.imp (pe_callB call_isX hg hm (by decide +kernel) (pa_cons ha.pe (pa_cons hpe pa_nil (star_of hn2)) (star_of hn)) (by decide) (by decide) (star_of hn) (by rw [star_one hn2]; rfl)) fun σ H Q h => ?_) fun _ => rfl
  obtain ⟨G, en, ts, C0, h⟩ := h
  simp only [evO, smp] at h
  refine ⟨G, en, ts, C0, ?_⟩
  cases m1 : evO c ia en with
  | stuck => rw [m1] at h; exact h.elim
  | exn y e1 => rw [m1] at h; exact h
  | ok o e1 =>
    rw [m1] at h
    simp only [Out.bind_ok] at h
    intro H1 v ⟨F, lab, C1⟩ a1 s1
    cases pk : peek1 e1 o with
    | none => rw [pk] at h; exact h.elim
    | some x =>
      rw [pk] at h
      simp only [Option.bind_some] at h
      cases x with
      | exc k fs =>
        cases hs : c.xsub k d with
        | none => simp only [isxV, hs] at h; exact h.elim
        | some b =>
          simp only [isxV, hs, Option.map_some, Out.of_some] at h
          have C2 := C1.dropO
          have fin : Q (.bl b) H1 := RO.value h C2 (.bl b) s1
          have vw := C1.vw a1 pk
          cases vw with
          | old dn =>
            cases dn with
            | exc0 hc hF => exact ⟨_, _, none, tv, u, b, rfl, C1.fH _ _ hF, (fun dx z => by cases z), by rw [g.K]; exact hf.ec _ _ hc, hcv, by rw [g.K]; exact hf.kit _ _ _ hc hs, fin⟩
            | exc hc hF hD dF => exact ⟨_, _, some _, tv, u, b, rfl, C1.fH _ _ hF, (fun dx z => by cases z; exact ⟨_, C1.fH _ _ hD⟩), by rw [g.K]; exact hf.ec _ _ hc, hcv, by rw [g.K]; exact hf.kit _ _ _ hc hs, fin⟩
      | _ => exact h.elim
def tFx (K : PySem.W.Frag) (f : Str) (te : TE) : TE := fun σ H Q => te σ H fun x H1 => ∃ (a C dx : Addr) (fs : List (Str × V)) (v : V), x = .ref a ∧ H1 a = some (exo a C (some dx)) ∧ H1 dx = some (exd dx fs) ∧ XfC K C ∧ PySem.W.findIn K (.ref C) f = some none ∧ fs.lookup f = some v ∧ Q v H1
theorem pe_fx {te : TE} {f : Str} (he : PE X a te) (hb : attributeBase a f X.env (eval a X.env) = eval a X.env) : PE X (.Attribute a f pos) (tFx X.K f te) := by
  refine ⟨fun pn s0 sl H0 K0 J h => attr_of hb (thn (he.run pn s0 sl H0 _ J h) fun u s1 ⟨x, H1, J1, rx, y, C, dx, fs, v, ex, ey, ed, T, hno, l, q⟩ => ?_)⟩
  subst ex
  obtain rfl : u = Value.ref y := rx
  obtain ⟨t1, hx⟩ := exo_at J1.hok ey
  obtain ⟨mA, hns, rel⟩ := exd_at J1.hok ed
  obtain ⟨od, ho, hl⟩ := lookIn_ns hns
  obtain ⟨z, hz, rz⟩ := RelO.some_of (v := v) (o := mA f) (by rw [← l]; exact rel f)
  exact HandSPX.exc_get J1.kIn (ox := { cls := .ref C, dict := some dx, data := .fields #[.ref t1, .none, .none, .none, .bool false, .none] }) (od := some od) ⟨hx, rfl, rfl, ho⟩ T.ga T.gg T.exC
    (PySem.W.findObj_own T.hdC hno rfl (by rw [hl, hz])) (handed_of rz) ⟨v, H1, J1.tok _, rz, q⟩
theorem snd_fldx (g : Gd w W X) {f : Str} (hf : ∀ c C, w.xf c = some C → XfC w.K C ∧ PySem.W.findIn w.K (.ref C) f = some none) (hb : attributeBase a f X.env (eval a X.env) = eval a X.env) (ha : Snd X W w c a ia) : Snd X W w c (.Attribute a f pos) (.fldx ia f) := by
  refine snd_plain g (PE.imp (pe_fx ha.pe hb) fun σ H Q h => ?_) fun _ => rfl
  obtain ⟨G, en, ts, C0, h⟩ := h
  simp only [evO, smp] at h
  refine ⟨G, en, ts, C0, ?_⟩
  cases m1 : evO c ia en with
  | stuck => rw [m1] at h; exact h.elim
  | exn y e1 => rw [m1] at h; exact h
  | ok o e1 =>
    rw [m1] at h
    simp only [Out.bind_ok] at h
    intro H1 v ⟨F, lab, C1⟩ a1 s1
    cases pk : peek1 e1 o with
    | none => rw [pk] at h; exact h.elim
    | some x =>
      rw [pk] at h
      simp only [Option.bind_some] at h
      cases x with
      | exc k fs =>
        cases hs : fs.lookup f with
        | none => simp only [fldxV, hs] at h; exact h.elim
        | some y =>
          simp only [fldxV, hs, Option.map_some, Out.of_some] at h
          have vw := C1.vw a1 pk
          cases vw with
          | old dn =>
            cases dn with
            | exc0 hc hF => simp at hs
            | exc hc hF hD dF =>
              obtain ⟨u, hu, du⟩ := dF.lookup hs
              exact ⟨_, _, _, _, u, rfl, C1.fH _ _ hF, C1.fH _ _ hD, by rw [g.K]; exact (hf _ _ hc).1, by rw [g.K]; exact (hf _ _ hc).2, hu, RO.value h C1.dropO du s1⟩
      | _ => exact h.elim
end
end Ev
namespace Ev
open PySem PySem.Spec L2
structure Tab where
  fns : List Str
  cls : List Str
  glo : List Str
  free : List Str
  flds : List Str
  meths : List Str
  xcs : List (Str × List Str) := []
  xts : List (Str × List Str) := []
  xown : List Str := []
  xblt : List Str := []
  xfl : List Str := []
  xpar : Str := ""
/-- which exception class is below which -/
def Tab.xsub (T : Tab) (c d : Str) : Option Bool := (T.xts.lookup c).map fun l => l.contains d
def ixOf : List Str → Str → Option Nat
  | [], _ => none
  | y :: ys, x => if y = x then some 0 else (ixOf ys x).map (· + 1)
theorem ixOf_get : ∀ {N : List Str} {x : Str} {i : Nat}, ixOf N x = some i → N[i]? = some x
  | [], _, _, h => by cases h
  | y :: ys, x, i, h => by
    unfold ixOf at h
    split at h
    · rename_i e; cases h; subst e; rfl
    · cases q : ixOf ys x with
      | none => rw [q] at h; cases h
      | some j => rw [q] at h; cases h; simpa using ixOf_get q
theorem ixOf_none : ∀ {N : List Str} {x : Str}, ixOf N x = none → x ∉ N
  | [], _, _ => by simp
  | y :: ys, x, h => by
    unfold ixOf at h
    split at h
    · cases h
    · rename_i e
      have : ixOf ys x = none := by
        cases q : ixOf ys x with
        | none => rfl
        | some j => rw [q] at h; cases h
      have := ixOf_none this
      simp only [List.mem_cons, not_or]
      exact ⟨fun z => e z.symm, this⟩
def visB (sc : Scope) (x : Str) : Bool := match sc.names.lookup x with
  | some .local => true
  | some .cell => true
  | some .free => true
  | _ => false
theorem vis_of {sc : Scope} {x : Str} (h : visB sc x = true) : Vis sc x := by
  unfold visB at h
  split at h
  · rename_i e; exact .inl e
  · rename_i e; exact .inr (.inl e)
  · rename_i e; exact .inr (.inr e)
  · cases h
def locB (sc : Scope) (x : Str) : Bool := match sc.names.lookup x with
  | some .local => true
  | some .cell => true
  | _ => false
theorem loc_of {sc : Scope} {x : Str} (h : locB sc x = true) : Loc sc x := by
  unfold locB at h
  split at h
  · rename_i e; exact .inl e
  · rename_i e; exact .inr e
  · cases h
def glB (sc : Scope) (x : Str) : Bool := match sc.names.lookup x with
  | some .globalImplicit => true
  | _ => false
theorem gl_of {X : Cx} {sc : Scope} {x : Str} (hs : X.env.scope = sc) (h : glB sc x = true) : Gl X x := by
  unfold glB at h
  split at h
  · rename_i e; unfold Gl Env.kindOf; rw [hs]; exact e
  · cases h
/-- the names whose cells are made at the entry: a def's (none), a block's own -/
def fnB (fr : Option Scope) (sc : Scope) (x : Str) : Bool := (match sc.names.lookup x with
  | some .local => true
  | _ => false) || match fr with
  | none => true
  | some s => s.names.lookup x == some .cell
def okN (x : Str) : Bool := !(x == ("__debug__" : Str)) && !(x == ("__classdict__" : Str)) && !decide (x = "__name__")
theorem okN_of {x : Str} (h : okN x = true) : (x == ("__debug__" : Str)) = false ∧ (x == ("__classdict__" : Str)) = false ∧ x ≠ "__name__" := by
  unfold okN at h
  simp only [Bool.and_eq_true, Bool.not_eq_true', decide_eq_false_iff_not] at h
  exact ⟨h.1.1, h.1.2, h.2⟩
/-- a block's scope, where its captured names are the enclosing def's cells -/
def relS (scope sc : Scope) : Scope := { scope with names := scope.names.map fun (n, k) => if (k == .free && sc.kind == .function && sc.names.lookup n == some .cell) then (n, .cell) else (n, k) }
theorem relS_eq {scope : Scope} {env : PySem.Env} : relabel scope env = relS scope env.scope := rfl
def ownOf (N : List Str) (scope : Scope) : List (Str × Nat) := scope.names.filterMap fun y => if y.2 = .local ∨ y.2 = .cell then (ixOf N y.1).map fun i => (y.1, i) else none
def blkB (sc scope : Scope) : Bool := decide (scope.kind = .function) && scope.names.all (fun y => decide (scope.names.lookup y.1 = some y.2)) && scope.names.all fun y => !decide (y.2 = .free) || (decide (sc.names.lookup y.1 = some .cell) || decide (sc.names.lookup y.1 = some .free))
theorem blk_of {N : List Str} {sc scope : Scope} (h : blkB sc scope = true) : BlkOk N sc scope (ownOf N scope) := by
  unfold blkB at h
  simp only [Bool.and_eq_true, decide_eq_true_eq, List.all_eq_true, Bool.or_eq_true, Bool.not_eq_true', decide_eq_false_iff_not] at h
  obtain ⟨⟨h1, h2⟩, h3⟩ := h
  refine ⟨h1, h2, fun p hp => ?_, fun y hy hf => ?_, fun y hy hk => ?_⟩
  · unfold ownOf at hp
    obtain ⟨y, hy, e⟩ := List.mem_filterMap.mp hp
    split at e
    · cases q : ixOf N y.1 with
      | none => rw [q] at e; cases e
      | some i => rw [q] at e; cases e; exact ixOf_get q
    · cases e
  · rcases h3 y hy with z | z
    · exact absurd hf z
    · exact z
  · cases q : ixOf N y.1 with
    | none => exact .inr (ixOf_none q)
    | some i =>
      left
      refine List.mem_map.mpr ⟨(y.1, i), List.mem_filterMap.mpr ⟨y, hy, ?_⟩, rfl⟩
      rw [if_pos hk, q]; rfl
structure Sta (T : Tab) (X : Cx) (w : Wd) (c : Ctx) : Prop where
  fn : ∀ f ∈ T.fns, ∃ fa, X.mg f = some (.ref fa) ∧ FnF w X (c.O (.fn f)) fa
  mkc : ∀ k ∈ T.cls, ∃ C fa, w.cf k = some C ∧ Mk X.K C fa ∧ FnF w X (c.O (.me k "__init__")) fa ∧ X.mg k = some (.ref C)
  me : ∀ m, MethF w X c m
  free : ∀ b ∈ T.free, X.mg b = none
  glo : ∀ n ∈ T.glo, ∃ u v x, X.mg n = some u ∧ RelV v u ∧ c.glo n = some x ∧ ∀ F, Den w F v x
  isf : IsF w
  flds : ∀ f ∈ T.flds, f ∈ w.flds
  xmk : ∀ k ns, T.xcs.lookup k = some ns → ∃ C fI, w.xf k = some C ∧ c.exf k = some ns ∧ XMk X.K C fI ∧ XIn X C fI ns ∧ X.mg k = some (.ref C)
  xow : ∀ d ∈ T.xown, ∃ D, X.mg d = some (.ref D) ∧ XsF w c.xsub d (.ref D)
  xbl : ∀ d ∈ T.xblt, ∃ n : String, bootBuiltins d = some (.type n) ∧ XsF w c.xsub d (.type n)
  xfl : ∀ f ∈ T.xfl, ∀ k C, w.xf k = some C → XfC w.K C ∧ PySem.W.findIn w.K (.ref C) f = some none
structure OkX (T : Tab) (N : List Str) (fr : Option Scope) (sc : Scope) (X : Cx) (W : WX) (w : Wd) (c : Ctx) : Prop where
  g : Gd w W X
  nN : X.N = N
  hs : X.env.scope = sc
  kd : sc.kind = .function
  fr : ∀ x, fnB fr sc x = true → X.fn x = true ∨ X.env.scope.names.lookup x = some .local
  s : Sta T X w c
section
variable {T : Tab} {N : List Str} {fr : Option Scope} {sc : Scope} {X : Cx} {W : WX} {w : Wd} {c : Ctx}
theorem Sta.blk (S : Sta T X w c) (s : Shared) (H : Hp) (scope : Scope) (cenv : PySem.Env) (fp : List Addr) : Sta T (X.blk s H scope cenv fp) w c where
  fn f hf := let ⟨fa, h1, h2⟩ := S.fn f hf; ⟨fa, h1, ⟨h2.ex, h2.kp⟩⟩
  mkc k hk := let ⟨C, fa, h1, h2, h3, h4⟩ := S.mkc k hk; ⟨C, fa, h1, h2, ⟨h3.ex, h3.kp⟩, h4⟩
  me m k C h1 h2 := let ⟨fm, a, b⟩ := S.me m k C h1 h2; ⟨fm, a, ⟨b.ex, b.kp⟩⟩
  free := S.free
  glo := S.glo
  isf := S.isf
  flds := S.flds
  xmk k ns h := let ⟨C, fI, h1, h2, h3, h4, h5⟩ := S.xmk k ns h; ⟨C, fI, h1, h2, h3, ⟨h4.ex⟩, h5⟩
  xow := S.xow
  xbl := S.xbl
  xfl := S.xfl
theorem OkX.blk (O : OkX T N fr sc X W w c) {scope : Scope} (hk : scope.kind = .function) (s : Shared) (H : Hp) (cl : List (Str × Addr)) (C : Addr) (fp : List Addr) : OkX T N (some scope) (relS scope sc) (X.blk s H scope (compEnvC scope cl C X.env) fp) WF w c where
  g := gd_blk O.g s H _ fp
  nN := O.nN
  hs := by
    show relabel scope X.env = _
    rw [relS_eq, O.hs]
  kd := hk
  fr x h := by
    have e : (X.blk s H scope (compEnvC scope cl C X.env) fp).env.scope = relS scope sc := by
      show relabel scope X.env = _
      rw [relS_eq, O.hs]
    unfold fnB at h
    rw [Bool.or_eq_true] at h
    rcases h with h | h
    · right
      rw [e]
      split at h
      · assumption
      · cases h
    · exact .inl h
  s := O.s.blk s H scope _ fp
end
end Ev
namespace Ev
open PySem PySem.Spec L2
def noSuper : Expr → Bool
  | .Call (.Name _ _) [] [] _ => false
  | _ => true
theorem noSuper_of {o : Expr} (h : noSuper o = true) (attr : Str) (env : PySem.Env) : attributeBase o attr env (eval o env) = eval o env := by
  unfold attributeBase
  split
  · simp [noSuper] at h
  · rfl
def isSlice : Expr → Bool
  | .Slice _ _ _ _ => true
  | _ => false
theorem plainIx_of {b : Expr} (h : isSlice b = false) : PlainIx b := fun o i => by
  cases b <;> first | rfl | (simp [isSlice] at h)
def isSetD : Expr → Bool
  | .Set _ _ _ => true
  | _ => false
theorem folded_of {it : Expr} (h : isSetD it = false) (env : PySem.Env) : ∀ x, foldedSetIterable it env x = pure x := fun x => by
  cases it <;> first | rfl | (simp [isSetD] at h)
def isComp : Expr → Bool
  | .ListComp _ _ _ _ => true
  | .SetComp _ _ _ _ => true
  | .DictComp _ _ _ _ _ => true
  | _ => false
theorem swaps_of {a : Expr} (h : isComp a = false) (t : Option Expr) (l : Nat) (env : PySem.Env) : swapsWith a t l env = pure false := by
  cases a <;> first | rfl | (simp [isComp] at h)
def isTupE : Expr → Bool
  | .Tuple _ _ _ => true
  | _ => false
def biTab : List (Str × Bi) := [("len", .len), ("list", .listOf), ("tuple", .tupleOf), ("sum", .sum), ("any", .any), ("all", .all), ("abs", .abs), ("int", .int), ("str", .strOf), ("max", .max), ("min", .min), ("dict", .dictOf), ("repr", .repr)]
def tyTab : List (Str × Ty) := [("int", .int), ("str", .str), ("bool", .bool), ("list", .list), ("tuple", .tuple), ("dict", .dict)]
def mapE (f : Expr → Option IE) : List Expr → Option (List IE)
  | [] => some []
  | e :: es => if notStar e then match f e with
    | some a => match mapE f es with
      | some r => some (a :: r)
      | none => none
    | none => none
    else none
def keysOf : List (Option Expr) → Option (List Str)
  | [] => some []
  | some (.Constant (.str k) _ _) :: r => (keysOf r).map (k :: ·)
  | _ :: _ => none
def cTy (T : Tab) (sc : Scope) : Expr → Option Ty
  | .Name x _ => if glB sc x && okN x then (if T.cls.contains x then some (.own x) else if T.free.contains x then tyTab.lookup x else none) else none
  | _ => none
def cXT (T : Tab) (sc : Scope) : Expr → Option Str
  | .Name x _ => if glB sc x && okN x then (if T.xown.contains x then some x else if T.xblt.contains x && T.free.contains x then some x else none) else none
  | _ => none
def nameIx (N : List Str) (sc : Scope) (fr : Option Scope) : Expr → Option Nat
  | .Name x _ => if locB sc x && fnB fr sc x then ixOf N x else none
  | _ => none
def namesIx (N : List Str) (sc : Scope) (fr : Option Scope) : List Expr → Option (List Nat)
  | [] => some []
  | e :: es => match nameIx N sc fr e with
    | some i => (namesIx N sc fr es).map (i :: ·)
    | none => none
def cT (N : List Str) (sc : Scope) (fr : Option Scope) : Expr → Option Tgt
  | .Name x p => (nameIx N sc fr (.Name x p)).map .nm
  | .Tuple es _ _ => (namesIx N sc fr es).map .tp
  | _ => none
/-- a call of a global name: which -/
def glF (sc : Scope) (x : Str) : Bool := glB sc x && okN x
def cIt (f : Expr → Option IE) (T : Tab) (sc : Scope) (tg : Expr) : Expr → Option (SrcK × List IE)
  | .Call (.Name x p) es [] pos => if glF sc x && T.free.contains x && decide (x = "range") then (match es with
      | [a] => (mapE f [a]).map fun r => (.range1, r)
      | [a, b] => (mapE f [a, b]).map fun r => (.range2, r)
      | _ => none)
    else if glF sc x && T.free.contains x && decide (x = "enumerate") then (match es with
      | [a] => if isTupE tg then (mapE f [a]).map fun r => (.enum, r) else none
      | _ => none)
    else if glF sc x && T.free.contains x && decide (x = "zip") then (match es with
      | [a, b] => if isTupE tg then (mapE f [a, b]).map fun r => (.zip, r) else none
      | _ => none)
    else if glF sc x && T.free.contains x && decide (x = "reversed") then (match es with
      | [a] => if notStar a then (f a).map fun r => (.rev, [r]) else none
      | _ => none)
    else (f (.Call (.Name x p) es [] pos)).map fun r => (.seq, [r])
  | e => (f e).map fun r => (.seq, [r])
def bmTab : List (Str × Bm) := [("append", .append), ("extend", .extend)]
def cAnds (f : Expr → Option IE) : List Expr → Option IE
  | [] => none
  | [a] => f a
  | a :: b :: r => match f a with
    | some x => match cAnds f (b :: r) with
      | some y => some (.and x y)
      | none => none
    | none => none
def cOrs (f : Expr → Option IE) : List Expr → Option IE
  | [] => none
  | [a] => f a
  | a :: b :: r => match f a with
    | some x => match cOrs f (b :: r) with
      | some y => some (.or x y)
      | none => none
    | none => none
def cOpt (f : Expr → Option IE) : Option Expr → Option (Option IE)
  | none => some none
  | some e => (f e).map some
def cIfs (f : Expr → Option IE) : List Expr → Option (List IE)
  | [] => some []
  | [a] => (f a).map ([·])
  | _ => none
def cCall (f : Expr → Option IE) (T : Tab) (sc : Scope) (x : Str) (es : List Expr) : Option IE :=
  if glF sc x then
    if T.fns.contains x then (mapE f es).map (.call x)
    else if T.cls.contains x then (mapE f es).map (.make x)
    else if (T.xcs.lookup x).isSome then (mapE f es).map (.mkx x)
    else if T.free.contains x then
      if x = "isinstance" then match es with
        | [a, .Tuple [t1, t2] _ _] => match cTy T sc t1, cTy T sc t2, mapE f [a] with
          | some u1, some u2, some [i] => some (.isi i [u1, u2])
          | _, _, _ => none
        | [a, t] => match cTy T sc t, mapE f [a] with
          | some u, some [i] => some (.isi i [u])
          | none, some [i] => (cXT T sc t).map (.isx i)
          | _, _ => none
        | _ => none
      else match es with
        | [] => none
        | e :: r => match biTab.lookup x with
          | some k => (mapE f (e :: r)).map (.bi k)
          | none => none
    else none
  else none
def cMeth (f : Expr → Option IE) (T : Tab) (o : Expr) (m : Str) (es : List Expr) : Option IE :=
  if noSuper o && decide (es.length < 30) then match f o, mapE f es with
    | some io, some r => if T.meths.contains m then some (.meth io m r)
      else if m = "get" then match r with
        | [k] => some (.bm io .get1 [k])
        | [k, d] => some (.bm io .get2 [k, d])
        | _ => none
      else match bmTab.lookup m, r with
        | some b, [v] => some (.bm io b [v])
        | _, _ => none
    | _, _ => none
  else none
def cE (T : Tab) (N : List Str) : Nat → Option Scope → Scope → Expr → Option IE
  | 0, _, _, _ => none
  | n + 1, fr, sc, e => match e with
    | .Constant (.int i) _ _ => some (.cst (.int i))
    | .Constant (.str s) _ _ => some (.cst (.str s))
    | .Constant (.bool b) _ _ => some (.cst (.bl b))
    | .Constant .none _ _ => some (.cst .non)
    | .Name x _ => if okN x then (if visB sc x then (ixOf N x).map .var else if glB sc x && T.glo.contains x then some (.glo x) else none) else none
    | .Tuple es _ _ => (mapE (cE T N n fr sc) es).map .tup
    | .List es _ => (mapE (cE T N n fr sc) es).map .lst
    | .Dict ks es _ => if ks.isEmpty && es.isEmpty then some (.dct [] []) else match keysOf ks, mapE (cE T N n fr sc) es with
      | some ks', some is => if decide (ks.length = es.length) && decide (ks.length ≤ 15) && decide ks'.Nodup then some (.rcd ks' is) else none
      | _, _ => none
    | .BinOp a op b _ => match cE T N n fr sc a, cE T N n fr sc b with
      | some x, some y => some (.bin op x y)
      | _, _ => none
    | .UnaryOp .Not a _ => (cE T N n fr sc a).map .not
    | .UnaryOp .USub a _ => (cE T N n fr sc a).map .neg
    | .BoolOp .And es _ => cAnds (cE T N n fr sc) es
    | .BoolOp .Or es _ => cOrs (cE T N n fr sc) es
    | .Compare a [op] [b] _ => if behindInMarks op b then none else match cE T N n fr sc a, cE T N n fr sc b with
      | some x, some y => some (.cmp op x y)
      | _, _ => none
    | .Compare a [o1, o2] [b, d] _ => if lastMarks [o1, o2] [b, d] then none else match cE T N n fr sc a, cE T N n fr sc b, cE T N n fr sc d with
      | some x, some y, some z => some (.chn o1 o2 x y z)
      | _, _, _ => none
    | .IfExp t a b _ => match cE T N n fr sc t, cE T N n fr sc a, cE T N n fr sc b with
      | some x, some y, some z => some (.ite x y z)
      | _, _, _ => none
    | .Attribute a f _ => if T.flds.contains f && noSuper a then (cE T N n fr sc a).map fun x => .fld x f else if T.xfl.contains f && noSuper a then (cE T N n fr sc a).map fun x => .fldx x f else none
    | .Subscript a (.Slice lo hi none _) _ => match cE T N n fr sc a, cOpt (cE T N n fr sc) lo, cOpt (cE T N n fr sc) hi with
      | some x, some l, some h => some (.sl x l h)
      | _, _, _ => none
    | .Subscript a b _ => if isSlice b then none else match cE T N n fr sc a, cE T N n fr sc b with
      | some x, some y => some (.ix x y)
      | _, _ => none
    | .Call (.Name x _) es [] _ => cCall (cE T N n fr sc) T sc x es
    | .Call (.Attribute o m apos) es [] pos => if apos.endLine == pos.line then cMeth (cE T N n fr sc) T o m es else none
    | .ListComp elt [⟨tg, iter, ifs, 0⟩] scope _ => if blkB sc scope && !isSetD iter then
        match cIt (cE T N n fr sc) T sc tg iter, cT N (relS scope sc) (some scope) tg, cIfs (cE T N n (some scope) (relS scope sc)) ifs, cE T N n (some scope) (relS scope sc) elt with
        | some (k, src), some t, some iifs, some ie => some (.lc ((ownOf N scope).map (·.2)) t k src iifs ie)
        | _, _, _, _ => none
      else none
    | .DictComp kx vx [⟨tg, iter, ifs, 0⟩] scope _ => if blkB sc scope && !isSetD iter then
        match cIt (cE T N n fr sc) T sc tg iter, cT N (relS scope sc) (some scope) tg, cIfs (cE T N n (some scope) (relS scope sc)) ifs, cE T N n (some scope) (relS scope sc) kx, cE T N n (some scope) (relS scope sc) vx with
        | some (k, src), some t, some iifs, some ik, some ie => some (.dc ((ownOf N scope).map (·.2)) t k src iifs ik ie)
        | _, _, _, _, _ => none
      else none
    | _ => none
end Ev
namespace Ev
open PySem PySem.Spec L2
section
variable {T : Tab} {N : List Str} {fr : Option Scope} {sc : Scope} {X : Cx} {W : WX} {w : Wd} {c : Ctx} {f : Expr → Option IE}
theorem mapE_cons {e : Expr} {es : List Expr} {irs : List IE} (h : mapE f (e :: es) = some irs) : ∃ a r, irs = a :: r ∧ notStar e = true ∧ f e = some a ∧ mapE f es = some r := by
  simp only [mapE] at h
  split at h
  · rename_i hn
    split at h
    · rename_i a ha
      split at h
      · rename_i r hr
        cases h
        exact ⟨a, r, rfl, hn, ha, hr⟩
      · cases h
    · cases h
  · cases h
theorem mapE_nil' {irs : List IE} (h : mapE f [] = some irs) : irs = [] := by simp only [mapE, Option.some.injEq] at h; exact h.symm
theorem mapE_star : ∀ {es : List Expr} {irs : List IE}, mapE f es = some irs → ∀ e ∈ es, notStar e = true
  | [], _, _, e, he => by simp at he
  | a :: es, irs, h, e, he => by
    obtain ⟨x, r, rfl, hn, _, hr⟩ := mapE_cons h
    rcases List.mem_cons.mp he with z | z
    · subst z; exact hn
    · exact mapE_star hr e z
theorem mapE_sndx (g : Gd w W X) (hf : ∀ e ir, f e = some ir → Snd X W w c e ir) : ∀ {es : List Expr} {irs : List IE}, mapE f es = some irs → SndX X W w c es irs
  | [], irs, h => by have := mapE_nil' h; subst this; exact sndx_nil
  | a :: es, irs, h => by
    obtain ⟨x, r, rfl, hn, ha, hr⟩ := mapE_cons h
    exact sndx_cons g hn (hf _ _ ha) (mapE_sndx g hf hr)
theorem mapE_snda (g : Gd w W X) (hf : ∀ e ir, f e = some ir → Snd X W w c e ir) : ∀ {es : List Expr} {irs : List IE} (rb : List Bool), mapE f es = some irs → SndA X W w c es irs rb
  | [], irs, rb, h => by have := mapE_nil' h; subst this; exact snda_nil
  | a :: es, irs, rb, h => by
    obtain ⟨x, r, rfl, hn, ha, hr⟩ := mapE_cons h
    exact snda_cons g hn (hf _ _ ha) (mapE_snda g hf rb.tail hr)
theorem mapE_sndp (hf : ∀ e ir, f e = some ir → Snd X W w c e ir) : ∀ {es : List Expr} {irs : List IE}, mapE f es = some irs → SndP X W w c es irs
  | [], irs, h => by have := mapE_nil' h; subst this; exact sndp_nil
  | a :: es, irs, h => by
    obtain ⟨x, r, rfl, hn, ha, hr⟩ := mapE_cons h
    exact sndp_cons hn (hf _ _ ha) (mapE_sndp hf hr)
theorem mapE_sndl (hf : ∀ e ir, f e = some ir → Snd X W w c e ir) : ∀ {es : List Expr} {irs : List IE}, mapE f es = some irs → SndL X W w c es irs
  | [], irs, h => by have := mapE_nil' h; subst this; exact .nil
  | a :: es, irs, h => by
    obtain ⟨x, r, rfl, hn, ha, hr⟩ := mapE_cons h
    exact .cons (hf _ _ ha) (mapE_sndl hf hr)
theorem mapE_mt {es : List Expr} {irs : List IE} (h : mapE f es = some irs) : es = [] → irs = [] := fun z => by subst z; exact mapE_nil' h
theorem keysOf_ok : ∀ {ks : List (Option Expr)} {ns : List Str}, keysOf ks = some ns → KeysE X ks ns
  | [], ns, h => by simp only [keysOf, Option.some.injEq] at h; subst h; exact .nil
  | none :: r, ns, h => by simp [keysOf] at h
  | some e :: r, ns, h => by
    unfold keysOf at h
    split at h
    · rename_i heq; cases heq
    · rename_i k j p r' heq
      cases heq
      cases q : keysOf r with
      | none => rw [q] at h; cases h
      | some ns' => rw [q] at h; cases h; exact .cons pe_str (keysOf_ok q)
    · cases h
theorem nameIx_ok (O : OkX T N fr sc X W w c) {e : Expr} {i : Nat} (h : nameIx N sc fr e = some i) : nameAt X e i := by
  unfold nameIx at h
  split at h
  · rename_i x p
    split at h
    · rename_i hb
      rw [Bool.and_eq_true] at hb
      refine ⟨x, p, rfl, by rw [O.nN]; exact ixOf_get h, by rw [O.hs]; exact loc_of hb.1, O.fr x hb.2⟩
    · cases h
  · cases h
theorem namesIx_ok (O : OkX T N fr sc X W w c) : ∀ {es : List Expr} {is : List Nat}, namesIx N sc fr es = some is → NamesAt X es is
  | [], is, h => by simp only [namesIx, Option.some.injEq] at h; subst h; exact .nil
  | e :: es, is, h => by
    simp only [namesIx] at h
    split at h
    · rename_i i hi
      cases q : namesIx N sc fr es with
      | none => rw [q] at h; cases h
      | some js => rw [q] at h; cases h; exact .cons (nameIx_ok O hi) (namesIx_ok O q)
    · cases h
theorem cT_ok (O : OkX T N fr sc X W w c) {tg : Expr} {t : Tgt} (h : cT N sc fr tg = some t) : SndT w X tg t := by
  unfold cT at h
  split at h
  · rename_i x p
    cases q : nameIx N sc fr (.Name x p) with
    | none => rw [q] at h; cases h
    | some i =>
      rw [q] at h; cases h
      obtain ⟨y, p', e, h1, h2, h3⟩ := nameIx_ok O q
      cases e
      exact sndt_nm O.g.nd h1 h2 h3
  · rename_i es k p
    cases q : namesIx N sc fr es with
    | none => rw [q] at h; cases h
    | some is =>
      rw [q] at h; cases h
      exact sndt_tp O.g.K O.g.nd O.g.calm (namesIx_ok O q)
  · cases h
theorem glF_of (O : OkX T N fr sc X W w c) {x : Str} (h : glF sc x = true) : Gl X x ∧ (x == ("__debug__" : Str)) = false ∧ x ≠ "__name__" := by
  unfold glF at h
  rw [Bool.and_eq_true] at h
  have := okN_of h.2
  exact ⟨gl_of O.hs h.1, this.1, this.2.2⟩
theorem free_of (O : OkX T N fr sc X W w c) {x : Str} (h : T.free.contains x = true) : X.mg x = none := O.s.free x (by simpa using h)
theorem tyTab_ok : ∀ {x : Str} {t : Ty}, tyTab.lookup x = some t → ∃ n : String, tyN t = some n ∧ bootBuiltins x = some (.type n) := fun {x t} h => by
  unfold tyTab at h
  simp only [List.lookup] at h
  repeat' split at h
  all_goals first
    | (cases h; rename_i e; rw [eq_of_beq e]; exact ⟨_, rfl, by decide +kernel⟩)
    | cases h
theorem cTy_ok (O : OkX T N fr sc X W w c) {e : Expr} {t : Ty} (h : cTy T sc e = some t) : ClsE X w e t ∧ notStar e = true := by
  unfold cTy at h
  split at h
  · rename_i x p
    split at h
    · rename_i hg
      obtain ⟨h1, h2, h3⟩ := glF_of O (x := x) hg
      split at h
      · rename_i hc
        cases h
        obtain ⟨C, fa, q1, q2, q3, q4⟩ := O.s.mkc x (by simpa using hc)
        exact ⟨⟨_, _, pe_glob h1 q4 (v := .ref C) rfl h2, .own C, by simp [tyU, q1]⟩, rfl⟩
      · split at h
        · rename_i hc hf
          obtain ⟨n, e1, e2⟩ := tyTab_ok h
          refine ⟨⟨.ty n, .type n, pe_bltn h1 (free_of O hf) e2 rfl h3 h2, .ty n, ?_⟩, rfl⟩
          cases t <;> simp_all [tyU, tyN]
        · cases h
    · cases h
  · cases h
theorem cXT_ok (O : OkX T N fr sc X W w c) {e : Expr} {d : Str} (h : cXT T sc e = some d) : (∃ u, ClsX X e u ∧ XsF w c.xsub d u) ∧ notStar e = true := by
  unfold cXT at h
  split at h
  · rename_i x p
    split at h
    · rename_i hg
      obtain ⟨h1, h2, h3⟩ := glF_of O (x := x) hg
      split at h
      · rename_i hc
        cases h
        obtain ⟨D, q1, q2⟩ := O.s.xow d (by simpa using hc)
        exact ⟨⟨_, ⟨_, pe_glob h1 q1 (v := .ref D) rfl h2, .own D⟩, q2⟩, rfl⟩
      · split at h
        · rename_i hc hf
          cases h
          rw [Bool.and_eq_true] at hf
          obtain ⟨n, e1, e2⟩ := O.s.xbl d (by simpa using hf.1)
          exact ⟨⟨_, ⟨_, pe_bltn h1 (free_of O hf.2) e1 (v := .ty n) rfl h3 h2, .ty n⟩, e2⟩, rfl⟩
        · cases h
    · cases h
  · cases h
theorem cIt_ok (O : OkX T N fr sc X W w c) (hf : ∀ e ir, f e = some ir → Snd X W w c e ir) {tg it : Expr} {k : SrcK} {src : List IE} (h : cIt f T sc tg it = some (k, src)) : SndIt X W w c tg it k src := by
  have seq : ∀ e, (f e).map (fun r => ((.seq, [r]) : SrcK × List IE)) = some (k, src) → SndIt X W w c tg e k src := fun e h => by
    cases q : f e with
    | none => rw [q] at h; cases h
    | some r => rw [q] at h; cases h; exact si_seq O.g (hf _ _ q)
  have one : ∀ {a : Expr} {k' : SrcK}, (mapE f [a]).map (fun r => ((k', r) : SrcK × List IE)) = some (k, src) → k = k' ∧ ∃ ia, src = [ia] ∧ notStar a = true ∧ SndX X W w c [a] [ia] := fun {a k'} h => by
    cases q : mapE f [a] with
    | none => rw [q] at h; cases h
    | some r =>
      rw [q] at h; cases h
      obtain ⟨x, r', rfl, hn, ha, hr⟩ := mapE_cons q
      have := mapE_nil' hr
      subst this
      exact ⟨rfl, x, rfl, hn, mapE_sndx O.g hf q⟩
  have two : ∀ {a b : Expr} {k' : SrcK}, (mapE f [a, b]).map (fun r => ((k', r) : SrcK × List IE)) = some (k, src) → k = k' ∧ ∃ ia ib, src = [ia, ib] ∧ notStar a = true ∧ notStar b = true ∧ SndX X W w c [a, b] [ia, ib] := fun {a b k'} h => by
    cases q : mapE f [a, b] with
    | none => rw [q] at h; cases h
    | some r =>
      rw [q] at h; cases h
      obtain ⟨x, r', rfl, hn, ha, hr⟩ := mapE_cons q
      obtain ⟨y, r'', rfl, hn2, hb, hr2⟩ := mapE_cons hr
      have := mapE_nil' hr2
      subst this
      exact ⟨rfl, x, y, rfl, hn, hn2, mapE_sndx O.g hf q⟩
  unfold cIt at h
  split at h
  · rename_i x p es pos
    split at h
    · rename_i hc
      simp only [Bool.and_eq_true, decide_eq_true_eq] at hc
      obtain ⟨⟨hg, hfr⟩, rfl⟩ := hc
      have gx := (glF_of O hg).1
      have fx := free_of O hfr
      split at h
      · obtain ⟨rfl, ia, rfl, hn, s⟩ := one h
        exact si_rng1 gx fx hn s
      · obtain ⟨rfl, ia, ib, rfl, hn, hn2, s⟩ := two h
        exact si_rng2 gx fx hn hn2 s
      · cases h
    · split at h
      · rename_i hc
        simp only [Bool.and_eq_true, decide_eq_true_eq] at hc
        obtain ⟨⟨hg, hfr⟩, rfl⟩ := hc
        have gx := (glF_of O hg).1
        have fx := free_of O hfr
        split at h
        · split at h
          · rename_i ht
            obtain ⟨rfl, ia, rfl, hn, s⟩ := one h
            cases tg <;> first | exact si_enum O.g gx fx hn s | (simp [isTupE] at ht)
          · cases h
        · cases h
      · split at h
        · rename_i hc
          simp only [Bool.and_eq_true, decide_eq_true_eq] at hc
          obtain ⟨⟨hg, hfr⟩, rfl⟩ := hc
          have gx := (glF_of O hg).1
          have fx := free_of O hfr
          split at h
          · split at h
            · rename_i ht
              obtain ⟨rfl, ia, ib, rfl, hn, hn2, s⟩ := two h
              cases tg <;> first | exact si_zip O.g gx fx hn hn2 s | (simp [isTupE] at ht)
            · cases h
          · cases h
        · split at h
          · rename_i hc
            simp only [Bool.and_eq_true, decide_eq_true_eq] at hc
            obtain ⟨⟨hg, hfr⟩, rfl⟩ := hc
            have gx := (glF_of O hg).1
            have fx := free_of O hfr
            split at h
            · rename_i a
              split at h
              · rename_i hn
                cases q : f a with
                | none => rw [q] at h; cases h
                | some r => rw [q] at h; cases h; exact si_rev O.g gx fx hn (hf _ _ q)
              · cases h
            · cases h
          · exact seq _ h
  · exact seq _ h
theorem cAnds_ok (g : Gd w W X) (hf : ∀ e ir, f e = some ir → Snd X W w c e ir) {pos : Pos} : ∀ {es : List Expr} {ir : IE}, cAnds f es = some ir → PE X (.BoolOp .And es pos) (tO w W (smp ir) (evO c ir)) ∧ PW X (.BoolOp .And es pos) (tT w W (smp ir) (fun env => tst (evO c ir env)))
  | [], _, h => by cases h
  | [a], ir, h => by
    have s := hf a ir h
    exact ⟨pe_one s.pe, pw_and1 s.pt⟩
  | a :: b :: r, ir, h => by
    simp only [cAnds] at h
    split at h
    · rename_i x hx
      split at h
      · rename_i y hy
        cases h
        obtain ⟨h1, h2⟩ := cAnds_ok g hf (pos := pos) hy
        exact snd_and g (hf _ _ hx) h1 h2
      · cases h
    · cases h
theorem cOrs_ok (g : Gd w W X) (hf : ∀ e ir, f e = some ir → Snd X W w c e ir) {pos : Pos} : ∀ {es : List Expr} {ir : IE}, cOrs f es = some ir → PE X (.BoolOp .Or es pos) (tO w W (smp ir) (evO c ir)) ∧ PW X (.BoolOp .Or es pos) (tT w W (smp ir) (fun env => tst (evO c ir env)))
  | [], _, h => by cases h
  | [a], ir, h => by
    have s := hf a ir h
    exact ⟨pe_one s.pe, pw_or1 s.pt⟩
  | a :: b :: r, ir, h => by
    simp only [cOrs] at h
    split at h
    · rename_i x hx
      split at h
      · rename_i y hy
        cases h
        obtain ⟨h1, h2⟩ := cOrs_ok g hf (pos := pos) hy
        exact snd_or g (hf _ _ hx) h1 h2
      · cases h
    · cases h
theorem cOpt_ok (hf : ∀ e ir, f e = some ir → Snd X W w c e ir) {e : Option Expr} {ir : Option IE} (h : cOpt f e = some ir) : SndI X W w c e ir := by
  cases e with
  | none => simp only [cOpt, Option.some.injEq] at h; subst h; exact sndi_none
  | some e =>
    simp only [cOpt] at h
    cases q : f e with
    | none => rw [q] at h; cases h
    | some a => rw [q] at h; cases h; exact sndi_some (hf _ _ q)
theorem cIfs_ok (hf : ∀ e ir, f e = some ir → Snd X W w c e ir) {es : List Expr} {irs : List IE} (h : cIfs f es = some irs) : SndIfs X W w c es irs := by
  unfold cIfs at h
  split at h
  · cases h; exact ifs_nil
  · rename_i a
    cases q : f a with
    | none => rw [q] at h; cases h
    | some i => rw [q] at h; cases h; exact ifs_one (hf _ _ q)
  · cases h
theorem biTab_ok : ∀ {x : Str} {k : Bi}, biTab.lookup x = some k → (∃ id : String, biF k = some (.builtin id) ∧ bootBuiltins x = some (.builtin id)) ∨ ∃ id : String, biF k = some (.type id) ∧ bootBuiltins x = some (.type id) := fun {x k} h => by
  unfold biTab at h
  simp only [List.lookup] at h
  repeat' split at h
  all_goals first
    | (cases h; rename_i e; rw [eq_of_beq e]; first | exact .inl ⟨_, rfl, by decide +kernel⟩ | exact .inr ⟨_, rfl, by decide +kernel⟩)
    | cases h
theorem cCall_ok (O : OkX T N fr sc X W w c) (hf : ∀ e ir, f e = some ir → Snd X W w c e ir) {x : Str} {p pos : Pos} {es : List Expr} {ir : IE} (h : cCall f T sc x es = some ir) : Snd X W w c (.Call (.Name x p) es [] pos) ir := by
  unfold cCall at h
  split at h
  · rename_i hg
    obtain ⟨gx, dx, nx⟩ := glF_of O hg
    split at h
    · rename_i hc
      cases q : mapE f es with
      | none => rw [q] at h; cases h
      | some irs =>
        rw [q] at h; cases h
        obtain ⟨fa, h1, h2⟩ := O.s.fn x (by simpa using hc)
        have st := mapE_star q
        refine snd_call O.g h2 gx h1 dx (fun e he => st e (List.mem_of_mem_head? he)) (mapE_snda O.g hf _ q) (fun q' => (plain_args fun e he => st e (List.mem_of_mem_tail he)).2) (mapE_mt q)
    · split at h
      · rename_i hc
        cases q : mapE f es with
        | none => rw [q] at h; cases h
        | some irs =>
          rw [q] at h; cases h
          obtain ⟨C, fa, h1, h2, h3, h4⟩ := O.s.mkc x (by simpa using hc)
          exact snd_make O.g h1 h2 h3 gx h4 dx (mapE_star q) (mapE_snda O.g hf _ q) (mapE_mt q)
      · split at h
        · rename_i hxc
          cases q : mapE f es with
          | none => rw [q] at h; cases h
          | some irs =>
            rw [q] at h; cases h
            obtain ⟨ns, hns⟩ := Option.isSome_iff_exists.mp hxc
            obtain ⟨C, fI, h1, h2, h3, h4, h5⟩ := O.s.xmk x ns hns
            exact snd_mkx O.g h1 h2 h3 h4 gx h5 dx (mapE_star q) (mapE_sndx O.g hf q) (mapE_mt q)
        split at h
        · rename_i hfr
          have fx := free_of O hfr
          split at h
          · rename_i hx
            subst hx
            split at h
            · rename_i a t1 t2 kk tp
              split at h
              · rename_i u1 u2 i e1 e2 e3
                cases h
                obtain ⟨c1, n1⟩ := cTy_ok O e1
                obtain ⟨c2, n2⟩ := cTy_ok O e2
                obtain ⟨y, r', e4, hn, ha, hr⟩ := mapE_cons e3
                cases e4
                exact snd_isi2 O.g O.s.isf c1 c2 gx fx hn n1 n2 (hf _ _ ha)
              · cases h
            · rename_i a t _
              split at h
              · rename_i u i e1 e3
                cases h
                obtain ⟨c1, n1⟩ := cTy_ok O e1
                obtain ⟨y, r', e4, hn, ha, hr⟩ := mapE_cons e3
                cases e4
                exact snd_isi1 O.g O.s.isf c1 gx fx hn n1 (hf _ _ ha)
              · rename_i i e1 e3
                cases q : cXT T sc t with
                | none => rw [q] at h; cases h
                | some d =>
                  rw [q] at h; cases h
                  obtain ⟨⟨u, c1, c2⟩, n1⟩ := cXT_ok O q
                  obtain ⟨y, r', e4, hn, ha, hr⟩ := mapE_cons e3
                  cases e4
                  exact snd_isx O.g c1 c2 gx fx hn n1 (hf _ _ ha)
              · cases h
            · cases h
          · split at h
            · cases h
            · rename_i e r
              split at h
              · rename_i k hk
                cases q : mapE f (e :: r) with
                | none => rw [q] at h; cases h
                | some irs =>
                  rw [q] at h; cases h
                  rcases biTab_ok hk with ⟨id, b1, b2⟩ | ⟨id, b1, b2⟩
                  · exact snd_biB O.g b1 gx fx b2 nx dx (mapE_star q) (mapE_snda O.g hf _ q)
                  · exact snd_biT O.g b1 gx fx b2 nx dx (mapE_star q) (mapE_snda O.g hf _ q)
              · cases h
        · cases h
  · cases h
end
end Ev
namespace Ev
open PySem PySem.Spec L2
section
variable {T : Tab} {N : List Str} {fr : Option Scope} {sc : Scope} {X : Cx} {W : WX} {w : Wd} {c : Ctx} {f : Expr → Option IE}
theorem bmTab_ok {m : Str} {b : Bm} (h : bmTab.lookup m = some b) : (m = "append" ∧ b = .append) ∨ (m = "extend" ∧ b = .extend) := by
  unfold bmTab at h
  simp only [List.lookup] at h
  repeat' split at h
  all_goals first
    | (cases h; rename_i e; exact .inl ⟨eq_of_beq e, rfl⟩)
    | (cases h; rename_i e; exact .inr ⟨eq_of_beq e, rfl⟩)
    | cases h
theorem cMeth_ok (O : OkX T N fr sc X W w c) (hf : ∀ e ir, f e = some ir → Snd X W w c e ir) {o : Expr} {m : Str} {apos pos : Pos} {es : List Expr} {ir : IE} (hl : (apos.endLine == pos.line) = true) (h : cMeth f T o m es = some ir) : Snd X W w c (.Call (.Attribute o m apos) es [] pos) ir := by
  unfold cMeth at h
  split at h
  · rename_i hc
    rw [Bool.and_eq_true, decide_eq_true_eq] at hc
    have hb := noSuper_of hc.1 m X.env
    split at h
    · rename_i io r ho hr
      have st := mapE_star hr
      split at h
      · cases h
        exact snd_meth O.g (O.s.me m) (hf _ _ ho) st hc.2 hb hl (fun rbk => mapE_snda O.g hf rbk hr) (mapE_mt hr)
      · split at h
        · rename_i hm
          subst hm
          split at h
          · rename_i k
            cases h
            cases es with
            | nil => have := mapE_nil' hr; cases this
            | cons a es =>
              obtain ⟨x, r', e1, hn, ha, hr2⟩ := mapE_cons hr
              cases e1
              cases es with
              | cons b es => obtain ⟨_, _, e2, _⟩ := mapE_cons hr2; cases e2
              | nil => exact snd_get1 O.g hn hb hl (hf _ _ ho) (hf _ _ ha)
          · rename_i k d
            cases h
            cases es with
            | nil => have := mapE_nil' hr; cases this
            | cons a es =>
              obtain ⟨x, r', e1, hn, ha, hr2⟩ := mapE_cons hr
              cases e1
              cases es with
              | nil => have := mapE_nil' hr2; cases this
              | cons b es =>
                obtain ⟨y, r'', e2, hn2, hb2, hr3⟩ := mapE_cons hr2
                cases e2
                cases es with
                | cons b es => obtain ⟨_, _, e2, _⟩ := mapE_cons hr3; cases e2
                | nil => exact snd_get2 O.g hn hn2 hb hl (hf _ _ ho) (hf _ _ ha) (hf _ _ hb2)
          · cases h
        · split at h
          · rename_i b v hb1
            cases h
            cases es with
            | nil => have := mapE_nil' hr; cases this
            | cons a es =>
              have sx := mapE_sndx O.g hf hr
              rcases bmTab_ok hb1 with ⟨rfl, rfl⟩ | ⟨rfl, rfl⟩
              · exact snd_bmL O.g rfl PySem.F.slot_list_append PySem.F.type_list_append mt_append st hc.2 hb hl (hf _ _ ho) sx
              · exact snd_bmL O.g rfl PySem.F.slot_list_extend PySem.F.type_list_extend mt_extend st hc.2 hb hl (hf _ _ ho) sx
          · cases h
    · cases h
  · cases h
/-- what a list comprehension's text gives -/
structure LcOk (X : Cx) (W : WX) (w : Wd) (c : Ctx) (N : List Str) (tg iter : Expr) (ifs : List Expr) (elt : Expr) (scope : Scope) (t : Tgt) (k : SrcK) (src : List IE) (iifs : List IE) (ie : IE) : Prop where
  hi : SndIt X W w c tg iter k src
  ok : BlkOk X.N X.env.scope scope (ownOf N scope)
  ht : ∀ s H C cl fp, SndT w (X.blk s H scope (compEnvC scope cl C X.env) fp) tg t
  hf : ∀ s H C cl fp, SndIfs (X.blk s H scope (compEnvC scope cl C X.env) fp) WF w c ifs iifs
  he : ∀ s H C cl fp, Snd (X.blk s H scope (compEnvC scope cl C X.env) fp) WF w c elt ie
  hs : ∀ x, foldedSetIterable iter X.env x = pure x
/-- the compiler holds with so much fuel -/
def CE (T : Tab) (N : List Str) (w : Wd) (c : Ctx) (n : Nat) : Prop := ∀ (fr : Option Scope) (sc : Scope) (X : Cx) (W : WX), OkX T N fr sc X W w c → ∀ e ir, cE T N n fr sc e = some ir → Snd X W w c e ir
theorem lc_parts {n : Nat} (ih : CE T N w c n) (O : OkX T N fr sc X W w c) {elt tg iter : Expr} {ifs : List Expr} {scope : Scope} {k : SrcK} {src iifs : List IE} {t : Tgt} {ie : IE} (hb : (blkB sc scope && !isSetD iter) = true)
    (h1 : cIt (cE T N n fr sc) T sc tg iter = some (k, src)) (h2 : cT N (relS scope sc) (some scope) tg = some t) (h3 : cIfs (cE T N n (some scope) (relS scope sc)) ifs = some iifs) (h4 : cE T N n (some scope) (relS scope sc) elt = some ie) : LcOk X W w c N tg iter ifs elt scope t k src iifs ie := by
  rw [Bool.and_eq_true, Bool.not_eq_true'] at hb
  have bk := blk_of (N := N) hb.1
  have ob : ∀ s H C cl fp, OkX T N (some scope) (relS scope sc) (X.blk s H scope (compEnvC scope cl C X.env) fp) WF w c := fun s H C cl fp => O.blk bk.kind s H cl C fp
  refine ⟨cIt_ok O (ih fr sc X W O) h1, by rw [O.nN, O.hs]; exact bk, fun s H C cl fp => cT_ok (ob s H C cl fp) h2, fun s H C cl fp => cIfs_ok (ih _ _ _ _ (ob s H C cl fp)) h3, fun s H C cl fp => ih _ _ _ _ (ob s H C cl fp) _ _ h4, folded_of hb.2 X.env⟩
theorem cE_ok (T : Tab) (N : List Str) (w : Wd) (c : Ctx) : ∀ n, CE T N w c n
  | 0 => fun fr sc X W O e ir h => by simp [cE] at h
  | n + 1 => fun fr sc X W O e ir h => by
    have ih := cE_ok T N w c n
    have hf := ih fr sc X W O
    unfold cE at h
    split at h
    · cases h; exact snd_cst O.g (fun F => .int _) pe_int fun _ => rfl
    · cases h; exact snd_cst O.g (fun F => .str _) pe_str fun _ => rfl
    · cases h; exact snd_cst O.g (fun F => .bl _) pe_bl fun _ => rfl
    · cases h; exact snd_cst O.g (fun F => .non) pe_non fun _ => rfl
    · rename_i x p
      split at h
      · rename_i hn
        obtain ⟨d1, d2, d3⟩ := okN_of hn
        split at h
        · rename_i hv
          cases q : ixOf N x with
          | none => rw [q] at h; cases h
          | some i => rw [q] at h; cases h; exact snd_var O.g (by rw [O.nN]; exact ixOf_get q) (by rw [O.hs]; exact vis_of hv) d1 d2
        · split at h
          · rename_i hg
            rw [Bool.and_eq_true] at hg
            cases h
            obtain ⟨u, v, y, h1, h2, h3, h4⟩ := O.s.glo x (by simpa using hg.2)
            exact snd_glo O.g h3 h4 (pe_glob (gl_of O.hs hg.1) h1 h2 d1) fun _ => rfl
          · cases h
      · cases h
    · rename_i es k p
      cases q : mapE (cE T N n fr sc) es with
      | none => rw [q] at h; cases h
      | some r => rw [q] at h; cases h; exact snd_tup O.g (mapE_sndx O.g hf q)
    · rename_i es p
      cases q : mapE (cE T N n fr sc) es with
      | none => rw [q] at h; cases h
      | some r => rw [q] at h; cases h; exact snd_lst O.g (mapE_sndx O.g hf q)
    · rename_i ks es p
      split at h
      · rename_i h0
        rw [Bool.and_eq_true, List.isEmpty_iff, List.isEmpty_iff] at h0
        obtain ⟨rfl, rfl⟩ := h0
        cases h
        exact snd_dct0 O.g
      · split at h
        · rename_i ks' is hk hi
          split at h
          · rename_i hc
            simp only [Bool.and_eq_true, decide_eq_true_eq] at hc
            cases h
            refine snd_rcd O.g (keysOf_ok hk) (mapE_sndl hf hi) hc.1.1 (fun z => ?_) hc.1.2 hc.2
            subst z
            rename_i h0
            have : es = [] := by
              cases es with
              | nil => rfl
              | cons a es => have := hc.1.1; simp at this
            subst this
            exact h0 rfl
          · cases h
        · cases h
    · split at h
      · rename_i x y hx hy
        cases h
        exact snd_plain O.g (pe_bin O.g.K (hf _ _ hx).pe (hf _ _ hy).pe) fun _ => rfl
      · cases h
    · rename_i a p
      cases q : cE T N n fr sc a with
      | none => rw [q] at h; cases h
      | some r => rw [q] at h; cases h; exact snd_not O.g (hf _ _ q)
    · rename_i a p
      cases q : cE T N n fr sc a with
      | none => rw [q] at h; cases h
      | some r => rw [q] at h; cases h; exact snd_neg O.g (hf _ _ q)
    · obtain ⟨h1, h2⟩ := cAnds_ok O.g hf h
      exact ⟨h1, h2.pt⟩
    · obtain ⟨h1, h2⟩ := cOrs_ok O.g hf h
      exact ⟨h1, h2.pt⟩
    · split at h
      · cases h
      · rename_i hm
        split at h
        · rename_i x y hx hy
          cases h
          exact snd_cmp O.g (by simpa using hm) (hf _ _ hx) (hf _ _ hy)
        · cases h
    · split at h
      · cases h
      · rename_i hm
        split at h
        · rename_i x y z hx hy hz
          cases h
          exact snd_chn O.g (by simpa using hm) (hf _ _ hx) (hf _ _ hy) (hf _ _ hz)
        · cases h
    · split at h
      · rename_i x y z hx hy hz
        cases h
        exact snd_ite O.g (hf _ _ hx) (hf _ _ hy) (hf _ _ hz)
      · cases h
    · rename_i a fld p
      split at h
      · rename_i hc
        rw [Bool.and_eq_true] at hc
        cases q : cE T N n fr sc a with
        | none => rw [q] at h; cases h
        | some r => rw [q] at h; cases h; exact snd_fld O.g (O.s.flds fld (by simpa using hc.1)) (noSuper_of hc.2 _ _) (hf _ _ q)
      · split at h
        · rename_i hc
          rw [Bool.and_eq_true] at hc
          cases q : cE T N n fr sc a with
          | none => rw [q] at h; cases h
          | some r => rw [q] at h; cases h; exact snd_fldx O.g (O.s.xfl fld (by simpa using hc.1)) (noSuper_of hc.2 _ _) (hf _ _ q)
        · cases h
    · split at h
      · rename_i x l hh hx hl hh'
        cases h
        exact snd_sl O.g (hf _ _ hx) (cOpt_ok hf hl) (cOpt_ok hf hh')
      · cases h
    · split at h
      · cases h
      · rename_i hs
        split at h
        · rename_i x y hx hy
          cases h
          exact snd_ix O.g (plainIx_of (by simpa using hs)) (hf _ _ hx) (hf _ _ hy)
        · cases h
    · exact cCall_ok O hf h
    · split at h
      · rename_i hl
        exact cMeth_ok O hf hl h
      · cases h
    · split at h
      · rename_i hb
        split at h
        · rename_i k src t iifs ie h1 h2 h3 h4
          cases h
          have P := lc_parts ih O hb h1 h2 h3 h4
          exact snd_lc O.g P.hi P.ok P.ht P.hf P.he P.hs
        · cases h
      · cases h
    · split at h
      · rename_i hb
        split at h
        · rename_i k src t iifs ik ie h1 h2 h3 h4 h5
          cases h
          have P := lc_parts ih O hb h1 h2 h3 h4
          have P2 := lc_parts ih O hb h1 h2 h3 h5
          exact snd_dc O.g P.hi P.ok P.ht P.hf P.he P2.he P.hs
        · cases h
      · cases h
    · cases h
end
end Ev
namespace Ev
open PySem PySem.Spec L2
def isStarE : Expr → Bool
  | .Starred .. => true
  | _ => false
/-- how a tuple's stores to names go: some none as they stand, some (some ns) turned round -/
def swO (ts vs : List Expr) (sc : Scope) : Option (Option (List Str)) :=
  if !(ts.length == 2 || ts.length == 3) || vs.length != ts.length then some none
  else if vs.any isStarE then some none
  else
    let line := (ts.head?.map (·.pos.line)).getD 0
    let names := ts.filterMap fun
      | .Name id pos => if sc.names.lookup id == some .local && pos.line == line then some id else none
      | _ => none
    if names.length != ts.length || names.eraseDups.length != names.length then some none
    else if vs.all (foldedForSure 8) then some none
    else if vs.all (constantsAlone 8) then none
    else some (some names)
theorem swO_ok {ts vs : List Expr} {sc : Scope} {k k2 : Nat} {p p2 : Pos} {env : PySem.Env} {r : Option (List Str)} (hs : env.scope = sc) (hk : sc.kind = .function) (h : swO ts vs sc = some r) : swappedStores [.Tuple ts k p] (.Tuple vs k2 p2) env = pure r := by
  have bk : (env.blockKind != .function) = false := by
    unfold Env.blockKind
    rw [hs, hk]; rfl
  have ko : ∀ id, env.kindOf id = sc.names.lookup id := fun id => by unfold Env.kindOf; rw [hs]
  unfold swO at h
  unfold swappedStores
  simp only [bk, Bool.or_false, ko]
  split at h
  · rename_i c1
    cases h
    exact (if_pos c1).trans rfl
  · rename_i c1
    refine (if_neg c1).trans ?_
    split at h
    · rename_i c2
      cases h
      exact (if_pos c2).trans rfl
    · rename_i c2
      refine (if_neg c2).trans ?_
      simp only at h
      split at h
      · rename_i c3
        cases h
        exact (if_pos c3).trans rfl
      · rename_i c3
        refine (if_neg c3).trans ?_
        split at h
        · rename_i c4
          cases h
          exact (if_pos c4).trans rfl
        · rename_i c4
          refine (if_neg c4).trans ?_
          split at h
          · cases h
          · rename_i c5
            cases h
            exact (if_neg c5).trans rfl
theorem swaps_attr {a o : Expr} {f : Str} {p : Pos} {l : Nat} {env : PySem.Env} : swapsWith a (some (.Attribute o f p)) l env = pure false := by cases a <;> rfl
theorem swaps_tup {a : Expr} {ts : List Expr} {k : Nat} {p : Pos} {l : Nat} {env : PySem.Env} : swapsWithSole [.Tuple ts k p] a l env = pure false := by cases a <;> rfl
theorem swapped_not {a : Expr} {ts : List Expr} {k : Nat} {p : Pos} {env : PySem.Env} (h : isTupE a = false) : swappedStores [.Tuple ts k p] a env = pure none := by
  cases a <;> first | rfl | (simp [isTupE] at h)
theorem assign_sub {o k : Expr} {pos' : Pos} {env : PySem.Env} (h : isSlice k = false) : ∀ v, assign (.Subscript o k pos') env v = (do
      let ov ← holding [v] (eval o env)
      let iv ← holding [v, ov] (eval k env)
      standAt pos'
      holding [v, ov, iv] (setItem ov iv v)
      release [v, ov, iv] []) := fun v => by
  cases k <;> first | rfl | (simp [isSlice] at h)
/-- the stores of a comprehension are exchanged with its own -/
def lcSwap (sc scope : Scope) (t : Str) (pos p : Pos) : Bool := sc.names.lookup t == some .local && pos.line == p.line && !(scope.names.any fun (n, k) => n == t && (k == .local || k == .cell))
theorem swaps_lc {elt : Expr} {gs : List Comprehension} {scope sc : Scope} {p pos : Pos} {t : Str} {l : Nat} {env : PySem.Env} (hs : env.scope = sc) (hk : sc.kind = .function) : swapsWith (.ListComp elt gs scope p) (some (.Name t pos)) l env = pure (lcSwap sc scope t pos p) := by
  have bk : (env.blockKind == .function) = true := by
    unfold Env.blockKind
    rw [hs, hk]; rfl
  have ko : ∀ id, env.kindOf id = sc.names.lookup id := fun id => by unfold Env.kindOf; rw [hs]
  unfold swapsWith lcSwap
  simp only [bk, ko, Bool.true_and]
  rfl
def asgOk : Expr → Bool
  | .ListComp _ _ _ _ => true
  | a => !isComp a
def mapS (f : Stmt → Option IS) : List Stmt → Option (List IS)
  | [] => some []
  | s :: ss => match f s with
    | some a => match mapS f ss with
      | some r => some (a :: r)
      | none => none
    | none => none
def isLocal (sc : Scope) (x : Str) : Bool := decide (sc.names.lookup x = some .local)
def parIx (N : List Str) (sc : Scope) (ns : List Str) : List Expr → Option (List Nat)
  | [.Name x _, .Name y _] => match ixOf N x, ixOf N y with
    | some i, some j => if decide (i ≠ j) && isLocal sc x && isLocal sc y && decide (ns = [x, y]) then some [i, j] else none
    | _, _ => none
  | [.Name x _, .Name y _, .Name z _] => match ixOf N x, ixOf N y, ixOf N z with
    | some i, some j, some l => if decide (i ≠ j) && decide (i ≠ l) && decide (j ≠ l) && isLocal sc x && isLocal sc y && isLocal sc z && decide (ns = [x, y, z]) then some [i, j, l] else none
    | _, _, _ => none
  | _ => none
def cS (T : Tab) (N : List Str) (m : Nat) (sc : Scope) : Nat → Stmt → Option IS
  | 0, _ => none
  | n + 1, st => match st with
    | .Assign [.Name x p'] a _ => if asgOk a then match nameIx N sc none (.Name x p'), cE T N m none sc a with
      | some i, some ia => some (.asg i ia)
      | _, _ => none
      else none
    | .Assign [.Attribute o f _] a _ => if T.flds.contains f then match cE T N m none sc o, cE T N m none sc a with
      | some io, some ia => some (.asgFld io f ia)
      | _, _ => none
      else none
    | .Assign [.Subscript o k _] a _ => if isSlice k then none else match cE T N m none sc o, cE T N m none sc k, cE T N m none sc a with
      | some io, some ik, some ia => some (.asgSub io ik ia)
      | _, _, _ => none
    | .Assign [.Tuple ts _ _] (.Tuple es _ _) _ => match mapE (cE T N m none sc) es, swO ts es sc with
      | some irs, some none => match namesIx N sc none ts with
        | some is => if decide (is.length ≤ line) then some (.asgs is irs) else none
        | none => none
      | some irs, some (some ns) => match parIx N sc ns ts with
        | some is => some (.asgs is irs)
        | none => none
      | _, _ => none
    | .Assign [.Tuple ts k p'] a _ => if isTupE a then none else match cT N sc none (.Tuple ts k p'), cE T N m none sc a with
      | some t, some ia => some (.asgT t ia)
      | _, _ => none
    | .AugAssign (.Name x p') op a _ => match nameIx N sc none (.Name x p'), cE T N m none sc a with
      | some i, some ia => some (.aug i op ia)
      | _, _ => none
    | .AugAssign (.Attribute o f _) op a _ => if T.flds.contains f then match cE T N m none sc o, cE T N m none sc a with
      | some io, some ia => some (.augFld io f op ia)
      | _, _ => none
      else none
    | .Expr a _ => if isComp a then none else (cE T N m none sc a).map .expr
    | .Return none _ => some .retN
    | .Return (some a) _ => (cE T N m none sc a).map .ret
    | .Pass _ => some .pass
    | .Break _ => some .brk
    | .Continue _ => some .cnt
    | .If t a b _ => match cE T N m none sc t, mapS (cS T N m sc n) a, mapS (cS T N m sc n) b with
      | some it, some ia, some ib => some (.ite it ia ib)
      | _, _, _ => none
    | .While t b [] _ => match cE T N m none sc t, mapS (cS T N m sc n) b with
      | some it, some ib => some (.whl it ib)
      | _, _ => none
    | .For tg iter b [] _ => if isSetD iter then none else match cIt (cE T N m none sc) T sc tg iter, cT N sc none tg, mapS (cS T N m sc n) b with
      | some (k, src), some t, some ib => some (.for t k src ib)
      | _, _, _ => none
    | .Raise _ _ _ => some .stuck
    | _ => none
end Ev
namespace Ev
open PySem PySem.Spec L2
section
variable {T : Tab} {N : List Str} {sc : Scope} {X : Cx} {W : WX} {w : Wd} {c : Ctx} {f : Stmt → Option IS}
theorem mapS_ok (hf : ∀ st ir, f st = some ir → SndS X W w c st ir) : ∀ {sts : List Stmt} {irs : List IS}, mapS f sts = some irs → SndSs X W w c sts irs
  | [], irs, h => by simp only [mapS, Option.some.injEq] at h; subst h; exact sss_nil
  | s :: ss, irs, h => by
    simp only [mapS] at h
    split at h
    · rename_i a ha
      split at h
      · rename_i r hr
        cases h
        exact sss_cons (hf _ _ ha) (mapS_ok hf hr)
      · cases h
    · cases h
theorem lc_inv {m : Nat} (O : OkX T N none sc X W w c) {elt : Expr} {gs : List Comprehension} {scope : Scope} {pos : Pos} {ir : IE} (h : cE T N m none sc (.ListComp elt gs scope pos) = some ir) : ∃ tg iter ifs t k src iifs ie, gs = [⟨tg, iter, ifs, 0⟩] ∧ ir = .lc ((ownOf N scope).map (·.2)) t k src iifs ie ∧ LcOk X W w c N tg iter ifs elt scope t k src iifs ie := by
  cases m with
  | zero => simp [cE] at h
  | succ n =>
    have ih := cE_ok T N w c n
    unfold cE at h
    split at h
    all_goals first
      | (rename_i heq; cases heq; done)
      | skip
    · rename_i heq
      cases heq
      split at h
      · rename_i hb
        split at h
        · rename_i k src t iifs ie h1 h2 h3 h4
          cases h
          exact ⟨_, _, _, t, k, src, iifs, ie, rfl, rfl, lc_parts ih O hb h1 h2 h3 h4⟩
        · cases h
      · cases h
    · cases h
theorem len_of_nameIx {e : Expr} {i : Nat} (O : OkX T N none sc X W w c) {x : Str} {p : Pos} (h : nameIx N sc none (.Name x p) = some i) : X.N[i]? = some x ∧ Loc X.env.scope x ∧ (X.fn x = true ∨ X.env.scope.names.lookup x = some .local) := by
  obtain ⟨y, p', e, h1, h2, h3⟩ := nameIx_ok O h
  cases e
  exact ⟨h1, h2, h3⟩
theorem isLocal_of (O : OkX T N none sc X W w c) {x : Str} (h : isLocal sc x = true) : X.env.scope.names.lookup x = some .local := by
  rw [O.hs]; exact of_decide_eq_true h
theorem cS_ok (m : Nat) (O : OkX T N none sc X W w c) (hpo : PassesOwn (model X.prog X.w) X.A X.env X.xe) : ∀ (n : Nat) (st : Stmt) (ir : IS), cS T N m sc n st = some ir → SndS X W w c st ir
  | 0, st, ir, h => by simp [cS] at h
  | n + 1, st, ir, h => by
    have ih := cS_ok m O hpo n
    have hf := cE_ok T N w c m none sc X W O
    unfold cS at h
    split at h
    · rename_i x p' a p
      split at h
      · rename_i hc
        split at h
        · rename_i i ia hi ha
          cases h
          obtain ⟨h1, h2, h3⟩ := len_of_nameIx (e := a) O hi
          refine ss_asg ?_
          cases hcm : isComp a with
          | false => exact sndv_of O.g.nd h1 h2 (hf _ _ ha) (swaps_of hcm _ _ _) h3
          | true =>
            cases a <;> first | (simp [asgOk, isComp] at hc hcm; done) | skip
            rename_i elt gs scope pos
            have sw := swaps_lc (elt := elt) (gs := gs) (scope := scope) (p := pos) (pos := p') (t := x) (l := p.line) O.hs O.kd
            cases hb : lcSwap sc scope x p' pos with
            | false => rw [hb] at sw; exact sndv_of O.g.nd h1 h2 (hf _ _ ha) sw h3
            | true =>
              rw [hb] at sw
              obtain ⟨tg, iter, ifs, t, k, src, iifs, ie, rfl, rfl, P⟩ := lc_inv O ha
              have hl : X.env.scope.names.lookup x = some .local := by
                rw [O.hs]
                unfold lcSwap at hb
                simp only [Bool.and_eq_true] at hb
                exact eq_of_beq hb.1.1
              exact sndv_lc O.g h1 hl sw P.hi P.ok P.ht P.hf P.he P.hs
        · cases h
      · cases h
    · rename_i o f p1 a p
      split at h
      · rename_i hc
        split at h
        · rename_i io ia ho ha
          cases h
          exact ss_asgFld O.g (O.s.flds f (by simpa using hc)) (hf _ _ ho) (hf _ _ ha) swaps_attr
        · cases h
      · cases h
    · rename_i o k p1 a p
      split at h
      · cases h
      · rename_i hk
        split at h
        · rename_i io ik ia ho hk2 ha
          cases h
          exact ss_asgSub O.g (hf _ _ ho) (hf _ _ hk2) (hf _ _ ha) (assign_sub (by simpa using hk))
        · cases h
    · rename_i ts k1 p1 es k2 p2 p
      split at h
      · rename_i irs he hs
        have sw := swO_ok (k := k1) (k2 := k2) (p := p1) (p2 := p2) O.hs O.kd hs
        split at h
        · rename_i is hi
          split at h
          · rename_i hl
            cases h
            exact ss_asgsT O.g (namesIx_ok O hi) (mapE_sndp hf he) swaps_tup sw (of_decide_eq_true hl)
          · cases h
        · cases h
      · rename_i irs ns he hs
        have sw := swO_ok (k := k1) (k2 := k2) (p := p1) (p2 := p2) O.hs O.kd hs
        have sp := mapE_sndp hf he
        split at h
        · rename_i is hi
          cases h
          have l2 : es.length = ts.length := by
            unfold swO at hs
            split at hs
            · cases hs
            · rename_i c1
              simp only [Bool.or_eq_true, not_or] at c1
              have := c1.2
              simpa using this
          unfold parIx at hi
          split at hi
          · rename_i x px y py
            split at hi
            · rename_i i j h1 h2
              split at hi
              · rename_i hc
                simp only [Bool.and_eq_true, decide_eq_true_eq] at hc
                cases hi
                obtain ⟨⟨⟨c1, c2⟩, c3⟩, rfl⟩ := hc
                match es, l2 with
                | [a, b], _ => exact ss_par2 O.g (by rw [O.nN]; exact ixOf_get h1) (by rw [O.nN]; exact ixOf_get h2) c1 (isLocal_of O c2) (isLocal_of O c3) sp sw
              · cases hi
            · cases hi
          · rename_i x px y py z pz
            split at hi
            · rename_i i j l h1 h2 h3
              split at hi
              · rename_i hc
                simp only [Bool.and_eq_true, decide_eq_true_eq] at hc
                cases hi
                obtain ⟨⟨⟨⟨⟨⟨c1, c2⟩, c3⟩, c4⟩, c5⟩, c6⟩, rfl⟩ := hc
                match es, l2 with
                | [a, b, d], _ => exact ss_par3 O.g (by rw [O.nN]; exact ixOf_get h1) (by rw [O.nN]; exact ixOf_get h2) (by rw [O.nN]; exact ixOf_get h3) c1 c2 c3 (isLocal_of O c4) (isLocal_of O c5) (isLocal_of O c6) sp sw
              · cases hi
            · cases hi
          · cases hi
        · cases h
      · cases h
    · rename_i ts k1 p1 a p _
      split at h
      · cases h
      · rename_i hc
        split at h
        · rename_i t ia ht ha
          cases h
          exact ss_asgT (hf _ _ ha) (cT_ok O ht) swaps_tup (swapped_not (by simpa using hc)) rfl
        · cases h
    · rename_i x p' op a p
      split at h
      · rename_i i ia hi ha
        cases h
        obtain ⟨h1, h2, h3⟩ := len_of_nameIx (e := a) O hi
        exact ss_aug O.g.nd h1 h2 h3 (hf _ _ ha)
      · cases h
    · rename_i o f p1 op a p
      split at h
      · rename_i hc
        split at h
        · rename_i io ia ho ha
          cases h
          exact ss_augFld O.g (O.s.flds f (by simpa using hc)) (hf _ _ ho) (hf _ _ ha)
        · cases h
      · cases h
    · rename_i a p
      split at h
      · cases h
      · rename_i hc
        cases q : cE T N m none sc a with
        | none => rw [q] at h; cases h
        | some ia => rw [q] at h; cases h; exact ss_expr (hf _ _ q) (swaps_of (by simpa using hc) _ _ _)
    · cases h; exact ss_retN
    · rename_i a p
      cases q : cE T N m none sc a with
      | none => rw [q] at h; cases h
      | some ia => rw [q] at h; cases h; exact ss_ret (hf _ _ q)
    · cases h; exact ss_pass
    · cases h; exact ss_brk
    · cases h; exact ss_cnt
    · split at h
      · rename_i it ia ib h1 h2 h3
        cases h
        exact ss_if (hf _ _ h1) (mapS_ok ih h2) (mapS_ok ih h3)
      · cases h
    · split at h
      · rename_i it ib h1 h2
        cases h
        exact ss_whl hpo (hf _ _ h1) (mapS_ok ih h2)
      · cases h
    · split at h
      · cases h
      · rename_i hs
        split at h
        · rename_i k src t ib h1 h2 h3
          cases h
          exact ss_for hpo O.g.calm (cIt_ok O hf h1) (cT_ok O h2) (mapS_ok ih h3) (folded_of (by simpa using hs) X.env)
        · cases h
    · cases h; exact ss_never (k := "")
    · cases h
end
end Ev
namespace Ev
open PySem PySem.Spec L2
structure DefT where
  cls : Option Str
  nm : Str
  params : Arguments
  body : List Stmt
  scope : Scope
  N : List Str
  ps : List Str
  rb : List Bool
def DefT.id (d : DefT) : FnId := match d.cls with
  | none => .fn d.nm
  | some c => .me c d.nm
def DefT.at_ (d : DefT) : Str × Option Str := match d.cls with
  | none => (d.nm, none)
  | some c => (c, some d.nm)
def DefT.qual (d : DefT) : Str := match d.cls with
  | none => d.nm
  | some c => c ++ "." ++ d.nm
def DefT.he (d : DefT) : He.DefD := ⟨d.at_, d.nm, d.qual, d.params, d.body, d.scope, [], []⟩
abbrev Prog : Type := List (DefT × FnD)
def prgOf (T : Tab) (L : Prog) (G : List (Str × Val)) : Prg where
  glo n := G.lookup n
  fns id := (L.find? fun p => decide (p.1.id = id)).map (·.2)
  exf n := T.xcs.lookup n
  tab _ := []
  xsub := T.xsub
def dvVal : Val → Option He.Dv
  | .int i => some (.int i)
  | .str s => some (.str s)
  | .bl b => some (.bl b)
  | .non => some .non
  | _ => none
def dvVals : List Val → Option (List He.Dv)
  | [] => some []
  | x :: xs => match dvVal x, dvVals xs with
    | some d, some ds => some (d :: ds)
    | _, _ => none
def gloB (K : PySem.W.Frag) (n : Str) : Val → Bool
  | .int i => (He.Fa.int n i).ok K
  | .str z => (He.Fa.str n z).ok K
  | .tup xs => (He.Fa.glo n).ok K && match dvVals xs with
    | some ds => He.tupB K n ds
    | none => false
  | .gl m => decide (m = n) && (He.Fa.glo n).ok K
  | _ => false
def tyNames : List String := ["int", "str", "bool", "list", "tuple", "dict"]
def tagNames : List String := ["NoneType", "bool", "int", "str", "list", "tuple", "dict"]
def oexB (K : PySem.W.Frag) (C : Addr) : Bool := (match K.lookup C with
  | some ⟨.type "type", _, .cls cd, sl⟩ => (match cd.mro, sl.toList with
    | .ref C' :: bm, [_, _, _, _, some (.builtin n), _] => C' == C && n == "ValueError.__new__" && !cd.hasDel && cd.hasDict && PySem.HandSPX.refsVE bm
    | _, _ => false)
  | _ => false) && (decide (PySem.W.findIn K (.ref C) "__setattr__" = some (some (.builtin "object.__setattr__"))) && (decide (PySem.W.subIn K (.ref C) (.type "BaseException") = some true) && (decide (PySem.W.typeIn K (.ref C) = some (.type "type")) && PySem.W.keepIn K (.ref C))))
theorem oexB_ok {K : PySem.W.Frag} {C : Addr} (h : oexB K C = true) : OexC K C := by
  unfold oexB at h
  obtain ⟨h, h2⟩ := He.ba h
  obtain ⟨h2, h3⟩ := He.ba h2
  obtain ⟨h3, h4⟩ := He.ba h3
  obtain ⟨h4, h5⟩ := He.ba h4
  refine ⟨?_, of_decide_eq_true h2, of_decide_eq_true h3, of_decide_eq_true h4, h5⟩
  split at h
  · rename_i dd cd sl ho
    split at h
    · rename_i C' bm k0 k1 k2 k3 n k5 hm hs
      simp only [Bool.and_eq_true, beq_iff_eq, Bool.not_eq_true'] at h
      obtain ⟨⟨⟨⟨rfl, rfl⟩, hd⟩, hh⟩, hv⟩ := h
      obtain ⟨nm, bs, mro, ns, qn, hd', sn, sub, ab, col, del⟩ := cd
      dsimp only at hm hd hh
      subst hm hd hh
      have e : sl = #[k0, k1, k2, k3, some (.builtin "ValueError.__new__"), k5] := by
        obtain ⟨l⟩ := sl
        simp only at hs
        rw [hs]
      subst e
      exact ⟨nm, qn, ns, bs, bm, sn, sub, ab, col, dd, k0, k1, k2, k3, k5, ho, hv⟩
    · cases h
  · cases h
def excB (K : PySem.W.Frag) (D : Addr) : Bool :=
  decide (PySem.W.findIn K (.ref D) "__class__" = some (some (.builtin "object.__class__"))) && (decide (PySem.W.specialIn K (.builtin "object.__class__") "__get__" = some (some (.builtin "getset_descriptor.__get__"))) &&
  (decide (PySem.W.takesIn K (.builtin "object.__class__") = some true) && decide (PySem.W.mroIn K D (.type "object") = some true)))
theorem excB_ok {K : PySem.W.Frag} {D : Addr} (x : XfC K D) (h : excB K D = true) : ExcC K D := by
  unfold excB at h
  obtain ⟨h1, h⟩ := He.ba h
  obtain ⟨h2, h⟩ := He.ba h
  obtain ⟨h3, h4⟩ := He.ba h
  exact ⟨x.ga, x.gg, x.exC, x.hdC, of_decide_eq_true h1, of_decide_eq_true h2, of_decide_eq_true h3, of_decide_eq_true h4⟩
def pinB (K : PySem.W.Frag) (D : Addr) : Bool :=
  decide (PySem.W.specialIn K (.ref D) "__getattribute__" = some (some (.builtin "type.__getattribute__"))) && (PySem.W.readsIn K D (.type "type") && (match PySem.W.findCls K (.ref D) (.type "type") "__init__" with
  | some (.val u) => decide (u = .builtin "ValueError.__init__")
  | _ => false))
theorem pinB_ok {K : PySem.W.Frag} {D : Addr} (h : pinB K D = true) : PinF K D := by
  unfold pinB at h
  obtain ⟨h1, h⟩ := He.ba h
  obtain ⟨h2, h3⟩ := He.ba h
  refine ⟨of_decide_eq_true h1, h2, ?_⟩
  split at h3
  · rename_i u e
    rw [e, of_decide_eq_true h3]
  · cases h3
def kitB (T : Tab) (K : PySem.W.Frag) (k d : Str) (u : Value) : Bool := match T.xsub k d with
  | some b => decide (PySem.W.kitOne K (.ref (He.ga K k)) u = some b)
  | none => true
def xbTab : List (Str × String) := [("ValueError", "ValueError")]
theorem xbTab_ok {d : Str} {n : String} (h : xbTab.lookup d = some n) : bootBuiltins d = some (.type n) := by
  unfold xbTab at h
  simp only [List.lookup] at h
  split at h
  · cases h; rename_i e; rw [eq_of_beq e]; decide +kernel
  · cases h
theorem lookup_mem {α : Type} {n : Str} {x : α} : ∀ {l : List (Str × α)}, l.lookup n = some x → ∃ _ : Unit, (n, x) ∈ l
  | [], h => by simp at h
  | (m, y) :: l, h => by
    simp only [List.lookup] at h
    split at h
    · rename_i e
      cases h
      rw [eq_of_beq e]
      exact ⟨(), List.mem_cons_self⟩
    · obtain ⟨_, z⟩ := lookup_mem h
      exact ⟨(), List.mem_cons_of_mem _ z⟩
def xcB (T : Tab) (K : PySem.W.Frag) (q : Str × List Str) : Bool :=
  (He.Fa.glo q.1).ok K && (oexB K (He.ga K q.1) && (xfB K (He.ga K q.1) && (excB K (He.ga K q.1) && (decide (PySem.W.findIn K (.ref (He.ga K q.1)) "__init__" = some (some (.ref (He.ma K (He.ga K q.1) "__init__")))) &&
  (decide (PySem.W.typeIn K (.ref (He.ma K (He.ga K q.1) "__init__")) = some (.type "function")) && ((q.2.all fun f => decide (PySem.W.findIn K (.ref (He.ga K q.1)) f = some none)) && ((T.xfl.all fun f => decide (PySem.W.findIn K (.ref (He.ga K q.1)) f = some none)) &&
  ((T.xown.all fun d => kitB T K q.1 d (.ref (He.ga K d))) && T.xblt.all fun d => match xbTab.lookup d with
    | some n => kitB T K q.1 d (.type n)
    | none => false))))))))
def xB (T : Tab) (K : PySem.W.Frag) : Bool := (T.xcs.isEmpty || ((He.Fa.glo T.xpar).ok K && pinB K (He.ga K T.xpar))) && ((T.xcs.all fun q => xcB T K q) && ((T.xown.all fun d => (He.Fa.glo d).ok K) && T.xblt.all fun d => (xbTab.lookup d).isSome))
structure XChk (T : Tab) (K : PySem.W.Frag) : Prop where
  par : T.xcs ≠ [] → (He.Fa.glo T.xpar).ok K = true ∧ PinF K (He.ga K T.xpar)
  made : ∀ q ∈ T.xcs, (He.Fa.glo q.1).ok K = true ∧ XMk K (He.ga K q.1) (He.ma K (He.ga K q.1) "__init__") ∧ ExcC K (He.ga K q.1) ∧ XfC K (He.ga K q.1)
  no : ∀ q ∈ T.xcs, ∀ f, f ∈ q.2 ∨ f ∈ T.xfl → PySem.W.findIn K (.ref (He.ga K q.1)) f = some none
  own : ∀ d ∈ T.xown, (He.Fa.glo d).ok K = true
  kow : ∀ q ∈ T.xcs, ∀ d ∈ T.xown, ∀ b, T.xsub q.1 d = some b → PySem.W.kitOne K (.ref (He.ga K q.1)) (.ref (He.ga K d)) = some b
  blt : ∀ d ∈ T.xblt, ∃ n : String, xbTab.lookup d = some n ∧ ∀ q ∈ T.xcs, ∀ b, T.xsub q.1 d = some b → PySem.W.kitOne K (.ref (He.ga K q.1)) (.type n) = some b
theorem kitB_ok {T : Tab} {K : PySem.W.Frag} {k d : Str} {u : Value} {b : Bool} (h : kitB T K k d u = true) (e : T.xsub k d = some b) : PySem.W.kitOne K (.ref (He.ga K k)) u = some b := by
  unfold kitB at h
  rw [e] at h
  exact of_decide_eq_true h
theorem xB_ok {T : Tab} {K : PySem.W.Frag} (h : xB T K = true) : XChk T K := by
  unfold xB at h
  obtain ⟨h1, h⟩ := He.ba h
  obtain ⟨h2, h⟩ := He.ba h
  obtain ⟨h3, h4⟩ := He.ba h
  have h2 := List.all_eq_true.mp h2
  have h3 := List.all_eq_true.mp h3
  have h4 := List.all_eq_true.mp h4
  have P : ∀ q ∈ T.xcs, (He.Fa.glo q.1).ok K = true ∧ OexC K (He.ga K q.1) ∧ XfC K (He.ga K q.1) ∧ excB K (He.ga K q.1) = true ∧ PySem.W.findIn K (.ref (He.ga K q.1)) "__init__" = some (some (.ref (He.ma K (He.ga K q.1) "__init__"))) ∧
      PySem.W.typeIn K (.ref (He.ma K (He.ga K q.1) "__init__")) = some (.type "function") ∧ (∀ f ∈ q.2, PySem.W.findIn K (.ref (He.ga K q.1)) f = some none) ∧ (∀ f ∈ T.xfl, PySem.W.findIn K (.ref (He.ga K q.1)) f = some none) ∧
      (∀ d ∈ T.xown, kitB T K q.1 d (.ref (He.ga K d)) = true) ∧ ∀ d ∈ T.xblt, (match xbTab.lookup d with
        | some n => kitB T K q.1 d (.type n)
        | none => false) = true := fun q hq => by
    have z := h2 q hq
    unfold xcB at z
    obtain ⟨a1, z⟩ := He.ba z
    obtain ⟨a2, z⟩ := He.ba z
    obtain ⟨a3, z⟩ := He.ba z
    obtain ⟨a4, z⟩ := He.ba z
    obtain ⟨a5, z⟩ := He.ba z
    obtain ⟨a6, z⟩ := He.ba z
    obtain ⟨a7, z⟩ := He.ba z
    obtain ⟨a8, z⟩ := He.ba z
    obtain ⟨a9, b1⟩ := He.ba z
    exact ⟨a1, oexB_ok a2, xfB_ok a3, a4, of_decide_eq_true a5, of_decide_eq_true a6, fun f hf => of_decide_eq_true (List.all_eq_true.mp a7 f hf), fun f hf => of_decide_eq_true (List.all_eq_true.mp a8 f hf), List.all_eq_true.mp a9, List.all_eq_true.mp b1⟩
  refine ⟨fun ne => ?_, fun q hq => ?_, fun q hq f hf => ?_, h3, fun q hq d hd b e => ?_, fun d hd => ?_⟩
  · rw [Bool.or_eq_true] at h1
    rcases h1 with z | z
    · exact absurd (List.isEmpty_iff.mp z) ne
    · obtain ⟨z1, z2⟩ := He.ba z
      exact ⟨z1, pinB_ok z2⟩
  · obtain ⟨a1, a2, a3, a4, a5, a6, _⟩ := P q hq
    exact ⟨a1, ⟨a2, a5, a6⟩, excB_ok a3 a4, a3⟩
  · obtain ⟨_, _, _, _, _, _, a7, a8, _⟩ := P q hq
    rcases hf with hf | hf
    · exact a7 f hf
    · exact a8 f hf
  · obtain ⟨_, _, _, _, _, _, _, _, a9, _⟩ := P q hq
    exact kitB_ok (a9 d hd) e
  · obtain ⟨n, hn⟩ := Option.isSome_iff_exists.mp (h4 d hd)
    refine ⟨n, hn, fun q hq b e => ?_⟩
    obtain ⟨_, _, _, _, _, _, _, _, _, a⟩ := P q hq
    have := a d hd
    rw [hn] at this
    exact kitB_ok this e
def chkK (T : Tab) (L : Prog) (G : List (Str × Val)) (K : PySem.W.Frag) : Bool :=
  (T.fns.all fun f => (He.Fa.glo f).ok K) &&
  (T.cls.all fun k => (He.Fa.glo k).ok K && ((He.Fa.cls k).ok K && ((He.Fa.mkr k).ok K && ((T.flds.all fun f => (He.Fa.noat k f).ok K) &&
    (decide (PySem.W.findIn K (.ref (He.ga K k)) "__class__" = some (some (.builtin "object.__class__"))) && (decide (PySem.W.mroIn K (He.ga K k) (.type "object") = some true) &&
    ((T.cls.all fun d => decide (PySem.W.kitOne K (.ref (He.ga K k)) (.ref (He.ga K d)) = some (k == d))) &&
    ((tyNames.all fun n => decide (PySem.W.kitOne K (.ref (He.ga K k)) (.type n) = some false)) && (tagNames.all fun n => decide (PySem.W.kitOne K (.type n) (.ref (He.ga K k)) = some false)))))))))) &&
  (T.free.all fun b => (He.Fa.free b).ok K) &&
  (L.all fun p => match p.1.cls with
    | none => true
    | some k => (He.Fa.meth k p.1.nm).ok K) &&
  (G.all fun q => gloB K q.1 q.2) &&
  (decide (PySem.W.specialIn K (.builtin "object.__class__") "__get__" = some (some (.builtin "getset_descriptor.__get__"))) && decide (PySem.W.takesIn K (.builtin "object.__class__") = some true)) && xB T K
def wdOf (T : Tab) (G : List (Str × Val)) (K : PySem.W.Frag) : Wd where
  K := K
  gf n := match G.lookup n with
    | some (.gl _) => some (He.ga K n)
    | _ => none
  cf c := if c ∈ T.cls then some (He.ga K c) else none
  flds := T.flds
  xf c := if c ∈ T.xcs.map (·.1) then some (He.ga K c) else none
/-- what the lists must be, whatever the heap -/
def idsB (T : Tab) (L : Prog) (G : List (Str × Val)) : Bool :=
  decide ((L.map fun p => p.1.id).Nodup) && (T.fns.all fun f => decide (FnId.fn f ∈ L.map fun p => p.1.id)) && (T.cls.all fun k => decide (FnId.me k "__init__" ∈ L.map fun p => p.1.id)) &&
  (T.glo.all fun n => decide (n ∈ G.map (·.1))) && decide ((G.map (·.1)).Nodup)
def scB (d : DefT) : Bool :=
  decide (d.scope.kind = .function) && !d.scope.isCoroutine && !d.scope.isGenerator && decide d.N.Nodup && decide (d.N.take d.ps.length = d.ps) && (d.ps.all fun x => locB d.scope x) && d.scope.names.all fun y => !decide (y.2 = .free)
theorem scB_ok {d : DefT} (h : scB d = true) : FnScope d.N d.ps d.scope := by
  unfold scB at h
  simp only [Bool.and_eq_true, decide_eq_true_eq, Bool.not_eq_true', List.all_eq_true, decide_eq_false_iff_not] at h
  obtain ⟨⟨⟨⟨⟨⟨h1, h2⟩, h3⟩, h4⟩, h5⟩, h6⟩, h7⟩ := h
  exact ⟨h1, h2, h3, h4, h5, fun x hx => loc_of (h6 x hx), h7⟩
/-- how much fuel the compiler has -/
abbrev cFuel : Nat := 40
structure DefOk (T : Tab) (p : DefT × FnD) : Prop where
  comp : mapS (cS T p.1.N cFuel p.1.scope cFuel) p.1.body = some p.2.body
  np : p.2.np = p.1.ps.length
  n : p.2.n = p.1.N.length
  rb : p.2.rb = p.1.rb
  sc : scB p.1 = true
  bnd : ∀ (kV doc pm : Value) (an : Option Addr) (cdv ct : Value) (us : List Value), us.length = p.1.ps.length → bindArgs (PySem.W.fnOf p.1.nm p.1.qual p.1.params p.1.body p.1.scope .none kV doc pm an cdv ct) ⟨us, []⟩ = pure (p.1.ps.zip us)
inductive DefsOk (T : Tab) : Prog → Prop
  | nil : DefsOk T []
  | cons {p : DefT × FnD} {r : Prog} : DefOk T p → DefsOk T r → DefsOk T (p :: r)
theorem DefsOk.mem {T : Tab} : ∀ {L : Prog} {p : DefT × FnD}, DefsOk T L → p ∈ L → DefOk T p
  | _, _, .cons h r, m => by
    rcases List.mem_cons.mp m with z | z
    · subst z; exact h
    · exact DefsOk.mem r z
section
variable {T : Tab} {L : Prog} {G : List (Str × Val)} {K : PySem.W.Frag}
theorem find_of : ∀ {L : Prog} {p : DefT × FnD}, (L.map fun p => p.1.id).Nodup → p ∈ L → (L.find? fun q => decide (q.1.id = p.1.id)) = some p
  | [], p, _, h => by simp at h
  | q :: L, p, nd, h => by
    rw [List.map_cons, List.nodup_cons] at nd
    rcases List.mem_cons.mp h with z | z
    · subst z; simp [List.find?]
    · have hne : q.1.id ≠ p.1.id := fun e => nd.1 (by rw [e]; exact List.mem_map.mpr ⟨p, z, rfl⟩)
      simp only [List.find?, hne, decide_false]
      exact find_of nd.2 z
theorem dvVals_ok {F : Hp} {w : Wd} (hK : w.K = K) : ∀ {xs : List Val} {ds : List He.Dv}, dvVals xs = some ds → Dens w F (ds.map (He.Dv.v K)) xs
  | [], ds, h => by simp only [dvVals, Option.some.injEq] at h; subst h; exact .nil
  | x :: xs, ds, h => by
    simp only [dvVals] at h
    split at h
    · rename_i d ds' h1 h2
      cases h
      refine .cons ?_ (dvVals_ok hK h2)
      cases x <;> simp only [dvVal, Option.some.injEq] at h1 <;> first | contradiction | skip
      · subst h1; exact .non
      · subst h1; exact .bl _
      · subst h1; exact .int _
      · subst h1; exact .str _
    · cases h
theorem gloB_ok {h : Heap} {mg : Str → Option Value} (X : K.In h) (Gm : h.Ns mainGlobals mg) {n : Str} {x : Val} (hx : G.lookup n = some x) (b : gloB K n x = true) : ∃ u v, mg n = some u ∧ RelV v u ∧ ∀ F, Den (wdOf T G K) F v x := by
  cases x with
  | int i =>
    obtain ⟨t, ht⟩ := He.int_ok X Gm b
    exact ⟨_, .int i, ht, ⟨t, rfl⟩, fun F => .int i⟩
  | str z =>
    obtain ⟨t, ht⟩ := He.str_ok X Gm b
    exact ⟨_, .str z, ht, ⟨t, rfl⟩, fun F => .str z⟩
  | tup xs =>
    simp only [gloB] at b
    obtain ⟨b1, b2⟩ := He.ba b
    split at b2
    · rename_i ds hd
      refine ⟨_, .ref (He.ga K n), He.glo_ok X Gm b1, rfl, fun F => ?_⟩
      exact .tup (He.tupB_ok b2 F) (dvVals_ok rfl hd)
    · cases b2
  | gl m =>
    simp only [gloB] at b
    obtain ⟨b1, b2⟩ := He.ba b
    have e : m = n := of_decide_eq_true b1
    subst e
    exact ⟨_, .ref (He.ga K m), He.glo_ok X Gm b2, rfl, fun F => .gl (by simp [wdOf, hx])⟩
  | _ => cases b
theorem mem_of_lookup' {α : Type} {n : Str} {x : α} : ∀ {l : List (Str × α)}, l.lookup n = some x → (n, x) ∈ l
  | [], h => by simp at h
  | (m, y) :: l, h => by
    simp only [List.lookup] at h
    split at h
    · rename_i e
      cases h
      rw [eq_of_beq e]
      exact List.mem_cons_self
    · exact List.mem_cons_of_mem _ (mem_of_lookup' h)
theorem lookup_of_mem {α : Type} {n : Str} : ∀ {l : List (Str × α)}, n ∈ l.map (·.1) → ∃ x, l.lookup n = some x
  | [], h => by simp at h
  | (m, y) :: l, h => by
    simp only [List.lookup]
    split
    · exact ⟨y, rfl⟩
    · rename_i e
      refine lookup_of_mem ?_
      rcases List.mem_cons.mp h with z | z
      · rw [z] at e; simp at e
      · exact z
structure ChkK (T : Tab) (L : Prog) (G : List (Str × Val)) (K : PySem.W.Frag) : Prop where
  fns : ∀ f ∈ T.fns, (He.Fa.glo f).ok K = true
  glo : ∀ k ∈ T.cls, (He.Fa.glo k).ok K = true
  cls : ∀ k ∈ T.cls, (He.Fa.cls k).ok K = true
  mkr : ∀ k ∈ T.cls, (He.Fa.mkr k).ok K = true
  noat : ∀ k ∈ T.cls, ∀ f ∈ T.flds, (He.Fa.noat k f).ok K = true
  isf : IsF (wdOf T G K)
  free : ∀ b ∈ T.free, (He.Fa.free b).ok K = true
  meth : ∀ p ∈ L, ∀ k, p.1.cls = some k → (He.Fa.meth k p.1.nm).ok K = true
  con : ∀ q ∈ G, gloB K q.1 q.2 = true
  xc : XChk T K
theorem chkK_ok (h : chkK T L G K = true) : ChkK T L G K := by
  unfold chkK at h
  obtain ⟨h, h7⟩ := He.ba h
  obtain ⟨h, h6⟩ := He.ba h
  obtain ⟨h, h5⟩ := He.ba h
  obtain ⟨h, h4⟩ := He.ba h
  obtain ⟨h, h3⟩ := He.ba h
  obtain ⟨h1, h2⟩ := He.ba h
  have h2 := List.all_eq_true.mp h2
  obtain ⟨s1, s2⟩ := He.ba h6
  have cf : ∀ c C, (wdOf T G K).cf c = some C → c ∈ T.cls ∧ C = He.ga K c := fun c C hc => by
    simp only [wdOf] at hc
    split at hc
    · rename_i hm; exact ⟨hm, by simpa using hc.symm⟩
    · cases hc
  have P : ∀ k ∈ T.cls, (He.Fa.glo k).ok K = true ∧ (He.Fa.cls k).ok K = true ∧ (He.Fa.mkr k).ok K = true ∧ (∀ f ∈ T.flds, (He.Fa.noat k f).ok K = true) ∧ PySem.W.findIn K (.ref (He.ga K k)) "__class__" = some (some (.builtin "object.__class__")) ∧ PySem.W.mroIn K (He.ga K k) (.type "object") = some true ∧
      (∀ d ∈ T.cls, PySem.W.kitOne K (.ref (He.ga K k)) (.ref (He.ga K d)) = some (k == d)) ∧ (∀ n ∈ tyNames, PySem.W.kitOne K (.ref (He.ga K k)) (.type n) = some false) ∧ ∀ n ∈ tagNames, PySem.W.kitOne K (.type n) (.ref (He.ga K k)) = some false := fun k hk => by
    obtain ⟨a1, b⟩ := He.ba (h2 k hk)
    obtain ⟨a2, b⟩ := He.ba b
    obtain ⟨a3, b⟩ := He.ba b
    obtain ⟨a4, b⟩ := He.ba b
    obtain ⟨a5, b⟩ := He.ba b
    obtain ⟨a6, b⟩ := He.ba b
    obtain ⟨a7, b⟩ := He.ba b
    obtain ⟨a8, a9⟩ := He.ba b
    exact ⟨a1, a2, a3, List.all_eq_true.mp a4, of_decide_eq_true a5, of_decide_eq_true a6, fun d hd => of_decide_eq_true (List.all_eq_true.mp a7 d hd), fun n hn => of_decide_eq_true (List.all_eq_true.mp a8 n hn), fun n hn => of_decide_eq_true (List.all_eq_true.mp a9 n hn)⟩
  refine ⟨List.all_eq_true.mp h1, fun k hk => (P k hk).1, fun k hk => (P k hk).2.1, fun k hk => (P k hk).2.2.1, fun k hk => (P k hk).2.2.2.1, ⟨fun c C hc => ?_, ⟨of_decide_eq_true s1, of_decide_eq_true s2⟩, fun c C d D hc hd => ?_, fun c C t n hc ht => ?_, fun c C t n hc ht => ?_⟩, List.all_eq_true.mp h3, fun p hp k hk => ?_, List.all_eq_true.mp h5, xB_ok h7⟩
  · obtain ⟨m, rfl⟩ := cf c C hc
    exact ⟨(P c m).2.2.2.2.1, (P c m).2.2.2.2.2.1⟩
  · obtain ⟨m, rfl⟩ := cf c C hc
    obtain ⟨m2, rfl⟩ := cf d D hd
    exact (P c m).2.2.2.2.2.2.1 d m2
  · obtain ⟨m, rfl⟩ := cf c C hc
    refine (P c m).2.2.2.2.2.2.2.1 n ?_
    cases t <;> simp only [tyN, Option.some.injEq] at ht <;> first | contradiction | (subst ht; decide)
  · obtain ⟨m, rfl⟩ := cf c C hc
    refine (P c m).2.2.2.2.2.2.2.2 n ?_
    cases t <;> simp only [tagN, Option.some.injEq] at ht <;> first | contradiction | (subst ht; decide)
  · have := List.all_eq_true.mp h4 p hp
    rw [hk] at this
    exact this
end
structure XDefOk (T : Tab) (k : Str) (ns : List Str) (d : DefT) : Prop where
  id : d.id = .me k "__init__"
  len : d.ps.length = ns.length + 1
  body : xinB d.N d.scope T.xpar ns d.body = true
  sc : scB d = true
  bnd : ∀ (kV doc pm : Value) (an : Option Addr) (cdv ct : Value) (us : List Value), us.length = d.ps.length → bindArgs (PySem.W.fnOf d.nm d.qual d.params d.body d.scope .none kV doc pm an cdv ct) ⟨us, []⟩ = pure (d.ps.zip us)
inductive XDefsOk (T : Tab) : List (Str × List Str) → List DefT → Prop
  | nil : XDefsOk T [] []
  | cons {k : Str} {ns : List Str} {d : DefT} {l : List (Str × List Str)} {r : List DefT} : XDefOk T k ns d → XDefsOk T l r → XDefsOk T ((k, ns) :: l) (d :: r)
theorem XDefsOk.look {T : Tab} {k : Str} {ns : List Str} : ∀ {l : List (Str × List Str)} {r : List DefT}, XDefsOk T l r → l.lookup k = some ns → ∃ d ∈ r, XDefOk T k ns d
  | _, _, .nil, h => by simp at h
  | _, _, .cons (k := k') (d := d) a b, h => by
    simp only [List.lookup] at h
    split at h
    · rename_i e
      cases h
      rw [eq_of_beq e]
      exact ⟨d, List.mem_cons_self, a⟩
    · obtain ⟨d', m, z⟩ := XDefsOk.look b h
      exact ⟨d', List.mem_cons_of_mem _ m, z⟩
section
variable {P : Program} {pw : World} {K : PySem.W.Frag} {mg : Str → Option Value} {base : Heap} {T : Tab} {L : Prog} {G : List (Str × Val)} {W : Nat}
/-- every def stands where its name says -/
def Stand (L : List DefT) (K : PySem.W.Frag) : Prop := ∀ d ∈ L, ∃ fd, FunD K d.nm d.qual d.params d.body d.scope [] [] (He.fAd K d.at_) fd
structure Lv (P : Program) (pw : World) (K : PySem.W.Frag) (mg : Str → Option Value) (base : Heap) (w : Wd) (O : FnId → List Pl → COut) (k : Nat) (p : DefT × FnD) : Prop where
  ex : ∀ fd, FunD K p.1.nm p.1.qual p.1.params p.1.body p.1.scope [] [] (He.fAd K p.1.at_) fd → FnOg P pw K mg base (L2.CX P pw) k (He.fAd K p.1.at_) fd p.1.ps (spC w (O p.1.id)) ∧ Binds K fd p.1.ps []
  kp : PySem.W.keepIn K (.ref (He.fAd K p.1.at_)) = true
theorem fAd_fn {d : DefT} {f : Str} (h : d.id = .fn f) : He.fAd K d.at_ = He.ga K f := by
  unfold DefT.id at h
  unfold DefT.at_
  cases hc : d.cls with
  | none => rw [hc] at h; cases h; rfl
  | some c => rw [hc] at h; cases h
theorem fAd_me {d : DefT} {k m : Str} (h : d.id = .me k m) : d.cls = some k ∧ d.nm = m ∧ He.fAd K d.at_ = He.ma K (He.ga K k) m := by
  unfold DefT.id at h
  unfold DefT.at_
  cases hc : d.cls with
  | none => rw [hc] at h; cases h
  | some c => rw [hc] at h; cases h; exact ⟨rfl, rfl, rfl⟩
theorem link {XL : List DefT} (X : K.In base) (Gm : base.Ns mainGlobals mg) (ck : ChkK T L G K) (hi : idsB T L G = true) (hd : DefsOk T L) (hx : XDefsOk T T.xcs XL) (hs0 : Stand (L.map (·.1) ++ XL) K) : ∀ n, ∀ p ∈ L, Lv P pw K mg base (wdOf T G K) (callN (prgOf T L G) W n) (2 * n + 1) p := by
  have hs : ∀ p ∈ L, ∃ fd, FunD K p.1.nm p.1.qual p.1.params p.1.body p.1.scope [] [] (He.fAd K p.1.at_) fd := fun p hp => hs0 p.1 (List.mem_append_left _ (List.mem_map.mpr ⟨p, hp, rfl⟩))
  have xfm : ∀ c C, (wdOf T G K).xf c = some C → ∃ q ∈ T.xcs, q.1 = c ∧ C = He.ga K q.1 := fun c C hc => by
    simp only [wdOf] at hc
    split at hc
    · rename_i hm
      obtain ⟨q, hq, e⟩ := List.mem_map.mp hm
      exact ⟨q, hq, e, by rw [e]; simpa using hc.symm⟩
    · cases hc
  unfold idsB at hi
  simp only [Bool.and_eq_true, decide_eq_true_eq, List.all_eq_true] at hi
  obtain ⟨⟨⟨⟨i1, i2⟩, i3⟩, i4⟩, i5⟩ := hi
  intro n
  induction n with
  | zero =>
    intro p hp
    obtain ⟨fd0, F0⟩ := hs p hp
    refine ⟨fun fd F => ⟨⟨fun vs H Q E h => ?_, fun A outer s H args us vs Q E _ _ _ _ h => ?_⟩, F.bindsN (hd.mem hp).bnd⟩, F0.kp⟩
    · obtain ⟨G', ps, _, _, z⟩ := h
      exact z.elim
    · obtain ⟨G', ps, _, _, z⟩ := h
      exact z.elim
  | succ n ih =>
    intro p hp
    obtain ⟨fd0, F0⟩ := hs p hp
    refine ⟨fun fd F => ?_, F0.kp⟩
    have D := hd.mem hp
    have S := scB_ok D.sc
    have hb := F.bindsN D.bnd
    obtain ⟨oc, od, dV, kV, doc, pm, an, cdv, ct, osl, rfl, lk, hcd, _, _⟩ := F.ex
    refine ⟨?_, hb⟩
    have hO : callN (prgOf T L G) W (n + 1) p.1.id = bodyO p.2 (ctxOf (prgOf T L G) W (callN (prgOf T L G) W n) p.2) := by
      funext ps
      have e : (prgOf T L G).fns p.1.id = some p.2 := by
        show Option.map _ _ = _
        rw [find_of i1 hp]; rfl
      simp only [callN, e, bodyO]
    rw [hO]
    show FnOg P pw K mg base (L2.CX P pw) (2 * n + 2 + 1) _ _ _ _
    refine fn_sp (N := p.1.N) lk hcd S D.np D.n (fun i => rfl) fun A outer s H E hr => ?_
    have cfm : ∀ c C, (wdOf T G K).cf c = some C → c ∈ T.cls ∧ C = He.ga K c := fun c C hc => by
      simp only [wdOf] at hc
      split at hc
      · rename_i hm; exact ⟨hm, by simpa using hc.symm⟩
      · cases hc
    have lev : ∀ {id : FnId}, id ∈ L.map (fun p => p.1.id) → ∃ q ∈ L, q.1.id = id := fun h => by
      obtain ⟨q, hq, e⟩ := List.mem_map.mp h
      exact ⟨q, hq, e⟩
    have fnf : ∀ {q : DefT × FnD}, q ∈ L → ∀ {fa : Addr}, He.fAd K q.1.at_ = fa → FnF (wdOf T G K) (cxOf (L2.CX P pw) P pw K mg base p.1.N p.1.qual p.1.scope (He.fAd K p.1.at_) cdv A outer s H E) (callN (prgOf T L G) W n q.1.id) fa := fun {q} hq {fa} e => by
      obtain ⟨F0', F3⟩ := ih q hq
      obtain ⟨fd', Fq⟩ := hs q hq
      obtain ⟨F1, F2⟩ := F0' fd' Fq
      subst e
      exact ⟨⟨2 * n + 1, fd', q.1.ps, F1, hr, F2⟩, F3⟩
    have O : OkX T p.1.N none p.1.scope (cxOf (L2.CX P pw) P pw K mg base p.1.N p.1.qual p.1.scope (He.fAd K p.1.at_) cdv A outer s H E) (fun cls d _ H => E cls d H) (wdOf T G K) (ctxOf (prgOf T L G) W (callN (prgOf T L G) W n) p.2) :=
      { g :=
          { K := rfl
            calm := rfl
            hu := by have := hr.rm.un; show (A.deeper _).units + 65 < _; omega
            gd := hr.gd
            nd := S.nd
            cls := fun c C hc => by
              obtain ⟨m, rfl⟩ := cfm c C hc
              exact ⟨He.cls_ok (ck.cls c m), fun f hf => He.noat_ok (ck.noat c m f hf)⟩
            tk := takes_of rfl rfl rfl rfl }
        nN := rfl
        hs := rfl
        kd := S.kind
        fr := fun _ _ => .inl rfl
        s :=
          { fn := fun f hf => by
              obtain ⟨q, hq, e⟩ := lev (i2 f hf)
              have := fnf hq (fAd_fn e)
              rw [e] at this
              exact ⟨_, He.glo_ok X Gm (ck.fns f hf), this⟩
            mkc := fun k hk => by
              obtain ⟨q, hq, e⟩ := lev (i3 k hk)
              have := fnf hq (fAd_me e).2.2
              rw [e] at this
              exact ⟨He.ga K k, _, by simp [wdOf, hk], He.mkr_ok (ck.mkr k hk), this, He.glo_ok X Gm (ck.glo k hk)⟩
            me := fun m k C hc hh => by
              obtain ⟨hm, rfl⟩ := cfm k C hc
              have hh : ((prgOf T L G).fns (.me k m)).isSome = true := hh
              obtain ⟨d, hd'⟩ := Option.isSome_iff_exists.mp hh
              have hd' : (L.find? fun p => decide (p.1.id = .me k m)).map (·.2) = some d := hd'
              cases hf : L.find? fun p => decide (p.1.id = .me k m) with
              | none => rw [hf] at hd'; cases hd'
              | some q =>
                have e : q.1.id = .me k m := by have := List.find?_some hf; exact of_decide_eq_true this
                have hq : q ∈ L := List.mem_of_find?_eq_some hf
                obtain ⟨e1, e2, e3⟩ := fAd_me (K := K) e
                have F := fnf hq e3
                rw [e] at F
                have M := He.meth_ok (ck.meth q hq k e1)
                rw [e2] at M
                exact ⟨_, M, F⟩
            free := fun b hb => He.free_ok X Gm (ck.free b hb)
            glo := fun g hg => by
              obtain ⟨x, hx⟩ := lookup_of_mem (i4 g hg)
              obtain ⟨u, v, h1, h2, h3⟩ := gloB_ok (T := T) X Gm hx (ck.con _ (mem_of_lookup' hx))
              exact ⟨u, v, x, h1, h2, hx, h3⟩
            isf := ck.isf
            flds := fun f hf => hf
            xmk := fun k ns hk => by
              obtain ⟨q, hq⟩ := lookup_mem hk
              obtain ⟨m1, m2, m3, m4⟩ := ck.xc.made (k, ns) hq
              obtain ⟨d, hd', XD⟩ := hx.look hk
              obtain ⟨fd', Fq⟩ := hs0 d (List.mem_append_right _ hd')
              obtain ⟨oc', od', dV', kV', doc', pm', an', cdv', ct', osl', rfl, lk', hcd', _, _⟩ := id Fq.ex
              have ne : T.xcs ≠ [] := fun z => by rw [z] at hk; simp at hk
              obtain ⟨p1, p2⟩ := ck.xc.par ne
              have e3 := (fAd_me (K := K) XD.id).2.2
              have S' := scB_ok XD.sc
              have hlen : d.ps.length ≤ d.N.length := by
                have := congrArg List.length S'.pre
                rw [List.length_take] at this
                omega
              rw [e3] at lk'
              exact ⟨He.ga K k, _, by
                simp only [wdOf]
                rw [if_pos (List.mem_map.mpr ⟨_, hq, rfl⟩)], hk, m2, ⟨1, _, d.ps, fn_xi lk' hcd' S' XD.len hlen XD.body (He.glo_ok X Gm p1) p2 m2.ox (fun f hf => ck.xc.no (k, ns) hq f (.inl hf)), hr.mono (by omega), Fq.bindsN XD.bnd⟩, He.glo_ok X Gm m1⟩
            xow := fun d hd' => ⟨_, He.glo_ok X Gm (ck.xc.own d hd'), fun c C hc => by
              obtain ⟨q, hq, rfl, rfl⟩ := xfm c C hc
              exact (ck.xc.made q hq).2.2.1, fun c C b hc hb' => by
              obtain ⟨q, hq, rfl, rfl⟩ := xfm c C hc
              exact ck.xc.kow q hq d hd' b hb'⟩
            xbl := fun d hd' => by
              obtain ⟨n', hn', hk⟩ := ck.xc.blt d hd'
              refine ⟨n', xbTab_ok hn', fun c C hc => ?_, fun c C b hc hb' => ?_⟩
              · obtain ⟨q, hq, rfl, rfl⟩ := xfm c C hc
                exact (ck.xc.made q hq).2.2.1
              · obtain ⟨q, hq, rfl, rfl⟩ := xfm c C hc
                exact hk q hq b hb'
            xfl := fun f hf k C hc => by
              obtain ⟨q, hq, rfl, rfl⟩ := xfm k C hc
              exact ⟨(ck.xc.made q hq).2.2.2, ck.xc.no q hq f (.inr hf)⟩ } }
    exact mapS_ok (cS_ok cFuel O (passes_of rfl) cFuel) D.comp
end
end Ev
namespace Ev
open PySem PySem.Spec L2
/-- what the look at the top's heap tells -/
def seeM (ck : PySem.W.Frag → Bool) (ds : List He.DefD) (K : PySem.W.Frag) : Bool × List He.FnW := (ck K && ds.all (fun d => d.ok K), ds.map fun d => He.fnW K d.at_)
def dueM (ds : List He.DefD) : Bool × List He.FnW := (true, ds.map He.DefD.val)
def seeG (n : Nat) (ck : PySem.W.Frag → Bool) (ds : List He.DefD) (g : Addr → Option Obj) : Bool × List He.FnW := seeM ck ds (He.frG g (cStatics :: He.asD g n))
def hookM (n : Nat) (ck : PySem.W.Frag → Bool) (ds : List He.DefD) : PySem.W.Hook :=
  { α := Bool × List He.FnW
    obs := fun s => seeG n ck ds s.heap.get?
    val := fun _ => dueM ds
    says := fun _ h => ∃ K : PySem.W.Frag, K.In h ∧ seeM ck ds K = dueM ds
    of := fun _ _ e => ⟨_, He.frG_in, e⟩
    keeps := fun _ _ _ ⟨K, k1, k2⟩ k => ⟨K, PySem.W.Frag.In.keeps k1 k, k2⟩ }
theorem seeG_eq {n : Nat} {ck : PySem.W.Frag → Bool} {ds : List He.DefD} {g : Addr → Option Obj} {s : Shared} (h : ∀ a, g a = s.heap.get? a) : seeG n ck ds g = (hookM n ck ds).obs s := by
  rw [show g = s.heap.get? from funext h]; rfl
theorem eq_of_maps {α β : Type} {f g : α → β} : ∀ {l : List α}, l.map f = l.map g → ∀ a ∈ l, f a = g a
  | [], _, a, h => by simp at h
  | b :: l, e, a, h => by
    rw [List.map_cons, List.map_cons, List.cons.injEq] at e
    rcases List.mem_cons.mp h with z | z
    · subst z; exact e.1
    · exact eq_of_maps e.2 a z
theorem seeM_ok {ck : PySem.W.Frag → Bool} {L : List DefT} {K : PySem.W.Frag} (h : seeM ck (L.map DefT.he) K = dueM (L.map DefT.he)) : ck K = true ∧ Stand L K := by
  have h1 := congrArg Prod.fst h
  have h2 := congrArg Prod.snd h
  simp only [seeM, dueM] at h1 h2
  obtain ⟨c1, c2⟩ := He.ba h1
  refine ⟨c1, fun p hp => ?_⟩
  have hm : p.he ∈ L.map DefT.he := List.mem_map.mpr ⟨p, hp, rfl⟩
  have e : He.fnW K p.he.at_ = p.he.val := eq_of_maps h2 _ hm
  obtain ⟨fd, F⟩ := He.DefD.funD e (List.all_eq_true.mp c2 _ hm)
  exact ⟨fd, F⟩
theorem entry {w : Wd} {H : Hp} {a : Addr} {ns : List Int} (h : SqL w.K H a (ns.map V.int)) : ∃ G, CfgE w G [] H [] [(V.ref a, Pl.val (.fzl (ns.map Val.int)))] := by
  refine ⟨⟨H, fun _ => False, fun _ => False, fun _ => none⟩, H, fun _ => none, ⟨Same.refl _, fun a l e => (by cases e), fun a e => e.elim, fun a e => e, fun a o e => e.elim, fun a e => e.elim, fun a e => e, fun i p e => by simp at e, ⟨?_, trivial⟩, fun i v e => (by cases e), rfl⟩⟩
  simp only [Rep]
  refine .fzl h ?_
  clear h
  induction ns with
  | nil => exact .nil
  | cons n ns ih => exact .cons (.int n) ih
theorem walkM {l : PySem.W.OpenLaw} {q : Program} {loose : List Str} {XP : (Str → Option Value) → Heap → Prop} {d : DefRec} {T : Tab} {L : Prog} {XL : List DefT} {Gc : List (Str × Val)} {W k nn : Nat} {pl : DefT × FnD} {x : Str}
    (hn : l.most = some 63) (hdf : d.params.defaults = []) (hdn : d.name = "law") (hf : ("law" : Str) ∈ T.fns) (hpl : pl ∈ L) (hid : pl.1.id = .fn "law") (hps : pl.1.ps = [x]) (hi : idsB T L Gc = true) (hd : DefsOk T L) (hx : XDefsOk T T.xcs XL) (hr : Rm (2 * k + 1) callerA)
    (hlaw : ∀ ns : List Int, ns.length ≤ 63 → ∃ ps, callN (prgOf T L Gc) W k (.fn "law") [.val (.fzl (ns.map Val.int))] = .ok (.val (.bl true)) ps) :
    PySem.W.WalkO q loose XP (hookM nn (chkK T L Gc) ((L.map (·.1) ++ XL).map DefT.he)).says l.row.toRowW d [] (fun f vs => PySem.call f vs) := by
  refine Att.attach_call hn hdf fun w s0 s1 mg mb fa o pm cd doc a vs ns Gr Y ho hdo hcd hmg hobj hints hlen hg => ?_
  obtain ⟨K, KX, see⟩ := Y
  obtain ⟨ck, st⟩ := seeM_ok see
  have ck := chkK_ok ck
  obtain ⟨fd, F⟩ := st pl.1 (List.mem_append_left _ (List.mem_map.mpr ⟨pl, hpl, rfl⟩))
  have efa : fa = He.fAd K pl.1.at_ := by
    have := He.glo_ok KX Gr.T.g (ck.fns _ hf)
    rw [hdn, this] at hmg
    rw [fAd_fn hid]
    exact (Value.ref.inj (Option.some.inj hmg)).symm
  subst efa
  refine law_callG (fd := fd) (x := x) (sp := spC (wdOf T Gc K) (callN (prgOf T L Gc) W k (.fn "law"))) KX Gr.T.g Gr.T.b Gr.T.builtins Gr.T.nolimit hg hobj hints (Nat.le_trans hlen (by decide)) hr (fun base kb gb => ?_) (fun s u => ?_) (fun H hO hS => ?_) (CX := L2.CX l.prog w) fun H e s' h => ?_
  · have Z := (link (P := l.prog) (pw := w) (W := W) kb gb ck hi hd hx st k pl hpl).ex fd F
    have Z1 := Z.1
    rw [hid, hps] at Z1
    exact Z1
  · have B := FunD.bindsA F (hd.mem hpl).bnd s [u] (by rw [hps]; rfl)
    rw [hps] at B
    exact B
  · obtain ⟨G, C⟩ := entry (w := wdOf T Gc K) hS
    obtain ⟨ps, hps'⟩ := hlaw ns hlen
    refine ⟨G, [.val (.fzl (ns.map Val.int))], C, rfl, ?_⟩
    rw [hps']
    intro v H' ⟨F', lab, C'⟩
    have := C'.temps.1
    simp only [Rep] at this
    cases this
    rfl
  · obtain ⟨a, B, H', cls, d, _, _, _, _, _, _, _, z⟩ := h
    exact z.elim
end Ev
namespace Ev
open PySem
section
variable {c : Ctx} {a b t : IE} {e e' e1 e2 : Env} {r k : Bool} {x y : Opnd} {u v : Val} {p : Pl} {op : Operator}
theorem evT_of (h : evO c a e = .ok (.tmp (.val (.bl r))) e') : evT c a e = .ok r e' := by simp [evT, tst, h, peek, toVal, truthy]
theorem evO_and (h : evO c a e = .ok (.tmp (.val (.bl r))) e') : evO c (.and a b) e = if r then evO c b e' else .ok (.tmp (.val (.bl false))) e' := by cases r <;> simp [evO, h, freeze, toVal, truthy]
theorem evO_or (h : evO c a e = .ok (.tmp (.val (.bl r))) e') : evO c (.or a b) e = if r then .ok (.tmp (.val (.bl true))) e' else evO c b e' := by cases r <;> simp [evO, h, freeze, toVal, truthy]
theorem evO_bin (ha : evO c a e = .ok x e1) (hp : (plain x || smp b) = true) (hb : evO c b e1 = .ok y e2) (hx : peek1 e2 x = some u) (hy : peek1 e2 y = some v) (h : binV op u v = some p) : evO c (.bin op a b) e = .ok (.tmp p) e2 := by
  rw [Bool.or_eq_true] at hp
  simp [evO, ha, hp, hb, hx, hy, h]
theorem evO_cmp {co : CmpOp} (ha : evO c a e = .ok x e1) (hp : (plain x || smp b) = true) (hb : evO c b e1 = .ok y e2) (hx : peek e2 x = some u) (hy : peek e2 y = some v) (h : cmpV co u v = some r) : evO c (.cmp co a b) e = .ok (.tmp (.val (.bl r))) e2 := by
  rw [Bool.or_eq_true] at hp
  simp [evO, ha, hp, hb, hx, hy, h]
theorem evX_of (h : evO c a e = .ok o e1) (hf : freeze o e1 = .ok v e2) : evX c a e = .ok v e2 := by simp [evX, h, hf]
theorem evO_ix (ha : evO c a e = .ok x e1) (hp : (plain x || smp b) = true) (hb : evX c b e1 = .ok v e2) (h : ixO x v e2 = .ok y e') : evO c (.ix a b) e = .ok y e' := by
  rw [Bool.or_eq_true] at hp
  have hb' : (evO c b e1).bind freeze = .ok v e2 := hb
  simp [evO, ha, hp, hb', h]
theorem evS_ite {A B : List IS} (h : evT c t e = .ok r e') : evS c (.ite t A B) e = if r then evSs c A e' else evSs c B e' := by simp [evS, h]
theorem evSs_nil : evSs c [] e = .next e := by simp [evSs]
theorem evSs_next {s : IS} {ss : List IS} (h : evS c s e = .next e') : evSs c (s :: ss) e = evSs c ss e' := by simp [evSs, h]
theorem evSs_ret {s : IS} {ss : List IS} (h : evS c s e = .ret p e') : evSs c (s :: ss) e = .ret p e' := by simp [evSs, h]
theorem evS_asg {i : Nat} (h : evO c a e = .ok x e1) (ho : own x e1 = .ok p e2) (hs : setT c.pin i p e2 = some e') : evS c (.asg i a) e = .next e' := by simp [evS, h, ho, hs, oS]
theorem evS_asgSub {o k a : IE} {kv : Val} {i : Nat} {rr : List Step} {q q' : Pl} (h : evX c a e = .ok v e1) (ho : evO c o e1 = .ok (.at i rr) e2) (hp : (plain (.at i rr) || smp k) = true) (hk : evX c k e2 = .ok kv e') (hg : getE e' i rr = some q) (hs : setSub q kv v = some q') :
    evS c (.asgSub o k a) e = .next (setE e' i rr q') := by
  rw [Bool.or_eq_true] at hp
  simp [evS, h, ho, hp, hk, hg, hs]
theorem evS_ret (h : evO c a e = .ok x e1) (ho : own x e1 = .ok p e') (hn : ∀ i, a ≠ .var i) : evS c (.ret a) e = .ret p e' := by
  cases a <;> first | (simp [evS, h, ho]; done) | exact absurd rfl (hn _)
theorem evS_retv {i : Nat} (hpin : c.pin i = false) (hv : e[i]? = some (.val v)) : evS c (.ret (.var i)) e = .ret (.val v) (e.set i .hole) := by simp [evS, hpin, hv, toVal]
theorem pBin (x y : Opnd) (u v : Val) (ha : evO c a e = .ok x e) (hb : evO c b e = .ok y e) (hp : (plain x || smp b) = true) (hx : peek1 e x = some u) (hy : peek1 e y = some v) (h : binV op u v = some p) : evO c (.bin op a b) e = .ok (.tmp p) e := evO_bin ha hp hb hx hy h
theorem pCmp {co : CmpOp} (x y : Opnd) (u v : Val) (ha : evO c a e = .ok x e) (hb : evO c b e = .ok y e) (hp : (plain x || smp b) = true) (hx : peek e x = some u) (hy : peek e y = some v) (h : cmpV co u v = some r) : evO c (.cmp co a b) e = .ok (.tmp (.val (.bl r))) e := evO_cmp ha hp hb hx hy h
theorem pIx (x : Opnd) (v : Val) (ha : evO c a e = .ok x e) (hb : evX c b e = .ok v e) (hp : (plain x || smp b) = true) (h : ixO x v e = .ok y e) : evO c (.ix a b) e = .ok y e := evO_ix ha hp hb h
theorem pX (o : Opnd) (h : evO c a e = .ok o e) (hf : freeze o e = .ok v e) : evX c a e = .ok v e := evX_of h hf
theorem pBi1 {f : Bi} (x : Opnd) (u : Val) (h : evO c a e = .ok x e) (hx : peek1 e x = some u) (hb : biV f [u] = some p) : evO c (.bi f [a]) e = .ok (.tmp p) e := by
  simp [evO, evArgs, h, smps, peeks, hx, hb]
theorem pAsg {i : Nat} (x : Opnd) (p : Pl) (h : evO c a e = .ok x e) (ho : own x e = .ok p e) (hs : setT c.pin i p e = some e') : evS c (.asg i a) e = .next e' := evS_asg h ho hs
theorem pAsgSub {o k a : IE} (i : Nat) (rr : List Step) (kv v : Val) (q q' : Pl) (h : evX c a e = .ok v e) (ho : evO c o e = .ok (.at i rr) e) (hp : (plain (.at i rr) || smp k) = true) (hk : evX c k e = .ok kv e) (hg : getE e i rr = some q) (hs : setSub q kv v = some q') (he : setE e i rr q' = e') :
    evS c (.asgSub o k a) e = .next e' := by
  subst he
  exact evS_asgSub h ho hp hk hg hs
theorem binV_mulR {i j : Int} (h1 : -(2 ^ 64) < j) (h2 : j < 2 ^ 64) : binV .Mult (.int i) (.int j) = some (.val (.int (i * j))) :=
  if_pos (.inr ⟨h1, h2⟩)
theorem binV_mulL {i j : Int} (h1 : -(2 ^ 64) < i) (h2 : i < 2 ^ 64) : binV .Mult (.int i) (.int j) = some (.val (.int (i * j))) :=
  if_pos (.inl ⟨h1, h2⟩)
theorem binV_mod {i j : Int} (h : 0 < j) : binV .Mod (.int i) (.int j) = some (.val (.int (i % j))) :=
  if_pos h
theorem binV_div {i j : Int} (h : 0 < j) (h2 : j < 1073741824) : binV .FloorDiv (.int i) (.int j) = some (.val (.int (i / j))) :=
  if_pos ⟨h, h2⟩
theorem binV_pow {i j : Int} (h : 0 ≤ j) (h2 : j ≤ 1000000) (h3 : i.natAbs < 2 ^ 64) : binV .Pow (.int i) (.int j) = some (.val (.int (i ^ j.toNat))) :=
  if_pos ⟨h, h2, h3⟩
end
end Ev
namespace Ev
open PySem
/-- the pen as it stands -/
def pen (xs : List Val) (pl dg ct fo : Int) : Pl := .rcd [("cells", .lst xs), ("at", .val (.int pl)), ("digits", .val (.int dg)), ("count", .val (.int ct)), ("fold", .val (.int fo))]
/-- .. after at most B draws -/
structure PenB (B : Nat) (xs : List Val) (pl dg ct fo : Int) : Prop where
  ci : ∀ v ∈ xs, ∃ i, v = .int i
  len : xs.length ≤ 63
  pl0 : 0 ≤ pl
  dg0 : 0 ≤ dg
  ct0 : 0 ≤ ct
  ctB : ct ≤ B
  fo0 : 0 ≤ fo
  foB : fo < 2147483587
def Pen (B : Nat) (p : Pl) : Prop := ∃ xs pl dg ct fo, p = pen xs pl dg ct fo ∧ PenB B xs pl dg ct fo
/-- the def's tree, in all laws -/
def bDraw : List IS := [
  .asgSub (.var 0) (.cst (.str "count")) (.bin .Add (.ix (.var 0) (.cst (.str "count"))) (.cst (.int 1))),
  .ite (.and (.cmp .Eq (.ix (.var 0) (.cst (.str "digits"))) (.cst (.int 0))) (.cmp .Lt (.ix (.var 0) (.cst (.str "at"))) (.bi .len [.ix (.var 0) (.cst (.str "cells"))])))
    [.asg 2 (.ix (.ix (.var 0) (.cst (.str "cells"))) (.ix (.var 0) (.cst (.str "at")))), .asgSub (.var 0) (.cst (.str "at")) (.bin .Add (.ix (.var 0) (.cst (.str "at"))) (.cst (.int 1))),
      .ite (.cmp .GtE (.var 2) (.bin .Pow (.cst (.int 10)) (.cst (.int 18)))) [.asgSub (.var 0) (.cst (.str "digits")) (.bin .Sub (.var 2) (.bin .Pow (.cst (.int 10)) (.cst (.int 18))))]
        [.asgSub (.var 0) (.cst (.str "fold")) (.bin .Mod (.bi .int [.bin .Add (.bin .Mult (.ix (.var 0) (.cst (.str "fold"))) (.cst (.int 22695477))) (.var 2)]) (.cst (.int 2147483587)))]] [],
  .ite (.cmp .Gt (.ix (.var 0) (.cst (.str "digits"))) (.cst (.int 0))) [.asg 3 (.bin .Mod (.bi .int [.ix (.var 0) (.cst (.str "digits"))]) (.var 1)), .asgSub (.var 0) (.cst (.str "digits")) (.bin .FloorDiv (.ix (.var 0) (.cst (.str "digits"))) (.var 1)), .ret (.var 3)] [],
  .asg 4 (.bin .Add (.bin .Add (.ix (.var 0) (.cst (.str "fold"))) (.bin .Mult (.ix (.var 0) (.cst (.str "count"))) (.cst (.int 8011)))) (.cst (.int 43))),
  .ret (.bin .Mod (.bin .FloorDiv (.bi .int [.bin .Mod (.bin .Pow (.var 4) (.cst (.int 17))) (.cst (.int 2305843009213693951))]) (.cst (.int 128))) (.var 1))]
def dDraw : FnD := ⟨2, 5, [false, false], bDraw⟩
section
variable {P : Prg} {W : Nat} {O : FnId → List Pl → COut} {xs : List Val} {pl dg ct fo m : Int} {h2 h3 h4 : Pl}
abbrev cDraw (P : Prg) (W : Nat) (O : FnId → List Pl → COut) : Ctx := ctxOf P W O dDraw
theorem atI_cell {i : Int} (h0 : 0 ≤ i) (h : i < xs.length) : ∃ v, L2.atI xs i = some v ∧ v ∈ xs := by
  obtain ⟨n, rfl⟩ := Int.eq_ofNat_of_zero_le h0
  have hn : n < xs.length := by omega
  refine ⟨xs[n], ?_, List.getElem_mem hn⟩
  unfold L2.atI L2.ixN
  rw [if_pos h0, if_pos h]
  simp [hn]
theorem draw1 : evS (cDraw P W O) (.asgSub (.var 0) (.cst (.str "count")) (.bin .Add (.ix (.var 0) (.cst (.str "count"))) (.cst (.int 1)))) [pen xs pl dg ct fo, .val (.int m), h2, h3, h4] = .next [pen xs pl dg (ct + 1) fo, .val (.int m), h2, h3, h4] := rfl
theorem draw2t : evT (cDraw P W O) (.and (.cmp .Eq (.ix (.var 0) (.cst (.str "digits"))) (.cst (.int 0))) (.cmp .Lt (.ix (.var 0) (.cst (.str "at"))) (.bi .len [.ix (.var 0) (.cst (.str "cells"))])))
    [pen xs pl dg ct fo, .val (.int m), h2, h3, h4] = .ok (dg == 0 && decide (pl < (xs.length : Int))) [pen xs pl dg ct fo, .val (.int m), h2, h3, h4] := by
  refine evT_of ?_
  rw [evO_and (r := dg == 0) (e' := [pen xs pl dg ct fo, .val (.int m), h2, h3, h4]) rfl]
  cases dg == 0 <;> rfl
theorem draw2a {i : Int} (h : L2.atI xs pl = some (.int i)) : evS (cDraw P W O) (.asg 2 (.ix (.ix (.var 0) (.cst (.str "cells"))) (.ix (.var 0) (.cst (.str "at"))))) [pen xs pl dg ct fo, .val (.int m), h2, h3, h4] = .next [pen xs pl dg ct fo, .val (.int m), .val (.int i), h3, h4] := by
  refine pAsg (.tmp (.val (.int i))) _ (pIx (.at 0 [.k "cells"]) (.int pl) rfl rfl rfl ?_) rfl rfl
  show Out.of (((some (Val.lst xs)).bind fun x => ixV x (.int pl)).map fun v => Opnd.tmp (.val v)) _ = _
  simp [ixV, h]
theorem draw2b : evS (cDraw P W O) (.asgSub (.var 0) (.cst (.str "at")) (.bin .Add (.ix (.var 0) (.cst (.str "at"))) (.cst (.int 1)))) [pen xs pl dg ct fo, .val (.int m), h2, h3, h4] = .next [pen xs (pl + 1) dg ct fo, .val (.int m), h2, h3, h4] := rfl
theorem big18 {c : Ctx} {e : Env} : evO c (.bin .Pow (.cst (.int 10)) (.cst (.int 18))) e = .ok (.tmp (.val (.int (10 ^ 18)))) e := pBin (.tmp (.val (.int 10))) (.tmp (.val (.int 18))) _ _ rfl rfl rfl rfl rfl (binV_pow (by decide) (by decide) (by decide))
theorem draw2c {i : Int} : evT (cDraw P W O) (.cmp .GtE (.var 2) (.bin .Pow (.cst (.int 10)) (.cst (.int 18)))) [pen xs pl dg ct fo, .val (.int m), .val (.int i), h3, h4] = .ok (decide (10 ^ 18 ≤ i)) [pen xs pl dg ct fo, .val (.int m), .val (.int i), h3, h4] :=
  evT_of (pCmp (.at 2 []) (.tmp (.val (.int (10 ^ 18)))) (.int i) (.int (10 ^ 18)) rfl big18 rfl rfl rfl rfl)
theorem draw2d {i : Int} : evS (cDraw P W O) (.asgSub (.var 0) (.cst (.str "digits")) (.bin .Sub (.var 2) (.bin .Pow (.cst (.int 10)) (.cst (.int 18))))) [pen xs pl dg ct fo, .val (.int m), .val (.int i), h3, h4] = .next [pen xs pl (i - 10 ^ 18) ct fo, .val (.int m), .val (.int i), h3, h4] :=
  pAsgSub 0 [] (.str "digits") (.int (i - 10 ^ 18)) (pen xs pl dg ct fo) (pen xs pl (i - 10 ^ 18) ct fo) (pX (.tmp (.val (.int (i - 10 ^ 18)))) (pBin (.at 2 []) (.tmp (.val (.int (10 ^ 18)))) (.int i) (.int (10 ^ 18)) rfl big18 rfl rfl rfl rfl) rfl) rfl rfl rfl rfl rfl rfl
theorem draw2e {i : Int} : evS (cDraw P W O) (.asgSub (.var 0) (.cst (.str "fold")) (.bin .Mod (.bi .int [.bin .Add (.bin .Mult (.ix (.var 0) (.cst (.str "fold"))) (.cst (.int 22695477))) (.var 2)]) (.cst (.int 2147483587)))) [pen xs pl dg ct fo, .val (.int m), .val (.int i), h3, h4]
    = .next [pen xs pl dg ct ((fo * 22695477 + i) % 2147483587), .val (.int m), .val (.int i), h3, h4] :=
  pAsgSub 0 [] (.str "fold") (.int ((fo * 22695477 + i) % 2147483587)) (pen xs pl dg ct fo) (pen xs pl dg ct ((fo * 22695477 + i) % 2147483587))
    (pX (.tmp (.val (.int ((fo * 22695477 + i) % 2147483587)))) (pBin (.tmp (.val (.int (fo * 22695477 + i)))) (.tmp (.val (.int 2147483587))) (.int (fo * 22695477 + i)) (.int 2147483587)
      (pBi1 (.tmp (.val (.int (fo * 22695477 + i)))) (.int (fo * 22695477 + i)) (pBin (.tmp (.val (.int (fo * 22695477)))) (.at 2 []) (.int (fo * 22695477)) (.int i)
        (pBin (.at 0 [.k "fold"]) (.tmp (.val (.int 22695477))) (.int fo) (.int 22695477) rfl rfl rfl rfl rfl (binV_mulR (by decide) (by decide))) rfl rfl rfl rfl rfl) rfl rfl) rfl rfl rfl rfl (binV_mod (by decide))) rfl) rfl rfl rfl rfl rfl rfl
theorem draw3t : evT (cDraw P W O) (.cmp .Gt (.ix (.var 0) (.cst (.str "digits"))) (.cst (.int 0))) [pen xs pl dg ct fo, .val (.int m), h2, h3, h4] = .ok (decide (0 < dg)) [pen xs pl dg ct fo, .val (.int m), h2, h3, h4] := rfl
theorem draw3a (h : 0 < m) : evS (cDraw P W O) (.asg 3 (.bin .Mod (.bi .int [.ix (.var 0) (.cst (.str "digits"))]) (.var 1))) [pen xs pl dg ct fo, .val (.int m), h2, h3, h4] = .next [pen xs pl dg ct fo, .val (.int m), h2, .val (.int (dg % m)), h4] :=
  pAsg (.tmp (.val (.int (dg % m)))) _ (pBin (.tmp (.val (.int dg))) (.at 1 []) (.int dg) (.int m) rfl rfl rfl rfl rfl (binV_mod h)) rfl rfl
theorem draw3b (h : 0 < m) (hm : m < 1073741824) : evS (cDraw P W O) (.asgSub (.var 0) (.cst (.str "digits")) (.bin .FloorDiv (.ix (.var 0) (.cst (.str "digits"))) (.var 1))) [pen xs pl dg ct fo, .val (.int m), h2, h3, h4] = .next [pen xs pl (dg / m) ct fo, .val (.int m), h2, h3, h4] :=
  pAsgSub 0 [] (.str "digits") (.int (dg / m)) (pen xs pl dg ct fo) (pen xs pl (dg / m) ct fo) (pX (.tmp (.val (.int (dg / m)))) (pBin (.at 0 [.k "digits"]) (.at 1 []) (.int dg) (.int m) rfl rfl rfl rfl rfl (binV_div h hm)) rfl) rfl rfl rfl rfl rfl rfl
theorem draw4 : evS (cDraw P W O) (.asg 4 (.bin .Add (.bin .Add (.ix (.var 0) (.cst (.str "fold"))) (.bin .Mult (.ix (.var 0) (.cst (.str "count"))) (.cst (.int 8011)))) (.cst (.int 43)))) [pen xs pl dg ct fo, .val (.int m), h2, h3, h4]
    = .next [pen xs pl dg ct fo, .val (.int m), h2, h3, .val (.int (fo + ct * 8011 + 43))] :=
  pAsg (.tmp (.val (.int (fo + ct * 8011 + 43)))) _ (pBin (.tmp (.val (.int (fo + ct * 8011)))) (.tmp (.val (.int 43))) (.int (fo + ct * 8011)) (.int 43)
    (pBin (.at 0 [.k "fold"]) (.tmp (.val (.int (ct * 8011)))) (.int fo) (.int (ct * 8011)) rfl (pBin (.at 0 [.k "count"]) (.tmp (.val (.int 8011))) (.int ct) (.int 8011) rfl rfl rfl rfl rfl (binV_mulR (by decide) (by decide))) rfl rfl rfl rfl) rfl rfl rfl rfl rfl) rfl rfl
theorem draw5 {q : Int} (h : 0 < m) (hq : q.natAbs < 2 ^ 64) : evS (cDraw P W O) (.ret (.bin .Mod (.bin .FloorDiv (.bi .int [.bin .Mod (.bin .Pow (.var 4) (.cst (.int 17))) (.cst (.int 2305843009213693951))]) (.cst (.int 128))) (.var 1))) [pen xs pl dg ct fo, .val (.int m), h2, h3, .val (.int q)]
    = .ret (.val (.int (q ^ 17 % 2305843009213693951 / 128 % m))) [pen xs pl dg ct fo, .val (.int m), h2, h3, .val (.int q)] :=
  evS_ret (x := .tmp (.val (.int (q ^ 17 % 2305843009213693951 / 128 % m)))) (pBin (.tmp (.val (.int (q ^ 17 % 2305843009213693951 / 128)))) (.at 1 []) (.int (q ^ 17 % 2305843009213693951 / 128)) (.int m)
    (pBin (.tmp (.val (.int (q ^ 17 % 2305843009213693951)))) (.tmp (.val (.int 128))) (.int (q ^ 17 % 2305843009213693951)) (.int 128)
      (pBi1 (.tmp (.val (.int (q ^ 17 % 2305843009213693951)))) (.int (q ^ 17 % 2305843009213693951)) (pBin (.tmp (.val (.int (q ^ 17)))) (.tmp (.val (.int 2305843009213693951))) (.int (q ^ 17)) (.int 2305843009213693951)
        (pBin (.at 4 []) (.tmp (.val (.int 17))) (.int q) (.int 17) rfl rfl rfl rfl rfl (binV_pow (by decide) (by decide) hq)) rfl rfl rfl rfl (binV_mod (by decide))) rfl rfl) rfl rfl rfl rfl (binV_div (by decide) (by decide))) rfl rfl rfl rfl (binV_mod h)) rfl (fun i z => by cases z)
theorem draw_body {B : Nat} (Q : PenB B xs pl dg ct fo) (h0 : 0 < m) (hm : m < 1073741824) (hB : B < 2 ^ 50) :
    ∃ d pl' dg' fo' h2 h3 h4, evSs (cDraw P W O) bDraw [pen xs pl dg ct fo, .val (.int m), .hole, .hole, .hole] = .ret (.val (.int d)) [pen xs pl' dg' (ct + 1) fo', .val (.int m), h2, h3, h4] ∧ PenB (B + 1) xs pl' dg' (ct + 1) fo' ∧ 0 ≤ d ∧ d < m := by
  unfold bDraw
  rw [evSs_next draw1]
  have second : ∃ pl' dg' fo' h2, evS (cDraw P W O) (bDraw[1]'(by decide)) [pen xs pl dg (ct + 1) fo, .val (.int m), .hole, .hole, .hole] = .next [pen xs pl' dg' (ct + 1) fo', .val (.int m), h2, .hole, .hole] ∧ PenB (B + 1) xs pl' dg' (ct + 1) fo' := by
    have Q1 : PenB (B + 1) xs pl dg (ct + 1) fo := ⟨Q.ci, Q.len, Q.pl0, Q.dg0, by have := Q.ct0; omega, by have := Q.ctB; omega, Q.fo0, Q.foB⟩
    show ∃ pl' dg' fo' h2, evS (cDraw P W O) (.ite _ _ _) _ = _ ∧ _
    rw [evS_ite draw2t]
    by_cases hc : (dg == 0 && decide (pl < (xs.length : Int))) = true
    · rw [if_pos hc]
      rw [Bool.and_eq_true, decide_eq_true_eq] at hc
      obtain ⟨v, hv, vm⟩ := atI_cell Q.pl0 hc.2
      obtain ⟨i, rfl⟩ := Q.ci v vm
      rw [evSs_next (draw2a hv), evSs_next draw2b]
      by_cases hi : (10 : Int) ^ 18 ≤ i
      · refine ⟨pl + 1, i - 10 ^ 18, fo, .val (.int i), ?_, ⟨Q.ci, Q.len, by have := Q.pl0; omega, by omega, Q1.ct0, Q1.ctB, Q.fo0, Q.foB⟩⟩
        refine (evSs_next (e' := [pen xs (pl + 1) (i - 10 ^ 18) (ct + 1) fo, .val (.int m), .val (.int i), .hole, .hole]) ?_).trans evSs_nil
        rw [evS_ite draw2c, if_pos (decide_eq_true hi), evSs_next draw2d, evSs_nil]
      · refine ⟨pl + 1, dg, (fo * 22695477 + i) % 2147483587, .val (.int i), ?_, ⟨Q.ci, Q.len, by have := Q.pl0; omega, Q.dg0, Q1.ct0, Q1.ctB, Int.emod_nonneg _ (by decide), Int.emod_lt_of_pos _ (by decide)⟩⟩
        refine (evSs_next (e' := [pen xs (pl + 1) dg (ct + 1) ((fo * 22695477 + i) % 2147483587), .val (.int m), .val (.int i), .hole, .hole]) ?_).trans evSs_nil
        rw [evS_ite draw2c, if_neg (by simpa using hi), evSs_next draw2e, evSs_nil]
    · rw [if_neg hc, evSs_nil]
      exact ⟨pl, dg, fo, .hole, rfl, Q1⟩
  obtain ⟨pl', dg', fo', h2, e2, Q2⟩ := second
  have e2 : evS (cDraw P W O) (.ite _ _ _) _ = _ := e2
  rw [evSs_next e2]
  by_cases hd : 0 < dg'
  · refine ⟨dg' % m, pl', dg' / m, fo', h2, .hole, .hole, ?_, ⟨Q2.ci, Q2.len, Q2.pl0, Int.ediv_nonneg Q2.dg0 (by omega), Q2.ct0, Q2.ctB, Q2.fo0, Q2.foB⟩, Int.emod_nonneg _ (by omega), Int.emod_lt_of_pos _ h0⟩
    refine evSs_ret ?_
    rw [evS_ite draw3t, if_pos (decide_eq_true hd), evSs_next (draw3a h0), evSs_next (draw3b h0 hm)]
    exact evSs_ret (evS_retv rfl rfl)
  · rw [evSs_next (e' := [pen xs pl' dg' (ct + 1) fo', .val (.int m), h2, .hole, .hole]) (by rw [evS_ite draw3t, if_neg (by simpa using hd), evSs_nil]), evSs_next draw4]
    refine ⟨_, pl', dg', fo', h2, .hole, _, evSs_ret (draw5 h0 ?_), Q2, Int.emod_nonneg _ (by omega), Int.emod_lt_of_pos _ h0⟩
    have := Q2.ct0; have := Q2.ctB; have := Q2.fo0; have := Q2.foB
    omega
theorem draw_ok (hf : P.fns (.fn "_law_draw") = some dDraw) {k B : Nat} {p : Pl} (Q : Pen B p) (h0 : 0 < m) (hm : m < 1073741824) (hB : B < 2 ^ 50) :
    ∃ d p', callN P W (k + 1) (.fn "_law_draw") [p, .val (.int m)] = .ok (.val (.int d)) [p', .val (.int m)] ∧ Pen (B + 1) p' ∧ 0 ≤ d ∧ d < m := by
  obtain ⟨xs, pl, dg, ct, fo, rfl, Q⟩ := Q
  obtain ⟨d, pl', dg', fo', h2, h3, h4, e, Q', d0, d1⟩ := draw_body (P := P) (W := W) (O := callN P W k) Q h0 hm hB
  refine ⟨d, pen xs pl' dg' (ct + 1) fo', ?_, ⟨_, _, _, _, _, rfl, Q'⟩, d0, d1⟩
  have e' : evSs (ctxOf P W (callN P W k) dDraw) dDraw.body ([pen xs pl dg ct fo, .val (.int m)] ++ List.replicate (dDraw.n - dDraw.np) .hole) = _ := e
  simp only [callN, hf]
  rw [if_pos ⟨rfl, by decide, rfl⟩, e']
  rfl
end
end Ev
namespace Ev
open PySem
section
variable {c : Ctx} {a b t : IE} {e e' e1 e2 e3 : Env} {r k : Bool} {x y : Opnd} {u v : Val} {p : Pl} {op : Operator}
theorem forGo_inv {tg : Val → Env → Option Env} {bd : Env → SOut} (I : Nat → Env → Prop) : ∀ (its : List Val) (n : Nat) (e : Env), I n e →
    (∀ j v e, its[j]? = some v → I (n + j) e → ∃ e1 e2, tg v e = some e1 ∧ bd e1 = .next e2 ∧ I (n + j + 1) e2) → ∃ e', forGo tg bd its e = .next e' ∧ I (n + its.length) e'
  | [], n, e, h, _ => ⟨e, by simp [forGo], h⟩
  | v :: vs, n, e, h, step => by
    obtain ⟨e1, e2, h1, h2, h3⟩ := step 0 v e rfl h
    obtain ⟨e', h4, h5⟩ := forGo_inv I vs (n + 1) e2 h3 fun j w e hj hI => by
      have := step (j + 1) w e (by simpa using hj) (by rw [show n + (j + 1) = n + 1 + j by omega]; exact hI)
      rw [show n + (j + 1) + 1 = n + 1 + j + 1 by omega] at this
      exact this
    refine ⟨e', by simp [forGo, h1, h2, h4], ?_⟩
    rw [List.length_cons, show n + (vs.length + 1) = n + 1 + vs.length by omega]
    exact h5
theorem rS_for {tg : Tgt} {sk : SrcK} {src : List IE} {bd : List IS} {ss items : List Val} (hs : evXs c src e = .ok ss e1) (hv : srcV sk ss = some items) : evS c (.for tg sk src bd) e = forGo (asgT c.pin tg) (evSs c bd) items e1 := by simp [evS, hs, hv]
theorem evXs_cons {as : List IE} {vs : List Val} (h : evX c a e = .ok v e1) (h2 : evXs c as e1 = .ok vs e2) : evXs c (a :: as) e = .ok (v :: vs) e2 := by
  have h' : (evO c a e).bind freeze = .ok v e1 := h
  simp [evXs, h', h2]
theorem evO_lst {as : List IE} {vs : List Val} (h : evXs c as e = .ok vs e1) (hl : vs.length ≤ line) : evO c (.lst as) e = .ok (.tmp (.lst vs)) e1 := by simp [evO, h, hl]
theorem srcV_range1 {n : Nat} (h : n < 2 ^ 61) : srcV .range1 [.int (n : Int)] = some ((List.range n).map fun (k : Nat) => .int (k : Int)) := by
  have hh : -(2 ^ 62) ≤ (n : Int) ∧ (n : Int) < 2 ^ 62 := by omega
  unfold srcV
  split
  all_goals first
    | (rename_i e1 e2; cases e2; rw [if_pos hh]; rfl)
    | (rename_i e1; cases e1; rw [if_pos hh]; rfl)
    | simp_all
theorem evXs_one (h : evX c a e = .ok v e1) : evXs c [a] e = .ok [v] e1 := by
  have h' : (evO c a e).bind freeze = .ok v e1 := h
  simp [evXs, h']
theorem evO_call {f : Str} {as : List IE} {os : List Opnd} {args : List Arg} {ps : List Pl} (h : evArgs c as (c.rb (.fn f)) e = .ok os e1) (ht : takeAll os e1 = some (args, e2)) (hh : holesOk e2 args = true) (hO : c.O (.fn f) (args.map Arg.pl) = .ok p ps) (hp : putAll args ps e2 = some e') :
    evO c (.call f as) e = .ok (.tmp p) e' := by
  simp [evO, h, callO, ht, hh, hO, hp]
theorem callN_of {P : Prg} {W n : Nat} {f : FnId} {d : FnD} {ps : List Pl} (hf : P.fns f = some d) (h1 : ps.length = d.np) (h2 : d.np ≤ d.n) (h3 : rbOk d.rb ps = true) :
    callN P W (n + 1) f ps = finish d ps (evSs (ctxOf P W (callN P W n) d) d.body (ps ++ List.replicate (d.n - d.np) .hole)) := by
  simp only [callN, hf]
  rw [if_pos ⟨h1, h2, h3⟩]
def bPen : List IS := [
  .asg 1 (.cst (.int 0)),
  .for (.nm 2) .seq [.var 0] [.asg 1 (.bin .Mod (.bi .int [.bin .Add (.bin .Mult (.var 1) (.cst (.int 47))) (.var 2)]) (.cst (.int 1000000007)))],
  .ret (.rcd ["cells", "at", "digits", "count", "fold"] [.bi .listOf [.var 0], .cst (.int 0), .cst (.int 0), .cst (.int 0), .var 1])]
def dPen : FnD := ⟨1, 3, [false], bPen⟩
theorem pen_ok {P : Prg} {W k : Nat} {ns : List Int} (hf : P.fns (.fn "_law_pen") = some dPen) (hn : ns.length ≤ 63) :
    ∃ p, callN P W (k + 1) (.fn "_law_pen") [.val (.fzl (ns.map Val.int))] = .ok p [.val (.fzl (ns.map Val.int))] ∧ Pen 0 p := by
  rw [callN_of hf rfl (by decide) rfl]
  show ∃ p, finish dPen _ (evSs _ bPen [.val (.fzl (ns.map Val.int)), .hole, .hole]) = _ ∧ _
  unfold bPen
  rw [evSs_next (e' := [.val (.fzl (ns.map Val.int)), .val (.int 0), .hole]) rfl]
  have loop := forGo_inv (tg := asgT (ctxOf P W (callN P W k) dPen).pin (.nm 2)) (bd := evSs (ctxOf P W (callN P W k) dPen) [.asg 1 (.bin .Mod (.bi .int [.bin .Add (.bin .Mult (.var 1) (.cst (.int 47))) (.var 2)]) (.cst (.int 1000000007)))])
    (fun _ e => ∃ (f : Int) (h : Pl), e = [.val (.fzl (ns.map Val.int)), .val (.int f), h] ∧ 0 ≤ f ∧ f < 1000000007) (ns.map Val.int) 0 [.val (.fzl (ns.map Val.int)), .val (.int 0), .hole] ⟨0, .hole, rfl, by decide, by decide⟩ (fun j v e hj hI => by
      obtain ⟨f, h, rfl, f0, f1⟩ := hI
      obtain ⟨i, rfl⟩ : ∃ i, v = .int i := by
        rw [List.getElem?_map] at hj
        cases q : ns[j]? with
        | none => rw [q] at hj; cases hj
        | some i => rw [q] at hj; cases hj; exact ⟨i, rfl⟩
      refine ⟨_, [.val (.fzl (ns.map Val.int)), .val (.int ((f * 47 + i) % 1000000007)), .val (.int i)], rfl, (evSs_next ?_).trans evSs_nil, _, _, rfl, Int.emod_nonneg _ (by decide), Int.emod_lt_of_pos _ (by decide)⟩
      refine pAsg (.tmp (.val (.int ((f * 47 + i) % 1000000007)))) _ (pBin (.tmp (.val (.int (f * 47 + i)))) (.tmp (.val (.int 1000000007))) (.int (f * 47 + i)) (.int 1000000007) (pBi1 (.tmp (.val (.int (f * 47 + i)))) (.int (f * 47 + i))
        (pBin (.tmp (.val (.int (f * 47)))) (.at 2 []) (.int (f * 47)) (.int i) (pBin (.at 1 []) (.tmp (.val (.int 47))) (.int f) (.int 47) rfl rfl rfl rfl rfl (binV_mulR (by decide) (by decide))) rfl rfl rfl rfl rfl) rfl rfl) rfl rfl rfl rfl (binV_mod (by decide))) rfl rfl)
  obtain ⟨e', h1, f, h, rfl, f0, f1⟩ := loop
  rw [evSs_next ((rS_for (ss := [.fzl (ns.map Val.int)]) (evXs_one rfl) rfl).trans h1)]
  refine ⟨pen (ns.map Val.int) 0 0 0 f, ?_, _, _, _, _, _, rfl, fun v hv => ?_, by simpa using hn, by decide, by decide, by decide, by decide, f0, by omega⟩
  · rfl
  · obtain ⟨i, _, rfl⟩ := List.mem_map.mp hv
    exact ⟨i, rfl⟩
def bPick : List IS := [.ret (.ix (.var 1) (.call "_law_draw" [.var 0, .bi .len [.var 1]]))]
def dPick : FnD := ⟨2, 2, [false, false], bPick⟩
/-- the items of what is picked from -/
def picks : Pl → Option (List Val)
  | .lst xs => some xs
  | .val (.lst xs) => some xs
  | .val (.tup xs) => some xs
  | _ => none
theorem pick_ok {P : Prg} {W k B : Nat} {p q : Pl} {xs : List Val} (hf : P.fns (.fn "_law_pick") = some dPick) (hd : P.fns (.fn "_law_draw") = some dDraw) (Q : Pen B p) (hq : picks q = some xs) (hx : xs ≠ []) (hl : xs.length < 1073741824) (hB : B < 2 ^ 50) :
    ∃ v p', callN P W (k + 2) (.fn "_law_pick") [p, q] = .ok (.val v) [p', q] ∧ Pen (B + 1) p' ∧ v ∈ xs := by
  have hpos : 0 < xs.length := List.length_pos_iff.mpr hx
  obtain ⟨d, p', h1, h2, h3, h4⟩ := draw_ok (W := W) (k := k) hd Q (m := xs.length) (by omega) (by omega) hB
  obtain ⟨v, hv, vm⟩ := atI_cell h3 h4
  refine ⟨v, p', ?_, h2, vm⟩
  rw [callN_of hf rfl (by decide) rfl]
  obtain ⟨zs, pl, dg, ct, fo, rfl, _⟩ := Q
  have key : ∀ c : Ctx, c = ctxOf P W (callN P W (k + 1)) dPick → evO c (.ix (.var 1) (.call "_law_draw" [.var 0, .bi .len [.var 1]])) [pen zs pl dg ct fo, q] = .ok (.tmp (.val v)) [p', q] := fun c hc => by
    have hr : c.rb (.fn "_law_draw") = [false, false] := by subst hc; simp only [ctxOf, hd]; rfl
    have hO : c.O (.fn "_law_draw") [pen zs pl dg ct fo, .val (.int xs.length)] = .ok (.val (.int d)) [p', .val (.int xs.length)] := by subst hc; exact h1
    have hlen : evO c (.bi .len [.var 1]) [pen zs pl dg ct fo, q] = .ok (.tmp (.val (.int xs.length))) [pen zs pl dg ct fo, q] := by
      cases q with
      | lst ys => cases hq; exact pBi1 (.at 1 []) (.lst xs) rfl rfl rfl
      | val w =>
        cases w with
        | lst ys => cases hq; exact pBi1 (.at 1 []) (.lst xs) rfl rfl rfl
        | tup ys => cases hq; exact pBi1 (.at 1 []) (.tup xs) rfl rfl rfl
        | _ => cases hq
      | _ => cases hq
    have hcall : evO c (.call "_law_draw" [.var 0, .bi .len [.var 1]]) [pen zs pl dg ct fo, q] = .ok (.tmp (.val (.int d))) [p', q] := by
      refine evO_call (os := [.at 0 [], .tmp (.val (.int xs.length))]) (e1 := [pen zs pl dg ct fo, q]) (args := [.put 0 [] (pen zs pl dg ct fo), .fix (.val (.int xs.length))]) (e2 := [.hole, q]) ?_ rfl rfl hO rfl
      rw [hr]
      have e0 : evO c (.var 0) [pen zs pl dg ct fo, q] = .ok (.at 0 []) [pen zs pl dg ct fo, q] := rfl
      simp only [evArgs]
      rw [e0]
      simp only [Out.bind_ok, Bool.false_eq_true, if_false, hlen, plain, Bool.true_or, if_true]
    cases q with
    | lst ys =>
      cases hq
      refine evO_ix (x := .at 1 []) (e1 := [pen zs pl dg ct fo, .lst xs]) (v := .int d) (e2 := [p', .lst xs]) rfl rfl (evX_of hcall rfl) ?_
      show Out.of (((some (Val.lst xs)).bind fun x => ixV x (.int d)).map fun v => Opnd.tmp (.val v)) _ = _
      simp [ixV, hv]
    | val w =>
      cases w with
      | lst ys =>
        cases hq
        refine evO_ix (x := .at 1 []) (e1 := [pen zs pl dg ct fo, .val (.lst xs)]) (v := .int d) (e2 := [p', .val (.lst xs)]) rfl rfl (evX_of hcall rfl) ?_
        show Out.of (((some (Val.lst xs)).bind fun x => ixV x (.int d)).map fun v => Opnd.tmp (.val v)) _ = _
        simp [ixV, hv]
      | tup ys =>
        cases hq
        refine evO_ix (x := .at 1 []) (e1 := [pen zs pl dg ct fo, .val (.tup xs)]) (v := .int d) (e2 := [p', .val (.tup xs)]) rfl rfl (evX_of hcall rfl) ?_
        show Out.of (((some (Val.tup xs)).bind fun x => ixV x (.int d)).map fun v => Opnd.tmp (.val v)) _ = _
        simp [ixV, hv]
      | _ => cases hq
    | _ => cases hq
  have run : evSs (ctxOf P W (callN P W (k + 1)) dPick) bPick [pen zs pl dg ct fo, q] = .ret (.val v) [p', q] := evSs_ret (evS_ret (key _ rfl) rfl (fun i z => by cases z))
  show finish dPick _ (evSs _ bPick [pen zs pl dg ct fo, q]) = _
  rw [run]
  rfl
theorem evDraw {P : Prg} {W k B : Nat} {d : FnD} {p : Pl} {rest : Env} {m : Int} (hd : P.fns (.fn "_law_draw") = some dDraw) (Q : Pen B p) (h0 : 0 < m) (hm : m < 1073741824) (hB : B < 2 ^ 50)
    (hb : evO (ctxOf P W (callN P W (k + 1)) d) b (p :: rest) = .ok (.tmp (.val (.int m))) (p :: rest)) :
    ∃ n p', evO (ctxOf P W (callN P W (k + 1)) d) (.call "_law_draw" [.var 0, b]) (p :: rest) = .ok (.tmp (.val (.int n))) (p' :: rest) ∧ Pen (B + 1) p' ∧ 0 ≤ n ∧ n < m := by
  obtain ⟨n, p', h1, h2, h3, h4⟩ := draw_ok (W := W) (k := k) hd Q h0 hm hB
  refine ⟨n, p', ?_, h2, h3, h4⟩
  obtain ⟨zs, pl, dg, ct, fo, rfl, _⟩ := Q
  refine evO_call (os := [.at 0 [], .tmp (.val (.int m))]) (e1 := pen zs pl dg ct fo :: rest) (args := [.put 0 [] (pen zs pl dg ct fo), .fix (.val (.int m))]) (e2 := .hole :: rest) ?_ rfl rfl h1 rfl
  have hr : (ctxOf P W (callN P W (k + 1)) d).rb (.fn "_law_draw") = [false, false] := by simp only [ctxOf, hd]; rfl
  rw [hr]
  have e0 : evO (ctxOf P W (callN P W (k + 1)) d) (.var 0) (pen zs pl dg ct fo :: rest) = .ok (.at 0 []) (pen zs pl dg ct fo :: rest) := rfl
  simp only [evArgs]
  rw [e0]
  simp only [Out.bind_ok, Bool.false_eq_true, if_false, hb, plain, Bool.true_or, if_true]
theorem evPick {P : Prg} {W k B : Nat} {d : FnD} {p q : Pl} {rest : Env} {xs : List Val} (hf : P.fns (.fn "_law_pick") = some dPick) (hd : P.fns (.fn "_law_draw") = some dDraw) (Q : Pen B p) (hq : picks q = some xs) (hx : xs ≠ []) (hl : xs.length < 1073741824) (hB : B < 2 ^ 50)
    (hb : evO (ctxOf P W (callN P W (k + 2)) d) b (p :: rest) = .ok (.tmp q) (p :: rest)) :
    ∃ v p', evO (ctxOf P W (callN P W (k + 2)) d) (.call "_law_pick" [.var 0, b]) (p :: rest) = .ok (.tmp (.val v)) (p' :: rest) ∧ Pen (B + 1) p' ∧ v ∈ xs := by
  obtain ⟨v, p', h1, h2, h3⟩ := pick_ok (W := W) (k := k) hf hd Q hq hx hl hB
  refine ⟨v, p', ?_, h2, h3⟩
  obtain ⟨zs, pl, dg, ct, fo, rfl, _⟩ := Q
  refine evO_call (os := [.at 0 [], .tmp q]) (e1 := pen zs pl dg ct fo :: rest) (args := [.put 0 [] (pen zs pl dg ct fo), .fix q]) (e2 := .hole :: rest) ?_ rfl rfl h1 rfl
  have hr : (ctxOf P W (callN P W (k + 2)) d).rb (.fn "_law_pick") = [false, false] := by simp only [ctxOf, hf]; rfl
  rw [hr]
  have e0 : evO (ctxOf P W (callN P W (k + 2)) d) (.var 0) (pen zs pl dg ct fo :: rest) = .ok (.at 0 []) (pen zs pl dg ct fo :: rest) := rfl
  simp only [evArgs]
  rw [e0]
  simp only [Out.bind_ok, Bool.false_eq_true, if_false, hb, plain, Bool.true_or, if_true]
/-- a call of a def that takes what stands at the first slot alone -/
theorem evCall0 {c : Ctx} {f : Str} {p p' r : Pl} {rest : Env} (hr : c.rb (.fn f) = [false]) (hO : c.O (.fn f) [p] = .ok r [p']) (hp : ∃ fs, p = .rcd fs) : evO c (.call f [.var 0]) (p :: rest) = .ok (.tmp r) (p' :: rest) := by
  obtain ⟨fs, rfl⟩ := hp
  refine evO_call (os := [.at 0 []]) (e1 := .rcd fs :: rest) (args := [.put 0 [] (.rcd fs)]) (e2 := .hole :: rest) ?_ rfl rfl hO rfl
  rw [hr]
  have e0 : evO c (.var 0) (.rcd fs :: rest) = .ok (.at 0 []) (.rcd fs :: rest) := rfl
  simp only [evArgs]
  rw [e0]
  simp only [Out.bind_ok, Bool.false_eq_true, if_false, plain, Bool.true_or, if_true]
theorem Pen.rcd {B : Nat} {p : Pl} (h : Pen B p) : ∃ fs, p = .rcd fs := by
  obtain ⟨zs, pl, dg, ct, fo, rfl, _⟩ := h
  exact ⟨_, rfl⟩
theorem Pen.mono {B B' : Nat} {p : Pl} (h : Pen B p) (k : B ≤ B') : Pen B' p := by
  obtain ⟨zs, pl, dg, ct, fo, rfl, Q⟩ := h
  exact ⟨zs, pl, dg, ct, fo, rfl, Q.ci, Q.len, Q.pl0, Q.dg0, Q.ct0, by have := Q.ctB; omega, Q.fo0, Q.foB⟩
theorem sOk_ofString (s : String) : sOk (Str.ofString s) = true := by
  rw [Str.ofString_eq_toList]
  unfold sOk
  rw [Array.all_eq_true_iff_forall_mem]
  intro n hn
  simp only [List.mem_toArray, List.mem_map] at hn
  obtain ⟨ch, _, rfl⟩ := hn
  have := ch.valid
  refine decide_eq_true ?_
  show ch.val.toNat < _
  rcases this with h | ⟨_, h⟩
  · have : ch.val.toNat < 0xd800 := h
    omega
  · exact h
theorem sOk_app {x y : Str} (h1 : sOk x = true) (h2 : sOk y = true) : sOk (x ++ y) = true := by
  unfold sOk at *
  show (x.cps ++ y.cps).all _ = true
  rw [Array.all_append, h1, h2]; rfl
end
end Ev
namespace Ev.k00
open PySem
abbrev pw : PySem.Program := PySem.Challenge.pw_sevenpoints_k00_errors_made_by_hand
def top (i : Nat) : Stmt := pw.main.body.getD i (.Pass ⟨0, 0, 0, 0⟩)
def sub (i j : Nat) : Stmt := (match top i with
  | .ClassDef (body := b) .. => b
  | _ => []).getD j (.Pass ⟨0, 0, 0, 0⟩)
def t_law_pen : DefT := ⟨none, "_law_pen", L2.defArgs (top 18), L2.defBody (top 18), L2.defScope (top 18), ["_law_script", "_law_fold", "_law_cell"], ["_law_script"], [false]⟩
def b_law_pen : List IS := [
  .asg 1 (.cst (.int 0)),
  .for (.nm 2) .seq [.var 0] [.asg 1 (.bin .Mod (.bi .int [.bin .Add (.bin .Mult (.var 1) (.cst (.int 47))) (.var 2)]) (.cst (.int 1000000007)))],
  .ret (.rcd ["cells", "at", "digits", "count", "fold"] [.bi .listOf [.var 0], .cst (.int 0), .cst (.int 0), .cst (.int 0), .var 1])]
def d_law_pen : FnD := ⟨1, 3, [false], b_law_pen⟩
def t_law_draw : DefT := ⟨none, "_law_draw", L2.defArgs (top 19), L2.defBody (top 19), L2.defScope (top 19), ["_law_pen_here", "_law_many", "_law_cell", "_law_digit", "_law_mixed"], ["_law_pen_here", "_law_many"], [false, false]⟩
def b_law_draw : List IS := [
  .asgSub (.var 0) (.cst (.str "count")) (.bin .Add (.ix (.var 0) (.cst (.str "count"))) (.cst (.int 1))),
  .ite (.and (.cmp .Eq (.ix (.var 0) (.cst (.str "digits"))) (.cst (.int 0))) (.cmp .Lt (.ix (.var 0) (.cst (.str "at"))) (.bi .len [.ix (.var 0) (.cst (.str "cells"))]))) [.asg 2 (.ix (.ix (.var 0) (.cst (.str "cells"))) (.ix (.var 0) (.cst (.str "at")))), .asgSub (.var 0) (.cst (.str "at")) (.bin .Add (.ix (.var 0) (.cst (.str "at"))) (.cst (.int 1))), .ite (.cmp .GtE (.var 2) (.bin .Pow (.cst (.int 10)) (.cst (.int 18)))) [.asgSub (.var 0) (.cst (.str "digits")) (.bin .Sub (.var 2) (.bin .Pow (.cst (.int 10)) (.cst (.int 18))))] [.asgSub (.var 0) (.cst (.str "fold")) (.bin .Mod (.bi .int [.bin .Add (.bin .Mult (.ix (.var 0) (.cst (.str "fold"))) (.cst (.int 22695477))) (.var 2)]) (.cst (.int 2147483587)))]] [],
  .ite (.cmp .Gt (.ix (.var 0) (.cst (.str "digits"))) (.cst (.int 0))) [.asg 3 (.bin .Mod (.bi .int [.ix (.var 0) (.cst (.str "digits"))]) (.var 1)), .asgSub (.var 0) (.cst (.str "digits")) (.bin .FloorDiv (.ix (.var 0) (.cst (.str "digits"))) (.var 1)), .ret (.var 3)] [],
  .asg 4 (.bin .Add (.bin .Add (.ix (.var 0) (.cst (.str "fold"))) (.bin .Mult (.ix (.var 0) (.cst (.str "count"))) (.cst (.int 8011)))) (.cst (.int 43))),
  .ret (.bin .Mod (.bin .FloorDiv (.bi .int [.bin .Mod (.bin .Pow (.var 4) (.cst (.int 17))) (.cst (.int 2305843009213693951))]) (.cst (.int 128))) (.var 1))]
def d_law_draw : FnD := ⟨2, 5, [false, false], b_law_draw⟩
def t_law_pick : DefT := ⟨none, "_law_pick", L2.defArgs (top 20), L2.defBody (top 20), L2.defScope (top 20), ["_law_pen_here", "_law_some"], ["_law_pen_here", "_law_some"], [false, false]⟩
def b_law_pick : List IS := [
  .ret (.ix (.var 1) (.call "_law_draw" [.var 0, .bi .len [.var 1]]))]
def d_law_pick : FnD := ⟨2, 2, [false, false], b_law_pick⟩
def t_law_far : DefT := ⟨none, "_law_far", L2.defArgs (top 21), L2.defBody (top 21), L2.defScope (top 21), ["_law_pen_here", "_law_sign", "_law_many", "_law_far_here", "_law_lap"], ["_law_pen_here"], [false]⟩
def b_law_far : List IS := [
  .asgs [1, 2, 3] [.bin .Sub (.cst (.int 1)) (.bin .Mult (.cst (.int 2)) (.call "_law_draw" [.var 0, .cst (.int 2)])), .call "_law_pick" [.var 0, .lst [.cst (.int 0), .cst (.int 0), .cst (.int 1), .cst (.int 3), .cst (.int 9)]], .call "_law_draw" [.var 0, .cst (.int 40)]],
  .for (.nm 4) .range1 [.var 2] [.asg 3 (.bin .Add (.bin .Mult (.var 3) (.bin .Pow (.cst (.int 10)) (.cst (.int 6)))) (.call "_law_draw" [.var 0, .bin .Pow (.cst (.int 10)) (.cst (.int 6))]))],
  .ret (.bin .Mult (.var 1) (.var 3))]
def d_law_far : FnD := ⟨1, 5, [false], b_law_far⟩
def t_law_kinds : DefT := ⟨none, "_law_kinds", L2.defArgs (top 22), L2.defBody (top 22), L2.defScope (top 22), ["_law_e", "_law_first"], ["_law_e"], [false]⟩
def b_law_kinds : List IS := [
  .asg 1 (.lst [.isx (.var 0) "BadNumber", .isx (.var 0) "BadProgram", .isx (.var 0) "BadText", .isx (.var 0) "BadName"]),
  .asg 1 (.bin .Add (.var 1) (.lst [.isx (.var 0) "NoName", .isx (.var 0) "TakenName", .isx (.var 0) "BadRow", .isx (.var 0) "BadPlace"])),
  .asg 1 (.bin .Add (.var 1) (.lst [.isx (.var 0) "BadPoint", .isx (.var 0) "Unlike", .isx (.var 0) "TooMany", .isx (.var 0) "NotKept"])),
  .ret (.bin .Add (.var 1) (.lst [.isx (.var 0) "BadPromise", .isx (.var 0) "NothingToUndo", .isx (.var 0) "NothingToRedo"]))]
def d_law_kinds : FnD := ⟨1, 2, [false], b_law_kinds⟩
def t_law_made : DefT := ⟨none, "_law_made", L2.defArgs (top 23), L2.defBody (top 23), L2.defScope (top 23), ["_law_a", "_law_b", "_law_first"], ["_law_a", "_law_b"], [false, false]⟩
def b_law_made : List IS := [
  .asg 2 (.lst [.mkx "BadNumber" [.var 0, .var 1], .mkx "BadProgram" [.var 0], .mkx "BadText" [.var 0, .var 1], .mkx "BadName" [.var 0], .mkx "NoName" [.var 0], .mkx "TakenName" [.var 0], .mkx "BadRow" [.var 0]]),
  .asg 2 (.bin .Add (.var 2) (.lst [.mkx "BadPlace" [.var 0], .mkx "BadPoint" [.var 0], .mkx "Unlike" [.var 0], .mkx "TooMany" [.var 0, .var 1], .mkx "NotKept" [.var 0, .var 1], .mkx "BadPromise" [.var 0]])),
  .ret (.bin .Add (.var 2) (.lst [.mkx "NothingToUndo" [], .mkx "NothingToRedo" []]))]
def d_law_made : FnD := ⟨2, 3, [false, false], b_law_made⟩
def t_law_fields : DefT := ⟨none, "_law_fields", L2.defArgs (top 24), L2.defBody (top 24), L2.defScope (top 24), ["_law_row", "_law_first"], ["_law_row"], [false]⟩
def b_law_fields : List IS := [
  .asg 1 (.lst [.lst [.fldx (.ix (.var 0) (.cst (.int 0))) "what", .fldx (.ix (.var 0) (.cst (.int 0))) "value"], .lst [.fldx (.ix (.var 0) (.cst (.int 1))) "value"], .lst [.fldx (.ix (.var 0) (.cst (.int 2))) "line", .fldx (.ix (.var 0) (.cst (.int 2))) "column"], .lst [.fldx (.ix (.var 0) (.cst (.int 3))) "name"]]),
  .asg 1 (.bin .Add (.var 1) (.lst [.lst [.fldx (.ix (.var 0) (.cst (.int 4))) "name"], .lst [.fldx (.ix (.var 0) (.cst (.int 5))) "name"], .lst [.fldx (.ix (.var 0) (.cst (.int 6))) "value"], .lst [.fldx (.ix (.var 0) (.cst (.int 7))) "value"], .lst [.fldx (.ix (.var 0) (.cst (.int 8))) "value"], .lst [.fldx (.ix (.var 0) (.cst (.int 9))) "what"]])),
  .ret (.bin .Add (.var 1) (.lst [.lst [.fldx (.ix (.var 0) (.cst (.int 10))) "what", .fldx (.ix (.var 0) (.cst (.int 10))) "limit"], .lst [.fldx (.ix (.var 0) (.cst (.int 11))) "promise", .fldx (.ix (.var 0) (.cst (.int 11))) "witness"], .lst [.fldx (.ix (.var 0) (.cst (.int 12))) "column"], .lst [], .lst []]))]
def d_law_fields : FnD := ⟨1, 2, [false], b_law_fields⟩
def t_law_value : DefT := ⟨none, "_law_value", L2.defArgs (top 25), L2.defBody (top 25), L2.defScope (top 25), ["_law_pen_here", "_law_far_here", "_law_some"], ["_law_pen_here"], [false]⟩
def b_law_value : List IS := [
  .asg 1 (.call "_law_far" [.var 0]),
  .asg 2 (.lst [.var 1, .bin .Add (.cst (.str "x")) (.bi .strOf [.bin .Mod (.bi .abs [.var 1]) (.cst (.int 1000))]), .cst .non, .tup [.var 1, .cst (.str "a")], .lst [.var 1], .cst (.bl true), .cst (.str "")]),
  .ret (.call "_law_pick" [.var 0, .bin .Add (.var 2) (.lst [.tup [.cst (.str "least"), .cst (.int 2)], .tup [.cst (.str "rest"), .cst (.int 2), .lst [.cst (.int 1)]]])])]
def d_law_value : FnD := ⟨1, 3, [false], b_law_value⟩
def t_law : DefT := ⟨none, "law", L2.defArgs (top 26), L2.defBody (top 26), L2.defScope (top 26), ["_law_script", "_law_pen_here", "_law_given", "_law_k", "_law_row", "_law_e", "_law_j", "_law_fields_here"], ["_law_script"], [false]⟩
def b_law : List IS := [
  .asg 1 (.call "_law_pen" [.var 0]),
  .asg 2 (.lc [3] (.nm 3) .range1 [.cst (.int 2)] [] (.call "_law_value" [.var 1])),
  .asg 4 (.call "_law_made" [.ix (.var 2) (.cst (.int 0)), .ix (.var 2) (.cst (.int 1))]),
  .for (.tp [3, 5]) .enum [.var 4] [.ite (.or (.not (.isx (.var 5) "PointError")) (.not (.isx (.var 5) "ValueError"))) [.ret (.cst (.bl false))] [], .ite (.cmp .NotEq (.call "_law_kinds" [.var 5]) (.lc [6] (.nm 6) .range1 [.bi .len [.var 4]] [] (.cmp .Eq (.var 6) (.var 3)))) [.ret (.cst (.bl false))] []],
  .for (.nm 7) .seq [.call "_law_fields" [.var 4]] [.ite (.or (.cmp .NotEq (.var 7) (.sl (.var 2) none (some (.bi .len [.var 7])))) (.cmp .NotEq (.bi .repr [.var 7]) (.bi .repr [.sl (.var 2) none (some (.bi .len [.var 7]))]))) [.ret (.cst (.bl false))] []],
  .ret (.cmp .Eq (.lc [7] (.nm 7) .seq [.call "_law_fields" [.var 4]] [] (.bi .len [.var 7])) (.lst [.cst (.int 2), .cst (.int 1), .cst (.int 2), .cst (.int 1), .cst (.int 1), .cst (.int 1), .cst (.int 1), .cst (.int 1), .cst (.int 1), .cst (.int 1), .cst (.int 2), .cst (.int 2), .cst (.int 1), .cst (.int 0), .cst (.int 0)]))]
def d_law : FnD := ⟨1, 8, [false], b_law⟩
def defs : Prog := [(t_law_pen, d_law_pen), (t_law_draw, d_law_draw), (t_law_pick, d_law_pick), (t_law_far, d_law_far), (t_law_kinds, d_law_kinds), (t_law_made, d_law_made), (t_law_fields, d_law_fields), (t_law_value, d_law_value), (t_law, d_law)]
def cons : List (Str × Val) := []
def x_BadNumber : DefT := ⟨some "BadNumber", "__init__", L2.defArgs (sub 2 0), L2.defBody (sub 2 0), L2.defScope (sub 2 0), ["self", "what", "value"], ["self", "what", "value"], [false, false, false]⟩
def x_BadProgram : DefT := ⟨some "BadProgram", "__init__", L2.defArgs (sub 3 0), L2.defBody (sub 3 0), L2.defScope (sub 3 0), ["self", "value"], ["self", "value"], [false, false]⟩
def x_BadText : DefT := ⟨some "BadText", "__init__", L2.defArgs (sub 4 0), L2.defBody (sub 4 0), L2.defScope (sub 4 0), ["self", "line", "column"], ["self", "line", "column"], [false, false, false]⟩
def x_BadName : DefT := ⟨some "BadName", "__init__", L2.defArgs (sub 5 0), L2.defBody (sub 5 0), L2.defScope (sub 5 0), ["self", "name"], ["self", "name"], [false, false]⟩
def x_NoName : DefT := ⟨some "NoName", "__init__", L2.defArgs (sub 6 0), L2.defBody (sub 6 0), L2.defScope (sub 6 0), ["self", "name"], ["self", "name"], [false, false]⟩
def x_TakenName : DefT := ⟨some "TakenName", "__init__", L2.defArgs (sub 7 0), L2.defBody (sub 7 0), L2.defScope (sub 7 0), ["self", "name"], ["self", "name"], [false, false]⟩
def x_BadRow : DefT := ⟨some "BadRow", "__init__", L2.defArgs (sub 8 0), L2.defBody (sub 8 0), L2.defScope (sub 8 0), ["self", "value"], ["self", "value"], [false, false]⟩
def x_BadPlace : DefT := ⟨some "BadPlace", "__init__", L2.defArgs (sub 9 0), L2.defBody (sub 9 0), L2.defScope (sub 9 0), ["self", "value"], ["self", "value"], [false, false]⟩
def x_BadPoint : DefT := ⟨some "BadPoint", "__init__", L2.defArgs (sub 10 0), L2.defBody (sub 10 0), L2.defScope (sub 10 0), ["self", "value"], ["self", "value"], [false, false]⟩
def x_Unlike : DefT := ⟨some "Unlike", "__init__", L2.defArgs (sub 11 0), L2.defBody (sub 11 0), L2.defScope (sub 11 0), ["self", "what"], ["self", "what"], [false, false]⟩
def x_TooMany : DefT := ⟨some "TooMany", "__init__", L2.defArgs (sub 12 0), L2.defBody (sub 12 0), L2.defScope (sub 12 0), ["self", "what", "limit"], ["self", "what", "limit"], [false, false, false]⟩
def x_NotKept : DefT := ⟨some "NotKept", "__init__", L2.defArgs (sub 13 0), L2.defBody (sub 13 0), L2.defScope (sub 13 0), ["self", "promise", "witness"], ["self", "promise", "witness"], [false, false, false]⟩
def x_BadPromise : DefT := ⟨some "BadPromise", "__init__", L2.defArgs (sub 14 0), L2.defBody (sub 14 0), L2.defScope (sub 14 0), ["self", "column"], ["self", "column"], [false, false]⟩
def x_NothingToUndo : DefT := ⟨some "NothingToUndo", "__init__", L2.defArgs (sub 15 0), L2.defBody (sub 15 0), L2.defScope (sub 15 0), ["self"], ["self"], [false]⟩
def x_NothingToRedo : DefT := ⟨some "NothingToRedo", "__init__", L2.defArgs (sub 16 0), L2.defBody (sub 16 0), L2.defScope (sub 16 0), ["self"], ["self"], [false]⟩
def xdefs : List DefT := [x_BadNumber, x_BadProgram, x_BadText, x_BadName, x_NoName, x_TakenName, x_BadRow, x_BadPlace, x_BadPoint, x_Unlike, x_TooMany, x_NotKept, x_BadPromise, x_NothingToUndo, x_NothingToRedo]
def tab : Tab where
  fns := ["_law_pen", "_law_draw", "_law_pick", "_law_far", "_law_kinds", "_law_made", "_law_fields", "_law_value", "law"]
  cls := []
  glo := []
  free := ["ValueError", "abs", "enumerate", "int", "isinstance", "len", "list", "range", "repr", "str"]
  flds := []
  meths := []
  xcs := [("BadNumber", ["what", "value"]), ("BadProgram", ["value"]), ("BadText", ["line", "column"]), ("BadName", ["name"]), ("NoName", ["name"]), ("TakenName", ["name"]), ("BadRow", ["value"]), ("BadPlace", ["value"]), ("BadPoint", ["value"]), ("Unlike", ["what"]), ("TooMany", ["what", "limit"]), ("NotKept", ["promise", "witness"]), ("BadPromise", ["column"]), ("NothingToUndo", []), ("NothingToRedo", [])]
  xts := [("BadNumber", ["BadNumber", "PointError", "ValueError"]), ("BadProgram", ["BadProgram", "PointError", "ValueError"]), ("BadText", ["BadText", "PointError", "ValueError"]), ("BadName", ["BadName", "PointError", "ValueError"]), ("NoName", ["NoName", "PointError", "ValueError"]), ("TakenName", ["TakenName", "PointError", "ValueError"]), ("BadRow", ["BadRow", "PointError", "ValueError"]), ("BadPlace", ["BadPlace", "PointError", "ValueError"]), ("BadPoint", ["BadPoint", "PointError", "ValueError"]), ("Unlike", ["Unlike", "PointError", "ValueError"]), ("TooMany", ["TooMany", "PointError", "ValueError"]), ("NotKept", ["NotKept", "PointError", "ValueError"]), ("BadPromise", ["BadPromise", "PointError", "ValueError"]), ("NothingToUndo", ["NothingToUndo", "PointError", "ValueError"]), ("NothingToRedo", ["NothingToRedo", "PointError", "ValueError"])]
  xown := ["BadName", "BadNumber", "BadPlace", "BadPoint", "BadProgram", "BadPromise", "BadRow", "BadText", "NoName", "NotKept", "NothingToRedo", "NothingToUndo", "PointError", "TakenName", "TooMany", "Unlike"]
  xblt := ["ValueError"]
  xfl := ["column", "limit", "line", "name", "promise", "value", "what", "witness"]
  xpar := "PointError"
theorem ok_law_pen : DefOk tab (t_law_pen, d_law_pen) := ⟨by kernel_rfl, rfl, rfl, rfl, by kernel_rfl, fun kV doc pm an cdv ct us h => match us, h with | [_], _ => rfl⟩
theorem ok_law_draw : DefOk tab (t_law_draw, d_law_draw) := ⟨by kernel_rfl, rfl, rfl, rfl, by kernel_rfl, fun kV doc pm an cdv ct us h => match us, h with | [_, _], _ => rfl⟩
theorem ok_law_pick : DefOk tab (t_law_pick, d_law_pick) := ⟨by kernel_rfl, rfl, rfl, rfl, by kernel_rfl, fun kV doc pm an cdv ct us h => match us, h with | [_, _], _ => rfl⟩
theorem ok_law_far : DefOk tab (t_law_far, d_law_far) := ⟨by kernel_rfl, rfl, rfl, rfl, by kernel_rfl, fun kV doc pm an cdv ct us h => match us, h with | [_], _ => rfl⟩
theorem ok_law_kinds : DefOk tab (t_law_kinds, d_law_kinds) := ⟨by kernel_rfl, rfl, rfl, rfl, by kernel_rfl, fun kV doc pm an cdv ct us h => match us, h with | [_], _ => rfl⟩
theorem ok_law_made : DefOk tab (t_law_made, d_law_made) := ⟨by kernel_rfl, rfl, rfl, rfl, by kernel_rfl, fun kV doc pm an cdv ct us h => match us, h with | [_, _], _ => rfl⟩
theorem ok_law_fields : DefOk tab (t_law_fields, d_law_fields) := ⟨by kernel_rfl, rfl, rfl, rfl, by kernel_rfl, fun kV doc pm an cdv ct us h => match us, h with | [_], _ => rfl⟩
theorem ok_law_value : DefOk tab (t_law_value, d_law_value) := ⟨by kernel_rfl, rfl, rfl, rfl, by kernel_rfl, fun kV doc pm an cdv ct us h => match us, h with | [_], _ => rfl⟩
theorem ok_law : DefOk tab (t_law, d_law) := ⟨by kernel_rfl, rfl, rfl, rfl, by kernel_rfl, fun kV doc pm an cdv ct us h => match us, h with | [_], _ => rfl⟩
theorem defsOk : DefsOk tab defs := .cons ok_law_pen (.cons ok_law_draw (.cons ok_law_pick (.cons ok_law_far (.cons ok_law_kinds (.cons ok_law_made (.cons ok_law_fields (.cons ok_law_value (.cons ok_law (.nil)))))))))
theorem ok_x_BadNumber : XDefOk tab "BadNumber" ["what", "value"] x_BadNumber := ⟨rfl, rfl, by kernel_rfl, by kernel_rfl, fun kV doc pm an cdv ct us h => match us, h with | [_, _, _], _ => rfl⟩
theorem ok_x_BadProgram : XDefOk tab "BadProgram" ["value"] x_BadProgram := ⟨rfl, rfl, by kernel_rfl, by kernel_rfl, fun kV doc pm an cdv ct us h => match us, h with | [_, _], _ => rfl⟩
theorem ok_x_BadText : XDefOk tab "BadText" ["line", "column"] x_BadText := ⟨rfl, rfl, by kernel_rfl, by kernel_rfl, fun kV doc pm an cdv ct us h => match us, h with | [_, _, _], _ => rfl⟩
theorem ok_x_BadName : XDefOk tab "BadName" ["name"] x_BadName := ⟨rfl, rfl, by kernel_rfl, by kernel_rfl, fun kV doc pm an cdv ct us h => match us, h with | [_, _], _ => rfl⟩
theorem ok_x_NoName : XDefOk tab "NoName" ["name"] x_NoName := ⟨rfl, rfl, by kernel_rfl, by kernel_rfl, fun kV doc pm an cdv ct us h => match us, h with | [_, _], _ => rfl⟩
theorem ok_x_TakenName : XDefOk tab "TakenName" ["name"] x_TakenName := ⟨rfl, rfl, by kernel_rfl, by kernel_rfl, fun kV doc pm an cdv ct us h => match us, h with | [_, _], _ => rfl⟩
theorem ok_x_BadRow : XDefOk tab "BadRow" ["value"] x_BadRow := ⟨rfl, rfl, by kernel_rfl, by kernel_rfl, fun kV doc pm an cdv ct us h => match us, h with | [_, _], _ => rfl⟩
theorem ok_x_BadPlace : XDefOk tab "BadPlace" ["value"] x_BadPlace := ⟨rfl, rfl, by kernel_rfl, by kernel_rfl, fun kV doc pm an cdv ct us h => match us, h with | [_, _], _ => rfl⟩
theorem ok_x_BadPoint : XDefOk tab "BadPoint" ["value"] x_BadPoint := ⟨rfl, rfl, by kernel_rfl, by kernel_rfl, fun kV doc pm an cdv ct us h => match us, h with | [_, _], _ => rfl⟩
theorem ok_x_Unlike : XDefOk tab "Unlike" ["what"] x_Unlike := ⟨rfl, rfl, by kernel_rfl, by kernel_rfl, fun kV doc pm an cdv ct us h => match us, h with | [_, _], _ => rfl⟩
theorem ok_x_TooMany : XDefOk tab "TooMany" ["what", "limit"] x_TooMany := ⟨rfl, rfl, by kernel_rfl, by kernel_rfl, fun kV doc pm an cdv ct us h => match us, h with | [_, _, _], _ => rfl⟩
theorem ok_x_NotKept : XDefOk tab "NotKept" ["promise", "witness"] x_NotKept := ⟨rfl, rfl, by kernel_rfl, by kernel_rfl, fun kV doc pm an cdv ct us h => match us, h with | [_, _, _], _ => rfl⟩
theorem ok_x_BadPromise : XDefOk tab "BadPromise" ["column"] x_BadPromise := ⟨rfl, rfl, by kernel_rfl, by kernel_rfl, fun kV doc pm an cdv ct us h => match us, h with | [_, _], _ => rfl⟩
theorem ok_x_NothingToUndo : XDefOk tab "NothingToUndo" [] x_NothingToUndo := ⟨rfl, rfl, by kernel_rfl, by kernel_rfl, fun kV doc pm an cdv ct us h => match us, h with | [_], _ => rfl⟩
theorem ok_x_NothingToRedo : XDefOk tab "NothingToRedo" [] x_NothingToRedo := ⟨rfl, rfl, by kernel_rfl, by kernel_rfl, fun kV doc pm an cdv ct us h => match us, h with | [_], _ => rfl⟩
theorem xdefsOk : XDefsOk tab tab.xcs xdefs := .cons ok_x_BadNumber (.cons ok_x_BadProgram (.cons ok_x_BadText (.cons ok_x_BadName (.cons ok_x_NoName (.cons ok_x_TakenName (.cons ok_x_BadRow (.cons ok_x_BadPlace (.cons ok_x_BadPoint (.cons ok_x_Unlike (.cons ok_x_TooMany (.cons ok_x_NotKept (.cons ok_x_BadPromise (.cons ok_x_NothingToUndo (.cons ok_x_NothingToRedo (.nil)))))))))))))))
end Ev.k00
namespace Ev.k00
open PySem
abbrev P0 : Prg := prgOf tab defs cons
abbrev fuel : Nat := 1
abbrev lv : Nat := 8
theorem f_pen : P0.fns (.fn "_law_pen") = some dPen := by kernel_rfl
theorem f_draw : P0.fns (.fn "_law_draw") = some dDraw := by kernel_rfl
theorem f_pick : P0.fns (.fn "_law_pick") = some dPick := by kernel_rfl
theorem f_far : P0.fns (.fn "_law_far") = some d_law_far := by kernel_rfl
theorem f_value : P0.fns (.fn "_law_value") = some d_law_value := by kernel_rfl
theorem f_law : P0.fns (.fn "law") = some d_law := by kernel_rfl
/-- a far number -/
theorem far_ok {k B : Nat} {p : Pl} (Q : Pen B p) (hB : B < 2 ^ 49) : ∃ f p', callN P0 fuel (k + 3) (.fn "_law_far") [p] = .ok (.val (.int f)) [p'] ∧ Pen (B + 12) p' ∧ f.natAbs < 10 ^ 60 := by
  rw [callN_of f_far rfl (by decide) rfl]
  show ∃ f p', finish d_law_far [p] (evSs (ctxOf P0 fuel (callN P0 fuel (k + 2)) d_law_far) b_law_far [p, .hole, .hole, .hole, .hole]) = _ ∧ _
  obtain ⟨d1, p1, e1, Q1, d10, d11⟩ := evDraw (P := P0) (W := fuel) (k := k + 1) (d := d_law_far) (rest := [.hole, .hole, .hole, .hole]) (b := .cst (.int 2)) (m := 2) f_draw Q (by decide) (by decide) (by omega) rfl
  obtain ⟨v, p2, e2, Q2, hv⟩ := evPick (P := P0) (W := fuel) (k := k) (d := d_law_far) (rest := [.hole, .hole, .hole, .hole]) (b := .lst [.cst (.int 0), .cst (.int 0), .cst (.int 1), .cst (.int 3), .cst (.int 9)]) (q := .lst [.int 0, .int 0, .int 1, .int 3, .int 9]) f_pick f_draw Q1 rfl (by simp) (by decide) (by omega) rfl
  obtain ⟨d3, p3, e3, Q3, d30, d31⟩ := evDraw (P := P0) (W := fuel) (k := k + 1) (d := d_law_far) (rest := [.hole, .hole, .hole, .hole]) (b := .cst (.int 40)) (m := 40) f_draw Q2 (by decide) (by decide) (by omega) rfl
  obtain ⟨n, rfl, hn⟩ : ∃ n : Nat, v = .int n ∧ n ≤ 9 := by
    simp only [List.mem_cons, List.not_mem_nil, or_false] at hv
    rcases hv with rfl | rfl | rfl | rfl | rfl
    · exact ⟨0, rfl, by decide⟩
    · exact ⟨0, rfl, by decide⟩
    · exact ⟨1, rfl, by decide⟩
    · exact ⟨3, rfl, by decide⟩
    · exact ⟨9, rfl, by decide⟩
  have s1 : evS (ctxOf P0 fuel (callN P0 fuel (k + 2)) d_law_far) (.asgs [1, 2, 3] [.bin .Sub (.cst (.int 1)) (.bin .Mult (.cst (.int 2)) (.call "_law_draw" [.var 0, .cst (.int 2)])), .call "_law_pick" [.var 0, .lst [.cst (.int 0), .cst (.int 0), .cst (.int 1), .cst (.int 3), .cst (.int 9)]], .call "_law_draw" [.var 0, .cst (.int 40)]])
      [p, .hole, .hole, .hole, .hole] = .next [p3, .val (.int (1 - 2 * d1)), .val (.int n), .val (.int d3), .hole] := by
    have a1 : evO (ctxOf P0 fuel (callN P0 fuel (k + 2)) d_law_far) (.bin .Sub (.cst (.int 1)) (.bin .Mult (.cst (.int 2)) (.call "_law_draw" [.var 0, .cst (.int 2)]))) [p, .hole, .hole, .hole, .hole] = .ok (.tmp (.val (.int (1 - 2 * d1)))) [p1, .hole, .hole, .hole, .hole] :=
      evO_bin (x := .tmp (.val (.int 1))) (e1 := [p, .hole, .hole, .hole, .hole]) (y := .tmp (.val (.int (2 * d1)))) (u := .int 1) (v := .int (2 * d1)) rfl rfl
        (evO_bin (x := .tmp (.val (.int 2))) (e1 := [p, .hole, .hole, .hole, .hole]) (y := .tmp (.val (.int d1))) (u := .int 2) (v := .int d1) rfl rfl e1 rfl rfl (binV_mulL (by decide) (by decide))) rfl rfl rfl
    simp only [evS, evOwns, a1, e2, e3, Out.bind_ok, own, toVal, Out.sbind_ok]
    rfl
  unfold b_law_far
  rw [evSs_next s1]
  have loop := forGo_inv (tg := asgT (ctxOf P0 fuel (callN P0 fuel (k + 2)) d_law_far).pin (.nm 4)) (bd := evSs (ctxOf P0 fuel (callN P0 fuel (k + 2)) d_law_far) [.asg 3 (.bin .Add (.bin .Mult (.var 3) (.bin .Pow (.cst (.int 10)) (.cst (.int 6)))) (.call "_law_draw" [.var 0, .bin .Pow (.cst (.int 10)) (.cst (.int 6))]))])
    (fun j e => ∃ (q : Pl) (f : Int) (h : Pl), e = [q, .val (.int (1 - 2 * d1)), .val (.int n), .val (.int f), h] ∧ Pen (B + 3 + j) q ∧ 0 ≤ f ∧ (j ≤ 9 → f < 10 ^ (6 * j + 2))) ((List.range n).map fun (j : Nat) => Val.int (j : Int)) 0 [p3, .val (.int (1 - 2 * d1)), .val (.int n), .val (.int d3), .hole]
    ⟨p3, d3, .hole, rfl, Q3, d30, fun _ => by omega⟩ (fun j v e hj hI => by
      obtain ⟨q, f, h, rfl, Qj, f0, f1⟩ := hI
      have hjn : j < n := by
        have := (List.getElem?_eq_some_iff.mp hj).1
        simpa using this
      have ev : v = .int j := by
        rw [List.getElem?_map, List.getElem?_range hjn] at hj
        exact (Option.some.inj hj).symm
      subst ev
      have big : evO (ctxOf P0 fuel (callN P0 fuel (k + 2)) d_law_far) (.bin .Pow (.cst (.int 10)) (.cst (.int 6))) [q, .val (.int (1 - 2 * d1)), .val (.int n), .val (.int f), .val (.int j)] = .ok (.tmp (.val (.int (10 ^ 6)))) [q, .val (.int (1 - 2 * d1)), .val (.int n), .val (.int f), .val (.int j)] :=
        pBin (.tmp (.val (.int 10))) (.tmp (.val (.int 6))) _ _ rfl rfl rfl rfl rfl (binV_pow (by decide) (by decide) (by decide))
      obtain ⟨dj, q', ej, Qj', dj0, dj1⟩ := evDraw (P := P0) (W := fuel) (k := k + 1) (d := d_law_far) (rest := [.val (.int (1 - 2 * d1)), .val (.int n), .val (.int f), .val (.int j)]) (m := 10 ^ 6) f_draw Qj (by decide) (by decide) (by omega) big
      refine ⟨_, [q', .val (.int (1 - 2 * d1)), .val (.int n), .val (.int (f * 10 ^ 6 + dj)), .val (.int j)], rfl, (evSs_next ?_).trans evSs_nil, q', f * 10 ^ 6 + dj, .val (.int j), rfl, Qj', by omega, fun hj9 => ?_⟩
      · refine evS_asg (x := .tmp (.val (.int (f * 10 ^ 6 + dj)))) (evO_bin (x := .tmp (.val (.int (f * 10 ^ 6)))) (y := .tmp (.val (.int dj))) (u := .int (f * 10 ^ 6)) (v := .int dj)
          (pBin (.at 3 []) (.tmp (.val (.int (10 ^ 6)))) (.int f) (.int (10 ^ 6)) rfl big rfl rfl rfl (binV_mulR (by decide) (by decide))) rfl ej rfl rfl rfl) rfl rfl
      · have := f1 (by omega)
        have e : (10 : Int) ^ (6 * (0 + j + 1) + 2) = 10 ^ (6 * (0 + j) + 2) * 10 ^ 6 := by rw [← Int.pow_add]; congr 1
        rw [e]
        omega)
  obtain ⟨e', h1, q, f, h, rfl, Qf, f0, f1⟩ := loop
  rw [evSs_next ((rS_for (sk := .range1) (ss := [.int n]) (evXs_one rfl) (srcV_range1 (by omega))).trans h1)]
  have lenn : ((List.range n).map fun (j : Nat) => Val.int (j : Int)).length = n := by simp
  rw [lenn] at f1 Qf
  have fb := f1 (by omega)
  have fb2 : f < 10 ^ 56 := by
    have : (10 : Int) ^ (6 * (0 + n) + 2) ≤ 10 ^ 56 := by
      have : n ≤ 9 := hn
      have h2 : n = 0 ∨ n = 1 ∨ n = 2 ∨ n = 3 ∨ n = 4 ∨ n = 5 ∨ n = 6 ∨ n = 7 ∨ n = 8 ∨ n = 9 := by omega
      rcases h2 with rfl | rfl | rfl | rfl | rfl | rfl | rfl | rfl | rfl | rfl <;> decide
    omega
  refine ⟨(1 - 2 * d1) * f, q, ?_, Qf.mono (by omega), ?_⟩
  · rw [evSs_ret (evS_ret (pBin (.at 1 []) (.at 3 []) (.int (1 - 2 * d1)) (.int f) rfl rfl rfl rfl rfl (binV_mulL (by omega) (by omega))) rfl (fun i z => by cases z))]
    rfl
  · have : d1 = 0 ∨ d1 = 1 := by omega
    rcases this with rfl | rfl
    · have : (1 - 2 * 0 : Int) * f = f := by omega
      rw [this]; omega
    · have : (1 - 2 * 1 : Int) * f = -f := by omega
      rw [this]; omega
/-- what repr and == take -/
structure Good (v : Val) : Prop where
  d : dat 50 v = true
  q : veq v v = true
  s : (toData v).showable = true
  l : (toData v).shown.length ≤ 2000
  k : sOk (toData v).shown = true
def xn (n : Nat) : Str := ("x" : Str) ++ (toString (n : Int) : Str)
theorem xn_ok : ∀ n < 1000, (sOk (xn n) && decide ((reprText (xn n)).length ≤ 100) && sOk (reprText (xn n))) = true := by decide +kernel
theorem good_str {x : Str} (h : (sOk x && decide ((reprText x).length ≤ 100) && sOk (reprText x)) = true) : Good (.str x) := by
  simp only [Bool.and_eq_true, decide_eq_true_eq] at h
  exact ⟨by simpa [dat] using h.1.1, by simp [veq], rfl, by show (reprText x).length ≤ _; omega, h.2⟩
theorem far_log {f : Int} (hf : f.natAbs < 10 ^ 60) : f.natAbs.log2 < 1920 := by
  by_cases h0 : f.natAbs = 0
  · rw [h0]; decide
  · rw [Nat.log2_lt h0]
    exact Nat.lt_trans hf (by decide)
theorem far_len {f : Int} (hf : f.natAbs < 10 ^ 60) : (Str.ofString (toString f)).length ≤ 61 := by
  rw [ofString_length]
  exact int_text_length_le10 (by decide) hf
theorem good_int {f : Int} (hf : f.natAbs < 10 ^ 60) : Good (.int f) := by
  have := far_len hf
  exact ⟨rfl, by simp [veq], by show decide _ = true; exact decide_eq_true (far_log hf), by show (Str.ofString (toString f)).length ≤ _; omega, sOk_ofString _⟩
theorem listText_1 (t : Str) : listText [t] = (Str.ofString "[" ++ Str.ofString "" ++ t) ++ Str.ofString "]" := rfl
theorem listText_2 (t u : Str) : listText [t, u] = (Str.ofString "[" ++ Str.ofString "" ++ t ++ Str.ofString ", " ++ u) ++ Str.ofString "]" := rfl
theorem tupleText_2 (t u : Str) : tupleText [t, u] = (Str.ofString "(" ++ (t ++ Str.ofString ", " ++ u)) ++ Str.ofString ")" := rfl
theorem good_lst {f : Int} (hf : f.natAbs < 10 ^ 60) : Good (.lst [.int f]) := by
  have h := far_len hf
  refine ⟨rfl, by simp [veq, veqs], by show (decide _ && true) = true; rw [decide_eq_true (far_log hf)]; rfl, ?_, ?_⟩
  · show (listText [Str.ofString (toString f)]).length ≤ _
    rw [listText_1]
    simp only [strLen_append]
    have e1 : (Str.ofString "[").length = 1 := by decide
    have e2 : (Str.ofString "").length = 0 := by decide
    have e3 : (Str.ofString "]").length = 1 := by decide
    omega
  · show sOk (listText [Str.ofString (toString f)]) = true
    rw [listText_1]
    exact sOk_app (sOk_app (sOk_app (sOk_ofString _) (sOk_ofString _)) (sOk_ofString _)) (sOk_ofString _)
theorem good_tup {f : Int} (hf : f.natAbs < 10 ^ 60) : Good (.tup [.int f, .str "a"]) := by
  have h := far_len hf
  refine ⟨by kernel_rfl, by simp [veq, veqs], by show (decide _ && true) = true; rw [decide_eq_true (far_log hf)]; rfl, ?_, ?_⟩
  · show (tupleText [Str.ofString (toString f), reprText (Str.ofString "a")]).length ≤ _
    rw [tupleText_2]
    simp only [strLen_append]
    have e1 : (Str.ofString "(").length = 1 := by decide
    have e2 : (Str.ofString ", ").length = 2 := by decide
    have e3 : (Str.ofString ")").length = 1 := by decide
    have e4 : (reprText (Str.ofString "a")).length = 3 := by decide +kernel
    omega
  · show sOk (tupleText [Str.ofString (toString f), reprText (Str.ofString "a")]) = true
    rw [tupleText_2]
    exact sOk_app (sOk_app (sOk_ofString _) (sOk_app (sOk_app (sOk_ofString _) (sOk_ofString _)) (by decide +kernel))) (sOk_ofString _)
theorem good_of {v : Val} (h : (dat 50 v && veq v v && (toData v).showable && decide ((toData v).shown.length ≤ 2000) && sOk (toData v).shown) = true) : Good v := by
  simp only [Bool.and_eq_true, decide_eq_true_eq] at h
  exact ⟨h.1.1.1.1, h.1.1.1.2, h.1.1.2, h.1.2, h.2⟩
def some9 (f : Int) : List Val := [.int f, .str (xn (f.natAbs % 1000)), .non, .tup [.int f, .str "a"], .lst [.int f], .bl true, .str "", .tup [.str "least", .int 2], .tup [.str "rest", .int 2, .lst [.int 1]]]
theorem good_some {f : Int} (hf : f.natAbs < 10 ^ 60) : ∀ v ∈ some9 f, Good v := by
  intro v hv
  simp only [some9, List.mem_cons, List.not_mem_nil, or_false] at hv
  rcases hv with rfl | rfl | rfl | rfl | rfl | rfl | rfl | rfl | rfl
  · exact good_int hf
  · exact good_str (xn_ok _ (Nat.mod_lt _ (by decide)))
  · exact good_of (by decide +kernel)
  · exact good_tup hf
  · exact good_lst hf
  · exact good_of (by decide +kernel)
  · exact good_of (by decide +kernel)
  · exact good_of (by decide +kernel)
  · exact good_of (by decide +kernel)
/-- a value -/
theorem value_ok {k B : Nat} {p : Pl} (Q : Pen B p) (hB : B < 2 ^ 48) : ∃ v p', callN P0 fuel (k + 4) (.fn "_law_value") [p] = .ok (.val v) [p'] ∧ Pen (B + 13) p' ∧ Good v := by
  rw [callN_of f_value rfl (by decide) rfl]
  show ∃ v p', finish d_law_value [p] (evSs (ctxOf P0 fuel (callN P0 fuel (k + 3)) d_law_value) b_law_value [p, .hole, .hole]) = _ ∧ _
  obtain ⟨f, p1, h1, Q1, hf⟩ := far_ok (k := k) Q (by omega)
  have e1 := evCall0 (c := ctxOf P0 fuel (callN P0 fuel (k + 3)) d_law_value) (f := "_law_far") (rest := [.hole, .hole]) (by simp only [ctxOf, f_far]; rfl) h1 Q.rcd
  unfold b_law_value
  rw [evSs_next (evS_asg e1 rfl (show setT _ 1 _ _ = some [p1, .val (.int f), .hole] from rfl))]
  have hx : evO (ctxOf P0 fuel (callN P0 fuel (k + 3)) d_law_value) (.bin .Add (.cst (.str "x")) (.bi .strOf [.bin .Mod (.bi .abs [.var 1]) (.cst (.int 1000))])) [p1, .val (.int f), .hole] = .ok (.tmp (.val (.str (xn (f.natAbs % 1000))))) [p1, .val (.int f), .hole] := by
    have hm : ((f.natAbs : Int) % 1000) = ((f.natAbs % 1000 : Nat) : Int) := by omega
    have hlt : f.natAbs % 1000 < 1000 := Nat.mod_lt _ (by decide)
    have hs := (xn_ok _ hlt)
    refine pBin (.tmp (.val (.str "x"))) (.tmp (.val (.str (toString ((f.natAbs % 1000 : Nat) : Int))))) (.str "x") (.str (toString ((f.natAbs % 1000 : Nat) : Int))) rfl
      (pBi1 (.tmp (.val (.int ((f.natAbs % 1000 : Nat) : Int)))) (.int ((f.natAbs % 1000 : Nat) : Int)) (pBin (.tmp (.val (.int f.natAbs))) (.tmp (.val (.int 1000))) (.int f.natAbs) (.int 1000) rfl rfl rfl rfl rfl (by rw [← hm]; exact binV_mod (by decide))) rfl ?_) rfl rfl rfl ?_
    · have hl : ((f.natAbs % 1000 : Nat) : Int).natAbs.log2 < 1920 := far_log (by omega)
      exact if_pos hl
    · have hl : (Str.ofString (toString ((f.natAbs % 1000 : Nat) : Int))).length ≤ 61 := far_len (by omega)
      have e1 : (Str.ofString "x").length = 1 := by decide
      have : (Str.ofString "x").length + (Str.ofString (toString ((f.natAbs % 1000 : Nat) : Int))).length ≤ line := by show _ ≤ 16777216; omega
      exact if_pos this
  have h2 : evS (ctxOf P0 fuel (callN P0 fuel (k + 3)) d_law_value) (.asg 2 (.lst [.var 1, .bin .Add (.cst (.str "x")) (.bi .strOf [.bin .Mod (.bi .abs [.var 1]) (.cst (.int 1000))]), .cst .non, .tup [.var 1, .cst (.str "a")], .lst [.var 1], .cst (.bl true), .cst (.str "")])) [p1, .val (.int f), .hole]
      = .next [p1, .val (.int f), .lst [.int f, .str (xn (f.natAbs % 1000)), .non, .tup [.int f, .str "a"], .lst [.int f], .bl true, .str ""]] :=
    evS_asg (evO_lst (evXs_cons rfl (evXs_cons (evX_of hx rfl) (vs := [.non, .tup [.int f, .str "a"], .lst [.int f], .bl true, .str ""]) rfl)) (by show 7 ≤ line; decide)) rfl rfl
  rw [evSs_next h2]
  obtain ⟨v, p2, e3, Q2, hv⟩ := evPick (P := P0) (W := fuel) (k := k + 1) (d := d_law_value) (q := .lst (some9 f)) (rest := [.val (.int f), .lst [.int f, .str (xn (f.natAbs % 1000)), .non, .tup [.int f, .str "a"], .lst [.int f], .bl true, .str ""]])
    (b := .bin .Add (.var 2) (.lst [.tup [.cst (.str "least"), .cst (.int 2)], .tup [.cst (.str "rest"), .cst (.int 2), .lst [.cst (.int 1)]]])) f_pick f_draw Q1 rfl (by simp [some9]) (by simp [some9]) (by omega) rfl
  exact ⟨v, p2, by rw [evSs_ret (evS_ret e3 rfl (fun i z => by cases z))]; rfl, Q2.mono (by omega), good_some hf v hv⟩
end Ev.k00
namespace Ev.k00
open PySem
mutual
theorem dat_mono : ∀ (n m : Nat) (v : Val), n ≤ m → dat n v = true → dat m v = true
  | _, m, .non, _, _ => by cases m <;> rfl
  | _, m, .bl _, _, _ => by cases m <;> rfl
  | _, m, .int _, _, _ => by cases m <;> rfl
  | n, m, .str s, _, h => by
    have : sOk s = true := by cases n <;> simpa [dat] using h
    cases m <;> simpa [dat] using this
  | 0, _, .tup _, _, h => by simp [dat] at h
  | 0, _, .lst _, _, h => by simp [dat] at h
  | n + 1, 0, .tup xs, k, h => by omega
  | n + 1, 0, .lst xs, k, h => by omega
  | n + 1, m + 1, .tup xs, k, h => by simp only [dat] at h ⊢; exact dats_mono n m xs (by omega) h
  | n + 1, m + 1, .lst xs, k, h => by simp only [dat] at h ⊢; exact dats_mono n m xs (by omega) h
  | n, _, .fzl _, _, h => by simp [dat] at h
  | n, _, .dct _, _, h => by simp [dat] at h
  | n, _, .ins _ _, _, h => by simp [dat] at h
  | n, _, .gl _, _, h => by simp [dat] at h
  | n, _, .exc _ _, _, h => by simp [dat] at h
theorem dats_mono : ∀ (n m : Nat) (xs : List Val), n ≤ m → dats n xs = true → dats m xs = true
  | _, _, [], _, _ => rfl
  | n, m, x :: xs, k, h => by
    simp only [dats, Bool.and_eq_true] at h ⊢
    exact ⟨dat_mono n m x k h.1, dats_mono n m xs k h.2⟩
end
def exs (a b : Val) : List Val := [.exc "BadNumber" [("value", b), ("what", a)], .exc "BadProgram" [("value", a)], .exc "BadText" [("column", b), ("line", a)], .exc "BadName" [("name", a)], .exc "NoName" [("name", a)], .exc "TakenName" [("name", a)], .exc "BadRow" [("value", a)],
  .exc "BadPlace" [("value", a)], .exc "BadPoint" [("value", a)], .exc "Unlike" [("what", a)], .exc "TooMany" [("limit", b), ("what", a)], .exc "NotKept" [("witness", b), ("promise", a)], .exc "BadPromise" [("column", a)], .exc "NothingToUndo" [], .exc "NothingToRedo" []]
def flds (a b : Val) : List Val := [.lst [a, b], .lst [a], .lst [a, b], .lst [a], .lst [a], .lst [a], .lst [a], .lst [a], .lst [a], .lst [a], .lst [a, b], .lst [a, b], .lst [a], .lst [], .lst []]
abbrev cL (k : Nat) : Ctx := ctxOf P0 fuel (callN P0 fuel (k + 1)) d_law
section
variable {k : Nat} {a b : Val} {s p h3 : Pl}
theorem st3 : evS (cL k) (b_law[2]'(by decide)) [s, p, .lst [a, b], .hole, .hole, .hole, .hole, .hole] = .next [s, p, .lst [a, b], .hole, .lst (exs a b), .hole, .hole, .hole] := by kernel_rfl
theorem st4 : evS (cL k) (b_law[3]'(by decide)) [s, p, .lst [a, b], .hole, .lst (exs a b), .hole, .hole, .hole] = .next [s, p, .lst [a, b], .val (.int 14), .val (.lst (exs a b)), .val (.exc "NothingToRedo" []), .hole, .hole] := by kernel_rfl
theorem src5 {e6 : Pl} : evXs (cL k) [.call "_law_fields" [.var 4]] [s, p, .lst [a, b], .val (.int 14), .val (.lst (exs a b)), .val (.exc "NothingToRedo" []), .hole, e6] = .ok [.lst (flds a b)] [s, p, .lst [a, b], .val (.int 14), .val (.lst (exs a b)), .val (.exc "NothingToRedo" []), .hole, e6] := by kernel_rfl
theorem st6 {y : Val} : evS (cL k) (b_law[5]'(by decide)) [s, p, .lst [a, b], .val (.int 14), .val (.lst (exs a b)), .val (.exc "NothingToRedo" []), .hole, .val y] = .ret (.val (.bl true)) [s, p, .lst [a, b], .val (.int 14), .val (.lst (exs a b)), .val (.exc "NothingToRedo" []), .hole, .val y] := by kernel_rfl
/-- a row of fields -/
structure GoodL (fs : List Val) : Prop where
  d : dat eqDepth (.lst fs) = true
  q : veq (.lst fs) (.lst fs) = true
  s : (toData (.lst fs)).showable = true
  l : (toData (.lst fs)).shown.length ≤ line
  k : sOk (toData (.lst fs)).shown = true
theorem goodL0 : GoodL [] := ⟨by kernel_rfl, by kernel_rfl, by kernel_rfl, by decide +kernel, by kernel_rfl⟩
theorem goodL1 (A : Good a) : GoodL [a] := by
  have e1 : (Str.ofString "[").length = 1 := by decide
  have e2 : (Str.ofString "").length = 0 := by decide
  have e3 : (Str.ofString "]").length = 1 := by decide
  refine ⟨?_, ?_, ?_, ?_, ?_⟩
  · show (dat 59 a && true) = true
    rw [dat_mono 50 59 a (by decide) A.d]; rfl
  · show (veq a a && true) = true
    rw [A.q]; rfl
  · show ((toData a).showable && true) = true
    rw [A.s]; rfl
  · show (listText [(toData a).shown]).length ≤ 16777216
    rw [listText_1]
    simp only [strLen_append]
    have := A.l
    omega
  · show sOk (listText [(toData a).shown]) = true
    rw [listText_1]
    exact sOk_app (sOk_app (sOk_app (sOk_ofString _) (sOk_ofString _)) A.k) (sOk_ofString _)
theorem goodL2 (A : Good a) (B : Good b) : GoodL [a, b] := by
  have e1 : (Str.ofString "[").length = 1 := by decide
  have e2 : (Str.ofString "").length = 0 := by decide
  have e3 : (Str.ofString "]").length = 1 := by decide
  have e4 : (Str.ofString ", ").length = 2 := by decide
  refine ⟨?_, ?_, ?_, ?_, ?_⟩
  · show (dat 59 a && (dat 59 b && true)) = true
    rw [dat_mono 50 59 a (by decide) A.d, dat_mono 50 59 b (by decide) B.d]; rfl
  · show (veq a a && (veq b b && true)) = true
    rw [A.q, B.q]; rfl
  · show ((toData a).showable && ((toData b).showable && true)) = true
    rw [A.s, B.s]; rfl
  · show (listText [(toData a).shown, (toData b).shown]).length ≤ 16777216
    rw [listText_2]
    simp only [strLen_append]
    have := A.l
    have := B.l
    omega
  · show sOk (listText [(toData a).shown, (toData b).shown]) = true
    rw [listText_2]
    exact sOk_app (sOk_app (sOk_app (sOk_app (sOk_app (sOk_ofString _) (sOk_ofString _)) A.k) (sOk_ofString _)) B.k) (sOk_ofString _)
theorem cmp_self {x : Val} (d : dat eqDepth x = true) (q : veq x x = true) : cmpV .NotEq x x = some false := by
  have : cmpV .NotEq x x = if (dat eqDepth x && dat eqDepth x) = true then some (!veq x x) else none := by cases x <;> rfl
  rw [this, d, q]; rfl
theorem repr_self {fs : List Val} (G : GoodL fs) : biV .repr [.lst fs] = some (.val (.str (toData (.lst fs)).shown)) := by
  have : (dat eqDepth (.lst fs) && (toData (.lst fs)).showable && decide ((toData (.lst fs)).shown.length ≤ line)) = true := by
    rw [G.d, G.s, decide_eq_true G.l]; rfl
  exact if_pos this
/-- one turn of the second walk -/
theorem turn5 {c : Ctx} {fs : List Val} {e : Env} {A : List IS} (G : GoodL fs) (h7 : evO c (.var 7) e = .ok (.at 7 []) e) (p7 : getE e 7 [] = some (.val (.lst fs))) (hs : evO c (.sl (.var 2) none (some (.bi .len [.var 7]))) e = .ok (.tmp (.lst fs)) e) :
    evS c (.ite (.or (.cmp .NotEq (.var 7) (.sl (.var 2) none (some (.bi .len [.var 7])))) (.cmp .NotEq (.bi .repr [.var 7]) (.bi .repr [.sl (.var 2) none (some (.bi .len [.var 7]))]))) A []) e = .next e := by
  have k7 : peek e (.at 7 []) = some (.lst fs) := by show (getE e 7 []).bind toVal = _; rw [p7]; rfl
  have q7 : peek1 e (.at 7 []) = some (.lst fs) := by show (getE e 7 []).bind toVal1 = _; rw [p7]; rfl
  have hA : evO c (.cmp .NotEq (.var 7) (.sl (.var 2) none (some (.bi .len [.var 7])))) e = .ok (.tmp (.val (.bl false))) e := pCmp (.at 7 []) (.tmp (.lst fs)) (.lst fs) (.lst fs) h7 hs rfl k7 rfl (cmp_self G.d G.q)
  have hB : evO c (.cmp .NotEq (.bi .repr [.var 7]) (.bi .repr [.sl (.var 2) none (some (.bi .len [.var 7]))])) e = .ok (.tmp (.val (.bl false))) e :=
    pCmp (.tmp (.val (.str (toData (.lst fs)).shown))) (.tmp (.val (.str (toData (.lst fs)).shown))) (.str (toData (.lst fs)).shown) (.str (toData (.lst fs)).shown) (pBi1 (.at 7 []) (.lst fs) h7 q7 (repr_self G)) (pBi1 (.tmp (.lst fs)) (.lst fs) hs rfl (repr_self G)) rfl rfl rfl
      (cmp_self (by show sOk _ = true; exact G.k) (by simp [veq]))
  rw [evS_ite (evT_of ((evO_or hA).trans (by rw [if_neg Bool.false_ne_true]; exact hB))), if_neg Bool.false_ne_true, evSs_nil]
theorem st5 (A : Good a) (B : Good b) : ∃ y, evS (cL k) (b_law[4]'(by decide)) [s, p, .lst [a, b], .val (.int 14), .val (.lst (exs a b)), .val (.exc "NothingToRedo" []), .hole, .hole] = .next [s, p, .lst [a, b], .val (.int 14), .val (.lst (exs a b)), .val (.exc "NothingToRedo" []), .hole, .val y] := by
  have loop := forGo_inv (tg := asgT (cL k).pin (.nm 7)) (bd := evSs (cL k) [.ite (.or (.cmp .NotEq (.var 7) (.sl (.var 2) none (some (.bi .len [.var 7])))) (.cmp .NotEq (.bi .repr [.var 7]) (.bi .repr [.sl (.var 2) none (some (.bi .len [.var 7]))]))) [.ret (.cst (.bl false))] []])
    (fun j e => ∃ y : Pl, e = [s, p, .lst [a, b], .val (.int 14), .val (.lst (exs a b)), .val (.exc "NothingToRedo" []), .hole, y] ∧ (0 < j → ∃ v, y = .val v)) (flds a b) 0 [s, p, .lst [a, b], .val (.int 14), .val (.lst (exs a b)), .val (.exc "NothingToRedo" []), .hole, .hole]
    ⟨.hole, rfl, fun h => absurd h (by decide)⟩ (fun j v e hj hI => by
      obtain ⟨y, rfl, _⟩ := hI
      have hv := List.mem_of_getElem? hj
      have cases3 : v = .lst [a, b] ∨ v = .lst [a] ∨ v = .lst [] := by
        simp only [flds, List.mem_cons, List.not_mem_nil, or_false] at hv
        rcases hv with h | h | h | h | h | h | h | h | h | h | h | h | h | h | h <;> first | exact .inl h | exact .inr (.inl h) | exact .inr (.inr h)
      refine ⟨[s, p, .lst [a, b], .val (.int 14), .val (.lst (exs a b)), .val (.exc "NothingToRedo" []), .hole, .val v], [s, p, .lst [a, b], .val (.int 14), .val (.lst (exs a b)), .val (.exc "NothingToRedo" []), .hole, .val v], rfl, (evSs_next ?_).trans evSs_nil, .val v, rfl, fun _ => ⟨v, rfl⟩⟩
      rcases cases3 with rfl | rfl | rfl
      · exact turn5 (goodL2 A B) rfl rfl rfl
      · exact turn5 (goodL1 A) rfl rfl rfl
      · exact turn5 goodL0 rfl rfl rfl)
  obtain ⟨e', h1, y, rfl, hy⟩ := loop
  obtain ⟨v, rfl⟩ := hy (by show 0 < 0 + 15; decide)
  exact ⟨v, (rS_for (sk := .seq) (ss := [.lst (flds a b)]) (items := flds a b) src5 rfl).trans h1⟩
end
/-- the two values -/
theorem st2 {k : Nat} {s p : Pl} (Q : Pen 0 p) : ∃ a b p', evS (cL (k + 3)) (b_law[1]'(by decide)) [s, p, .hole, .hole, .hole, .hole, .hole, .hole] = .next [s, p', .lst [a, b], .hole, .hole, .hole, .hole, .hole] ∧ Good a ∧ Good b := by
  obtain ⟨a, p1, h1, Q1, A⟩ := value_ok (k := k) Q (by decide)
  obtain ⟨b, p2, h2, Q2, B⟩ := value_ok (k := k) Q1 (by decide)
  refine ⟨a, b, p2, ?_, A, B⟩
  have call : ∀ {p r p' : Pl} {x : Val} {j : Pl}, Pen 0 p ∨ Pen 13 p → callN P0 fuel (k + 4) (.fn "_law_value") [p] = .ok (.val x) [p'] → evO (cL (k + 3)) (.call "_law_value" [.var 1]) [s, p, .hole, j, .hole, .hole, .hole, .hole] = .ok (.tmp (.val x)) [s, p', .hole, j, .hole, .hole, .hole, .hole] := fun {p r p' x j} Q h => by
    have hr : ∃ fs, p = .rcd fs := by rcases Q with Q | Q <;> exact Q.rcd
    obtain ⟨fs, rfl⟩ := hr
    refine evO_call (os := [.at 1 []]) (e1 := [s, .rcd fs, .hole, j, .hole, .hole, .hole, .hole]) (args := [.put 1 [] (.rcd fs)]) (e2 := [s, .hole, .hole, j, .hole, .hole, .hole, .hole]) ?_ rfl rfl h rfl
    have hr : (cL (k + 3)).rb (.fn "_law_value") = [false] := by simp only [ctxOf, f_value]; rfl
    rw [hr]
    rfl
  have go : lcGo (fun v e => asgT (fun i => ![3].contains i) (.nm 3) v (wipeE [3] e)) (evIfs (cL (k + 3)) []) (fun e => (evO (cL (k + 3)) (.call "_law_value" [.var 1]) e).bind freeze) [.int 0, .int 1] [s, p, .hole, .hole, .hole, .hole, .hole, .hole] [] = .ok [a, b] [s, p2, .hole, .val (.int 1), .hole, .hole, .hole, .hole] := by
    have c1 := call (j := .val (.int 0)) (r := p) (.inl Q) h1
    have c2 := call (j := .val (.int 1)) (r := p) (.inr Q1) h2
    have t1 : (fun v e => asgT (fun i => ![3].contains i) (.nm 3) v (wipeE [3] e)) (.int 0) [s, p, .hole, .hole, .hole, .hole, .hole, .hole] = some [s, p, .hole, .val (.int 0), .hole, .hole, .hole, .hole] := rfl
    have t2 : (fun v e => asgT (fun i => ![3].contains i) (.nm 3) v (wipeE [3] e)) (.int 1) [s, p1, .hole, .val (.int 0), .hole, .hole, .hole, .hole] = some [s, p1, .hole, .val (.int 1), .hole, .hole, .hole, .hole] := rfl
    have f1 : (Out.ok (Opnd.tmp (Pl.val a)) [s, p1, .hole, .val (.int 0), .hole, .hole, .hole, .hole]).bind freeze = .ok a [s, p1, .hole, .val (.int 0), .hole, .hole, .hole, .hole] := rfl
    have f2 : (Out.ok (Opnd.tmp (Pl.val b)) [s, p2, .hole, .val (.int 1), .hole, .hole, .hole, .hole]).bind freeze = .ok b [s, p2, .hole, .val (.int 1), .hole, .hole, .hole, .hole] := rfl
    have l0 : ([] : List Val).length < line := by decide
    have l1 : ([] ++ [a]).length < line := by show 1 < 16777216; decide
    simp only [lcGo, t1, t2, evIfs, Out.bind_ok, c1, c2, f1, f2, if_true, l0, l1]
    rfl
  have lc : evO (cL (k + 3)) (.lc [3] (.nm 3) .range1 [.cst (.int 2)] [] (.call "_law_value" [.var 1])) [s, p, .hole, .hole, .hole, .hole, .hole, .hole] = .ok (.tmp (.lst [a, b])) [s, p2, .hole, .hole, .hole, .hole, .hole, .hole] := by
    have e0 : evXs (cL (k + 3)) [.cst (.int 2)] [s, p, .hole, .hole, .hole, .hole, .hole, .hole] = .ok [.int 2] [s, p, .hole, .hole, .hole, .hole, .hole, .hole] := rfl
    have s0 : srcV .range1 [.int 2] = some [.int 0, .int 1] := srcV_range1 (n := 2) (by decide)
    simp only [evO] at go ⊢
    rw [e0]
    simp only [Out.bind_ok, s0]
    rw [if_pos (show ownOk [3] [s, p, Pl.hole, Pl.hole, Pl.hole, Pl.hole, Pl.hole, Pl.hole] = true from rfl), go]
    rfl
  exact evS_asg lc rfl rfl
theorem law_true (ns : List Int) (h : ns.length ≤ 63) : ∃ ps, callN P0 fuel lv (.fn "law") [.val (.fzl (ns.map Val.int))] = .ok (.val (.bl true)) ps := by
  obtain ⟨p, hp, Q⟩ := pen_ok (P := P0) (W := fuel) (k := 6) f_pen h
  have e1 : evO (cL 6) (.call "_law_pen" [.var 0]) [.val (.fzl (ns.map Val.int)), .hole, .hole, .hole, .hole, .hole, .hole, .hole] = .ok (.tmp p) [.val (.fzl (ns.map Val.int)), .hole, .hole, .hole, .hole, .hole, .hole, .hole] := by
    refine evO_call (os := [.at 0 []]) (e1 := [.val (.fzl (ns.map Val.int)), .hole, .hole, .hole, .hole, .hole, .hole, .hole]) (args := [.fix (.val (.fzl (ns.map Val.int)))]) (e2 := [.val (.fzl (ns.map Val.int)), .hole, .hole, .hole, .hole, .hole, .hole, .hole]) ?_ rfl rfl hp rfl
    have hr : (cL 6).rb (.fn "_law_pen") = [false] := by simp only [ctxOf, f_pen]; rfl
    rw [hr]
    rfl
  obtain ⟨fs, rfl⟩ := Q.rcd
  have s1 : evS (cL 6) (b_law[0]'(by decide)) [.val (.fzl (ns.map Val.int)), .hole, .hole, .hole, .hole, .hole, .hole, .hole] = .next [.val (.fzl (ns.map Val.int)), .rcd fs, .hole, .hole, .hole, .hole, .hole, .hole] := by
    have : (toVal (Pl.rcd fs)).isSome = true := by
      obtain ⟨zs, pl, dg, ct, fo, e, _⟩ := Q
      rw [e]; rfl
    obtain ⟨v, hv⟩ := Option.isSome_iff_exists.mp this
    refine evS_asg e1 (p := .rcd fs) (e2 := [.val (.fzl (ns.map Val.int)), .hole, .hole, .hole, .hole, .hole, .hole, .hole]) ?_ rfl
    show (match toVal (Pl.rcd fs) with | some _ => _ | none => _) = _
    rw [hv]
  obtain ⟨a, b, p', s2, A, B⟩ := st2 (k := 3) (s := .val (.fzl (ns.map Val.int))) Q
  obtain ⟨y, s5⟩ := st5 (k := 6) (s := .val (.fzl (ns.map Val.int))) (p := p') A B
  rw [show lv = 7 + 1 from rfl, callN_of f_law rfl (by decide) rfl]
  show ∃ ps, finish d_law _ (evSs (cL 6) [b_law[0]'(by decide), b_law[1]'(by decide), b_law[2]'(by decide), b_law[3]'(by decide), b_law[4]'(by decide), b_law[5]'(by decide)] [.val (.fzl (ns.map Val.int)), .hole, .hole, .hole, .hole, .hole, .hole, .hole]) = _
  rw [evSs_next s1, evSs_next s2, evSs_next st3, evSs_next st4, evSs_next s5, evSs_ret st6]
  exact ⟨_, rfl⟩
end Ev.k00
namespace Ev.k00
open PySem L2
abbrev ol : PySem.W.OpenLaw := PySem.Challenge.rw_sevenpoints_k00_errors_made_by_hand
abbrev R : PySem.W.OpenRow := PySem.W.OpenLaw.row ol
def n0 : List PySem.Str := ["PointError", "BadNumber", "BadProgram", "BadText", "BadName", "NoName", "TakenName", "BadRow", "BadPlace", "BadPoint", "Unlike", "TooMany"]
def n1 : List PySem.Str := ["NotKept", "BadPromise", "NothingToUndo", "NothingToRedo", "_law_pen", "_law_draw", "_law_pick", "_law_far", "_law_kinds", "_law_made", "_law_fields", "_law_value"]
def names : List PySem.Str := n0 ++ n1
abbrev dl : List He.DefD := (defs.map (·.1) ++ xdefs).map DefT.he
abbrev hk : PySem.W.Hook := hookM 5 (chkK tab defs cons) dl
def ob (s : PySem.W.SharedT) : Bool × List He.FnW := seeG 5 (chkK tab defs cons) dl (HandSHeadRun.getT s)
theorem ob_eq (s : PySem.W.SharedT) : ob s = hk.obs s.abs := seeG_eq (HandSHeadRun.getT_eq s)
theorem run (w : World) : HandSHeadRun.RunEq R (PySem.W.view R.prog [26]) hk ob 20000 names w := by
  intro os
  kernel_rfl
end Ev.k00
open PySem PySem.W PySem.Calls PyProof.Rows
theorem PySem.Challenge.cw_sevenpoints_k00_errors_made_by_hand_holds : PySem.Challenge.rw_sevenpoints_k00_errors_made_by_hand.Holds := by
  w_on; o_law
  refine HandSHeadRun.head_any (r := Ev.k00.R) (q := view Ev.k00.R.prog [26]) (H := Ev.k00.hk)
    (ob := Ev.k00.ob) (M := 20000) (loose := Ev.k00.names) (d := HandSHeadRun.topDef Ev.k00.R.prog 26) (kwd := []) Ev.k00.ob_eq
    (by kernel_rfl) (fun s => by kernel_rfl) Ev.k00.run (by kernel_rfl) (by kernel_rfl) (by kernel_rfl) (by rfl)
    (by first | assumption | decide +kernel) (by decide +kernel) ⟨rfl, rfl, rfl, rfl, rfl, by decide +kernel⟩ ?hw ?hc
  case hw => w_witness2
  case hc =>
    exact Ev.walkM (l := Ev.k00.ol) (T := Ev.k00.tab) (L := Ev.k00.defs) (XL := Ev.k00.xdefs) (Gc := Ev.k00.cons) (W := Ev.k00.fuel) (k := Ev.k00.lv) (pl := (Ev.k00.t_law, Ev.k00.d_law)) (x := "_law_script")
      rfl (by kernel_rfl) (by kernel_rfl) (by decide +kernel) (List.mem_of_getElem? (i := Ev.k00.defs.length - 1) rfl) rfl rfl (by kernel_rfl) Ev.k00.defsOk Ev.k00.xdefsOk
      ⟨⟨rfl, by decide, by decide⟩, rfl⟩ Ev.k00.law_true
