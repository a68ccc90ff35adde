import PyProof.Rows.All
import Wide.All
import OpenK.AllK
import Wide.FinOn
import Lean
import HandS.Conv
import HandS.Deep
import HandS.Defaults
import HandS.Ends
import HandS.Exc
import HandS.ExcField
import HandS.ExcInit
import HandS.ExcIs
import HandS.ExcSuper
import HandS.ExcValue
import HandS.Flow
import HandS.ForMost
import HandS.Gcd
import HandS.Head0
import HandS.Head1
import HandS.Head2
import HandS.HeadEnd
import HandS.HeadHook1
import HandS.HeadHook2
import HandS.HeadWalk
import HandS.IsInst
import HandS.MakeKwOnly
import HandS.More
import HandS.NoneIn
import HandS.RaiseMore
import HandS.Star
import HandS.Style
import HandS.Text
import HandS.TryMany
import HandS.TupAny
import HandS.Wide
import HandS.WideBits
import HandS.WordsDict
import HandS.Zip
import KE.GoesEnum
import KE.IntTextLaws
import KE.KExcIs
import KE.KExcSuper
import KE.KStateDown
import PyProof.AutoSeq1
import PyProof.ReprRoads
import PySem.Challenge.RW_measuretongue_k01_errors_each_of_its_own
set_option Elab.async false
set_option linter.all false
set_option maxRecDepth 100000
set_option maxHeartbeats 0
section
/-! G0: values as data, a store of what changes, how both lie in the abstract heap. -/
namespace G
open PySem L2

/-- built-in types; classes, built-in or own -/
inductive Ty where
  | non | bool | int | str | list | tuple | dict | set | eV | eL | eA | eT | eAt | eR
  deriving Inhabited, DecidableEq
def Ty.name : Ty → String
  | .non => "NoneType" | .bool => "bool" | .int => "int" | .str => "str" | .list => "list" | .tuple => "tuple" | .dict => "dict" | .set => "set"
  | .eV => "ValueError" | .eL => "LookupError" | .eA => "ArithmeticError" | .eT => "TypeError" | .eAt => "AttributeError" | .eR => "RuntimeError"
/-- types; classes; exc: the type of an own exception -/
inductive TC where
  | ty (t : Ty) | own (c : Nat) | exc (c : Nat)
  deriving Inhabited, DecidableEq
def TC.val (ca : Nat → Addr) : TC → Value
  | .ty t => .type t.name
  | .own c => .ref (ca c)
  | .exc c => .ref (ca c)
/-- the rights of a def: sh: it may show data; cm: it runs where no exception is handled -/
structure Md where
  sh : Bool
  cm : Bool
  deriving Inhabited, DecidableEq
/-- an own exception at a, its attributes in the dict at d -/
def exv (a C : Addr) (d : Option Addr) : HO := .ext fun h => ∃ (vs : Array Value) (sl : Array (Option Value)), h.get? a = some ({ cls := .ref C, dict := d, data := .fields vs, slots := sl } : Obj)
inductive D where
  | non | bl (b : Bool) | int (i : Int) | str (cs : List Nat) | ty (n : Ty)
  | tup (xs : List D) | ref (i : Nat) | fn (i : Nat) | cl (i : Nat) | wd (i : Nat) | bm (i f : Nat) | rp (p : PyData) | ex (c : Nat) (ds : List D)
  deriving Inhabited

inductive Cell where
  | lst (xs : List D)
  | frz (xs : List D)
  | ins (c : Nat) (fs : List (Nat × D))
  | dct (kvs : List (Key × D))
  deriving Inhabited
/-- a store: cells by number, in a tree -/
inductive Tr where
  | lf
  | nd (v : Option Cell) (l r : Tr)
  deriving Inhabited
def Tr.get : Tr → Nat → Option Cell
  | .lf, _ => none
  | .nd v l r, i => match Nat.beq i 0 with
    | true => v
    | false => match Nat.beq (i % 2) 1 with
      | true => l.get (i / 2)
      | false => r.get (i / 2 - 1)
def Tr.ins : Nat → Nat → Cell → Tr → Tr
  | 0, _, _, t => t
  | f + 1, i, c, .lf => match Nat.beq i 0 with
    | true => .nd (some c) .lf .lf
    | false => match Nat.beq (i % 2) 1 with
      | true => .nd none (Tr.ins f (i / 2) c .lf) .lf
      | false => .nd none .lf (Tr.ins f (i / 2 - 1) c .lf)
  | f + 1, i, c, .nd v l r => match Nat.beq i 0 with
    | true => .nd (some c) l r
    | false => match Nat.beq (i % 2) 1 with
      | true => .nd v (Tr.ins f (i / 2) c l) r
      | false => .nd v l (Tr.ins f (i / 2 - 1) c r)
theorem beq_t {a b : Nat} : Nat.beq a b = true ↔ a = b := ⟨Nat.eq_of_beq_eq_true, fun h => by subst h; exact Nat.beq_refl a⟩
theorem beq_f {a b : Nat} : Nat.beq a b = false ↔ a ≠ b := by
  rw [← Bool.not_eq_true, beq_t]
theorem Tr.get_ins : ∀ (f i j : Nat) (c : Cell) (t : Tr), i < f → (Tr.ins f i c t).get j = if j = i then some c else t.get j
  | 0, _, _, _, _, h => absurd h (Nat.not_lt_zero _)
  | f + 1, i, j, c, .lf, h => by
    unfold Tr.ins
    split
    · rename_i h0
      have h0 := beq_t.mp h0
      subst h0
      unfold Tr.get
      split
      · rename_i h1; rw [if_pos (beq_t.mp h1)]
      · rename_i h1
        rw [if_neg (beq_f.mp h1)]
        split <;> rfl
    · rename_i h0
      have h0 := beq_f.mp h0
      split
      · rename_i h1
        have h1 := beq_t.mp h1
        unfold Tr.get
        split
        · rename_i h2; have h2 := beq_t.mp h2; rw [if_neg (by omega)]
        · rename_i h2
          have h2 := beq_f.mp h2
          split
          · rename_i h3
            have h3 := beq_t.mp h3
            rw [Tr.get_ins f (i / 2) (j / 2) c .lf (by omega)]
            by_cases e : j = i
            · rw [if_pos (by omega), if_pos e]
            · rw [if_neg (by omega), if_neg e]; rfl
          · rename_i h3
            have h3 := beq_f.mp h3
            rw [if_neg (by omega)]; rfl
      · rename_i h1
        have h1 := beq_f.mp h1
        unfold Tr.get
        split
        · rename_i h2; have h2 := beq_t.mp h2; rw [if_neg (by omega)]
        · rename_i h2
          have h2 := beq_f.mp h2
          split
          · rename_i h3
            have h3 := beq_t.mp h3
            rw [if_neg (by omega)]; rfl
          · rename_i h3
            have h3 := beq_f.mp h3
            rw [Tr.get_ins f (i / 2 - 1) (j / 2 - 1) c .lf (by omega)]
            by_cases e : j = i
            · rw [if_pos (by omega), if_pos e]
            · rw [if_neg (by omega), if_neg e]; rfl
  | f + 1, i, j, c, .nd v l r, h => by
    unfold Tr.ins
    split
    · rename_i h0
      have h0 := beq_t.mp h0
      subst h0
      unfold Tr.get
      split
      · rename_i h1; rw [if_pos (beq_t.mp h1)]
      · rename_i h1
        rw [if_neg (beq_f.mp h1)]
    · rename_i h0
      have h0 := beq_f.mp h0
      split
      · rename_i h1
        have h1 := beq_t.mp h1
        unfold Tr.get
        split
        · rename_i h2; have h2 := beq_t.mp h2; rw [if_neg (by omega)]
        · rename_i h2
          have h2 := beq_f.mp h2
          split
          · rename_i h3
            have h3 := beq_t.mp h3
            rw [Tr.get_ins f (i / 2) (j / 2) c l (by omega)]
            by_cases e : j = i
            · rw [if_pos (by omega), if_pos e]
            · rw [if_neg (by omega), if_neg e]
          · rename_i h3
            have h3 := beq_f.mp h3
            rw [if_neg (by omega)]
      · rename_i h1
        have h1 := beq_f.mp h1
        unfold Tr.get
        split
        · rename_i h2; have h2 := beq_t.mp h2; rw [if_neg (by omega)]
        · rename_i h2
          have h2 := beq_f.mp h2
          split
          · rename_i h3
            have h3 := beq_t.mp h3
            rw [if_neg (by omega)]
          · rename_i h3
            have h3 := beq_f.mp h3
            rw [Tr.get_ins f (i / 2 - 1) (j / 2 - 1) c r (by omega)]
            by_cases e : j = i
            · rw [if_pos (by omega), if_pos e]
            · rw [if_neg (by omega), if_neg e]
structure Sto where
  n : Nat
  t : Tr
  deriving Inhabited
def Sto.get (S : Sto) (i : Nat) : Option Cell := S.t.get i
def Sto.put (S : Sto) (i : Nat) (c : Cell) : Sto := ⟨S.n, Tr.ins (i + 1) i c S.t⟩
def Sto.push (S : Sto) (c : Cell) : Sto := ⟨S.n + 1, Tr.ins (S.n + 1) S.n c S.t⟩
theorem Sto.get_put (S : Sto) (i j : Nat) (c : Cell) : (S.put i c).get j = if j = i then some c else S.get j := Tr.get_ins _ _ _ _ _ (Nat.lt_succ_self _)
theorem Sto.get_push (S : Sto) (j : Nat) (c : Cell) : (S.push c).get j = if j = S.n then some c else S.get j := Tr.get_ins _ _ _ _ _ (Nat.lt_succ_self _)

/-- what stands where, in the written part -/
structure Tb where
  K : PySem.W.Frag
  fa : Nat → Addr
  ca : Nat → Addr
  wa : Nat → Addr
  nm : Nat → Str
  nmi : ∀ i j, nm i = nm j → i = j
  smd : ∃ o, K.lookup sysModules = some o ∧ o.cls = .type "dict"
  fld : Nat → Nat → Bool
  fldC : ∀ c f, fld c f = true → Cls K (ca c) ∧ NoAttr K (ca c) (nm f)
  xps : Nat → List Str
  xf : Nat → Nat → Option Nat
  xfC : ∀ c f i, xf c f = some i → (xps c)[i]? = some (nm f) ∧ (xps c).Nodup ∧ NoAttr K (ca c) (nm f) ∧ ExcC K (ca c)
  mt : Nat → Nat → Option Nat
  mtC : ∀ c m f, mt c m = some f → Cls K (ca c) ∧ BMeth K (ca c) (nm m) (fa f)
  ini : Nat → Option Nat
  iniC : ∀ c f, ini c = some f → Mk K (ca c) (fa f)
  isv : TC → TC → Option Bool
  isvC : ∀ t c b, isv t c = some b → PySem.W.kitOne K (t.val ca) (c.val ca) = some b
  exC : ∀ c d b, isv (.exc c) d = some b → ExcC K (ca c)
  insC : ∀ c d b, isv (.own c) d = some b → Cls K (ca c) ∧ PySem.W.findIn K (.ref (ca c)) "__class__" = some (some (.builtin "object.__class__")) ∧
    PySem.W.specialIn K (.builtin "object.__class__") "__get__" = some (some (.builtin "getset_descriptor.__get__")) ∧ PySem.W.takesIn K (.builtin "object.__class__") = some true ∧ PySem.W.mroIn K (ca c) (.type "object") = some true

structure Wd where
  ρ : Nat → Addr
  n : Nat
  H : Hp

def imm : HO → Prop
  | .tup _ => True
  | .met _ _ => True
  | .xd _ => True
  | .ext _ => True
  | _ => False

structure Wd.le (w w' : Wd) : Prop where
  n : w.n ≤ w'.n
  ag : ∀ i, i < w.n → w'.ρ i = w.ρ i
  im : ∀ a o, imm o → w.H a = some o → w'.H a = some o
theorem Wd.le.refl (w : Wd) : w.le w := ⟨Nat.le_refl _, fun _ _ => rfl, fun _ _ _ h => h⟩
theorem Wd.le.trans {a b c : Wd} (h : a.le b) (k : b.le c) : a.le c :=
  ⟨Nat.le_trans h.n k.n, fun i hi => (k.ag i (Nat.lt_of_lt_of_le hi h.n)).trans (h.ag i hi), fun x o q e => k.im x o q (h.im x o q e)⟩

variable (B : Tb)

def TupAt (w : Wd) (a : Addr) (vs : List V) : Prop :=
  w.H a = some (.tup vs) ∨
  ∃ (o : Obj) (its : Array Value) (n : Nat), B.K.lookup a = some o ∧ o.cls = .type "tuple" ∧ o.data = .seq its n ∧ its.size ≤ sizeLine ∧ Vals vs its.toList

mutual
def Rv (w : Wd) : D → V → Prop
  | .non, v => v = .non
  | .bl b, v => v = .bl b
  | .int i, v => v = .int i
  | .str cs, v => v = .str ⟨cs.toArray⟩
  | .ty n, v => v = .ty n.name
  | .tup ds, v => ∃ a vs, v = .ref a ∧ TupAt B w a vs ∧ Rvs w ds vs
  | .ref i, v => i < w.n ∧ v = .ref (w.ρ i)
  | .fn i, v => v = .ref (B.fa i)
  | .cl i, v => v = .ref (B.ca i)
  | .wd i, v => v = .ref (B.wa i)
  | .rp p, v => v = .str p.shown
  | .bm i f, v => ∃ a, v = .ref a ∧ i < w.n ∧ w.H a = some (.met (B.fa f) (w.ρ i))
  | .ex c ds, v => ∃ a vs, v = .ref a ∧ Rvs w ds vs ∧ ((ds = [] ∧ w.H a = some (exv a (B.ca c) none)) ∨ ∃ d, w.H a = some (exv a (B.ca c) (some d)) ∧ w.H d = some (.xd ((B.xps c).zip vs).reverse))
def Rvs (w : Wd) : List D → List V → Prop
  | [], vs => vs = []
  | d :: ds, vs => ∃ v r, vs = v :: r ∧ Rv w d v ∧ Rvs w ds r
end

variable {B}
theorem TupAt.mono {w w' : Wd} {a : Addr} {vs : List V} (h : w.le w') (t : TupAt B w a vs) : TupAt B w' a vs := by
  rcases t with t | t
  · exact .inl (h.im _ _ trivial t)
  · exact .inr t
theorem TupAt.sq {w : Wd} {a : Addr} {vs : List V} (t : TupAt B w a vs) : SqT B.K w.H a vs := by
  rcases t with t | t
  · exact .inl (.inl t)
  · exact .inr t

mutual
theorem Rv.mono {w w' : Wd} (h : w.le w') : ∀ {d : D} {v : V}, Rv B w d v → Rv B w' d v
  | .non, _, r => r
  | .bl _, _, r => r
  | .int _, _, r => r
  | .str _, _, r => r
  | .ty _, _, r => r
  | .tup ds, _, r => by
    simp only [Rv] at r ⊢
    obtain ⟨a, vs, e, t, q⟩ := r
    exact ⟨a, vs, e, t.mono h, Rvs.mono h q⟩
  | .ref i, _, r => by
    simp only [Rv] at r ⊢
    exact ⟨Nat.lt_of_lt_of_le r.1 h.n, by rw [h.ag i r.1]; exact r.2⟩
  | .fn _, _, r => r
  | .cl _, _, r => r
  | .wd _, _, r => r
  | .rp _, _, r => r
  | .bm i f, _, r => by
    simp only [Rv] at r ⊢
    obtain ⟨a, e, hi, m⟩ := r
    exact ⟨a, e, Nat.lt_of_lt_of_le hi h.n, by rw [h.ag i hi]; exact h.im _ _ trivial m⟩
  | .ex c ds, _, r => by
    simp only [Rv] at r ⊢
    obtain ⟨a, vs, e, q, t⟩ := r
    refine ⟨a, vs, e, Rvs.mono h q, ?_⟩
    rcases t with ⟨e1, e2⟩ | ⟨d, e1, e2⟩
    · exact .inl ⟨e1, h.im _ _ (show imm (exv a (B.ca c) none) from trivial) e2⟩
    · exact .inr ⟨d, h.im _ _ (show imm (exv a (B.ca c) (some d)) from trivial) e1, h.im _ _ trivial e2⟩
theorem Rvs.mono {w w' : Wd} (h : w.le w') : ∀ {ds : List D} {vs : List V}, Rvs B w ds vs → Rvs B w' ds vs
  | [], _, r => r
  | d :: ds, _, r => by
    simp only [Rvs] at r ⊢
    obtain ⟨v, q, e, r1, r2⟩ := r
    exact ⟨v, q, e, Rv.mono h r1, Rvs.mono h r2⟩
end

theorem Rvs.nil {w : Wd} : Rvs B w [] [] := rfl
theorem Rvs.cons {w : Wd} {d : D} {v : V} {ds : List D} {vs : List V} (h : Rv B w d v) (t : Rvs B w ds vs) : Rvs B w (d :: ds) (v :: vs) := ⟨v, vs, rfl, h, t⟩
theorem Rvs.length {w : Wd} : ∀ {ds : List D} {vs : List V}, Rvs B w ds vs → vs.length = ds.length
  | [], _, r => by simp only [Rvs] at r; rw [r]; rfl
  | d :: ds, _, r => by
    simp only [Rvs] at r
    obtain ⟨v, q, rfl, _, t⟩ := r
    simp [Rvs.length t]
theorem Rvs.get {w : Wd} : ∀ {ds : List D} {vs : List V} {i : Nat} {d : D}, Rvs B w ds vs → ds[i]? = some d → ∃ v, vs[i]? = some v ∧ Rv B w d v
  | [], _, _, _, _, e => by simp at e
  | d :: ds, _, 0, _, r, e => by
    simp only [Rvs] at r
    obtain ⟨v, q, rfl, h, _⟩ := r
    simp at e; subst e
    exact ⟨v, rfl, h⟩
  | d :: ds, _, i + 1, _, r, e => by
    simp only [Rvs] at r
    obtain ⟨v, q, rfl, _, t⟩ := r
    simpa using Rvs.get (i := i) t (by simpa using e)
theorem Rvs.getv {w : Wd} {ds : List D} {vs : List V} {i : Nat} {v : V} (r : Rvs B w ds vs) (e : vs[i]? = some v) : ∃ d, ds[i]? = some d ∧ Rv B w d v := by
  have hl : i < ds.length := by rw [← r.length]; exact (List.getElem?_eq_some_iff.mp e).1
  obtain ⟨v', e', q⟩ := r.get (i := i) (d := ds[i]) (by simp [hl])
  rw [e] at e'; cases e'
  exact ⟨_, by simp [hl], q⟩
theorem Rvs.app {w : Wd} : ∀ {ds es : List D} {vs us : List V}, Rvs B w ds vs → Rvs B w es us → Rvs B w (ds ++ es) (vs ++ us)
  | [], _, _, _, r, q => by simp only [Rvs] at r; subst r; exact q
  | d :: ds, _, _, _, r, q => by
    simp only [Rvs] at r
    obtain ⟨v, u, rfl, h, t⟩ := r
    exact .cons h (t.app q)
theorem Rvs.take {w : Wd} : ∀ {ds : List D} {vs : List V} (n : Nat), Rvs B w ds vs → Rvs B w (ds.take n) (vs.take n)
  | [], _, n, r => by simp only [Rvs] at r; subst r; cases n <;> exact rfl
  | d :: ds, _, 0, r => rfl
  | d :: ds, _, n + 1, r => by
    simp only [Rvs] at r
    obtain ⟨v, u, rfl, h, t⟩ := r
    exact .cons h (t.take n)
theorem Rvs.drop {w : Wd} : ∀ {ds : List D} {vs : List V} (n : Nat), Rvs B w ds vs → Rvs B w (ds.drop n) (vs.drop n)
  | [], _, n, r => by simp only [Rvs] at r; subst r; cases n <;> exact rfl
  | d :: ds, _, 0, r => r
  | d :: ds, _, n + 1, r => by
    simp only [Rvs] at r
    obtain ⟨v, u, rfl, h, t⟩ := r
    exact t.drop n
theorem Rvs.set {w : Wd} : ∀ {ds : List D} {vs : List V} (n : Nat) {d : D} {v : V}, Rvs B w ds vs → Rv B w d v → Rvs B w (ds.set n d) (vs.set n v)
  | [], _, n, _, _, r, _ => by simp only [Rvs] at r; subst r; exact rfl
  | d :: ds, _, 0, _, _, r, q => by
    simp only [Rvs] at r
    obtain ⟨v, u, rfl, h, t⟩ := r
    exact .cons q t
  | d :: ds, _, n + 1, _, _, r, q => by
    simp only [Rvs] at r
    obtain ⟨v, u, rfl, h, t⟩ := r
    exact .cons h (t.set n q)
theorem Rvs.erase {w : Wd} : ∀ {ds : List D} {vs : List V} (n : Nat), Rvs B w ds vs → Rvs B w (ds.eraseIdx n) (vs.eraseIdx n)
  | [], _, n, r => by simp only [Rvs] at r; subst r; exact rfl
  | d :: ds, _, 0, r => by
    simp only [Rvs] at r
    obtain ⟨v, u, rfl, h, t⟩ := r
    exact t
  | d :: ds, _, n + 1, r => by
    simp only [Rvs] at r
    obtain ⟨v, u, rfl, h, t⟩ := r
    exact .cons h (t.erase n)
theorem Rvs.rev {w : Wd} : ∀ {ds : List D} {vs : List V}, Rvs B w ds vs → Rvs B w ds.reverse vs.reverse
  | [], _, r => by simp only [Rvs] at r; subst r; exact rfl
  | d :: ds, _, r => by
    simp only [Rvs] at r
    obtain ⟨v, u, rfl, h, t⟩ := r
    rw [List.reverse_cons, List.reverse_cons]
    exact t.rev.app (.cons h .nil)

/-! ### fields, dicts -/
variable (B) in
def Rf (w : Wd) : List (Nat × D) → List (Str × V) → Prop
  | [], gs => gs = []
  | (k, d) :: fs, gs => ∃ v r, gs = (B.nm k, v) :: r ∧ Rv B w d v ∧ Rf w fs r
variable (B) in
def Rk (w : Wd) : List (Key × D) → List (Key × V) → Prop
  | [], gs => gs = []
  | (k, d) :: fs, gs => ∃ v r, gs = (k, v) :: r ∧ Rv B w d v ∧ Rk w fs r
theorem Rf.mono {w w' : Wd} (h : w.le w') : ∀ {fs : List (Nat × D)} {gs : List (Str × V)}, Rf B w fs gs → Rf B w' fs gs
  | [], _, r => r
  | (k, d) :: fs, _, r => by
    obtain ⟨v, q, e, r1, r2⟩ := r
    exact ⟨v, q, e, r1.mono h, Rf.mono h r2⟩
theorem Rk.mono {w w' : Wd} (h : w.le w') : ∀ {fs : List (Key × D)} {gs : List (Key × V)}, Rk B w fs gs → Rk B w' fs gs
  | [], _, r => r
  | (k, d) :: fs, _, r => by
    obtain ⟨v, q, e, r1, r2⟩ := r
    exact ⟨v, q, e, r1.mono h, Rk.mono h r2⟩

def Cell.mut : Cell → Bool
  | .lst _ => true
  | .ins _ _ => true
  | .dct _ => true
  | .frz _ => false
variable (B) in
def Rc (w : Wd) : Cell → HO → Prop
  | .lst ds, o => ∃ vs, o = .lst vs ∧ Rvs B w ds vs
  | .frz ds, o => ∃ ob vs, o = .frz ob (.lst vs) ∧ Rvs B w ds vs
  | .ins c fs, o => ∃ dx gs, o = .ins (B.ca c) dx gs ∧ Rf B w fs gs
  | .dct kvs, o => ∃ ks, o = .dK ks ∧ Rk B w kvs ks
theorem Rc.mono {w w' : Wd} (h : w.le w') {c : Cell} {o : HO} (r : Rc B w c o) : Rc B w' c o := by
  cases c with
  | lst ds => obtain ⟨vs, e, q⟩ := r; exact ⟨vs, e, q.mono h⟩
  | frz ds => obtain ⟨ob, vs, e, q⟩ := r; exact ⟨ob, vs, e, q.mono h⟩
  | ins c fs => obtain ⟨dx, gs, e, q⟩ := r; exact ⟨dx, gs, e, q.mono h⟩
  | dct kvs => obtain ⟨ks, e, q⟩ := r; exact ⟨ks, e, q.mono h⟩
theorem Rc.nimm {w : Wd} {c : Cell} {o : HO} (r : Rc B w c o) : ¬ imm o := by
  cases c with
  | lst ds => obtain ⟨vs, e, q⟩ := r; subst e; exact fun z => z
  | frz ds => obtain ⟨ob, vs, e, q⟩ := r; subst e; exact fun z => z
  | ins c fs => obtain ⟨dx, gs, e, q⟩ := r; subst e; exact fun z => z
  | dct kvs => obtain ⟨ks, e, q⟩ := r; subst e; exact fun z => z

variable (B) in
/-- a list of the written part -/
def KL (a : Addr) (xs : List V) : Prop := ∃ (o : Obj) (its : Array Value) (n : Nat), B.K.lookup a = some o ∧ o.cls = .type "list" ∧ o.dict = none ∧ o.data = .seq its n ∧ its.size ≤ sizeLine ∧ Vals xs its.toList
variable (B) in
/-- what stands at a cell's address -/
def CAt (w : Wd) (c : Cell) (a : Addr) : Prop := (∃ o, w.H a = some o ∧ Rc B w c o) ∨ ∃ xs vs, c = .frz xs ∧ KL B a vs ∧ Rvs B w xs vs
theorem CAt.mut {w : Wd} {c : Cell} {a : Addr} (h : CAt B w c a) (hm : c.mut = true) : ∃ o, w.H a = some o ∧ Rc B w c o := by
  rcases h with h | ⟨xs, vs, rfl, _⟩
  · exact h
  · cases hm
theorem Rc.nfrz {w : Wd} {c : Cell} {o : HO} (r : Rc B w c o) (hm : c.mut = true) (ob : Obj) (u : HO) : o ≠ .frz ob u := by
  cases c with
  | lst ds => obtain ⟨vs, e, q⟩ := r; subst e; exact fun z => nomatch z
  | frz ds => cases hm
  | ins c fs => obtain ⟨dx, gs, e, q⟩ := r; subst e; exact fun z => nomatch z
  | dct kvs => obtain ⟨ks, e, q⟩ := r; subst e; exact fun z => nomatch z
variable (B) in
structure RS (w : Wd) (S : Sto) : Prop where
  len : w.n = S.n
  cell : ∀ i c, S.get i = some c → i < w.n ∧ CAt B w c (w.ρ i)
  inj : ∀ i j c c', S.get i = some c → S.get j = some c' → c.mut = true → c'.mut = true → w.ρ i = w.ρ j → i = j

variable (B) in
structure RE (w : Wd) (env : List (Option D)) (σ : L2.St) : Prop where
  len : env.length = σ.length
  at_ : ∀ (i : Nat) (d : D), env[i]? = some (some d) → ∃ v, σ[i]? = some (some v) ∧ Rv B w d v
theorem RE.mono {w w' : Wd} (h : w.le w') {env : List (Option D)} {σ : L2.St} (r : RE B w env σ) : RE B w' env σ :=
  ⟨r.len, fun i d e => let ⟨v, a, b⟩ := r.at_ i d e; ⟨v, a, b.mono h⟩⟩
theorem RE.set {w : Wd} {env : List (Option D)} {σ : L2.St} (r : RE B w env σ) (i : Nat) {d : D} {v : V} (q : Rv B w d v) : RE B w (env.set i (some d)) (σ.set i (some v)) := by
  refine ⟨by simp [r.len], fun j e h => ?_⟩
  by_cases hj : i = j
  · subst hj
    by_cases hl : i < env.length
    · rw [List.getElem?_set_self hl] at h
      cases h
      exact ⟨v, by rw [List.getElem?_set_self (by rw [← r.len]; exact hl)], q⟩
    · rw [List.getElem?_eq_none (by simpa using hl)] at h
      cases h
  · rw [List.getElem?_set_ne hj] at h
    rw [List.getElem?_set_ne hj]
    exact r.at_ j e h

/-! ### how the world grows -/
/-- a new immutable thing -/
def Wd.putI (w : Wd) (p : Addr) (o : HO) : Wd := ⟨w.ρ, w.n, upd w.H p o⟩
def Wd.new (w : Wd) (p : Addr) (o : HO) : Wd := ⟨fun i => if i = w.n then p else w.ρ i, w.n + 1, upd w.H p o⟩
theorem Wd.putI_le {w : Wd} {p : Addr} {o : HO} (h : w.H p = none) : w.le (w.putI p o) :=
  ⟨Nat.le_refl _, fun _ _ => rfl, fun a u _ e => by
    show upd w.H p o a = some u
    rw [upd_ne (ne_of_none e h)]; exact e⟩
theorem Wd.new_le {w : Wd} {p : Addr} {o : HO} (h : w.H p = none) : w.le (w.new p o) :=
  ⟨Nat.le_succ _, fun i hi => by
    show (if i = w.n then p else w.ρ i) = w.ρ i
    rw [if_neg (Nat.ne_of_lt hi)], fun a u _ e => by
    show upd w.H p o a = some u
    rw [upd_ne (ne_of_none e h)]; exact e⟩
theorem RS.at_ {w : Wd} {S : Sto} (r : RS B w S) (i : Nat) (c : Cell) (e : S.get i = some c) (hm : c.mut = true := by rfl) : ∃ o, w.H (w.ρ i) = some o ∧ Rc B w c o := (r.cell i c e).2.mut hm
theorem RS.putI {w : Wd} {S : Sto} (r : RS B w S) {p : Addr} {o : HO} (h : w.H p = none) : RS B (w.putI p o) S := by
  have st : ∀ {q u}, w.H q = some u → upd w.H p o q = some u := fun {q u} hu => by rw [upd_ne (ne_of_none hu h)]; exact hu
  refine ⟨r.len, fun i c e => ?_, r.inj⟩
  obtain ⟨hi, q⟩ := r.cell i c e
  refine ⟨hi, ?_⟩
  rcases q with ⟨u, hu, q⟩ | ⟨xs, vs, e, kl, q⟩
  · exact .inl ⟨u, st hu, q.mono (Wd.putI_le h)⟩
  · exact .inr ⟨xs, vs, e, kl, q.mono (Wd.putI_le h)⟩
theorem RS.new {w : Wd} {S : Sto} (r : RS B w S) {p : Addr} {o : HO} {c : Cell} (h : w.H p = none) (q : Rc B (w.new p o) c o) : RS B (w.new p o) (S.push c) := by
  have old : ∀ i, i < w.n → (w.new p o).ρ i = w.ρ i := fun i hi => by
    show (if i = w.n then p else w.ρ i) = w.ρ i
    rw [if_neg (Nat.ne_of_lt hi)]
  have own : (w.new p o).ρ w.n = p := by
    show (if w.n = w.n then p else w.ρ w.n) = p
    rw [if_pos rfl]
  have st : ∀ {q u}, w.H q = some u → (w.new p o).H q = some u := fun {q u} hu => by
    show upd w.H p o q = some u
    rw [upd_ne (ne_of_none hu h)]; exact hu
  have atp : (w.new p o).H p = some o := upd_same
  have hn : (w.new p o).n = w.n + 1 := rfl
  have back : ∀ i c', (S.push c).get i = some c' → (i = w.n ∧ c' = c) ∨ (i < w.n ∧ S.get i = some c') := fun i c' e => by
    rw [Sto.get_push] at e
    by_cases hi : i = S.n
    · rw [if_pos hi] at e
      cases e
      exact .inl ⟨by rw [r.len]; exact hi, rfl⟩
    · rw [if_neg hi] at e
      exact .inr ⟨(r.cell i c' e).1, e⟩
  have ne : ∀ i c', S.get i = some c' → c'.mut = true → w.ρ i ≠ p := fun i c' e hm => by
    obtain ⟨u, hu, _⟩ := r.at_ i c' e hm
    exact ne_of_none hu h
  refine ⟨by show w.n + 1 = S.n + 1; rw [r.len], fun i c' e => ?_, fun i j c1 c2 h1 h2 m1 m2 e => ?_⟩
  · rcases back i c' e with ⟨rfl, rfl⟩ | ⟨hi, e⟩
    · exact ⟨by rw [hn]; omega, .inl ⟨o, by rw [own]; exact atp, q⟩⟩
    · obtain ⟨hl, q'⟩ := r.cell i c' e
      refine ⟨by rw [hn]; omega, ?_⟩
      rw [old i hl]
      rcases q' with ⟨u, hu, q'⟩ | ⟨xs, vs, e', kl, q'⟩
      · exact .inl ⟨u, st hu, q'.mono (Wd.new_le h)⟩
      · exact .inr ⟨xs, vs, e', kl, q'.mono (Wd.new_le h)⟩
  · rcases back i c1 h1 with ⟨rfl, rfl⟩ | ⟨hi, e1⟩
    · rcases back j c2 h2 with ⟨rfl, _⟩ | ⟨hj, e2⟩
      · rfl
      · rw [own, old j hj] at e
        exact absurd e.symm (ne j c2 e2 m2)
    · rcases back j c2 h2 with ⟨rfl, _⟩ | ⟨hj, e2⟩
      · rw [own, old i hi] at e
        exact absurd e (ne i c1 e1 m1)
      · rw [old i hi, old j hj] at e
        exact r.inj i j c1 c2 e1 e2 m1 m2 e
/-- a cell changed -/
def Wd.chg (w : Wd) (i : Nat) (o : HO) : Wd := ⟨w.ρ, w.n, upd w.H (w.ρ i) o⟩
theorem Wd.chg_le {w : Wd} {i : Nat} {o u : HO} (h : w.H (w.ρ i) = some u) (hu : ¬ imm u) : w.le (w.chg i o) :=
  ⟨Nat.le_refl _, fun _ _ => rfl, fun a x hx e => by
    show upd w.H (w.ρ i) o a = some x
    rw [upd_ne]
    · exact e
    · rintro rfl
      rw [h] at e; cases e
      exact hu hx⟩
theorem RS.chg {w : Wd} {S : Sto} (r : RS B w S) {i : Nat} {c c' : Cell} {o : HO} (e : S.get i = some c) (q : Rc B (w.chg i o) c' o) (hm : c.mut = true := by rfl) (hm' : c'.mut = true := by rfl) : RS B (w.chg i o) (S.put i c') := by
  obtain ⟨u, hu, qu⟩ := r.at_ i c e hm
  have hi := (r.cell i c e).1
  have le : w.le (w.chg i o) := Wd.chg_le hu qu.nimm
  have atp : (w.chg i o).H (w.ρ i) = some o := upd_same
  have st : ∀ {q u}, q ≠ w.ρ i → w.H q = some u → (w.chg i o).H q = some u := fun {q u} hne hu => by
    show upd w.H (w.ρ i) o q = some u
    rw [upd_ne hne]; exact hu
  have back : ∀ j d, (S.put i c').get j = some d → (j = i ∧ d = c') ∨ (j ≠ i ∧ S.get j = some d) := fun j d ed => by
    rw [Sto.get_put] at ed
    by_cases hj : j = i
    · rw [if_pos hj] at ed
      cases ed
      exact .inl ⟨hj, rfl⟩
    · rw [if_neg hj] at ed
      exact .inr ⟨hj, ed⟩
  refine ⟨r.len, fun j d ed => ?_, fun a b c1 c2 h1 h2 m1 m2 e' => ?_⟩
  · rcases back j d ed with ⟨rfl, rfl⟩ | ⟨hj, ed⟩
    · exact ⟨hi, .inl ⟨o, atp, q⟩⟩
    · obtain ⟨hjl, qx⟩ := r.cell j d ed
      refine ⟨hjl, ?_⟩
      rcases qx with ⟨x, hx, qx⟩ | ⟨xs, vs, e1, kl, qx⟩
      · refine .inl ⟨x, st (fun z => ?_) hx, qx.mono le⟩
        cases hd : d.mut with
        | true => exact hj (r.inj j i d c ed e hd hm z)
        | false =>
          have z : w.ρ j = w.ρ i := z
          rw [z, hu] at hx
          cases hx
          cases d with
          | frz ds =>
            obtain ⟨ob, vs, ex, _⟩ := qx
            exact qu.nfrz hm _ _ ex
          | lst _ => cases hd
          | ins _ _ => cases hd
          | dct _ => cases hd
      · exact .inr ⟨xs, vs, e1, kl, qx.mono le⟩
  · have fix : ∀ j d, (S.put i c').get j = some d → d.mut = true → ∃ d', S.get j = some d' ∧ d'.mut = true := fun j d h m => by
      rcases back j d h with ⟨rfl, rfl⟩ | ⟨_, h⟩
      · exact ⟨c, e, hm⟩
      · exact ⟨d, h, m⟩
    obtain ⟨d1, g1, k1⟩ := fix a c1 h1 m1
    obtain ⟨d2, g2, k2⟩ := fix b c2 h2 m2
    exact r.inj a b d1 d2 g1 g2 k1 k2 e'
end G
end
section
/-! G1: runs over the store, what a reading makes of them. -/
namespace G
open PySem L2

structure Exn where
  cl : Nat
  ds : List D
  deriving Inhabited
inductive Res (α : Type) where
  | ok (a : α) (S : Sto)
  | exc (e : Exn) (S : Sto)
abbrev M (α : Type) := Sto → Option (Res α)
def ret {α : Type} (a : α) : M α := fun S => some (.ok a S)
def stuck {α : Type} : M α := fun _ => none
def bnd {α β : Type} (m : M α) (k : α → M β) : M β := fun S => match m S with
  | some (.ok a S') => k a S'
  | some (.exc e S') => some (.exc e S')
  | none => none
theorem bnd_ok {α β : Type} {m : M α} {k : α → M β} {S S' : Sto} {a : α} (e : m S = some (.ok a S')) : bnd m k S = k a S' := by unfold bnd; rw [e]
theorem bnd_exc {α β : Type} {m : M α} {k : α → M β} {S S' : Sto} {x : Exn} (e : m S = some (.exc x S')) : bnd m k S = some (.exc x S') := by unfold bnd; rw [e]
theorem bnd_none {α β : Type} {m : M α} {k : α → M β} {S : Sto} (e : m S = none) : bnd m k S = none := by unfold bnd; rw [e]
abbrev Env := List (Option D)

section
variable (B : Tb)
def RX (w : Wd) (e : Exn) (cls : Value) (dx : Option Addr) : Prop :=
  cls = .ref (B.ca e.cl) ∧ ∃ vs, Rvs B w e.ds vs ∧ ((e.ds = [] ∧ dx = none) ∨ ∃ d, dx = some d ∧ w.H d = some (.xd ((B.xps e.cl).zip vs).reverse))

/-- what is wanted of a run's end -/
def Po {α : Type} (E : XK) (w : Wd) (r : Option (Res α)) (P : Wd → Sto → α → Prop) : Prop :=
  match r with
  | none => False
  | some (.ok a S) => ∀ w', w.le w' → RS B w' S → P w' S a
  | some (.exc e S) => ∀ w' cls dx, w.le w' → RS B w' S → RX B w' e cls dx → E cls dx w'.H
abbrev PD (E : XK) (w : Wd) (r : Option (Res D)) (Q : VK) : Prop := Po B E w r fun w' _ d => ∀ v, Rv B w' d v → Q v w'.H
end

section
variable {B : Tb} {E : XK} {w : Wd} {α β : Type} {S : Sto}
theorem Po.le {w' : Wd} {r : Option (Res α)} {P : Wd → Sto → α → Prop} (l : w.le w') (h : Po B E w r P) : Po B E w' r P := by
  match r, h with
  | some (.ok a S), h => exact fun w2 l2 => h w2 (l.trans l2)
  | some (.exc e S), h => exact fun w2 c d l2 => h w2 c d (l.trans l2)
theorem Po.bnd {m : M α} {k : α → M β} {P : Wd → Sto → β → Prop} (h : Po B E w (bnd m k S) P) : Po B E w (m S) fun w1 S1 a => Po B E w1 (k a S1) P := by
  unfold G.bnd at h
  match e : m S with
  | none => rw [e] at h; exact h
  | some (.ok a S') =>
    rw [e] at h
    exact fun w1 l1 _ => Po.le l1 h
  | some (.exc x S') => rw [e] at h; exact h
theorem Po.imp {r : Option (Res α)} {P P' : Wd → Sto → α → Prop} (h : Po B E w r P) (k : ∀ w' S' a, w.le w' → RS B w' S' → P w' S' a → P' w' S' a) : Po B E w r P' := by
  match r, h with
  | some (.ok a S), h => exact fun w2 l2 rs => k _ _ _ l2 rs (h w2 l2 rs)
  | some (.exc e S), h => exact h
theorem Po.ret {a : α} {P : Wd → Sto → α → Prop} (h : Po B E w (ret a S) P) (rs : RS B w S) : P w S a := h w (.refl w) rs
theorem Po.stuck {P : Wd → Sto → α → Prop} (h : Po B E w (stuck S) P) : False := h
/-- a pure end -/
theorem PD.ret {d : D} {Q : VK} {v : V} (h : PD B E w (G.ret d S) Q) (rs : RS B w S) (r : Rv B w d v) : Q v w.H := Po.ret h rs v r
end

theorem PEmono {X : Cx} {e : Expr} {t t' : TE} (h : PE X e t) (k : ∀ σ H Q, t' σ H Q → t σ H Q) : PE X e t' := ⟨fun pins s σ H Q I q => h.run pins s σ H Q I (k σ H Q q)⟩
theorem PTmono {X : Cx} {e : Expr} {t t' : TT} (h : PT X e t) (k : ∀ σ H Q, t' σ H Q → t σ H Q) : PT X e t' := ⟨fun pins s σ H Q I q => h.run pins s σ H Q I (k σ H Q q)⟩
theorem PWmono {X : Cx} {e : Expr} {t t' : TT} (h : PW X e t) (k : ∀ σ H Q, t' σ H Q → t σ H Q) : PW X e t' := ⟨fun wh pins s σ H Q I q => h.run wh pins s σ H Q I (k σ H Q q)⟩
theorem PAmono {X : Cx} {es : List Expr} {t t' : TA} (h : PA X es t) (k : ∀ σ H Q, t' σ H Q → t σ H Q) : PA X es t' := ⟨fun pos pins s σ H Q I q => h.run pos pins s σ H Q I (k σ H Q q)⟩
theorem PSmono {X : Cx} {st : Stmt} {t t' : TS} (h : PS X st t) (k : ∀ D σ H, t' D σ H → t D σ H) : PS X st t' := ⟨fun pins s σ H D I q => h.run pins s σ H D I (k D σ H q)⟩
theorem PSsmono {X : Cx} {st : List Stmt} {t t' : TS} (h : PSs X st t) (k : ∀ D σ H, t' D σ H → t D σ H) : PSs X st t' := ⟨fun pins s σ H D I q => h.run pins s σ H D I (k D σ H q)⟩
/-- a reading that picks one of several -/
theorem PEex {ι : Sort _} {X : Cx} {e : Expr} {t : ι → TE} (h : ∀ i, PE X e (t i)) : PE X e (fun σ H Q => ∃ i, t i σ H Q) := ⟨fun pins s σ H Q I ⟨i, q⟩ => (h i).run pins s σ H Q I q⟩

section
variable (B : Tb) (E : XK)
/-- the readings of runs -/
def gE (m : Env → M D) : TE := fun σ H Q => ∃ w env S, w.H = H ∧ RS B w S ∧ RE B w env σ ∧ PD B E w (m env S) Q
def gT (m : Env → M Bool) : TT := fun σ H Q => ∃ w env S, w.H = H ∧ RS B w S ∧ RE B w env σ ∧ Po B E w (m env S) fun w' _ b => Q b w'.H
def gA (m : Env → M (List D)) : TA := fun σ H Q => ∃ w env S, w.H = H ∧ RS B w S ∧ RE B w env σ ∧ Po B E w (m env S) fun w' _ ds => ∀ vs, Rvs B w' ds vs → Q vs w'.H
def g2 (f : D → D → M D) : R2 := fun x y H Q => ∃ w S d e, w.H = H ∧ RS B w S ∧ Rv B w d x ∧ Rv B w e y ∧ PD B E w (f d e S) Q
def g1 (f : D → M D) : V → Hp → VK → Prop := fun x H Q => ∃ w S d, w.H = H ∧ RS B w S ∧ Rv B w d x ∧ PD B E w (f d S) Q
def gN (f : List D → M D) : List V → Hp → VK → Prop := fun xs H Q => ∃ w S ds, w.H = H ∧ RS B w S ∧ Rvs B w ds xs ∧ PD B E w (f ds S) Q
end

section
variable {B : Tb} {E : XK} {X : Cx}
/-- first a, then b on both -/
theorem gE_bin {ma mb : Env → M D} {f : D → D → M D} {r : R2} (hr : ∀ x y H Q, g2 B E f x y H Q → r x y H Q) (σ : L2.St) (H : Hp) (Q : VK)
    (h : gE B E (fun env => bnd (ma env) fun d => bnd (mb env) fun e => f d e) σ H Q) : tOp r (gE B E ma) (gE B E mb) σ H Q := by
  obtain ⟨w, env, S, rfl, rs, re, h⟩ := h
  refine ⟨w, env, S, rfl, rs, re, h.bnd.imp fun w1 S1 d l1 rs1 h1 x rx => ?_⟩
  refine ⟨w1, env, S1, rfl, rs1, re.mono l1, h1.bnd.imp fun w2 S2 e l2 rs2 h2 y ry => ?_⟩
  exact hr _ _ _ _ ⟨w2, S2, d, e, rfl, rs2, rx.mono l2, ry, h2⟩
theorem gE_un {ma : Env → M D} {f : D → M D} {r : V → Hp → VK → Prop} (hr : ∀ x H Q, g1 B E f x H Q → r x H Q) (σ : L2.St) (H : Hp) (Q : VK)
    (h : gE B E (fun env => bnd (ma env) f) σ H Q) : tUn r (gE B E ma) σ H Q := by
  obtain ⟨w, env, S, rfl, rs, re, h⟩ := h
  refine ⟨w, env, S, rfl, rs, re, h.bnd.imp fun w1 S1 d l1 rs1 h1 x rx => ?_⟩
  exact hr _ _ _ ⟨w1, S1, d, rfl, rs1, rx, h1⟩
abbrev GE (B : Tb) (E : XK) (X : Cx) (e : Expr) (m : Env → M D) : Prop := PE X e (gE B E m)
abbrev GT (B : Tb) (E : XK) (X : Cx) (e : Expr) (m : Env → M Bool) : Prop := PT X e (gT B E m)
abbrev GA (B : Tb) (E : XK) (X : Cx) (es : List Expr) (m : Env → M (List D)) : Prop := PA X es (gA B E m)
theorem ge_op {op : Operator} {f : D → D → M D} {a b : Expr} {ma mb : Env → M D} {pos : Pos} (ho : OpR X (binaryOp op) (g2 B E f)) (ha : GE B E X a ma) (hb : GE B E X b mb) :
    GE B E X (.BinOp a op b pos) fun env => bnd (ma env) fun d => bnd (mb env) fun e => f d e :=
  PEmono (pe_op ho ha hb) (gE_bin fun _ _ _ _ h => h)
theorem ge_un {op : UnaryOp} {f : D → M D} {a : Expr} {ma : Env → M D} {pos : Pos} (ho : UnR X (unaryOp op) (g1 B E f)) (ha : GE B E X a ma) :
    GE B E X (.UnaryOp op a pos) fun env => bnd (ma env) f :=
  PEmono (pe_un ho ha) (gE_un fun _ _ _ h => h)

/-! ### names, constants -/
def mVar (i : Nat) : Env → M D := fun env S => match env[i]? with
  | some (some d) => some (.ok d S)
  | _ => none
theorem ge_var {i : Nat} {x : Str} {pos : Pos} (hN : X.N[i]? = some x) (hv : Vis X.env.scope x) (hd : (x == ("__debug__" : Str)) = false) (hcd : (x == ("__classdict__" : Str)) = false) : GE B E X (.Name x pos) (mVar i) := by
  refine PEmono (pe_var hN hv hd hcd) fun σ H Q ⟨w, env, S, hw, rs, re, h⟩ => ?_
  subst hw
  unfold mVar at h
  split at h
  · rename_i d e
    obtain ⟨v, ev, rv⟩ := re.at_ i d e
    exact ⟨v, ev, PD.ret h rs rv⟩
  · exact h.elim
def mC (d : D) : Env → M D := fun _ => ret d
theorem ge_c {e : Expr} {d : D} {v : V} (h : PE X e (tC v)) (r : ∀ w, Rv B w d v) : GE B E X e (mC d) :=
  PEmono h fun σ H Q ⟨w, env, S, hw, rs, re, h⟩ => by subst hw; exact PD.ret h rs (r w)
end

/-! ### allocation -/
def alloc (c : Cell) : M D := fun S => some (.ok (.ref S.n) (S.push c))
section
variable {B : Tb} {E : XK} {w : Wd} {S : Sto} {Q : VK}
theorem PD.lst {ds : List D} {vs : List V} (h : PD B E w (alloc (.lst ds) S) Q) (rs : RS B w S) (r : Rvs B w ds vs) (p : Addr) (hp : w.H p = none) : Q (.ref p) (upd w.H p (.lst vs)) := by
  have l := Wd.new_le (o := .lst vs) hp
  refine h (w.new p (.lst vs)) l (rs.new hp ⟨vs, rfl, r.mono l⟩) (.ref p) ?_
  simp only [Rv]
  refine ⟨by rw [← rs.len]; exact Nat.lt_succ_self _, ?_⟩
  show V.ref p = .ref (if S.n = w.n then p else w.ρ S.n)
  rw [if_pos rs.len.symm]
theorem PD.tup {ds : List D} {vs : List V} (h : PD B E w (G.ret (D.tup ds) S) Q) (rs : RS B w S) (r : Rvs B w ds vs) (p : Addr) (hp : w.H p = none) : Q (.ref p) (upd w.H p (.tup vs)) := by
  have l := Wd.putI_le (o := .tup vs) hp
  refine h (w.putI p (.tup vs)) l (rs.putI hp) (.ref p) ?_
  simp only [Rv]
  exact ⟨p, vs, rfl, .inl upd_same, r.mono l⟩
theorem PD.chg {i : Nat} {c c' : Cell} {o : HO} {d : D} {v : V} (h : PD B E w (some (.ok d (S.put i c'))) Q) (rs : RS B w S) (e : S.get i = some c) (hc : Rc B (w.chg i o) c' o) (r : Rv B (w.chg i o) d v) (hm : c.mut = true := by rfl) (hm' : c'.mut = true := by rfl) : Q v (upd w.H (w.ρ i) o) := by
  obtain ⟨u, hu, qu⟩ := rs.at_ i c e hm
  exact h (w.chg i o) (Wd.chg_le hu qu.nimm) (rs.chg e hc hm hm') v r
end

/-! ### arithmetic -/
def lenOk (n : Nat) : Bool := Nat.ble n 16777216
theorem lenOk_iff {n : Nat} (h : lenOk n = true) : n ≤ sizeLine := Nat.le_of_ble_eq_true h
def mAdd : D → D → M D
  | .int i, .int j => ret (.int (i + j))
  | .str a, .str b => fun S => if lenOk (a.length + b.length) then some (.ok (.str (a ++ b)) S) else none
  | .tup a, .tup b => fun S => if lenOk (a.length + b.length) then some (.ok (.tup (a ++ b)) S) else none
  | .ref i, .ref j => fun S => match S.get i, S.get j with
    | some (.lst a), some (.lst b) => if lenOk (a.length + b.length) then alloc (.lst (a ++ b)) S else none
    | _, _ => none
  | _, _ => stuck
theorem str_len (a : List Nat) : (⟨a.toArray⟩ : Str).length = a.length := by show a.toArray.size = _; simp
theorem str_app (a b : List Nat) : (⟨a.toArray⟩ : Str) ++ (⟨b.toArray⟩ : Str) = ⟨(a ++ b).toArray⟩ := by
  show (⟨a.toArray ++ b.toArray⟩ : Str) = _
  simp
section
variable {B : Tb} {E : XK} {X : Cx}
theorem add_ok (hK : X.K = B.K) : OpR X (binaryOp .Add) (g2 B E mAdd) := by
  intro pins s σ H x y v u Q I rx ry ⟨w, S, d, e, hw, rs, rd, re, h⟩
  subst hw
  unfold mAdd at h
  split at h
  · simp only [Rv] at rd re
    subst rd; subst re
    exact op_add pins s σ _ _ _ v u Q I rx ry ⟨_, _, rfl, rfl, PD.ret h rs (by simp only [Rv])⟩
  · simp only [Rv] at rd re
    subst rd; subst re
    split at h
    · rename_i hl
      exact op_add_str pins s σ _ _ _ v u Q I rx ry ⟨_, _, rfl, rfl, by rw [str_len, str_len]; exact lenOk_iff hl, PD.ret h rs (by simp only [Rv]; rw [str_app])⟩
    · exact h.elim
  · rename_i a b
    simp only [Rv] at rd re
    obtain ⟨p, vs, rfl, t1, q1⟩ := rd
    obtain ⟨q, us, rfl, t2, q2⟩ := re
    split at h
    · rename_i hl
      refine op_catA pins s σ _ _ _ v u Q I rx ry ⟨p, q, vs, us, rfl, rfl, by rw [hK]; exact t1.sq, by rw [hK]; exact t2.sq, by rw [q1.length, q2.length]; exact lenOk_iff hl, fun e => ?_, fun _ e => ?_, fun _ _ a ha => ?_⟩
      · subst e
        refine PD.ret h rs ?_
        have hn : a = [] := by
          cases a with
          | nil => rfl
          | cons d ds => simp only [Rvs] at q1; obtain ⟨_, _, z, _⟩ := q1; cases z
        subst hn
        simp only [Rv]
        exact ⟨q, us, rfl, t2, q2⟩
      · subst e
        refine PD.ret h rs ?_
        have hn : b = [] := by
          cases b with
          | nil => rfl
          | cons d ds => simp only [Rvs] at q2; obtain ⟨_, _, z, _⟩ := q2; cases z
        subst hn
        simp only [Rv, List.append_nil]
        exact ⟨p, vs, rfl, t1, q1⟩
      · exact PD.tup h rs (q1.app q2) a ha
    · exact h.elim
  · rename_i i j
    simp only [Rv] at rd re
    obtain ⟨hi, rfl⟩ := rd
    obtain ⟨hj, rfl⟩ := re
    split at h
    · rename_i a b ei ej
      obtain ⟨o1, h1, c1⟩ := rs.at_ _ _ ei
      obtain ⟨o2, h2, c2⟩ := rs.at_ _ _ ej
      obtain ⟨vs, rfl, q1⟩ := c1
      obtain ⟨us, rfl, q2⟩ := c2
      split at h
      · rename_i hl
        exact op_cat pins s σ _ _ _ v u Q I rx ry ⟨_, _, vs, us, rfl, rfl, h1, h2, by rw [q1.length, q2.length]; exact lenOk_iff hl, fun p hp => PD.lst h rs (q1.app q2) p hp⟩
      · exact h.elim
    · exact h.elim
  · exact h.elim
end
end G
end
section
/-! G2: operators on runs' values. -/
namespace G
open PySem L2

/-! ### lists that are read -/
def lstAt (S : Sto) (i : Nat) : Option (List D) := match S.get i with
  | some (.lst xs) => some xs
  | some (.frz xs) => some xs
  | _ => none
section
variable {B : Tb} {E : XK} {w : Wd} {S : Sto}
theorem lstAt_sq {i : Nat} {xs : List D} (rs : RS B w S) (h : lstAt S i = some xs) : ∃ vs, SqL B.K w.H (w.ρ i) vs ∧ Rvs B w xs vs := by
  unfold lstAt at h
  split at h
  · rename_i ys e
    cases h
    obtain ⟨o, h1, vs, rfl, q⟩ := rs.at_ _ _ e
    exact ⟨vs, .inl (.inl h1), q⟩
  · rename_i ys e
    cases h
    rcases (rs.cell _ _ e).2 with ⟨o, h1, ob, vs, rfl, q⟩ | ⟨xs, vs, ex, kl, q⟩
    · exact ⟨vs, .inl (.inr ⟨ob, h1⟩), q⟩
    · cases ex
      exact ⟨vs, .inr kl, q⟩
  · cases h
end

/-! ### data -/
mutual
def pd (S : Sto) : Nat → D → Option PyData
  | 0, _ => none
  | n + 1, d => match d with
    | .non => some .none
    | .bl b => some (.bool b)
    | .int i => some (.int i)
    | .str cs => some (.str ⟨cs.toArray⟩)
    | .tup ds => match pds S n ds with
      | some ps => some (.tuple ps)
      | none => none
    | .ref i => match lstAt S i with
      | some ds => match pds S n ds with
        | some ps => some (.list ps)
        | none => none
      | none => none
    | _ => none
def pds (S : Sto) : Nat → List D → Option (List PyData)
  | 0, _ => none
  | n + 1, ds => match ds with
    | [] => some []
    | d :: ds => match pd S n d, pds S n ds with
      | some p, some ps => some (p :: ps)
      | _, _ => none
end
section
variable {B : Tb} {w : Wd} {S : Sto}
mutual
theorem pd_ok (rs : RS B w S) : ∀ (n : Nat) {d : D} {v : V} {p : PyData}, pd S n d = some p → Rv B w d v → Dp B.K w.H v p
  | 0, _, _, _, h, _ => by cases h
  | n + 1, d, v, p, h, r => by
    cases d with
    | non => simp only [pd] at h; cases h; simp only [Rv] at r; subst r; exact .non
    | bl b => simp only [pd] at h; cases h; simp only [Rv] at r; subst r; exact .bl b
    | int i => simp only [pd] at h; cases h; simp only [Rv] at r; subst r; exact .int i
    | str cs => simp only [pd] at h; cases h; simp only [Rv] at r; subst r; exact .str _
    | tup ds =>
      simp only [pd] at h
      simp only [Rv] at r
      obtain ⟨a, vs, rfl, t, q⟩ := r
      split at h
      · rename_i ps e
        cases h
        exact .tup t.sq (pds_ok rs n e q)
      · cases h
    | ref i =>
      simp only [pd] at h
      simp only [Rv] at r
      obtain ⟨_, rfl⟩ := r
      split at h
      · rename_i ds el
        split at h
        · rename_i ps e
          cases h
          obtain ⟨vs, s, q⟩ := lstAt_sq rs el
          exact .lst s (pds_ok rs n e q)
        · cases h
      · cases h
    | ty _ => simp only [pd] at h; cases h
    | fn _ => simp only [pd] at h; cases h
    | cl _ => simp only [pd] at h; cases h
    | wd _ => simp only [pd] at h; cases h
    | bm _ _ => simp only [pd] at h; cases h
    | rp _ => simp only [pd] at h; cases h
    | ex _ _ => simp only [pd] at h; cases h
theorem pds_ok (rs : RS B w S) : ∀ (n : Nat) {ds : List D} {vs : List V} {ps : List PyData}, pds S n ds = some ps → Rvs B w ds vs → DpAll B.K w.H vs ps
  | 0, _, _, _, h, _ => by cases h
  | n + 1, ds, vs, ps, h, r => by
    cases ds with
    | nil => simp only [pds] at h; cases h; simp only [Rvs] at r; subst r; exact .nil
    | cons d ds =>
      simp only [pds] at h
      simp only [Rvs] at r
      obtain ⟨v, q, rfl, r1, r2⟩ := r
      split at h
      · rename_i p ps e1 e2
        cases h
        exact .cons (pd_ok rs n e1 r1) (pds_ok rs n e2 r2)
      · cases h
end
end

/-! ### == and != -/
mutual
def pdB : PyData → PyData → Bool
  | .none, .none => true
  | .bool a, .bool b => decide (a = b)
  | .int a, .int b => decide (a = b)
  | .str a, .str b => decide (a.cps.toList = b.cps.toList)
  | .list a, .list b => pdsB a b
  | .tuple a, .tuple b => pdsB a b
  | .dict [], .dict [] => true
  | _, _ => false
def pdsB : List PyData → List PyData → Bool
  | [], [] => true
  | a :: as, b :: bs => pdB a b && pdsB as bs
  | _, _ => false
end
mutual
theorem pdB_eq : ∀ {p q : PyData}, pdB p q = true → p = q := fun {p q} h => by
  unfold pdB at h
  split at h
  · rfl
  · rw [of_decide_eq_true h]
  · rw [of_decide_eq_true h]
  · rename_i a b
    have e := of_decide_eq_true h
    cases a; cases b
    rename_i a b
    rw [Array.ext' (show a.toList = b.toList from e)]
  · rw [pdsB_eq h]
  · rw [pdsB_eq h]
  · rfl
  · cases h
theorem pdsB_eq : ∀ {p q : List PyData}, pdsB p q = true → p = q := fun {p q} h => by
  unfold pdsB at h
  split at h
  · rfl
  · rw [Bool.and_eq_true] at h
    rw [pdB_eq h.1, pdsB_eq h.2]
  · cases h
end
def dEq (S : Sto) (d e : D) : Option Bool := match d, e with
  | .int i, .int j => some (decide (i = j))
  | .str a, .str b => some (decide (a = b))
  | .non, .non => some true
  | .bl a, .bl b => some (decide (a = b))
  | .rp p, .rp q => if pdB p q then some true else none
  | d, e => match pd S 400 d, pd S 400 e with
    | some p, some q => if SeqAt.shaped p && SeqAt.shaped q then some (PyData.eqv p q) else none
    | _, _ => none
def mEq (d e : D) : M D := fun S => match dEq S d e with
  | some b => some (.ok (.bl b) S)
  | none => none
def mNe (d e : D) : M D := fun S => match dEq S d e with
  | some b => some (.ok (.bl (!b)) S)
  | none => none
theorem str_inj {a b : List Nat} : (V.str ⟨a.toArray⟩ = V.str ⟨b.toArray⟩) ↔ a = b := by
  constructor
  · intro h
    injection h with h
    injection h with h
    simpa using congrArg Array.toList h
  · intro h; rw [h]
theorem rv_bl {B : Tb} {w : Wd} {b : Bool} : Rv B w (.bl b) (.bl b) := by simp only [Rv]
theorem rv_int {B : Tb} {w : Wd} {b : Int} : Rv B w (.int b) (.int b) := by simp only [Rv]
theorem rv_non {B : Tb} {w : Wd} : Rv B w .non .non := by simp only [Rv]
theorem rv_str {B : Tb} {w : Wd} {cs : List Nat} : Rv B w (.str cs) (.str ⟨cs.toArray⟩) := by simp only [Rv]
theorem rv_tup {B : Tb} {w : Wd} {ds : List D} {v : V} (r : Rv B w (.tup ds) v) : ∃ a vs, v = .ref a ∧ TupAt B w a vs ∧ Rvs B w ds vs := by simpa only [Rv] using r
theorem rv_ref {B : Tb} {w : Wd} {i : Nat} {v : V} (r : Rv B w (.ref i) v) : i < w.n ∧ v = .ref (w.ρ i) := by simpa only [Rv] using r
theorem dEq_flat {S : Sto} {d e : D} {b : Bool} {B : Tb} {w : Wd} {x y : V} (rs : RS B w S) (rd : Rv B w d x) (re : Rv B w e y) (h : dEq S d e = some b) :
    (scal x y = true ∧ decide (x = y) = b) ∨ (∃ p q, Dp B.K w.H x p ∧ Dp B.K w.H y q ∧ SeqAt.shaped p = true ∧ SeqAt.shaped q = true ∧ PyData.eqv p q = b) := by
  unfold dEq at h
  split at h
  · simp only [Rv] at rd re; subst rd; subst re; cases h
    exact .inl ⟨rfl, by simp⟩
  · simp only [Rv] at rd re; subst rd; subst re; cases h
    exact .inl ⟨rfl, decide_eq_decide.mpr str_inj⟩
  · simp only [Rv] at rd re; subst rd; subst re; cases h
    exact .inl ⟨rfl, by simp⟩
  · simp only [Rv] at rd re; subst rd; subst re; cases h
    exact .inl ⟨rfl, by simp⟩
  · simp only [Rv] at rd re; subst rd; subst re
    split at h
    · rename_i hp
      cases h
      rw [pdB_eq hp]
      exact .inl ⟨rfl, by simp⟩
    · cases h
  · split at h
    · rename_i p q e1 e2
      split at h
      · rename_i hs
        rw [Bool.and_eq_true] at hs
        cases h
        exact .inr ⟨p, q, pd_ok rs _ e1 rd, pd_ok rs _ e2 re, hs.1, hs.2, rfl⟩
      · cases h
    · cases h
section
variable {B : Tb} {E : XK} {X : Cx}
theorem eq_ok (hK : X.K = B.K) (hu : X.A.units + 64 < cLine) : OpR X (compareOp .Eq) (g2 B E mEq) := by
  intro pins s σ H x y v u Q I rx ry ⟨w, S, d, e, hw, rs, rd, re, h⟩
  subst hw
  unfold mEq at h
  split at h
  · rename_i b eb
    rcases dEq_flat rs rd re eb with ⟨h1, h2⟩ | ⟨p, q, h1, h2, h3, h4, h5⟩
    · exact op_eq pins s σ _ _ _ v u Q I rx ry ⟨h1, by rw [h2]; exact PD.ret (S := S) h rs rv_bl⟩
    · exact op_eqD hu pins s σ _ _ _ v u Q I rx ry ⟨p, q, by rw [hK]; exact h1, by rw [hK]; exact h2, h3, h4, by rw [h5]; exact PD.ret (S := S) h rs rv_bl⟩
  · exact h.elim
theorem ne_ok (hK : X.K = B.K) (hu : X.A.units + 64 < cLine) : OpR X (compareOp .NotEq) (g2 B E mNe) := by
  intro pins s σ H x y v u Q I rx ry ⟨w, S, d, e, hw, rs, rd, re, h⟩
  subst hw
  unfold mNe at h
  split at h
  · rename_i b eb
    rcases dEq_flat rs rd re eb with ⟨h1, h2⟩ | ⟨p, q, h1, h2, h3, h4, h5⟩
    · exact op_ne pins s σ _ _ _ v u Q I rx ry ⟨h1, by rw [h2]; exact PD.ret (S := S) h rs rv_bl⟩
    · exact op_neD hu pins s σ _ _ _ v u Q I rx ry ⟨p, q, by rw [hK]; exact h1, by rw [hK]; exact h2, h3, h4, by rw [h5]; exact PD.ret (S := S) h rs rv_bl⟩
  · exact h.elim

/-! ### order of ints -/
def mCmpI (p : Int → Int → Bool) : D → D → M D
  | .int i, .int j => ret (.bl (p i j))
  | _, _ => stuck
theorem cmpI_ok {f : Value → Value → Sem Value} {p : Int → Int → Bool} (ho : OpR X f (rI0 fun i j => .bl (p i j))) : OpR X f (g2 B E (mCmpI p)) := by
  intro pins s σ H x y v u Q I rx ry ⟨w, S, d, e, hw, rs, rd, re, h⟩
  subst hw
  unfold mCmpI at h
  split at h
  · simp only [Rv] at rd re; subst rd; subst re
    exact ho pins s σ _ _ _ v u Q I rx ry ⟨_, _, rfl, rfl, PD.ret h rs rv_bl⟩
  · exact h.elim
abbrev mLt := mCmpI fun i j => decide (i < j)
abbrev mLe := mCmpI fun i j => decide (i ≤ j)
abbrev mGt := mCmpI fun i j => decide (j < i)
abbrev mGe := mCmpI fun i j => decide (j ≤ i)

/-! ### arithmetic -/
def mSub : D → D → M D
  | .int i, .int j => ret (.int (i - j))
  | _, _ => stuck
def mulOk (i j : Int) : Bool := decide (Builtin.Int.intBits i + Builtin.Int.intBits j ≤ 134217728)
def mMul : D → D → M D
  | .int i, .int j => fun S => if mulOk i j then some (.ok (.int (i * j)) S) else none
  | .ref i, .int k => fun S => match S.get i with
    | some (.lst xs) => if decide (-(2 ^ 63) ≤ k) && decide (k < 2 ^ 63) && lenOk (xs.length * k.toNat) then alloc (.lst (List.replicate k.toNat xs).flatten) S else none
    | _ => none
  | _, _ => stuck
def mDiv : D → D → M D
  | .int i, .int j => fun S => if decide (0 < j) && decide (j < 1073741824) then some (.ok (.int (i / j)) S)
    else if decide (0 < j) && decide (j.natAbs.log2 < 9000) then some (.ok (.int (i / j)) S)
    else if decide (j ≠ 0) && decide (j.natAbs < 1073741824) then some (.ok (.int (i.fdiv j)) S) else none
  | _, _ => stuck
def mMod : D → D → M D
  | .int i, .int j => fun S => if decide (0 < j) then some (.ok (.int (i % j)) S) else if decide (j ≠ 0) then some (.ok (.int (i.fmod j)) S) else none
  | _, _ => stuck
def mPow : D → D → M D
  | .int i, .int j => fun S => if decide (0 ≤ j) && decide (j ≤ 1000000) && decide (i.natAbs < 2 ^ 64) then some (.ok (.int (i ^ j.toNat)) S) else none
  | _, _ => stuck
theorem sub_ok : OpR X (binaryOp .Sub) (g2 B E mSub) := by
  intro pins s σ H x y v u Q I rx ry ⟨w, S, d, e, hw, rs, rd, re, h⟩
  subst hw
  unfold mSub at h
  split at h
  · simp only [Rv] at rd re; subst rd; subst re
    exact op_sub pins s σ _ _ _ v u Q I rx ry ⟨_, _, rfl, rfl, PD.ret h rs rv_int⟩
  · exact h.elim
theorem mod_ok : OpR X (binaryOp .Mod) (g2 B E mMod) := by
  intro pins s σ H x y v u Q I rx ry ⟨w, S, d, e, hw, rs, rd, re, h⟩
  subst hw
  unfold mMod at h
  split at h
  · simp only [Rv] at rd re; subst rd; subst re
    split at h
    · rename_i hj
      exact op_mod pins s σ _ _ _ v u Q I rx ry ⟨_, _, rfl, rfl, of_decide_eq_true hj, PD.ret (S := S) h rs rv_int⟩
    · split at h
      · rename_i hj
        exact op_modN pins s σ _ _ _ v u Q I rx ry ⟨_, _, rfl, rfl, of_decide_eq_true hj, PD.ret (S := S) h rs rv_int⟩
      · exact h.elim
  · exact h.elim
theorem div_ok : OpR X (binaryOp .FloorDiv) (g2 B E mDiv) := by
  intro pins s σ H x y v u Q I rx ry ⟨w, S, d, e, hw, rs, rd, re, h⟩
  subst hw
  unfold mDiv at h
  split at h
  · simp only [Rv] at rd re; subst rd; subst re
    split at h
    · rename_i hj
      rw [Bool.and_eq_true] at hj
      exact op_fdiv pins s σ _ _ _ v u Q I rx ry ⟨_, _, rfl, rfl, ⟨of_decide_eq_true hj.1, of_decide_eq_true hj.2⟩, PD.ret (S := S) h rs rv_int⟩
    · split at h
      · rename_i hj
        rw [Bool.and_eq_true] at hj
        exact op_fdivW pins s σ _ _ _ v u Q I rx ry ⟨_, _, rfl, rfl, ⟨of_decide_eq_true hj.1, of_decide_eq_true hj.2⟩, PD.ret (S := S) h rs rv_int⟩
      · split at h
        · rename_i hj
          rw [Bool.and_eq_true] at hj
          exact op_fdivN pins s σ _ _ _ v u Q I rx ry ⟨_, _, rfl, rfl, ⟨of_decide_eq_true hj.1, of_decide_eq_true hj.2⟩, PD.ret (S := S) h rs rv_int⟩
        · exact h.elim
  · exact h.elim
theorem pow_ok : OpR X (binaryOp .Pow) (g2 B E mPow) := by
  intro pins s σ H x y v u Q I rx ry ⟨w, S, d, e, hw, rs, rd, re, h⟩
  subst hw
  unfold mPow at h
  split at h
  · simp only [Rv] at rd re; subst rd; subst re
    split at h
    · rename_i hj
      rw [Bool.and_eq_true, Bool.and_eq_true] at hj
      exact op_pow pins s σ _ _ _ v u Q I rx ry ⟨_, _, rfl, rfl, ⟨of_decide_eq_true hj.1.1, of_decide_eq_true hj.1.2, of_decide_eq_true hj.2⟩, PD.ret (S := S) h rs rv_int⟩
    · exact h.elim
  · exact h.elim
def mNeg : D → M D
  | .int i => ret (.int (-i))
  | _ => stuck
theorem neg_ok : UnR X (unaryOp .USub) (g1 B E mNeg) := by
  intro pins s σ H x v Q I rx ⟨w, S, d, hw, rs, rd, h⟩
  subst hw
  unfold mNeg at h
  split at h
  · simp only [Rv] at rd; subst rd
    exact un_neg pins s σ _ _ v Q I rx ⟨_, rfl, PD.ret h rs rv_int⟩
  · exact h.elim

/-! ### is -/
def isNon : D → Bool
  | .non => true
  | _ => false
def mIs (neg : Bool) : D → D → M D
  | .bl a, .bl b => ret (.bl (if neg then !decide (a = b) else decide (a = b)))
  | d, .non => ret (.bl (if neg then !isNon d else isNon d))
  | _, _ => stuck
theorem non_iff {w : Wd} {d : D} {x : V} (r : Rv B w d x) : decide (x = .non) = isNon d := by
  cases d with
  | non => simp only [Rv] at r; subst r; rfl
  | bl b => simp only [Rv] at r; subst r; rfl
  | int i => simp only [Rv] at r; subst r; rfl
  | str cs => simp only [Rv] at r; subst r; rfl
  | ty n => simp only [Rv] at r; subst r; rfl
  | tup ds => obtain ⟨a, vs, rfl, _⟩ := rv_tup r; rfl
  | ref i => obtain ⟨_, rfl⟩ := rv_ref r; rfl
  | fn i => simp only [Rv] at r; subst r; rfl
  | cl i => simp only [Rv] at r; subst r; rfl
  | wd i => simp only [Rv] at r; subst r; rfl
  | ex c ds => simp only [Rv] at r; obtain ⟨a, vs, rfl, _⟩ := r; rfl
  | bm i f => simp only [Rv] at r; obtain ⟨a, rfl, _⟩ := r; rfl
  | rp p => simp only [Rv] at r; subst r; rfl
theorem is_ok : OpR X (compareOp .Is) (g2 B E (mIs false)) := by
  intro pins s σ H x y v u Q I rx ry ⟨w, S, d, e, hw, rs, rd, re, h⟩
  subst hw
  unfold mIs at h
  split at h
  · simp only [Rv] at rd re; subst rd; subst re
    exact op_isBl pins s σ _ _ _ v u Q I rx ry ⟨_, _, rfl, rfl, PD.ret (S := S) h rs rv_bl⟩
  · simp only [Rv] at re; subst re
    refine op_isN pins s σ _ _ _ v u Q I rx ry ⟨rfl, ?_⟩
    rw [non_iff rd]
    exact PD.ret (S := S) h rs rv_bl
  · exact h.elim
theorem isnot_ok : OpR X (compareOp .IsNot) (g2 B E (mIs true)) := by
  intro pins s σ H x y v u Q I rx ry ⟨w, S, d, e, hw, rs, rd, re, h⟩
  subst hw
  unfold mIs at h
  split at h
  · simp only [Rv] at rd re; subst rd; subst re
    exact op_notBl pins s σ _ _ _ v u Q I rx ry ⟨_, _, rfl, rfl, PD.ret (S := S) h rs rv_bl⟩
  · simp only [Rv] at re; subst re
    refine op_notN pins s σ _ _ _ v u Q I rx ry ⟨rfl, ?_⟩
    rw [non_iff rd]
    exact PD.ret (S := S) h rs rv_bl
  · exact h.elim
end
end G
end
section
/-! G3: in, items, slices, displays. -/
namespace G
open PySem L2

/-! ### in -/
def flatD : D → Bool
  | .non => true
  | .bl _ => true
  | .int _ => true
  | .str _ => true
  | _ => false
def eqFl : D → D → Bool
  | .non, .non => true
  | .bl a, .bl b => a == b
  | .bl a, .int b => (if a then 1 else 0) == b
  | .int a, .bl b => a == (if b then 1 else 0)
  | .int a, .int b => a == b
  | .str a, .str b => decide (a = b)
  | _, _ => false
def inFl (d : D) (ds : List D) : Bool := ds.any fun e => eqFl e d
theorem str_beq (a b : List Nat) : ((⟨a.toArray⟩ : Str) == ⟨b.toArray⟩) = decide (a = b) := by
  by_cases h : a = b
  · subst h; simp
  · have : ¬ (⟨a.toArray⟩ : Str) = ⟨b.toArray⟩ := fun e => h (by injection e with e; simpa using congrArg Array.toList e)
    simp [h, this]
section
variable {B : Tb} {E : XK} {X : Cx} {w : Wd} {S : Sto}
theorem flat_rv {d : D} {v : V} (f : flatD d = true) (r : Rv B w d v) : flatV v = true := by
  cases d with
  | non => simp only [Rv] at r; subst r; rfl
  | bl b => simp only [Rv] at r; subst r; rfl
  | int b => simp only [Rv] at r; subst r; rfl
  | str b => simp only [Rv] at r; subst r; rfl
  | _ => exact absurd (show false = true from f) Bool.false_ne_true
theorem eq_rv {d e : D} {v u : V} (f : flatD d = true) (g : flatD e = true) (r : Rv B w d v) (q : Rv B w e u) : eqV v u = eqFl d e := by
  cases d with
  | non => simp only [Rv] at r; subst r; cases e <;> simp only [Rv] at q <;> first | (subst q; rfl) | exact absurd (show false = true from g) Bool.false_ne_true
  | bl b => simp only [Rv] at r; subst r; cases e <;> simp only [Rv] at q <;> first | (subst q; rfl) | exact absurd (show false = true from g) Bool.false_ne_true
  | int b => simp only [Rv] at r; subst r; cases e <;> simp only [Rv] at q <;> first | (subst q; rfl) | exact absurd (show false = true from g) Bool.false_ne_true
  | str b =>
    simp only [Rv] at r; subst r
    cases e with
    | str c => simp only [Rv] at q; subst q; exact str_beq b c
    | non => simp only [Rv] at q; subst q; rfl
    | bl c => simp only [Rv] at q; subst q; rfl
    | int c => simp only [Rv] at q; subst q; rfl
    | _ => exact absurd (show false = true from g) Bool.false_ne_true
  | _ => exact absurd (show false = true from f) Bool.false_ne_true
theorem flats_rv : ∀ {ds : List D} {vs : List V}, ds.all flatD = true → Rvs B w ds vs → vs.all flatV = true
  | [], _, _, r => by simp only [Rvs] at r; subst r; rfl
  | d :: ds, _, f, r => by
    simp only [Rvs] at r
    obtain ⟨v, u, rfl, h, t⟩ := r
    rw [List.all_cons, Bool.and_eq_true] at f
    rw [List.all_cons, flat_rv f.1 h, flats_rv f.2 t]; rfl
theorem in_rv {d : D} {v : V} (f : flatD d = true) (r : Rv B w d v) : ∀ {ds : List D} {vs : List V}, ds.all flatD = true → Rvs B w ds vs → inV v vs = inFl d ds
  | [], _, _, q => by simp only [Rvs] at q; subst q; rfl
  | e :: ds, _, g, q => by
    simp only [Rvs] at q
    obtain ⟨u, us, rfl, h, t⟩ := q
    rw [List.all_cons, Bool.and_eq_true] at g
    show (eqV u v || inV v us) = (eqFl e d || inFl d ds)
    rw [eq_rv g.1 f h r, in_rv f r g.2 t]
end
def dIn (S : Sto) (d e : D) : Option Bool := match e with
  | .str cs => match d with
    | .str [c] => some (decide (c ∈ cs))
    | _ => none
  | .tup ds => if flatD d && ds.all flatD then some (inFl d ds) else none
  | .ref i => match lstAt S i with
    | some ds => if flatD d && ds.all flatD then some (inFl d ds) else match pd S 400 d, pd S 400 (.ref i) with
      | some p, some (.list ps) => if SeqAt.shaped p && SeqAt.shaped (.list ps) then some (ps.any fun z => PyData.eqv z p) else none
      | _, _ => none
    | none => none
  | _ => none
def mIn (neg : Bool) (d e : D) : M D := fun S => match dIn S d e with
  | some b => some (.ok (.bl (if neg then !b else b)) S)
  | none => none
section
variable {B : Tb} {E : XK} {X : Cx}
theorem in_ok (hK : X.K = B.K) (hu : X.A.units + 65 < cLine) : OpR X (compareOp .In) (g2 B E (mIn false)) := by
  intro pins s σ H x y v u Q I rx ry ⟨w, S, d, e, hw, rs, rd, re, h⟩
  subst hw
  unfold mIn at h
  split at h
  · rename_i b eb
    unfold dIn at eb
    split at eb
    · rename_i cs
      split at eb
      · rename_i c
        cases eb
        simp only [Rv] at rd re
        subst rd; subst re
        exact op_in_sign pins s σ _ _ _ v u Q I rx ry ⟨c, _, rfl, rfl, PD.ret (S := S) h rs rv_bl⟩
      · cases eb
    · rename_i ds
      split at eb
      · rename_i hf
        rw [Bool.and_eq_true] at hf
        cases eb
        obtain ⟨p, vs, rfl, t, q⟩ := rv_tup re
        exact op_in_seq pins s σ _ _ _ v u Q I rx ry ⟨p, vs, rfl, .inr (by rw [hK]; exact t.sq), flat_rv hf.1 rd, flats_rv hf.2 q, by rw [in_rv hf.1 rd hf.2 q]; exact PD.ret (S := S) h rs rv_bl⟩
      · cases eb
    · rename_i i
      obtain ⟨_, rfl⟩ := rv_ref re
      split at eb
      · rename_i ds el
        obtain ⟨vs, sq, q⟩ := lstAt_sq rs el
        split at eb
        · rename_i hf
          rw [Bool.and_eq_true] at hf
          cases eb
          exact op_in_seq pins s σ _ _ _ v u Q I rx ry ⟨_, vs, rfl, .inl (by rw [hK]; exact sq), flat_rv hf.1 rd, flats_rv hf.2 q, by rw [in_rv hf.1 rd hf.2 q]; exact PD.ret (S := S) h rs rv_bl⟩
        · split at eb
          · rename_i p ps e1 e2
            split at eb
            · rename_i hs
              rw [Bool.and_eq_true] at hs
              cases eb
              exact op_inD hu pins s σ _ _ _ v u Q I rx ry ⟨p, ps, by rw [hK]; exact pd_ok rs _ e1 rd, by rw [hK]; exact pd_ok rs _ e2 re, hs.1, hs.2, PD.ret (S := S) h rs rv_bl⟩
            · cases eb
          · cases eb
      · cases eb
    · cases eb
  · exact h.elim
theorem notin_ok (hK : X.K = B.K) (hu : X.A.units + 65 < cLine) : OpR X (compareOp .NotIn) (g2 B E (mIn true)) := by
  intro pins s σ H x y v u Q I rx ry ⟨w, S, d, e, hw, rs, rd, re, h⟩
  subst hw
  unfold mIn at h
  split at h
  · rename_i b eb
    unfold dIn at eb
    split at eb
    · rename_i cs
      split at eb
      · rename_i c
        cases eb
        simp only [Rv] at rd re
        subst rd; subst re
        exact op_notIn_sign pins s σ _ _ _ v u Q I rx ry ⟨c, _, rfl, rfl, PD.ret (S := S) h rs rv_bl⟩
      · cases eb
    · rename_i ds
      split at eb
      · rename_i hf
        rw [Bool.and_eq_true] at hf
        cases eb
        obtain ⟨p, vs, rfl, t, q⟩ := rv_tup re
        exact op_notIn_seq pins s σ _ _ _ v u Q I rx ry ⟨p, vs, rfl, .inr (by rw [hK]; exact t.sq), flat_rv hf.1 rd, flats_rv hf.2 q, by rw [in_rv hf.1 rd hf.2 q]; exact PD.ret (S := S) h rs rv_bl⟩
      · cases eb
    · rename_i i
      obtain ⟨_, rfl⟩ := rv_ref re
      split at eb
      · rename_i ds el
        obtain ⟨vs, sq, q⟩ := lstAt_sq rs el
        split at eb
        · rename_i hf
          rw [Bool.and_eq_true] at hf
          cases eb
          exact op_notIn_seq pins s σ _ _ _ v u Q I rx ry ⟨_, vs, rfl, .inl (by rw [hK]; exact sq), flat_rv hf.1 rd, flats_rv hf.2 q, by rw [in_rv hf.1 rd hf.2 q]; exact PD.ret (S := S) h rs rv_bl⟩
        · split at eb
          · rename_i p ps e1 e2
            split at eb
            · rename_i hs
              rw [Bool.and_eq_true] at hs
              cases eb
              exact op_notInD hu pins s σ _ _ _ v u Q I rx ry ⟨p, ps, by rw [hK]; exact pd_ok rs _ e1 rd, by rw [hK]; exact pd_ok rs _ e2 re, hs.1, hs.2, PD.ret (S := S) h rs rv_bl⟩
            · cases eb
          · cases eb
      · cases eb
    · cases eb
  · exact h.elim
end

/-! ### items -/
def dAt {α : Type} (xs : List α) (i : Int) : Option α := match ixN xs.length i with
  | some j => xs[j]?
  | none => none
theorem dAt_eq {α : Type} (xs : List α) (i : Int) : atI xs i = dAt xs i := by
  unfold atI dAt
  cases ixN xs.length i <;> rfl
theorem Rvs.at_ {B : Tb} {w : Wd} {ds : List D} {vs : List V} {i : Int} {d : D} (r : Rvs B w ds vs) (h : dAt ds i = some d) : ∃ v, atI vs i = some v ∧ Rv B w d v := by
  unfold dAt at h
  split at h
  · rename_i j e
    obtain ⟨v, ev, q⟩ := r.get h
    exact ⟨v, by rw [dAt_eq]; unfold dAt; rw [r.length, e]; exact ev, q⟩
  · cases h
def mIdx : D → D → M D
  | .ref i, .int k => fun S => match lstAt S i with
    | some ds => match dAt ds k with
      | some d => some (.ok d S)
      | none => none
    | none => none
  | .tup ds, .int k => fun S => match dAt ds k with
    | some d => some (.ok d S)
    | none => none
  | .str cs, .int k => fun S => if lenOk cs.length then match dAt cs k with
      | some c => some (.ok (.str [c]) S)
      | none => none else none
  | _, _ => stuck
theorem idx_ok {B : Tb} {E : XK} {X : Cx} (hK : X.K = B.K) : IxR X (g2 B E mIdx) := by
  intro ve sle pins s σ H x y v u Q I rx ry ⟨w, S, d, e, hw, rs, rd, re, h⟩ hsub
  subst hw
  unfold mIdx at h
  split at h
  · rename_i i k
    obtain ⟨_, rfl⟩ := rv_ref rd
    simp only [Rv] at re; subst re
    split at h
    · rename_i ds el
      split at h
      · rename_i d ed
        obtain ⟨vs, sq, q⟩ := lstAt_sq rs el
        obtain ⟨z, ez, rz⟩ := q.at_ ed
        refine ix_list ve sle pins s σ _ _ _ v u Q I rx ry ⟨_, vs, k, z, rfl, rfl, by rw [hK]; exact sq, ez, PD.ret (S := S) h rs rz⟩ hsub
      · exact h.elim
    · exact h.elim
  · rename_i ds k
    obtain ⟨p, vs, rfl, t, q⟩ := rv_tup rd
    simp only [Rv] at re; subst re
    split at h
    · rename_i d ed
      obtain ⟨z, ez, rz⟩ := q.at_ ed
      refine ix_tup ve sle pins s σ _ _ _ v u Q I rx ry ⟨_, vs, k, z, rfl, rfl, by rw [hK]; exact t.sq, ez, PD.ret (S := S) h rs rz⟩ hsub
    · exact h.elim
  · rename_i cs k
    simp only [Rv] at rd re; subst rd; subst re
    split at h
    · rename_i hl
      split at h
      · rename_i c ec
        refine ix_str ve sle pins s σ _ _ _ v u Q I rx ry ⟨_, k, c, rfl, rfl, by rw [str_len]; exact lenOk_iff hl, by rw [dAt_eq]; simpa using ec, PD.ret (S := S) h rs (by simp only [Rv])⟩ hsub
      · exact h.elim
    · exact h.elim
  · exact h.elim

/-! ### slices -/
def cutD {α : Type} (xs : List α) (lo hi : Option Int) : List α := (xs.drop (HT.sIx xs.length 0 lo)).take (HT.sIx xs.length xs.length hi - HT.sIx xs.length 0 lo)
def mSl (d : D) (lo hi : Option Int) : M D := match d with
  | .ref i => fun S => match lstAt S i with
    | some ds => alloc (.lst (cutD ds lo hi)) S
    | none => none
  | .tup ds => ret (.tup (cutD ds lo hi))
  | .str cs => fun S => if lenOk cs.length then some (.ok (.str (cutD cs lo hi)) S) else none
  | _ => stuck
def gSl (B : Tb) (E : XK) (f : D → Option Int → Option Int → M D) : V → Option Int → Option Int → Hp → VK → Prop := fun x lo hi H Q => ∃ w S d, w.H = H ∧ RS B w S ∧ Rv B w d x ∧ PD B E w (f d lo hi S) Q
theorem Rvs.cut {B : Tb} {w : Wd} {ds : List D} {vs : List V} (r : Rvs B w ds vs) (lo hi : Option Int) : Rvs B w (cutD ds lo hi) (cutV vs lo hi) := by
  unfold cutD cutV
  rw [r.length]
  exact (r.drop _).take _
theorem cut_whole {α : Type} {xs : List α} {lo hi : Option Int} (h : HT.sIx xs.length 0 lo = 0 ∧ HT.sIx xs.length xs.length hi = xs.length) : cutD xs lo hi = xs := by
  unfold cutD
  rw [h.1, h.2]
  simp
theorem cutS_eq (cs : List Nat) (lo hi : Option Int) : cutS ⟨cs.toArray⟩ lo hi = ⟨(cutD cs lo hi).toArray⟩ := by
  unfold cutS cutD
  rw [str_len]
theorem sl_ok {B : Tb} {E : XK} {X : Cx} (hK : X.K = B.K) : SlR X (gSl B E mSl) := by
  intro pins s σ H x v vl vu lo hi sl Q I rx hs pl pu ⟨w, S, d, hw, rs, rd, h⟩
  subst hw
  unfold mSl at h
  split at h
  · rename_i i
    obtain ⟨_, rfl⟩ := rv_ref rd
    split at h
    · rename_i ds el
      obtain ⟨vs, sq, q⟩ := lstAt_sq rs el
      exact sl_list pins s σ _ _ v vl vu lo hi sl Q I rx hs pl pu ⟨_, vs, rfl, by rw [hK]; exact sq, fun p hp => PD.lst h rs (q.cut lo hi) p hp⟩
    · exact h.elim
  · rename_i ds
    obtain ⟨p, vs, rfl, t, q⟩ := rv_tup rd
    refine sl_tupA pins s σ _ _ v vl vu lo hi sl Q I rx hs pl pu ⟨p, vs, rfl, by rw [hK]; exact t.sq, fun hw => ?_, fun _ p hp => PD.tup h rs (q.cut lo hi) p hp⟩
    rw [q.length] at hw
    rw [cut_whole hw] at h
    exact PD.ret (S := S) h rs rd
  · rename_i cs
    simp only [Rv] at rd; subst rd
    split at h
    · rename_i hl
      exact sl_str pins s σ _ _ v vl vu lo hi sl Q I rx hs pl pu ⟨_, rfl, by rw [str_len]; exact lenOk_iff hl, PD.ret (S := S) h rs (by simp only [Rv]; rw [cutS_eq])⟩
    · exact h.elim
  · exact h.elim
end G
end
section
/-! G4: tests, bools, comparisons, displays. -/
namespace G
open PySem L2

/-! ### truth -/
def mTru : D → M Bool
  | .non => ret false
  | .bl b => ret b
  | .int i => ret (i != 0)
  | .str cs => fun S => if lenOk cs.length then some (.ok (!cs.isEmpty) S) else none
  | .tup ds => ret (!ds.isEmpty)
  | .ref i => fun S => match S.get i with
    | some (.lst xs) => some (.ok (!xs.isEmpty) S)
    | some (.frz xs) => some (.ok (!xs.isEmpty) S)
    | some (.dct kvs) => some (.ok (!kvs.isEmpty) S)
    | _ => none
  | _ => stuck
def mB : D → M Bool
  | .bl b => ret b
  | _ => stuck
theorem isEmpty_len {α β : Type} {xs : List α} {ys : List β} (h : xs.length = ys.length) : xs.isEmpty = ys.isEmpty := by
  cases xs <;> cases ys <;> simp_all
theorem Rk.length {B : Tb} {w : Wd} : ∀ {fs : List (Key × D)} {gs : List (Key × V)}, Rk B w fs gs → gs.length = fs.length
  | [], _, r => by rw [show _ = [] from r]; rfl
  | (k, d) :: fs, _, r => by
    obtain ⟨v, q, rfl, _, t⟩ := r
    simp [Rk.length t]
section
variable {B : Tb} {E : XK} {X : Cx} {w : Wd} {S : Sto}
theorem tru_rv {d : D} {x : V} {P : Wd → Sto → Bool → Prop} (rs : RS B w S) (rd : Rv B w d x) (h : Po B E w (mTru d S) P) : ∃ k, TruV B.K x w.H k ∧ P w S k := by
  unfold mTru at h
  split at h
  · simp only [Rv] at rd; subst rd; exact ⟨_, rfl, Po.ret h rs⟩
  · simp only [Rv] at rd; subst rd; exact ⟨_, rfl, Po.ret h rs⟩
  · simp only [Rv] at rd; subst rd; exact ⟨_, rfl, Po.ret h rs⟩
  · rename_i cs
    simp only [Rv] at rd; subst rd
    split at h
    · rename_i hl
      refine ⟨_, ⟨by rw [str_len]; exact lenOk_iff hl, ?_⟩, Po.ret (S := S) h rs⟩
      rw [str_len]
      cases cs with
      | nil => rfl
      | cons a l => simp; omega
    · exact h.elim
  · rename_i ds
    obtain ⟨a, vs, rfl, t, q⟩ := rv_tup rd
    exact ⟨_, .inr (.inl ⟨vs, t.sq, by rw [isEmpty_len q.length]⟩), Po.ret h rs⟩
  · rename_i i
    obtain ⟨_, rfl⟩ := rv_ref rd
    split at h
    · rename_i xs e
      obtain ⟨o, h1, vs, rfl, q⟩ := rs.at_ _ _ e
      exact ⟨_, .inl ⟨vs, .inl (.inl h1), by rw [isEmpty_len q.length]⟩, Po.ret (S := S) h rs⟩
    · rename_i xs e
      obtain ⟨vs, sq, q⟩ := lstAt_sq rs (show lstAt S i = some xs by unfold lstAt; rw [e])
      exact ⟨_, .inl ⟨vs, sq, by rw [isEmpty_len q.length]⟩, Po.ret (S := S) h rs⟩
    · rename_i xs e
      obtain ⟨o, h1, ks, rfl, q⟩ := rs.at_ _ _ e
      exact ⟨_, .inr (.inr ⟨ks, h1, by rw [isEmpty_len q.length]⟩), Po.ret (S := S) h rs⟩
    · exact h.elim
  · exact h.elim
theorem gt_tru {a : Expr} {m : Env → M D} (hK : X.K = B.K) (ha : GE B E X a m) (he : ∀ whole, isTrue a X.env whole = (do let v ← whole; standAt a.pos; holding [v] (truthy v))) : GT B E X a fun env => bnd (m env) mTru := by
  refine PTmono (pt_truth ha he) fun σ H Q ⟨w, env, S, hw, rs, re, h⟩ => ?_
  refine ⟨w, env, S, hw, rs, re, h.bnd.imp fun w1 S1 d l1 rs1 h1 x rx => ?_⟩
  rw [hK]
  exact tru_rv rs1 rx h1
/-! ### and, or, not -/
abbrev GW (B : Tb) (E : XK) (X : Cx) (e : Expr) (m : Env → M Bool) : Prop := PW X e (gT B E m)
def mAndT (a b : Env → M Bool) : Env → M Bool := fun env => bnd (a env) fun k => if k then b env else ret false
def mOrT (a b : Env → M Bool) : Env → M Bool := fun env => bnd (a env) fun k => if k then ret true else b env
def mNotT (a : Env → M Bool) : Env → M Bool := fun env => bnd (a env) fun k => ret (!k)
theorem gw_and {a b : Expr} {rest : List Expr} {pos : Pos} {ma mb : Env → M Bool} (ha : GT B E X a ma) (hb : GW B E X (.BoolOp .And (b :: rest) pos) mb) : GW B E X (.BoolOp .And (a :: b :: rest) pos) (mAndT ma mb) := by
  refine PWmono (pw_and ha hb) fun σ H Q ⟨w, env, S, hw, rs, re, h⟩ => ?_
  refine ⟨w, env, S, hw, rs, re, h.bnd.imp fun w1 S1 k l1 rs1 h1 => ?_⟩
  cases k with
  | true => exact ⟨w1, env, S1, rfl, rs1, re.mono l1, h1⟩
  | false => exact Po.ret (a := false) h1 rs1
theorem gw_or {a b : Expr} {rest : List Expr} {pos : Pos} {ma mb : Env → M Bool} (ha : GT B E X a ma) (hb : GW B E X (.BoolOp .Or (b :: rest) pos) mb) : GW B E X (.BoolOp .Or (a :: b :: rest) pos) (mOrT ma mb) := by
  refine PWmono (pw_or ha hb) fun σ H Q ⟨w, env, S, hw, rs, re, h⟩ => ?_
  refine ⟨w, env, S, hw, rs, re, h.bnd.imp fun w1 S1 k l1 rs1 h1 => ?_⟩
  cases k with
  | false => exact ⟨w1, env, S1, rfl, rs1, re.mono l1, h1⟩
  | true => exact Po.ret (a := true) h1 rs1
theorem gt_not {a : Expr} {pos : Pos} {ma : Env → M Bool} (ha : GT B E X a ma) : GT B E X (.UnaryOp .Not a pos) (mNotT ma) := by
  refine PTmono (pt_not ha) fun σ H Q ⟨w, env, S, hw, rs, re, h⟩ => ?_
  exact ⟨w, env, S, hw, rs, re, h.bnd.imp fun w1 S1 k l1 rs1 h1 => Po.ret (a := !k) h1 rs1⟩
def mAnd (a b : Env → M D) : Env → M D := fun env => bnd (a env) fun d => bnd (mTru d) fun k => if k then b env else ret d
def mOr (a b : Env → M D) : Env → M D := fun env => bnd (a env) fun d => bnd (mTru d) fun k => if k then ret d else b env
def mNot (a : Env → M D) : Env → M D := fun env => bnd (a env) fun d => bnd (mTru d) fun k => ret (.bl (!k))
theorem ge_and {a b : Expr} {rest : List Expr} {pos : Pos} {ma mb : Env → M D} (hK : X.K = B.K) (ha : GE B E X a ma) (hb : GE B E X (.BoolOp .And (b :: rest) pos) mb) : GE B E X (.BoolOp .And (a :: b :: rest) pos) (mAnd ma mb) := by
  refine PEmono (pe_andT ha hb) fun σ H Q ⟨w, env, S, hw, rs, re, h⟩ => ?_
  refine ⟨w, env, S, hw, rs, re, h.bnd.imp fun w1 S1 d l1 rs1 h1 x rx => ?_⟩
  obtain ⟨k, hk, h2⟩ := tru_rv rs1 rx h1.bnd
  refine ⟨k, by rw [hK]; exact hk, ?_⟩
  cases k with
  | true => exact ⟨w1, env, S1, rfl, rs1, re.mono l1, h2⟩
  | false => exact PD.ret (d := d) h2 rs1 rx
theorem ge_or {a b : Expr} {rest : List Expr} {pos : Pos} {ma mb : Env → M D} (hK : X.K = B.K) (ha : GE B E X a ma) (hb : GE B E X (.BoolOp .Or (b :: rest) pos) mb) : GE B E X (.BoolOp .Or (a :: b :: rest) pos) (mOr ma mb) := by
  refine PEmono (pe_orT ha hb) fun σ H Q ⟨w, env, S, hw, rs, re, h⟩ => ?_
  refine ⟨w, env, S, hw, rs, re, h.bnd.imp fun w1 S1 d l1 rs1 h1 x rx => ?_⟩
  obtain ⟨k, hk, h2⟩ := tru_rv rs1 rx h1.bnd
  refine ⟨k, by rw [hK]; exact hk, ?_⟩
  cases k with
  | false => exact ⟨w1, env, S1, rfl, rs1, re.mono l1, h2⟩
  | true => exact PD.ret (d := d) h2 rs1 rx
theorem ge_not {a : Expr} {pos : Pos} {ma : Env → M D} (hK : X.K = B.K) (ha : GE B E X a ma) : GE B E X (.UnaryOp .Not a pos) (mNot ma) := by
  refine PEmono (pe_notT ha) fun σ H Q ⟨w, env, S, hw, rs, re, h⟩ => ?_
  refine ⟨w, env, S, hw, rs, re, h.bnd.imp fun w1 S1 d l1 rs1 h1 x rx => ?_⟩
  obtain ⟨k, hk, h2⟩ := tru_rv rs1 rx h1.bnd
  exact ⟨k, by rw [hK]; exact hk, PD.ret (d := .bl (!k)) h2 rs1 rv_bl⟩
def mIte {α : Type} (c : Env → M Bool) (a b : Env → M α) : Env → M α := fun env => bnd (c env) fun k => if k then a env else b env
theorem ge_ite {c a b : Expr} {pos : Pos} {mc : Env → M Bool} {ma mb : Env → M D} (hc : GT B E X c mc) (ha : GE B E X a ma) (hb : GE B E X b mb) : GE B E X (.IfExp c a b pos) (mIte mc ma mb) := by
  refine PEmono (pe_ifExp hc ha hb) fun σ H Q ⟨w, env, S, hw, rs, re, h⟩ => ?_
  refine ⟨w, env, S, hw, rs, re, h.bnd.imp fun w1 S1 k l1 rs1 h1 => ?_⟩
  cases k with
  | true => exact ⟨w1, env, S1, rfl, rs1, re.mono l1, h1⟩
  | false => exact ⟨w1, env, S1, rfl, rs1, re.mono l1, h1⟩
theorem pt_ifExp {c a b : Expr} {pos : Pos} {tc ta tb : TT} (hc : PT X c tc) (ha : PT X a ta) (hb : PT X b tb) : PT X (.IfExp c a b pos) (fun σ H Q => tc σ H fun k H1 => if k = true then ta σ H1 Q else tb σ H1 Q) := by
  refine ⟨fun pins s σ H Q I h => ?_⟩
  show wpAny _ _ (do if ← isTrue c X.env (eval c X.env) then isTrue a X.env (eval a X.env) else isTrue b X.env (eval b X.env)) _ _ _
  refine wpAny_bind (thn (hc.run pins s σ H _ I h) fun k s1 ⟨H1, I1, q⟩ => ?_)
  cases k with
  | true => exact ha.run pins s1 σ H1 Q I1 q
  | false => exact hb.run pins s1 σ H1 Q I1 q
theorem gt_ite {c a b : Expr} {pos : Pos} {mc ma mb : Env → M Bool} (hc : GT B E X c mc) (ha : GT B E X a ma) (hb : GT B E X b mb) : GT B E X (.IfExp c a b pos) (mIte mc ma mb) := by
  refine PTmono (pt_ifExp hc ha hb) fun σ H Q ⟨w, env, S, hw, rs, re, h⟩ => ?_
  refine ⟨w, env, S, hw, rs, re, h.bnd.imp fun w1 S1 k l1 rs1 h1 => ?_⟩
  cases k with
  | true => exact ⟨w1, env, S1, rfl, rs1, re.mono l1, h1⟩
  | false => exact ⟨w1, env, S1, rfl, rs1, re.mono l1, h1⟩

/-! ### comparisons -/
def mCmp (f : D → D → M D) (a b : Env → M D) : Env → M D := fun env => bnd (a env) fun d => bnd (b env) fun e => f d e
theorem ge_cmp {op : CmpOp} {f : D → D → M D} {a b : Expr} {ma mb : Env → M D} {pos : Pos} (ho : OpR X (compareOp op) (g2 B E f)) (ha : GE B E X a ma) (hb : GE B E X b mb) (hm : behindInMarks op b = false) :
    GE B E X (.Compare a [op] [b] pos) (mCmp f ma mb) :=
  PEmono (pe_cmpR ho ha hb hm) (gE_bin fun _ _ _ _ h => h)
theorem mB_rv {d : D} {x : V} {P : Wd → Sto → Bool → Prop} (rs : RS B w S) (rd : Rv B w d x) (h : Po B E w (mB d S) P) : ∃ k, x = .bl k ∧ P w S k := by
  unfold mB at h
  split at h
  · simp only [Rv] at rd; exact ⟨_, rd, Po.ret h rs⟩
  · exact h.elim
theorem gt_cmp {op : CmpOp} {f : D → D → M D} {a b : Expr} {ma mb : Env → M D} {pos : Pos} (ho : OpR X (compareOp op) (g2 B E f)) (ha : GE B E X a ma) (hb : GE B E X b mb) (hm : behindInMarks op b = false) :
    GT B E X (.Compare a [op] [b] pos) fun env => bnd (mCmp f ma mb env) mB := by
  refine PTmono (pt_cmpR ho ha hb hm) fun σ H Q ⟨w, env, S, hw, rs, re, h⟩ => ?_
  refine gE_bin (fun _ _ _ _ h => h) σ H _ ⟨w, env, S, hw, rs, re, h.bnd.imp fun w1 S1 d l1 rs1 h1 x rx => ?_⟩
  exact mB_rv rs1 rx h1
def mChain (f g : D → D → M D) (a b c : Env → M D) : Env → M D := fun env => bnd (a env) fun x => bnd (b env) fun y => bnd (f x y) fun z => bnd (mB z) fun k => if k then bnd (c env) fun u => g y u else ret (.bl false)
theorem gE_chain {f g : D → D → M D} {ma mb mc : Env → M D} (σ : L2.St) (H : Hp) (Q : VK) (h : gE B E (mChain f g ma mb mc) σ H Q) : tChain (g2 B E f) (g2 B E g) (gE B E ma) (gE B E mb) (gE B E mc) σ H Q := by
  obtain ⟨w, env, S, hw, rs, re, h⟩ := h
  refine ⟨w, env, S, hw, rs, re, h.bnd.imp fun w1 S1 d l1 rs1 h1 x rx => ?_⟩
  refine ⟨w1, env, S1, rfl, rs1, re.mono l1, h1.bnd.imp fun w2 S2 e l2 rs2 h2 y ry => ?_⟩
  refine ⟨w2, S2, d, e, rfl, rs2, rx.mono l2, ry, h2.bnd.imp fun w3 S3 z l3 rs3 h3 v rv => ?_⟩
  obtain ⟨k, hk, h4⟩ := mB_rv rs3 rv h3.bnd
  refine ⟨k, hk, ?_⟩
  cases k with
  | true =>
    refine ⟨w3, env, S3, rfl, rs3, re.mono (l1.trans (l2.trans l3)), Po.imp (Po.bnd h4) fun w4 S4 u l4 rs4 h5 c rc => ?_⟩
    exact ⟨w4, S4, e, u, rfl, rs4, ry.mono (l3.trans l4), rc, h5⟩
  | false => exact PD.ret (d := .bl false) h4 rs3 rv_bl
theorem ge_chain {op op' : CmpOp} {f g : D → D → M D} {a b c : Expr} {ma mb mc : Env → M D} {pos : Pos} (ho : OpR X (compareOp op) (g2 B E f)) (ho' : OpR X (compareOp op') (g2 B E g)) (ha : GE B E X a ma) (hb : GE B E X b mb) (hc : GE B E X c mc) (hm : lastMarks [op, op'] [b, c] = false) :
    GE B E X (.Compare a [op, op'] [b, c] pos) (mChain f g ma mb mc) :=
  PEmono (pe_chain ho ho' ha hb hc hm) gE_chain
theorem gt_chain {op op' : CmpOp} {f g : D → D → M D} {a b c : Expr} {ma mb mc : Env → M D} {pos : Pos} (ho : OpR X (compareOp op) (g2 B E f)) (ho' : OpR X (compareOp op') (g2 B E g)) (ha : GE B E X a ma) (hb : GE B E X b mb) (hc : GE B E X c mc) (hm : lastMarks [op, op'] [b, c] = false) :
    GT B E X (.Compare a [op, op'] [b, c] pos) fun env => bnd (mChain f g ma mb mc env) mB := by
  refine PTmono (pt_chain ho ho' ha hb hc hm) fun σ H Q ⟨w, env, S, hw, rs, re, h⟩ => ?_
  refine gE_chain σ H _ ⟨w, env, S, hw, rs, re, h.bnd.imp fun w1 S1 d l1 rs1 h1 x rx => ?_⟩
  exact mB_rv rs1 rx h1

/-! ### argument lists, displays -/
def mNil : Env → M (List D) := fun _ => ret []
def mCons (a : Env → M D) (r : Env → M (List D)) : Env → M (List D) := fun env => bnd (a env) fun d => bnd (r env) fun ds => ret (d :: ds)
theorem ga_nil : GA B E X [] mNil := PAmono pa_nil fun σ H Q ⟨w, env, S, hw, rs, re, h⟩ => by subst hw; exact Po.ret h rs [] .nil
theorem ga_cons {e : Expr} {es : List Expr} {m : Env → M D} {ms : Env → M (List D)} (he : GE B E X e m) (hr : GA B E X es ms) (hs : starEach (e :: es) X.env = (false, eval e X.env) :: starEach es X.env) : GA B E X (e :: es) (mCons m ms) := by
  refine PAmono (pa_cons he hr hs) fun σ H Q ⟨w, env, S, hw, rs, re, h⟩ => ?_
  refine ⟨w, env, S, hw, rs, re, h.bnd.imp fun w1 S1 d l1 rs1 h1 x rx => ?_⟩
  refine ⟨w1, env, S1, rfl, rs1, re.mono l1, h1.bnd.imp fun w2 S2 ds l2 rs2 h2 vs rvs => ?_⟩
  exact Po.ret h2 rs2 _ (.cons (rx.mono l2) rvs)
def mTup (ms : Env → M (List D)) : Env → M D := fun env => bnd (ms env) fun ds S => if lenOk ds.length then some (.ok (.tup ds) S) else none
def mLst (ms : Env → M (List D)) : Env → M D := fun env => bnd (ms env) fun ds S => if lenOk ds.length then alloc (.lst ds) S else none
theorem ge_tup {es : List Expr} {k : Nat} {pos : Pos} {ms : Env → M (List D)} (h : GA B E X es ms) : GE B E X (.Tuple es k pos) (mTup ms) := by
  refine PEmono (pe_tup h) fun σ H Q ⟨w, env, S, hw, rs, re, h⟩ => ?_
  refine ⟨w, env, S, hw, rs, re, h.bnd.imp fun w1 S1 ds l1 rs1 h1 vs rvs => ?_⟩
  split at h1
  · rename_i hl
    exact ⟨by rw [rvs.length]; exact lenOk_iff hl, fun p hp => PD.tup (S := S1) h1 rs1 rvs p hp⟩
  · exact h1.elim
theorem ge_lst {es : List Expr} {pos : Pos} {ms : Env → M (List D)} (h : GA B E X es ms) : GE B E X (.List es pos) (mLst ms) := by
  refine PEmono (pe_lst h) fun σ H Q ⟨w, env, S, hw, rs, re, h⟩ => ?_
  refine ⟨w, env, S, hw, rs, re, h.bnd.imp fun w1 S1 ds l1 rs1 h1 vs rvs => ?_⟩
  split at h1
  · rename_i hl
    exact ⟨by rw [rvs.length]; exact lenOk_iff hl, fun p hp => PD.lst (S := S1) h1 rs1 rvs p hp⟩
  · exact h1.elim

/-! ### items, slices -/
theorem ge_idx {a b : Expr} {ma mb : Env → M D} {pos : Pos} (hK : X.K = B.K) (ha : GE B E X a ma) (hb : GE B E X b mb) (hs : PlainIx b) : GE B E X (.Subscript a b pos) (mCmp mIdx ma mb) :=
  PEmono (pe_ix (idx_ok hK) ha hb hs) (gE_bin fun _ _ _ _ h => h)
abbrev GO (B : Tb) (E : XK) (X : Cx) (e : Option Expr) (m : Env → M (Option Int)) : Prop := PO X e (fun σ H Q => ∃ w env S, w.H = H ∧ RS B w S ∧ RE B w env σ ∧ Po B E w (m env S) fun w' _ o => Q o w'.H)
def mNoPart : Env → M (Option Int) := fun _ => ret none
def mPart (a : Env → M D) : Env → M (Option Int) := fun env => bnd (a env) fun
  | .int i => ret (some i)
  | _ => stuck
theorem go_none : GO B E X none mNoPart := ⟨fun pins s σ H Q I ⟨w, env, S, hw, rs, re, h⟩ => by subst hw; exact po_none.run pins s σ _ Q I (Po.ret (a := none) h rs)⟩
theorem go_some {e : Expr} {m : Env → M D} (he : GE B E X e m) : GO B E X (some e) (mPart m) := by
  refine ⟨fun pins s σ H Q I ⟨w, env, S, hw, rs, re, h⟩ => (po_some he).run pins s σ H Q I ?_⟩
  refine ⟨w, env, S, hw, rs, re, h.bnd.imp fun w1 S1 d l1 rs1 h1 x rx => ?_⟩
  split at h1
  · simp only [Rv] at rx
    exact ⟨_, rx, Po.ret (S := S1) h1 rs1⟩
  · exact h1.elim
def mSlice (a : Env → M D) (lo hi : Env → M (Option Int)) : Env → M D := fun env => bnd (a env) fun d => bnd (lo env) fun l => bnd (hi env) fun u => mSl d l u
theorem ge_slice {a : Expr} {lo hi : Option Expr} {ma : Env → M D} {ml mh : Env → M (Option Int)} {pos p2 : Pos} (hK : X.K = B.K) (ha : GE B E X a ma) (hl : GO B E X lo ml) (hh : GO B E X hi mh) : GE B E X (.Subscript a (.Slice lo hi none p2) pos) (mSlice ma ml mh) := by
  refine PEmono (pe_slice (sl_ok (E := E) hK) ha hl hh) fun σ H Q ⟨w, env, S, hw, rs, re, h⟩ => ?_
  refine ⟨w, env, S, hw, rs, re, h.bnd.imp fun w1 S1 d l1 rs1 h1 x rx => ?_⟩
  refine ⟨w1, env, S1, rfl, rs1, re.mono l1, h1.bnd.imp fun w2 S2 l l2 rs2 h2 => ?_⟩
  refine ⟨w2, env, S2, rfl, rs2, re.mono (l1.trans l2), h2.bnd.imp fun w3 S3 u l3 rs3 h3 => ?_⟩
  exact ⟨w3, S3, d, rfl, rs3, rx.mono (l2.trans l3), h3⟩
end
end G
end
section
/-! G5: fields, targets, statements. -/
namespace G
open PySem L2

/-! ### fields -/
def lkF (k : Nat) : List (Nat × D) → Option D
  | [] => none
  | (j, d) :: fs => if j = k then some d else lkF k fs
def putFD (k : Nat) (d : D) : List (Nat × D) → List (Nat × D)
  | [] => [(k, d)]
  | (j, e) :: fs => if j = k then (k, d) :: fs else (j, e) :: putFD k d fs
section
variable {B : Tb} {E : XK} {X : Cx} {w : Wd} {S : Sto}
theorem Rf.lk {k : Nat} : ∀ {fs : List (Nat × D)} {gs : List (Str × V)} {d : D}, Rf B w fs gs → lkF k fs = some d → ∃ v, gs.lookup (B.nm k) = some v ∧ Rv B w d v
  | [], _, _, _, h => by cases h
  | (j, e) :: fs, _, d, r, h => by
    obtain ⟨v, q, rfl, r1, t⟩ := r
    unfold lkF at h
    rw [List.lookup_cons]
    by_cases hj : j = k
    · subst hj
      rw [if_pos rfl] at h
      cases h
      exact ⟨v, by simp, r1⟩
    · rw [if_neg hj] at h
      have : (B.nm k == B.nm j) = false := beq_eq_false_iff_ne.mpr fun z => hj (B.nmi _ _ z).symm
      rw [this]
      exact Rf.lk t h
theorem Rf.nolk {k : Nat} : ∀ {fs : List (Nat × D)} {gs : List (Str × V)}, Rf B w fs gs → lkF k fs = none → gs.lookup (B.nm k) = none
  | [], _, r, _ => by rw [show _ = [] from r]; rfl
  | (j, e) :: fs, _, r, h => by
    obtain ⟨v, q, rfl, r1, t⟩ := r
    unfold lkF at h
    rw [List.lookup_cons]
    by_cases hj : j = k
    · rw [if_pos hj] at h; cases h
    · rw [if_neg hj] at h
      have : (B.nm k == B.nm j) = false := beq_eq_false_iff_ne.mpr fun z => hj (B.nmi _ _ z).symm
      rw [this]
      exact Rf.nolk t h
theorem Rf.put {k : Nat} {d : D} {v : V} (rd : Rv B w d v) : ∀ {fs : List (Nat × D)} {gs : List (Str × V)}, Rf B w fs gs → Rf B w (putFD k d fs) (putF (B.nm k) v gs)
  | [], _, r => by rw [show _ = [] from r]; exact ⟨v, [], rfl, rd, rfl⟩
  | (j, e) :: fs, _, r => by
    obtain ⟨u, q, rfl, r1, t⟩ := r
    unfold putFD putF
    by_cases hj : j = k
    · subst hj
      rw [if_pos rfl, if_pos rfl]
      exact ⟨v, q, rfl, rd, t⟩
    · rw [if_neg hj, if_neg fun z => hj (B.nmi _ _ z)]
      exact ⟨u, _, rfl, r1, Rf.put rd t⟩
theorem Rf.length : ∀ {fs : List (Nat × D)} {gs : List (Str × V)}, Rf B w fs gs → gs.length = fs.length
  | [], _, r => by rw [show _ = [] from r]; rfl
  | (k, d) :: fs, _, r => by
    obtain ⟨v, q, rfl, _, t⟩ := r
    simp [Rf.length t]
end
def mFld (ok : Nat → Nat → Bool) (f : Nat) : D → M D
  | .ref i => fun S => match S.get i with
    | some (.ins c fs) => if ok c f then match lkF f fs with
        | some d => some (.ok d S)
        | none => none else none
    | _ => none
  | _ => stuck
def mPutF (ok : Nat → Nat → Bool) (f : Nat) (o d : D) : M Unit := match o with
  | .ref i => fun S => match S.get i with
    | some (.ins c fs) => if ok c f && Nat.blt fs.length 1000 then some (.ok () (S.put i (.ins c (putFD f d fs)))) else none
    | _ => none
  | _ => stuck
def mSetI (o i d : D) : M Unit := match o, i with
  | .ref p, .int k => fun S => match S.get p with
    | some (.lst xs) => match ixN xs.length k with
      | some j => some (.ok () (S.put p (.lst (xs.set j d))))
      | none => none
    | _ => none
  | _, _ => stuck
section
variable {B : Tb} {E : XK} {X : Cx} {w : Wd} {S : Sto}
theorem ge_fld {e : Expr} {m : Env → M D} {f : Nat} {x : Str} {pos : Pos} (hK : X.K = B.K) (hx : B.nm f = x) (he : GE B E X e m) (hb : attributeBase e x X.env (eval e X.env) = eval e X.env) : GE B E X (.Attribute e x pos) fun env => bnd (m env) (mFld B.fld f) := by
  refine PEmono (pe_fld he hb) fun σ H Q ⟨w, env, S, hw, rs, re, h⟩ => ?_
  refine ⟨w, env, S, hw, rs, re, h.bnd.imp fun w1 S1 d l1 rs1 h1 v rv => ?_⟩
  unfold mFld at h1
  split at h1
  · rename_i i
    obtain ⟨_, rfl⟩ := rv_ref rv
    split at h1
    · rename_i c fs ec
      split at h1
      · rename_i hok
        split at h1
        · rename_i d ed
          obtain ⟨o, h2, dx, gs, rfl, q⟩ := rs1.at_ _ _ ec
          obtain ⟨u, eu, ru⟩ := q.lk ed
          obtain ⟨c1, c2⟩ := B.fldC c f hok
          exact ⟨_, _, dx, gs, u, rfl, h2, by rw [hK]; exact c1, by rw [hK, ← hx]; exact c2, by rw [← hx]; exact eu, PD.ret (S := S1) h1 rs1 ru⟩
        · exact h1.elim
      · exact h1.elim
    · exact h1.elim
  · exact h1.elim

theorem Po.chg {α : Type} {i : Nat} {c c' : Cell} {o : HO} {a : α} {P : Wd → Sto → α → Prop} (h : Po B E w (some (.ok a (S.put i c'))) P) (rs : RS B w S) (e : S.get i = some c) (hc : Rc B (w.chg i o) c' o) (hm : c.mut = true := by rfl) (hm' : c'.mut = true := by rfl) : P (w.chg i o) (S.put i c') a := by
  obtain ⟨u, hu, qu⟩ := rs.at_ i c e hm
  exact h (w.chg i o) (Wd.chg_le hu qu.nimm) (rs.chg e hc hm hm')
theorem chg_le {i : Nat} {c : Cell} {o : HO} (rs : RS B w S) (e : S.get i = some c) (hm : c.mut = true := by rfl) : w.le (w.chg i o) := by
  obtain ⟨u, hu, qu⟩ := rs.at_ i c e hm
  exact Wd.chg_le hu qu.nimm

/-! ### targets -/
def gG (B : Tb) (E : XK) (g : D → Env → M Env) : TG := fun v σ H Q => ∃ w env S d, w.H = H ∧ RS B w S ∧ RE B w env σ ∧ Rv B w d v ∧ Po B E w (g d env S) fun w' _ env' => ∀ σ', RE B w' env' σ' → Q σ' w'.H
def gGs (B : Tb) (E : XK) (g : List D → Env → M Env) : TGs := fun vs σ H Q => ∃ w env S ds, w.H = H ∧ RS B w S ∧ RE B w env σ ∧ Rvs B w ds vs ∧ Po B E w (g ds env S) fun w' _ env' => ∀ σ', RE B w' env' σ' → Q σ' w'.H
theorem PGmono {X : Cx} {e : Expr} {t t' : TG} (h : PG X e t) (k : ∀ v σ H Q, t' v σ H Q → t v σ H Q) : PG X e t' := ⟨fun pins s σ H v u Q I r q => h.run pins s σ H v u Q I r (k v σ H Q q)⟩
theorem PGsmono {X : Cx} {e : List Expr} {t t' : TGs} (h : PGs X e t) (k : ∀ v σ H Q, t' v σ H Q → t v σ H Q) : PGs X e t' := ⟨fun pins s σ H v u Q I r q => h.run pins s σ H v u Q I r (k v σ H Q q)⟩
abbrev GG (B : Tb) (E : XK) (X : Cx) (e : Expr) (g : D → Env → M Env) : Prop := PG X e (gG B E g)
abbrev GGs (B : Tb) (E : XK) (X : Cx) (es : List Expr) (g : List D → Env → M Env) : Prop := PGs X es (gGs B E g)
def tgN (i : Nat) : D → Env → M Env := fun d env => ret (env.set i (some d))
theorem gg_name {i : Nat} {x : Str} {pos : Pos} (hN : X.N.Nodup) (hi : X.N[i]? = some x) (hx : Loc X.env.scope x) (hf : X.fn x = true ∨ X.env.scope.names.lookup x = some .local) : GG B E X (.Name x pos) (tgN i) := by
  refine PGmono (pg_name hN hi hx hf) fun v σ H Q ⟨w, env, S, d, hw, rs, re, rd, h⟩ => ?_
  subst hw
  exact Po.ret h rs _ (re.set i rd)
def tgsNil : List D → Env → M Env := fun ds env => match ds with
  | [] => ret env
  | _ => stuck
def tgsCons (g : D → Env → M Env) (r : List D → Env → M Env) : List D → Env → M Env := fun ds env => match ds with
  | [] => stuck
  | d :: ds => bnd (g d env) fun env => r ds env
theorem ggs_nil : GGs B E X [] tgsNil := by
  refine PGsmono pgs_nil fun vs σ H Q ⟨w, env, S, ds, hw, rs, re, rd, h⟩ => ?_
  subst hw
  unfold tgsNil at h
  split at h
  · simp only [Rvs] at rd
    exact ⟨rd, Po.ret h rs _ re⟩
  · exact h.elim
theorem ggs_cons {e : Expr} {es : List Expr} {g : D → Env → M Env} {r : List D → Env → M Env} (h1 : GG B E X e g) (h2 : GGs B E X es r) (hs : (assignEach (e :: es) X.env).map (·.2) = assign e X.env :: (assignEach es X.env).map (·.2)) : GGs B E X (e :: es) (tgsCons g r) := by
  refine PGsmono (pgs_cons h1 h2 hs) fun vs σ H Q ⟨w, env, S, ds, hw, rs, re, rd, h⟩ => ?_
  unfold tgsCons at h
  split at h
  · exact h.elim
  · rename_i d ds
    simp only [Rvs] at rd
    obtain ⟨v, vs, rfl, rv, rvs⟩ := rd
    refine ⟨v, vs, rfl, w, env, S, d, hw, rs, re, rv, h.bnd.imp fun w1 S1 env1 l1 rs1 h1 σ1 re1 => ?_⟩
    exact ⟨w1, env1, S1, ds, rfl, rs1, re1, rvs.mono l1, h1⟩
def tgT (n : Nat) (r : List D → Env → M Env) : D → Env → M Env := fun d env => match d with
  | .tup ds => if ds.length = n then r ds env else stuck
  | .ref i => fun S => match lstAt S i with
    | some ds => if ds.length = n then r ds env S else none
    | none => none
  | _ => stuck
theorem gg_tup {es : List Expr} {k : Nat} {pos : Pos} {r : List D → Env → M Env} (hK : X.K = B.K) (hc : X.calm = true) (h : GGs B E X es r) (hst : (assignEach es X.env).findIdx? (·.1) = none) : GG B E X (.Tuple es k pos) (tgT (assignEach es X.env).length r) := by
  refine ⟨fun pins s σ H v u Q I rv ⟨w, env, S, d, hw, rs, re, rd, q⟩ => ?_⟩
  unfold tgT at q
  split at q
  · rename_i ds
    obtain ⟨a, vs, rfl, t, rvs⟩ := rv_tup rd
    split at q
    · rename_i hl
      exact (pg_tup hc h rfl hst).run pins s σ H _ u Q I rv ⟨a, vs, rfl, by rw [hK, ← hw]; exact t.sq, by rw [rvs.length]; exact hl, w, env, S, ds, hw, rs, re, rvs, q⟩
    · exact q.elim
  · rename_i i
    obtain ⟨_, rfl⟩ := rv_ref rd
    split at q
    · rename_i ds el
      split at q
      · rename_i hl
        obtain ⟨vs, sq, rvs⟩ := lstAt_sq rs el
        exact (pg_unl hc h rfl hst).run pins s σ H _ u Q I rv ⟨_, vs, rfl, by rw [hK, ← hw]; exact sq, by rw [rvs.length]; exact hl, w, env, S, ds, hw, rs, re, rvs, q⟩
      · exact q.elim
    · exact q.elim
  · exact q.elim
def tgI (o i : Env → M D) : D → Env → M Env := fun d env => bnd (o env) fun x => bnd (i env) fun y => bnd (mSetI x y d) fun _ => ret env
theorem setI_ok {o i d : D} {x y v : V} {Q : Hp → Prop} {P : Wd → Sto → Unit → Prop} (rs : RS B w S) (ro : Rv B w o x) (ri : Rv B w i y) (rd : Rv B w d v) (h : Po B E w (mSetI o i d S) P) (hP : ∀ w' S', w.le w' → RS B w' S' → P w' S' () → Q w'.H) : rSetL x y v w.H Q := by
  unfold mSetI at h
  split at h
  · rename_i p k
    obtain ⟨_, rfl⟩ := rv_ref ro
    simp only [Rv] at ri; subst ri
    split at h
    · rename_i xs e
      split at h
      · rename_i j ej
        obtain ⟨u, h1, vs, rfl, q⟩ := rs.at_ _ _ e
        have l := chg_le (o := .lst (vs.set j v)) rs e
        have hc : Rc B (w.chg p (.lst (vs.set j v))) (.lst (xs.set j d)) (.lst (vs.set j v)) := ⟨_, rfl, (q.mono l).set j (rd.mono l)⟩
        exact ⟨_, vs, k, j, rfl, rfl, h1, by rw [q.length]; exact ej, hP _ _ l (rs.chg e hc) (h.chg rs e hc)⟩
      · exact h.elim
    · exact h.elim
  · exact h.elim
theorem gg_sub {o i : Expr} {mo mi : Env → M D} {pos : Pos} (ho : GE B E X o mo) (hi : GE B E X i mi) (ha : ∀ v, assign (.Subscript o i pos) X.env v = (do
      let ov ← holding [v] (eval o X.env)
      let iv ← holding [v, ov] (eval i X.env)
      standAt pos
      holding [v, ov, iv] (setItem ov iv v)
      release [v, ov, iv] [])) : GG B E X (.Subscript o i pos) (tgI mo mi) := by
  refine PGmono (pg_sub ho hi set_list ha) fun v σ H Q ⟨w, env, S, d, hw, rs, re, rd, h⟩ => ?_
  refine ⟨w, env, S, hw, rs, re, h.bnd.imp fun w1 S1 x l1 rs1 h1 xv rx => ?_⟩
  refine ⟨w1, env, S1, rfl, rs1, re.mono l1, h1.bnd.imp fun w2 S2 y l2 rs2 h2 yv ry => ?_⟩
  exact setI_ok rs2 (rx.mono l2) ry (rd.mono (l1.trans l2)) h2.bnd fun w3 S3 l3 rs3 h3 => Po.ret h3 rs3 _ (re.mono (l1.trans (l2.trans l3)))
def tgF (ok : Nat → Nat → Bool) (f : Nat) (o : Env → M D) : D → Env → M Env := fun d env => bnd (o env) fun x => bnd (mPutF ok f x d) fun _ => ret env
theorem putF_ok {f : Nat} {o d : D} {x v : V} {P : Wd → Sto → Unit → Prop} (rs : RS B w S) (ro : Rv B w o x) (rd : Rv B w d v) (h : Po B E w (mPutF B.fld f o d S) P) :
    ∃ a C dx gs, x = .ref a ∧ w.H a = some (.ins C dx gs) ∧ Cls B.K C ∧ NoAttr B.K C (B.nm f) ∧ gs.length < 1000 ∧ ∃ w' S', w'.H = upd w.H a (.ins C dx (putF (B.nm f) v gs)) ∧ w.le w' ∧ RS B w' S' ∧ P w' S' () := by
  unfold mPutF at h
  split at h
  · rename_i i
    obtain ⟨_, rfl⟩ := rv_ref ro
    split at h
    · rename_i c fs e
      split at h
      · rename_i hok
        rw [Bool.and_eq_true] at hok
        obtain ⟨u, h1, dx, gs, rfl, q⟩ := rs.at_ _ _ e
        obtain ⟨c1, c2⟩ := B.fldC c f hok.1
        have l := chg_le (o := .ins (B.ca c) dx (putF (B.nm f) v gs)) rs e
        have hc : Rc B (w.chg i (.ins (B.ca c) dx (putF (B.nm f) v gs))) (.ins c (putFD f d fs)) (.ins (B.ca c) dx (putF (B.nm f) v gs)) := ⟨dx, _, rfl, Rf.put (rd.mono l) (q.mono l)⟩
        refine ⟨_, _, dx, gs, rfl, h1, c1, c2, ?_, _, _, rfl, l, rs.chg e hc, h.chg rs e hc⟩
        rw [q.length]
        have : Nat.ble (fs.length + 1) 1000 = true := hok.2
        exact Nat.le_of_ble_eq_true this
      · exact h.elim
    · exact h.elim
  · exact h.elim
theorem pg_fldH {X : Cx} {o : Expr} {to : TE} {f : Str} {pos : Pos} (ho : PE X o to) : PG X (.Attribute o f pos) (fun v σ H Q => to σ H fun x H1 => ∃ a C dx fs, x = .ref a ∧ H1 a = some (.ins C dx fs) ∧ Cls X.K C ∧ NoAttr X.K C f ∧ fs.length < 1000 ∧ Q σ (upd H1 a (.ins C dx (putF f v fs)))) := by
  refine ⟨fun pins s σ H v u Q I r h => ?_⟩
  show wpAny _ _ (do
    let ov ← holding [u] (eval o X.env)
    standAt pos.atName
    holding [u, ov] (setAttr ov f u)
    release [u, ov] []) _ _ _
  refine wpAny_bind (wpAny_holding (thn (ho.run pins s σ H _ I h) fun ov s1 ⟨x, H1, I1, r1, a, C, dx, fs, ex, ea, c, n, l, q⟩ => ?_))
  subst ex
  obtain rfl : ov = Value.ref a := r1
  refine wpAny_bind (wpAny_standAt (wpAny_bind (wpAny_holding (setattr_ok I1 ea c n l r fun s2 I2 => ?_))))
  exact wpAny_release ⟨σ, _, I2, q⟩
theorem gg_fld {o : Expr} {mo : Env → M D} {f : Nat} {x : Str} {pos : Pos} (hK : X.K = B.K) (hx : B.nm f = x) (ho : GE B E X o mo) : GG B E X (.Attribute o x pos) (tgF B.fld f mo) := by
  refine PGmono (pg_fldH ho) fun v σ H Q ⟨w, env, S, d, hw, rs, re, rd, h⟩ => ?_
  refine ⟨w, env, S, hw, rs, re, h.bnd.imp fun w1 S1 y l1 rs1 h1 yv ry => ?_⟩
  obtain ⟨a, C, dx, gs, e1, e2, e3, e4, e5, w2, S2, e6, l2, rs2, h2⟩ := putF_ok rs1 ry (rd.mono l1) h1.bnd
  refine ⟨a, C, dx, gs, e1, e2, by rw [hK]; exact e3, by rw [hK, ← hx]; exact e4, e5, ?_⟩
  rw [← hx, ← e6]
  exact Po.ret h2 rs2 _ (re.mono (l1.trans l2))

/-! ### statements -/
inductive Fl where
  | nx (env : Env) | rt (d : D) | bk (env : Env) | ct (env : Env)
def FlK (B : Tb) (Dn : Ends) (w : Wd) (_ : Sto) : Fl → Prop
  | .nx env => ∀ σ, RE B w env σ → Dn.nx σ w.H
  | .rt d => ∀ v, Rv B w d v → Dn.rt v w.H
  | .bk env => ∀ σ, RE B w env σ → Dn.bk σ w.H
  | .ct env => ∀ σ, RE B w env σ → Dn.ct σ w.H
def gS (B : Tb) (E : XK) (m : Env → M Fl) : TS := fun Dn σ H => ∃ w env S, w.H = H ∧ RS B w S ∧ RE B w env σ ∧ Po B E w (m env S) (FlK B Dn)
abbrev GS (B : Tb) (E : XK) (X : Cx) (st : Stmt) (m : Env → M Fl) : Prop := PS X st (gS B E m)
abbrev GSs (B : Tb) (E : XK) (X : Cx) (sts : List Stmt) (m : Env → M Fl) : Prop := PSs X sts (gS B E m)
def sNext : Env → M Fl := fun env => ret (.nx env)
def sSeq (a b : Env → M Fl) : Env → M Fl := fun env => bnd (a env) fun
  | .nx env => b env
  | fl => ret fl
theorem gss_nil : GSs B E X [] sNext := PSsmono pss_nil fun Dn σ H ⟨w, env, S, hw, rs, re, h⟩ => by subst hw; exact Po.ret h rs σ re
theorem gss_cons {st : Stmt} {rest : List Stmt} {a b : Env → M Fl} (h1 : GS B E X st a) (h2 : GSs B E X rest b) : GSs B E X (st :: rest) (sSeq a b) := by
  refine PSsmono (pss_cons h1 h2) fun Dn σ H ⟨w, env, S, hw, rs, re, h⟩ => ?_
  refine ⟨w, env, S, hw, rs, re, h.bnd.imp fun w1 S1 fl l1 rs1 h1 => ?_⟩
  cases fl with
  | nx env1 => exact fun σ1 re1 => ⟨w1, env1, S1, rfl, rs1, re1, h1⟩
  | rt d => exact fun v rv => Po.ret (a := Fl.rt d) h1 rs1 v rv
  | bk e => exact fun v rv => Po.ret (a := Fl.bk e) h1 rs1 v rv
  | ct e => exact fun v rv => Po.ret (a := Fl.ct e) h1 rs1 v rv
theorem gss_one {st : Stmt} {a : Env → M Fl} (h1 : GS B E X st a) : GSs B E X [st] a := PSsmono (pss_one h1) fun Dn σ H h => h
def sBrk : Env → M Fl := fun env => ret (.bk env)
def sCont : Env → M Fl := fun env => ret (.ct env)
theorem gs_pass {pos : Pos} : GS B E X (.Pass pos) sNext := PSmono ps_pass fun Dn σ H ⟨w, env, S, hw, rs, re, h⟩ => by subst hw; exact Po.ret h rs σ re
theorem gs_break {pos : Pos} : GS B E X (.Break pos) sBrk := PSmono ps_break fun Dn σ H ⟨w, env, S, hw, rs, re, h⟩ => by subst hw; exact Po.ret h rs σ re
theorem gs_continue {pos : Pos} : GS B E X (.Continue pos) sCont := PSmono ps_continue fun Dn σ H ⟨w, env, S, hw, rs, re, h⟩ => by subst hw; exact Po.ret h rs σ re
def sExpr (m : Env → M D) : Env → M Fl := fun env => bnd (m env) fun _ => ret (.nx env)
theorem gs_expr {e : Expr} {m : Env → M D} {pos : Pos} (he : GE B E X e m) (hs : swapsWith e none pos.line X.env = pure false) : GS B E X (.Expr e pos) (sExpr m) := by
  refine PSmono (ps_expr he hs) fun Dn σ H ⟨w, env, S, hw, rs, re, h⟩ => ?_
  exact ⟨w, env, S, hw, rs, re, h.bnd.imp fun w1 S1 d l1 rs1 h1 v rv => Po.ret h1 rs1 σ (re.mono l1)⟩
def sRet (m : Env → M D) : Env → M Fl := fun env => bnd (m env) fun d => ret (.rt d)
theorem gs_ret {e : Expr} {m : Env → M D} {pos : Pos} (he : GE B E X e m) : GS B E X (.Return (some e) pos) (sRet m) := by
  refine PSmono (ps_ret he) fun Dn σ H ⟨w, env, S, hw, rs, re, h⟩ => ?_
  exact ⟨w, env, S, hw, rs, re, h.bnd.imp fun w1 S1 d l1 rs1 h1 v rv => Po.ret h1 rs1 v rv⟩
def sRetN : Env → M Fl := fun _ => ret (.rt .non)
theorem gs_retN {pos : Pos} : GS B E X (.Return none pos) sRetN := PSmono ps_retN fun Dn σ H ⟨w, env, S, hw, rs, re, h⟩ => by subst hw; exact Po.ret h rs .non rv_non
def sIf (c : Env → M Bool) (a b : Env → M Fl) : Env → M Fl := fun env => bnd (c env) fun k => if k then a env else b env
theorem gs_if {c : Expr} {a b : List Stmt} {mc : Env → M Bool} {ma mb : Env → M Fl} {pos : Pos} (hc : GT B E X c mc) (ha : GSs B E X a ma) (hb : GSs B E X b mb) : GS B E X (.If c a b pos) (sIf mc ma mb) := by
  refine PSmono (ps_if hc ha hb) fun Dn σ H ⟨w, env, S, hw, rs, re, h⟩ => ?_
  refine ⟨w, env, S, hw, rs, re, h.bnd.imp fun w1 S1 k l1 rs1 h1 => ?_⟩
  cases k with
  | true => exact ⟨w1, env, S1, rfl, rs1, re.mono l1, h1⟩
  | false => exact ⟨w1, env, S1, rfl, rs1, re.mono l1, h1⟩
def sAsg (m : Env → M D) (g : D → Env → M Env) : Env → M Fl := fun env => bnd (m env) fun d => bnd (g d env) fun env => ret (.nx env)
theorem gs_asg {tg e : Expr} {m : Env → M D} {g : D → Env → M Env} {pos : Pos} (he : GE B E X e m) (hg : GG B E X tg g) (hs : swapsWithSole [tg] e pos.line X.env = pure false) (hw : swappedStores [tg] e X.env = pure none) (h1 : (assignEach [tg] X.env).map (·.2) = [assign tg X.env]) : GS B E X (.Assign [tg] e pos) (sAsg m g) := by
  refine PSmono (ps_asg he hg hs hw h1) fun Dn σ H ⟨w, env, S, hw, rs, re, h⟩ => ?_
  refine ⟨w, env, S, hw, rs, re, h.bnd.imp fun w1 S1 d l1 rs1 h1 v rv => ?_⟩
  exact ⟨w1, env, S1, d, rfl, rs1, re.mono l1, rv, h1.bnd.imp fun w2 S2 env2 l2 rs2 h2 σ2 re2 => Po.ret h2 rs2 σ2 re2⟩
def sPar2 (i j : Nat) (ms : Env → M (List D)) : Env → M Fl := fun env => bnd (ms env) fun
  | [d, e] => ret (.nx ((env.set i (some d)).set j (some e)))
  | _ => stuck
theorem gs_par2 {i j : Nat} {x y : Str} {a b : Expr} {ms : Env → M (List D)} {px py pt pos : Pos} {kt k2 : Nat} {pt2 : Pos} (hc : X.calm = true) (hN : X.N.Nodup) (hi : X.N[i]? = some x) (hj : X.N[j]? = some y) (hij : i ≠ j)
    (hx : X.env.scope.names.lookup x = some .local) (hy : X.env.scope.names.lookup y = some .local) (ha : GA B E X [a, b] ms)
    (hw : swappedStores [.Tuple [.Name x px, .Name y py] kt pt] (.Tuple [a, b] k2 pt2) X.env = pure (some [x, y])) :
    GS B E X (.Assign [.Tuple [.Name x px, .Name y py] kt pt] (.Tuple [a, b] k2 pt2) pos) (sPar2 i j ms) := by
  refine PSmono (ps_par hc hN hi hj hij hx hy ha hw) fun Dn σ H ⟨w, env, S, hw, rs, re, h⟩ => ?_
  refine ⟨w, env, S, hw, rs, re, h.bnd.imp fun w1 S1 ds l1 rs1 h1 vs rvs => ?_⟩
  split at h1
  · rename_i d e
    simp only [Rvs] at rvs
    obtain ⟨v, _, rfl, r1, u, _, rfl, r2, rfl⟩ := rvs
    exact ⟨v, u, rfl, Po.ret h1 rs1 _ (((re.mono l1).set i r1).set j r2)⟩
  · exact h1.elim
def sPar3 (i j l : Nat) (ms : Env → M (List D)) : Env → M Fl := fun env => bnd (ms env) fun
  | [d, e, f] => ret (.nx (((env.set i (some d)).set j (some e)).set l (some f)))
  | _ => stuck
theorem gs_par3 {i j l : Nat} {x y z : Str} {a b c : Expr} {ms : Env → M (List D)} {px py pz pt pos : Pos} {kt k2 : Nat} {pt2 : Pos} (hc : X.calm = true) (hN : X.N.Nodup) (hi : X.N[i]? = some x) (hj : X.N[j]? = some y) (hl : X.N[l]? = some z) (hij : i ≠ j) (hil : i ≠ l) (hjl : j ≠ l)
    (hx : X.env.scope.names.lookup x = some .local) (hy : X.env.scope.names.lookup y = some .local) (hz : X.env.scope.names.lookup z = some .local) (ha : GA B E X [a, b, c] ms)
    (hw : swappedStores [.Tuple [.Name x px, .Name y py, .Name z pz] kt pt] (.Tuple [a, b, c] k2 pt2) X.env = pure (some [x, y, z])) :
    GS B E X (.Assign [.Tuple [.Name x px, .Name y py, .Name z pz] kt pt] (.Tuple [a, b, c] k2 pt2) pos) (sPar3 i j l ms) := by
  refine PSmono (ps_par3 hc hN hi hj hl hij hil hjl hx hy hz ha hw) fun Dn σ H ⟨w, env, S, hw, rs, re, h⟩ => ?_
  refine ⟨w, env, S, hw, rs, re, h.bnd.imp fun w1 S1 ds l1 rs1 h1 vs rvs => ?_⟩
  split at h1
  · simp only [Rvs] at rvs
    obtain ⟨v, _, rfl, r1, u, _, rfl, r2, t, _, rfl, r3, rfl⟩ := rvs
    exact ⟨v, u, t, rfl, Po.ret h1 rs1 _ ((((re.mono l1).set i r1).set j r2).set l r3)⟩
  · exact h1.elim

/-! ### while -/
def wLoop (c : Env → M Bool) (b : Env → M Fl) : Nat → Env → M Fl
  | 0, _ => stuck
  | n + 1, env => bnd (c env) fun k => if k then bnd (b env) fun
      | .nx env => wLoop c b n env
      | .ct env => wLoop c b n env
      | .bk env => ret (.nx env)
      | .rt d => ret (.rt d)
    else ret (.nx env)
theorem gs_while {c : Expr} {body : List Stmt} {mc : Env → M Bool} {mb : Env → M Fl} {pos : Pos} (n : Nat) (hp : PassesOwn (model X.prog X.w) X.A X.env X.xe) (hc : GT B E X c mc) (hb : GSs B E X body mb) : GS B E X (.While c body [] pos) (wLoop mc mb n) := by
  refine PSmono (ps_while hp hc hb) fun Dn σ H ⟨w, env, S, hw, rs, re, h⟩ => ?_
  refine ⟨fun m σ H => ∃ w env S, w.H = H ∧ RS B w S ∧ RE B w env σ ∧ Po B E w (wLoop mc mb m env S) (FlK B Dn), ⟨n, w, env, S, hw, rs, re, h⟩, ?_⟩
  rintro m σ H ⟨w, env, S, hw, rs, re, h⟩
  cases m with
  | zero => exact h.elim
  | succ m =>
    refine ⟨w, env, S, hw, rs, re, Po.imp (Po.bnd h) fun w1 S1 k l1 rs1 h1 => ?_⟩
    cases k with
    | false => exact Po.ret (a := Fl.nx env) h1 rs1 σ (re.mono l1)
    | true =>
      refine ⟨fun σ' H' => ∃ w env S, w.H = H' ∧ RS B w S ∧ RE B w env σ' ∧ Po B E w (wLoop mc mb m env S) (FlK B Dn), fun σ' H' q => ⟨m, Nat.lt_succ_self m, q⟩, ?_⟩
      refine ⟨w1, env, S1, rfl, rs1, re.mono l1, Po.imp (Po.bnd h1) fun w2 S2 fl l2 rs2 h2 => ?_⟩
      cases fl with
      | nx env2 => exact fun σ2 re2 => ⟨w2, env2, S2, rfl, rs2, re2, h2⟩
      | ct env2 => exact fun σ2 re2 => ⟨w2, env2, S2, rfl, rs2, re2, h2⟩
      | bk env2 => exact fun σ2 re2 => Po.ret (a := Fl.nx env2) h2 rs2 σ2 re2
      | rt d => exact fun v rv => Po.ret (a := Fl.rt d) h2 rs2 v rv
end
end G
end
section
/-! G6: what is walked; for; list comprehensions. -/
namespace G
open PySem L2

inductive Itr where
  | lst (i : Nat) | tup (ds : List D) | str (cs : List Nat) | rng (lo c : Int) (n : Nat)
  | enl (i : Nat) | ent (ds : List D) | ens (cs : List Nat)
  | zip (a b : D)
  | rev (i : Nat) (n : Nat) | revt (ds : List D)
  deriving Inhabited
/-- a sequence's item at a place: none: stuck; some none: it ends -/
def seqI (S : Sto) (d : D) (i : Nat) : Option (Option D) := match d with
  | .ref p => match lstAt S p with
    | some ds => some ds[i]?
    | none => none
  | .tup ds => some ds[i]?
  | _ => none
def nextI (S : Sto) (it : Itr) (i : Nat) : Option (Option D) := match it with
  | .lst p => match lstAt S p with
    | some ds => some ds[i]?
    | none => none
  | .tup ds => some ds[i]?
  | .str cs => some (match cs[i]? with | some c => some (.str [c]) | none => none)
  | .rng lo c n => some (if Nat.blt i n then some (.int (lo + (i : Int) * c)) else none)
  | .enl p => match lstAt S p with
    | some ds => some (match ds[i]? with | some d => some (.tup [.int i, d]) | none => none)
    | none => none
  | .ent ds => some (match ds[i]? with | some d => some (.tup [.int i, d]) | none => none)
  | .ens cs => some (match cs[i]? with | some c => some (.tup [.int i, .str [c]]) | none => none)
  | .zip a b => match seqI S a i, seqI S b i with
    | some (some x), some (some y) => some (some (.tup [x, y]))
    | some _, some _ => some none
    | _, _ => none
  | .rev p n => match lstAt S p with
    | some ds => if ds.length = n then some (if Nat.blt i n then ds[n - 1 - i]? else none) else none
    | none => none
  | .revt ds => some (if Nat.blt i ds.length then ds[ds.length - 1 - i]? else none)

section
variable (B : Tb) (E : XK) (X : Cx)
def ItOk (w0 : Wd) (it : Itr) (J : It) : Prop := ∀ w S (i : Nat), w0.le w → RS B w S → match nextI S it i with
  | none => True
  | some none => J.stop i w.H
  | some (some d) => J.go i w.H ∧ ∀ x H', J.yld i w.H x H' → ∃ w', w.le w' ∧ w'.H = H' ∧ RS B w' S ∧ Rv B w' d x
def gI (m : Env → M Itr) : TI := fun σ H R => ∃ w env S, w.H = H ∧ RS B w S ∧ RE B w env σ ∧ Po B E w (m env S) fun w1 _ it => ∀ J, ItOk B w1 it J → R J w1.H
abbrev GI (tg e : Expr) (m : Env → M Itr) : Prop := PI X tg e (gI B E m)
end
section
variable {B : Tb} {E : XK} {X : Cx} {w : Wd} {S : Sto}
theorem PImono {tg e : Expr} {t t' : TI} (h : PI X tg e t) (k : ∀ σ H R, t' σ H R → t σ H R) : PI X tg e t' := ⟨fun pins s σ H R I q => h.run pins s σ H R I (k σ H R q)⟩
theorem lst_sq {i : Nat} {ds : List D} (rs : RS B w S) (h : lstAt S i = some ds) : i < w.n ∧ ∃ vs, SqL B.K w.H (w.ρ i) vs ∧ Rvs B w ds vs := by
  refine ⟨?_, lstAt_sq rs h⟩
  unfold lstAt at h
  split at h
  · rename_i e; exact (rs.cell _ _ e).1
  · rename_i e; exact (rs.cell _ _ e).1
  · cases h
theorem itOk_lst {w0 : Wd} {p : Nat} (hp : p < w0.n) : ItOk B w0 (.lst p) (Itl B.K (w0.ρ p)) := by
  intro w S i l rs
  show match (match lstAt S p with | some ds => some ds[i]? | none => none) with
    | none => True
    | some none => (Itl B.K (w0.ρ p)).stop i w.H
    | some (some d) => (Itl B.K (w0.ρ p)).go i w.H ∧ ∀ x H', (Itl B.K (w0.ρ p)).yld i w.H x H' → ∃ w', w.le w' ∧ w'.H = H' ∧ RS B w' S ∧ Rv B w' d x
  rw [← l.ag p hp]
  split
  · trivial
  · rename_i e
    split at e
    · rename_i ds el
      obtain ⟨_, vs, sq, q⟩ := lst_sq rs el
      refine ⟨vs, sq, ?_⟩
      have : ds[i]? = none := by simpa using e
      rw [List.getElem?_eq_none_iff] at this
      rw [q.length]; exact this
    · cases e
  · rename_i d e
    split at e
    · rename_i ds el
      obtain ⟨_, vs, sq, q⟩ := lst_sq rs el
      have ed : ds[i]? = some d := by simpa using e
      obtain ⟨v, ev, rv⟩ := q.get ed
      refine ⟨⟨vs, v, sq, ev⟩, fun x H' ⟨hH, hx⟩ => ⟨w, .refl w, hH.symm, rs, ?_⟩⟩
      have := hx vs sq
      rw [ev] at this; cases this
      exact rv
    · cases e
theorem tupAt_inj {a : Addr} {vs us : List V} (t : TupAt B w a vs) (q : SqT B.K w.H a us) (hb : ∀ o, w.H a = some o → (B.K.lookup a).isNone) : us = vs := by
  rcases t with t | ⟨o, its, n, e1, e2, e3, e4, e5⟩
  · rcases q with (q | ⟨ob, q⟩) | ⟨o', its', n', f1, f2, f3, f4, f5⟩
    · rw [t] at q; cases q; rfl
    · rw [t] at q; cases q
    · have := hb _ t
      rw [f1] at this; cases this
  · rcases q with (q | ⟨ob, q⟩) | ⟨o', its', n', f1, f2, f3, f4, f5⟩
    · have := hb _ q
      rw [e1] at this; cases this
    · have := hb _ q
      rw [e1] at this; cases this
    · rw [e1] at f1; cases f1
      rw [e3] at f3; cases f3
      exact Vals.inj f5 e5
theorem itOk_tup {w0 : Wd} {a : Addr} {ds : List D} {vs : List V} (t : TupAt B w0 a vs) (q : Rvs B w0 ds vs) : ItOk B w0 (.tup ds) (Itt B.K a) := by
  intro w S i l rs
  show match some ds[i]? with
    | none => True
    | some none => (Itt B.K a).stop i w.H
    | some (some d) => (Itt B.K a).go i w.H ∧ ∀ x H', (Itt B.K a).yld i w.H x H' → ∃ w', w.le w' ∧ w'.H = H' ∧ RS B w' S ∧ Rv B w' d x
  have t' := (t.mono l).sq
  have q' := q.mono l
  split
  · trivial
  · rename_i e
    have e' : ds[i]? = none := by simpa using e
    rw [List.getElem?_eq_none_iff] at e'
    exact ⟨vs, t', by rw [q'.length]; exact e'⟩
  · rename_i d e
    have ed : ds[i]? = some d := by simpa using e
    obtain ⟨v, ev, rv⟩ := q'.get ed
    refine ⟨⟨vs, v, t', ev⟩, fun x H' ⟨hH, hx⟩ => ⟨w, .refl w, hH.symm, rs, ?_⟩⟩
    have := hx vs t'
    rw [ev] at this; cases this
    exact rv
theorem itOk_str {w0 : Wd} {cs : List Nat} : ItOk B w0 (.str cs) (Its ⟨cs.toArray⟩) := by
  intro w S i l rs
  show match some (match cs[i]? with | some c => some (D.str [c]) | none => none) with
    | none => True
    | some none => (Its ⟨cs.toArray⟩).stop i w.H
    | some (some d) => (Its ⟨cs.toArray⟩).go i w.H ∧ ∀ x H', (Its ⟨cs.toArray⟩).yld i w.H x H' → ∃ w', w.le w' ∧ w'.H = H' ∧ RS B w' S ∧ Rv B w' d x
  cases e : cs[i]? with
  | none =>
    rw [List.getElem?_eq_none_iff] at e
    show cs.toArray.size ≤ i
    simpa using e
  | some c =>
    refine ⟨?_, fun x H' ⟨hH, c', h1, h2⟩ => ⟨w, .refl w, hH.symm, rs, ?_⟩⟩
    · have := (List.getElem?_eq_some_iff.mp e).1
      show i < cs.toArray.size
      simpa using this
    · have h1' : cs[i]? = some c' := by simpa using h1
      rw [e] at h1'; cases h1'
      subst h2
      simp only [Rv]
theorem itOk_rng {w0 : Wd} {lo : Int} {n : Nat} : ItOk B w0 (.rng lo 1 n) (L2.Itr lo n) := by
  intro w S i l rs
  show match some (if Nat.blt i n then some (D.int (lo + (i : Int) * 1)) else none) with
    | none => True
    | some none => (L2.Itr lo n).stop i w.H
    | some (some d) => (L2.Itr lo n).go i w.H ∧ ∀ x H', (L2.Itr lo n).yld i w.H x H' → ∃ w', w.le w' ∧ w'.H = H' ∧ RS B w' S ∧ Rv B w' d x
  by_cases h : i < n
  · have hb : Nat.blt i n = true := Nat.ble_eq_true_of_le h
    rw [if_pos hb]
    refine ⟨h, fun x H' ⟨hH, hx⟩ => ⟨w, .refl w, hH.symm, rs, ?_⟩⟩
    subst hx
    simp only [Rv, Int.mul_one]
  · have hb : ¬ Nat.blt i n = true := fun z => h (Nat.le_of_ble_eq_true z)
    rw [if_neg hb]
    exact Nat.le_of_not_lt h
theorem itOk_rngC {w0 : Wd} {lo c : Int} {n : Nat} : ItOk B w0 (.rng lo c n) (Itc lo c n) := by
  intro w S i l rs
  show match some (if Nat.blt i n then some (D.int (lo + (i : Int) * c)) else none) with
    | none => True
    | some none => (Itc lo c n).stop i w.H
    | some (some d) => (Itc lo c n).go i w.H ∧ ∀ x H', (Itc lo c n).yld i w.H x H' → ∃ w', w.le w' ∧ w'.H = H' ∧ RS B w' S ∧ Rv B w' d x
  by_cases h : i < n
  · have hb : Nat.blt i n = true := Nat.ble_eq_true_of_le h
    rw [if_pos hb]
    refine ⟨h, fun x H' ⟨hH, hx⟩ => ⟨w, .refl w, hH.symm, rs, ?_⟩⟩
    subst hx
    simp only [Rv]
  · have hb : ¬ Nat.blt i n = true := fun z => h (Nat.le_of_ble_eq_true z)
    rw [if_neg hb]
    exact Nat.le_of_not_lt h

/-! ### sources -/
def mIt : D → M Itr
  | .ref i => fun S => match lstAt S i with
    | some _ => some (.ok (.lst i) S)
    | none => none
  | .tup ds => ret (.tup ds)
  | .str cs => ret (.str cs)
  | _ => stuck
theorem gi_any {tg e : Expr} {m : Env → M D} (hK : X.K = B.K) (he : GE B E X e m) : GI B E X tg e fun env => bnd (m env) mIt := by
  refine ⟨fun pins s σ H R I ⟨w, env, S, hw, rs, re, h⟩ => ?_⟩
  have h0 : Po B E w (bnd (m env) mIt S) fun w1 _ it => ∀ J, ItOk B w1 it J → R J w1.H := h
  match em : m env S with
  | none => rw [bnd_none em] at h0; exact h0.elim
  | some (.exc x S1) =>
    refine (pi_str he).run pins s σ H R I ⟨w, env, S, hw, rs, re, ?_⟩
    rw [bnd_exc em] at h0; rw [em]; exact h0
  | some (.ok d S1) =>
    have h' := h0
    rw [bnd_ok em] at h'
    unfold mIt at h'
    split at h'
    · rename_i i
      refine (pi_list he).run pins s σ H R I ⟨w, env, S, hw, rs, re, ?_⟩
      rw [em]
      intro w1 l1 rs1 v rv
      obtain ⟨hi, rfl⟩ := rv_ref rv
      split at h'
      · rename_i ds el
        obtain ⟨_, vs, sq, q⟩ := lst_sq rs1 el
        refine ⟨_, rfl, ⟨vs, by rw [hK]; exact sq⟩, ?_⟩
        rw [hK]
        exact h' w1 l1 rs1 _ (itOk_lst hi)
      · exact h'.elim
    · rename_i ds
      refine (pi_tup he).run pins s σ H R I ⟨w, env, S, hw, rs, re, ?_⟩
      rw [em]
      intro w1 l1 rs1 v rv
      obtain ⟨a, vs, rfl, t, q⟩ := rv_tup rv
      refine ⟨a, rfl, ⟨vs, by rw [hK]; exact t.sq⟩, ?_⟩
      rw [hK]
      exact h' w1 l1 rs1 _ (itOk_tup t q)
    · rename_i cs
      refine (pi_str he).run pins s σ H R I ⟨w, env, S, hw, rs, re, ?_⟩
      rw [em]
      intro w1 l1 rs1 v rv
      simp only [Rv] at rv
      exact ⟨_, rv, h' w1 l1 rs1 _ itOk_str⟩
    · exact h'.elim
def r62 (i : Int) : Bool := decide (-(2 ^ 62) ≤ i) && decide (i < 2 ^ 62)
def mRng : List D → M Itr
  | [.int j] => fun S => if r62 j then some (.ok (.rng 0 1 j.toNat) S) else none
  | [.int i, .int j] => fun S => if r62 i && r62 j then some (.ok (.rng i 1 (j - i).toNat) S) else none
  | _ => stuck
theorem gi_range1 {tg a : Expr} {ms : Env → M (List D)} {p pos : Pos} (hg : Gl X "range") (hm : X.mg "range" = none) (ha : GA B E X [a] ms) (hs : starEach [a] X.env = [(false, eval a X.env)]) : GI B E X tg (.Call (.Name "range" p) [a] [] pos) fun env => bnd (ms env) fun
    | [.int j] => fun S => if r62 j then some (.ok (.rng 0 1 j.toNat) S) else none
    | _ => stuck := by
  refine PImono (pi_range1 hg hm ha hs) fun σ H R ⟨w, env, S, hw, rs, re, h⟩ => ?_
  refine ⟨w, env, S, hw, rs, re, h.bnd.imp fun w1 S1 ds l1 rs1 h1 vs rvs => ?_⟩
  split at h1
  · rename_i j
    simp only [Rvs, Rv] at rvs
    obtain ⟨v, _, rfl, rfl, rfl⟩ := rvs
    split at h1
    · rename_i hj
      unfold r62 at hj
      rw [Bool.and_eq_true] at hj
      exact ⟨j, rfl, of_decide_eq_true hj.1, of_decide_eq_true hj.2, Po.ret (S := S1) h1 rs1 _ itOk_rng⟩
    · exact h1.elim
  · exact h1.elim
theorem gi_range2 {tg a b : Expr} {ms : Env → M (List D)} {p pos : Pos} (hg : Gl X "range") (hm : X.mg "range" = none) (ha : GA B E X [a, b] ms) (hs : starEach [a, b] X.env = [(false, eval a X.env), (false, eval b X.env)]) (hs2 : starEach [b] X.env = [(false, eval b X.env)]) : GI B E X tg (.Call (.Name "range" p) [a, b] [] pos) fun env => bnd (ms env) fun
    | [.int i, .int j] => fun S => if r62 i && r62 j then some (.ok (.rng i 1 (j - i).toNat) S) else none
    | _ => stuck := by
  refine PImono (pi_range2 hg hm ha hs hs2) fun σ H R ⟨w, env, S, hw, rs, re, h⟩ => ?_
  refine ⟨w, env, S, hw, rs, re, h.bnd.imp fun w1 S1 ds l1 rs1 h1 vs rvs => ?_⟩
  split at h1
  · rename_i i j
    simp only [Rvs, Rv] at rvs
    obtain ⟨v, _, rfl, rfl, u, _, rfl, rfl, rfl⟩ := rvs
    split at h1
    · rename_i hj
      unfold r62 at hj
      rw [Bool.and_eq_true, Bool.and_eq_true, Bool.and_eq_true] at hj
      exact ⟨i, j, rfl, ⟨of_decide_eq_true hj.1.1, of_decide_eq_true hj.1.2, of_decide_eq_true hj.2.1, of_decide_eq_true hj.2.2⟩, Po.ret (S := S1) h1 rs1 _ itOk_rng⟩
    · exact h1.elim
  · exact h1.elim

/-! ### for -/
def fLoop (it : Itr) (g : D → Env → M Env) (b : Env → M Fl) : Nat → Nat → Env → M Fl
  | 0, _, _ => stuck
  | n + 1, i, env => fun S => match nextI S it i with
    | none => none
    | some none => some (.ok (.nx env) S)
    | some (some d) => bnd (g d env) (fun env => bnd (b env) fun
      | .nx env => fLoop it g b n (i + 1) env
      | .ct env => fLoop it g b n (i + 1) env
      | .bk env => ret (.nx env)
      | .rt d => ret (.rt d)) S
def sFor (n : Nat) (mi : Env → M Itr) (g : D → Env → M Env) (b : Env → M Fl) : Env → M Fl := fun env => bnd (mi env) fun it => fLoop it g b n 0 env
theorem gs_for {tg iter : Expr} {body : List Stmt} {mi : Env → M Itr} {g : D → Env → M Env} {mb : Env → M Fl} {pos : Pos} (n : Nat) (hp : PassesOwn (model X.prog X.w) X.A X.env X.xe) (hc : X.calm = true) (hi : GI B E X tg iter mi) (hg : GG B E X tg g) (hb : GSs B E X body mb) (hs : ∀ x, foldedSetIterable iter X.env x = pure x) :
    GS B E X (.For tg iter body [] pos) (sFor n mi g mb) := by
  refine PSmono (ps_for hp hc hi hg hb hs) fun Dn σ H ⟨w, env, S, hw, rs, re, h⟩ => ?_
  refine ⟨w, env, S, hw, rs, re, h.bnd.imp fun w1 S1 it l1 rs1 h1 J hJ => ?_⟩
  refine ⟨fun i m σ H => ∃ w env S, w1.le w ∧ w.H = H ∧ RS B w S ∧ RE B w env σ ∧ Po B E w (fLoop it g mb m i env S) (FlK B Dn), ⟨n, w1, env, S1, .refl w1, rfl, rs1, re.mono l1, h1⟩, ?_⟩
  rintro i m σ H ⟨w2, env2, S2, l2, hw2, rs2, re2, h2⟩
  subst hw2
  cases m with
  | zero => exact h2.elim
  | succ m =>
    have hj := hJ w2 S2 i l2 rs2
    have h3 : Po B E w2 (match nextI S2 it i with
      | none => none
      | some none => some (.ok (.nx env2) S2)
      | some (some d) => bnd (g d env2) (fun env => bnd (mb env) fun
        | .nx env => fLoop it g mb m (i + 1) env
        | .ct env => fLoop it g mb m (i + 1) env
        | .bk env => ret (.nx env)
        | .rt d => ret (.rt d)) S2) (FlK B Dn) := h2
    match en : nextI S2 it i with
    | none => rw [en] at h3; exact h3.elim
    | some none =>
      rw [en] at hj h3
      exact .inl ⟨hj, Po.ret (a := Fl.nx env2) h3 rs2 σ re2⟩
    | some (some d) =>
      rw [en] at hj h3
      refine .inr ⟨hj.1, fun σ' H' => ∃ w env S, w1.le w ∧ w.H = H' ∧ RS B w S ∧ RE B w env σ' ∧ Po B E w (fLoop it g mb m (i + 1) env S) (FlK B Dn), fun σ' H' q => ⟨m, Nat.lt_succ_self m, q⟩, fun x H' hy => ?_⟩
      obtain ⟨w3, l3, hw3, rs3, rx⟩ := hj.2 x H' hy
      refine ⟨w3, env2, S2, d, hw3, rs3, re2.mono l3, rx, Po.imp (Po.bnd (Po.le l3 h3)) fun w4 S4 env4 l4 rs4 h4 σ4 re4 => ?_⟩
      refine ⟨w4, env4, S4, rfl, rs4, re4, Po.imp (Po.bnd h4) fun w5 S5 fl l5 rs5 h5 => ?_⟩
      have l15 : w1.le w5 := l2.trans (l3.trans (l4.trans l5))
      cases fl with
      | nx env5 => exact fun σ5 re5 => ⟨w5, env5, S5, l15, rfl, rs5, re5, h5⟩
      | ct env5 => exact fun σ5 re5 => ⟨w5, env5, S5, l15, rfl, rs5, re5, h5⟩
      | bk env5 => exact fun σ5 re5 => Po.ret (a := Fl.nx env5) h5 rs5 σ5 re5
      | rt d => exact fun v rv => Po.ret (a := Fl.rt d) h5 rs5 v rv
end
end G
end
section
/-! G7: list comprehensions. -/
namespace G
open PySem L2

def noX {α : Type} (m : M α) : M α := fun S => match m S with
  | some (.ok a S') => some (.ok a S')
  | _ => none
abbrev E0 : XK := fun _ _ _ => False
section
variable {B : Tb} {E E' : XK} {X : Cx} {w : Wd} {S : Sto} {α : Type}
theorem Po.noX {m : M α} {P : Wd → Sto → α → Prop} (h : Po B E w (noX m S) P) : Po B E' w (m S) P := by
  unfold G.noX at h
  match e : m S with
  | none => rw [e] at h; exact h.elim
  | some (.exc x S') => rw [e] at h; exact h.elim
  | some (.ok a S') => rw [e] at h; exact h
/-! ### targets that keep to their own slots -/
def gGo (B : Tb) (E : XK) (vs : List Nat) (g : D → Env → M Env) : TG := fun v σ H Q => ∃ w env S d, w.H = H ∧ RS B w S ∧ RE B w env σ ∧ Rv B w d v ∧ Po B E w (g d env S) fun w' _ env' => ∀ σ', RE B w' env' σ' → wipe σ' vs = wipe σ vs → Q σ' w'.H
def gGso (B : Tb) (E : XK) (vs : List Nat) (g : List D → Env → M Env) : TGs := fun us σ H Q => ∃ w env S ds, w.H = H ∧ RS B w S ∧ RE B w env σ ∧ Rvs B w ds us ∧ Po B E w (g ds env S) fun w' _ env' => ∀ σ', RE B w' env' σ' → wipe σ' vs = wipe σ vs → Q σ' w'.H
abbrev GGo (B : Tb) (E : XK) (vs : List Nat) (X : Cx) (e : Expr) (g : D → Env → M Env) : Prop := PG X e (gGo B E vs g)
abbrev GGso (B : Tb) (E : XK) (vs : List Nat) (X : Cx) (es : List Expr) (g : List D → Env → M Env) : Prop := PGs X es (gGso B E vs g)
theorem wipe_set {σ : L2.St} {i : Nat} {o : Option V} : ∀ {vs : List Nat}, i ∈ vs → wipe (σ.set i o) vs = wipe σ vs
  | [], h => by cases h
  | v :: vs, h => by
    unfold wipe
    by_cases hv : i = v
    · subst hv
      by_cases hi : i ∈ vs
      · rw [wipe_set hi]
      · have : ∀ us : List Nat, i ∉ us → (wipe (σ.set i o) us) = (wipe σ us).set i o := by
          intro us
          induction us with
          | nil => intro _; rfl
          | cons u us ih =>
            intro hn
            unfold wipe
            rw [ih (fun z => hn (List.mem_cons_of_mem _ z)), List.set_comm _ _ (fun z => hn (by rw [z]; exact List.mem_cons_self))]
        rw [this vs hi, List.set_set]
    · have hi : i ∈ vs := by
        rcases List.mem_cons.mp h with z | z
        · exact absurd z hv
        · exact z
      rw [wipe_set hi]
theorem ggo_name {vs : List Nat} {i : Nat} {x : Str} {pos : Pos} (hN : X.N.Nodup) (hi : X.N[i]? = some x) (hx : Loc X.env.scope x) (hf : X.fn x = true ∨ X.env.scope.names.lookup x = some .local) (hv : i ∈ vs) : GGo B E vs X (.Name x pos) (tgN i) := by
  refine PGmono (pg_name hN hi hx hf) fun v σ H Q ⟨w, env, S, d, hw, rs, re, rd, h⟩ => ?_
  subst hw
  exact Po.ret h rs _ (re.set i rd) (wipe_set hv)
theorem ggso_nil {vs : List Nat} : GGso B E vs X [] tgsNil := by
  refine PGsmono pgs_nil fun us σ H Q ⟨w, env, S, ds, hw, rs, re, rd, h⟩ => ?_
  subst hw
  unfold tgsNil at h
  split at h
  · simp only [Rvs] at rd
    exact ⟨rd, Po.ret h rs _ re rfl⟩
  · exact h.elim
theorem ggso_cons {vs : List Nat} {e : Expr} {es : List Expr} {g : D → Env → M Env} {r : List D → Env → M Env} (h1 : GGo B E vs X e g) (h2 : GGso B E vs X es r) (hs : (assignEach (e :: es) X.env).map (·.2) = assign e X.env :: (assignEach es X.env).map (·.2)) : GGso B E vs X (e :: es) (tgsCons g r) := by
  refine PGsmono (pgs_cons h1 h2 hs) fun us σ H Q ⟨w, env, S, ds, hw, rs, re, rd, h⟩ => ?_
  unfold tgsCons at h
  split at h
  · exact h.elim
  · rename_i d ds
    simp only [Rvs] at rd
    obtain ⟨v, us, rfl, rv, rvs⟩ := rd
    refine ⟨v, us, rfl, w, env, S, d, hw, rs, re, rv, h.bnd.imp fun w1 S1 env1 l1 rs1 h1 σ1 re1 e1 => ?_⟩
    exact ⟨w1, env1, S1, ds, rfl, rs1, re1, rvs.mono l1, h1.imp fun w2 S2 env2 l2 rs2 h2 σ2 re2 e2 => h2 σ2 re2 (e2.trans e1)⟩
theorem ggo_tup {vs0 : List Nat} {es : List Expr} {k : Nat} {pos : Pos} {r : List D → Env → M Env} (hK : X.K = B.K) (hc : X.calm = true) (h : GGso B E vs0 X es r) (hst : (assignEach es X.env).findIdx? (·.1) = none) : GGo B E vs0 X (.Tuple es k pos) (tgT (assignEach es X.env).length r) := by
  refine ⟨fun pins s σ H v u Q I rv ⟨w, env, S, d, hw, rs, re, rd, q⟩ => ?_⟩
  unfold tgT at q
  split at q
  · rename_i ds
    obtain ⟨a, vs, rfl, t, rvs⟩ := rv_tup rd
    split at q
    · rename_i hl
      exact (pg_tup hc h rfl hst).run pins s σ H _ u Q I rv ⟨a, vs, rfl, by rw [hK, ← hw]; exact t.sq, by rw [rvs.length]; exact hl, w, env, S, ds, hw, rs, re, rvs, q⟩
    · exact q.elim
  · rename_i i
    obtain ⟨_, rfl⟩ := rv_ref rd
    split at q
    · rename_i ds el
      split at q
      · rename_i hl
        obtain ⟨vs, sq, rvs⟩ := lstAt_sq rs el
        exact (pg_unl hc h rfl hst).run pins s σ H _ u Q I rv ⟨_, vs, rfl, by rw [hK, ← hw]; exact sq, by rw [rvs.length]; exact hl, w, env, S, ds, hw, rs, re, rvs, q⟩
      · exact q.elim
    · exact q.elim
  · exact q.elim

/-! ### list comprehensions -/
def wipeE (env : Env) : List Nat → Env
  | [] => env
  | v :: vs => (wipeE env vs).set v none
theorem wipeE_length (env : Env) : ∀ vs : List Nat, (wipeE env vs).length = env.length
  | [] => rfl
  | v :: vs => by unfold wipeE; rw [List.length_set, wipeE_length env vs]
theorem RE.wipe {env : Env} {σ : L2.St} (r : RE B w env σ) : ∀ vs : List Nat, RE B w (wipeE env vs) (L2.wipe σ vs)
  | [] => r
  | v :: vs => by
    have ih := RE.wipe r vs
    unfold wipeE L2.wipe
    refine ⟨by rw [List.length_set, List.length_set]; exact ih.len, fun i d e => ?_⟩
    by_cases hi : v = i
    · subst hi
      by_cases hl : v < (wipeE env vs).length
      · rw [List.getElem?_set_self hl] at e; cases e
      · rw [List.getElem?_eq_none (by simpa using hl)] at e; cases e
    · rw [List.getElem?_set_ne hi] at e ⊢
      exact ih.at_ i d e
def mApp (k : Nat) (y : D) : M Unit := fun S => match S.get k with
  | some (.lst acc) => if lenOk (acc.length + 1) then some (.ok () (S.put k (.lst (acc ++ [y])))) else none
  | _ => none
def lcLoop (it : Itr) (g : D → Env → M Env) (t : Env → M Bool) (e : Env → M D) (k : Nat) (env : Env) : Nat → Nat → M Unit
  | 0, _ => stuck
  | n + 1, i => fun S => match nextI S it i with
    | none => none
    | some none => some (.ok () S)
    | some (some d) => bnd (noX (g d env)) (fun env' => bnd (noX (t env')) fun b => if b then bnd (noX (e env')) (fun y => bnd (mApp k y) fun _ => lcLoop it g t e k env n (i + 1)) else lcLoop it g t e k env n (i + 1)) S
def mLc (n : Nat) (vs : List Nat) (mi : Env → M Itr) (g : D → Env → M Env) (t : Env → M Bool) (e : Env → M D) : Env → M D := fun env => bnd (mi env) fun it S =>
  bnd (lcLoop it g t e S.n (wipeE env vs) n 0) (fun _ => ret (.ref S.n)) (S.push (.lst []))
def mYes : Env → M Bool := fun _ => ret true
abbrev blkCx (X : Cx) (scope : Scope) (s : Shared) (H : Hp) (C : Addr) (cl : List (Str × Addr)) (fp : List Addr) : Cx := X.blk s H scope (compEnvC scope cl C X.env) fp
abbrev GTs (B : Tb) (E : XK) (X : Cx) (es : List Expr) (m : Env → M Bool) : Prop := PTs X es (gT B E m)
theorem gts_nil : GTs B E X [] mYes := ⟨fun pins s σ H Q I ⟨w, env, S, hw, rs, re, h⟩ => by subst hw; exact pts_nil.run pins s σ _ Q I (Po.ret (a := true) h rs)⟩
theorem gts_one {c : Expr} {m : Env → M Bool} (h : GT B E X c m) : GTs B E X [c] m := pts_one h
theorem push_ref {ds : List D} {vs : List V} (rs : RS B w S) (r : Rvs B w ds vs) {p : Addr} (hp : w.H p = none) :
    w.le (w.new p (.lst vs)) ∧ RS B (w.new p (.lst vs)) (S.push (.lst ds)) ∧ S.n < (w.new p (.lst vs)).n ∧ (w.new p (.lst vs)).ρ S.n = p := by
  have l := Wd.new_le (o := .lst vs) hp
  refine ⟨l, rs.new hp ⟨vs, rfl, r.mono l⟩, by rw [← rs.len]; exact Nat.lt_succ_self _, ?_⟩
  show (if S.n = w.n then p else w.ρ S.n) = p
  rw [if_pos rs.len.symm]
theorem gE_lc {n : Nat} {vs : List Nat} {mi : Env → M Itr} {g : D → Env → M Env} {t : Env → M Bool} {e : Env → M D} (σ : L2.St) (H : Hp) (Q : VK) (h : gE B E (mLc n vs mi g t e) σ H Q) :
    tLc (gI B E mi) (gGo B E0 vs g) (gT B E0 t) (gE B E0 e) vs σ H Q := by
  obtain ⟨w, env, S, hw, rs, re, h⟩ := h
  refine ⟨w, env, S, hw, rs, re, h.bnd.imp fun w1 S1 it l1 rs1 h1 J hJ D hD => ?_⟩
  obtain ⟨l2, rs2, hk, hρ⟩ := push_ref (ds := []) (vs := []) rs1 .nil hD
  refine ⟨fun i m H => ∃ w S, w1.le w ∧ S1.n < w.n ∧ w.ρ S1.n = D ∧ w.H = H ∧ RS B w S ∧ Po B E w (bnd (lcLoop it g t e S1.n (wipeE env vs) m i) (fun _ => ret (.ref S1.n)) S) fun w' _ d => ∀ v, Rv B w' d v → Q v w'.H,
    ⟨n, w1.new D (.lst []), S1.push (.lst []), l2, hk, hρ, rfl, rs2, Po.le l2 h1⟩, ?_⟩
  rintro i m H ⟨w3, S3, l3, hk3, hρ3, hw3, rs3, h3⟩
  subst hw3
  cases m with
  | zero => exact h3.bnd.elim
  | succ m =>
    have hj := hJ w3 S3 i l3 rs3
    have h4 : Po B E w3 (match nextI S3 it i with
      | none => none
      | some none => some (.ok () S3)
      | some (some d) => bnd (noX (g d (wipeE env vs))) (fun env' => bnd (noX (t env')) fun b => if b then bnd (noX (e env')) (fun y => bnd (mApp S1.n y) fun _ => lcLoop it g t e S1.n (wipeE env vs) m (i + 1)) else lcLoop it g t e S1.n (wipeE env vs) m (i + 1)) S3)
        fun w1 S1_1 a => Po B E w1 (ret (.ref S1.n) S1_1) fun w' _ d => ∀ v, Rv B w' d v → Q v w'.H := h3.bnd
    match en : nextI S3 it i with
    | none => rw [en] at h4; exact h4.elim
    | some none =>
      rw [en] at hj h4
      refine .inl ⟨hj, ?_⟩
      have h5 := Po.ret (a := ()) h4 rs3
      exact Po.ret (a := G.D.ref S1.n) h5 rs3 _ (by simp only [Rv]; exact ⟨hk3, by rw [hρ3]⟩)
    | some (some d) =>
      rw [en] at hj h4
      refine .inr ⟨hj.1, fun H' => ∃ w S, w1.le w ∧ S1.n < w.n ∧ w.ρ S1.n = D ∧ w.H = H' ∧ RS B w S ∧ Po B E w (bnd (lcLoop it g t e S1.n (wipeE env vs) m (i + 1)) (fun _ => ret (.ref S1.n)) S) (fun w' _ d => ∀ v, Rv B w' d v → Q v w'.H), fun H' q => ⟨m, Nat.lt_succ_self m, q⟩, fun x H' hy => ?_⟩
      obtain ⟨w5, l5, hw5, rs5, rx⟩ := hj.2 x H' hy
      have re5 : RE B w5 (wipeE env vs) (wipe σ vs) := (re.mono (l1.trans (l3.trans l5))).wipe vs
      refine ⟨w5, wipeE env vs, S3, d, hw5, rs5, re5, rx, Po.imp (Po.noX (Po.bnd (Po.le l5 h4))) fun w6 S6 env6 l6 rs6 h6 σ6 re6 e6 => ?_⟩
      refine ⟨by rw [e6]; exact wipe_wipe, w6, env6, S6, rfl, rs6, re6, Po.imp (Po.noX (Po.bnd h6)) fun w7 S7 b l7 rs7 h7 => ?_⟩
      have fin : ∀ {w' S'}, w3.le w' → RS B w' S' → (Po B E w' (lcLoop it g t e S1.n (wipeE env vs) m (i + 1) S') fun w1 S1_1 a => Po B E w1 (ret (.ref S1.n) S1_1) fun w' _ d => ∀ v, Rv B w' d v → Q v w'.H) →
          ∃ w S, w1.le w ∧ S1.n < w.n ∧ w.ρ S1.n = D ∧ w.H = w'.H ∧ RS B w S ∧ Po B E w (bnd (lcLoop it g t e S1.n (wipeE env vs) m (i + 1)) (fun _ => ret (.ref S1.n)) S) (fun w' _ d => ∀ v, Rv B w' d v → Q v w'.H) := fun {w' S'} l' rs' hh => by
        refine ⟨w', S', l3.trans l', Nat.lt_of_lt_of_le hk3 l'.n, by rw [l'.ag _ hk3]; exact hρ3, rfl, rs', ?_⟩
        match er : lcLoop it g t e S1.n (wipeE env vs) m (i + 1) S', hh with
        | some (.ok a S''), hh => rw [bnd_ok er]; exact fun w2 l2 rs2 => hh w2 l2 rs2 w2 (.refl _) rs2
        | some (.exc x S''), hh => rw [bnd_exc er]; exact hh
      have l37 : w3.le w7 := l5.trans (l6.trans l7)
      cases b with
      | false => exact fin l37 rs7 h7
      | true =>
        refine ⟨w7, env6, S7, rfl, rs7, re6.mono l7, Po.imp (Po.noX (Po.bnd h7)) fun w8 S8 y l8 rs8 h8 v rv => ?_⟩
        have l38 : w3.le w8 := l37.trans l8
        have h9 := Po.bnd h8
        unfold mApp at h9
        split at h9
        · rename_i acc ea
          split at h9
          · rename_i hl
            obtain ⟨o, ho, us, rfl, q⟩ := rs8.at_ _ _ ea
            have hD8 : w8.ρ S1.n = D := by rw [l38.ag _ hk3]; exact hρ3
            have l9 := chg_le (o := .lst (us ++ [v])) rs8 ea
            have hc : Rc B (w8.chg S1.n (.lst (us ++ [v]))) (.lst (acc ++ [y])) (.lst (us ++ [v])) := ⟨_, rfl, (q.mono l9).app (.cons (rv.mono l9) .nil)⟩
            refine ⟨us, by rw [← hD8]; exact ho, ?_, ?_⟩
            · rw [q.length]; exact lenOk_iff hl
            · have := fin (l38.trans l9) (rs8.chg ea hc) (Po.chg h9 rs8 ea hc)
              have e9 : (w8.chg S1.n (.lst (us ++ [v]))).H = upd w8.H D (.lst (us ++ [v])) := by
                show upd w8.H (w8.ρ S1.n) _ = _
                rw [hD8]
              rw [e9] at this
              exact this
          · exact h9.elim
        · exact h9.elim
where
  wipe_wipe {σ : L2.St} {vs : List Nat} : wipe (wipe σ vs) vs = wipe σ vs := by
    have key : ∀ (us ws : List Nat), (∀ u ∈ us, u ∈ ws) → wipe (wipe σ ws) us = wipe σ ws := by
      intro us
      induction us with
      | nil => intro ws _; rfl
      | cons u us ih =>
        intro ws hs
        show (wipe (wipe σ ws) us).set u none = wipe σ ws
        rw [ih ws (fun x hx => hs x (List.mem_cons_of_mem _ hx))]
        have hu : u ∈ ws := hs u List.mem_cons_self
        clear ih hs
        induction ws with
        | nil => cases hu
        | cons z ws ih2 =>
          show ((wipe σ ws).set z none).set u none = (wipe σ ws).set z none
          by_cases hz : u = z
          · subst hz; rw [List.set_set]
          · rw [List.set_comm _ _ (fun q => hz q.symm)]
            have : u ∈ ws := by
              rcases List.mem_cons.mp hu with q | q
              · exact absurd q hz
              · exact q
            rw [ih2 this]
    exact key vs vs fun _ h => h
end
theorem ge_lc {n : Nat} {elt tg iter : Expr} {ifs : List Expr} {scope : Scope} {own : List (Str × Nat)} {pos : Pos} {mi : Env → M Itr} {g : D → Env → M Env} {t : Env → M Bool} {e : Env → M D} (hc : X.calm = true) (hN : X.N.Nodup) (hi : GI B E X tg iter mi) (ok : BlkOk X.N X.env.scope scope own)
    (hg : ∀ (s : Shared) (H : Hp) (C : Addr) (cl : List (Str × Addr)) (fp : List Addr), GGo B E0 (own.map (·.2)) (blkCx X scope s H C cl fp) tg g)
    (ht : ∀ (s : Shared) (H : Hp) (C : Addr) (cl : List (Str × Addr)) (fp : List Addr), GTs B E0 (blkCx X scope s H C cl fp) ifs t)
    (he : ∀ (s : Shared) (H : Hp) (C : Addr) (cl : List (Str × Addr)) (fp : List Addr), GE B E0 (blkCx X scope s H C cl fp) elt e)
    (hs : ∀ x, foldedSetIterable iter X.env x = pure x) : GE B E X (.ListComp elt [⟨tg, iter, ifs, 0⟩] scope pos) (mLc n (own.map (·.2)) mi g t e) :=
  PEmono (pe_lc hc hN hi ok hg ht he hs) gE_lc
theorem gs_setLc {n i : Nat} {y : Str} {py : Pos} {elt tg iter : Expr} {ifs : List Expr} {scope : Scope} {own : List (Str × Nat)} {pos spos : Pos} {mi : Env → M Itr} {g : D → Env → M Env} {t : Env → M Bool} {e : Env → M D} (hc : X.calm = true) (hN : X.N.Nodup) (hy : X.N[i]? = some y) (hyl : X.env.scope.names.lookup y = some .local)
    (hsw : swapsWith (.ListComp elt [⟨tg, iter, ifs, 0⟩] scope pos) (some (.Name y py)) spos.line X.env = pure true) (hi : GI B E X tg iter mi) (ok : BlkOk X.N X.env.scope scope own)
    (hg : ∀ (s : Shared) (H : Hp) (C : Addr) (cl : List (Str × Addr)) (fp : List Addr), GGo B E0 (own.map (·.2)) (blkCx X scope s H C cl fp) tg g)
    (ht : ∀ (s : Shared) (H : Hp) (C : Addr) (cl : List (Str × Addr)) (fp : List Addr), GTs B E0 (blkCx X scope s H C cl fp) ifs t)
    (he : ∀ (s : Shared) (H : Hp) (C : Addr) (cl : List (Str × Addr)) (fp : List Addr), GE B E0 (blkCx X scope s H C cl fp) elt e)
    (hs : ∀ x, foldedSetIterable iter X.env x = pure x) : GS B E X (.Assign [.Name y py] (.ListComp elt [⟨tg, iter, ifs, 0⟩] scope pos) spos) (sAsg (mLc n (own.map (·.2)) mi g t e) (tgN i)) := by
  refine PSmono (ps_setLc hc hN hy hyl hsw hi ok hg ht he hs) fun Dn σ H ⟨w, env, S, hw, rs, re, h⟩ => ?_
  refine gE_lc σ H _ ⟨w, env, S, hw, rs, re, h.bnd.imp fun w1 S1 d l1 rs1 h1 v rv => ?_⟩
  exact Po.ret (Po.bnd h1 |> fun z => Po.ret z rs1) rs1 _ ((re.mono l1).set i rv)
end G
end
section
/-! G8: how arguments come to parameters. -/
namespace G
open PySem L2

theorem forIn_app {α β : Type} {f : α → List α × β → Sem (ForInStep (List α × β))} : ∀ (l : List α) (s : List α) (e : β), (∀ pre x post, l = pre ++ x :: post → f x (s ++ pre, e) = pure (.yield (s ++ pre ++ [x], e))) → forIn l (s, e) f = pure (s ++ l, e)
  | [], s, e, _ => by simp
  | x :: l, s, e, h => by
    rw [List.forIn_cons]
    have h0 := h [] x l rfl
    rw [List.append_nil] at h0
    rw [h0, pure_bind]
    have := forIn_app l (s ++ [x]) e fun pre y post q => by
      have := h (x :: pre) y post (by rw [q]; rfl)
      simpa using this
    show forIn l (s ++ [x], e) f = _
    rw [this]
    simp
def dfS (slots : List (Str × Value)) : List (Str × Value) → List (Str × Value)
  | [] => slots
  | (n, d) :: r => dfS (if (slots.lookup n).isNone then slots ++ [(n, d)] else slots) r
theorem forIn_df {f : Str × Value → List (Str × Value) → Sem (ForInStep (List (Str × Value)))} (hf : ∀ x s, f x s = pure (.yield (if (s.lookup x.1).isNone then s ++ [(x.1, x.2)] else s))) : ∀ (l : List (Str × Value)) (s : List (Str × Value)), forIn l s f = pure (dfS s l)
  | [], s => by simp [dfS]
  | x :: l, s => by
    rw [List.forIn_cons, hf, pure_bind]
    show forIn l _ f = _
    rw [forIn_df hf l]
    rfl
theorem lookup_app {α : Type} {n : Str} : ∀ (a b : List (Str × α)), (a ++ b).lookup n = match a.lookup n with | some v => some v | none => b.lookup n
  | [], b => rfl
  | (k, v) :: a, b => by
    rw [List.cons_append, List.lookup_cons, List.lookup_cons]
    cases n == k with
    | true => rfl
    | false => exact lookup_app a b
theorem dfS_lookup {n : Str} : ∀ (l s : List (Str × Value)), (dfS s l).lookup n = match s.lookup n with | some v => some v | none => l.lookup n
  | [], s => by
    show s.lookup n = _
    cases s.lookup n <;> rfl
  | (k, d) :: l, s => by
    show (dfS (if (s.lookup k).isNone then s ++ [(k, d)] else s) l).lookup n = _
    rw [dfS_lookup l]
    cases hk : s.lookup k with
    | some v =>
      rw [if_neg (by simp)]
      cases hn : s.lookup n with
      | some _ => rfl
      | none =>
        rw [List.lookup_cons]
        have : (n == k) = false := beq_eq_false_iff_ne.mpr fun z => by rw [z, hk] at hn; cases hn
        rw [this]
    | none =>
      rw [if_pos (by simp), lookup_app]
      cases hn : s.lookup n with
      | some _ => rfl
      | none =>
        rw [List.lookup_cons, List.lookup_cons]
        cases n == k <;> rfl
def bindR (ps : List Str) (us : List Value) (kw : List (Str × Value)) (its : List Value) : List (Str × Value) :=
  ps.filterMap fun n => (match (ps.zip us ++ kw).lookup n with | some v => some v | none => ((ps.drop (ps.length - its.length)).zip its).lookup n).map (n, ·)
theorem bind_all {fd : FuncData} {us : List Value} {kw : List (Str × Value)} {A : List Arg} {dfl : List Expr} (hp : fd.params = ⟨[], A, none, [], [], none, dfl⟩) {ps : List Str} (hps : A.map (·.arg) = ps)
    (h1 : us.length ≤ ps.length) (h2 : ∀ pre x post, kw = pre ++ x :: post → ps.contains x.1 = true ∧ (ps.zip us ++ pre).lookup x.1 = none) :
    ∃ k : Option (Array Value) → Sem (List (Str × Value)), bindArgs fd ⟨us, kw⟩ = seqItems? fd.defaults >>= k ∧ ∀ o : Option (Array Value), (o.getD #[]).toList.length ≤ ps.length →
      (∀ n ∈ ps.take (ps.length - (o.getD #[]).toList.length), ((ps.zip us ++ kw).lookup n).isSome = true) → k o = pure (bindR ps us kw (o.getD #[]).toList) := by
  unfold bindArgs
  simp only [hp, List.map_nil, List.nil_append, hps, List.append_nil]
  rw [forIn_app (β := List (Str × Value)) kw (ps.zip us) [] (fun pre x post e => by
    obtain ⟨c1, c2⟩ := h2 pre x post e
    have c3 : (ps.contains x.fst || ([] : List Str).contains x.fst) = true := by rw [c1]; rfl
    simp only [c3, if_true, c2, Option.isSome_none, Bool.false_eq_true, if_false])]
  simp only [pure_bind]
  refine ⟨_, rfl, fun o ho hm => ?_⟩
  have g1 : ¬ (decide (us.length > ps.length) && (none : Option Arg).isNone) = true := by
    have : ¬ us.length > ps.length := by omega
    simp [this]
  simp only [Option.isNone_none, Bool.and_true, decide_eq_true_eq]
  rw [if_neg (by omega)]
  have d0 : (o.getD #[]).toList.length - ps.length = 0 := by omega
  simp only [d0, List.drop_zero]
  have mis : (List.filter (fun n => (List.lookup n (ps.zip us ++ kw)).isNone) (List.take (ps.length - (o.getD #[]).toList.length) ps)) = [] := by
    rw [List.filter_eq_nil_iff]
    intro n hn
    have := hm n hn
    cases q : List.lookup n (ps.zip us ++ kw) with
    | none => rw [q] at this; cases this
    | some v => simp
  simp only [mis, List.isEmpty_nil, Bool.not_true, Bool.false_eq_true, if_false]
  rw [forIn_df (fun x s => by
    show (if (List.lookup x.fst s).isNone = true then _ else _) = _
    split <;> rfl)]
  simp only [pure_bind, List.forIn_nil, List.isEmpty_nil, Bool.not_true, Bool.false_eq_true, if_false]
  simp only [dfS_lookup]
  rfl
inductive Sel where
  | p (i : Nat) | w (i : Nat) | d (i : Nat)
  deriving Inhabited
def Sel.get {α : Type} (us ws ds : List α) : Sel → Option α
  | .p i => us[i]?
  | .w i => ws[i]?
  | .d i => ds[i]?
def arr {α : Type} (sel : List Sel) (us ws ds : List α) : List α := sel.filterMap (Sel.get us ws ds)
def idxS (p : Str) : List Str → Option Nat
  | [] => none
  | k :: ks => if p = k then some 0 else match idxS p ks with
    | some i => some (i + 1)
    | none => none
def selAt (len n : Nat) (ks : List Str) (nd : Nat) (j : Nat) (p : Str) : Sel := if j < n then .p j else match idxS p ks with
  | some i => .w i
  | none => .d (j - (len - nd))
def selF (len n : Nat) (ks : List Str) (nd : Nat) : Nat → List Str → List Sel
  | _, [] => []
  | j, p :: ps => selAt len n ks nd j p :: selF len n ks nd (j + 1) ps
def selOf (ps : List Str) (n : Nat) (ks : List Str) (nd : Nat) : List Sel := selF ps.length n ks nd 0 ps
def bindOk (ps : List Str) (n : Nat) (ks : List Str) (nd : Nat) : Bool :=
  Nat.ble n ps.length && (Nat.ble nd ps.length && (decide ps.Nodup && (decide ks.Nodup && (ks.all (fun k => decide (k ∈ ps.drop n)) && (ps.take (ps.length - nd)).all fun p => decide (p ∈ ps.take n ++ ks)))))
theorem idxS_some {p : Str} : ∀ {ks : List Str} {i : Nat}, idxS p ks = some i → ks[i]? = some p
  | [], _, h => by cases h
  | k :: ks, i, h => by
    unfold idxS at h
    split at h
    · rename_i e; cases h; simp [e]
    · split at h
      · rename_i j e; cases h; simpa using idxS_some e
      · cases h
theorem idxS_none {p : Str} : ∀ {ks : List Str}, idxS p ks = none → p ∉ ks
  | [], _ => by simp
  | k :: ks, h => by
    unfold idxS at h
    split at h
    · cases h
    · rename_i hn
      split at h
      · cases h
      · rename_i e
        intro hm
        rcases List.mem_cons.mp hm with z | z
        · exact hn z
        · exact idxS_none e z
theorem lookup_none {α : Type} {p : Str} : ∀ {ps : List Str} {us : List α}, p ∉ ps → (ps.zip us).lookup p = none
  | [], _, _ => rfl
  | _ :: _, [], _ => rfl
  | k :: ps, u :: us, h => by
    rw [List.zip_cons_cons, List.lookup_cons]
    have : (p == k) = false := beq_eq_false_iff_ne.mpr fun z => h (by rw [z]; exact List.mem_cons_self)
    rw [this]
    exact lookup_none fun z => h (List.mem_cons_of_mem _ z)
theorem lookup_zip {α : Type} {p : Str} : ∀ {ps : List Str} {us : List α} {j : Nat}, ps.Nodup → ps[j]? = some p → (ps.zip us).lookup p = us[j]?
  | [], _, _, _, h => by simp at h
  | _ :: _, [], _, _, _ => by simp
  | k :: ps, u :: us, 0, nd, h => by
    simp at h; subst h
    rw [List.zip_cons_cons, List.lookup_cons]
    simp
  | k :: ps, u :: us, j + 1, nd, h => by
    simp at h
    rw [List.zip_cons_cons, List.lookup_cons]
    have hm : p ∈ ps := List.mem_of_getElem? h
    have : (p == k) = false := beq_eq_false_iff_ne.mpr fun z => (List.nodup_cons.mp nd).1 (z ▸ hm)
    rw [this]
    simpa using lookup_zip (List.nodup_cons.mp nd).2 h
theorem filterMap_zip {α : Type} {val : Str → Option α} : ∀ {ps : List Str} {vs : List α}, vs.length = ps.length → (∀ (j : Nat) (p : Str), ps[j]? = some p → ∃ v, val p = some v ∧ vs[j]? = some v) → ps.filterMap (fun n => (val n).map (n, ·)) = ps.zip vs
  | [], [], _, _ => rfl
  | [], _ :: _, h, _ => by simp at h
  | _ :: _, [], h, _ => by simp at h
  | p :: ps, v :: vs, h, q => by
    obtain ⟨v', e1, e2⟩ := q 0 p rfl
    simp at e2; subst e2
    rw [List.filterMap_cons, e1]
    show (p, v) :: _ = _
    rw [filterMap_zip (by simpa using h) fun j p hp => by simpa using q (j + 1) p (by simpa using hp)]
    rfl
theorem selF_get {len n : Nat} {ks : List Str} {nd : Nat} : ∀ {ps : List Str} {i j : Nat} {p : Str}, ps[j]? = some p → (selF len n ks nd i ps)[j]? = some (selAt len n ks nd (i + j) p)
  | [], _, _, _, h => by simp at h
  | q :: ps, i, 0, p, h => by simp at h; subst h; rfl
  | q :: ps, i, j + 1, p, h => by
    have := selF_get (len := len) (n := n) (ks := ks) (nd := nd) (ps := ps) (i := i + 1) (j := j) (p := p) (by simpa using h)
    show (selF len n ks nd (i + 1) ps)[j]? = _
    rw [this]
    congr 2
    omega
theorem selF_length {len n : Nat} {ks : List Str} {nd : Nat} : ∀ {ps : List Str} {i : Nat}, (selF len n ks nd i ps).length = ps.length
  | [], _ => rfl
  | _ :: ps, i => by show _ + 1 = _ + 1; rw [selF_length]
theorem arr_get {α : Type} {us ws ds : List α} : ∀ {sel : List Sel}, (∀ s ∈ sel, (Sel.get us ws ds s).isSome = true) → (arr sel us ws ds).length = sel.length ∧ ∀ (j : Nat) (s : Sel), sel[j]? = some s → (arr sel us ws ds)[j]? = Sel.get us ws ds s
  | [], _ => ⟨rfl, fun j s h => by simp at h⟩
  | s :: sel, h => by
    obtain ⟨v, hv⟩ := Option.isSome_iff_exists.mp (h s List.mem_cons_self)
    obtain ⟨h1, h2⟩ := arr_get (sel := sel) fun t ht => h t (List.mem_cons_of_mem _ ht)
    have e : arr (s :: sel) us ws ds = v :: arr sel us ws ds := by unfold arr; rw [List.filterMap_cons, hv]
    rw [e]
    refine ⟨by simp [h1], fun j t ht => ?_⟩
    cases j with
    | zero => simp at ht; subst ht; simp [hv]
    | succ j => simpa using h2 j t (by simpa using ht)
theorem bindR_arr {ps ks : List Str} {us ws its : List Value} (ok : bindOk ps us.length ks its.length = true) (hw : ws.length = ks.length) :
    bindR ps us (ks.zip ws) its = ps.zip (arr (selOf ps us.length ks its.length) us ws its) ∧ (arr (selOf ps us.length ks its.length) us ws its).length = ps.length := by
  unfold bindOk at ok
  simp only [Bool.and_eq_true, decide_eq_true_eq, List.all_eq_true] at ok
  obtain ⟨c1, c2, c3, c4, c5, c6⟩ := ok
  have c1 := Nat.le_of_ble_eq_true c1
  have c2 := Nat.le_of_ble_eq_true c2
  have val : ∀ (j : Nat) (p : Str), ps[j]? = some p → ∃ v, (match (ps.zip us ++ ks.zip ws).lookup p with | some v => some v | none => ((ps.drop (ps.length - its.length)).zip its).lookup p) = some v ∧ Sel.get us ws its (selAt ps.length us.length ks its.length j p) = some v := by
    intro j p hp
    have hj : j < ps.length := (List.getElem?_eq_some_iff.mp hp).1
    rw [lookup_app, lookup_zip c3 hp]
    by_cases h1 : j < us.length
    · have : us[j]? = some us[j] := by simp [h1]
      rw [this]
      refine ⟨us[j], rfl, ?_⟩
      unfold selAt; rw [if_pos h1]
      exact this
    · have : us[j]? = none := by simp; omega
      rw [this]
      unfold selAt; rw [if_neg h1]
      cases hk : idxS p ks with
      | some i =>
        have hi := idxS_some hk
        have hil : i < ks.length := (List.getElem?_eq_some_iff.mp hi).1
        rw [lookup_zip c4 hi]
        have hw' : ws[i]? = some (ws[i]'(by omega)) := by simp [hw, hil]
        rw [hw']
        exact ⟨_, rfl, hw'⟩
      | none =>
        have hn := idxS_none hk
        rw [lookup_none hn]
        have hge : ps.length - its.length ≤ j := by
          apply Nat.le_of_not_lt
          intro hlt
          have hm : p ∈ ps.take (ps.length - its.length) := List.mem_of_getElem? (i := j) (by rw [List.getElem?_take, if_pos hlt]; exact hp)
          rcases List.mem_append.mp (c6 p hm) with z | z
          · obtain ⟨i, hi, e⟩ := List.getElem_of_mem z
            have hi2 : i < us.length := by simp at hi; omega
            have e2 : ps[i]? = some p := by
              rw [← e]
              have : (ps.take us.length)[i]? = some ((ps.take us.length)[i]) := List.getElem?_eq_getElem hi
              rw [List.getElem?_take, if_pos hi2] at this
              exact this
            have := nodup_ix c3 e2 hp
            omega
          · exact hn z
        have hd : (ps.drop (ps.length - its.length))[j - (ps.length - its.length)]? = some p := by
          rw [List.getElem?_drop]
          have : ps.length - its.length + (j - (ps.length - its.length)) = j := by omega
          rw [this]; exact hp
        show ∃ v, ((ps.drop (ps.length - its.length)).zip its).lookup p = some v ∧ _
        rw [lookup_zip (c3.sublist (List.drop_sublist _ _)) hd]
        have hl : j - (ps.length - its.length) < its.length := by omega
        have : its[j - (ps.length - its.length)]? = some its[j - (ps.length - its.length)] := by simp [hl]
        exact ⟨_, this, this⟩
  have all : ∀ s ∈ selOf ps us.length ks its.length, (Sel.get us ws its s).isSome = true := by
    intro s hs
    obtain ⟨j, hj, e⟩ := List.getElem_of_mem hs
    have hj' : j < ps.length := by
      have : (selOf ps us.length ks its.length).length = ps.length := selF_length
      omega
    have hp : ps[j]? = some ps[j] := by simp [hj']
    have h1 : (selOf ps us.length ks its.length)[j]? = some (selAt ps.length us.length ks its.length (0 + j) ps[j]) := selF_get hp
    have h2 : (selOf ps us.length ks its.length)[j]? = some s := by rw [← e]; simp [hj]
    rw [h1, Nat.zero_add] at h2
    cases h2
    obtain ⟨v, _, e2⟩ := val j _ hp
    rw [e2]; rfl
  obtain ⟨l1, l2⟩ := arr_get all
  have len : (arr (selOf ps us.length ks its.length) us ws its).length = ps.length := by
    rw [l1]; exact selF_length
  refine ⟨filterMap_zip len fun j p hp => ?_, len⟩
  obtain ⟨v, e1, e2⟩ := val j p hp
  refine ⟨v, e1, ?_⟩
  rw [l2 j _ (selF_get (i := 0) hp), Nat.zero_add]
  exact e2
theorem bind_cond {ps ks : List Str} {us ws : List Value} {nd : Nat} (ok : bindOk ps us.length ks nd = true) (hw : ws.length = ks.length) :
    ∀ pre x post, ks.zip ws = pre ++ x :: post → ps.contains x.1 = true ∧ (ps.zip us ++ pre).lookup x.1 = none := by
  unfold bindOk at ok
  simp only [Bool.and_eq_true, decide_eq_true_eq, List.all_eq_true] at ok
  obtain ⟨c1, c2, c3, c4, c5, c6⟩ := ok
  intro pre x post e
  have hx : (ks.zip ws)[pre.length]? = some x := by rw [e]; simp
  rw [List.getElem?_zip_eq_some] at hx
  have hk : ks[pre.length]? = some x.1 := hx.1
  have hm : x.1 ∈ ks := List.mem_of_getElem? hk
  have hd := c5 _ hm
  refine ⟨by simpa using List.mem_of_mem_drop hd, ?_⟩
  rw [lookup_app]
  obtain ⟨j, hj, ej⟩ := List.getElem_of_mem hd
  have e2 : ps[us.length + j]? = some x.1 := by
    have : (ps.drop us.length)[j]? = some ((ps.drop us.length)[j]) := List.getElem?_eq_getElem hj
    rw [List.getElem?_drop, ej] at this
    exact this
  rw [lookup_zip c3 e2]
  have : us[us.length + j]? = none := by simp
  rw [this]
  show pre.lookup x.1 = none
  have keys : pre.map (·.1) = ks.take pre.length := by
    have h1 : (ks.zip ws).map (·.1) = ks := by
      rw [List.map_fst_zip]
      omega
    have h2 : (pre ++ x :: post).map (·.1) = ks := by rw [← e]; exact h1
    have h3 : ((pre ++ x :: post).map (·.1)).take pre.length = ks.take pre.length := by rw [h2]
    rw [← h3]
    simp
  have hni : x.1 ∉ pre.map (·.1) := by
    rw [keys]
    intro hin
    obtain ⟨i, hi, ei⟩ := List.getElem_of_mem hin
    have hi2 : i < pre.length := by simp at hi; omega
    have e3 : ks[i]? = some x.1 := by
      have : (ks.take pre.length)[i]? = some ((ks.take pre.length)[i]) := List.getElem?_eq_getElem hi
      rw [List.getElem?_take, if_pos hi2, ei] at this
      exact this
    have := nodup_ix c4 e3 hk
    omega
  cases q : pre.lookup x.1 with
  | none => rfl
  | some v => exact absurd (List.mem_map_of_mem (f := (·.1)) (mem_of_lookup q)) hni
where
  mem_of_lookup {α : Type} {n : Str} {v : α} : ∀ {l : List (Str × α)}, l.lookup n = some v → (n, v) ∈ l
  | [], h => by cases h
  | (k, u) :: l, h => by
    rw [List.lookup_cons] at h
    cases hb : n == k with
    | true => rw [hb] at h; cases h; rw [beq_iff_eq.mp hb]; exact List.mem_cons_self
    | false => rw [hb] at h; exact List.mem_cons_of_mem _ (mem_of_lookup h)
theorem Sel.vals {vs : List V} {us : List Value} {zs : List V} {ws : List Value} {ds : List V} {es : List Value} (r : Vals vs us) (q : Vals zs ws) (t : Vals ds es) : ∀ sel : List Sel, Vals (arr sel vs zs ds) (arr sel us ws es)
  | [] => .nil
  | s :: sel => by
    have one : ∀ {a : List V} {b : List Value} (r : Vals a b) (i : Nat), (∃ v u, a[i]? = some v ∧ b[i]? = some u ∧ RelV v u) ∨ (a[i]? = none ∧ b[i]? = none) := fun {a b} r i => by
      cases e : a[i]? with
      | some v => obtain ⟨u, e2, rv⟩ := r.get e; exact .inl ⟨v, u, rfl, e2, rv⟩
      | none => exact .inr ⟨rfl, r.none_of e⟩
    have h : (∃ v u, Sel.get vs zs ds s = some v ∧ Sel.get us ws es s = some u ∧ RelV v u) ∨ (Sel.get vs zs ds s = none ∧ Sel.get us ws es s = none) := by
      cases s with
      | p i => exact one r i
      | w i => exact one q i
      | d i => exact one t i
    unfold arr
    rw [List.filterMap_cons, List.filterMap_cons]
    rcases h with ⟨v, u, e1, e2, rv⟩ | ⟨e1, e2⟩
    · rw [e1, e2]; exact .cons rv (Sel.vals r q t sel)
    · rw [e1, e2]; exact Sel.vals r q t sel
theorem Sel.rvs {B : Tb} {w : Wd} {ds : List D} {vs : List V} {es : List D} {us : List V} {fs : List D} {ws : List V} (r : Rvs B w ds vs) (q : Rvs B w es us) (t : Rvs B w fs ws) : ∀ sel : List Sel, Rvs B w (arr sel ds es fs) (arr sel vs us ws)
  | [] => .nil
  | s :: sel => by
    have one : ∀ {a : List D} {b : List V} (r : Rvs B w a b) (i : Nat), (∃ v u, a[i]? = some v ∧ b[i]? = some u ∧ Rv B w v u) ∨ (a[i]? = none ∧ b[i]? = none) := fun {a b} r i => by
      cases e : a[i]? with
      | some v => obtain ⟨u, e2, rv⟩ := r.get e; exact .inl ⟨v, u, rfl, e2, rv⟩
      | none =>
        refine .inr ⟨rfl, ?_⟩
        rw [List.getElem?_eq_none_iff] at e ⊢
        rw [r.length]; exact e
    have h : (∃ v u, Sel.get ds es fs s = some v ∧ Sel.get vs us ws s = some u ∧ Rv B w v u) ∨ (Sel.get ds es fs s = none ∧ Sel.get vs us ws s = none) := by
      cases s with
      | p i => exact one r i
      | w i => exact one q i
      | d i => exact one t i
    unfold arr
    rw [List.filterMap_cons, List.filterMap_cons]
    rcases h with ⟨v, u, e1, e2, rv⟩ | ⟨e1, e2⟩
    · rw [e1, e2]; exact .cons rv (Sel.rvs r q t sel)
    · rw [e1, e2]; exact Sel.rvs r q t sel
theorem kbn_ok {K : PySem.W.Frag} {x qual : Str} {params : Arguments} {body : List Stmt} {scope : Scope} {dvs : List V} {f : Addr} {fd : FuncData} (F : FunD K x qual params body scope dvs [] f fd) {A : List Arg} {dfl : List Expr} (hp : params = ⟨[], A, none, [], [], none, dfl⟩)
    {ps : List Str} (hps : A.map (·.arg) = ps) {n : Nat} {ks : List Str} (ok : bindOk ps n ks dvs.length = true) :
    ∃ its, Vals dvs its ∧ KBn K fd ps n ks (fun us ws => arr (selOf ps n ks dvs.length) us ws its) (fun vs zs => arr (selOf ps n ks dvs.length) vs zs dvs) := by
  obtain ⟨oc, od, dV, kV, doc, pm, an, cdv, ct, osl, rfl, lk, hcd, hD, _⟩ := F.ex
  have miss : ∀ (us ws : List Value) (m : Nat), us.length = n → ws.length = ks.length → m = dvs.length → ∀ p ∈ ps.take (ps.length - m), ((ps.zip us ++ ks.zip ws).lookup p).isSome = true := by
    rintro us ws m rfl hw rfl p hpm
    have ok' := ok
    unfold bindOk at ok'
    simp only [Bool.and_eq_true, decide_eq_true_eq, List.all_eq_true] at ok'
    obtain ⟨c1, c2, c3, c4, c5, c6⟩ := ok'
    rw [lookup_app]
    rcases List.mem_append.mp (c6 p hpm) with z | z
    · obtain ⟨i, hi, ei⟩ := List.getElem_of_mem z
      have hi2 : i < us.length := by simp at hi; omega
      have e3 : ps[i]? = some p := by
        have : (ps.take us.length)[i]? = some ((ps.take us.length)[i]) := List.getElem?_eq_getElem hi
        rw [List.getElem?_take, if_pos hi2, ei] at this
        exact this
      rw [lookup_zip c3 e3]
      have : us[i]? = some us[i] := by simp [hi2]
      rw [this]; rfl
    · obtain ⟨i, hi, ei⟩ := List.getElem_of_mem z
      have e3 : ks[i]? = some p := by rw [← ei]; exact List.getElem?_eq_getElem hi
      cases (ps.zip us).lookup p with
      | some _ => rfl
      | none =>
        show ((ks.zip ws).lookup p).isSome = true
        rw [lookup_zip c4 e3]
        have : ws[i]? = some (ws[i]'(by omega)) := by simp [hw, hi]
        rw [this]; rfl
  have c12 : n ≤ ps.length ∧ dvs.length ≤ ps.length := by
    unfold bindOk at ok
    simp only [Bool.and_eq_true] at ok
    exact ⟨Nat.le_of_ble_eq_true ok.1, Nat.le_of_ble_eq_true ok.2.1⟩
  rcases hD with ⟨rfl, rfl⟩ | ⟨hne, T, o, its, m, rfl, lT, oT, rT⟩
  · refine ⟨[], .nil, fun s us ws X hu hw => ?_, fun r q => Sel.vals r q .nil _⟩
    subst hu
    obtain ⟨k, e1, e2⟩ := bind_all (fd := PySem.W.fnOf x qual params body scope .none kV doc pm an cdv ct) (us := us) (kw := ks.zip ws) hp hps c12.1 (bind_cond ok hw)
    refine BindsTo.of_eq ?_
    rw [e1]
    show (seqItems? .none >>= k) = _
    have e3 : seqItems? Value.none = pure none := rfl
    rw [e3, pure_bind, e2 none (Nat.zero_le _) (miss us ws 0 rfl hw rfl)]
    exact congrArg pure (bindR_arr ok hw).1
  · refine ⟨its, rT, fun s us ws X hu hw => ?_, fun r q => Sel.vals r q rT _⟩
    subst hu
    have hl : dvs.length = its.length := rT.length
    obtain ⟨k, e1, e2⟩ := bind_all (fd := PySem.W.fnOf x qual params body scope (.ref T) kV doc pm an cdv ct) (us := us) (kw := ks.zip ws) hp hps c12.1 (bind_cond ok hw)
    refine BindsTo.of_looks fun M => ?_
    rw [e1]
    refine looks_items X lT oT (.of_pure ?_)
    have hz : ((some its.toArray).getD #[]).toList = its := by simp
    rw [e2 (some its.toArray) (by rw [hz, ← hl]; exact c12.2) (by rw [hz]; exact miss us ws _ rfl hw hl.symm), hz]
    rw [hl] at ok ⊢
    exact congrArg pure (bindR_arr ok hw).1
end G
end
section
/-! GS: promises of defs that may show data (gd: no show is under way around the call). -/
namespace G
open PySem L2 PySem.Spec PyProof.Rows
/-- room for calls; cm: no exception is handled -/
structure RoomC (cm : Bool) (k : Nat) (A : Around) : Prop where
  hd : cm = true → A.handled = none
  dp : A.depth + 3 * k + 5 < recursionLimit
  un : A.units + 16 * k + 200 < cLine
theorem RoomC.of {cm : Bool} {k : Nat} {A : Around} (r : Room k A) : RoomC cm k A := ⟨fun _ => r.hd, r.dp, r.un⟩
theorem RoomC.to {k : Nat} {A : Around} (r : RoomC true k A) : Room k A := ⟨r.hd rfl, r.dp, r.un⟩
theorem RoomC.room {cm : Bool} {k : Nat} {A : Around} (r : RoomC cm k A) (h : cm = true) : Room k A := ⟨r.hd h, r.dp, r.un⟩
theorem RoomC.mono {cm : Bool} {j k : Nat} {A : Around} (r : RoomC cm k A) (h : j ≤ k) : RoomC cm j A := ⟨r.hd, by have := r.dp; omega, by have := r.un; omega⟩
theorem RoomC.less {cm cm' : Bool} {k : Nat} {A : Around} (r : RoomC cm k A) (h : cm' = true → cm = true) : RoomC cm' k A := ⟨fun z => r.hd (h z), r.dp, r.un⟩
theorem RoomC.deeper {cm : Bool} {k : Nat} {A : Around} (r : RoomC cm (k + 1) A) (env : PySem.Env) : RoomC cm k (A.deeper env) :=
  ⟨r.hd, by have := r.dp; show A.depth + 1 + 3 * k + 5 < _; omega, by have := r.un; show A.units + 3 + 16 * k + 200 < _; omega⟩
theorem RoomC.depth {cm : Bool} {k : Nat} {A : Around} (r : RoomC cm k A) : A.depth < recursionLimit := by have := r.dp; omega
/-- a context that may stand within an except suite -/
abbrev cxC (cm : Bool) (CX : CXT) (P : Program) (w : World) (K : PySem.W.Frag) (mg : Str → Option Value) (base : Heap) (N : List Str) (qual : Str) (scope : Scope) (f : Addr) (cd : Value) (A : Around) (ou : List PySem.Env) (s : Shared) (H : Hp) (E : XK) : Cx :=
  { cxOf CX P w K mg base N qual scope f cd A ou s H E with calm := cm }
theorem inv_startC {cm : Bool} {CX : CXT} {P : Program} {w : World} {K : PySem.W.Frag} {mg : Str → Option Value} {base : Heap} {N ps : List Str} {qual : Str} {scope : Scope} {f : Addr} {cd : Value} {A : Around} {ou : List PySem.Env} {s s1 : Shared} {H : Hp} {E : XK} {us : List Value} {vs : List V}
    (S : FnScope N ps scope) (hd : cm = true → A.handled = none) (e0 : Env0 P w K mg base A ou s H) (hl : vs.length = ps.length) (r : Vals vs us)
    (x : InCallC s s.heap.objs.size (bindL (envOfC qual scope s.heap.objs.size f cd).kindOf (ps.zip us) fun _ => none) (cellsFrom (s.heap.objs.size + 1) scope.names []) (bindC (envOfC qual scope s.heap.objs.size f cd).kindOf (ps.zip us) fun _ => none) s1) :
    Inv (cxC cm CX P w K mg base N qual scope f cd A ou s H E) [] (L2.start N vs) H s1 := by
  -- the same start, around it no exception handled
  have e1 : Env0 P w K mg base { A with handled := none } ou s H := ⟨e0.frames, e0.mod, e0.bs, e0.bsz, e0.funs, e0.frf, e0.hok, e0.bare⟩
  have J := inv_start (CX := CX) (N := N) (qual := qual) (f := f) (cd := cd) (E := E) (A := { A with handled := none }) S rfl e1 hl r x
  have ok := J.ok
  exact ⟨⟨ok.mod, ok.kind, ok.glob, ok.blt, ok.above, ok.inj, ok.has, ok.cab, hd, Around.frames_deeper e0.frames, ok.stk, ok.exf, ok.bs, ok.bsz, ok.noex, ok.exfs, ok.funs, ok.frf⟩, J.os, J.bare, J.base, J.loc, J.cell, J.free, J.freeC, J.pin, J.hok, J.len⟩
section
variable (P : Program) (w : World) (K : PySem.W.Frag) (mg : Str → Option Value) (base : Heap) (CX : CXT)
structure FnS (gd : Md) (k : Nat) (f : Addr) (fd : FuncData) (ps : List Str) (sp : Sp) : Prop where
  len : ∀ vs H Q E, sp vs H Q E → vs.length = ps.length
  run : ∀ (A : Around) (ou : List PySem.Env) (s : Shared) (H : Hp) (ar : Args) (us : List Value) (vs : List V) (Q : VK) (E : XK), RoomC gd.cm k A → (gd.sh = true → A.guards = some []) → Env0 P w K mg base A ou s H → BindsTo s fd ar (ps.zip us) →
    Vals vs us → sp vs H Q E → codeAny (model P w) A (.call (.ref f) ar) (CR CX ou P w H s Q E) s
end
section
variable {P : Program} {w : World} {K : PySem.W.Frag} {mg : Str → Option Value} {base : Heap} {CX : CXT} {gd : Md} {k : Nat} {f : Addr} {fd : FuncData} {ps : List Str} {sp : Sp}
theorem FnS.ok (F : FnS P w K mg base CX gd k f fd ps sp) (h : gd.sh = false) : FnOk P w K mg base CX k f fd ps sp :=
  ⟨F.len, fun A ou s H ar us vs Q E r => F.run A ou s H ar us vs Q E (.of r) fun z => by rw [h] at z; cases z⟩
theorem FnS.up (F : FnS P w K mg base CX gd k f fd ps sp) : FnS P w K mg base CX ⟨true, true⟩ k f fd ps sp :=
  ⟨F.len, fun A ou s H ar us vs Q E r g => F.run A ou s H ar us vs Q E (r.less fun _ => rfl) fun _ => g rfl⟩
theorem FnS.mono {j : Nat} (F : FnS P w K mg base CX gd j f fd ps sp) (h : j ≤ k) : FnS P w K mg base CX gd k f fd ps sp :=
  ⟨F.len, fun A ou s H ar us vs Q E r => F.run A ou s H ar us vs Q E (r.mono h)⟩
theorem FnS.imp {sp' : Sp} (F : FnS P w K mg base CX gd k f fd ps sp) (h : ∀ vs H Q E, sp' vs H Q E → sp vs H Q E) : FnS P w K mg base CX gd k f fd ps sp' :=
  ⟨fun _ _ _ _ q => F.len _ _ _ _ (h _ _ _ _ q), fun A ou s H ar us vs Q E r g e b v q => F.run A ou s H ar us vs Q E r g e b v (h _ _ _ _ q)⟩
/-- a def by its body -/
theorem FnS.body {x qual : Str} {params : Arguments} {body : List Stmt} {scope : Scope} {dvs : List V} {kws : List (Str × V)} {N : List Str} (F : FunD K x qual params body scope dvs kws f fd) (S : FnScope N ps scope) (len : ∀ vs H Q E, sp vs H Q E → vs.length = ps.length)
    (hB : ∀ (cv : Value) (A : Around) (ou : List PySem.Env) (s : Shared) (H : Hp) (vs : List V) (Q : VK) (E : XK), RoomC gd.cm k (A.deeper (envOfC qual scope s.heap.objs.size f cv)) → (gd.sh = true → A.guards = some []) → sp vs H Q E →
      ∃ t, PSs (cxC gd.cm CX P w K mg base N qual scope f cv A ou s H E) body t ∧ t { nx := fun _ H' => Q .non H', rt := Q } (start N vs) H) : FnS P w K mg base CX gd (k + 1) f fd ps sp := by
  obtain ⟨oc, od, dV, kV, doc, pm, an, cv, ct, osl, rfl, lk, hcd, _, _⟩ := F.ex
  refine ⟨len, fun A ou s H ar us vs Q E r g e0 b rv q => ?_⟩
  have hlen := len _ _ _ _ q
  have inH : K.In s.heap := e0.mod.kin.keeps fun y o z => (e0.bs y o z).1
  have free : s.heap.NoLimit := e0.mod.nolimit.keeps fun y o z => (e0.bs y o z).1
  have kinds : ∀ y ∈ ps.zip us, scope.names.lookup y.1 = some .local ∨ (scope.names.lookup y.1 = some .cell ∧ ((cellsFrom (s.heap.objs.size + 1) scope.names []).lookup y.1).isSome = true) := fun ⟨n, v⟩ hy => by
    rcases S.par n (List.of_mem_zip hy).1 with z | z
    · exact .inl z
    · exact .inr ⟨z, PySem.W.cellsFrom_some _ _ _ (.inl z)⟩
  refine codeAny_call_function r.depth (inH _ _ lk) rfl S.co S.gen rfl (PySem.W.codeRec_of inH hcd) (b _ _ _ _ ?_)
  refine wpAny_newFunctionEnv_cells S.kind kinds fun en he s1 y => ?_
  subst he
  refine ⟨free.keeps y.toInCall.keep, codeAny_func ?_⟩
  obtain ⟨t, ht, hq⟩ := hB cv A ou s H vs Q E (r.deeper _) g q
  have J0 : Inv (cxC gd.cm CX P w K mg base N qual scope f cv A ou s H E) [] (start N vs) H s1 := inv_startC S r.hd e0 hlen rv y
  refine wpAny_mono (ht.run [] s1 (start N vs) H _ J0 hq) (fun fl s2 hs => ?_) fun e s2 hs => hs
  have last : ∀ {σ2 : L2.St} {H2 : Hp} {v : V} {u : Value}, Inv (cxC gd.cm CX P w K mg base N qual scope f cv A ou s H E) [] σ2 H2 s2 → RelV v u → Q v H2 → CE ou P w H s Q u s2 :=
    fun {σ2 H2 v u} J rv q => ⟨v, H2, J.os, J.bare, J.base, J.hok, rv, q⟩
  cases fl with
  | ret u => obtain ⟨v, σ2, H2, J, rv, q⟩ := hs; exact last J rv q
  | next => obtain ⟨σ2, H2, J, q⟩ := hs; exact last (v := V.non) (u := Value.none) J rfl q
  | brk => obtain ⟨_, _, _, q⟩ := hs; exact False.elim q
  | cont => obtain ⟨_, _, _, q⟩ := hs; exact False.elim q
end
section
variable {X : Cx} {CX : CXT} {gd : Md} {k n : Nat} {f : Addr} {fd : FuncData} {ps ks : List Str} {sp : Sp} {E : XK} {x : Str} {p pos : Pos} {e : Expr} {es : List Expr} {kws : List Keyword} {t tk : TA} {g : List Value → List Value → List Value} {gV : List V → List V → List V}
theorem run_fnS {pins : List (Addr × Obj)} {σ : L2.St} {H : Hp} {s : Shared} {Q : VK} {us ws : List Value} {vs zs : List V} (F : FnS X.prog X.w X.K X.mg X.base CX gd k f fd ps sp) (hr : RoomC gd.cm k X.A) (hgd : gd.sh = true → X.A.guards = some []) (hb : KBn X.K fd ps n ks g gV) (hx : Passes CX X E)
    (I : Inv X pins σ H s) (r : Vals vs us) (rz : Vals zs ws) (l1 : vs.length = n) (l2 : zs.length = ks.length) (h : sp (gV vs zs) H Q E) : wpAny (model X.prog X.w) X.A (call (.ref f) us (ks.zip ws)) (EP X pins σ Q) X.xe s := by
  have r2 := hb.rel r rz
  have h1 := F.run X.A X.stack s H ⟨us, ks.zip ws⟩ (g us ws) (gV vs zs) Q E hr hgd I.env0 (hb.to s us ws I.kIn (r.length.symm.trans l1) (rz.length.symm.trans l2)) r2 h
  refine wpAny_call (codeAny_mono h1 fun r s2 hq => ?_)
  cases r with
  | error e => exact hx pins σ H s e s2 I hq
  | ok fl =>
    cases fl with
    | ret u => exact I.after hq
    | next => exact False.elim hq
    | brk => exact False.elim hq
    | cont => exact False.elim hq
theorem run_fnS' {pins : List (Addr × Obj)} {σ : L2.St} {H : Hp} {s : Shared} {Q : VK} {us ws : List Value} {vs zs : List V} (F : FnS X.prog X.w X.K X.mg X.base CX gd k f fd ps sp) (hr : RoomC gd.cm k X.A) (hgd : gd.sh = true → X.A.guards = some []) (hb : KBn X.K fd ps n ks g gV) (hx : Passes CX X E)
    (I : Inv X pins σ H s) (r : Vals vs us) (rz : Vals zs ws) (l1 : vs.length = n) (l2 : zs.length = ks.length) (h : sp (gV vs zs) H Q E) :
    codeAny (model X.prog X.w) X.A (.call (.ref f) ⟨us, ks.zip ws⟩) (fun r s' => match r with | .ok (.ret v) => EP X pins σ Q v s' | .ok _ => False | .error e => X.xe e s') s := by
  have r2 := hb.rel r rz
  have h1 := F.run X.A X.stack s H ⟨us, ks.zip ws⟩ (g us ws) (gV vs zs) Q E hr hgd I.env0 (hb.to s us ws I.kIn (r.length.symm.trans l1) (rz.length.symm.trans l2)) r2 h
  refine codeAny_mono h1 fun r s2 hq => ?_
  cases r with
  | error e => exact hx pins σ H s e s2 I hq
  | ok fl =>
    cases fl with
    | ret u => exact I.after hq
    | next => exact False.elim hq
    | brk => exact False.elim hq
    | cont => exact False.elim hq
theorem pe_callS1 (F : FnS X.prog X.w X.K X.mg X.base CX gd k f fd ps sp) (hr : RoomC gd.cm k X.A) (hgd : gd.sh = true → X.A.guards = some []) (hg : Gl X x) (hm : X.mg x = some (.ref f)) (hk : PySem.W.keepIn X.K (.ref f) = true) (hb : KBn X.K fd ps n ks g gV) (hx : Passes CX X E)
    (ha : PA X (e :: es) t) (hkw : PK X kws tk) (hall : (backToKw pos (keywordEach kws X.env)).all (·.1.isSome) = true) (hks : (backToKw pos (keywordEach kws X.env)).filterMap (·.1) = ks)
    (hdb : (x == ("__debug__" : Str)) = false) (he : starEach (e :: es) X.env = (false, eval e X.env) :: starEach es X.env)
    (hpl : ((backTo pos (starEach (e :: es) X.env)).any (·.1) || (backToKw pos (keywordEach kws X.env)).any (·.1.isNone)) = false) :
    PE X (.Call (.Name x p) (e :: es) kws pos) (tCallN n ks.length sp gV E t tk) := by
  refine ⟨fun pins s σ H Q I h => ?_⟩
  refine wpAny_Call_Name_kw (ld_glob I hg hm ?_ hdb)
  refine PySem.W.callWith_KW (h₀ := X.base) I.ok.mod.kin hk hall (thn (ha.run pos pins s σ H _ I h) fun us s2 ⟨vs, H2, I2, r, q⟩ => ?_) hpl he
  refine thn (hkw.run pos pins s2 σ H2 _ I2 q) fun ws s3 ⟨zs, H3, I3, rz, l1, l2, q3⟩ => ⟨I3.kIn, ?_⟩
  rw [hks]
  exact run_fnS F hr hgd hb hx I3 r rz l1 l2 q3
theorem pe_callS0 (F : FnS X.prog X.w X.K X.mg X.base CX gd k f fd ps sp) (hr : RoomC gd.cm k X.A) (hgd : gd.sh = true → X.A.guards = some []) (hg : Gl X x) (hm : X.mg x = some (.ref f)) (hk : PySem.W.keepIn X.K (.ref f) = true) (hb : KBn X.K fd ps 0 ks g gV) (hx : Passes CX X E)
    (hkw : PK X kws tk) (hall : (backToKw pos (keywordEach kws X.env)).all (·.1.isSome) = true) (hks : (backToKw pos (keywordEach kws X.env)).filterMap (·.1) = ks)
    (hdb : (x == ("__debug__" : Str)) = false) (hpl : ((backTo pos (starEach [] X.env)).any (·.1) || (backToKw pos (keywordEach kws X.env)).any (·.1.isNone)) = false) :
    PE X (.Call (.Name x p) [] kws pos) (tCallN 0 ks.length sp gV E tNil tk) := by
  refine ⟨fun pins s σ H Q I h => ?_⟩
  refine wpAny_Call_Name_kw (ld_glob I hg hm ?_ hdb)
  refine PySem.W.callWith_KW0 (h₀ := X.base) I.ok.mod.kin hk hall (thn (hkw.run pos pins s σ H _ I h) fun ws s2 ⟨zs, H2, I2, rz, l1, l2, q2⟩ => ⟨I2.kIn, ?_⟩) hpl
  rw [hks]
  exact run_fnS (us := []) (vs := []) F hr hgd hb hx I2 .nil rz l1 l2 q2
end

/-! ### the law's end -/
theorem lawS {P : Program} {w : World} {K : PySem.W.Frag} {mg mb : Str → Option Value} {CX : CXT} {k : Nat} {fa a : Addr} {fd : FuncData} {x : Str} {sp : Sp} {s : Shared} {vs : List Value} {ns : List Int}
    (KX : K.In s.heap) (hns : s.heap.Ns mainGlobals mg) (hb : s.heap.Ns builtinsNs mb) (hbb : ∀ x : Str, x ≠ "__name__" → mb x = bootBuiltins x) (hlim : s.heap.NoLimit) (hg : s.gens = #[])
    (ha : s.heap.get? a = some { cls := .type "list", data := .seq vs.toArray }) (hi : IntsAre vs ns) (hl : ns.length ≤ sizeLine) (hr : Room k callerA)
    (F : ∀ base : Heap, K.In base → base.Ns mainGlobals mg → FnS P w K mg base CX ⟨true, true⟩ k fa fd [x] sp) (hbind : ∀ (s : Shared) (u : Value), K.In s.heap → BindsTo s fd ⟨[u], []⟩ [(x, u)])
    (hsp : ∀ H : Hp, Only H → SqL K H a (ns.map V.int) → sp [.ref a] H (fun v _ => v = .bl true) fun _ _ _ => False) (hCX : ∀ H e s', CX [] H s (fun _ _ _ => False) e s' → False) :
    codeAny (model P w) callerA (.call (.ref fa) ⟨[.ref a], []⟩) (fun r s' => r = .ok (.ret (.bool true)) ∧ OldK s.heap s'.heap ∧ s'.os = s.os ∧ AllBare s'.gens) s := by
  have rv := vals_ints hi
  have lenV := hi.length
  have main : ∀ H : Hp, Only H → SqL K H a (ns.map V.int) → HOk P w H s.heap → (∀ b, H b ≠ none → b = a) → (H a ≠ none → K.lookup a = none) →
      codeAny (model P w) callerA (.call (.ref fa) ⟨[.ref a], []⟩) (fun r s' => r = .ok (.ret (.bool true)) ∧ OldK s.heap s'.heap ∧ s'.os = s.os ∧ AllBare s'.gens) s := by
    intro H hO hS hok hA hK
    have at_ : ∀ {b : Addr} {o : Obj}, s.heap.get? b = some o → H b = none → (hidT s.heap H).get? b = some o := fun e n => hidT_get e n
    have only : ∀ {b : Addr} {u : HO}, H b = some u → b = a := fun {b u} q => hA b (by rw [q]; simp)
    have noD : ∀ {b : Addr} {o : Obj} {es : Array DictEntry} {ep : Nat}, s.heap.get? b = some o → o.data = .dict es ep → H b = none := fun {b o es ep} e d => by
      cases q : H b with
      | none => rfl
      | some u =>
        obtain rfl := only q
        rw [ha] at e
        cases e
        exact nomatch (show Data.seq vs.toArray _ = Data.dict es ep from d)
    have nsH : ∀ {b : Addr} {m : Str → Option Value}, s.heap.Ns b m → (hidT s.heap H).Ns b m := fun {b m} ⟨o, es, ep, e, d, r⟩ => ⟨o, es, ep, at_ e (noD e d), d, r⟩
    have inK : K.In (hidT s.heap H) := fun b o e => at_ (KX b o e) (by
      cases q : H b with
      | none => rfl
      | some u =>
        obtain rfl := only q
        rw [hK (by rw [q]; simp)] at e
        cases e)
    have md : Mod K mg (hidT s.heap H) := ⟨inK, nsH hns, ⟨mb, nsH hb, hbb⟩, let ⟨mc, h1, h2⟩ := hlim; ⟨mc, nsH h1, h2⟩⟩
    have e0 : Env0 P w K mg (hidT s.heap H) callerA [] s H := ⟨rfl, md, fun b o e => of_hidT e, Nat.le_of_eq (hidT_size _ _), trivial, fun b hb => absurd (show b ∈ ([] : List Addr) from hb) (by simp), hok, .of_eq hg⟩
    have h1 := (F _ inK (nsH hns)).run callerA [] s H ⟨[.ref a], []⟩ [.ref a] [.ref a] _ _ (.of hr) (fun _ => rfl) e0 (hbind s (.ref a) KX) (.cons rfl .nil) (hsp H hO hS)
    refine codeAny_mono h1 fun r s' h => ?_
    cases r with
    | error e => exact (hCX H e s' h).elim
    | ok fl =>
      cases fl with
      | next => exact False.elim h
      | brk => exact False.elim h
      | cont => exact False.elim h
      | ret u =>
        obtain ⟨v, H2, os, bare, un, hok2, r2, q⟩ := h
        obtain rfl : v = .bl true := q
        obtain rfl : u = Value.bool true := r2
        refine ⟨rfl, OldK.of_keep fun b o e => ?_, os, bare⟩
        cases q : H b with
        | none => exact un.keep b o e q (fun z => absurd (show b ∈ ([] : List Addr) from z) (by simp)) (by simp)
        | some u =>
          rcases hO b with z | ⟨ob, xs, z⟩
          · rw [q] at z; cases z
          · have z2 := un.frzs b ob _ z
            obtain ⟨e1, _⟩ := hok b _ z
            obtain ⟨e2, _⟩ := hok2 b _ z2
            rw [e] at e1
            cases e1
            exact e2
  cases hk : K.lookup a with
  | some o =>
    have e := KX a o hk
    rw [ha] at e
    cases e
    exact main (fun _ => none) (fun _ => .inl rfl) (.inr ⟨_, vs.toArray, _, hk, rfl, rfl, rfl, by rw [List.size_toArray, lenV]; exact hl, by simpa using rv⟩) (fun b u z => nomatch (show (none : Option HO) = some u from z)) (fun b z => absurd rfl z) fun z => absurd rfl z
  | none =>
    refine main (fun b => if b = a then some (.frz { cls := .type "list", data := .seq vs.toArray } (.lst (ns.map V.int))) else none) (fun b => ?_) (.inl (.inr ⟨{ cls := .type "list", data := .seq vs.toArray }, if_pos rfl⟩)) (fun b u z => ?_) (fun b z => ?_) fun _ => hk
    · by_cases hb : b = a
      · exact .inr ⟨_, _, if_pos hb⟩
      · exact .inl (if_neg hb)
    · by_cases hb : b = a
      · have q := (if_pos hb).symm.trans z
        cases q
        subst hb
        exact ⟨ha, by rw [List.length_map]; exact hl, vs, _, rv, ha⟩
      · have q := (if_neg hb).symm.trans z
        cases q
    · by_cases hb : b = a
      · exact hb
      · exact absurd (if_neg hb) z
/-- how great the script's numbers may be -/
def Bits (ns : List Int) : Prop := ∀ x ∈ ns, Builtin.Int.intBits x ≤ 1048576
theorem bits_of {ns : List Int} (h : PySem.W.WData.layableAll [PySem.W.WData.list (ns.map PySem.W.WData.int)] = true) : Bits ns := by
  have h1 := (PySem.W.layW_cons h).1
  unfold PySem.W.WData.layable at h1
  rw [Bool.and_eq_true, decide_eq_true_eq] at h1
  have h2 : PySem.W.WData.weightAll (ns.map PySem.W.WData.int) ≤ 1048576 := h1.2
  clear h h1
  induction ns with
  | nil => intro x hx; cases hx
  | cons n ns ih =>
    have e : PySem.W.WData.weightAll ((n :: ns).map PySem.W.WData.int) = Builtin.Int.intBits n + 1 + PySem.W.WData.weightAll (ns.map PySem.W.WData.int) := rfl
    rw [e] at h2
    intro x hx
    rcases List.mem_cons.mp hx with rfl | hx
    · omega
    · exact ih (by omega) x hx
/-- a law's end, the law's def with the right to show data -/
theorem walkX {l : PySem.W.OpenLaw} {n k : Nat} {q : Program} {loose : List Str} {XP : (Str → Option Value) → Heap → Prop} {YP : World → Heap → Prop} {d : DefRec} {CX : World → CXT} {x : Str}
    (hn : l.most = some n) (hn2 : n ≤ sizeLine) (hdf : d.params.defaults = []) (hr : Room k callerA)
    (F : ∀ (w : World) (mg : Str → Option Value) (fa : Addr) (h : Heap), YP w h → h.Ns mainGlobals mg → mg d.name = some (.ref fa) →
      ∃ (K : PySem.W.Frag) (fd : FuncData) (sp : Sp), K.In h ∧ (∀ (s : Shared) (u : Value), K.In s.heap → BindsTo s fd ⟨[u], []⟩ [(x, u)]) ∧
        (∀ (H : Hp) (a : Addr) (ns : List Int), ns.length ≤ n → Bits ns → Only H → SqL K H a (ns.map V.int) → sp [.ref a] H (fun v _ => v = .bl true) fun _ _ _ => False) ∧
        ∀ base : Heap, K.In base → base.Ns mainGlobals mg → FnS l.prog w K mg base (CX w) ⟨true, true⟩ k fa fd [x] sp)
    (hCX : ∀ (w : World) (H : Hp) (s : Shared) (e : Value) (s' : Shared), CX w [] H s (fun _ _ _ => False) e s' → False) :
    PySem.W.WalkO q loose XP YP l.row.toRowW d [] (fun f vs => PySem.call f vs) := by
  intro w s₀ s mg mb G Y fa o pm cd doc dV kV ho hd hcd hD hmg hg args vals as hpre hlay hrd hwl hlo
  obtain rfl : dV = .none := PySem.W.Dflts.none hD hdf
  obtain rfl : kV = .none := PySem.W.Dflts.noKw hD
  obtain ⟨a, vs, ns, rfl, rfl, hobj, hints, hlen⟩ := Att.script_of hn hpre hwl
  obtain ⟨K, fd, sp, KX, hb, hsp, hF⟩ := F w mg fa _ Y G.T.g hmg
  refine PySem.W.enter_call (codeAny_mono (lawS KX G.T.g G.T.b G.T.builtins G.T.nolimit hg hobj hints (Nat.le_trans hlen hn2) hr hF hb (fun H hO hS => hsp H a ns hlen (bits_of hlay) hO hS) fun H e s' => hCX w H s e s') fun r s' hq => ?_)
  obtain ⟨rfl, h2, h3, h4⟩ := hq
  exact ⟨.inl ⟨.bool true, .bool true, [], rfl, fun _ => rfl, .bool true, Att.post_true l _, fun _ => ⟨List.Pairwise.nil, fun _ hm => (nomatch hm)⟩⟩, h2, h3, h4⟩
end G
end
section
/-! G9: calls of defs, methods, classes. -/
namespace G
open PySem L2

/-! ### looks at the syntax -/
def isStar : Expr → Bool
  | .Starred _ _ => true
  | _ => false
theorem star_cons {e : Expr} {es : List Expr} {env : PySem.Env} (h : isStar e = false) : starEach (e :: es) env = (false, eval e env) :: starEach es env := by
  cases e <;> first | rfl | cases h
theorem star_plain {pos : Pos} {env : PySem.Env} : ∀ {es : List Expr}, es.all (fun e => !isStar e) = true → (backTo pos (starEach es env)).any (·.1) = false
  | [], _ => rfl
  | e :: es, h => by
    rw [List.all_cons, Bool.and_eq_true] at h
    have h1 : isStar e = false := by simpa using h.1
    rw [star_cons h1]
    show (false || (backTo pos (starEach es env)).any (·.1)) = false
    rw [star_plain h.2]; rfl
theorem star_all {pos : Pos} {env : PySem.Env} : ∀ {es : List Expr}, es.all (fun e => !isStar e) = true → (backTo pos (starEach es env)).all (!·.1) = true
  | [], _ => rfl
  | e :: es, h => by
    rw [List.all_cons, Bool.and_eq_true] at h
    have h1 : isStar e = false := by simpa using h.1
    rw [star_cons h1]
    show (true && (backTo pos (starEach es env)).all (!·.1)) = true
    rw [star_all h.2]; rfl
theorem asg_cons {e : Expr} {es : List Expr} {env : PySem.Env} (h : isStar e = false) : assignEach (e :: es) env = (false, assign e env) :: assignEach es env := by
  cases e <;> first | rfl | cases h
theorem asg_find {env : PySem.Env} : ∀ {es : List Expr}, es.all (fun e => !isStar e) = true → (assignEach es env).findIdx? (·.1) = none
  | [], _ => rfl
  | e :: es, h => by
    rw [List.all_cons, Bool.and_eq_true] at h
    have h1 : isStar e = false := by simpa using h.1
    rw [asg_cons h1, List.findIdx?_cons]
    simp only [Bool.false_eq_true, if_false]
    rw [asg_find h.2]; rfl
theorem asg_length {env : PySem.Env} : ∀ {es : List Expr}, es.all (fun e => !isStar e) = true → (assignEach es env).length = es.length
  | [], _ => rfl
  | e :: es, h => by
    rw [List.all_cons, Bool.and_eq_true] at h
    have h1 : isStar e = false := by simpa using h.1
    rw [asg_cons h1, List.length_cons, List.length_cons, asg_length h.2]
theorem kw_all {pos : Pos} {env : PySem.Env} : ∀ {kws : List Keyword}, kws.all (·.arg.isSome) = true → (backToKw pos (keywordEach kws env)).all (·.1.isSome) = true
  | [], _ => rfl
  | ⟨a, v, p⟩ :: kws, h => by
    rw [List.all_cons, Bool.and_eq_true] at h
    show (a.isSome && (backToKw pos (keywordEach kws env)).all (·.1.isSome)) = true
    rw [kw_all h.2, show a.isSome = true from h.1]; rfl
theorem kw_none {pos : Pos} {env : PySem.Env} : ∀ {kws : List Keyword}, kws.all (·.arg.isSome) = true → (backToKw pos (keywordEach kws env)).any (·.1.isNone) = false
  | [], _ => rfl
  | ⟨a, v, p⟩ :: kws, h => by
    rw [List.all_cons, Bool.and_eq_true] at h
    show (a.isNone || (backToKw pos (keywordEach kws env)).any (·.1.isNone)) = false
    have h1 : a.isSome = true := h.1
    rw [kw_none h.2]
    cases a <;> simp_all
theorem kw_names {pos : Pos} {env : PySem.Env} : ∀ {kws : List Keyword}, (backToKw pos (keywordEach kws env)).filterMap (·.1) = kws.filterMap (·.arg)
  | [] => rfl
  | ⟨a, v, p⟩ :: kws => by
    show List.filterMap _ ((a, _) :: backToKw pos (keywordEach kws env)) = List.filterMap _ (_ :: kws)
    rw [List.filterMap_cons, List.filterMap_cons, kw_names]
def baseOk : Expr → Bool
  | .Call (.Name _ _) [] [] _ => false
  | _ => true
theorem base_ok {o : Expr} {m : Str} {env : PySem.Env} {whole : Sem Value} (h : baseOk o = true) : attributeBase o m env whole = whole := by
  cases o with
  | Call f as ks p =>
    cases f with
    | Name x q =>
      cases as with
      | nil =>
        cases ks with
        | nil => cases h
        | cons _ _ => rfl
      | cons _ _ => rfl
    | _ => rfl
  | _ => rfl

section
variable {X : Cx} {CX : CXT} {k n : Nat} {f C : Addr} {fd : FuncData} {ps ks : List Str} {sp : Sp} {E : XK} {x m : Str} {p pos apos : Pos} {e o : Expr} {es : List Expr} {kws : List Keyword} {ta : TE} {t tk : TA} {g : List Value → List Value → List Value} {gV : List V → List V → List V}
/-- o.m(..) of an instance -/
def tMethN (C : Addr) (m : Str) (n : Nat) (sp : Sp) (gV : List V → List V → List V) (E : XK) (ta : TE) (t : TA) : TE := fun σ H Q => ta σ H fun x H1 => ∃ a dx fs, x = .ref a ∧ H1 a = some (.ins C dx fs) ∧ fs.lookup m = none ∧
  t σ H1 fun vs H2 => vs.length + 1 = n ∧ sp (gV (x :: vs) []) H2 Q E
theorem meth_line (h1 : baseOk o = true) (h2 : es.all (fun e => !isStar e) = true) (h3 : Nat.blt es.length 30 = true) (h4 : (apos.endLine == pos.line) = true) :
    eval (.Call (.Attribute o m apos) es [] pos) X.env = (do
      let ov ← eval o X.env
      standAt apos.atName
      let (f, first) ← holding [ov] (getMethod ov m (plainOf o X.env))
      callWith pos f first (backTo pos (starEach es X.env)) (backToKw pos (keywordEach [] X.env))) := by
  show (do
    let ov ← attributeBase o m X.env (eval o X.env)
    standAt apos.atName
    methodCall o m apos pos X.env ov (es.length + ([] : List Keyword).length) (backTo pos (starEach es X.env)) (backToKw pos (keywordEach [] X.env))) = _
  rw [base_ok h1]
  have hf : methodCallForm (es.length + ([] : List Keyword).length) (backTo pos (starEach es X.env)) (backToKw pos (keywordEach [] X.env)) = true := by
    unfold methodCallForm
    rw [star_all h2]
    show (true && true && decide (es.length + 0 + 0 < 30)) = true
    have : es.length < 30 := Nat.le_of_ble_eq_true h3
    simp; omega
  have : ∀ ov, methodCall o m apos pos X.env ov (es.length + ([] : List Keyword).length) (backTo pos (starEach es X.env)) (backToKw pos (keywordEach [] X.env)) = (do
      let (f, first) ← holding [ov] (getMethod ov m (plainOf o X.env))
      callWith pos f first (backTo pos (starEach es X.env)) (backToKw pos (keywordEach [] X.env))) := fun ov => mcall_line hf h4
  simp only [this]
theorem pe_methN {pl : Sem Bool} (he : PE X o ta) (c : Cls X.K C) (hm : Meth X.K C m f) (F : FnOk X.prog X.w X.K X.mg X.base CX k f fd ps sp) (hr : Room k X.A) (hb : KBn X.K fd ps n [] g gV) (hx : Passes CX X E) (ha : PA X (e :: es) t)
    (hst : starEach (e :: es) X.env = (false, eval e X.env) :: starEach es X.env) (hpl : (backTo pos (starEach es X.env)).any (·.1) = false)
    (ht : eval (.Call (.Attribute o m apos) (e :: es) [] pos) X.env = (do
      let ov ← eval o X.env
      standAt apos.atName
      let (f, first) ← holding [ov] (getMethod ov m pl)
      callWith pos f first (backTo pos (starEach (e :: es) X.env)) (backToKw pos (keywordEach [] X.env)))) :
    PE X (.Call (.Attribute o m apos) (e :: es) [] pos) (tMethN C m n sp gV E ta t) := by
  refine ⟨fun pins s σ H Q I h => ?_⟩
  refine PySem.W.methodCall_KW (pl := pl) (thn (he.run pins s σ H _ I h) fun u s1 ⟨x, H1, I1, rx, a, dx, fs, ex, ea, l, q⟩ => ?_) ht
  subst ex
  obtain rfl : u = Value.ref a := rx
  refine getmeth_ok I1 ea c hm l ?_
  refine PySem.W.callWith_K (first := [.ref a]) (h₀ := X.base) I.ok.mod.kin hm.kp (thn (ha.run pos pins s1 σ H1 _ I1 q) fun us s2 ⟨vs, H2, I2, r, l2, q2⟩ => ⟨I2.kIn, ?_⟩) hst hpl
  exact run_fnN (us := .ref a :: us) (ws := []) (vs := .ref a :: vs) F hr hb hx I2 (.cons rfl r) .nil l2 rfl q2
theorem pe_methN0 {pl : Sem Bool} (he : PE X o ta) (c : Cls X.K C) (hm : Meth X.K C m f) (F : FnOk X.prog X.w X.K X.mg X.base CX k f fd ps sp) (hr : Room k X.A) (hb : KBn X.K fd ps n [] g gV) (hx : Passes CX X E)
    (ht : eval (.Call (.Attribute o m apos) [] [] pos) X.env = (do
      let ov ← eval o X.env
      standAt apos.atName
      let (f, first) ← holding [ov] (getMethod ov m pl)
      callWith pos f first (backTo pos (starEach [] X.env)) (backToKw pos (keywordEach [] X.env)))) :
    PE X (.Call (.Attribute o m apos) [] [] pos) (tMethN C m n sp gV E ta tNil) := by
  refine ⟨fun pins s σ H Q I h => ?_⟩
  refine PySem.W.methodCall_KW (pl := pl) (thn (he.run pins s σ H _ I h) fun u s1 ⟨x, H1, I1, rx, a, dx, fs, ex, ea, l, q⟩ => ?_) ht
  subst ex
  obtain rfl : u = Value.ref a := rx
  refine getmeth_ok I1 ea c hm l ?_
  obtain ⟨l2, q2⟩ := q
  exact PySem.W.callWith_K0 (first := [.ref a]) I1.kIn hm.kp (run_fnN (us := [.ref a]) (ws := []) (vs := [.ref a]) F hr hb hx I1 (.cons rfl .nil) .nil l2 rfl q2)
end

/-! ### promises by runs -/
def spG (B : Tb) (np : Nat) (r : List D → M D) : Sp := fun vs H Q E => ∃ w S ds, w.H = H ∧ RS B w S ∧ Rvs B w ds vs ∧ ds.length = np ∧ PD B E w (r ds S) Q
section
variable {B : Tb} {E : XK} {X : Cx} {w : Wd} {S : Sto}
def mCallK (r : List D → M D) (n nk : Nat) (sel : List Sel) (dfl : List D) (ms mk : Env → M (List D)) : Env → M D := fun env => bnd (ms env) fun ds => bnd (mk env) fun zs S =>
  if ds.length = n ∧ zs.length = nk then r (arr sel ds zs dfl) S else none
/-- what is known of a def that is called -/
structure FnG (B : Tb) (gd : Md) (CX : CXT) (X : Cx) (k : Nat) (f : Addr) (ps : List Str) (dfl : List D) (r : List D → M D) : Prop where
  ok : ∃ fd, FnS X.prog X.w X.K X.mg X.base CX gd k f fd ps (spG B ps.length r) ∧ ∀ n ks, bindOk ps n ks dfl.length = true → ∃ its dvs, (∀ w, Rvs B w dfl dvs) ∧ KBn X.K fd ps n ks (fun us ws => arr (selOf ps n ks dfl.length) us ws its) (fun vs zs => arr (selOf ps n ks dfl.length) vs zs dvs)
  kp : PySem.W.keepIn X.K (.ref f) = true
  fi : PySem.W.fnIn X.K f = true
theorem gk_nil : PK X [] (gA B E mNil) := ⟨fun pos pins s σ H Q I ⟨w, env, S, hw, rs, re, h⟩ => by subst hw; exact pk_nil.run pos pins s σ _ Q I (Po.ret h rs [] .nil)⟩
theorem gk_cons {a : Option Str} {e : Expr} {p : Pos} {kws : List Keyword} {m : Env → M D} {ms : Env → M (List D)} (he : GE B E X e m) (hr : PK X kws (gA B E ms)) : PK X (⟨a, e, p⟩ :: kws) (gA B E (mCons m ms)) := by
  refine ⟨fun pos pins s σ H Q I ⟨w, env, S, hw, rs, re, h⟩ => (pk_cons he hr).run pos pins s σ H Q I ?_⟩
  refine ⟨w, env, S, hw, rs, re, h.bnd.imp fun w1 S1 d l1 rs1 h1 x rx => ?_⟩
  refine ⟨w1, env, S1, rfl, rs1, re.mono l1, h1.bnd.imp fun w2 S2 ds l2 rs2 h2 vs rvs => ?_⟩
  exact Po.ret h2 rs2 _ (.cons (rx.mono l2) rvs)
theorem arr_len_eq {α β : Type} {us ws ds : List α} {us' ws' ds' : List β} (h1 : us.length = us'.length) (h2 : ws.length = ws'.length) (h3 : ds.length = ds'.length) : ∀ sel : List Sel, (arr sel us ws ds).length = (arr sel us' ws' ds').length
  | [] => rfl
  | s :: sel => by
    have one : ∀ {a : List α} {b : List β} (h : a.length = b.length) (i : Nat), (∃ v u, a[i]? = some v ∧ b[i]? = some u) ∨ (a[i]? = none ∧ b[i]? = none) := fun {a b} h i => by
      by_cases hi : i < a.length
      · exact .inl ⟨a[i], b[i]'(by omega), by simp [hi], by simp [h ▸ hi]⟩
      · exact .inr ⟨by simp; omega, by simp; omega⟩
    have h : (∃ v u, Sel.get us ws ds s = some v ∧ Sel.get us' ws' ds' s = some u) ∨ (Sel.get us ws ds s = none ∧ Sel.get us' ws' ds' s = none) := by
      cases s with
      | p i => exact one h1 i
      | w i => exact one h2 i
      | d i => exact one h3 i
    have ih := arr_len_eq h1 h2 h3 sel
    unfold arr at ih ⊢
    rw [List.filterMap_cons, List.filterMap_cons]
    rcases h with ⟨v, u, e1, e2⟩ | ⟨e1, e2⟩
    · rw [e1, e2, List.length_cons, List.length_cons, ih]
    · rw [e1, e2]; exact ih
theorem arr_len {α : Type} {ps ks : List Str} {n nd : Nat} {us ws its : List α} (ok : bindOk ps n ks nd = true) (h1 : us.length = n) (h2 : ws.length = ks.length) (h3 : its.length = nd) : (arr (selOf ps n ks nd) us ws its).length = ps.length := by
  subst h1; subst h3
  have := (bindR_arr (us := List.replicate us.length Value.none) (ws := List.replicate ks.length Value.none) (its := List.replicate its.length Value.none) (ps := ps) (ks := ks) (by simpa using ok) (by simp)).2
  rw [List.length_replicate, List.length_replicate] at this
  rw [← this]
  exact arr_len_eq (by simp) (by simp [h2]) (by simp) _
theorem gE_callN {n nk : Nat} {sel : List Sel} {dfl : List D} {dvs : List V} {np : Nat} {r : List D → M D} {ms mk : Env → M (List D)} (hd : ∀ w, Rvs B w dfl dvs) (hlen : ∀ ds zs : List D, ds.length = n → zs.length = nk → (arr sel ds zs dfl).length = np) (σ : L2.St) (H : Hp) (Q : VK)
    (h : gE B E (mCallK r n nk sel dfl ms mk) σ H Q) : tCallN n nk (spG B np r) (fun vs zs => arr sel vs zs dvs) E (gA B E ms) (gA B E mk) σ H Q := by
  obtain ⟨w, env, S, hw, rs, re, h⟩ := h
  refine ⟨w, env, S, hw, rs, re, h.bnd.imp fun w1 S1 ds l1 rs1 h1 vs rvs => ?_⟩
  refine ⟨w1, env, S1, rfl, rs1, re.mono l1, h1.bnd.imp fun w2 S2 es l2 rs2 h2 us rus => ?_⟩
  by_cases hc : ds.length = n ∧ es.length = nk
  · rw [if_pos hc] at h2
    refine ⟨by rw [rvs.length]; exact hc.1, by rw [rus.length]; exact hc.2, w2, S2, arr sel ds es dfl, rfl, rs2, Sel.rvs (rvs.mono l2) rus (hd w2) sel, hlen _ _ hc.1 hc.2, h2⟩
  · rw [if_neg hc] at h2
    exact h2.elim
theorem ge_call0 {gd : Md} {CX : CXT} {k : Nat} {ks : List Str} {f : Addr} {ps : List Str} {dfl : List D} {r : List D → M D} {x : Str} {kws : List Keyword} {mk : Env → M (List D)} {p pos : Pos} (G : FnG B gd CX X k f ps dfl r) (hr : RoomC gd.cm k X.A) (hgd : gd.sh = true → X.A.guards = some []) (hg : Gl X x) (hm : X.mg x = some (.ref f)) (hx : Passes CX X E)
    (hdb : (x == ("__debug__" : Str)) = false) (hkn : kws.all (·.arg.isSome) = true) (hks : kws.filterMap (·.arg) = ks) (ok : bindOk ps 0 ks dfl.length = true) (hk : PK X kws (gA B E mk)) :
    GE B E X (.Call (.Name x p) [] kws pos) (mCallK r 0 ks.length (selOf ps 0 ks dfl.length) dfl mNil mk) := by
  obtain ⟨fd, F, hb⟩ := G.ok
  obtain ⟨its, dvs, hd, kb⟩ := hb 0 ks ok
  have hl : ∀ ds zs : List D, ds.length = 0 → zs.length = ks.length → (arr (selOf ps 0 ks dfl.length) ds zs dfl).length = ps.length := fun ds zs h1 h2 => arr_len ok h1 h2 rfl
  refine PEmono (pe_callS0 F hr hgd hg hm G.kp kb hx hk (kw_all hkn) (by rw [kw_names, hks]) hdb (by rw [kw_none hkn]; rfl)) fun σ H Q h => ?_
  obtain ⟨w, env, S, hw, rs, re, h2⟩ := gE_callN hd hl σ H Q h
  subst hw
  exact Po.ret (a := ([] : List D)) h2 rs [] .nil
theorem ge_call1 {gd : Md} {CX : CXT} {k n : Nat} {ks : List Str} {f : Addr} {ps : List Str} {dfl : List D} {r : List D → M D} {x : Str} {e : Expr} {es : List Expr} {kws : List Keyword} {ms mk : Env → M (List D)} {p pos : Pos} (G : FnG B gd CX X k f ps dfl r) (hr : RoomC gd.cm k X.A) (hgd : gd.sh = true → X.A.guards = some []) (hg : Gl X x) (hm : X.mg x = some (.ref f)) (hx : Passes CX X E)
    (hdb : (x == ("__debug__" : Str)) = false) (hst : (e :: es).all (fun e => !isStar e) = true) (hkn : kws.all (·.arg.isSome) = true) (hks : kws.filterMap (·.arg) = ks) (ok : bindOk ps n ks dfl.length = true) (ha : GA B E X (e :: es) ms) (hk : PK X kws (gA B E mk)) :
    GE B E X (.Call (.Name x p) (e :: es) kws pos) (mCallK r n ks.length (selOf ps n ks dfl.length) dfl ms mk) := by
  obtain ⟨fd, F, hb⟩ := G.ok
  obtain ⟨its, dvs, hd, kb⟩ := hb n ks ok
  have hl : ∀ ds zs : List D, ds.length = n → zs.length = ks.length → (arr (selOf ps n ks dfl.length) ds zs dfl).length = ps.length := fun ds zs h1 h2 => arr_len ok h1 h2 rfl
  have h1 : isStar e = false := by
    rw [List.all_cons, Bool.and_eq_true] at hst
    simpa using hst.1
  exact PEmono (pe_callS1 F hr hgd hg hm G.kp kb hx ha hk (kw_all hkn) (by rw [kw_names, hks]) hdb (star_cons h1) (by rw [star_plain hst, kw_none hkn]; rfl)) fun σ H Q h => gE_callN hd hl σ H Q h

/-! ### methods -/
/-- what a method's call finds: the class's method m is the def at f -/
structure MtG (B : Tb) (CX : CXT) (X : Cx) (k : Nat) (c : Nat) (m : Str) (ps : List Str) (dfl : List D) (r : List D → M D) : Prop where
  ex : ∃ f, FnG B ⟨false, true⟩ CX X k f ps dfl r ∧ Cls X.K (B.ca c) ∧ Meth X.K (B.ca c) m f
def mMeth (mt : Nat → Option (List Str × List D × (List D → M D))) (f : Nat) (n : Nat) (mo : Env → M D) (ms : Env → M (List D)) : Env → M D := fun env => bnd (mo env) fun o => match o with
  | .ref i => fun S => match S.get i with
    | some (.ins c fs) => match lkF f fs, mt c with
      | none, some (ps, dfl, r) => if bindOk ps (n + 1) [] dfl.length then bnd (ms env) (fun ds S => if ds.length = n then r (arr (selOf ps (n + 1) [] dfl.length) (o :: ds) [] dfl) S else none) S else none
      | _, _ => none
    | _ => none
  | _ => stuck
theorem gE_meth {n f c : Nat} {m : Str} {ps : List Str} {dfl : List D} {dvs : List V} {r : List D → M D} {mo : Env → M D} {ms : Env → M (List D)} {mt : Nat → Option (List Str × List D × (List D → M D))} (hm : B.nm f = m) (hd : ∀ w, Rvs B w dfl dvs) (ok : bindOk ps (n + 1) [] dfl.length = true) (hmt : mt c = some (ps, dfl, r))
    {w : Wd} {env : Env} {S : Sto} {σ : L2.St} {Q : VK} (rs : RS B w S) (re : RE B w env σ) {i : Nat} {S1 : Sto} {fs : List (Nat × D)} (eo : mo env S = some (.ok (.ref i) S1)) (ei : S1.get i = some (.ins c fs))
    (h : PD B E w (mMeth mt f n mo ms env S) Q) : tMethN (B.ca c) m (n + 1) (spG B ps.length r) (fun vs zs => arr (selOf ps (n + 1) [] dfl.length) vs zs dvs) E (gE B E mo) (gA B E ms) σ w.H Q := by
  refine ⟨w, env, S, rfl, rs, re, ?_⟩
  unfold mMeth at h
  rw [bnd_ok eo] at h
  rw [eo]
  replace h : PD B E w (match S1.get i with
    | some (.ins c fs) => match lkF f fs, mt c with
      | none, some (ps, dfl, r) => if bindOk ps (n + 1) [] dfl.length then bnd (ms env) (fun ds S => if ds.length = n then r (arr (selOf ps (n + 1) [] dfl.length) (.ref i :: ds) [] dfl) S else none) S1 else none
      | _, _ => none
    | _ => none) Q := h
  rw [ei] at h
  replace h : PD B E w (match lkF f fs, mt c with
      | none, some (ps, dfl, r) => if bindOk ps (n + 1) [] dfl.length then bnd (ms env) (fun ds S => if ds.length = n then r (arr (selOf ps (n + 1) [] dfl.length) (.ref i :: ds) [] dfl) S else none) S1 else none
      | _, _ => none) Q := h
  rw [hmt] at h
  intro w1 l1 rs1 x rx
  have rx' := rx
  obtain ⟨hi, rfl⟩ := rv_ref rx
  cases ef : lkF f fs with
  | some d => rw [ef] at h; exact h.elim
  | none =>
    rw [ef] at h
    replace h : PD B E w (if bindOk ps (n + 1) [] dfl.length then bnd (ms env) (fun ds S => if ds.length = n then r (arr (selOf ps (n + 1) [] dfl.length) (.ref i :: ds) [] dfl) S else none) S1 else none) Q := h
    rw [if_pos ok] at h
    obtain ⟨o, ho, dx, gs, rfl, q⟩ := rs1.at_ _ _ ei
    refine ⟨_, dx, gs, rfl, ho, by rw [← hm]; exact q.nolk ef, w1, env, S1, rfl, rs1, re.mono l1, Po.imp (Po.bnd (Po.le l1 h)) fun w2 S2 ds l2 rs2 h2 vs rvs => ?_⟩
    by_cases hc : ds.length = n
    · rw [if_pos hc] at h2
      refine ⟨by rw [rvs.length, hc], w2, S2, arr (selOf ps (n + 1) [] dfl.length) (.ref i :: ds) [] dfl, rfl, rs2, Sel.rvs (.cons (rx'.mono l2) rvs) .nil (hd w2) _, arr_len ok (by simp [hc]) rfl rfl, h2⟩
    · rw [if_neg hc] at h2; exact h2.elim
end
end G
end
section
/-! G10: methods of lists and texts. -/
namespace G
open PySem L2

def gM (B : Tb) (E : XK) (f : D → List D → M D) : V → List V → Hp → VK → Prop := fun x vs H Q => ∃ w S d ds, w.H = H ∧ RS B w S ∧ Rv B w d x ∧ Rvs B w ds vs ∧ PD B E w (f d ds S) Q

def mAppend : D → List D → M D
  | .ref i, [y] => fun S => match S.get i with
    | some (.lst xs) => if lenOk (xs.length + 1) then some (.ok .non (S.put i (.lst (xs ++ [y])))) else none
    | _ => none
  | _, _ => stuck
def mExtend : D → List D → M D
  | .ref i, [.ref j] => fun S => match S.get i, S.get j with
    | some (.lst xs), some (.lst ys) => if lenOk (xs.length + ys.length) then some (.ok .non (S.put i (.lst (xs ++ ys)))) else none
    | _, _ => none
  | .ref i, [.tup ys] => fun S => match S.get i with
    | some (.lst xs) => if lenOk (xs.length + ys.length) then some (.ok .non (S.put i (.lst (xs ++ ys)))) else none
    | _ => none
  | _, _ => stuck
def mPop : D → List D → M D
  | .ref i, [] => fun S => match S.get i with
    | some (.lst xs) => match xs[xs.length - 1]? with
      | some y => some (.ok y (S.put i (.lst xs.dropLast)))
      | none => none
    | _ => none
  | .ref i, [.int k] => fun S => match S.get i with
    | some (.lst xs) => if decide (-(2 ^ 63) ≤ k) && decide (k < 2 ^ 63) then match seqIndex? k xs.length with
        | some j => match xs[j]? with
          | some y => some (.ok y (S.put i (.lst (xs.eraseIdx j))))
          | none => none
        | none => none else none
    | _ => none
  | _, _ => stuck
def idxFl (d : D) : List D → Option Nat
  | [] => none
  | e :: ds => if eqFl e d then some 0 else match idxFl d ds with
    | some i => some (i + 1)
    | none => none
def mIndexL : D → List D → M D
  | .ref i, [y] => fun S => match lstAt S i with
    | some xs => if flatD y && xs.all flatD then match idxFl y xs with
        | some j => some (.ok (.int j) S)
        | none => none else none
    | none => none
  | _, _ => stuck
section
open PySem.AutoSeq1
theorem list_extend_tup (l : Addr) (items : Array Value) (n : Nat) (b : Addr) (items2 : Array Value) (n2 : Nat) (dd : Option Addr) (sl : Array (Option Value)) (hs0 : ¬(!items.isEmpty && Builtin.List.listTooLong (items.size + items2.size)) = true) (hs1 : items.size ≤ sizeLine) (hs2 : items.size + items2.size ≤ sizeLine + 1) :
    Meets (Builtin.«list.extend» ⟨[.ref l, .ref b], []⟩) (fun _ R s => s.heap.get? l = some { cls := .type "list", dict := none, data := .seq items n, slots := #[] } ∧ s.heap.get? b = some { cls := .type "tuple", dict := dd, data := .seq items2 n2, slots := sl } ∧ R (.ok (.ret Value.none)) { s with heap := s.heap.update l (Obj.mapSeq fun x => x ++ items2), toks := s.toks }) :=
  .of_wp fun prog w A R s h => by
    obtain ⟨hp, g, d, tk, os⟩ := s; obtain ⟨hl, hb, h⟩ := h; have f1 := idx_int; have f2 := sub_tuple_tuple; have f3 := sub_list_list; have f4 := sub_tuple_list; have f5 := sub_list_tuple;
    have hz' : (items ++ items2).size ≤ sizeLine + 1 := by rw [Array.size_append]; exact hs2
    wp_walk using (wpAny_updateSeq hl rfl (hz := hs1) (_hz' := hz')), wpAny_loadPart' hl, wpAny_loadPart' hb; exact ⟨_, rfl, h⟩
end
section
variable {B : Tb} {E : XK} {X : Cx} {w : Wd} {S : Sto}
theorem Rvs.dropLast {ds : List D} {vs : List V} (r : Rvs B w ds vs) : Rvs B w ds.dropLast vs.dropLast := by
  rw [List.dropLast_eq_take, List.dropLast_eq_take, r.length]
  exact r.take _
theorem append_ok : MtR X "list.append" (gM B E mAppend) := by
  intro pins s σ H x vs v us Q I rx rxs ⟨w, S, d, ds, hw, rs, rd, rds, h⟩
  subst hw
  unfold mAppend at h
  split at h
  · rename_i i y
    obtain ⟨_, rfl⟩ := rv_ref rd
    simp only [Rvs] at rds
    obtain ⟨yv, _, rfl, ry, rfl⟩ := rds
    split at h
    · rename_i xs e
      split at h
      · rename_i hl
        obtain ⟨o, ho, us', rfl, q⟩ := rs.at_ _ _ e
        have l := chg_le (o := .lst (us' ++ [yv])) rs e
        exact mt_append pins s σ _ _ _ v us Q I rx rxs ⟨_, us', yv, rfl, rfl, ho, by rw [q.length]; exact lenOk_iff hl, PD.chg h rs e ⟨_, rfl, (q.mono l).app (.cons (ry.mono l) .nil)⟩ rv_non⟩
      · exact h.elim
    · exact h.elim
  · exact h.elim
theorem mt_extendT : MtM X "list.extend" (fun x vs H Q => ∃ l b xs zs, x = .ref l ∧ vs = [.ref b] ∧ H l = some (.lst xs) ∧ SqT X.K H b zs ∧ xs.length + zs.length ≤ sizeLine ∧ Q .non (upd H l (.lst (xs ++ zs)))) := by
  intro pins s σ H x vs v us Q I rx rv h
  obtain ⟨l, b, xs, zs, rfl, rfl, hH, hB, hz, q⟩ := h
  cases rx
  obtain ⟨u, rfl, ru⟩ := rv.one
  cases ru
  obtain ⟨z, its, n, r, hl, e⟩ := I.lstM hH
  obtain ⟨its2, r2, ⟨⟨oc, od, dt, sl⟩, ho2, hc2, n2, hd2⟩, hl2⟩ := I.tuple hB
  simp only at hc2 hd2
  subst hc2 hd2
  have hsz : its.toArray.size + its2.toArray.size ≤ sizeLine := by rw [List.size_toArray, List.size_toArray, ← r2.length]; omega
  have hlong : ¬ (!its.toArray.isEmpty && Builtin.List.listTooLong (its.toArray.size + its2.toArray.size)) = true := by
    rw [notLongL hsz, Bool.and_false]
    exact Bool.false_ne_true
  refine call_meets F.slot_list_extend ⟨_, e, rfl⟩ F.entry_list_extend (F.args_list_extend_2 _ _)
    (list_extend_tup l its.toArray n b its2.toArray n2 od sl hlong (by rw [List.size_toArray]; omega) (by omega)) ⟨e, ho2, ?_⟩
  refine ⟨.non, _, I.lset (its' := its ++ its2) hH e (by simp) (r.append r2) ?_, rfl, q⟩
  rw [List.length_append]
  omega
theorem extend_ok (hK : X.K = B.K) : MtR X "list.extend" (gM B E mExtend) := by
  intro pins s σ H x vs v us Q I rx rxs ⟨w, S, d, ds, hw, rs, rd, rds, h⟩
  subst hw
  unfold mExtend at h
  split at h
  · rename_i i j
    obtain ⟨_, rfl⟩ := rv_ref rd
    simp only [Rvs] at rds
    obtain ⟨yv, _, rfl, ry, rfl⟩ := rds
    obtain ⟨_, rfl⟩ := rv_ref ry
    split at h
    · rename_i xs ys e e2
      split at h
      · rename_i hl
        obtain ⟨o, ho, us', rfl, q⟩ := rs.at_ _ _ e
        obtain ⟨o2, ho2, zs', rfl, q2⟩ := rs.at_ _ _ e2
        have l := chg_le (o := .lst (us' ++ zs')) rs e
        exact mt_extend pins s σ _ _ _ v us Q I rx rxs ⟨_, _, us', zs', rfl, rfl, ho, ho2, by rw [q.length, q2.length]; exact lenOk_iff hl, PD.chg h rs e ⟨_, rfl, (q.mono l).app (q2.mono l)⟩ rv_non⟩
      · exact h.elim
    · exact h.elim
  · rename_i i ys
    obtain ⟨_, rfl⟩ := rv_ref rd
    simp only [Rvs] at rds
    obtain ⟨yv, _, rfl, ry, rfl⟩ := rds
    simp only [Rv] at ry
    obtain ⟨p, zs, rfl, t, q2⟩ := ry
    split at h
    · rename_i xs e
      split at h
      · rename_i hl
        obtain ⟨o, ho, us', rfl, q⟩ := rs.at_ _ _ e
        have l := chg_le (o := .lst (us' ++ zs)) rs e
        exact mt_extendT pins s σ _ _ _ v us Q I rx rxs ⟨_, _, us', zs, rfl, rfl, ho, by rw [hK]; exact t.sq, by rw [q.length, q2.length]; exact lenOk_iff hl, PD.chg h rs e ⟨_, rfl, (q.mono l).app (q2.mono l)⟩ rv_non⟩
      · exact h.elim
    · exact h.elim
  · exact h.elim
theorem pop_ok : MtR X "list.pop" (gM B E mPop) := by
  intro pins s σ H x vs v us Q I rx rxs ⟨w, S, d, ds, hw, rs, rd, rds, h⟩
  subst hw
  unfold mPop at h
  split at h
  · rename_i i
    obtain ⟨_, rfl⟩ := rv_ref rd
    simp only [Rvs] at rds
    subst rds
    split at h
    · rename_i xs e
      split at h
      · rename_i y ey
        obtain ⟨o, ho, us', rfl, q⟩ := rs.at_ _ _ e
        obtain ⟨yv, e2, ry⟩ := q.get ey
        have l := chg_le (o := .lst us'.dropLast) rs e
        exact mt_pop pins s σ _ _ _ v us Q I rx rxs ⟨_, us', yv, rfl, rfl, ho, by rw [q.length]; exact e2, PD.chg h rs e ⟨_, rfl, (q.mono l).dropLast⟩ (ry.mono l)⟩
      · exact h.elim
    · exact h.elim
  · rename_i i k
    obtain ⟨_, rfl⟩ := rv_ref rd
    simp only [Rvs] at rds
    obtain ⟨yv, _, rfl, ry, rfl⟩ := rds
    simp only [Rv] at ry
    subst ry
    split at h
    · rename_i xs e
      split at h
      · rename_i hb
        rw [Bool.and_eq_true, decide_eq_true_eq, decide_eq_true_eq] at hb
        split at h
        · rename_i j ej
          split at h
          · rename_i y ey
            obtain ⟨o, ho, us', rfl, q⟩ := rs.at_ _ _ e
            obtain ⟨yv, e2, ry⟩ := q.get ey
            have l := chg_le (o := .lst (us'.eraseIdx j)) rs e
            exact mt_popAt pins s σ _ _ _ v us Q I rx rxs ⟨_, us', k, j, yv, rfl, rfl, ho, hb.1, hb.2, by rw [q.length]; exact ej, e2, PD.chg h rs e ⟨_, rfl, (q.mono l).erase j⟩ (ry.mono l)⟩
          · exact h.elim
        · exact h.elim
      · exact h.elim
    · exact h.elim
  · exact h.elim
end
end G
end
section
/-! G11: built-in functions. -/
namespace G
open PySem L2

section
variable {B : Tb} {E : XK} {X : Cx} {w : Wd} {S : Sto}
theorem gE_args {ms : Env → M (List D)} {f : List D → M D} {r : List V → Hp → VK → Prop} (hr : ∀ xs H Q, gN B E f xs H Q → r xs H Q) (σ : L2.St) (H : Hp) (Q : VK)
    (h : gE B E (fun env => bnd (ms env) f) σ H Q) : tCB r (gA B E ms) σ H Q := by
  obtain ⟨w, env, S, hw, rs, re, h⟩ := h
  subst hw
  refine ⟨w, env, S, rfl, rs, re, h.bnd.imp fun w1 S1 ds l1 rs1 h1 vs rvs => ?_⟩
  exact hr _ _ _ ⟨w1, S1, ds, rfl, rs1, rvs, h1⟩
theorem stars {e : Expr} {es : List Expr} {env : PySem.Env} {pos : Pos} (h : (e :: es).all (fun e => !isStar e) = true) : starEach (e :: es) env = (false, eval e env) :: starEach es env ∧ (backTo pos (starEach es env)).any (·.1) = false := by
  rw [List.all_cons, Bool.and_eq_true] at h
  have h1 : isStar e = false := by simpa using h.1
  exact ⟨star_cons h1, star_plain h.2⟩
theorem ge_callB {id : String} {f : List D → M D} {x : Str} {e : Expr} {es : List Expr} {ms : Env → M (List D)} {p pos : Pos} (hc : CallR X (.builtin id) (gN B E f)) (hg : Gl X x) (hm : X.mg x = none) (hv : bootBuiltins x = some (.builtin id)) (ha : GA B E X (e :: es) ms) (hn : x ≠ "__name__") (hdb : (x == ("__debug__" : Str)) = false)
    (hst : (e :: es).all (fun e => !isStar e) = true) : GE B E X (.Call (.Name x p) (e :: es) [] pos) fun env => bnd (ms env) f :=
  PEmono (pe_callB hc hg hm hv ha hn hdb (stars (pos := pos) hst).1 (stars (pos := pos) hst).2) (gE_args fun _ _ _ h => h)
theorem ge_callTy {T : String} {f : List D → M D} {x : Str} {e : Expr} {es : List Expr} {ms : Env → M (List D)} {p pos : Pos} (hc : CallR X (.type T) (gN B E f)) (hg : Gl X x) (hm : X.mg x = none) (hv : bootBuiltins x = some (.type T)) (ha : GA B E X (e :: es) ms) (hn : x ≠ "__name__") (hdb : (x == ("__debug__" : Str)) = false)
    (hst : (e :: es).all (fun e => !isStar e) = true) : GE B E X (.Call (.Name x p) (e :: es) [] pos) fun env => bnd (ms env) f :=
  PEmono (pe_callTy hc hg hm hv ha hn hdb (stars (pos := pos) hst).1 (stars (pos := pos) hst).2) (gE_args fun _ _ _ h => h)
theorem ge_callBf {id : String} {f : List D → M D} {x : Str} {e : Expr} {es : List Expr} {ms : Env → M (List D)} {p pos : Pos} (hc : CallR X (.builtin id) (gN B E f)) (hg : Gl X x) (hm : X.mg x = some (.builtin id)) (ha : GA B E X (e :: es) ms) (hdb : (x == ("__debug__" : Str)) = false)
    (hst : (e :: es).all (fun e => !isStar e) = true) : GE B E X (.Call (.Name x p) (e :: es) [] pos) fun env => bnd (ms env) f :=
  PEmono (pe_callBfun hc hg hm ha hdb (stars (pos := pos) hst).1 (stars (pos := pos) hst).2) (gE_args fun _ _ _ h => h)

/-! ### numbers -/
def mAbs : List D → M D
  | [.int i] => ret (.int (if i < 0 then -i else i))
  | _ => stuck
theorem rvs1 {d : D} {xs : List V} (r : Rvs B w [d] xs) : ∃ v, xs = [v] ∧ Rv B w d v := by
  simp only [Rvs] at r
  obtain ⟨v, _, rfl, h, rfl⟩ := r
  exact ⟨v, rfl, h⟩
theorem rvs2 {d e : D} {xs : List V} (r : Rvs B w [d, e] xs) : ∃ v u, xs = [v, u] ∧ Rv B w d v ∧ Rv B w e u := by
  simp only [Rvs] at r
  obtain ⟨v, _, rfl, h, u, _, rfl, k, rfl⟩ := r
  exact ⟨v, u, rfl, h, k⟩
theorem abs_ok : CallR X (.builtin "abs") (gN B E mAbs) := by
  intro pins s σ H xs us Q I r ⟨w, S, ds, hw, rs, rds, h⟩
  subst hw
  unfold mAbs at h
  split at h
  · obtain ⟨v, rfl, rv⟩ := rvs1 rds
    simp only [Rv] at rv; subst rv
    exact call_abs pins s σ _ _ us Q I r ⟨_, rfl, PD.ret h rs rv_int⟩
  · exact h.elim
/-- the ints of a list -/
def intsOf : List D → Option (List Int)
  | [] => some []
  | .int i :: ds => match intsOf ds with
    | some is => some (i :: is)
    | none => none
  | _ => none
theorem intsOf_rv : ∀ {ds : List D} {is : List Int} {vs : List V}, intsOf ds = some is → Rvs B w ds vs → vs = is.map V.int
  | [], _, _, h, r => by cases h; exact r
  | .int i :: ds, is, vs, h, r => by
    unfold intsOf at h
    split at h
    · rename_i js e
      cases h
      simp only [Rvs] at r
      obtain ⟨v, us, rfl, h1, h2⟩ := r
      simp only [Rv] at h1
      rw [h1, intsOf_rv e h2]; rfl
    · cases h
def maxI (i : Int) : List Int → Int
  | [] => i
  | j :: js => maxI (if j > i then j else i) js
def minI (i : Int) : List Int → Int
  | [] => i
  | j :: js => minI (if j < i then j else i) js
theorem maxI_spec : ∀ (js : List Int) (i m : Int), (m = i ∨ m ∈ js) → i ≤ m → (∀ y ∈ js, y ≤ m) → maxI i js = m
  | [], i, m, h, h1, _ => by
    rcases h with h | h
    · exact h.symm
    · cases h
  | j :: js, i, m, h, h1, h2 => by
    unfold maxI
    have hj := h2 j (List.mem_cons_self ..)
    refine maxI_spec js _ m ?_ (by split <;> omega) fun y hy => h2 y (List.mem_cons_of_mem _ hy)
    rcases h with h | h
    · left; split <;> omega
    · rcases List.mem_cons.mp h with h | h
      · left; split <;> omega
      · exact .inr h
theorem minI_spec : ∀ (js : List Int) (i m : Int), (m = i ∨ m ∈ js) → m ≤ i → (∀ y ∈ js, m ≤ y) → minI i js = m
  | [], i, m, h, h1, _ => by
    rcases h with h | h
    · exact h.symm
    · cases h
  | j :: js, i, m, h, h1, h2 => by
    unfold minI
    have hj := h2 j (List.mem_cons_self ..)
    refine minI_spec js _ m ?_ (by split <;> omega) fun y hy => h2 y (List.mem_cons_of_mem _ hy)
    rcases h with h | h
    · left; split <;> omega
    · rcases List.mem_cons.mp h with h | h
      · left; split <;> omega
      · exact .inr h
def mMax : List D → M D
  | [.int i, .int j] => ret (.int (if j > i then j else i))
  | [.ref p] => fun S => match lstAt S p with
    | some ds => match intsOf ds with
      | some (i :: is) => some (.ok (.int (maxI i is)) S)
      | _ => none
    | none => none
  | _ => stuck
def mMin : List D → M D
  | [.int i, .int j] => ret (.int (if j < i then j else i))
  | [.ref p] => fun S => match lstAt S p with
    | some ds => match intsOf ds with
      | some (i :: is) => some (.ok (.int (minI i is)) S)
      | _ => none
    | none => none
  | _ => stuck
theorem max_ok (hK : X.K = B.K) (hc : X.calm = true) : CallR X (.builtin "max") (gN B E mMax) := by
  intro pins s σ H xs us Q I r ⟨w, S, ds, hw, rs, rds, h⟩
  subst hw
  unfold mMax at h
  split at h
  · obtain ⟨v, u, rfl, rv, ru⟩ := rvs2 rds
    simp only [Rv] at rv ru; subst rv; subst ru
    exact call_max2 hc pins s σ _ _ us Q I r ⟨_, _, rfl, PD.ret h rs rv_int⟩
  · obtain ⟨v, rfl, rv⟩ := rvs1 rds
    obtain ⟨_, rfl⟩ := rv_ref rv
    split at h
    · rename_i ds el
      split at h
      · rename_i i is ei
        obtain ⟨vs, sq, q⟩ := lstAt_sq rs el
        rw [intsOf_rv ei q] at sq
        refine cr_max hc pins s σ _ _ us Q I r ⟨_, i :: is, rfl, by rw [hK]; exact sq, Nat.succ_pos _, fun m h1 h2 => ?_⟩
        rw [← maxI_spec is i m (List.mem_cons.mp h1) (h2 i (List.mem_cons_self ..)) fun y hy => h2 y (List.mem_cons_of_mem _ hy)]
        exact PD.ret (S := S) h rs rv_int
      · exact h.elim
    · exact h.elim
  · exact h.elim
theorem min_ok (hK : X.K = B.K) (hc : X.calm = true) : CallR X (.builtin "min") (gN B E mMin) := by
  intro pins s σ H xs us Q I r ⟨w, S, ds, hw, rs, rds, h⟩
  subst hw
  unfold mMin at h
  split at h
  · obtain ⟨v, u, rfl, rv, ru⟩ := rvs2 rds
    simp only [Rv] at rv ru; subst rv; subst ru
    exact call_min2 hc pins s σ _ _ us Q I r ⟨_, _, rfl, PD.ret h rs rv_int⟩
  · obtain ⟨v, rfl, rv⟩ := rvs1 rds
    obtain ⟨_, rfl⟩ := rv_ref rv
    split at h
    · rename_i ds el
      split at h
      · rename_i i is ei
        obtain ⟨vs, sq, q⟩ := lstAt_sq rs el
        rw [intsOf_rv ei q] at sq
        refine cr_min hc pins s σ _ _ us Q I r ⟨_, i :: is, rfl, by rw [hK]; exact sq, Nat.succ_pos _, fun m h1 h2 => ?_⟩
        rw [← minI_spec is i m (List.mem_cons.mp h1) (h2 i (List.mem_cons_self ..)) fun y hy => h2 y (List.mem_cons_of_mem _ hy)]
        exact PD.ret (S := S) h rs rv_int
      · exact h.elim
    · exact h.elim
  · exact h.elim
def sumI : List Int → Int
  | [] => 0
  | i :: is => i + sumI is
theorem sumI_eq : ∀ is : List Int, is.sum = sumI is
  | [] => rfl
  | i :: is => by rw [List.sum_cons, sumI_eq is]; rfl
def mSum : List D → M D
  | [.ref p] => fun S => match lstAt S p with
    | some ds => match intsOf ds with
      | some is => some (.ok (.int (sumI is)) S)
      | none => none
    | none => none
  | _ => stuck
theorem sum_ok (hK : X.K = B.K) (hc : X.calm = true) : CallR X (.builtin "sum") (gN B E mSum) := by
  intro pins s σ H xs us Q I r ⟨w, S, ds, hw, rs, rds, h⟩
  subst hw
  unfold mSum at h
  split at h
  · obtain ⟨v, rfl, rv⟩ := rvs1 rds
    obtain ⟨_, rfl⟩ := rv_ref rv
    split at h
    · rename_i ds el
      split at h
      · rename_i is ei
        obtain ⟨vs, sq, q⟩ := lstAt_sq rs el
        rw [intsOf_rv ei q] at sq
        refine cr_sum hc pins s σ _ _ us Q I r ⟨_, is, rfl, by rw [hK]; exact sq, ?_⟩
        rw [sumI_eq]
        exact PD.ret (S := S) h rs rv_int
      · exact h.elim
    · exact h.elim
  · exact h.elim
/-- the bools of a list -/
def blsOf : List D → Option (List Bool)
  | [] => some []
  | .bl i :: ds => match blsOf ds with
    | some is => some (i :: is)
    | none => none
  | _ => none
theorem blsOf_rv : ∀ {ds : List D} {is : List Bool} {vs : List V}, blsOf ds = some is → Rvs B w ds vs → vs = is.map V.bl
  | [], _, _, h, r => by cases h; exact r
  | .bl i :: ds, is, vs, h, r => by
    unfold blsOf at h
    split at h
    · rename_i js e
      cases h
      simp only [Rvs] at r
      obtain ⟨v, us, rfl, h1, h2⟩ := r
      simp only [Rv] at h1
      rw [h1, blsOf_rv e h2]; rfl
    · cases h
def mAll : List D → M D
  | [.ref p] => fun S => match lstAt S p with
    | some ds => match blsOf ds with
      | some is => some (.ok (.bl (is.all id)) S)
      | none => none
    | none => none
  | _ => stuck
def mAny : List D → M D
  | [.ref p] => fun S => match lstAt S p with
    | some ds => match blsOf ds with
      | some is => some (.ok (.bl (is.any id)) S)
      | none => none
    | none => none
  | _ => stuck
theorem all_ok (hK : X.K = B.K) (hc : X.calm = true) : CallR X (.builtin "all") (gN B E mAll) := by
  intro pins s σ H xs us Q I r ⟨w, S, ds, hw, rs, rds, h⟩
  subst hw
  unfold mAll at h
  split at h
  · obtain ⟨v, rfl, rv⟩ := rvs1 rds
    obtain ⟨_, rfl⟩ := rv_ref rv
    split at h
    · rename_i ds el
      split at h
      · rename_i is ei
        obtain ⟨vs, sq, q⟩ := lstAt_sq rs el
        rw [blsOf_rv ei q] at sq
        exact cr_all hc pins s σ _ _ us Q I r ⟨_, is, rfl, by rw [hK]; exact sq, PD.ret (S := S) h rs rv_bl⟩
      · exact h.elim
    · exact h.elim
  · exact h.elim
theorem any_ok (hK : X.K = B.K) (hc : X.calm = true) : CallR X (.builtin "any") (gN B E mAny) := by
  intro pins s σ H xs us Q I r ⟨w, S, ds, hw, rs, rds, h⟩
  subst hw
  unfold mAny at h
  split at h
  · obtain ⟨v, rfl, rv⟩ := rvs1 rds
    obtain ⟨_, rfl⟩ := rv_ref rv
    split at h
    · rename_i ds el
      split at h
      · rename_i is ei
        obtain ⟨vs, sq, q⟩ := lstAt_sq rs el
        rw [blsOf_rv ei q] at sq
        exact cr_any hc pins s σ _ _ us Q I r ⟨_, is, rfl, by rw [hK]; exact sq, PD.ret (S := S) h rs rv_bl⟩
      · exact h.elim
    · exact h.elim
  · exact h.elim
def mDivmod : List D → M D
  | [.int i, .int j] => if decide (0 < j) && decide (j < 1073741824) then ret (.tup [.int (i / j), .int (i % j)]) else stuck
  | _ => stuck
theorem divmod_ok : CallR X (.builtin "divmod") (gN B E mDivmod) := by
  intro pins s σ H xs us Q I r ⟨w, S, ds, hw, rs, rds, h⟩
  subst hw
  unfold mDivmod at h
  split at h
  · split at h
    · rename_i hj
      rw [Bool.and_eq_true, decide_eq_true_eq, decide_eq_true_eq] at hj
      obtain ⟨v, u, rfl, rv, ru⟩ := rvs2 rds
      simp only [Rv] at rv ru; subst rv; subst ru
      exact call_divmod pins s σ _ _ us Q I r ⟨_, _, rfl, hj, fun p hp => PD.tup h rs (.cons rv_int (.cons rv_int .nil)) p hp⟩
    · exact h.elim
  · exact h.elim
def mGcd : List D → M D
  | [.int i, .int j] => ret (.int (Nat.gcd i.natAbs j.natAbs : Nat))
  | _ => stuck
theorem gcd_ok : CallR X (.builtin "math.gcd") (gN B E mGcd) := by
  intro pins s σ H xs us Q I r ⟨w, S, ds, hw, rs, rds, h⟩
  subst hw
  unfold mGcd at h
  split at h
  · obtain ⟨v, u, rfl, rv, ru⟩ := rvs2 rds
    simp only [Rv] at rv ru; subst rv; subst ru
    exact cr_gcd pins s σ _ _ us Q I r ⟨_, _, rfl, PD.ret h rs rv_int⟩
  · exact h.elim

/-! ### len, tuple, list -/
def mLen : List D → M D
  | [.str cs] => fun S => if lenOk cs.length then some (.ok (.int cs.length) S) else none
  | [.tup ds] => ret (.int ds.length)
  | [.ref p] => fun S => match S.get p with
    | some (.lst ds) => some (.ok (.int ds.length) S)
    | some (.frz ds) => some (.ok (.int ds.length) S)
    | some (.dct kvs) => some (.ok (.int kvs.length) S)
    | _ => none
  | _ => stuck
theorem len_ok (hK : X.K = B.K) : CallR X (.builtin "len") (gN B E mLen) := by
  intro pins s σ H xs us Q I r ⟨w, S, ds, hw, rs, rds, h⟩
  subst hw
  unfold mLen at h
  split at h
  · obtain ⟨v, rfl, rv⟩ := rvs1 rds
    simp only [Rv] at rv; subst rv
    split at h
    · rename_i hl
      refine call_len_str pins s σ _ _ us Q I r ⟨_, rfl, by rw [str_len]; exact lenOk_iff hl, ?_⟩
      rw [str_len]
      exact PD.ret (S := S) h rs rv_int
    · exact h.elim
  · obtain ⟨v, rfl, rv⟩ := rvs1 rds
    obtain ⟨a, vs, rfl, t, q⟩ := rv_tup rv
    refine call_len_seq pins s σ _ _ us Q I r ⟨_, vs, rfl, .inr (by rw [hK]; exact t.sq), ?_⟩
    rw [q.length]
    exact PD.ret h rs rv_int
  · obtain ⟨v, rfl, rv⟩ := rvs1 rds
    obtain ⟨_, rfl⟩ := rv_ref rv
    split at h
    · rename_i ds e
      obtain ⟨vs, sq, q⟩ := lstAt_sq rs (show lstAt S _ = some ds by unfold lstAt; rw [e])
      refine call_len_seq pins s σ _ _ us Q I r ⟨_, vs, rfl, .inl (by rw [hK]; exact sq), ?_⟩
      rw [q.length]
      exact PD.ret (S := S) h rs rv_int
    · rename_i ds e
      obtain ⟨vs, sq, q⟩ := lstAt_sq rs (show lstAt S _ = some ds by unfold lstAt; rw [e])
      refine call_len_seq pins s σ _ _ us Q I r ⟨_, vs, rfl, .inl (by rw [hK]; exact sq), ?_⟩
      rw [q.length]
      exact PD.ret (S := S) h rs rv_int
    · rename_i kvs e
      obtain ⟨o, ho, kv, rfl, q⟩ := rs.at_ _ _ e
      refine call_lenD pins s σ _ _ us Q I r ⟨_, kv, rfl, ho, ?_⟩
      rw [q.length]
      exact PD.ret (S := S) h rs rv_int
    · exact h.elim
  · exact h.elim
def mTuple : List D → M D
  | [.tup ds] => ret (.tup ds)
  | [.ref p] => fun S => match lstAt S p with
    | some ds => some (.ok (.tup ds) S)
    | none => none
  | _ => stuck
theorem tuple_ok (hK : X.K = B.K) : CallR X (.type "tuple") (gN B E mTuple) := by
  intro pins s σ H xs us Q I r ⟨w, S, ds, hw, rs, rds, h⟩
  subst hw
  unfold mTuple at h
  split at h
  · obtain ⟨v, rfl, rv⟩ := rvs1 rds
    have rv' := rv
    obtain ⟨a, vs, rfl, t, q⟩ := rv_tup rv
    exact call_tuple_of pins s σ _ _ us Q I r ⟨_, vs, rfl, .inr ⟨by rw [hK]; exact t.sq, PD.ret h rs rv'⟩⟩
  · obtain ⟨v, rfl, rv⟩ := rvs1 rds
    obtain ⟨_, rfl⟩ := rv_ref rv
    split at h
    · rename_i ds e
      obtain ⟨vs, sq, q⟩ := lstAt_sq rs e
      exact call_tuple_of pins s σ _ _ us Q I r ⟨_, vs, rfl, .inl ⟨by rw [hK]; exact sq, fun p hp => PD.tup (S := S) h rs q p hp⟩⟩
    · exact h.elim
  · exact h.elim
def mList : List D → M D
  | [.tup ds] => alloc (.lst ds)
  | [.ref p] => fun S => match lstAt S p with
    | some ds => alloc (.lst ds) S
    | none => none
  | _ => stuck
theorem list_ok (hK : X.K = B.K) : CallR X (.type "list") (gN B E mList) := by
  intro pins s σ H xs us Q I r ⟨w, S, ds, hw, rs, rds, h⟩
  subst hw
  unfold mList at h
  split at h
  · obtain ⟨v, rfl, rv⟩ := rvs1 rds
    obtain ⟨a, vs, rfl, t, q⟩ := rv_tup rv
    exact call_list_of pins s σ _ _ us Q I r ⟨_, vs, rfl, .inr (by rw [hK]; exact t.sq), fun p hp => PD.lst h rs q p hp⟩
  · obtain ⟨v, rfl, rv⟩ := rvs1 rds
    obtain ⟨_, rfl⟩ := rv_ref rv
    split at h
    · rename_i ds e
      obtain ⟨vs, sq, q⟩ := lstAt_sq rs e
      exact call_list_of pins s σ _ _ us Q I r ⟨_, vs, rfl, .inl (by rw [hK]; exact sq), fun p hp => PD.lst h rs q p hp⟩
    · exact h.elim
  · exact h.elim
end
end G
end
section
/-! G12: texts of numbers and data, isinstance, join, split, texts times numbers. -/
namespace G
open PySem L2

/-! ### numbers as texts -/
def strI : Int → List Nat
  | .ofNat n => TL.numL n
  | .negSucc n => 45 :: TL.numL (n + 1)
theorem strI_eq (i : Int) : (Str.ofString (toString i)) = ⟨(strI i).toArray⟩ := by
  cases i with
  | ofNat n =>
    refine TL.ext_tl ?_
    exact TL.tl_num n
  | negSucc n =>
    rw [PySem.Str.ofString_eq_toList]
    have h1 : toString (Int.negSucc n) = "-" ++ Nat.repr (n + 1) := rfl
    have h2 := TL.tl_num (n + 1)
    rw [PySem.Str.ofString_eq_toList] at h2
    have h3 : (toString (((n + 1 : Nat) : Int))) = Nat.repr (n + 1) := rfl
    rw [h3] at h2
    rw [h1, String.toList_append, List.map_append]
    show (⟨(List.map Char.toNat "-".toList ++ List.map Char.toNat (Nat.repr (n + 1)).toList).toArray⟩ : Str) = ⟨(45 :: TL.numL (n + 1)).toArray⟩
    rw [← h2]
    rfl
def digV (cs : List Nat) : Option Int :=
  if cs.all (fun c => Nat.ble 48 c && Nat.ble c 57) && !cs.isEmpty && Nat.ble cs.length 640 then some (NumText.digitsVal cs : Nat) else none
theorem digV_ok {cs : List Nat} {n : Int} (h : digV cs = some n) : PySem.intText? ⟨cs.toArray⟩ = some n ∧ (⟨cs.toArray⟩ : Str).length ≤ 640 := by
  unfold digV at h
  split at h
  · rename_i hc
    rw [Bool.and_eq_true, Bool.and_eq_true] at hc
    obtain ⟨⟨h1, h2⟩, h3⟩ := hc
    have h4 : cs.length ≤ 640 := Nat.le_of_ble_eq_true h3
    cases h
    refine ⟨?_, by rw [str_len]; exact h4⟩
    refine intText_digits (x := ⟨cs.toArray⟩) (fun c hc => ?_) (fun e => ?_) (by rw [str_len]; omega)
    · have hc : c ∈ cs := by simpa using hc
      have := List.all_eq_true.mp h1 c hc
      rw [Bool.and_eq_true] at this
      exact ⟨Nat.le_of_ble_eq_true this.1, Nat.le_of_ble_eq_true this.2⟩
    · have e : cs = [] := by simpa using e
      subst e; cases h2
  · cases h
def mInt : List D → M D
  | [.int i] => ret (.int i)
  | [.bl b] => ret (.int (if b then 1 else 0))
  | [.str cs] => fun S => match digV cs with
    | some n => some (.ok (.int n) S)
    | none => none
  | _ => stuck
def bitsOk (i : Int) : Bool := Nat.blt i.natAbs.log2 1920
theorem bitsOk_iff {i : Int} (h : bitsOk i = true) : i.natAbs.log2 < 1920 := Nat.le_of_ble_eq_true h
def mStr : List D → M D
  | [.int i] => fun S => if bitsOk i then some (.ok (.str (strI i)) S) else none
  | [.str cs] => ret (.str cs)
  | _ => stuck
section
variable {B : Tb} {E : XK} {X : Cx} {w : Wd} {S : Sto}
theorem int_ok : CallR X (.type "int") (gN B E mInt) := by
  intro pins s σ H xs us Q I r ⟨w, S, ds, hw, rs, rds, h⟩
  subst hw
  unfold mInt at h
  split at h
  · obtain ⟨v, rfl, rv⟩ := rvs1 rds
    simp only [Rv] at rv; subst rv
    exact call_int1 pins s σ _ _ us Q I r (.inl ⟨_, rfl, PD.ret h rs rv_int⟩)
  · obtain ⟨v, rfl, rv⟩ := rvs1 rds
    simp only [Rv] at rv; subst rv
    exact call_int1 pins s σ _ _ us Q I r (.inr ⟨_, rfl, PD.ret h rs rv_int⟩)
  · obtain ⟨v, rfl, rv⟩ := rvs1 rds
    simp only [Rv] at rv; subst rv
    split at h
    · rename_i n e
      obtain ⟨h1, h2⟩ := digV_ok e
      exact call_int_str pins s σ _ _ us Q I r ⟨_, n, rfl, h1, h2, PD.ret (S := S) h rs rv_int⟩
    · exact h.elim
  · exact h.elim
theorem str_ok : CallR X (.type "str") (gN B E mStr) := by
  intro pins s σ H xs us Q I r ⟨w, S, ds, hw, rs, rds, h⟩
  subst hw
  unfold mStr at h
  split at h
  · obtain ⟨v, rfl, rv⟩ := rvs1 rds
    simp only [Rv] at rv; subst rv
    split at h
    · rename_i hb
      refine call_str_int pins s σ _ _ us Q I r ⟨_, rfl, bitsOk_iff hb, ?_⟩
      rw [strI_eq]
      exact PD.ret (S := S) h rs rv_str
    · exact h.elim
  · obtain ⟨v, rfl, rv⟩ := rvs1 rds
    simp only [Rv] at rv; subst rv
    exact SkE.call_str_str pins s σ _ _ us Q I r ⟨_, rfl, PD.ret h rs rv_str⟩
  · exact h.elim
end

/-! ### data as texts -/
mutual
/-- no shorter than the text of it -/
def shB : PyData → Option Nat
  | .none => some 4
  | .bool _ => some 5
  | .int i => if bitsOk i then some (i.natAbs.log2 + 3) else none
  | .str x => if x.cps.toList.all (fun c => Nat.blt c 4294967296) then some (10 * x.cps.toList.length + 2) else none
  | .list xs => match shBs xs with
    | some n => some (n + 2)
    | none => none
  | .tuple xs => match shBs xs with
    | some n => some (n + 3)
    | none => none
  | .dict [] => some 2
  | .dict (_ :: _) => none
def shBs : List PyData → Option Nat
  | [] => some 0
  | x :: xs => match shB x, shBs xs with
    | some n, some m => some (n + 2 + m)
    | _, _ => none
end
theorem textFrom_le : ∀ (ts : List Str) (k : Nat) (acc : Str), (textFrom k acc ts).length ≤ acc.length + piled ts
  | [], k, acc => by rw [piled_nil]; exact Nat.le_refl _
  | t :: r, k, acc => by
    have h1 := textFrom_le r (k + 1) (acc ++ (if k > 0 then ", " else "" : String) ++ t)
    have h2 : (acc ++ (if k > 0 then ", " else "" : String) ++ t).length = acc.length + (if k > 0 then 2 else 0) + t.length := by
      rw [strLen_append, strLen_append]
      split <;> rfl
    rw [piled_cons]
    show (textFrom (k + 1) (acc ++ (if k > 0 then ", " else "" : String) ++ t) r).length ≤ _
    rw [h2] at h1
    have h3 : (if k > 0 then 2 else 0 : Nat) ≤ 2 := by split <;> omega
    omega
theorem num_len (i : Int) : (Str.ofString (toString i)).length ≤ i.natAbs.log2 + 3 := by
  have h0 : ∀ n : Nat, (TL.numL n).length ≤ n.log2 + 2 := fun n => by
    have h1 : n < 10 ^ (n.log2 + 1) := by
      by_cases h : n = 0
      · subst h; decide
      · have := (Nat.log2_lt h).mp (Nat.lt_succ_self n.log2)
        exact Nat.lt_of_lt_of_le this (Nat.pow_le_pow_left (by decide) _)
    have := TL.numL_len (Nat.succ_pos _) h1
    omega
  rw [strI_eq, str_len]
  cases i with
  | ofNat n => have := h0 n; show (TL.numL n).length ≤ n.log2 + 3; omega
  | negSucc n => have := h0 (n + 1); show (TL.numL (n + 1)).length + 1 ≤ (n + 1).log2 + 3; omega
mutual
theorem shB_ok : ∀ {p : PyData} {n : Nat}, shB p = some n → p.showable = true ∧ p.shown.length ≤ n := fun {p n} h => by
  cases p with
  | none => simp only [shB] at h; cases h; exact ⟨rfl, by decide⟩
  | bool b => simp only [shB] at h; cases h; cases b <;> exact ⟨rfl, by decide⟩
  | int i =>
    simp only [shB] at h
    split at h
    · rename_i hb
      cases h
      exact ⟨decide_eq_true (bitsOk_iff hb), num_len i⟩
    · cases h
  | str x =>
    simp only [shB] at h
    split at h
    · rename_i hb
      cases h
      refine ⟨rfl, ?_⟩
      have := StrLaws.reprText_len x fun c hc => by
        have h1 := List.all_eq_true.mp hb c hc
        have h2 : c + 1 ≤ 4294967296 := Nat.le_of_ble_eq_true h1
        have h3 : (16 : Nat) ^ 8 = 4294967296 := by decide
        omega
      have e : x.cps.toList.length = x.length := by simp [Str.length]
      rw [e]
      exact this
    · cases h
  | list xs =>
    simp only [shB] at h
    split at h
    · rename_i m e
      cases h
      obtain ⟨h1, h3⟩ := shBs_ok e
      refine ⟨by simpa only [PyData.showable] using h1, ?_⟩
      simp only [PyData.shown]
      unfold listText
      rw [strLen_append]
      have := textFrom_le (PyData.shownAll xs) 0 "["
      have e1 : (("[" : String) : Str).length = 1 := by decide
      have e2 : (("]" : String) : Str).length = 1 := by decide
      rw [e1] at this
      rw [e2]
      omega
    · cases h
  | tuple xs =>
    simp only [shB] at h
    split at h
    · rename_i m e
      cases h
      obtain ⟨h1, h3⟩ := shBs_ok e
      refine ⟨by simpa only [PyData.showable] using h1, ?_⟩
      simp only [PyData.shown]
      unfold tupleText
      rw [strLen_append, strLen_append]
      have e1 : (("(" : String) : Str).length = 1 := by decide
      have e2 : ((if (PyData.shownAll xs).length == 1 then ",)" else ")" : String) : Str).length ≤ 2 := by split <;> decide
      have e3 : (Str.join ", " (PyData.shownAll xs)).length ≤ piled (PyData.shownAll xs) := by
        by_cases hn : PyData.shownAll xs = []
        · rw [hn]; exact Nat.zero_le _
        · have := join_length_add _ hn
          omega
      rw [e1]
      omega
    · cases h
  | dict kvs =>
    cases kvs with
    | nil => simp only [shB] at h; cases h; exact ⟨by simp [PyData.showable, PyData.showableKv], by simp only [PyData.shown]; decide⟩
    | cons _ _ => simp only [shB] at h; cases h
theorem shBs_ok : ∀ {ps : List PyData} {n : Nat}, shBs ps = some n → PyData.showableAll ps = true ∧ piled (PyData.shownAll ps) ≤ n := fun {ps n} h => by
  cases ps with
  | nil => simp only [shBs] at h; cases h; exact ⟨rfl, Nat.le_refl _⟩
  | cons p ps =>
    simp only [shBs] at h
    split at h
    · rename_i a b e1 e2
      cases h
      obtain ⟨h1, h3⟩ := shB_ok e1
      obtain ⟨k1, k3⟩ := shBs_ok e2
      refine ⟨by simp only [PyData.showableAll, h1, k1, Bool.and_self], ?_⟩
      simp only [PyData.shownAll]
      rw [piled_cons]
      omega
    · cases h
end
mutual
/-- data that are shown: as pd, and the empty dict -/
def pdr (S : Sto) : Nat → D → Option PyData
  | 0, _ => none
  | n + 1, d => match d with
    | .non => some .none
    | .bl b => some (.bool b)
    | .int i => some (.int i)
    | .str cs => some (.str ⟨cs.toArray⟩)
    | .tup ds => match pdrs S n ds with
      | some ps => some (.tuple ps)
      | none => none
    | .ref i => match S.get i with
      | some (.dct []) => some (.dict [])
      | _ => match lstAt S i with
        | some ds => match pdrs S n ds with
          | some ps => some (.list ps)
          | none => none
        | none => none
    | _ => none
def pdrs (S : Sto) : Nat → List D → Option (List PyData)
  | 0, _ => none
  | n + 1, ds => match ds with
    | [] => some []
    | d :: ds => match pdr S n d, pdrs S n ds with
      | some p, some ps => some (p :: ps)
      | _, _ => none
end
mutual
inductive Dq (K : PySem.W.Frag) (H : Hp) : V → PyData → Prop
  | non : Dq K H .non .none
  | bl (b : Bool) : Dq K H (.bl b) (.bool b)
  | int (i : Int) : Dq K H (.int i) (.int i)
  | str (x : Str) : Dq K H (.str x) (.str x)
  | lst {a : Addr} {xs : List V} {ds : List PyData} : SqL K H a xs → DqAll K H xs ds → Dq K H (.ref a) (.list ds)
  | tup {a : Addr} {xs : List V} {ds : List PyData} : SqT K H a xs → DqAll K H xs ds → Dq K H (.ref a) (.tuple ds)
  | dct {a : Addr} : H a = some (.dK []) → Dq K H (.ref a) (.dict [])
inductive DqAll (K : PySem.W.Frag) (H : Hp) : List V → List PyData → Prop
  | nil : DqAll K H [] []
  | cons {v : V} {vs : List V} {d : PyData} {ds : List PyData} : Dq K H v d → DqAll K H vs ds → DqAll K H (v :: vs) (d :: ds)
end
section
variable {X : Cx} {pins : List (Addr × Obj)} {σ : St} {H : Hp} {s : Shared}
mutual
theorem Dq.reads (I : Inv X pins σ H s) (sm : ∃ o, X.K.lookup sysModules = some o ∧ o.cls = .type "dict") : ∀ (d : PyData) (v : V) (u : Value), Dq X.K H v d → RelV v u → ∃ as, Reads s.heap u d as ∧ sysModules ∉ as
  | .none, _, _, h, r => by
    cases h; cases r
    exact ⟨_, Reads.none, by simp⟩
  | .bool b, _, _, h, r => by
    cases h; cases r
    exact ⟨_, Reads.bool b, by simp⟩
  | .int i, _, _, h, r => by
    cases h
    obtain ⟨t, rfl⟩ := r
    exact ⟨_, Reads.int i t, by simp⟩
  | .str x, _, _, h, r => by
    cases h
    obtain ⟨t, rfl⟩ := r
    exact ⟨_, Reads.str x t, by simp⟩
  | .list ds, _, _, h, r => by
    cases h with
    | lst hs ha =>
      cases r
      obtain ⟨its, rv, ⟨o, n, ho, hc, hdn, hd⟩, hz⟩ := I.list hs
      obtain ⟨as, hr, hn⟩ := Dq.readsAll I sm ds _ its ha rv
      refine ⟨_, Reads.list ho hc hd hr, fun z => ?_⟩
      rcases List.mem_cons.mp z with z | z
      · obtain ⟨o2, h2, c2⟩ := sm
        have h3 := I.kIn _ _ h2
        rw [z, ho] at h3
        cases h3
        rw [hc] at c2
        exact absurd (Value.type.inj c2) (by decide)
      · exact hn z
  | .tuple ds, _, _, h, r => by
    cases h with
    | tup hs ha =>
      cases r
      obtain ⟨its, rv, ⟨o, ho, hc, n, hd⟩, hz⟩ := I.tuple hs
      obtain ⟨as, hr, hn⟩ := Dq.readsAll I sm ds _ its ha rv
      exact ⟨_, Reads.tuple ho hc hd hr, hn⟩
  | .dict kvs, _, _, h, r => by
    cases h with
    | dct ea =>
      cases r
      obtain ⟨_, ns, vs, kv, o, es, ep, h1, h2, h3, h4, h5⟩ := I.hok _ _ ea
      cases kv
      have he : es.toList = [] := by
        cases e : es.toList with
        | nil => rfl
        | cons a b => rw [e] at h5; exact nomatch h5
      refine ⟨_, Reads.dict (as := []) (bs := []) h1 h2.1 h3 (by rw [he]; exact ReadsAll.nil) (by rw [he]; exact ReadsAll.nil), fun z => ?_⟩
      rcases List.mem_cons.mp z with z | z
      · subst z
        simp at ns
      · simp at z
theorem Dq.readsAll (I : Inv X pins σ H s) (sm : ∃ o, X.K.lookup sysModules = some o ∧ o.cls = .type "dict") : ∀ (ds : List PyData) (vs : List V) (us : List Value), DqAll X.K H vs ds → Vals vs us → ∃ as, ReadsAll s.heap us ds as ∧ sysModules ∉ as
  | [], _, _, h, r => by
    cases h; cases r
    exact ⟨_, ReadsAll.nil, by simp⟩
  | d :: ds, _, _, h, r => by
    cases h with
    | cons h1 h2 =>
      cases r with
      | cons r1 r2 =>
        obtain ⟨as, q1, n1⟩ := Dq.reads I sm d _ _ h1 r1
        obtain ⟨bs, q2, n2⟩ := Dq.readsAll I sm ds _ _ h2 r2
        exact ⟨_, ReadsAll.cons q1 q2, fun z => (List.mem_append.mp z).elim n1 n2⟩
end
end
section
variable {B : Tb} {w : Wd} {S : Sto}
mutual
theorem pdr_ok (rs : RS B w S) : ∀ (n : Nat) {d : D} {v : V} {p : PyData}, pdr S n d = some p → Rv B w d v → Dq B.K w.H v p
  | 0, _, _, _, h, _ => by simp [pdr] at h
  | n + 1, d, v, p, h, r => by
    cases d with
    | non => simp only [pdr] at h; cases h; simp only [Rv] at r; subst r; exact .non
    | bl b => simp only [pdr] at h; cases h; simp only [Rv] at r; subst r; exact .bl b
    | int i => simp only [pdr] at h; cases h; simp only [Rv] at r; subst r; exact .int i
    | str cs => simp only [pdr] at h; cases h; simp only [Rv] at r; subst r; exact .str _
    | tup ds =>
      simp only [pdr] at h
      obtain ⟨a, vs, rfl, t, q⟩ := rv_tup r
      split at h
      · rename_i ps e
        cases h
        exact .tup t.sq (pdrs_ok rs n e q)
      · cases h
    | ref i =>
      simp only [pdr] at h
      obtain ⟨hi, rfl⟩ := rv_ref r
      split at h
      · rename_i e
        cases h
        obtain ⟨o, ho, kv, rfl, q⟩ := rs.at_ _ _ e
        cases kv with
        | nil => exact .dct ho
        | cons _ _ => exact nomatch q
      · split at h
        · rename_i ds el
          split at h
          · rename_i ps e
            cases h
            obtain ⟨vs, s, q⟩ := lstAt_sq rs el
            exact .lst s (pdrs_ok rs n e q)
          · cases h
        · cases h
    | ty _ => simp only [pdr] at h; cases h
    | fn _ => simp only [pdr] at h; cases h
    | cl _ => simp only [pdr] at h; cases h
    | wd _ => simp only [pdr] at h; cases h
    | bm _ _ => simp only [pdr] at h; cases h
    | rp _ => simp only [pdr] at h; cases h
    | ex _ _ => simp only [pdr] at h; cases h
theorem pdrs_ok (rs : RS B w S) : ∀ (n : Nat) {ds : List D} {vs : List V} {ps : List PyData}, pdrs S n ds = some ps → Rvs B w ds vs → DqAll B.K w.H vs ps
  | 0, _, _, _, h, _ => by simp [pdrs] at h
  | n + 1, ds, vs, ps, h, r => by
    cases ds with
    | nil => simp only [pdrs] at h; cases h; simp only [Rvs] at r; subst r; exact .nil
    | cons d ds =>
      simp only [pdrs] at h
      simp only [Rvs] at r
      obtain ⟨v, q, rfl, r1, r2⟩ := r
      split at h
      · rename_i p ps' e1 e2
        cases h
        exact .cons (pdr_ok rs n e1 r1) (pdrs_ok rs n e2 r2)
      · cases h
end
end
def mRepr : List D → M D
  | [d] => fun S => match pdr S 400 d with
    | some p => match shB p with
      | some n => if lenOk n && Nat.ble p.depth 100 then some (.ok (.rp p) S) else none
      | none => none
    | none => none
  | _ => stuck
section
variable {B : Tb} {E : XK} {X : Cx} {w : Wd} {S : Sto}
theorem repr_ok (hK : X.K = B.K) (hg : X.A.guards = some []) (hu : X.A.units + 102 < cLine) : CallR X (.builtin "repr") (gN B E mRepr) := by
  intro pins s σ H xs us Q I r ⟨w, S, ds, hw, rs, rds, h⟩
  subst hw
  unfold mRepr at h
  split at h
  · rename_i d
    obtain ⟨v, rfl, rv⟩ := rvs1 rds
    obtain ⟨u, rfl, ru⟩ := vals1 r
    split at h
    · rename_i p ep
      split at h
      · rename_i n en
        split at h
        · rename_i hc
          rw [Bool.and_eq_true] at hc
          obtain ⟨h1, h3⟩ := shB_ok en
          have hl : p.shown.length ≤ sizeLine := Nat.le_trans h3 (lenOk_iff hc.1)
          have hd : p.depth ≤ 100 := Nat.le_of_ble_eq_true hc.2
          have q := PD.ret (S := S) (v := .str p.shown) h rs (by simp only [Rv])
          have dp := pdr_ok rs _ ep rv
          rw [← hK] at dp
          obtain ⟨as, rd, nsm⟩ := Dq.reads I (by rw [hK]; exact B.smd) p v u dp ru
          cases dp with
          | non =>
            cases (show u = Value.none from ru)
            exact PySem.P.repr_of_none ⟨.str _, _, I.tok _, ⟨_, rfl⟩, q⟩
          | bl b =>
            cases (show u = Value.bool b from ru)
            exact PySem.P.repr_of_bool ⟨.str _, _, I.tok _, ⟨_, rfl⟩, q⟩
          | int i =>
            obtain ⟨t, rfl⟩ := ru
            exact SkE.call_repr_int pins s σ _ [.int i] _ Q I (.cons ⟨t, rfl⟩ .nil) ⟨i, rfl, by simpa [PyData.showable] using h1, q⟩
          | str x =>
            obtain ⟨t, rfl⟩ := ru
            exact PySem.P.repr_of_str (s := s) ⟨.str _, _, I.tok _, ⟨_, rfl⟩, q⟩ hl
          | lst _ _ =>
            obtain rfl := (show u = Value.ref _ from ru)
            exact repr_of_reads' rd h1 (fun _ => nsm) hg (by omega) (fun b o e => e) (fun h' u tk hk => ⟨.str _, _, I.kept (t' := tk) hk, ⟨_, rfl⟩, q⟩) hl
          | tup _ _ =>
            obtain rfl := (show u = Value.ref _ from ru)
            exact repr_of_reads' rd h1 (fun _ => nsm) hg (by omega) (fun b o e => e) (fun h' u tk hk => ⟨.str _, _, I.kept (t' := tk) hk, ⟨_, rfl⟩, q⟩) hl
          | dct _ =>
            obtain rfl := (show u = Value.ref _ from ru)
            exact repr_of_reads' rd h1 (fun _ => nsm) hg (by omega) (fun b o e => e) (fun h' u tk hk => ⟨.str _, _, I.kept (t' := tk) hk, ⟨_, rfl⟩, q⟩) hl
        · exact h.elim
      · exact h.elim
    · exact h.elim
  · exact h.elim
end
end G
end
section
/-! G13: texts: join, split, times; isinstance; index. -/
namespace G
open PySem L2
section
variable {B : Tb} {E : XK} {X : Cx} {w : Wd} {S : Sto}
/-- the texts of a list -/
def strsOf : List D → Option (List (List Nat))
  | [] => some []
  | .str i :: ds => match strsOf ds with
    | some is => some (i :: is)
    | none => none
  | _ => none
def mkS (cs : List Nat) : Str := ⟨cs.toArray⟩
theorem strsOf_rv : ∀ {ds : List D} {is : List (List Nat)} {vs : List V}, strsOf ds = some is → Rvs B w ds vs → vs = (is.map mkS).map V.str
  | [], _, _, h, r => by cases h; exact r
  | .str i :: ds, is, vs, h, r => by
    unfold strsOf at h
    split at h
    · rename_i js e
      cases h
      simp only [Rvs] at r
      obtain ⟨v, us, rfl, h1, h2⟩ := r
      simp only [Rv] at h1
      rw [h1, strsOf_rv e h2]; rfl
    · cases h
def sumLen : List (List Nat) → Nat
  | [] => 0
  | c :: cs => c.length + sumLen cs
theorem sumLen_eq : ∀ is : List (List Nat), ((is.map mkS).map (·.length)).sum = sumLen is
  | [] => rfl
  | i :: is => by
    rw [List.map_cons, List.map_cons, List.sum_cons, sumLen_eq is]
    show (mkS i).length + _ = _
    rw [show (mkS i).length = i.length from str_len i]; rfl
def joinD (a : List Nat) : List (List Nat) → List Nat
  | [] => []
  | [p] => p
  | p :: q :: r => p ++ (a ++ joinD a (q :: r))
theorem joinD_eq (a : List Nat) : ∀ is : List (List Nat), TL.joinL a is = joinD a is
  | [] => rfl
  | [p] => rfl
  | p :: q :: r => by
    show p ++ (a ++ TL.joinL a (q :: r)) = _
    rw [joinD_eq a (q :: r)]; rfl
theorem join_txt (a : List Nat) (is : List (List Nat)) : Txt.join (mkS a) (is.map mkS) = mkS (joinD a is) := by
  refine TL.ext_tl ?_
  rw [TL.join_eq, TL.tl_join, List.map_map]
  have : (TL.tl ∘ mkS) = id := by funext c; rfl
  rw [this, List.map_id, joinD_eq]
  rfl
def joinOn (a : List Nat) (ds : List D) (S : Sto) : Option (Res D) := match strsOf ds with
  | some is => if Nat.ble (sumLen is + is.length * a.length) 16777216 then some (.ok (.str (joinD a is)) S) else none
  | none => none
def mJoin : D → List D → M D
  | .str a, [.tup ds] => joinOn a ds
  | .str a, [.ref p] => fun S => match lstAt S p with
    | some ds => joinOn a ds S
    | none => none
  | _, _ => stuck
theorem join_ok (hK : X.K = B.K) : MtR X "str.join" (gM B E mJoin) := by
  intro pins s σ H x vs v us Q I rx rxs ⟨w, S, d, ds, hw, rs, rd, rds, h⟩
  subst hw
  have fin : ∀ {a : List Nat} {p : Addr} {xs : List D} {zs : List V}, x = .str (mkS a) → vs = [.ref p] → (SqL X.K w.H p zs ∨ SqT X.K w.H p zs) → Rvs B w xs zs → PD B E w (joinOn a xs S) Q →
      wpAny (model X.prog X.w) X.A (call (.builtin "str.join") (v :: us)) (EP X pins σ Q) X.xe s := fun {a p xs zs} e1 e2 sq q h => by
    unfold joinOn at h
    split at h
    · rename_i is ei
      split at h
      · rename_i hl
        rw [strsOf_rv ei q] at sq
        refine mt_join pins s σ _ _ _ v us Q I rx rxs ⟨mkS a, p, is.map mkS, e1, e2, sq, ?_, ?_⟩
        · rw [sumLen_eq, List.length_map, show (mkS a).length = a.length from str_len a]
          exact Nat.le_of_ble_eq_true hl
        · rw [join_txt]
          exact PD.ret (S := S) h rs rv_str
      · exact h.elim
    · exact h.elim
  unfold mJoin at h
  split at h
  · simp only [Rv] at rd; subst rd
    obtain ⟨yv, rfl, ry⟩ := rvs1 rds
    obtain ⟨p, zs, rfl, t, q⟩ := rv_tup ry
    exact fin rfl rfl (.inr (by rw [hK]; exact t.sq)) q h
  · simp only [Rv] at rd; subst rd
    obtain ⟨yv, rfl, ry⟩ := rvs1 rds
    obtain ⟨_, rfl⟩ := rv_ref ry
    split at h
    · rename_i xs e
      obtain ⟨zs, sq, q⟩ := lstAt_sq rs e
      exact fin rfl rfl (.inl (by rw [hK]; exact sq)) q h
    · exact h.elim
  · exact h.elim

/-! ### a text times a number -/
def repD : Nat → List Nat → List Nat
  | 0, _ => []
  | n + 1, cs => cs ++ repD n cs
theorem repD_len (cs : List Nat) : ∀ n, (repD n cs).length = n * cs.length
  | 0 => by simp [repD]
  | n + 1 => by unfold repD; rw [List.length_append, repD_len cs n, Nat.succ_mul, Nat.add_comm]
theorem foldl_app (cs : List Nat) : ∀ (n : Nat) (acc : List Nat), (List.replicate n cs.toArray).foldl (· ++ ·) acc.toArray = (acc ++ repD n cs).toArray
  | 0, acc => by simp [repD]
  | n + 1, acc => by
    rw [List.replicate_succ, List.foldl_cons]
    have : acc.toArray ++ cs.toArray = (acc ++ cs).toArray := by simp
    rw [this, foldl_app cs n (acc ++ cs), show repD (n + 1) cs = cs ++ repD n cs from rfl, List.append_assoc]
theorem tooLong_ok {n : Nat} (h : n ≤ sizeLine) : Builtin.Str.tooLong n = false := by
  unfold Builtin.Str.tooLong
  exact decide_eq_false (by have := sizeLine_eq; omega)
def mMul2 (d e : D) : M D := match d, e with
  | .str cs, .int k => fun S => if decide (-1000000 ≤ k) && decide (k ≤ 1000000) && lenOk (k.toNat * cs.length) then some (.ok (.str (repD k.toNat cs)) S) else none
  | d, e => mMul d e
theorem mulS_ok : OpR X (binaryOp .Mult) (fun x y H Q => ∃ (cs : List Nat) (k : Int), x = .str (mkS cs) ∧ y = .int k ∧ -1000000 ≤ k ∧ k ≤ 1000000 ∧ k.toNat * cs.length ≤ sizeLine ∧ Q (.str (mkS (repD k.toNat cs))) H) := by
  intro pins s σ H x y v u Q I rx ry ⟨cs, k, e1, e2, h1, h2, h3, q⟩
  subst e1; subst e2
  obtain ⟨t, rfl⟩ := rx
  obtain ⟨t', rfl⟩ := ry
  have hs : sizeLine = 16777216 := sizeLine_eq
  have hlen : (mkS cs).length = cs.length := str_len cs
  have hL : cs.length * k.toNat ≤ sizeLine := by rw [Nat.mul_comm]; exact h3
  refine PySem.P.mul_str ?_ (fun g1 g2 => ?_) (fun g1 g2 => ?_) ?_
  · rw [decide_eq_false (by omega), decide_eq_false (by omega)]; rfl
  · rw [hlen]
    intro z
    have hk1 : (0 : Int) < k := by omega
    have h4 := Int.lt_ediv_add_one_mul_self (2 ^ 63 - 1) hk1
    have h5 : ((2 ^ 63 - 1) / k + 1) * k ≤ (cs.length : Int) * k := Int.mul_le_mul_of_nonneg_right (by omega) (by omega)
    have h6 : (cs.length : Int) * k = ((cs.length * k.toNat : Nat) : Int) := by
      rw [Int.natCast_mul, Int.toNat_of_nonneg (by omega)]
    omega
  · rw [hlen]
    exact tooLong_ok hL
  · by_cases hk : k < 1
    · rw [if_pos hk]
      have : k.toNat = 0 := by omega
      rw [this] at q
      exact ⟨by decide, ⟨.str Str.empty, H, I.tok _, ⟨_, rfl⟩, q⟩⟩
    · rw [if_neg hk]
      by_cases h1' : (k == 1 || (mkS cs).length == 0) = true
      · rw [if_pos h1']
        have : mkS (repD k.toNat cs) = mkS cs := by
          rw [Bool.or_eq_true] at h1'
          rcases h1' with h | h
          · have : k = 1 := by simpa using h
            subst this
            show mkS (cs ++ []) = _
            rw [List.append_nil]
          · rw [hlen] at h
            have : cs = [] := by cases cs with
              | nil => rfl
              | cons a b => simp at h
            subst this
            have : repD k.toNat [] = [] := List.length_eq_zero_iff.mp (by rw [repD_len]; simp)
            rw [this]
        rw [this] at q
        exact ⟨.str _, H, I, ⟨_, rfl⟩, q⟩
      · rw [if_neg h1']
        have e := foldl_app cs k.toNat []
        rw [List.nil_append] at e
        have e' : (⟨(List.replicate k.toNat (mkS cs).cps).foldl (· ++ ·) #[]⟩ : Str) = mkS (repD k.toNat cs) := by
          show (⟨(List.replicate k.toNat cs.toArray).foldl (· ++ ·) #[]⟩ : Str) = _
          rw [show (#[] : Array Nat) = ([] : List Nat).toArray from rfl, e]; rfl
        rw [e']
        exact ⟨by rw [show (mkS (repD k.toNat cs)).length = (repD k.toNat cs).length from str_len _, repD_len]; exact h3, .str _, H, I.tok _, ⟨_, rfl⟩, q⟩
theorem Rvs.rep {ds : List D} {vs : List V} (r : Rvs B w ds vs) : ∀ n, Rvs B w (List.replicate n ds).flatten (List.replicate n vs).flatten
  | 0 => .nil
  | n + 1 => by
    rw [List.replicate_succ, List.replicate_succ, List.flatten_cons, List.flatten_cons]
    exact r.app (Rvs.rep r n)
theorem mul_ok : OpR X (binaryOp .Mult) (g2 B E mMul2) := by
  intro pins s σ H x y v u Q I rx ry ⟨w, S, d, e, hw, rs, rd, re, h⟩
  subst hw
  unfold mMul2 at h
  split at h
  · simp only [Rv] at rd re
    subst rd; subst re
    split at h
    · rename_i hc
      rw [Bool.and_eq_true, Bool.and_eq_true, decide_eq_true_eq, decide_eq_true_eq] at hc
      exact mulS_ok pins s σ _ _ _ v u Q I rx ry ⟨_, _, rfl, rfl, hc.1.1, hc.1.2, lenOk_iff hc.2, PD.ret (S := S) h rs rv_str⟩
    · exact h.elim
  · unfold mMul at h
    split at h
    · simp only [Rv] at rd re
      subst rd; subst re
      split at h
      · rename_i hc
        have hc := of_decide_eq_true hc
        exact op_mulX pins s σ _ _ _ v u Q I rx ry ⟨_, _, rfl, rfl, by unfold CMulX; omega, PD.ret (S := S) h rs rv_int⟩
      · exact h.elim
    · obtain ⟨_, rfl⟩ := rv_ref rd
      simp only [Rv] at re
      subst re
      split at h
      · rename_i xs e
        obtain ⟨o, ho, us', rfl, q⟩ := rs.at_ _ _ e
        split at h
        · rename_i hc
          rw [Bool.and_eq_true, Bool.and_eq_true, decide_eq_true_eq, decide_eq_true_eq] at hc
          refine op_rep pins s σ _ _ _ v u Q I rx ry ⟨_, _, us', rfl, rfl, ho, hc.1.1, hc.1.2, by rw [q.length]; exact lenOk_iff hc.2, fun p hp => PD.lst h rs ?_ p hp⟩
          exact Rvs.rep q _
        · exact h.elim
      · exact h.elim
    · exact h.elim

/-! ### index -/
theorem idxFl_spec {d : D} : ∀ {ds : List D} {j : Nat}, idxFl d ds = some j → (∃ e, ds[j]? = some e ∧ eqFl e d = true) ∧ ∀ m e, m < j → ds[m]? = some e → eqFl e d = false
  | [], _, h => by cases h
  | e :: ds, j, h => by
    unfold idxFl at h
    split at h
    · rename_i he
      cases h
      exact ⟨⟨e, rfl, he⟩, fun m e' hm => absurd hm (Nat.not_lt_zero m)⟩
    · rename_i he
      split at h
      · rename_i i ei
        cases h
        obtain ⟨⟨z, h1, h2⟩, h3⟩ := idxFl_spec ei
        refine ⟨⟨z, by simpa using h1, h2⟩, fun m e' hm q => ?_⟩
        cases m with
        | zero => simp at q; subst q; simpa using he
        | succ m => exact h3 m e' (by omega) (by simpa using q)
      · cases h
theorem index_ok (hK : X.K = B.K) : MtR X "list.index" (gM B E mIndexL) := by
  intro pins s σ H x vs v us Q I rx rxs ⟨w, S, d, ds, hw, rs, rd, rds, h⟩
  subst hw
  unfold mIndexL at h
  split at h
  · rename_i i y
    obtain ⟨_, rfl⟩ := rv_ref rd
    obtain ⟨yv, rfl, ry⟩ := rvs1 rds
    split at h
    · rename_i xs e
      obtain ⟨zs, sq, q⟩ := lstAt_sq rs e
      split at h
      · rename_i hf
        rw [Bool.and_eq_true] at hf
        split at h
        · rename_i j ej
          obtain ⟨⟨z, h1, h2⟩, h3⟩ := idxFl_spec ej
          obtain ⟨zv, hz, rz⟩ := q.get h1
          have fz : flatD z = true := List.all_eq_true.mp hf.2 z (List.mem_of_getElem? h1)
          refine mt_index pins s σ _ _ _ v us Q I rx rxs ⟨_, zs, yv, j, zv, rfl, rfl, by rw [hK]; exact sq, flat_rv hf.1 ry, flats_rv hf.2 q, hz, by rw [eq_rv fz hf.1 rz ry]; exact h2, fun m z' hm hz' => ?_, PD.ret (S := S) h rs rv_int⟩
          obtain ⟨e', he', re'⟩ := q.getv hz'
          have fe : flatD e' = true := List.all_eq_true.mp hf.2 e' (List.mem_of_getElem? he')
          rw [eq_rv fe hf.1 re' ry]
          exact h3 m e' hm he'
        · exact h.elim
      · exact h.elim
    · exact h.elim
  · exact h.elim

/-! ### split at a sign -/
def spl1 (s : Nat) : List Nat → List Nat → List (List Nat)
  | acc, [] => [acc.reverse]
  | acc, c :: r => if Nat.beq c s then acc.reverse :: spl1 s [] r else spl1 s (c :: acc) r
theorem spl1_eq (s : Nat) : ∀ (cs acc : List Nat), TL.spl [s] 0 acc.reverse cs = spl1 s acc cs
  | [], acc => rfl
  | c :: r, acc => by
    unfold spl1
    show (if TL.pre [s] (c :: r) = true then acc.reverse :: TL.spl [s] ([s].length - 1) [] r else TL.spl [s] 0 (acc.reverse ++ [c]) r) = _
    have h1 := spl1_eq s r []
    have h2 := spl1_eq s r (c :: acc)
    rw [List.reverse_cons] at h2
    rw [h2]
    rw [List.reverse_nil] at h1
    rw [show [s].length - 1 = 0 from rfl, h1]
    have e : TL.pre [s] (c :: r) = Nat.beq c s := by
      show ([c] == [s]) = _
      by_cases hc : c = s
      · subst hc
        rw [Nat.beq_refl]
        exact beq_self_eq_true _
      · rw [beq_f.mpr hc]
        exact beq_eq_false_iff_ne.mpr fun z => hc (List.cons.inj z).1
    rw [e]
def mSplit : D → List D → M D
  | .str a, [.str [c]] => fun S => if Nat.blt c 256 && Nat.ble a.length 16777214 then alloc (.lst ((spl1 c [] a).map D.str)) S else none
  | _, _ => stuck
theorem strs_rvs : ∀ {is : List (List Nat)}, Rvs B w (is.map D.str) ((is.map mkS).map V.str)
  | [] => .nil
  | i :: is => .cons rv_str strs_rvs
theorem split_ok : MtR X "str.split" (gM B E mSplit) := by
  intro pins s σ H x vs v us Q I rx rxs ⟨w, S, d, ds, hw, rs, rd, rds, h⟩
  subst hw
  unfold mSplit at h
  split at h
  · rename_i a c
    simp only [Rv] at rd; subst rd
    obtain ⟨yv, rfl, ry⟩ := rvs1 rds
    simp only [Rv] at ry; subst ry
    split at h
    · rename_i hc
      rw [Bool.and_eq_true] at hc
      have h1 : c < 256 := Nat.le_of_ble_eq_true hc.1
      have h2 : a.length ≤ 16777214 := Nat.le_of_ble_eq_true hc.2
      refine mt_split pins s σ _ _ _ v us Q I rx rxs ⟨mkS a, mkS [c], rfl, rfl, rfl, by rw [show (mkS a).length = a.length from str_len a]; have := sizeLine_eq; omega, fun p hp => ?_⟩
      have e : Txt.split (mkS a) (mkS [c]) = (spl1 c [] a).map mkS := by
        refine TL.map_tl_inj ?_
        rw [TL.split_spl _ _ (by show [c] ≠ []; simp) (TL.kind_ok (by show (#[c]).all _ = true; simpa using h1))]
        have := spl1_eq c a []
        rw [List.reverse_nil] at this
        rw [List.map_map, show (TL.tl ∘ mkS) = id from rfl, List.map_id]
        exact this
      rw [e]
      exact PD.lst h rs strs_rvs p hp
    · exact h.elim
  · exact h.elim
end
end G
end
section
/-! G14: isinstance, stars, methods of built-in things. -/
namespace G
open PySem L2
/-! ### isinstance -/
def vtc (S : Sto) : D → Option TC
  | .non => some (.ty .non)
  | .bl _ => some (.ty .bool)
  | .int _ => some (.ty .int)
  | .str _ => some (.ty .str)
  | .rp _ => some (.ty .str)
  | .ex c _ => some (.exc c)
  | .tup _ => some (.ty .tuple)
  | .ref i => match S.get i with
    | some (.lst _) => some (.ty .list)
    | some (.frz _) => some (.ty .list)
    | some (.dct _) => some (.ty .dict)
    | some (.ins c _) => some (.own c)
    | none => none
  | _ => none
def ctc : D → Option TC
  | .ty t => some (.ty t)
  | .cl c => some (.own c)
  | _ => none
def isAny (f : TC → Option Bool) : List D → Option Bool
  | [] => some false
  | d :: ds => match ctc d with
    | some c => match f c with
      | some true => some true
      | some false => isAny f ds
      | none => none
    | none => none
def mIsi (isv : TC → TC → Option Bool) : List D → M D
  | [d, .tup cs] => fun S => match vtc S d with
    | some t => if cs.all (fun c => (ctc c).isSome) && !cs.isEmpty then match isAny (isv t) cs with
      | some b => some (.ok (.bl b) S)
      | none => none else none
    | none => none
  | [d, c] => fun S => match vtc S d, ctc c with
    | some t, some c => match isv t c with
      | some b => some (.ok (.bl b) S)
      | none => none
    | _, _ => none
  | _ => stuck
section
variable {B : Tb} {E : XK} {X : Cx} {w : Wd} {S : Sto}
theorem tyx_tc {d : D} {v : V} {t c : TC} {b : Bool} (rs : RS B w S) (hne : ∀ c ds, d ≠ .ex c ds) (h : vtc S d = some t) (hb : B.isv t c = some b) (r : Rv B w d v) : TyX B.K w.H v (t.val B.ca) := by
  unfold vtc at h
  split at h
  · cases h; simp only [Rv] at r; subst r; exact .base .non
  · cases h; simp only [Rv] at r; subst r; exact .base (.bl _)
  · cases h; simp only [Rv] at r; subst r; exact .base (.int _)
  · cases h; simp only [Rv] at r; subst r; exact .base (.str _)
  · cases h; simp only [Rv] at r; subst r; exact .base (.str _)
  · exact absurd rfl (hne _ _)
  · cases h
    obtain ⟨a, vs, rfl, t, q⟩ := rv_tup r
    rcases t with t | ⟨o, its, n, h1, h2, _⟩
    · exact .base (.tup t)
    · exact .kTuple h1 h2
  · obtain ⟨_, rfl⟩ := rv_ref r
    split at h
    · rename_i e
      cases h
      obtain ⟨o, ho, vs, rfl, q⟩ := rs.at_ _ _ e
      exact .base (.lst ho)
    · rename_i e
      cases h
      rcases (rs.cell _ _ e).2 with ⟨o, ho, ob, vs, rfl, q⟩ | ⟨xs, vs, ex, ⟨o, its, n, k1, k2, _⟩, q⟩
      · exact .base (.frz ho)
      · exact .kList k1 k2
    · rename_i e
      cases h
      obtain ⟨o, ho, kv, rfl, q⟩ := rs.at_ _ _ e
      exact .base (.dK ho)
    · rename_i c' fs e
      cases h
      obtain ⟨o, ho, dx, gs, rfl, q⟩ := rs.at_ _ _ e
      obtain ⟨h1, h2, h3, h4, h5⟩ := B.insC _ _ _ hb
      exact .base (.ins ho h1 h2 h3 h4 h5)
    · cases h
  · cases h
theorem ctc_v {d : D} {v : V} {c : TC} (h : ctc d = some c) (r : Rv B w d v) : ClsV v (c.val B.ca) := by
  unfold ctc at h
  split at h
  · cases h; simp only [Rv] at r; subst r; exact .ty _
  · cases h; simp only [Rv] at r; subst r; exact .own _
  · cases h
theorem isAny_spec {t : TC} : ∀ {cs : List D} {vs : List V} {b : Bool}, isAny (B.isv t) cs = some b → Rvs B w cs vs → (∀ d ∈ cs, (ctc d).isSome = true) → ∃ us, Paired ClsV vs us ∧ PySem.W.kitAny B.K (t.val B.ca) us = some b
  | [], _, b, h, r, _ => by
    cases h
    simp only [Rvs] at r
    subst r
    exact ⟨[], .nil, rfl⟩
  | d :: ds, _, b, h, r, hd => by
    simp only [Rvs] at r
    obtain ⟨v, vs, rfl, rv, rvs⟩ := r
    have hd0 := hd d (List.mem_cons_self ..)
    have hd1 : ∀ e ∈ ds, (ctc e).isSome = true := fun e he => hd e (List.mem_cons_of_mem _ he)
    obtain ⟨us0, pr0⟩ : ∃ us, Paired ClsV vs us := by
      clear h
      induction ds generalizing vs with
      | nil => simp only [Rvs] at rvs; subst rvs; exact ⟨[], .nil⟩
      | cons e ds ih =>
        simp only [Rvs] at rvs
        obtain ⟨v', vs', rfl, rv', rvs'⟩ := rvs
        obtain ⟨us, pr⟩ := ih (fun z hz => hd z (by
          rcases List.mem_cons.mp hz with h | h
          · subst h; exact List.mem_cons_self ..
          · exact List.mem_cons_of_mem _ (List.mem_cons_of_mem _ h))) _ rvs' (fun z hz => hd1 z (List.mem_cons_of_mem _ hz))
        obtain ⟨c, ec⟩ := Option.isSome_iff_exists.mp (hd1 e (List.mem_cons_self ..))
        exact ⟨_ :: us, .cons (ctc_v ec rv') pr⟩
    unfold isAny at h
    split at h
    · rename_i c ec
      split at h
      · rename_i e
        cases h
        refine ⟨c.val B.ca :: us0, .cons (ctc_v ec rv) pr0, ?_⟩
        show (match PySem.W.kitOne B.K (t.val B.ca) (c.val B.ca) with | some true => some true | some false => _ | none => none) = _
        rw [B.isvC _ _ _ e]
      · rename_i e
        obtain ⟨us, pr, e2⟩ := isAny_spec h rvs hd1
        refine ⟨c.val B.ca :: us, .cons (ctc_v ec rv) pr, ?_⟩
        show (match PySem.W.kitOne B.K (t.val B.ca) (c.val B.ca) with | some true => some true | some false => _ | none => none) = _
        rw [B.isvC _ _ _ e]
        exact e2
      · cases h
    · cases h
theorem isAny_val {t : TC} {cs : List D} {b : Bool} (h : isAny (B.isv t) cs = some b) (hne : cs ≠ []) : ∃ c b', B.isv t c = some b' := by
  cases cs with
  | nil => exact absurd rfl hne
  | cons d ds =>
    unfold isAny at h
    split at h
    · split at h
      · rename_i e; exact ⟨_, _, e⟩
      · rename_i e; exact ⟨_, _, e⟩
      · cases h
    · cases h
/-- isinstance of an own exception -/
theorem kit_ex {D : Addr} {a : Addr} {od : Option Obj} {ox : Obj} {K : PySem.W.Frag} (C : ExcC K D) : PySem.W.KitX K (.ref a) (.ref D) (fun h => PySem.W.InstAt h a ox D od) where
  ty := fun _ _ _ I => I.type
  it := fun _ _ X _ => by
    obtain ⟨cd, hc, _⟩ := PySem.W.any_some C.hd
    unfold PySem.W.clsIn at hc
    split at hc
    · rename_i c' d' cd' sl' ho
      intro A' Q' E' s' k q
      unfold isType loadHead
      exact wpAny_bind (wpAny_loadPart (k _ _ (X _ _ ho)) (wpAny_pure q))
    · cases hc
  ne := fun h tp dd its n sl X htp => by
    obtain ⟨cd, hc, _⟩ := PySem.W.any_some C.hd
    refine Bool.eq_false_iff.mpr fun q => ?_
    have e : D = tp := Value.ref.inj (beq_iff_eq.mp q)
    subst e
    unfold PySem.W.clsIn at hc
    split at hc
    · rename_i c' d' cd' sl' ho
      have z := (X _ _ ho).symm.trans htp
      cases z
    · cases hc
  ca := fun X I k => PySem.W.kx_classE X I C.hg C.hk C.hs (PySem.W.findObj_dataE (by obtain ⟨cd, hc, _⟩ := PySem.W.any_some C.hd; rw [hc]; rfl) C.ha C.hn C.ht) C.hm k
theorem ex_inst {c : Nat} {ds : List D} {v : V} {pins : List (Addr × Obj)} {σ : L2.St} {s : Shared} (I : Inv X pins σ w.H s) (r : Rv B w (.ex c ds) v) : ∃ a ox od, v = .ref a ∧ PySem.W.InstAt s.heap a ox (B.ca c) od := by
  simp only [Rv] at r
  obtain ⟨a, vs, rfl, _, ⟨_, e⟩ | ⟨d, e, e2⟩⟩ := r
  · obtain ⟨⟨vs, sl, h⟩, _, _⟩ := (show ObjOk X.prog X.w w.H s.heap a (.ext fun h => ∃ (vs : Array Value) (sl : Array (Option Value)), h.get? a = some ({ cls := .ref (B.ca c), dict := none, data := .fields vs, slots := sl } : Obj)) from I.hok a _ e)
    exact ⟨a, _, none, rfl, h, rfl, rfl, trivial⟩
  · obtain ⟨⟨vs, sl, h⟩, _, _⟩ := (show ObjOk X.prog X.w w.H s.heap a (.ext fun h => ∃ (vs : Array Value) (sl : Array (Option Value)), h.get? a = some ({ cls := .ref (B.ca c), dict := some d, data := .fields vs, slots := sl } : Obj)) from I.hok a _ e)
    obtain ⟨mA, ⟨oD, es, ep, hD, _⟩, _⟩ := (show ObjOk X.prog X.w w.H s.heap d (.xd _) from I.hok d _ e2)
    exact ⟨a, _, some oD, rfl, h, rfl, rfl, hD⟩
theorem isx_ok (hK : X.K = B.K) {c : Nat} {ds : List D} {d2 : D} {pins : List (Addr × Obj)} {s : Shared} {σ : L2.St} {xs : List V} {us : List Value} {Q : VK} (I : Inv X pins σ w.H s) (r : Vals xs us) (rs : RS B w S) (rds : Rvs B w [.ex c ds, d2] xs) (h : PD B E w (mIsi B.isv [.ex c ds, d2] S) Q) :
    wpAny (model X.prog X.w) X.A (call (.builtin "isinstance") us) (EP X pins σ Q) X.xe s := by
  obtain ⟨v, cv, rfl, rv, rc⟩ := rvs2 rds
  obtain ⟨u1, u2, rfl, r1, r2⟩ := vals2 r
  obtain ⟨a, ox, od, rfl, J⟩ := ex_inst I rv
  obtain rfl : u1 = Value.ref a := r1
  have kin : B.K.In s.heap := by rw [← hK]; exact I.kIn
  have one : ∀ cc, ctc d2 = some cc → PD B E w ((fun S => match B.isv (.exc c) cc with
      | some b => some (.ok (.bl b) S)
      | none => none : M D) S) Q → wpAny (model X.prog X.w) X.A (call (.builtin "isinstance") [Value.ref a, u2]) (EP X pins σ Q) X.xe s := fun cc ec h => by
    dsimp only at h
    split at h
    · rename_i b eb
      have e2 := (ctc_v ec rc).eq r2
      subst e2
      exact PySem.W.kia_one (kit_ex (B.exC _ _ _ eb)) kin J (B.isvC _ _ _ eb) (fun z => nomatch z) fun tk => ⟨.bl b, w.H, I.kept (t' := tk) fun _ _ z => z, rfl, PD.ret (S := S) h rs rv_bl⟩
    · exact h.elim
  cases d2 with
  | tup cs =>
    obtain ⟨at', vs, rfl, t, q⟩ := rv_tup rc
    replace h : PD B E w ((fun S => if cs.all (fun c => (ctc c).isSome) && !cs.isEmpty then match isAny (B.isv (.exc c)) cs with
      | some b => some (.ok (.bl b) S)
      | none => none else none : M D) S) Q := h
    dsimp only at h
    split at h
    · rename_i hall
      rw [Bool.and_eq_true] at hall
      obtain ⟨hall, hne⟩ := hall
      split at h
      · rename_i b eb
        obtain ⟨us', pr, e2⟩ := isAny_spec eb q fun d hd => List.all_eq_true.mp hall d hd
        have qd := PD.ret (S := S) h rs rv_bl
        have hn : cs ≠ [] := fun z => by rw [z] at hne; cases hne
        obtain ⟨c', b', hb'⟩ := isAny_val eb hn
        have C := B.exC _ _ _ hb'
        obtain rfl : u2 = Value.ref at' := r2
        rcases t with t | ⟨o, its, n, h1, h2, h3, h4, h5⟩
        · obtain ⟨_, its, rv2, o, ho, hoc, n, hod⟩ := (show ObjOk X.prog X.w w.H s.heap at' (.tup vs) from I.hok at' _ t)
          have e3 := ClsV.all pr rv2
          subst e3
          obtain ⟨oc, odd, dt, sl⟩ := o
          simp only at hoc hod
          subst hoc hod
          exact PySem.W.kia_tup (kit_ex C) kin J ho e2 (fun z => nomatch z) fun tk => ⟨.bl b, w.H, I.kept (t' := tk) fun _ _ z => z, rfl, qd⟩
        · have e3 := ClsV.all pr h5
          obtain ⟨oc, odd, dt, sl⟩ := o
          simp only at h2 h3
          subst h2 h3
          exact PySem.W.kia_tup (kit_ex C) (its := its.toList) kin J (by rw [Array.toArray_toList]; exact kin _ _ h1) (by rw [e3]; exact e2) (fun z => nomatch z) fun tk => ⟨.bl b, w.H, I.kept (t' := tk) fun _ _ z => z, rfl, qd⟩
      · exact h.elim
    · exact h.elim
  | ty t => exact one _ rfl h
  | cl t => exact one _ rfl h
  | _ => exact h.elim
theorem isi_ok (hK : X.K = B.K) : CallR X (.builtin "isinstance") (gN B E (mIsi B.isv)) := by
  intro pins s σ H xs us Q I r ⟨w, S, ds, hw, rs, rds, h⟩
  subst hw
  by_cases hex : ∃ c es d2, ds = [.ex c es, d2]
  · obtain ⟨c, es, d2, rfl⟩ := hex
    exact isx_ok hK I r rs rds h
  unfold mIsi at h
  split at h
  · rename_i d cs
    have hnx : ∀ c es, d ≠ .ex c es := fun c es z => hex ⟨c, es, _, by rw [z]⟩
    obtain ⟨v, c, rfl, rv, rc⟩ := rvs2 rds
    obtain ⟨a, vs, rfl, t, q⟩ := rv_tup rc
    split at h
    · rename_i tc et
      split at h
      · rename_i hall
        rw [Bool.and_eq_true] at hall
        obtain ⟨hall, hne⟩ := hall
        split at h
        · rename_i b eb
          obtain ⟨us', pr, e2⟩ := isAny_spec eb q fun d hd => List.all_eq_true.mp hall d hd
          have qd := PD.ret (S := S) h rs rv_bl
          by_cases hn : cs = []
          · subst hn
            cases hne
          · obtain ⟨c', b', hb'⟩ := isAny_val eb hn
            have ty := tyx_tc rs hnx et hb' rv
            rcases t with t | ⟨o, its, n, h1, h2, h3, h4, h5⟩
            · exact call_isiT pins s σ _ _ us Q I r ⟨v, a, vs, _, us', b, rfl, t, pr, by rw [hK]; exact ty, by rw [hK]; exact e2, qd⟩
            · have e3 := ClsV.all pr h5
              obtain ⟨oc, od, dt, sl⟩ := o
              simp only at h2 h3
              subst h2 h3
              refine call_isiK pins s σ _ _ us Q I r ⟨v, a, od, its.toList, n, sl, _, b, rfl, by rw [hK, Array.toArray_toList]; exact h1, by rw [hK]; exact ty, by rw [hK, e3]; exact e2, qd⟩
        · exact h.elim
      · exact h.elim
    · exact h.elim
  · rename_i d cd _
    have hnx : ∀ c es, d ≠ .ex c es := fun c es z => hex ⟨c, es, _, by rw [z]⟩
    obtain ⟨v, c, rfl, rv, rc⟩ := rvs2 rds
    dsimp only at h
    split at h
    · rename_i tc cc et ec
      split at h
      · rename_i b eb
        exact call_isi pins s σ _ _ us Q I r ⟨v, c, _, _, b, rfl, ctc_v ec rc, by rw [hK]; exact tyx_tc rs hnx et eb rv, by rw [hK]; exact B.isvC _ _ _ eb, PD.ret (S := S) h rs rv_bl⟩
      · exact h.elim
    · exact h.elim
  · exact h.elim
end
end G
end
section
/-! G15: calls of built-in methods, stars, bound methods, own instances. -/
namespace G
open PySem L2
section
variable {B : Tb} {E : XK} {X : Cx} {w : Wd} {S : Sto}
def isTy (t : Ty) (S : Sto) (d : D) : Bool := match vtc S d with
  | some (.ty u) => decide (u = t)
  | _ => false
theorem isTy_v {t : Ty} {d : D} {v : V} (rs : RS B w S) (hK : X.K = B.K) (h : isTy t S d = true) (ht : t = .str ∨ t = .list ∨ t = .dict) (r : Rv B w d v) : tyV X.K t.name v w.H := by
  unfold isTy at h
  split at h
  · rename_i u e
    have h := of_decide_eq_true h
    subst h
    unfold vtc at e
    split at e
    · cases e; rcases ht with h | h | h <;> cases h
    · cases e; rcases ht with h | h | h <;> cases h
    · cases e; rcases ht with h | h | h <;> cases h
    · cases e; simp only [Rv] at r; subst r; rfl
    · cases e; simp only [Rv] at r; subst r; rfl
    · cases e
    · cases e; rcases ht with h | h | h <;> cases h
    · rename_i i
      obtain ⟨_, rfl⟩ := rv_ref r
      split at e
      · rename_i xs ei
        cases e
        obtain ⟨vs, sq, q⟩ := lstAt_sq rs (show lstAt S i = some xs by unfold lstAt; rw [ei])
        exact .inl ⟨rfl, vs, by rw [hK]; exact sq⟩
      · rename_i xs ei
        cases e
        obtain ⟨vs, sq, q⟩ := lstAt_sq rs (show lstAt S i = some xs by unfold lstAt; rw [ei])
        exact .inl ⟨rfl, vs, by rw [hK]; exact sq⟩
      · rename_i kvs ei
        cases e
        obtain ⟨o, ho, kv, rfl, q⟩ := rs.at_ _ _ ei
        exact .inr (.inr (.inl ⟨rfl, .inl ⟨kv, ho⟩⟩))
      · cases e
      · cases e
    · cases e
  · cases h
def mBM (t : Ty) (f : D → List D → M D) (mo : Env → M D) (ms : Env → M (List D)) : Env → M D := fun env => bnd (mo env) fun d S => if isTy t S d then bnd (ms env) (fun ds => f d ds) S else none
theorem gE_bm {t : Ty} {f : D → List D → M D} {r : V → List V → Hp → VK → Prop} {mo : Env → M D} {ms : Env → M (List D)} (hK : X.K = B.K) (ht : t = .str ∨ t = .list ∨ t = .dict) (hr : ∀ x xs H Q, gM B E f x xs H Q → r x xs H Q) (σ : L2.St) (H : Hp) (Q : VK)
    (h : gE B E (mBM t f mo ms) σ H Q) : tBM X.K t.name r (gE B E mo) (gA B E ms) σ H Q := by
  obtain ⟨w, env, S, hw, rs, re, h⟩ := h
  subst hw
  refine ⟨w, env, S, rfl, rs, re, h.bnd.imp fun w1 S1 d l1 rs1 h1 x rx => ?_⟩
  by_cases hc : isTy t S1 d = true
  · rw [if_pos hc] at h1
    refine ⟨isTy_v rs1 hK hc ht rx, w1, env, S1, rfl, rs1, re.mono l1, h1.bnd.imp fun w2 S2 ds l2 rs2 h2 vs rvs => ?_⟩
    exact hr _ _ _ _ ⟨w2, S2, d, ds, rfl, rs2, rx.mono l2, rvs, h2⟩
  · rw [if_neg hc] at h1
    exact h1.elim
theorem ge_bm1 {t : Ty} {id : String} {name : Str} {f : D → List D → M D} {o e : Expr} {es : List Expr} {mo : Env → M D} {ms : Env → M (List D)} {apos cpos : Pos} (hK : X.K = B.K) (ht : t = .str ∨ t = .list ∨ t = .dict) (pa : PlainAttrs t.name) (slot : Slot t.name name id) (hty : typeOf (.builtin id) = pure (.type "method_descriptor"))
    (hm : MtR X id (gM B E f)) (ho : GE B E X o mo) (ha : GA B E X (e :: es) ms) (hb : baseOk o = true) (hst : (e :: es).all (fun e => !isStar e) = true) (hn : Nat.blt (e :: es).length 30 = true) (hl : (apos.endLine == cpos.line) = true) :
    GE B E X (.Call (.Attribute o name apos) (e :: es) [] cpos) (mBM t f mo ms) := by
  refine PEmono (pe_bm pa slot hty hm ho ha (base_ok hb) ?_ hl (stars (pos := cpos) hst).1 (stars (pos := cpos) hst).2) (gE_bm hK ht fun _ _ _ _ h => h)
  rw [star_all hst]
  have : (e :: es).length < 30 := Nat.le_of_ble_eq_true hn
  show (true && true && decide ((e :: es).length + 0 + 0 < 30)) = true
  simpa using this
theorem ge_bm0 {t : Ty} {id : String} {name : Str} {f : D → List D → M D} {o : Expr} {mo : Env → M D} {apos cpos : Pos} (hK : X.K = B.K) (ht : t = .str ∨ t = .list ∨ t = .dict) (pa : PlainAttrs t.name) (slot : Slot t.name name id) (hty : typeOf (.builtin id) = pure (.type "method_descriptor"))
    (hm : MtR X id (gM B E f)) (ho : GE B E X o mo) (hb : baseOk o = true) (hl : (apos.endLine == cpos.line) = true) :
    GE B E X (.Call (.Attribute o name apos) [] [] cpos) (mBM t f mo mNil) := by
  refine PEmono (pe_bm0 pa slot hty hm ho (base_ok hb) hl) fun σ H Q h => ?_
  obtain ⟨w, env, S, hw, rs, re, h⟩ := h
  subst hw
  refine ⟨w, env, S, rfl, rs, re, h.bnd.imp fun w1 S1 d l1 rs1 h1 x rx => ?_⟩
  by_cases hc : isTy t S1 d = true
  · rw [if_pos hc] at h1
    exact ⟨isTy_v rs1 hK hc ht rx, w1, S1, d, [], rfl, rs1, rx, .nil, h1⟩
  · rw [if_neg hc] at h1
    exact h1.elim

/-! ### stars -/
def mItems (d : D) (S : Sto) : Option (List D) := match d with
  | .tup ds => some ds
  | .ref p => lstAt S p
  | _ => none
def mStar (a : Env → M D) (r : Env → M (List D)) : Env → M (List D) := fun env => bnd (a env) fun d S => match mItems d S with
  | some xs => bnd (r env) (fun ys => ret (xs ++ ys)) S
  | none => none
theorem ga_star {e : Expr} {p : Pos} {es : List Expr} {m : Env → M D} {ms : Env → M (List D)} (hK : X.K = B.K) (he : GE B E X e m) (hr : GA B E X es ms) : GA B E X (.Starred e p :: es) (mStar m ms) := by
  refine PAmono (StX.pa_star he hr rfl) fun σ H Q h => ?_
  obtain ⟨w, env, S, hw, rs, re, h⟩ := h
  subst hw
  refine ⟨w, env, S, rfl, rs, re, h.bnd.imp fun w1 S1 d l1 rs1 h1 x rx => ?_⟩
  split at h1
  · rename_i xs ex
    have : ∃ p zs, x = V.ref p ∧ (SqT X.K w1.H p zs ∨ SqL X.K w1.H p zs) ∧ Rvs B w1 xs zs := by
      unfold mItems at ex
      split at ex
      · cases ex
        obtain ⟨a, vs, rfl, t, q⟩ := rv_tup rx
        exact ⟨a, vs, rfl, .inl (by rw [hK]; exact t.sq), q⟩
      · obtain ⟨_, rfl⟩ := rv_ref rx
        obtain ⟨vs, sq, q⟩ := lstAt_sq rs1 ex
        exact ⟨_, vs, rfl, .inr (by rw [hK]; exact sq), q⟩
      · cases ex
    obtain ⟨p, zs, rfl, sq, q⟩ := this
    refine ⟨p, zs, rfl, sq, w1, env, S1, rfl, rs1, re.mono l1, h1.bnd.imp fun w2 S2 ys l2 rs2 h2 vs rvs => ?_⟩
    exact Po.ret h2 rs2 _ ((q.mono l2).app rvs)
  · exact h1.elim
end
end G
end
section
/-! G16: the table of defs; calls, methods, own instances, bound methods. -/
namespace G
open PySem L2
/-- what is known of a def: its parameters, defaults, whether it shows data -/
structure FI where
  ps : List Str
  np : Nat
  dfl : List D
  gd : Md
  nd : decide ps.Nodup = true
  ln : ps.length = np
theorem arr_d {α : Type} {us ws ds : List α} {len n nd : Nat} : ∀ (ps : List Str) (j : Nat), n ≤ j → len - nd ≤ j → arr (selF len n [] nd j ps) us ws ds = (ds.drop (j - (len - nd))).take ps.length
  | [], j, _, _ => by rw [List.length_nil, List.take_zero]; rfl
  | p :: ps, j, h, h2 => by
    have ih := arr_d (us := us) (ws := ws) (ds := ds) (len := len) (n := n) (nd := nd) ps (j + 1) (by omega) (by omega)
    unfold arr at ih ⊢
    have e : selF len n [] nd j (p :: ps) = .d (j - (len - nd)) :: selF len n [] nd (j + 1) ps := by
      show selAt len n [] nd j p :: _ = _
      unfold selAt
      rw [if_neg (by omega)]
      rfl
    rw [e, List.filterMap_cons]
    have e2 : j + 1 - (len - nd) = (j - (len - nd)) + 1 := by omega
    rw [e2] at ih
    by_cases hl : j - (len - nd) < ds.length
    · rw [show Sel.get us ws ds (.d (j - (len - nd))) = some ds[j - (len - nd)] by show ds[j - (len - nd)]? = _; simp [hl]]
      rw [List.drop_eq_getElem_cons hl, List.length_cons, List.take_succ_cons, ← ih]
    · rw [show Sel.get us ws ds (.d (j - (len - nd))) = none by show ds[j - (len - nd)]? = _; simp; omega]
      rw [ih, List.drop_eq_nil_of_le (by omega), List.drop_eq_nil_of_le (by omega)]
      simp
theorem arr_p {α : Type} {us ws ds : List α} {len n nd : Nat} (hn : us.length = n) (h2 : len - nd ≤ n) : ∀ (ps : List Str) (j : Nat), j ≤ n → n ≤ j + ps.length → arr (selF len n [] nd j ps) us ws ds = us.drop j ++ (ds.drop (n - (len - nd))).take (j + ps.length - n)
  | ps, j, hj, hp => by
    by_cases e : j = n
    · subst e
      have z : us.drop j = [] := List.drop_eq_nil_of_le (by omega)
      rw [arr_d ps j (Nat.le_refl _) h2, z, List.nil_append]
      congr 1
      omega
    · cases ps with
      | nil => simp at hp; omega
      | cons p ps =>
        have ih := arr_p (us := us) (ws := ws) (ds := ds) (len := len) (nd := nd) hn h2 ps (j + 1) (by omega) (by simp at hp; omega)
        unfold arr at ih ⊢
        have e1 : selF len n [] nd j (p :: ps) = .p j :: selF len n [] nd (j + 1) ps := by
          show selAt len n [] nd j p :: _ = _
          unfold selAt
          rw [if_pos (by omega)]
        have hl : j < us.length := by omega
        rw [e1, List.filterMap_cons, show Sel.get us ws ds (.p j) = some us[j] by show us[j]? = _; simp [hl], ih, List.drop_eq_getElem_cons hl, List.length_cons]
        show us[j] :: (us.drop (j + 1) ++ _) = us[j] :: (us.drop (j + 1) ++ _)
        congr 3
        omega
theorem drop_take {α : Type} : ∀ (ds : List α) (m k : Nat), ds.length ≤ m + k → (ds.drop m).take k = ds.drop m
  | ds, m, k, h => List.take_of_length_le (by rw [List.length_drop]; omega)
/-- how n values by place and those by name fill the parameters -/
def okB (fi : FI) (n : Nat) (ks : List Str) : Bool := match ks with
  | [] => Nat.ble n fi.np && Nat.ble fi.np (n + fi.dfl.length) && Nat.ble fi.dfl.length fi.np
  | ks => bindOk fi.ps n ks fi.dfl.length
def fill (fi : FI) (n : Nat) (ks : List Str) (ds zs : List D) : List D := match ks with
  | [] => ds ++ fi.dfl.drop (n + fi.dfl.length - fi.np)
  | ks => arr (selOf fi.ps n ks fi.dfl.length) ds zs fi.dfl
theorem okB_bind {fi : FI} {n : Nat} {ks : List Str} (h : okB fi n ks = true) : bindOk fi.ps n ks fi.dfl.length = true := by
  unfold okB at h
  split at h
  · rw [Bool.and_eq_true, Bool.and_eq_true] at h
    obtain ⟨⟨h1, h2⟩, h3⟩ := h
    have h1 := Nat.le_of_ble_eq_true h1
    have h2 := Nat.le_of_ble_eq_true h2
    have h3 := Nat.le_of_ble_eq_true h3
    unfold bindOk
    rw [fi.ln, fi.nd, Nat.ble_eq_true_of_le h1, Nat.ble_eq_true_of_le h3]
    simp only [Bool.true_and, List.all_nil, List.append_nil, List.nodup_nil, decide_true]
    rw [List.all_eq_true]
    intro p hp
    refine decide_eq_true ?_
    exact List.mem_of_mem_take (show p ∈ (fi.ps.take n).take (fi.np - fi.dfl.length) by rw [List.take_take, Nat.min_eq_left (by omega)]; exact hp)
  · exact h
theorem fill_eq {fi : FI} {n : Nat} {ks : List Str} {ds zs : List D} (h : okB fi n ks = true) (hn : ds.length = n) : fill fi n ks ds zs = arr (selOf fi.ps n ks fi.dfl.length) ds zs fi.dfl := by
  unfold okB at h
  unfold fill
  split at h
  · rw [Bool.and_eq_true, Bool.and_eq_true] at h
    obtain ⟨⟨h1, h2⟩, h3⟩ := h
    have h1 := Nat.le_of_ble_eq_true h1
    have h2 := Nat.le_of_ble_eq_true h2
    have h3 := Nat.le_of_ble_eq_true h3
    have e := arr_p (ws := zs) (ds := fi.dfl) (len := fi.ps.length) (nd := fi.dfl.length) hn (by rw [fi.ln]; omega) fi.ps 0 (Nat.zero_le _) (by rw [fi.ln]; omega)
    show ds ++ _ = arr (selF fi.ps.length n [] fi.dfl.length 0 fi.ps) ds zs fi.dfl
    rw [e, List.drop_zero, fi.ln]
    rw [drop_take _ _ _ (by omega)]
    congr 2
    omega
  · rfl
/-- a def that may be called with n values by place, those named ks by name -/
def okF (P : Nat → Option FI) (gd : Md) (f n : Nat) (ks : List Str) : Option FI := match P f with
  | some fi => if ((!fi.gd.sh || gd.sh) && (!fi.gd.cm || gd.cm)) && okB fi n ks then some fi else none
  | none => none
theorem okF_spec' {P : Nat → Option FI} {gd : Md} {f n : Nat} {ks : List Str} {fi : FI} (h : okF P gd f n ks = some fi) : P f = some fi ∧ ((fi.gd.sh = true → gd.sh = true) ∧ (fi.gd.cm = true → gd.cm = true)) ∧ okB fi n ks = true := by
  unfold okF at h
  split at h
  · rename_i fj e
    split at h
    · rename_i hc
      cases h
      simp only [Bool.and_eq_true, Bool.or_eq_true] at hc
      refine ⟨e, ⟨fun z => ?_, fun z => ?_⟩, hc.2⟩
      · rcases hc.1.1 with q | q
        · rw [z] at q; cases q
        · exact q
      · rcases hc.1.2 with q | q
        · rw [z] at q; cases q
        · exact q
    · cases h
  · cases h
theorem okF_spec {P : Nat → Option FI} {gd : Md} {f n : Nat} {ks : List Str} {fi : FI} (h : okF P gd f n ks = some fi) : P f = some fi ∧ ((fi.gd.sh = true → gd.sh = true) ∧ (fi.gd.cm = true → gd.cm = true)) ∧ bindOk fi.ps n ks fi.dfl.length = true :=
  ⟨(okF_spec' h).1, (okF_spec' h).2.1, okB_bind (okF_spec' h).2.2⟩
/-- it is run -/
def mFn (fi : FI) (r : List D → M D) (n : Nat) (ks : List Str) (ds zs : List D) : M D := fun S => if okB fi n ks && Nat.beq ds.length n && Nat.beq zs.length ks.length then r (fill fi n ks ds zs) S else none
section
variable (B : Tb) (P : Nat → Option FI) (cal : Nat → List D → M D) (gd : Md) (CX : CXT) (k : Nat)
/-- what a place of the text may lean on -/
structure CxG (X : Cx) : Prop where
  hK : X.K = B.K
  hr : RoomC gd.cm (k + 1) X.A
  hg : gd.sh = true → X.A.guards = some []
  calm : gd.cm = true → X.calm = true
  nd : X.N.Nodup
  fn : ∀ f fi, P f = some fi → FnG B fi.gd CX X k (B.fa f) fi.ps fi.dfl (cal f)
end
section
variable {B : Tb} {P : Nat → Option FI} {cal : Nat → List D → M D} {gd : Md} {CX : CXT} {k : Nat} {E : XK} {X : Cx} {w : Wd} {S : Sto}
theorem CxG.room (C : CxG B P cal gd CX k X) : RoomC gd.cm k X.A := C.hr.mono (Nat.le_succ k)
theorem mFn_some {fi : FI} {r : List D → M D} {n : Nat} {ks : List Str} {ds zs : List D} {Q : VK} (h : PD B E w (mFn fi r n ks ds zs S) Q) : ds.length = n ∧ zs.length = ks.length ∧ PD B E w (r (arr (selOf fi.ps n ks fi.dfl.length) ds zs fi.dfl) S) Q := by
  unfold mFn at h
  split at h
  · rename_i hc
    rw [Bool.and_eq_true, Bool.and_eq_true] at hc
    obtain ⟨⟨h1, h2⟩, h3⟩ := hc
    rw [fill_eq h1 (beq_t.mp h2)] at h
    exact ⟨beq_t.mp h2, beq_t.mp h3, h⟩
  · exact h.elim

/-! ### f(e, .., k = v, ..) -/
def mCall (fi : FI) (r : List D → M D) (n : Nat) (ks : List Str) (ms mk : Env → M (List D)) : Env → M D := fun env => bnd (ms env) fun ds => bnd (mk env) fun zs => mFn fi r n ks ds zs
theorem gE_call {fi : FI} {r : List D → M D} {n : Nat} {ks : List Str} {dvs : List V} {ms mk : Env → M (List D)} (ok : bindOk fi.ps n ks fi.dfl.length = true) (hd : ∀ w, Rvs B w fi.dfl dvs) (σ : L2.St) (H : Hp) (Q : VK) (h : gE B E (mCall fi r n ks ms mk) σ H Q) :
    tCallN n ks.length (spG B fi.ps.length r) (fun vs zs => arr (selOf fi.ps n ks fi.dfl.length) vs zs dvs) E (gA B E ms) (gA B E mk) σ H Q := by
  obtain ⟨w, env, S, hw, rs, re, h⟩ := h
  refine ⟨w, env, S, hw, rs, re, h.bnd.imp fun w1 S1 ds l1 rs1 h1 vs rvs => ?_⟩
  refine ⟨w1, env, S1, rfl, rs1, re.mono l1, h1.bnd.imp fun w2 S2 es l2 rs2 h2 us rus => ?_⟩
  obtain ⟨e1, e2, h3⟩ := mFn_some h2
  exact ⟨by rw [rvs.length]; exact e1, by rw [rus.length]; exact e2, w2, S2, _, rfl, rs2, Sel.rvs (rvs.mono l2) rus (hd w2) _, arr_len ok e1 e2 rfl, h3⟩
theorem ge_callP1 {f n : Nat} {fi : FI} {ks : List Str} {x : Str} {e : Expr} {es : List Expr} {kws : List Keyword} {ms mk : Env → M (List D)} {p pos : Pos} (C : CxG B P cal gd CX k X) (hx : Passes CX X E) (hf : okF P gd f n ks = some fi) (hg : Gl X x) (hm : X.mg x = some (.ref (B.fa f)))
    (hdb : (x == ("__debug__" : Str)) = false) (hst : (e :: es).all (fun e => !isStar e) = true) (hkn : kws.all (·.arg.isSome) = true) (hks : kws.filterMap (·.arg) = ks) (ha : GA B E X (e :: es) ms) (hk : PK X kws (gA B E mk)) :
    GE B E X (.Call (.Name x p) (e :: es) kws pos) (mCall fi (cal f) n ks ms mk) := by
  obtain ⟨hP, hgd, ok⟩ := okF_spec hf
  have G := C.fn f fi hP
  obtain ⟨fd, F, hb⟩ := G.ok
  obtain ⟨its, dvs, hd, kb⟩ := hb n ks ok
  exact PEmono (pe_callS1 F (C.room.less hgd.2) (fun z => C.hg (hgd.1 z)) hg hm G.kp kb hx ha hk (kw_all hkn) (by rw [kw_names, hks]) hdb (stars (pos := pos) hst).1 (by rw [star_plain hst, kw_none hkn]; rfl)) fun σ H Q h => gE_call ok hd σ H Q h
theorem gE_nil {m : List D → Env → M D} (σ : L2.St) (H : Hp) (Q : VK) (t : TE) (ht : ∀ σ H Q, gE B E (m []) σ H Q → t σ H Q) (h : gE B E (fun env => bnd (mNil env) fun ds => m ds env) σ H Q) : t σ H Q := by
  obtain ⟨w, env, S, hw, rs, re, h⟩ := h
  exact ht _ _ _ ⟨w, env, S, hw, rs, re, h⟩
theorem gE_call0 {fi : FI} {r : List D → M D} {ks : List Str} {dvs : List V} {mk : Env → M (List D)} (ok : bindOk fi.ps 0 ks fi.dfl.length = true) (hd : ∀ w, Rvs B w fi.dfl dvs) (σ : L2.St) (H : Hp) (Q : VK) (h : gE B E (mCall fi r 0 ks mNil mk) σ H Q) :
    tCallN 0 ks.length (spG B fi.ps.length r) (fun vs zs => arr (selOf fi.ps 0 ks fi.dfl.length) vs zs dvs) E tNil (gA B E mk) σ H Q := by
  obtain ⟨w, env, S, hw, rs, re, h2⟩ := gE_call ok hd σ H Q h
  subst hw
  exact Po.ret (a := ([] : List D)) h2 rs [] .nil
theorem ge_callP0 {f : Nat} {fi : FI} {ks : List Str} {x : Str} {kws : List Keyword} {mk : Env → M (List D)} {p pos : Pos} (C : CxG B P cal gd CX k X) (hx : Passes CX X E) (hf : okF P gd f 0 ks = some fi) (hg : Gl X x) (hm : X.mg x = some (.ref (B.fa f)))
    (hdb : (x == ("__debug__" : Str)) = false) (hkn : kws.all (·.arg.isSome) = true) (hks : kws.filterMap (·.arg) = ks) (hk : PK X kws (gA B E mk)) :
    GE B E X (.Call (.Name x p) [] kws pos) (mCall fi (cal f) 0 ks mNil mk) := by
  obtain ⟨hP, hgd, ok⟩ := okF_spec hf
  have G := C.fn f fi hP
  obtain ⟨fd, F, hb⟩ := G.ok
  obtain ⟨its, dvs, hd, kb⟩ := hb 0 ks ok
  exact PEmono (pe_callS0 F (C.room.less hgd.2) (fun z => C.hg (hgd.1 z)) hg hm G.kp kb hx hk (kw_all hkn) (by rw [kw_names, hks]) hdb (by rw [kw_none hkn]; rfl)) fun σ H Q h => gE_call0 ok hd σ H Q h

/-! ### o.m(e, ..), o an own instance -/
def mMth (mt : Nat → Nat → Option Nat) (P : Nat → Option FI) (cal : Nat → List D → M D) (m n : Nat) (mo : Env → M D) (ms : Env → M (List D)) : Env → M D := fun env => bnd (mo env) fun o => match o with
  | .ref i => fun S => match S.get i with
    | some (.ins c fs) => match lkF m fs, mt c m with
      | none, some f => match okF P ⟨false, true⟩ f (n + 1) [] with
        | some fi => bnd (ms env) (fun ds => mFn fi (cal f) (n + 1) [] (o :: ds) []) S
        | none => none
      | _, _ => none
    | _ => none
  | _ => stuck
theorem mMth_inv {m n : Nat} {mo : Env → M D} {ms : Env → M (List D)} {w : Wd} {env : Env} {S : Sto} {Q : VK} (h : PD B E w (mMth B.mt P cal m n mo ms env S) Q) :
    (∃ x S1, mo env S = some (.exc x S1)) ∨ ∃ i S1 c fs f fi, mo env S = some (.ok (.ref i) S1) ∧ S1.get i = some (.ins c fs) ∧ lkF m fs = none ∧ B.mt c m = some f ∧ okF P ⟨false, true⟩ f (n + 1) [] = some fi ∧
      PD B E w (bnd (ms env) (fun ds => mFn fi (cal f) (n + 1) [] (.ref i :: ds) []) S1) Q := by
  unfold mMth at h
  cases e1 : mo env S with
  | none => rw [bnd_none e1] at h; exact h.elim
  | some r =>
    cases r with
    | exc x S1 => exact .inl ⟨x, S1, rfl⟩
    | ok o S1 =>
      rw [bnd_ok e1] at h
      split at h
      · rename_i i
        split at h
        · rename_i c fs e2
          split at h
          · rename_i f e3 e4
            split at h
            · rename_i fi e5
              exact .inr ⟨i, S1, c, fs, f, fi, rfl, e2, e3, e4, e5, h⟩
            · exact h.elim
          · exact h.elim
        · exact h.elim
      · exact h.elim
end
end G
end
section
/-! G17: methods, instances, bound methods, called locals. -/
namespace G
open PySem L2
section
variable {B : Tb} {P : Nat → Option FI} {cal : Nat → List D → M D} {gd : Md} {CX : CXT} {k : Nat} {E : XK} {X : Cx} {w : Wd} {S : Sto}
theorem pe_methX {o : Expr} {m : Str} {apos pos : Pos} {es : List Expr} {t : TE} (ho : PE X o t) (h1 : baseOk o = true) (h2 : es.all (fun e => !isStar e) = true) (h3 : Nat.blt es.length 30 = true) (h4 : (apos.endLine == pos.line) = true) :
    PE X (.Call (.Attribute o m apos) es [] pos) (fun σ H Q => t σ H fun _ _ => False) := by
  refine ⟨fun pins s σ H Q I h => ?_⟩
  rw [meth_line h1 h2 h3 h4]
  refine wpAny_bind (wpAny_mono (ho.run pins s σ H _ I h) (fun u s1 hq => ?_) fun _ _ z => z)
  obtain ⟨x, H1, I1, rx, q⟩ := hq
  exact q.elim
theorem ge_mth1 {o e : Expr} {es : List Expr} {m n : Nat} {mo : Env → M D} {ms : Env → M (List D)} {apos pos : Pos} {x : Str} (C : CxG B P cal gd CX k X) (hcm : gd.cm = true) (hx : Passes CX X E) (hn : B.nm m = x) (ho : GE B E X o mo) (ha : GA B E X (e :: es) ms)
    (h1 : baseOk o = true) (h2 : (e :: es).all (fun e => !isStar e) = true) (h3 : Nat.blt (e :: es).length 30 = true) (h4 : (apos.endLine == pos.line) = true) :
    GE B E X (.Call (.Attribute o x apos) (e :: es) [] pos) (mMth B.mt P cal m n mo ms) := by
  refine ⟨fun pins s σ H Q I ⟨w, env, S, hw, rs, re, h⟩ => ?_⟩
  subst hw
  rcases mMth_inv h with ⟨y, S1, e1⟩ | ⟨i, S1, c, fs, f, fi, e1, e2, e3, e4, e5, h'⟩
  · refine (pe_methX ho h1 h2 h3 h4).run pins s σ w.H Q I ⟨w, env, S, rfl, rs, re, ?_⟩
    unfold mMth at h
    rw [bnd_exc e1] at h
    rw [e1]
    exact h
  · obtain ⟨hP, hgd, ok⟩ := okF_spec e5
    have G := C.fn f fi hP
    obtain ⟨fd, F, hb⟩ := G.ok
    obtain ⟨its, dvs, hd, kb⟩ := hb (n + 1) [] ok
    have hgf : fi.gd.sh = false := by
      cases q : fi.gd.sh with
      | false => rfl
      | true => exact nomatch hgd.1 q
    obtain ⟨hc, hm⟩ := B.mtC c m f e4
    rw [hn] at hm
    have hst := stars (env := X.env) (pos := pos) h2
    refine (pe_methN (n := n + 1) ho (by rw [C.hK]; exact hc) (by rw [C.hK]; exact hm.mt) (F.ok hgf) (C.room.room hcm) kb hx ha hst.1 hst.2 (meth_line h1 h2 h3 h4)).run pins s σ w.H Q I ?_
    refine ⟨w, env, S, rfl, rs, re, ?_⟩
    rw [e1]
    intro w1 l1 rs1 v rv
    have rv' := rv
    obtain ⟨hi, rfl⟩ := rv_ref rv
    obtain ⟨o', ho', dx, gs, rfl, q⟩ := rs1.at_ _ _ e2
    refine ⟨_, dx, gs, rfl, ho', by rw [← hn]; exact q.nolk e3, w1, env, S1, rfl, rs1, re.mono l1, (Po.le l1 h').bnd.imp fun w2 S2 ds l2 rs2 h2 vs rvs => ?_⟩
    obtain ⟨q1, q2, q3⟩ := mFn_some h2
    refine ⟨?_, w2, S2, arr (selOf fi.ps (n + 1) [] fi.dfl.length) (.ref i :: ds) [] fi.dfl, rfl, rs2, Sel.rvs (.cons (rv'.mono l2) rvs) .nil (hd w2) _, arr_len ok q1 q2 rfl, q3⟩
    rw [rvs.length]
    simpa using q1
theorem ge_mth0 {o : Expr} {m : Nat} {mo : Env → M D} {apos pos : Pos} {x : Str} (C : CxG B P cal gd CX k X) (hcm : gd.cm = true) (hx : Passes CX X E) (hn : B.nm m = x) (ho : GE B E X o mo)
    (h1 : baseOk o = true) (h4 : (apos.endLine == pos.line) = true) :
    GE B E X (.Call (.Attribute o x apos) [] [] pos) (mMth B.mt P cal m 0 mo mNil) := by
  refine ⟨fun pins s σ H Q I ⟨w, env, S, hw, rs, re, h⟩ => ?_⟩
  subst hw
  rcases mMth_inv h with ⟨y, S1, e1⟩ | ⟨i, S1, c, fs, f, fi, e1, e2, e3, e4, e5, h'⟩
  · refine (pe_methX ho h1 rfl rfl h4).run pins s σ w.H Q I ⟨w, env, S, rfl, rs, re, ?_⟩
    unfold mMth at h
    rw [bnd_exc e1] at h
    rw [e1]
    exact h
  · obtain ⟨hP, hgd, ok⟩ := okF_spec e5
    have G := C.fn f fi hP
    obtain ⟨fd, F, hb⟩ := G.ok
    obtain ⟨its, dvs, hd, kb⟩ := hb 1 [] ok
    have hgf : fi.gd.sh = false := by
      cases q : fi.gd.sh with
      | false => rfl
      | true => exact nomatch hgd.1 q
    obtain ⟨hc, hm⟩ := B.mtC c m f e4
    rw [hn] at hm
    refine (pe_methN0 (n := 1) ho (by rw [C.hK]; exact hc) (by rw [C.hK]; exact hm.mt) (F.ok hgf) (C.room.room hcm) kb hx (meth_line h1 rfl rfl h4)).run pins s σ w.H Q I ?_
    refine ⟨w, env, S, rfl, rs, re, ?_⟩
    rw [e1]
    intro w1 l1 rs1 v rv
    have rv' := rv
    obtain ⟨hi, rfl⟩ := rv_ref rv
    obtain ⟨o', ho', dx, gs, rfl, q⟩ := rs1.at_ _ _ e2
    obtain ⟨q1, q2, q3⟩ := mFn_some (Po.le l1 h')
    exact ⟨_, dx, gs, rfl, ho', by rw [← hn]; exact q.nolk e3, rfl, w1, S1, arr (selOf fi.ps 1 [] fi.dfl.length) [.ref i] [] fi.dfl, rfl, rs1, Sel.rvs (.cons rv' .nil) .nil (hd w1) _, arr_len ok q1 q2 rfl, q3⟩

/-! ### C(e, .., k = v, ..) -/
def mMake (c : Nat) (fi : FI) (r : List D → M D) (n : Nat) (ks : List Str) (ms mk : Env → M (List D)) : Env → M D := fun env => bnd (ms env) fun ds => bnd (mk env) fun zs S =>
  bnd (mFn fi r (n + 1) ks (.ref S.n :: ds) zs) (fun d => if isNon d then ret (.ref S.n) else stuck) (S.push (.ins c []))
theorem isNon_v {d : D} {v : V} (h : isNon d = true) (r : Rv B w d v) : v = .non := by
  cases d with
  | non => simpa only [Rv] using r
  | _ => cases h
theorem mFn_po {fi : FI} {r : List D → M D} {n : Nat} {ks : List Str} {ds zs : List D} {S : Sto} {w : Wd} {P : Wd → Sto → D → Prop} (h : Po B E w (mFn fi r n ks ds zs S) P) : Po B E w (r (arr (selOf fi.ps n ks fi.dfl.length) ds zs fi.dfl) S) P := by
  unfold mFn at h
  split at h
  · rename_i hc
    rw [Bool.and_eq_true, Bool.and_eq_true] at hc
    obtain ⟨⟨h1, h2⟩, h3⟩ := hc
    rw [fill_eq h1 (beq_t.mp h2)] at h
    exact h
  · exact h.elim
theorem gE_make {c n : Nat} {fi : FI} {r : List D → M D} {ks : List Str} {dvs : List V} {ms mk : Env → M (List D)} (ok : bindOk fi.ps (n + 1) ks fi.dfl.length = true) (hd : ∀ w, Rvs B w fi.dfl dvs) (σ : L2.St) (H : Hp) (Q : VK) (h : gE B E (mMake c fi r n ks ms mk) σ H Q) :
    tMakeK (B.ca c) n ks.length (spG B fi.ps.length r) (fun vs zs => arr (selOf fi.ps (n + 1) ks fi.dfl.length) vs zs dvs) E (gA B E ms) (gA B E mk) σ H Q := by
  obtain ⟨w, env, S, hw, rs, re, h⟩ := h
  refine ⟨w, env, S, hw, rs, re, h.bnd.imp fun w1 S1 ds l1 rs1 h1 vs rvs => ?_⟩
  refine ⟨w1, env, S1, rfl, rs1, re.mono l1, h1.bnd.imp fun w2 S2 es l2 rs2 h2 us rus => ?_⟩
  have h3 : Po B E w2 (mFn fi r (n + 1) ks (.ref S2.n :: ds) es (S2.push (.ins c []))) fun w3 S3 d => Po B E w3 ((if isNon d then ret (.ref S2.n) else stuck) S3) fun w' _ d => ∀ v, Rv B w' d v → Q v w'.H := Po.bnd h2
  obtain ⟨e1, e2, h4⟩ := mFn_some (E := E) (w := w2) (Q := fun _ _ => True) (Po.imp h3 fun _ _ _ _ _ _ _ _ => trivial)
  refine ⟨by rw [rvs.length]; simpa using e1, by rw [rus.length]; exact e2, fun x dx hx hdx hne => ?_⟩
  have le1 : w2.le (w2.putI dx (.own x)) := Wd.putI_le hdx
  have rs3 := rs2.putI (o := .own x) hdx
  have hx' : (w2.putI dx (.own x)).H x = none := by
    show upd w2.H dx (.own x) x = none
    rw [upd_ne (Ne.symm hne)]
    exact hx
  have le2 : (w2.putI dx (.own x)).le ((w2.putI dx (.own x)).new x (.ins (B.ca c) dx [])) := Wd.new_le hx'
  have rs4 : RS B ((w2.putI dx (.own x)).new x (.ins (B.ca c) dx [])) (S2.push (.ins c [])) := rs3.new hx' ⟨dx, [], rfl, rfl⟩
  have le3 := le1.trans le2
  have r0 : Rv B ((w2.putI dx (.own x)).new x (.ins (B.ca c) dx [])) (.ref S2.n) (.ref x) := by
    simp only [Rv]
    refine ⟨by show S2.n < w2.n + 1; rw [rs2.len]; exact Nat.lt_succ_self _, ?_⟩
    show V.ref x = .ref (if S2.n = w2.n then x else w2.ρ S2.n)
    rw [if_pos rs2.len.symm]
  refine ⟨_, S2.push (.ins c []), arr (selOf fi.ps (n + 1) ks fi.dfl.length) (.ref S2.n :: ds) es fi.dfl, rfl, rs4, Sel.rvs (.cons r0 ((rvs.mono l2).mono le3)) (rus.mono le3) (hd _) _, arr_len ok e1 e2 rfl, ?_⟩
  have h5 := Po.le le3 (mFn_po h3)
  refine Po.imp h5 fun w5 S5 d l5 rs5 h6 v rv => ?_
  by_cases hc : isNon d = true
  · rw [if_pos hc] at h6
    exact ⟨isNon_v hc rv, PD.ret h6 rs5 (r0.mono l5)⟩
  · rw [if_neg hc] at h6
    exact h6.elim
theorem ge_make1 {c f n : Nat} {fi : FI} {ks : List Str} {x : Str} {e : Expr} {es : List Expr} {kws : List Keyword} {ms mk : Env → M (List D)} {p pos : Pos} (C : CxG B P cal gd CX k X) (hcm : gd.cm = true) (hx : Passes CX X E) (hi : B.ini c = some f) (hf : okF P ⟨false, true⟩ f (n + 1) ks = some fi) (hg : Gl X x) (hm : X.mg x = some (.ref (B.ca c)))
    (hdb : (x == ("__debug__" : Str)) = false) (hst : (e :: es).all (fun e => !isStar e) = true) (hkn : kws.all (·.arg.isSome) = true) (hks : kws.filterMap (·.arg) = ks) (ha : GA B E X (e :: es) ms) (hk : PK X kws (gA B E mk)) :
    GE B E X (.Call (.Name x p) (e :: es) kws pos) (mMake c fi (cal f) n ks ms mk) := by
  obtain ⟨hP, hgd, ok⟩ := okF_spec hf
  have G := C.fn f fi hP
  obtain ⟨fd, F, hb⟩ := G.ok
  obtain ⟨its, dvs, hd, kb⟩ := hb (n + 1) ks ok
  have hgf : fi.gd.sh = false := by
    cases q : fi.gd.sh with
    | false => rfl
    | true => exact nomatch hgd.1 q
  have hM := B.iniC c f hi
  exact PEmono (pe_makeK (by rw [C.hK]; exact hM) (F.ok hgf) (C.hr.room hcm) hg hm kb hx ha hk (kw_all hkn) (by rw [kw_names, hks]) hdb (stars (pos := pos) hst).1 (by rw [star_plain hst, kw_none hkn]; rfl)) fun σ H Q h => gE_make ok hd σ H Q h
theorem ge_make0 {c f : Nat} {fi : FI} {ks : List Str} {x : Str} {kws : List Keyword} {mk : Env → M (List D)} {p pos : Pos} (C : CxG B P cal gd CX k X) (hcm : gd.cm = true) (hx : Passes CX X E) (hi : B.ini c = some f) (hf : okF P ⟨false, true⟩ f 1 ks = some fi) (hg : Gl X x) (hm : X.mg x = some (.ref (B.ca c)))
    (hdb : (x == ("__debug__" : Str)) = false) (hkn : kws.all (·.arg.isSome) = true) (hks : kws.filterMap (·.arg) = ks) (hk : PK X kws (gA B E mk)) :
    GE B E X (.Call (.Name x p) [] kws pos) (mMake c fi (cal f) 0 ks mNil mk) := by
  obtain ⟨hP, hgd, ok⟩ := okF_spec hf
  have G := C.fn f fi hP
  obtain ⟨fd, F, hb⟩ := G.ok
  obtain ⟨its, dvs, hd, kb⟩ := hb 1 ks ok
  have hgf : fi.gd.sh = false := by
    cases q : fi.gd.sh with
    | false => rfl
    | true => exact nomatch hgd.1 q
  have hM := B.iniC c f hi
  refine PEmono (pe_makeK0 (by rw [C.hK]; exact hM) (F.ok hgf) (C.hr.room hcm) hg hm kb hx hk (kw_all hkn) (by rw [kw_names, hks]) hdb (by rw [kw_none hkn]; rfl)) fun σ H Q h => ?_
  obtain ⟨w, env, S, hw, rs, re, h2⟩ := gE_make (n := 0) ok hd σ H Q h
  subst hw
  exact Po.ret (a := ([] : List D)) h2 rs [] .nil
end
end G
end
section
/-! E1: an own exception under ValueError made, by position and by name. -/
namespace G
open PySem PySem.W PySem.Calls PySem.HandSPX L2
abbrev FVE := PySem.F.excBase_ValueError
section
variable {M : Model} {A : Around} {E : Value → Shared → Prop} {h : Heap} {g : Array GenState} {d : Drawn} {t : Nat} {os : OsState}
variable {nm q : Str} {C N : Addr} {bs bm : List Value} {hdct : Bool} {sn : List Str} {sub : List Value} {ab : Bool} {col : Option Bool} {dd : Option Addr} {k0 k1 k2 k3 k5 : Option Value}
abbrev veObj (nm q : Str) (C N : Addr) (bs bm : List Value) (hdct : Bool) (sn : List Str) (sub : List Value) (ab : Bool) (col : Option Bool) (dd : Option Addr) (k0 k1 k2 k3 k5 : Option Value) : Obj := excClassObj nm q C N bs bm hdct sn sub ab col dd k0 k1 k2 k3 k5 "ValueError.__new__"
theorem ve_has (hb : refsVE bm = true) (X : String) (h : veTail.contains (.type X) = true) : (Value.ref C :: bm).contains (.type X) = true := by
  rw [List.contains_cons, refsVE_contains X bm hb, h, Bool.or_true]
theorem ve_hasnt (hb : refsVE bm = true) (X : String) (h : veTail.contains (.type X) = false) : (Value.ref C :: bm).contains (.type X) = false := by
  rw [List.contains_cons, refsVE_contains X bm hb, h]; rfl
theorem xchk_new (hb : refsVE bm = true) {rest : List Value} {kw : List (Str × Value)} {Q : Unit → Shared → Prop}
    (hC : h.get? C = some (veObj nm q C N bs bm hdct sn sub ab col dd k0 k1 k2 k3 k5)) (hq : Q () ⟨h, g, d, t, os⟩) : wpAny M A (checkBuiltinCall "ValueError.__new__" ⟨.ref C :: rest, kw⟩) Q E ⟨h, g, d, t, os⟩ := by
  have hcont : (Value.ref C :: bm).contains (.type "ValueError") = true := ve_has hb _ (by decide +kernel)
  have hstar := FVE.noStar
  simp only [checkBuiltinCall, FVE.newKind, FVE.newSplit, FVE.newRow]
  repeat (first | refine wpAny_loadPart_at hC ?_ | (refine wpAny_isSubtype_exc hC ?_; rw [hcont]) | refine wpAny_staticBase_exc hC ?_ | refine wpAny_madeBy_exc hC ?_ | simp only [bne_self_eq_false, Bool.false_eq_true, if_false] | wp_step)
  exact hq
end
section
variable {prog : Program} {w : World} {A : Around} {E : Value → Shared → Prop} {R : Result → Shared → Prop} {h : Heap} {g : Array GenState} {d : Drawn} {t : Nat} {os : OsState}
variable {nm q : Str} {C N : Addr} {bs bm : List Value} {hdct : Bool} {sn : List Str} {sub : List Value} {ab : Bool} {col : Option Bool} {dd : Option Addr} {k0 k1 k2 k3 k5 : Option Value}
theorem xnew (hb : refsVE bm = true) {rest : List Value} {kw : List (Str × Value)}
    (hC : h.get? C = some (veObj nm q C N bs bm hdct sn sub ab col dd k0 k1 k2 k3 k5))
    (hq : R (.ok (.ret (.ref (h.objs.size + 1)))) ⟨(h.push { cls := .type "tuple", data := .seq rest.toArray }).push (excO C h.objs.size), g, d, t, os⟩) (hrest : rest.length ≤ sizeLine) :
    codeAny (model prog w) A (.builtin "ValueError.__new__" ⟨.ref C :: rest, kw⟩) R ⟨h, g, d, t, os⟩ := by
  have hends := FVE.ends
  have hcB : (Value.ref C :: bm).contains (.type "ValueError") = true := ve_has hb _ (by decide +kernel)
  have hcA : (Value.ref C :: bm).contains (.type "AttributeError") = false := ve_hasnt hb _ (by decide +kernel)
  have hcN : (Value.ref C :: bm).contains (.type "NameError") = false := ve_hasnt hb _ (by decide +kernel)
  refine codeAny_builtinAt FVE.entry ?_
  unfold Builtin.«BaseException.__new__»
  refine PySem.wpAt_bind ?_
  show PySem.wpAt _ _ _ (stack >>= _) _ _ _
  refine PySem.wpAt_bind (PySem.wpAt_stack fun p below => PySem.wpAt_of_wpAny ?_)
  wp_walk
  refine PySem.wpAt_of_wpAny ?_
  rw [FVE.owner]
  repeat (first | with_reducible refine wpAny_madeHere_exc FVE.canon hC ?_ | with_reducible refine wpAny_loadPart_at hC ?_ | (with_reducible refine wpAny_isSubtype_exc hC ?_; first | rw [hcB] | rw [hcA] | rw [hcN]) | wp_step)
  show R _ _
  rw [Heap.size_push]
  exact hq
theorem xtype_call (hb : refsVE bm = true) {rest : List Value} {kw : List (Str × Value)} {fI : Addr} {Q : Fin → Shared → Prop}
    (hC : h.get? C = some (veObj nm q C N bs bm hdct sn sub ab col dd k0 k1 k2 k3 k5))
    (hi : W.Looks (model prog w) h (typeLookup (.ref C) "__init__") (some (.ref fI))) (hbd : ∀ self, W.Looks (model prog w) h (bindSpecial (.ref fI) self) (.ref fI, [self])) (hrest : rest.length ≤ sizeLine)
    (hq : codeAny (model prog w) A (.call (.ref fI) ⟨.ref (h.objs.size + 1) :: rest, kw⟩)
      (fun r s' => match r with | .ok (.ret v) => v = .none ∧ Q (.done (.ret (.ref (h.objs.size + 1)))) s' | .ok _ => False | .error e => E e s')
      ⟨(h.push (W.kdv_tup rest)).push (excO C h.objs.size), g, d, t, os⟩) :
    wpAny (model prog w) A (Builtin.«type.__call__» ⟨.ref C :: rest, kw⟩) Q E ⟨h, g, d, t, os⟩ := by
  repeat (first | with_reducible refine wpAny_loadPart_at hC ?_ | with_reducible refine wpAny_madeBy_exc hC ?_ | wp_step)
  refine codeAny_call_builtin_code (Code.quiet_builtin _ FVE.quiet) (xchk_new hb hC ?_)
  refine xnew hb hC ?_ hrest
  show wpAny _ _ _ _ _ _
  have k : ∀ b o, h.get? b = some o → ((h.push (W.kdv_tup rest)).push (excO C h.objs.size)).get? b = some o := fun b o e => Heap.get?_push_of_some _ (Heap.get?_push_of_some _ e)
  have hC₁ := k _ _ hC
  have hget : ((h.push (W.kdv_tup rest)).push (excO C h.objs.size)).get? (h.objs.size + 1) = some (excO C h.objs.size) := by heap_get
  have hcC : (Value.ref C :: bm).contains (.ref C) = true := by simp
  have i1 := hi.keeps k
  have b1 := (hbd (.ref (h.objs.size + 1))).keeps k
  unfold isInstance
  repeat (first | with_reducible refine wpAny_loadPart_at hget ?_ | (with_reducible refine wpAny_isSubtype_exc hC₁ ?_; rw [hcC]) | wp_step)
  show wpAny _ _ (typeLookup (.ref C) _) _ _ _
  refine i1.at ?_
  refine wpAny_holding (wpAny_bind (b1.at ?_))
  refine wpAny_bind (wpAny_call (codeAny_mono hq fun r s' z => ?_))
  rcases r with e | (v | _ | _ | _) <;> first | exact z | exact z.elim | skip
  obtain ⟨rfl, z⟩ := z
  first
    | exact wpAny_pure (wpAny_pure z)
    | (wp_walk; exact z)
theorem xtype_chk {M : Model} {E : Value → Shared → Prop} {rest : List Value} {kw : List (Str × Value)} {Q : Unit → Shared → Prop} (hC : h.get? C = some (veObj nm q C N bs bm hdct sn sub ab col dd k0 k1 k2 k3 k5))
    (hq : Q () ⟨h, g, d, t, os⟩) : wpAny M A (checkBuiltinCall "type.__call__" ⟨.ref C :: rest, kw⟩) Q E ⟨h, g, d, t, os⟩ := by
  have f3 := tc_sub
  have ht : (⟨h, g, d, t, os⟩ : Shared).TypeIs (.ref C) "type" := ⟨_, hC, rfl⟩
  simp only [checkBuiltinCall, tc_kind, tc_split]
  repeat (any_goals (first | assumption | with_reducible refine wpAny_loadPart_at hC ?_ | with_reducible refine wpAny_onRaise ?_ | with_reducible refine wpAny_map ?_ | wp_step))
/-- C(..), C's own __init__ at fI -/
theorem xcall (hb : refsVE bm = true) {rest : List Value} {kw : List (Str × Value)} {fI : Addr}
    (hC : h.get? C = some (veObj nm q C N bs bm hdct sn sub ab col dd k0 k1 k2 k3 k5))
    (hi : W.Looks (model prog w) h (typeLookup (.ref C) "__init__") (some (.ref fI))) (hbd : ∀ self, W.Looks (model prog w) h (bindSpecial (.ref fI) self) (.ref fI, [self])) (hrest : rest.length ≤ sizeLine)
    (hq : codeAny (model prog w) (A.under (.builtin "type.__call__" ⟨.ref C :: rest, kw⟩)) (.call (.ref fI) ⟨.ref (h.objs.size + 1) :: rest, kw⟩) (W.InitBack (h.objs.size + 1) R)
      ⟨(h.push (W.kdv_tup rest)).push (excO C h.objs.size), g, d, t, os⟩) :
    codeAny (model prog w) A (.call (.ref C) ⟨rest, kw⟩) R ⟨h, g, d, t, os⟩ := by
  have f1 := tc_lookup
  have f2 := tc_bind (.ref C)
  have hTy : (⟨h, g, d, t, os⟩ : Shared).TypeIs (.ref C) "type" := ⟨_, hC, rfl⟩
  refine codeAny_of_tree ?_
  show wpAny _ _ (callAny (.ref C) _) _ _ _
  repeat (any_goals (first | assumption | with_reducible refine wpAny_loadPart_at hC ?_ | wp_step))
  refine ⟨rfl, ?_⟩
  refine codeAny_call_builtin_at (Code.quiet_builtin _ (by decide +kernel)) entry_typeCall (xtype_chk hC (xtype_call hb hC hi hbd hrest ?_))
  refine codeAny_mono hq fun r s' z => ?_
  rcases r with e | (v | _ | _ | _) <;> exact z
end
/-! ### super().__init__(..) -/
section
variable {prog : Program} {w : World} {A : Around} {E : Value → Shared → Prop} {h : Heap} {g : Array GenState} {d : Drawn} {t : Nat} {os : OsState}
variable {nm q : Str} {C N : Addr} {bs bm : List Value} {hdct : Bool} {sn : List Str} {sub : List Value} {ab : Bool} {col : Option Bool} {dd : Option Addr} {k0 k1 k2 k3 k5 : Option Value}
theorem xbound {u e t0 : Addr} {rest : List Value} {Q : Value → Shared → Prop}
    (hC : h.get? C = some (veObj nm q C N bs bm hdct sn sub ab col dd k0 k1 k2 k3 k5)) (he : h.get? e = some (excO C t0)) (hu : h.get? u = some (kxs_mw "ValueError.__init__" e)) (hrest : rest.length ≤ sizeLine)
    (hq : ∀ h' t1, (∀ b o, b ≠ e → h.get? b = some o → h'.get? b = some o) → h'.get? e = some (excO C t1) → Q .none ⟨h', g, d, t, os⟩) :
    wpAny (model prog w) A (call (.ref u) rest) Q E ⟨h, g, d, t, os⟩ := by
  refine wpAny_call (codeAny_of_tree ?_)
  show wpAny _ A.in1 (callAny (.ref u) ⟨rest, []⟩) _ _ _
  simp only [callAny]
  refine wpAny_bind (wpAny_load hu ?_)
  simp only [kxs_mw, show (Value.type "method-wrapper" == Value.type "method" || Value.type "method-wrapper" == Value.type "builtin_function_or_method" || Value.type "method-wrapper" == Value.type "method-wrapper") = true by decide, if_true]
  refine W.KFB.if_so (by decide) ?_
  refine wpAny_bind (check_bound_init FVE.toExcCallFacts hC he rfl ?_)
  refine wpAny_bind (wpAny_pure (wpAny_pure ?_))
  refine ⟨Code.quiet_builtin _ (by decide +kernel), codeAny_builtin FVE.initEntry ?_⟩
  rw [Around.under_plainId FVE.init.plain _]
  wp_walk
  refine hq _ h.objs.size (fun b o hb ho => ?_) ?_
  · rw [Heap.get?_update_other _ _ (Ne.symm hb)]
    exact Heap.get?_push_of_some _ ho
  · rw [Heap.get?_update_self _ (Heap.get?_push_of_some _ he) rfl]
    rfl
end
end G
end
section
/-! E2: the text of an own exception's __init__, walked. -/
namespace G
open PySem PySem.W PySem.Calls PySem.HandSPX L2
def xiArgs : List Expr → List Str → Bool
  | [], [] => true
  | .Name x _ :: es, p :: ps => decide (x = p) && xiArgs es ps
  | _, _ => false
def xiAsg (self : Str) : List Stmt → List Str → Bool
  | [], [] => true
  | .Assign [.Attribute (.Name s _) f _] (.Name x _) _ :: r, p :: ps => decide (s = self) && decide (f = p) && decide (x = p) && xiAsg self r ps
  | _, _ => false
def xiBody (self : Str) (ps : List Str) : List Stmt → Bool
  | .Expr (.Call (.Attribute (.Call (.Name su _) [] [] _) ini apos) args [] pos) _ :: r => decide (su = "super") && decide (ini = "__init__") && xiArgs args ps && xiAsg self r ps && (apos.endLine == pos.line) && Nat.blt args.length 30
  | _ => false
/-- while an exception is made: h0 when its __init__ was called -/
structure XP (h0 : Heap) (e C L : Addr) (m : Str → Option Value) (fs : List (Str × Value)) (h : Heap) : Prop where
  keep : ∀ b o, b ≠ e → h0.get? b = some o → h.get? b = some o
  ns : h.Ns L m
  ne : e ≠ L
  at_ : ∃ t1 : Addr, (fs = [] ∧ h.get? e = some (excO C t1)) ∨ ∃ dx mA, h0.get? dx = none ∧ dx ≠ e ∧ dx ≠ L ∧ h.get? e = some ({ cls := .ref C, dict := some dx, data := .fields #[.ref t1, .none, .none, .none, .bool false, .none] } : Obj) ∧ h.Ns1 dx mA ∧ ∀ f, mA f = fs.lookup f
theorem lookup_cons {α : Type} (f g : Str) (y : α) (fs : List (Str × α)) : ((f, y) :: fs).lookup g = if g = f then some y else fs.lookup g := by
  by_cases h : g = f
  · subst h
    simp [List.lookup]
  · have e : (g == f) = false := by simpa using h
    rw [if_neg h]
    simp [List.lookup, e]
theorem within_lk {fs : List (Str × Value)} {mA : Str → Option Value} (h : ∀ f, mA f = fs.lookup f) : PySem.Within mA (fs.map (·.1)) := fun y hy => by
  rw [h y] at hy
  have key : ∀ {l : List (Str × Value)} {v : Value}, l.lookup y = some v → y ∈ l.map (·.1) := by
    intro l
    induction l with
    | nil => intro v h; cases h
    | cons p l ih =>
      intro v h
      obtain ⟨f, z⟩ := p
      rw [lookup_cons] at h
      by_cases e : y = f
      · rw [e]
        exact List.mem_cons_self ..
      · rw [if_neg e] at h
        exact List.mem_cons_of_mem _ (ih h)
  cases e : fs.lookup y with
  | none => exact absurd e hy
  | some v => exact key e
section
variable {prog : Program} {w : World} {A : Around} {E : Value → Shared → Prop} {K : Frag} {e C L : Addr} {m : Str → Option Value} {h0 : Heap} {env : PySem.Env} {g : Array GenState} {d : Drawn} {os : OsState}
theorem ldv {s : Shared} {x : Str} {v : Value} {pos : Pos} {Q : Value → Shared → Prop} {M : Model} (hk : env.scope.kind = .function) (hl : env.kindOf x = some .local) (hn : s.heap.Ns env.locals m) (hv : m x = some v) (hd : (x == ("__debug__" : Str)) = false) (h : Q v s) :
    wpAny M A (eval (.Name x pos) env) Q E s := wpAny_Name (wpAny_loadName_local hk hl hn hv h) hd
theorem xi_args {pos : Pos} {s : Shared} {M : Model} (hk : env.scope.kind = .function) (hn : s.heap.Ns env.locals m) : ∀ (es : List Expr) (ps : List Str) (us : List Value) (Q : List Value → Shared → Prop), xiArgs es ps = true → us.length = ps.length →
    (∀ x u, (x, u) ∈ ps.zip us → m x = some u ∧ env.kindOf x = some .local ∧ (x == ("__debug__" : Str)) = false) → Q us s → wpAny M A (spliced (backTo pos (starEach es env))) Q E s
  | [], [], [], Q, _, _, _, q => Calls.spliced_nil q
  | [], [], _ :: _, _, _, h, _, _ => nomatch h
  | [], _ :: _, _, _, h, _, _, _ => by simp [xiArgs] at h
  | e :: es, ps, us, Q, h, hl, hm, q => by
    unfold xiArgs at h
    split at h
    · rename_i h2; cases h2
    · rename_i x px es' y ps' h1
      cases h1
      rw [Bool.and_eq_true, decide_eq_true_eq] at h
      obtain ⟨rfl, h⟩ := h
      cases us with
      | nil => cases hl
      | cons u us =>
        obtain ⟨m1, k1, d1⟩ := hm x u (List.mem_cons_self ..)
        refine Calls.spliced_cons (rest := backTo pos (starEach es env)) (ldv hk k1 hn m1 d1 ?_)
        exact xi_args hk hn es _ us _ h (by simpa using hl) (fun x u hx => hm x u (List.mem_cons_of_mem _ hx)) q
    · cases h
theorem xi_asgs {cd : ClassData} {self : Str} (hcl : clsIn K C = some cd) (hcm : refsVE cd.mro = true) (hcd : cd.hasDict = true) (hsa : findIn K (.ref C) "__setattr__" = some (some (.builtin "object.__setattr__")))
    (hk : env.scope.kind = .function) (hL : env.locals = L) (hself : m self = some (.ref e) ∧ env.kindOf self = some .local ∧ (self == ("__debug__" : Str)) = false) (heK : K.lookup e = none) (X0 : K.In h0) :
    ∀ (r : List Stmt) (ps : List Str) (us : List Value) (fs : List (Str × Value)) (h : Heap) (t : Nat) (Q : Flow → Shared → Prop), xiAsg self r ps = true → us.length = ps.length →
    (∀ x u, (x, u) ∈ ps.zip us → m x = some u ∧ env.kindOf x = some .local ∧ (x == ("__debug__" : Str)) = false ∧ findIn K (.ref C) x = some none) → fs.length + ps.length ≤ 900 → XP h0 e C L m fs h →
    (∀ h' t', XP h0 e C L m ((ps.zip us).reverse ++ fs) h' → Q .next ⟨h', g, d, t', os⟩) → wpAny (model prog w) A (execs r env) Q E ⟨h, g, d, t, os⟩
  | [], [], [], fs, h, t, Q, _, _, _, _, xp, q => wpAny_execs_nil (q h t xp)
  | [], [], _ :: _, _, _, _, _, _, hl, _, _, _, _ => nomatch hl
  | [], _ :: _, _, _, _, _, _, h, _, _, _, _, _ => by simp [xiAsg] at h
  | st :: r, ps, us, fs, h, t, Q, hx, hl, hm, hz, xp, q => by
    unfold xiAsg at hx
    split at hx
    · rename_i h2; cases h2
    · rename_i s1 p1 f p2 x p3 p4 r' y ps' h1
      cases h1
      simp only [Bool.and_eq_true, decide_eq_true_eq] at hx
      obtain ⟨⟨⟨rfl, rfl⟩, rfl⟩, hx⟩ := hx
      cases us with
      | nil => cases hl
      | cons u us =>
        obtain ⟨m1, k1, d1, na⟩ := hm x u (List.mem_cons_self ..)
        have X1 : K.In h := fun b o z => xp.keep b o (fun y => by rw [y, heK] at z; cases z) (X0 b o z)
        have ns' := xp.ns
        rw [← hL] at ns'
        refine wpAny_execs_cons (plainObj_wpAny_Assign_Attribute (ldv hk k1 ns' m1 d1 (ldv hk hself.2.1 ns' hself.1 hself.2.2 ?_)))
        have rest : ∀ h' t', XP h0 e C L m ((x, u) :: fs) h' → wpAny (model prog w) A (execs r env) Q E ⟨h', g, d, t', os⟩ := fun h' t' xp' => by
          refine xi_asgs hcl hcm hcd hsa hk hL hself heK X0 r _ us ((x, u) :: fs) h' t' Q hx (by simpa using hl) (fun y v hy => hm y v (List.mem_cons_of_mem _ hy)) (by simp at hz ⊢; omega) xp' fun h2 t2 z => q h2 t2 ?_
          simpa using z
        obtain ⟨t1, ⟨hf, he⟩ | ⟨dx, mA, hd0, hde, hdL, he, hns, hmA⟩⟩ := xp.at_
        · refine set_plain X1 (ox := excO C t1) (od := none) ⟨he, rfl, rfl, trivial⟩ hsa ?_
          refine exc_osa X1 he hcl hcm hcd na fun h' tk' dx k dn dne hx' hn => rest h' tk' ?_
          have eL : L ≠ dx := by
            obtain ⟨o, _, _, ho, _⟩ := xp.ns
            exact Nat.ne_of_lt (Nat.lt_of_lt_of_le (Heap.lt_size ho) dn)
          refine ⟨fun b o hb z => k b o hb (xp.keep b o hb z), xp.ns.at fun o z => k _ o (Ne.symm xp.ne) z, xp.ne, t1, .inr ⟨dx, _, ?_, dne, Ne.symm eL, hx', hn, fun f => ?_⟩⟩
          · cases z : h0.get? dx with
            | none => rfl
            | some o => exact absurd (Heap.lt_size (xp.keep dx o dne z)) (Nat.not_lt_of_le dn)
          · subst hf
            rw [lookup_cons]; rfl
        · obtain ⟨oD, esD, epD, hoD, hdD⟩ := hns.count (within_lk hmA)
          refine set_plain X1 (od := some oD) ⟨he, rfl, rfl, hoD⟩ hsa ?_
          refine PySem.OEX.osa_old X1 he hns (within_lk hmA) (by rw [List.length_map]; simp at hz; omega) hcl hcm hcd na fun h' tk' k hn => rest h' tk' ?_
          refine ⟨fun b o hb z => k b o (fun y => ?_) (xp.keep b o hb z), xp.ns.at fun o z => k _ o (Ne.symm hdL) z, xp.ne, t1, .inr ⟨dx, _, hd0, hde, hdL, k _ _ (Ne.symm hde) he, hn, fun f => ?_⟩⟩
          · rw [y, hd0] at z; cases z
          · rw [lookup_cons]
            show (if f = x then some u else mA f) = _
            rw [hmA f]
    · cases hx
end
end G
end
section
/-! E3: an own exception's __init__ called. -/
namespace G
open PySem PySem.W PySem.Calls PySem.HandSPX L2
theorem lookup_of {α : Type} : ∀ {l : List (Str × α)} {x : Str} {u : α}, (l.map (·.1)).Nodup → (x, u) ∈ l → l.lookup x = some u
  | [], _, _, _, h => by cases h
  | (y, v) :: l, x, u, hn, h => by
    rw [lookup_cons]
    rw [List.map_cons, List.nodup_cons] at hn
    rcases List.mem_cons.mp h with e | e
    · cases e; rw [if_pos rfl]
    · rw [if_neg (fun z => hn.1 (by rw [← z]; exact List.mem_map_of_mem (f := (·.1)) e))]
      exact lookup_of hn.2 e
theorem xi_nostar : ∀ {es : List Expr} {ps : List Str}, xiArgs es ps = true → es.all (fun e => !isStar e) = true ∧ es.length = ps.length
  | [], [], _ => ⟨rfl, rfl⟩
  | [], _ :: _, h => by simp [xiArgs] at h
  | e :: es, ps, h => by
    unfold xiArgs at h
    split at h
    · rename_i h2; cases h2
    · rename_i x px es' y ps' h1
      cases h1
      rw [Bool.and_eq_true] at h
      obtain ⟨a, b⟩ := xi_nostar h.2
      exact ⟨by rw [List.all_cons, a]; rfl, by simp [b]⟩
    · cases h
theorem xline {o : Expr} {m : Str} {env : PySem.Env} {es : List Expr} {apos pos : Pos} (h2 : es.all (fun e => !isStar e) = true) (h3 : Nat.blt es.length 30 = true) (h4 : (apos.endLine == pos.line) = true) :
    eval (.Call (.Attribute o m apos) es [] pos) env = (do
      let ov ← attributeBase o m env (eval o env)
      standAt apos.atName
      let (f, first) ← holding [ov] (getMethod ov m (plainOf o env))
      callWith pos f first (backTo pos (starEach es env)) []) := by
  show (do
    let ov ← attributeBase o m env (eval o env)
    standAt apos.atName
    methodCall o m apos pos env ov (es.length + ([] : List Keyword).length) (backTo pos (starEach es env)) (backToKw pos (keywordEach [] env))) = _
  have hf : methodCallForm (es.length + ([] : List Keyword).length) (backTo pos (starEach es env)) (backToKw pos (keywordEach [] env)) = true := by
    unfold methodCallForm
    rw [star_all h2]
    show (true && true && decide (es.length + 0 + 0 < 30)) = true
    have : es.length < 30 := Nat.le_of_ble_eq_true h3
    simp; omega
  have : ∀ ov, methodCall o m apos pos env ov (es.length + ([] : List Keyword).length) (backTo pos (starEach es env)) (backToKw pos (keywordEach [] env)) = (do
      let (f, first) ← holding [ov] (getMethod ov m (plainOf o env))
      callWith pos f first (backTo pos (starEach es env)) (backToKw pos (keywordEach [] env))) := fun ov => mcall_line hf h4
  simp only [this]
  rfl
theorem evalArgs_pl {M : Model} {A : Around} {E : Value → Shared → Prop} {s : Shared} {f : Value} {pos : Pos} {env : PySem.Env} {es : List Expr} {Q : Args → Shared → Prop} (h : es.all (fun e => !isStar e) = true) (hne : es ≠ [])
    (hq : wpAny M A (spliced (backTo pos (starEach es env))) (fun vs s' => Q ⟨vs, []⟩ s') E s) : wpAny M A (evalArgs f true (backTo pos (starEach es env)) []) Q E s := by
  cases es with
  | nil => exact absurd rfl hne
  | cons a es =>
    rw [List.all_cons, Bool.and_eq_true] at h
    rw [star_cons (by simpa using h.1)] at hq ⊢
    exact evalArgs_plain hq
structure XSc (me : Str) (ps : List Str) (scope : Scope) : Prop where
  kind : scope.kind = .function
  co : scope.isCoroutine = false
  gen : scope.isGenerator = false
  ncell : ∀ x ∈ scope.names, x.2 ≠ .cell
  su : scope.names.lookup ("super" : Str) = some .globalImplicit
  cl : scope.names.lookup ("__class__" : Str) = some .free
  loc : ∀ x ∈ me :: ps, scope.names.lookup x = some .local ∧ (x == ("__debug__" : Str)) = false
  nd : (me :: ps).Nodup
/-- what the written part says of an exception class's __init__ -/
structure XIn (prog : Program) (K : Frag) (C fI : Addr) (me : Str) (ps : List Str) (fd : FuncData) : Prop where
  ex : ∃ name qual params body scope cc cda dV kV doc pm an ct, fd = fnX name qual params body scope [("__class__", cc)] dV kV doc pm an (.ref cda) ct ∧ codeIn K (.ref cda) qual = true ∧
    (∃ ccl cdd vs ccs file tf, K.lookup cda = some ⟨ccl, cdd, .fields vs, ccs⟩ ∧ vs[2]? = some (.str file tf) ∧ ((prog.main.file : Str) == file) = true) ∧ (∃ cl cld csl, K.lookup cc = some ⟨cl, cld, .cell (some (.ref C)), csl⟩) ∧
    (∃ As dfl, params = ⟨[], As, none, [], [], none, dfl⟩ ∧ As.map (·.arg) = me :: ps) ∧ dV = .none ∧ xiBody me ps body = true ∧ XSc me ps scope
  lk : ∃ oc od osl, K.lookup fI = some ⟨oc, od, .func fd, osl⟩
  cls : OexC K C
  top : (prog.main.scope.names.lookup ("super" : Str)).isSome = false
  sup : ks_superIn K C C "__init__" = some (some (.builtin "ValueError.__init__"))
  ve : subIn K (.ref C) (.type "ValueError") = some true
  own : mroIn K C (.ref C) = some true
  opq : nsIn K cStatics "thirdparty.any" = some none
  nof : ∀ x ∈ ps, findIn K (.ref C) x = some none
section
variable {prog : Program} {w : World} {A : Around} {R : Result → Shared → Prop} {K : Frag} {C fI e : Addr} {self : Str} {ps : List Str} {fd : FuncData} {hp : Heap} {g : Array GenState} {d : Drawn} {t : Nat} {os : OsState} {mg mb : Str → Option Value}
theorem xinit (F : XIn prog K C fI self ps fd) (X0 : K.In hp) (heK : K.lookup e = none) {t0 : Addr} (he : hp.get? e = some (excO C t0)) (hG : hp.Ns mainGlobals mg) (hsu : mg "super" = none) (hB : hp.Ns builtinsNs mb) (hBb : ∀ x : Str, x ≠ "__name__" → mb x = bootBuiltins x)
    (hlim : hp.NoLimit) (hroom : A.depth < recursionLimit) {ar : Args} {us : List Value} (hbind : BindsTo ⟨hp, g, d, t, os⟩ fd ar ((self, .ref e) :: ps.zip us)) (hl : us.length = ps.length) (hz : ps.length ≤ 900)
    (hq : ∀ (h' : Heap) (t' : Nat) (t1 dx : Addr) (mA : Str → Option Value), ps ≠ [] → (∀ b o, b ≠ e → hp.get? b = some o → h'.get? b = some o) → hp.get? dx = none → dx ≠ e →
      h'.get? e = some ({ cls := .ref C, dict := some dx, data := .fields #[.ref t1, .none, .none, .none, .bool false, .none] } : Obj) → h'.Ns1 dx mA → (∀ f, mA f = (ps.zip us).reverse.lookup f) → R (.ok (.ret .none)) ⟨h', g, d, t', os⟩) (hne : ps ≠ []) :
    codeAny (model prog w) A (.call (.ref fI) ar) R ⟨hp, g, d, t, os⟩ := by
  obtain ⟨name, qual, params, body, scope, cc, cda, dV, kV, doc, pm, an, ct, rfl, hcd, ⟨ccl, cdd, vs, ccs, file, tf, hcode, hvs, hfile⟩, ⟨cl, cld, csl, hcell⟩, ⟨As, dfl, hparams, hAs⟩, hdV, hbody, S⟩ := F.ex
  obtain ⟨arg, hpar, rfl⟩ : ∃ ar, (params.posonlyargs ++ params.args).head? = some ar ∧ ar.arg = self := by
    rw [hparams]
    cases As with
    | nil => cases hAs
    | cons a r => exact ⟨a, rfl, (List.cons.inj hAs).1⟩
  obtain ⟨oc, od, osl, lk⟩ := F.lk
  obtain ⟨nm, q, N, bs, bm, sn, sub, ab, col, dd, k0, k1, k2, k3, k5, hCk, hbm⟩ := F.cls.cls
  have hcl : clsIn K C = some { name := nm, bases := bs, mro := .ref C :: bm, ns := N, qualname := q, hasDict := true, slotNames := sn, subclasses := sub, abstract := ab, collection := col, hasDel := false } := by unfold clsIn; rw [hCk] <;> rfl
  have hself := S.loc arg.arg (List.mem_cons_self ..)
  have mem : ∀ x u, (x, u) ∈ ps.zip us → x ∈ ps := fun x u h => (List.of_mem_zip h).1
  have ndm : (((arg.arg, Value.ref e) :: ps.zip us).map (·.1)).Nodup := by
    rw [List.map_cons, List.map_fst_zip (by omega)]
    exact S.nd
  have mrev : ∀ x u, (x, u) ∈ (arg.arg, Value.ref e) :: ps.zip us → ((arg.arg, Value.ref e) :: ps.zip us).reverse.lookup x = some u := fun x u h => by
    refine lookup_of ?_ (List.mem_reverse.mpr h)
    rw [List.map_reverse]
    exact List.pairwise_reverse.mpr (List.Pairwise.imp Ne.symm ndm)
  refine ks_codeAny_call_defAt (fd := fnX name qual params body scope [("__class__", cc)] dV kV doc pm an (.ref cda) ct) (body := body) (binds := (arg.arg, .ref e) :: ps.zip us) hroom (X0 _ _ lk) rfl hlim (codeRec_of X0 hcd) rfl hbind S.ncell (fun y hy => ?_) (fun h1 hns k1 => ?_) S.co S.gen S.kind
  · rcases List.mem_cons.mp hy with rfl | hy
    · exact hself.1
    · exact (S.loc _ (List.mem_cons_of_mem _ (mem _ _ hy))).1
  have X1 : K.In h1 := X0.keeps k1
  have he1 : h1.get? e = some (excO C t0) := k1 _ _ he
  have heL : e ≠ hp.objs.size := Nat.ne_of_lt (Heap.lt_size he)
  have heC : e ≠ C := fun z => by
    rw [z, hCk] at heK; cases heK
  -- the text
  unfold xiBody at hbody
  split at hbody
  case h_2 => cases hbody
  rename_i su q1 q2 ini apos args pos pe r
  simp only [Bool.and_eq_true, decide_eq_true_eq] at hbody
  obtain ⟨⟨⟨⟨⟨rfl, rfl⟩, hargs⟩, hasg⟩, hline⟩, h30⟩ := hbody
  obtain ⟨hst, hal⟩ := xi_nostar hargs
  refine ks_wpAt_execs_cons (ks_wpAt_Expr_any (ks_wpAt_MethodCall ?_ (xline hst h30 hline)) (by
    show (scope.kind == .module && _) = false
    rw [S.kind]; rfl) rfl)
  refine ks_wpAt_super_base (ar := arg) (vs := vs) S.su S.cl (by decide) rfl (X1 _ _ lk) rfl hpar rfl (X1 _ _ hcode) rfl hvs hfile F.top ?_
  refine ks_loadName_global S.kind S.su (loadGlobal_builtin (hG.keeps k1) hsu (hB.keeps k1) ((hBb _ (by decide +kernel)).trans (show bootBuiltins "super" = some (.type "super") by kernel_rfl)) ⟨rfl, ?_⟩)
  refine wpAny_loadName_free S.kind S.cl rfl ⟨_, X1 _ _ hcell, rfl⟩ ?_
  refine wpAny_loadName_local S.kind hself.1 hns (mrev _ _ (List.mem_cons_self ..)) ?_
  refine ks_wpAny_isType_cls (X1 _ _ hCk) rfl ⟨rfl, ?_⟩
  refine ks_wpAny_call_super (X1 _ _ hCk) rfl he1 rfl (fun c z => nomatch z) (looks_mroIn X1 F.own) (fun h2 e2 k2 => ?_)
  have X2 : K.In h2 := X1.keeps k2
  have he2 := k2 _ _ he1
  have ns2 := hns.keeps k2
  have I2 : InstAt h2 e (excO C t0) C none := ⟨he2, rfl, rfl, trivial⟩
  have hsup := F.sup
  unfold ks_superIn at hsup
  rw [hcl] at hsup
  refine kxs_getMethod kxs_ValueError e2 (looks_opaque X2 F.opq) (l₀ := .ref C :: bm) (fun A Q E s k q => wpAny_bind ((looks_clsIn X2 hcl) A _ E s k (wpAny_pure q))) rfl X2 hsup (I2.type.andThen (looks_subIn X2 F.ve)) heC (by decide) ?_
  have up3 : ∀ b o, h2.get? b = some o → (h2.push (kxs_mw "ValueError.__init__" e)).get? b = some o := fun b o z => Heap.get?_push_of_some _ z
  have hu3 : (h2.push (kxs_mw "ValueError.__init__" e)).get? h2.objs.size = some (kxs_mw "ValueError.__init__" e) := Heap.get?_push_at rfl rfl
  have hm : ∀ x u, (x, u) ∈ ps.zip us → ((arg.arg, Value.ref e) :: ps.zip us).reverse.lookup x = some u ∧ scope.names.lookup x = some (NameKind.local) ∧ (x == ("__debug__" : Str)) = false := fun x u h =>
    ⟨mrev x u (List.mem_cons_of_mem _ h), S.loc x (List.mem_cons_of_mem _ (mem x u h))⟩
  refine kxs_callWith (i := "ValueError.__init__") (x := e) (star_plain hst) ?_
  have hne' : args ≠ [] := fun z => hne (List.length_eq_zero_iff.mp (by rw [← hal, z]; rfl))
  refine evalArgs_pl hst hne' (xi_args S.kind (ns2.keeps up3) args ps us _ hargs hl hm ⟨hu3, ?_⟩)
  refine xbound (up3 _ _ (X2 _ _ hCk)) (up3 _ _ he2) hu3 (by show us.length ≤ _; rw [hl, sizeLine_eq]; omega) fun h4 t1 k4 e4 => ?_
  have xp : XP hp e C hp.objs.size _ [] h4 := ⟨fun b o hb z => k4 b o hb (up3 _ _ (k2 _ _ (k1 _ _ z))), ns2.at fun o z => k4 _ o (Ne.symm heL) (up3 _ _ z), heL, t1, .inl ⟨rfl, e4⟩⟩
  refine PySem.wpAt_of_wpAny (xi_asgs (self := arg.arg) hcl (show refsVE (.ref C :: bm) = true from hbm) rfl F.cls.sa (by exact S.kind) (by rfl) (by exact ⟨mrev _ _ (List.mem_cons_self ..), hself⟩) heK X0 r ps us [] h4 _ _ hasg hl (fun x u hx => ?_) (by simpa using hz) xp fun h5 t5 xp5 => ?_)
  · obtain ⟨a, b, c⟩ := hm x u hx
    exact ⟨a, b, c, F.nof x (mem x u hx)⟩
  · rw [List.append_nil] at xp5
    obtain ⟨t1, ⟨hf, _⟩ | ⟨dx, mA, d0, de, dL, e5, n5, r5⟩⟩ := xp5.at_
    · have z := congrArg List.length hf
      rw [List.length_reverse, List.length_zip, hl, Nat.min_self] at z
      exact absurd (List.length_eq_zero_iff.mp z) hne
    · exact hq h5 t5 t1 dx mA hne xp5.keep d0 de e5 n5 r5
end
end G
end
section
/-! E4: C(..) of an own exception, over the abstract heap. -/
namespace G
open PySem PySem.W PySem.Calls PySem.HandSPX L2
theorem arr_shift {α : Type} {len k : Nat} {ks : List Str} {e : α} {us ws : List α} : ∀ (ps : List Str) (i : Nat), arr (selF (len + 1) (k + 1) ks 0 (i + 1) ps) (e :: us) ws [] = arr (selF len k ks 0 i ps) us ws []
  | [], _ => rfl
  | p :: ps, i => by
    have h : Sel.get (e :: us) ws [] (selAt (len + 1) (k + 1) ks 0 (i + 1) p) = Sel.get us ws [] (selAt len k ks 0 i p) := by
      unfold selAt
      by_cases hi : i < k
      · rw [if_pos (by omega), if_pos hi]
        show (e :: us)[i + 1]? = us[i]?
        simp
      · rw [if_neg (by omega), if_neg hi]
        cases idxS p ks <;> simp [Sel.get]
    show List.filterMap _ (selAt (len + 1) (k + 1) ks 0 (i + 1) p :: selF (len + 1) (k + 1) ks 0 (i + 1 + 1) ps) = List.filterMap _ (selAt len k ks 0 i p :: selF len k ks 0 (i + 1) ps)
    rw [List.filterMap_cons, List.filterMap_cons, h]
    have ih := arr_shift (len := len) (k := k) (ks := ks) (e := e) (us := us) (ws := ws) ps (i + 1)
    unfold arr at ih
    rw [ih]
theorem arr_me {α : Type} {me : Str} {ps ks : List Str} {k : Nat} {e : α} {us ws : List α} : arr (selOf (me :: ps) (k + 1) ks 0) (e :: us) ws [] = e :: arr (selOf ps k ks 0) us ws [] := by
  have h := arr_shift (len := ps.length) (k := k) (ks := ks) (e := e) (us := us) (ws := ws) ps 0
  unfold arr at h ⊢
  show List.filterMap _ (selAt (ps.length + 1) (k + 1) ks 0 0 me :: selF (ps.length + 1) (k + 1) ks 0 (0 + 1) ps) = _
  rw [List.filterMap_cons]
  have h0 : Sel.get (e :: us) ws [] (selAt (ps.length + 1) (k + 1) ks 0 0 me) = some e := by
    unfold selAt
    rw [if_pos (by omega)]
    rfl
  rw [h0, h]
  rfl
theorem xbind {name qual : Str} {As : List Arg} {dfl : List Expr} {body : List Stmt} {scope : Scope} {cl : List (Str × Addr)} {kV doc pm cdv ct : Value} {an : Option Addr} {me : Str} {ps ks : List Str} {k : Nat} {e : Value} {us ws : List Value} {s : Shared} (hAs : As.map (·.arg) = me :: ps)
    (ok : bindOk (me :: ps) (k + 1) ks 0 = true) (hu : us.length = k) (hw : ws.length = ks.length) :
    BindsTo s (fnX name qual ⟨[], As, none, [], [], none, dfl⟩ body scope cl .none kV doc pm an cdv ct) ⟨e :: us, ks.zip ws⟩ ((me, e) :: ps.zip (arr (selOf ps k ks 0) us ws [])) ∧ (arr (selOf ps k ks 0) us ws []).length = ps.length := by
  have c1 : k + 1 ≤ (me :: ps).length := by
    have ok' := ok
    unfold bindOk at ok'
    simp only [Bool.and_eq_true] at ok'
    exact Nat.le_of_ble_eq_true ok'.1
  have hl : (e :: us).length = k + 1 := by simp [hu]
  have ok2 : bindOk (me :: ps) (e :: us).length ks ([] : List Value).length = true := by rw [hl]; exact ok
  obtain ⟨r1, r2⟩ := bindR_arr (ws := ws) (its := []) ok2 hw
  rw [hl, show ([] : List Value).length = 0 from rfl, arr_me] at r1 r2
  refine ⟨BindsTo.of_eq ?_, by simpa using r2⟩
  obtain ⟨kf, e1, e2⟩ := bind_all (fd := fnX name qual ⟨[], As, none, [], [], none, dfl⟩ body scope cl .none kV doc pm an cdv ct) (us := e :: us) (kw := ks.zip ws) rfl hAs (by rw [hl]; exact c1) (bind_cond ok2 hw)
  rw [e1]
  show (seqItems? .none >>= kf) = _
  have e3 : seqItems? Value.none = pure none := rfl
  have mis : ∀ p ∈ (me :: ps).take ((me :: ps).length - 0), (((me :: ps).zip (e :: us) ++ ks.zip ws).lookup p).isSome = true := fun p hp => by
    have hp' : p ∈ me :: ps := by simpa using hp
    obtain ⟨j, hj, ej⟩ := List.getElem_of_mem hp'
    have e5 : (bindR (me :: ps) (e :: us) (ks.zip ws) []).length = (me :: ps).length := by rw [r1, List.length_zip, r2, Nat.min_self]
    cases q : ((me :: ps).zip (e :: us) ++ ks.zip ws).lookup p with
    | some v => rfl
    | none =>
      exfalso
      have : (bindR (me :: ps) (e :: us) (ks.zip ws) []).map (·.1) = me :: ps := by rw [r1, List.map_fst_zip (by rw [r2]; exact Nat.le_refl _)]
      have hm : p ∈ (bindR (me :: ps) (e :: us) (ks.zip ws) []).map (·.1) := by rw [this]; exact hp'
      unfold bindR at hm
      rw [List.mem_map] at hm
      obtain ⟨⟨x, v⟩, hx, rfl⟩ := hm
      rw [List.mem_filterMap] at hx
      obtain ⟨n, hn, en⟩ := hx
      obtain ⟨z, hz, e⟩ := Option.map_eq_some_iff.mp en
      cases e
      rw [q] at hz
      simp at hz
  rw [e3, pure_bind, e2 none (Nat.zero_le _) mis]
  exact congrArg pure r1
theorem exv_ok {P : Program} {w : World} {H : Hp} {h : Heap} {a C : Addr} {d : Option Addr} {vs : Array Value} {sl : Array (Option Value)} (e : h.get? a = some ({ cls := .ref C, dict := d, data := .fields vs, slots := sl } : Obj)) : ObjOk P w H h a (exv a C d) :=
  ⟨⟨vs, sl, e⟩, ⟨_, e⟩, fun h1 h2 ⟨vs, sl, q⟩ k => ⟨vs, sl, k _ q⟩⟩
theorem rel_rev {ps : List Str} : ∀ {vs : List V} {us : List Value}, Vals vs us → ∀ (f : Str), RelO ((ps.zip vs).reverse.lookup f) ((ps.zip us).reverse.lookup f) := by
  have app : ∀ {a b : List (Str × V)} {a' b' : List (Str × Value)} (f : Str), RelO (a.lookup f) (a'.lookup f) → RelO (b.lookup f) (b'.lookup f) → RelO ((a ++ b).lookup f) ((a' ++ b').lookup f) := fun {a b a' b'} f h1 h2 => by
    rw [lookup_app, lookup_app]
    cases e : a.lookup f with
    | none =>
      cases e' : a'.lookup f with
      | none => exact h2
      | some u => rw [e, e'] at h1; exact h1.elim
    | some v =>
      cases e' : a'.lookup f with
      | none => rw [e, e'] at h1; exact h1.elim
      | some u => rw [e, e'] at h1; exact h1
  induction ps with
  | nil => intro vs us r f; exact True.intro
  | cons p ps ih =>
    intro vs us r f
    cases r with
    | nil => exact True.intro
    | @cons v u vs us rv r =>
      rw [List.zip_cons_cons, List.zip_cons_cons, List.reverse_cons, List.reverse_cons]
      refine app f (ih r f) ?_
      rw [lookup_cons, lookup_cons]
      by_cases e : f = p
      · rw [if_pos e, if_pos e]; exact rv
      · rw [if_neg e, if_neg e]; exact True.intro
/-- the class makes exceptions whose attributes are the arguments -/
structure XCl (X : Cx) (C : Addr) (me : Str) (ps : List Str) : Prop where
  ex : ∃ fI fd, XIn X.prog X.K C fI me ps fd ∧ PySem.W.findIn X.K (.ref C) "__init__" = some (some (.ref fI)) ∧ PySem.W.typeIn X.K (.ref fI) = some (.type "function")
  su : X.mg "super" = none
  ne : ps ≠ []
  le : ps.length ≤ 900
section
variable {X : Cx} {pins : List (Addr × Obj)} {σ : St} {H : Hp} {C : Addr} {me : Str} {ps ks : List Str} {k : Nat} {s : Shared} {E : Value → Shared → Prop}
/-- the call of the class -/
theorem xmake (F : XCl X C me ps) (I : Inv X pins σ H s) (hroom : ∀ us kw, (X.A.under (.builtin "type.__call__" ⟨.ref C :: us, kw⟩)).depth < recursionLimit) {us ws : List Value} (ok : bindOk (me :: ps) (k + 1) ks 0 = true) (hu : us.length = k) (hw : ws.length = ks.length)
    {Q : Value → Shared → Prop} (hq : ∀ (s' : Shared) (a d t1 : Addr) (mA : Str → Option Value), (∀ b o, s.heap.get? b = some o → s'.heap.get? b = some o) → s.heap.objs.size ≤ a → s.heap.get? d = none → d ≠ a →
      s'.heap.get? a = some ({ cls := .ref C, dict := some d, data := .fields #[.ref t1, .none, .none, .none, .bool false, .none] } : Obj) → s'.heap.Ns1 d mA → (∀ f, mA f = (ps.zip (arr (selOf ps k ks 0) us ws [])).reverse.lookup f) →
      (arr (selOf ps k ks 0) us ws []).length = ps.length → s'.gens = s.gens → s'.drawn = s.drawn → s'.os = s.os → Q (.ref a) s') :
    wpAny (model X.prog X.w) X.A (call (.ref C) us (ks.zip ws)) Q E s := by
  obtain ⟨fI, fd, G, iC, tI⟩ := F.ex
  obtain ⟨hp, g, dr, tk, os⟩ := s
  obtain ⟨nm, q, N, bs, bm, sn, sub, ab, col, dd, k0, k1, k2, k3, k5, hCk, hbm⟩ := G.cls.cls
  have kk : ∀ b o, hp.get? b = some o → ((hp.push (PySem.W.kdv_tup us)).push (excO C hp.objs.size)).get? b = some o := fun b o e => Heap.get?_push_of_some _ (Heap.get?_push_of_some _ e)
  have hget : ((hp.push (PySem.W.kdv_tup us)).push (excO C hp.objs.size)).get? (hp.objs.size + 1) = some (excO C hp.objs.size) := by heap_get
  have hfresh : ∀ b o, hp.get? b = some o → b ≠ hp.objs.size + 1 := fun b o z => Nat.ne_of_lt (Nat.lt_succ_of_lt (Heap.lt_size z))
  have heK : X.K.lookup (hp.objs.size + 1) = none := by
    cases z : X.K.lookup (hp.objs.size + 1) with
    | none => rfl
    | some o => exact absurd rfl (hfresh _ _ (I.kIn _ _ z))
  obtain ⟨name, qual, params, body, scope, cc, cda, dV, kV, doc, pm, an, ct, efd, hcd, hcode, hcell, ⟨As, dfl, rfl, hAs⟩, rfl, hbody, S⟩ := G.ex
  have hz1 : k ≤ 1000 := by
    have ok' := ok
    unfold bindOk at ok'
    simp only [Bool.and_eq_true] at ok'
    have := Nat.le_of_ble_eq_true ok'.1
    have h2 := F.le
    simp at this
    omega
  obtain ⟨mb, hmb, hmbb⟩ := I.ok.mod.blt
  obtain ⟨bt, bl⟩ := xbind (name := name) (qual := qual) (body := body) (scope := scope) (cl := [("__class__", cc)]) (kV := kV) (doc := doc) (pm := pm) (cdv := .ref cda) (ct := ct) (an := an) (dfl := dfl) (e := .ref (hp.objs.size + 1)) (s := ⟨(hp.push (PySem.W.kdv_tup us)).push (excO C hp.objs.size), g, dr, tk, os⟩) hAs ok hu hw
  rw [← efd] at bt
  refine wpAny_call (xcall hbm (I.kIn _ _ hCk) (PySem.W.looks_findIn I.kIn iC) (fun self => PySem.W.bind_fn I.kIn self tI) (by rw [hu, sizeLine_eq]; omega) ?_)
  have bk : ∀ b o, X.base.get? b = some o → ((hp.push (PySem.W.kdv_tup us)).push (excO C hp.objs.size)).get? b = some o := fun b o z => kk _ _ (I.bk b o z)
  refine xinit G (I.kIn.keeps kk) heK hget (I.ok.mod.glob.keeps bk) F.su (hmb.keeps bk) hmbb (I.ok.mod.nolimit.keeps bk) (hroom us _) bt bl F.le (fun h' t' t1 dx mA _ keep d0 de ea en er => ?_) F.ne
  refine ⟨rfl, hq ⟨h', g, dr, t', os⟩ _ dx t1 mA (fun b o z => keep b o (hfresh b o z) (kk _ _ z)) (Nat.le_succ _) ?_ de ea en er bl rfl rfl rfl⟩
  cases z : hp.get? dx with
  | none => rfl
  | some o => rw [kk _ _ z] at d0; cases d0
end
end G
end
section
/-! G18: attributes as values, calls of what a local name holds. -/
namespace G
open PySem L2
section
variable {B : Tb} {P : Nat → Option FI} {cal : Nat → List D → M D} {gd : Md} {CX : CXT} {k : Nat} {E : XK} {X : Cx} {w : Wd} {S : Sto}
def mAttr (fld : Nat → Nat → Bool) (mt xf : Nat → Nat → Option Nat) (f : Nat) : D → M D
  | .ex c ds => fun S => match xf c f with
    | some i => match ds[i]? with
      | some d => some (.ok d S)
      | none => none
    | none => none
  | .ref i => fun S => match S.get i with
    | some (.ins c fs) => match lkF f fs with
      | some d => if fld c f then some (.ok d S) else none
      | none => match mt c f with
        | some g => some (.ok (.bm i g) S)
        | none => none
    | _ => none
  | _ => stuck
theorem zip_sub {α β : Type} : ∀ (a : List α) (b : List β), ((a.zip b).map (·.1)).Sublist a
  | [], _ => by simp
  | _ :: _, [] => by simp
  | x :: a, y :: b => by
    rw [List.zip_cons_cons, List.map_cons]
    exact (zip_sub a b).cons₂ x
theorem ge_attr {e : Expr} {m : Env → M D} {f : Nat} {x : Str} {pos : Pos} (C : CxG B P cal gd CX k X) (hn : B.nm f = x) (he : GE B E X e m) (hb : attributeBase e x X.env (eval e X.env) = eval e X.env) :
    GE B E X (.Attribute e x pos) fun env => bnd (m env) (mAttr B.fld B.mt B.xf f) := by
  refine ⟨fun pins s σ H Q I ⟨w, env, S, hw, rs, re, h⟩ => ?_⟩
  subst hw
  have step := he.run pins s σ w.H (fun x H1 => ∃ w1 S1 d, w1.H = H1 ∧ RS B w1 S1 ∧ Rv B w1 d x ∧ PD B E w1 (mAttr B.fld B.mt B.xf f d S1) Q) I ⟨w, env, S, rfl, rs, re, h.bnd.imp fun w1 S1 d l1 rs1 h1 v rv => ⟨w1, S1, d, rfl, rs1, rv, h1⟩⟩
  refine attr_of hb (thn step fun u s1 ⟨v, H1, I1, rx, w1, S1, d, ew, rs1, rv, h1⟩ => ?_)
  subst ew
  unfold mAttr at h1
  split at h1
  · rename_i c ds
    split at h1
    · rename_i i ei
      split at h1
      · rename_i d2 ed
        obtain ⟨hp, hnd, hno, T⟩ := B.xfC c f i ei
        simp only [Rv] at rv
        obtain ⟨a, vs, rfl, rvs, ⟨rfl, _⟩ | ⟨dd, ea, edd⟩⟩ := rv
        · simp at ed
        obtain rfl : u = Value.ref a := rx
        obtain ⟨v2, ev2, rv2⟩ := rvs.get ed
        obtain ⟨⟨ws, sl, ha⟩, _, _⟩ := (show ObjOk X.prog X.w w1.H s1.heap a (.ext fun h => ∃ (vs : Array Value) (sl : Array (Option Value)), h.get? a = some ({ cls := .ref (B.ca c), dict := some dd, data := .fields vs, slots := sl } : Obj)) from I1.hok a _ ea)
        obtain ⟨mA, hns, hr⟩ := (show ObjOk X.prog X.w w1.H s1.heap dd (.xd _) from I1.hok dd _ edd)
        have hl : ((B.xps c).zip vs).reverse.lookup x = some v2 := by
          refine lookup_of ?_ (List.mem_reverse.mpr ?_)
          · rw [List.map_reverse]
            refine List.pairwise_reverse.mpr (List.Pairwise.imp Ne.symm (List.Nodup.sublist ?_ hnd))
            exact zip_sub _ _
          · rw [← hn]
            exact List.mem_of_getElem? (i := i) (List.getElem?_zip_eq_some.mpr ⟨hp, ev2⟩)
        obtain ⟨od, ho, hlk⟩ := lookIn_ns hns
        obtain ⟨u2, hu, ru⟩ := RelO.some_of (v := v2) (o := mA x) (by rw [← hl]; exact hr x)
        rw [hn] at hno
        have J : PySem.W.InstAt s1.heap a _ (B.ca c) (some od) := ⟨ha, rfl, rfl, ho⟩
        have kin : B.K.In s1.heap := by rw [← C.hK]; exact I1.kIn
        exact HandSPX.exc_get kin J T.hg T.hk T.hs (PySem.W.findObj_own T.hd hno rfl (by rw [hlk, hu])) (handed_of ru) ⟨v2, _, I1.tok _, ru, PD.ret (S := S1) h1 rs1 rv2⟩
      · exact h1.elim
    · exact h1.elim
  · rename_i i
    have rv' := rv
    obtain ⟨hi, rfl⟩ := rv_ref rv
    obtain rfl : u = Value.ref _ := rx
    split at h1
    · rename_i c fs ec
      obtain ⟨o, ho, dx, gs, rfl, q⟩ := rs1.at_ _ _ ec
      split at h1
      · rename_i d ed
        split at h1
        · rename_i hok
          obtain ⟨u2, eu, ru⟩ := q.lk ed
          obtain ⟨c1, c2⟩ := B.fldC c f hok
          rw [hn] at eu c2
          exact getattr_ok I1 ho (by rw [C.hK]; exact c1) (by rw [C.hK]; exact c2) eu fun u' s2 I2 r2 => ⟨u2, _, I2, r2, PD.ret (S := S1) h1 rs1 ru⟩
        · exact h1.elim
      · rename_i en
        split at h1
        · rename_i g eg
          obtain ⟨c1, c2⟩ := B.mtC c f g eg
          rw [hn] at c2
          have hl := q.nolk en
          rw [hn] at hl
          refine getbound_ok I1 ho (by rw [C.hK]; exact c1) (by rw [C.hK]; exact c2) hl fun p s2 hp I2 => ⟨.ref p, _, I2, rfl, ?_⟩
          have le1 : w1.le (w1.putI p (.met (B.fa g) (w1.ρ i))) := Wd.putI_le hp
          refine h1 (w1.putI p (.met (B.fa g) (w1.ρ i))) le1 (rs1.putI hp) (.ref p) ?_
          simp only [Rv]
          exact ⟨p, rfl, hi, upd_same⟩
        · exact h1.elim
    · exact h1.elim
  · exact h1.elim

/-! ### x(e, ..), x a local name -/
def mCallV (P : Nat → Option FI) (cal : Nat → List D → M D) (gd : Md) (i n : Nat) (ms : Env → M (List D)) : Env → M D := fun env S => match env[i]? with
  | some (some (.fn f)) => match okF P gd f n [] with
    | some fi => bnd (ms env) (fun ds => mFn fi (cal f) n [] ds []) S
    | none => none
  | some (some (.bm j g)) => match okF P gd g (n + 1) [] with
    | some fi => bnd (ms env) (fun ds => mFn fi (cal g) (n + 1) [] (.ref j :: ds) []) S
    | none => none
  | _ => none
theorem ge_callV1 {i : Nat} {x : Str} {e : Expr} {es : List Expr} {ms : Env → M (List D)} {p pos : Pos} (C : CxG B P cal gd CX k X) (hx : Passes CX X E) (hN : X.N[i]? = some x) (hv : Vis X.env.scope x) (hdb : (x == ("__debug__" : Str)) = false)
    (hcd : (x == ("__classdict__" : Str)) = false) (hst : (e :: es).all (fun e => !isStar e) = true) (ha : GA B E X (e :: es) ms) : GE B E X (.Call (.Name x p) (e :: es) [] pos) (mCallV P cal gd i (e :: es).length ms) := by
  refine ⟨fun pins s σ H Q I ⟨w, env, S, hw, rs, re, h⟩ => ?_⟩
  subst hw
  have st := stars (env := X.env) (pos := pos) hst
  have step : ∀ {v : V}, σ[i]? = some (some v) → ∀ {R : Value → Shared → Prop}, (∀ u s1, L2.Inv X pins σ w.H s1 → RelV v u → wpAny (model X.prog X.w) X.A (callWith pos u [] (backTo pos (starEach (e :: es) X.env)) (backToKw pos (keywordEach [] X.env))) R X.xe s1) →
      wpAny (model X.prog X.w) X.A (eval (.Call (.Name x p) (e :: es) [] pos) X.env) R X.xe s := fun {v} hs {R} hk => by
    refine wpAny_Call_Name_kw (thn ((pe_var (pos := p) hN hv hdb hcd).run pins s σ w.H (fun u H1 => u = v ∧ H1 = w.H) I ⟨v, hs, rfl, rfl⟩) fun u s1 ⟨v1, H1, I1, r1, q1⟩ => ?_)
    obtain ⟨rfl, rfl⟩ := q1
    exact hk u s1 I1 r1
  unfold mCallV at h
  split at h
  · rename_i f ei
    obtain ⟨v, ev, rv⟩ := re.at_ i _ ei
    simp only [Rv] at rv
    subst rv
    split at h
    · rename_i fi ef
      obtain ⟨hP, hgd, ok⟩ := okF_spec ef
      have G := C.fn f fi hP
      obtain ⟨fd, F, hb⟩ := G.ok
      obtain ⟨its, dvs, hd, kb⟩ := hb _ [] ok
      refine step ev fun u s1 I1 r1 => ?_
      obtain rfl : u = Value.ref _ := r1
      refine PySem.W.callWith_K (first := []) (h₀ := X.base) I1.ok.mod.kin G.kp (thn (ha.run pos pins s1 σ w.H (fun vs H2 => spG B fi.ps.length (cal f) (arr (selOf fi.ps (e :: es).length [] fi.dfl.length) vs [] dvs) H2 Q E ∧ vs.length = (e :: es).length) I1 ⟨w, env, S, rfl, rs, re, h.bnd.imp fun w1 S1 ds l1 rs1 h1 vs rvs => ?_⟩) fun us s2 ⟨vs, H2, I2, r2, q2⟩ => ⟨I2.kIn, ?_⟩) st.1 st.2
      · obtain ⟨q1, q2, q3⟩ := mFn_some h1
        exact ⟨⟨w1, S1, _, rfl, rs1, Sel.rvs rvs .nil (hd w1) _, arr_len ok q1 q2 rfl, q3⟩, by rw [rvs.length]; exact q1⟩
      · exact run_fnS (ws := []) (zs := []) F (C.room.less hgd.2) (fun z => C.hg (hgd.1 z)) kb hx I2 r2 .nil q2.2 rfl q2.1
    · exact h.elim
  · rename_i j g ei
    obtain ⟨v, ev, rv⟩ := re.at_ i _ ei
    simp only [Rv] at rv
    obtain ⟨a, rfl, hj, hm⟩ := rv
    split at h
    · rename_i fi ef
      obtain ⟨hP, hgd, ok⟩ := okF_spec ef
      have G := C.fn g fi hP
      obtain ⟨fd, F, hb⟩ := G.ok
      obtain ⟨its, dvs, hd, kb⟩ := hb _ [] ok
      refine step ev fun u s1 I1 r1 => ?_
      obtain rfl : u = Value.ref a := r1
      refine callwith_met (g := B.fa g) (a := w.ρ j) (by show ((backTo pos (starEach (e :: es) X.env)).any (·.1) || false) = false; rw [star_plain hst]; rfl) G.fi ?_
      have hA := ha.run pos pins s1 σ w.H (fun vs H2 => spG B fi.ps.length (cal g) (arr (selOf fi.ps ((e :: es).length + 1) [] fi.dfl.length) (.ref (w.ρ j) :: vs) [] dvs) H2 Q E ∧ vs.length = (e :: es).length ∧ H2 a = some (.met (B.fa g) (w.ρ j))) I1 ⟨w, env, S, rfl, rs, re, h.bnd.imp fun w1 S1 ds l1 rs1 h1 vs rvs => by
        obtain ⟨q1, q2, q3⟩ := mFn_some h1
        have rj : Rv B w1 (.ref j) (.ref (w.ρ j)) := by
          simp only [Rv]
          exact ⟨Nat.lt_of_lt_of_le hj l1.n, by rw [l1.ag j hj]⟩
        exact ⟨⟨w1, S1, _, rfl, rs1, Sel.rvs (.cons rj rvs) .nil (hd w1) _, arr_len ok q1 q2 rfl, q3⟩, by rw [rvs.length]; simpa using q1, l1.im _ _ trivial hm⟩⟩
      rw [st.1] at hA ⊢
      refine Calls.evalArgs_plain (thn hA fun us s2 ⟨vs, H2, I2, r2, q2⟩ => ?_)
      · obtain ⟨h1, h2, h3⟩ := q2
        refine ⟨met_P I2 h3, ?_⟩
        have h4 := run_fnS' (us := Value.ref (w.ρ j) :: us) (ws := []) (vs := V.ref (w.ρ j) :: vs) (zs := []) F (C.room.less hgd.2) (fun z => C.hg (hgd.1 z)) kb hx I2 (.cons rfl r2) .nil (congrArg Nat.succ h2) rfl h1
        exact wpAny_call (call_met I2 h3 h4)
    · exact h.elim
  · exact h.elim
theorem ge_callV0 {i : Nat} {x : Str} {p pos : Pos} (C : CxG B P cal gd CX k X) (hx : Passes CX X E) (hN : X.N[i]? = some x) (hv : Vis X.env.scope x) (hdb : (x == ("__debug__" : Str)) = false)
    (hcd : (x == ("__classdict__" : Str)) = false) : GE B E X (.Call (.Name x p) [] [] pos) (mCallV P cal gd i 0 mNil) := by
  refine ⟨fun pins s σ H Q I ⟨w, env, S, hw, rs, re, h⟩ => ?_⟩
  subst hw
  have step : ∀ {v : V}, σ[i]? = some (some v) → ∀ {R : Value → Shared → Prop}, (∀ u s1, L2.Inv X pins σ w.H s1 → RelV v u → wpAny (model X.prog X.w) X.A (callWith pos u [] (backTo pos (starEach [] X.env)) (backToKw pos (keywordEach [] X.env))) R X.xe s1) →
      wpAny (model X.prog X.w) X.A (eval (.Call (.Name x p) [] [] pos) X.env) R X.xe s := fun {v} hs {R} hk => by
    refine wpAny_Call_Name_kw (thn ((pe_var (pos := p) hN hv hdb hcd).run pins s σ w.H (fun u H1 => u = v ∧ H1 = w.H) I ⟨v, hs, rfl, rfl⟩) fun u s1 ⟨v1, H1, I1, r1, q1⟩ => ?_)
    obtain ⟨rfl, rfl⟩ := q1
    exact hk u s1 I1 r1
  unfold mCallV at h
  split at h
  · rename_i f ei
    obtain ⟨v, ev, rv⟩ := re.at_ i _ ei
    simp only [Rv] at rv
    subst rv
    split at h
    · rename_i fi ef
      obtain ⟨hP, hgd, ok⟩ := okF_spec ef
      have G := C.fn f fi hP
      obtain ⟨fd, F, hb⟩ := G.ok
      obtain ⟨its, dvs, hd, kb⟩ := hb _ [] ok
      refine step ev fun u s1 I1 r1 => ?_
      obtain rfl : u = Value.ref _ := r1
      obtain ⟨q1, q2, q3⟩ := mFn_some h
      exact PySem.W.callWith_K0 (first := []) I1.kIn G.kp (run_fnS (us := []) (ws := []) (vs := []) (zs := []) F (C.room.less hgd.2) (fun z => C.hg (hgd.1 z)) kb hx I1 .nil .nil rfl rfl ⟨w, S, _, rfl, rs, Sel.rvs .nil .nil (hd w) _, arr_len ok q1 q2 rfl, q3⟩)
    · exact h.elim
  · rename_i j g ei
    obtain ⟨v, ev, rv⟩ := re.at_ i _ ei
    simp only [Rv] at rv
    obtain ⟨a, rfl, hj, hm⟩ := rv
    split at h
    · rename_i fi ef
      obtain ⟨hP, hgd, ok⟩ := okF_spec ef
      have G := C.fn g fi hP
      obtain ⟨fd, F, hb⟩ := G.ok
      obtain ⟨its, dvs, hd, kb⟩ := hb _ [] ok
      refine step ev fun u s1 I1 r1 => ?_
      obtain rfl : u = Value.ref a := r1
      obtain ⟨q1, q2, q3⟩ := mFn_some h
      refine callwith_met (g := B.fa g) (a := w.ρ j) rfl G.fi (PySem.evalArgs_none ⟨met_P I1 hm, ?_⟩)
      have rj : Rv B w (.ref j) (.ref (w.ρ j)) := by
        simp only [Rv]
        exact ⟨hj, trivial⟩
      have h4 := run_fnS' (us := [Value.ref (w.ρ j)]) (ws := []) (vs := [V.ref (w.ρ j)]) (zs := []) (Q := Q) F (C.room.less hgd.2) (fun z => C.hg (hgd.1 z)) kb hx I1 (.cons rfl .nil) .nil rfl rfl ⟨w, S, _, rfl, rs, Sel.rvs (.cons rj .nil) .nil (hd w) _, arr_len ok q1 q2 rfl, q3⟩
      exact wpAny_call (call_met I1 hm h4)
    · exact h.elim
  · exact h.elim
end
end G
end
section
/-! E5: own exceptions as values, raised. -/
namespace G
open PySem PySem.Calls PySem.HandSPX L2
section
variable {X : Cx} {pins : List (Addr × Obj)} {σ : L2.St} {H : Hp} {C : Addr} {me : Str} {ps ks : List Str} {k : Nat} {s : Shared}
/-- what a call of the class leaves -/
structure Mkd (X : Cx) (pins : List (Addr × Obj)) (σ : L2.St) (H : Hp) (s : Shared) (C a d : Addr) (gs : List (Str × V)) (s' : Shared) (G : Heap) : Prop where
  inv : Inv X pins σ (upd H d (.xd gs)) ⟨G, s'.gens, s'.drawn, s'.toks, s'.os⟩
  up : ∀ b o, G.get? b = some o → s'.heap.get? b = some o
  no : G.get? a = none
  at_ : ∃ t1 : Addr, s'.heap.get? a = some ({ cls := .ref C, dict := some d, data := .fields #[.ref t1, .none, .none, .none, .bool false, .none] } : Obj)
  hd : H d = none
  ha : H a = none
  ne : d ≠ a
theorem mkd_run {n : Nat} {E : Value → Shared → Prop} (F : XCl X C me ps) (I : Inv X pins σ H s) (hroom : X.A.depth + 1 < recursionLimit) {us ws : List Value} {vs zs : List V} (ok : bindOk (me :: ps) (n + 1) ks 0 = true) (r : Vals vs us) (rz : Vals zs ws) (hu : vs.length = n) (hw : zs.length = ks.length)
    {Q : Value → Shared → Prop} (hq : ∀ s' a d G, (arr (selOf ps n ks 0) vs zs []).length = ps.length → Mkd X pins σ H s C a d (ps.zip (arr (selOf ps n ks 0) vs zs [])).reverse s' G → Q (.ref a) s') :
    wpAny (model X.prog X.w) X.A (call (.ref C) us (ks.zip ws)) Q E s := by
  have hl1 : us.length = n := r.length.symm.trans hu
  have hl2 : ws.length = ks.length := rz.length.symm.trans hw
  refine xmake F I (fun us kw => by rw [make_depth]; exact hroom) ok hl1 hl2 fun s' a d t1 mA keep ha hd hda ea hns hmA hlen eg ed eo => ?_
  have rv : Vals (arr (selOf ps n ks 0) vs zs []) (arr (selOf ps n ks 0) us ws []) := Sel.vals r rz .nil _
  have Hd : H d = none := I.hok.gone hd
  have Ha : H a = none := I.hok.fresh ha
  obtain ⟨hp, g, dr, tk, os⟩ := s'
  obtain rfl : g = s.gens := eg
  obtain rfl : dr = s.drawn := ed
  obtain rfl : os = s.os := eo
  obtain ⟨G, g1, g2⟩ := restrict hp fun b => decide (b ≠ a)
  have gk : ∀ b o, b ≠ a → hp.get? b = some o → G.get? b = some o := fun b o hb e => by rw [g1 b (decide_eq_true hb)]; exact e
  have nsz : ∀ b o, s.heap.get? b = some o → b ≠ a := fun b o z => Nat.ne_of_lt (Nat.lt_of_lt_of_le (Heap.lt_size z) ha)
  have J : Inv X pins σ (upd H d (.xd (ps.zip (arr (selOf ps n ks 0) vs zs [])).reverse)) { s with heap := G, toks := tk } := I.laidN (fun b o z => gk b o (nsz b o z) (keep b o z)) hd Hd
    ⟨mA, hns.at fun o z => gk d o hda z, fun f => by rw [hmA f]; exact rel_rev rv f⟩
  refine hq _ a d G (by rw [rv.length]; exact hlen) ⟨J, fun b o z => ?_, g2 a (decide_eq_false fun z => z rfl), ⟨t1, ea⟩, Hd, Ha, hda⟩
  by_cases hb : b = a
  · rw [hb, g2 a (decide_eq_false fun z => z rfl)] at z; cases z
  · rw [g1 b (decide_eq_true hb)] at z; exact z
theorem Mkd.val {a d : Addr} {gs : List (Str × V)} {s' : Shared} {G : Heap} (M : Mkd X pins σ H s C a d gs s' G) : Inv X pins σ (upd (upd H d (.xd gs)) a (exv a C (some d))) s' := by
  obtain ⟨t1, e⟩ := M.at_
  obtain ⟨hp, g, dr, tk, os⟩ := s'
  exact M.inv.laidN (h' := hp) (t' := tk) M.up M.no (by rw [upd_ne (Ne.symm M.ne)]; exact M.ha) (exv_ok e)
end
section
variable {B : Tb} {E : XK} {X : Cx} {pins : List (Addr × Obj)} {σ : L2.St} {x : Str} {f : Value} {e : Expr} {es : List Expr} {kws : List Keyword} {ks : List Str} {ms mk : Env → M (List D)} {p pos : Pos} {α : Type} {s : Shared}
/-- a name called: the arguments are there -/
theorem call_args1 {kf : List D → List D → M α} {P : Wd → Sto → α → Prop} {w : Wd} {env : Env} {S : Sto} {R : Value → Shared → Prop} (hg : Gl X x) (hm : X.mg x = some f) (hk : PySem.W.keepIn X.K f = true) (hdb : (x == ("__debug__" : Str)) = false) (hst : (e :: es).all (fun e => !isStar e) = true)
    (hkn : kws.all (·.arg.isSome) = true) (hks : kws.filterMap (·.arg) = ks) (ha : GA B E X (e :: es) ms) (hkw : PK X kws (gA B E mk)) (I : Inv X pins σ w.H s) (rs : RS B w S) (re : RE B w env σ) (h : Po B E w (bnd (ms env) (fun ds => bnd (mk env) fun zs => kf ds zs) S) P)
    (k : ∀ w2 S2 ds zs us ws vs vz s2, Inv X pins σ w2.H s2 → RS B w2 S2 → RE B w2 env σ → Rvs B w2 ds vs → Vals vs us → Rvs B w2 zs vz → Vals vz ws → Po B E w2 (kf ds zs S2) P → wpAny (model X.prog X.w) X.A (call f us (ks.zip ws)) R X.xe s2) :
    wpAny (model X.prog X.w) X.A (eval (.Call (.Name x p) (e :: es) kws pos) X.env) R X.xe s := by
  refine wpAny_Call_Name_kw (ld_glob I hg hm ?_ hdb)
  refine PySem.W.callWith_KW (h₀ := X.base) I.ok.mod.kin hk (kw_all hkn) (thn (ha.run pos pins s σ w.H (fun vs H1 => ∃ w1 S1 ds, w1.H = H1 ∧ RS B w1 S1 ∧ RE B w1 env σ ∧ Rvs B w1 ds vs ∧ Po B E w1 (bnd (mk env) (fun zs => kf ds zs) S1) P) I
    ⟨w, env, S, rfl, rs, re, h.bnd.imp fun w1 S1 ds l1 rs1 h1 vs rvs => ⟨w1, S1, ds, rfl, rs1, re.mono l1, rvs, h1⟩⟩) fun us s2 ⟨vs, H2, I2, r, w1, S1, ds, ew, rs1, re1, rvs, h1⟩ => ?_) (by rw [star_plain hst, kw_none hkn]; rfl) (stars (pos := pos) hst).1
  subst ew
  refine thn (hkw.run pos pins s2 σ w1.H (fun vz H1 => ∃ w2 S2 zs, w2.H = H1 ∧ RS B w2 S2 ∧ RE B w2 env σ ∧ w1.le w2 ∧ Rvs B w2 zs vz ∧ Po B E w2 (kf ds zs S2) P) I2
    ⟨w1, env, S1, rfl, rs1, re1, h1.bnd.imp fun w2 S2 zs l2 rs2 h2 vz rvz => ⟨w2, S2, zs, rfl, rs2, re1.mono l2, l2, rvz, h2⟩⟩) fun ws s3 ⟨vz, H3, I3, rz, w2, S2, zs, ew, rs2, re2, l2, rvz, h2⟩ => ⟨I3.kIn, ?_⟩
  subst ew
  rw [kw_names, hks]
  exact k w2 S2 ds zs us ws vs vz s3 I3 rs2 re2 (rvs.mono l2) r rvz rz h2
theorem call_args0 {kf : List D → List D → M α} {P : Wd → Sto → α → Prop} {w : Wd} {env : Env} {S : Sto} {R : Value → Shared → Prop} (hg : Gl X x) (hm : X.mg x = some f) (hk : PySem.W.keepIn X.K f = true) (hdb : (x == ("__debug__" : Str)) = false)
    (hkn : kws.all (·.arg.isSome) = true) (hks : kws.filterMap (·.arg) = ks) (hkw : PK X kws (gA B E mk)) (I : Inv X pins σ w.H s) (rs : RS B w S) (re : RE B w env σ) (h : Po B E w (bnd (mNil env) (fun ds => bnd (mk env) fun zs => kf ds zs) S) P)
    (k : ∀ w2 S2 ds zs us ws vs vz s2, Inv X pins σ w2.H s2 → RS B w2 S2 → RE B w2 env σ → Rvs B w2 ds vs → Vals vs us → Rvs B w2 zs vz → Vals vz ws → Po B E w2 (kf ds zs S2) P → wpAny (model X.prog X.w) X.A (call f us (ks.zip ws)) R X.xe s2) :
    wpAny (model X.prog X.w) X.A (eval (.Call (.Name x p) [] kws pos) X.env) R X.xe s := by
  refine wpAny_Call_Name_kw (ld_glob I hg hm ?_ hdb)
  have h1 : Po B E w (bnd (mk env) (fun zs => kf [] zs) S) P := h
  refine PySem.W.callWith_KW0 (h₀ := X.base) I.ok.mod.kin hk (kw_all hkn) (thn (hkw.run pos pins s σ w.H (fun vz H1 => ∃ w2 S2 zs, w2.H = H1 ∧ RS B w2 S2 ∧ RE B w2 env σ ∧ Rvs B w2 zs vz ∧ Po B E w2 (kf [] zs S2) P) I
    ⟨w, env, S, rfl, rs, re, h1.bnd.imp fun w2 S2 zs l2 rs2 h2 vz rvz => ⟨w2, S2, zs, rfl, rs2, re.mono l2, rvz, h2⟩⟩) fun ws s3 ⟨vz, H3, I3, rz, w2, S2, zs, ew, rs2, re2, rvz, h2⟩ => ⟨I3.kIn, ?_⟩) (by rw [kw_none hkn]; rfl)
  subst ew
  rw [kw_names, hks]
  exact k w2 S2 [] zs [] ws [] vz s3 I3 rs2 re2 .nil .nil rvz rz h2
end
/-- the attributes that a call gives -/
def xfil (fi : FI) (n : Nat) (ks : List Str) (ds zs : List D) : M (List D) := fun S => if okB fi (n + 1) ks && Nat.beq ds.length n && Nat.beq zs.length ks.length then some (.ok (fill fi (n + 1) ks (.non :: ds) zs).tail S) else none
theorem xfil_po {B : Tb} {E : XK} {w : Wd} {S : Sto} {fi : FI} {me : Str} {ps : List Str} {n : Nat} {ks : List Str} {ds zs : List D} {P : Wd → Sto → List D → Prop} (hps : fi.ps = me :: ps) (hd : fi.dfl = []) (rs : RS B w S) (h : Po B E w (xfil fi n ks ds zs S) P) :
    bindOk (me :: ps) (n + 1) ks 0 = true ∧ ds.length = n ∧ zs.length = ks.length ∧ P w S (arr (selOf ps n ks 0) ds zs []) := by
  unfold xfil at h
  split at h
  · rename_i hc
    simp only [Bool.and_eq_true] at hc
    obtain ⟨⟨h1, h2⟩, h3⟩ := hc
    have h2 := beq_t.mp h2
    have e1 := okB_bind h1
    rw [hps, hd] at e1
    have e2 := fill_eq (ds := .non :: ds) (zs := zs) h1 (by simp [h2])
    rw [hps, hd, show ([] : List D).length = 0 from rfl, arr_me] at e2
    refine ⟨e1, h2, beq_t.mp h3, ?_⟩
    have h4 := h w (.refl w) rs
    rw [e2] at h4
    exact h4
  · exact h.elim
/-- what is known of an exception class: its parameters are its attributes -/
structure XcG (B : Tb) (X : Cx) (c : Nat) (fi : FI) : Prop where
  ex : ∃ me ps, fi.ps = me :: ps ∧ B.xps c = ps ∧ XCl X (B.ca c) me ps
  dfl : fi.dfl = []
  kp : PySem.W.keepIn X.K (.ref (B.ca c)) = true
  rai : Raises X (.ref (B.ca c))
/-- .. one without own __init__ -/
structure X0G (B : Tb) (X : Cx) (c : Nat) : Prop where
  ex : PySem.W.excIn X.K (B.ca c) He.veBase "ValueError.__new__" = true
  kp : PySem.W.keepIn X.K (.ref (B.ca c)) = true
  rai : Raises X (.ref (B.ca c))
def mMkx (fi : FI) (c n : Nat) (ks : List Str) (ms mk : Env → M (List D)) : Env → M D := fun env => bnd (bnd (ms env) fun ds => bnd (mk env) fun zs => xfil fi n ks ds zs) fun ds => ret (.ex c ds)
section
variable {B : Tb} {E : XK} {X : Cx} {x : Str} {c n : Nat} {fi : FI} {e : Expr} {es : List Expr} {kws : List Keyword} {ks : List Str} {ms mk : Env → M (List D)} {p pos : Pos}
theorem mkx_end (F : XcG B X c fi) (hroom : X.A.depth + 1 < recursionLimit) {pins : List (Addr × Obj)} {σ : L2.St} {Q : VK} {w2 : Wd} {S2 : Sto} {ds zs : List D} {us ws : List Value} {vs vz : List V} {s2 : Shared} (I : Inv X pins σ w2.H s2) (rs2 : RS B w2 S2) (r1 : Rvs B w2 ds vs) (r2 : Vals vs us) (r3 : Rvs B w2 zs vz) (r4 : Vals vz ws)
    (h : Po B E w2 (xfil fi n ks ds zs S2) fun w1 S1 as => Po B E w1 (ret (D.ex c as) S1) fun w' _ d => ∀ v, Rv B w' d v → Q v w'.H) : wpAny (model X.prog X.w) X.A (call (.ref (B.ca c)) us (ks.zip ws)) (EP X pins σ Q) X.xe s2 := by
  obtain ⟨me, ps, hps, hx, FC⟩ := F.ex
  obtain ⟨ok, l1, l2, q⟩ := xfil_po hps F.dfl rs2 h
  refine mkd_run FC I hroom ok r2 r4 (r1.length.trans l1) (r3.length.trans l2) fun s' a d G hlen M => ?_
  have J := M.val
  refine ⟨.ref a, _, J, rfl, ?_⟩
  have le1 : w2.le (w2.putI d (.xd (ps.zip (arr (selOf ps n ks 0) vs vz [])).reverse)) := Wd.putI_le M.hd
  have na : (w2.putI d (.xd (ps.zip (arr (selOf ps n ks 0) vs vz [])).reverse)).H a = none := by
    show upd w2.H d _ a = none
    rw [upd_ne (Ne.symm M.ne)]; exact M.ha
  have le2 : (w2.putI d (.xd (ps.zip (arr (selOf ps n ks 0) vs vz [])).reverse)).le ((w2.putI d (.xd (ps.zip (arr (selOf ps n ks 0) vs vz [])).reverse)).putI a (exv a (B.ca c) (some d))) := Wd.putI_le na
  have rvs : Rvs B w2 (arr (selOf ps n ks 0) ds zs []) (arr (selOf ps n ks 0) vs vz []) := Sel.rvs r1 r3 .nil _
  refine q _ (le1.trans le2) ((rs2.putI M.hd).putI na) (.ref a) ?_
  simp only [Rv]
  refine ⟨a, _, rfl, rvs.mono (le1.trans le2), .inr ⟨d, upd_same, ?_⟩⟩
  show upd (upd w2.H d _) a _ d = _
  rw [upd_ne M.ne, upd_same, hx]
theorem ge_mkx1 (F : XcG B X c fi) (hroom : X.A.depth + 1 < recursionLimit) (hg : Gl X x) (hm : X.mg x = some (.ref (B.ca c))) (hdb : (x == ("__debug__" : Str)) = false) (hst : (e :: es).all (fun e => !isStar e) = true)
    (hkn : kws.all (·.arg.isSome) = true) (hks : kws.filterMap (·.arg) = ks) (ha : GA B E X (e :: es) ms) (hkw : PK X kws (gA B E mk)) : GE B E X (.Call (.Name x p) (e :: es) kws pos) (mMkx fi c n ks ms mk) := by
  refine ⟨fun pins s σ H Q I ⟨w, env, S, hw, rs, re, h⟩ => ?_⟩
  subst hw
  exact call_args1 hg hm F.kp hdb hst hkn hks ha hkw I rs re h.bnd fun w2 S2 ds zs us ws vs vz s2 I2 rs2 re2 r1 r2 r3 r4 h2 => mkx_end F hroom I2 rs2 r1 r2 r3 r4 h2
theorem ge_mkx0 (F : XcG B X c fi) (hroom : X.A.depth + 1 < recursionLimit) (hg : Gl X x) (hm : X.mg x = some (.ref (B.ca c))) (hdb : (x == ("__debug__" : Str)) = false)
    (hkn : kws.all (·.arg.isSome) = true) (hks : kws.filterMap (·.arg) = ks) (hkw : PK X kws (gA B E mk)) : GE B E X (.Call (.Name x p) [] kws pos) (mMkx fi c n ks mNil mk) := by
  refine ⟨fun pins s σ H Q I ⟨w, env, S, hw, rs, re, h⟩ => ?_⟩
  subst hw
  exact call_args0 hg hm F.kp hdb hkn hks hkw I rs re h.bnd fun w2 S2 ds zs us ws vs vz s2 I2 rs2 re2 r1 r2 r3 r4 h2 => mkx_end F hroom I2 rs2 r1 r2 r3 r4 h2
/-- C(), no own __init__ -/
theorem ge_x0 (F : X0G B X c) (hg : Gl X x) (hm : X.mg x = some (.ref (B.ca c))) (hdb : (x == ("__debug__" : Str)) = false) : GE B E X (.Call (.Name x p) [] [] pos) (mC (.ex c [])) := by
  refine ⟨fun pins s σ H Q I ⟨w, env, S, hw, rs, re, h⟩ => ?_⟩
  subst hw
  refine wpAny_Call_Name_kw (ld_glob I hg hm ?_ hdb)
  refine PySem.W.callWith_K0 I.kIn F.kp ?_
  show wpAny _ _ (call (.ref (B.ca c)) []) _ _ _
  obtain ⟨bm, N, nm, qn, bs, hdct, sn, sub, ab, col, dd, k0, k1, k2, k3, k5, mN, hC, hN, hni, T⟩ := exc_obj I.kIn F.ex
  refine wpAny_call_exc_subT PySem.F.excBase_ValueError T hC hN hni (fun h' a hm => ?_) (by show 0 ≤ sizeLine; exact Nat.zero_le _)
  have hn : w.H a = none := I.hok.gone hm.new
  obtain ⟨t, ht, _, _⟩ := hm.there
  refine ⟨.ref a, upd w.H a (exv a (B.ca c) none), I.laidN hm.keeps hm.new hn (exv_ok ht), rfl, ?_⟩
  refine h (w.putI a (exv a (B.ca c) none)) (Wd.putI_le hn) (rs.putI hn) (.ref a) ?_
  simp only [Rv]
  exact ⟨a, [], rfl, rfl, .inl ⟨trivial, upd_same⟩⟩
/-! ### an expression that makes what is raised -/
def gX (B : Tb) (E : XK) (c : Nat) (ml : Env → M (List D)) : L2.St → Hp → XK → Prop := fun σ H Q => ∃ w env S, w.H = H ∧ RS B w S ∧ RE B w env σ ∧ Po B E w (ml env S) fun w1 S1 as => ∀ w' cls dx, w1.le w' → RS B w' S1 → RX B w' ⟨c, as⟩ cls dx → Q cls dx w'.H
def mXl (fi : FI) (n : Nat) (ks : List Str) (ms mk : Env → M (List D)) : Env → M (List D) := fun env => bnd (ms env) fun ds => bnd (mk env) fun zs => xfil fi n ks ds zs
theorem mkx_rai (F : XcG B X c fi) (hroom : X.A.depth + 1 < recursionLimit) {pins : List (Addr × Obj)} {σ : L2.St} {Q : XK} {w2 : Wd} {S2 : Sto} {ds zs : List D} {us ws : List Value} {vs vz : List V} {s2 : Shared} (I : Inv X pins σ w2.H s2) (rs2 : RS B w2 S2) (r1 : Rvs B w2 ds vs) (r2 : Vals vs us) (r3 : Rvs B w2 zs vz) (r4 : Vals vz ws)
    (h : Po B E w2 (xfil fi n ks ds zs S2) fun w1 S1 as => ∀ w' cls dx, w1.le w' → RS B w' S1 → RX B w' ⟨c, as⟩ cls dx → Q cls dx w'.H) : wpAny (model X.prog X.w) X.A (call (.ref (B.ca c)) us (ks.zip ws)) (MkP X pins σ Q) X.xe s2 := by
  obtain ⟨me, ps, hps, hx, FC⟩ := F.ex
  obtain ⟨ok, l1, l2, q⟩ := xfil_po hps F.dfl rs2 h
  refine mkd_run FC I hroom ok r2 r4 (r1.length.trans l1) (r3.length.trans l2) fun s' a d G hlen M => ?_
  obtain ⟨t1, e⟩ := M.at_
  have le1 : w2.le (w2.putI d (.xd (ps.zip (arr (selOf ps n ks 0) vs vz [])).reverse)) := Wd.putI_le M.hd
  have na : (w2.putI d (.xd (ps.zip (arr (selOf ps n ks 0) vs vz [])).reverse)).H a = none := by
    show upd w2.H d _ a = none
    rw [upd_ne (Ne.symm M.ne)]; exact M.ha
  have rvs : Rvs B w2 (arr (selOf ps n ks 0) ds zs []) (arr (selOf ps n ks 0) vs vz []) := Sel.rvs r1 r3 .nil _
  refine ⟨a, _, _, ⟨G, s'.gens, s'.drawn, s'.toks, s'.os⟩, _, .ref (B.ca c), some d, rfl, M.inv, M.up, M.no, e, ⟨rfl, rfl⟩, rfl, rfl, na, rfl, M.inv.bare, F.rai, ?_⟩
  refine q (w2.putI d (.xd (ps.zip (arr (selOf ps n ks 0) vs vz [])).reverse)) _ _ le1 (rs2.putI M.hd) ⟨rfl, _, rvs.mono le1, .inr ⟨d, rfl, ?_⟩⟩
  show upd w2.H d _ d = _
  rw [upd_same, hx]
theorem pmk_1 (F : XcG B X c fi) (hroom : X.A.depth + 1 < recursionLimit) (hg : Gl X x) (hm : X.mg x = some (.ref (B.ca c))) (hdb : (x == ("__debug__" : Str)) = false) (hst : (e :: es).all (fun e => !isStar e) = true)
    (hkn : kws.all (·.arg.isSome) = true) (hks : kws.filterMap (·.arg) = ks) (ha : GA B E X (e :: es) ms) (hkw : PK X kws (gA B E mk)) : PMk X (.Call (.Name x p) (e :: es) kws pos) (gX B E c (mXl fi n ks ms mk)) := by
  intro pins s σ H Q I ⟨w, env, S, hw, rs, re, h⟩
  subst hw
  exact call_args1 hg hm F.kp hdb hst hkn hks ha hkw I rs re h fun w2 S2 ds zs us ws vs vz s2 I2 rs2 re2 r1 r2 r3 r4 h2 => mkx_rai F hroom I2 rs2 r1 r2 r3 r4 h2
theorem pmk_0 (F : XcG B X c fi) (hroom : X.A.depth + 1 < recursionLimit) (hg : Gl X x) (hm : X.mg x = some (.ref (B.ca c))) (hdb : (x == ("__debug__" : Str)) = false)
    (hkn : kws.all (·.arg.isSome) = true) (hks : kws.filterMap (·.arg) = ks) (hkw : PK X kws (gA B E mk)) : PMk X (.Call (.Name x p) [] kws pos) (gX B E c (mXl fi n ks mNil mk)) := by
  intro pins s σ H Q I ⟨w, env, S, hw, rs, re, h⟩
  subst hw
  exact call_args0 hg hm F.kp hdb hkn hks hkw I rs re h fun w2 S2 ds zs us ws vs vz s2 I2 rs2 re2 r1 r2 r3 r4 h2 => mkx_rai F hroom I2 rs2 r1 r2 r3 r4 h2
theorem pmk_x0 (F : X0G B X c) (hg : Gl X x) (hm : X.mg x = some (.ref (B.ca c))) (hdb : (x == ("__debug__" : Str)) = false) : PMk X (.Call (.Name x p) [] [] pos) (gX B E c mNil) := by
  intro pins s σ H Q I ⟨w, env, S, hw, rs, re, h⟩
  subst hw
  refine wpAny_Call_Name_kw (ld_glob I hg hm ?_ hdb)
  refine PySem.W.callWith_K0 I.kIn F.kp ?_
  show wpAny _ _ (call (.ref (B.ca c)) []) _ _ _
  obtain ⟨bm, N, nm, qn, bs, hdct, sn, sub, ab, col, dd, k0, k1, k2, k3, k5, mN, hC, hN, hni, T⟩ := exc_obj I.kIn F.ex
  refine wpAny_call_exc_subT PySem.F.excBase_ValueError T hC hN hni (fun h' a hm => ?_) (by show 0 ≤ sizeLine; exact Nat.zero_le _)
  exact mk_of I hm F.rai (Po.ret (a := ([] : List D)) h rs w _ _ (.refl w) rs ⟨rfl, [], .nil, .inl ⟨rfl, rfl⟩⟩) (I.hok.gone hm.new)
end
end G
end
section
/-! E6: try .. except, what is caught is a value. -/
namespace G
open PySem PySem.Calls L2
/-- the context of an except suite -/
abbrev hotC (X : Cx) (a : Addr) (pn : List (Addr × Obj)) : Cx := { X with A := X.A.mark (some (.ref a)), calm := false, pn := pn, xe := fun _ _ => False }
section
variable {X : Cx} {pins : List (Addr × Obj)} {σ : L2.St} {H : Hp} {s : Shared}
theorem hot_ok (ok : X.Ok) (a : Addr) (pn : List (Addr × Obj)) : (hotC X a pn).Ok :=
  ⟨ok.mod, ok.kind, ok.glob, ok.blt, ok.above, ok.inj, ok.has, ok.cab, (fun z => Bool.noConfusion (show false = true from z)), ok.frames, ok.stk, ok.exf, ok.bs, ok.bsz, ok.noex, ok.exfs, ok.funs, ok.frf⟩
theorem Inv.hot (I : Inv X pins σ H s) (a : Addr) : Inv (hotC X a (X.pn ++ pins)) [] σ H s :=
  ⟨hot_ok I.ok a _, I.os, I.bare, I.base, I.loc, I.cell, I.free, I.freeC, fun p hp => I.pin p (by rw [List.append_nil] at hp; exact hp), I.hok, I.len⟩
theorem Inv.unhot {a : Addr} {pn' : List (Addr × Obj)} (I : Inv (hotC X a (X.pn ++ pins)) pn' σ H s) (ok : X.Ok) : Inv X pins σ H s :=
  ⟨ok, I.os, I.bare, I.base, I.loc, I.cell, I.free, I.freeC, fun p hp => I.pin p (List.mem_append_left _ hp), I.hok, I.len⟩
end
/-! ### what it does -/
def noEx {α : Type} (m : M α) : M α := fun S => match m S with
  | some (.ok a S') => some (.ok a S')
  | _ => none
theorem Po.noEx {B : Tb} {E : XK} {w : Wd} {α : Type} {m : M α} {S : Sto} {P : Wd → Sto → α → Prop} (h : Po B E w (G.noEx m S) P) : Po B E0 w (m S) P := by
  unfold G.noEx at h
  cases e : m S with
  | none => rw [e] at h; exact h
  | some r =>
    rw [e] at h
    cases r with
    | ok a S' => exact h
    | exc x S' => exact h.elim
def clr (i : Nat) : Fl → Fl
  | .nx env => .nx (env.set i none)
  | .bk env => .bk (env.set i none)
  | .ct env => .ct (env.set i none)
  | .rt d => .rt d
def runH (exm : Nat → Nat → Option Bool) : List (Nat × Option Nat × (Env → M Fl)) → Exn → Env → M Fl
  | [], x, _ => fun S => some (.exc x S)
  | (c, sl, m) :: l, x, env => fun S => match exm x.cl c with
    | some true => match sl with
      | none => noEx (m env) S
      | some i => bnd (noEx (m (env.set i (some (.ex x.cl x.ds))))) (fun fl => ret (clr i fl)) S
    | some false => runH exm l x env S
    | none => none
def sTry (exm : Nat → Nat → Option Bool) (mb : Env → M Fl) (l : List (Nat × Option Nat × (Env → M Fl))) : Env → M Fl := fun env S => match mb env S with
  | some (.ok fl S') => some (.ok fl S')
  | some (.exc x S') => runH exm l x env S'
  | none => none
/-! ### handlers -/
inductive HdG (B : Tb) (X : Cx) : List ExceptHandler → List (Nat × Option Nat × (Env → M Fl)) → Prop
  | nil : HdG B X [] []
  | no {x : Str} {c : Nat} {m : Env → M Fl} {b₀ : Stmt} {su : List Stmt} {np ph : Pos} {hds : List ExceptHandler} {l : List (Nat × Option Nat × (Env → M Fl))} (hc : Names X x (.ref (B.ca c)))
      (hsu : ∀ a pn, PSs (hotC X a pn) (b₀ :: su) (gS B E0 m)) (r : HdG B X hds l) : HdG B X (.ExceptHandler (some (.Name x np)) none (b₀ :: su) ph :: hds) ((c, none, m) :: l)
  | as {x n : Str} {i c : Nat} {m : Env → M Fl} {b₀ : Stmt} {su : List Stmt} {np ph : Pos} {hds : List ExceptHandler} {l : List (Nat × Option Nat × (Env → M Fl))} (hc : Names X x (.ref (B.ca c))) (hi : X.N[i]? = some n) (hn : X.env.kindOf n = some (NameKind.local))
      (hsu : ∀ a pn, PSs (hotC X a pn) (b₀ :: su) (gS B E0 m)) (r : HdG B X hds l) : HdG B X (.ExceptHandler (some (.Name x np)) (some n) (b₀ :: su) ph :: hds) ((c, some i, m) :: l)
section
variable {B : Tb} {E : XK} {X : Cx} {exm : Nat → Nat → Option Bool} {body : List Stmt} {h₀ : ExceptHandler} {hds : List ExceptHandler} {l : List (Nat × Option Nat × (Env → M Fl))} {pos : Pos} {mb : Env → M Fl}
/-- what is wished of an exception of the body -/
def wTry (B : Tb) (E : XK) (exm : Nat → Nat → Option Bool) (l : List (Nat × Option Nat × (Env → M Fl))) (Dn : Ends) : WX := fun cls d σ H =>
  ∃ w env S x, w.H = H ∧ RS B w S ∧ RE B w env σ ∧ RX B w x cls d ∧ Po B E w (runH exm l x env S) (FlK B Dn)
theorem wTry_of {w : Wd} {env : Env} {S : Sto} {σ : L2.St} {Dn : Ends} (re : RE B w env σ) (h : Po B E w (sTry exm mb l env S) (FlK B Dn)) : Po B (fun cls d H => wTry B E exm l Dn cls d σ H) w (mb env S) (FlK B Dn) := by
  unfold sTry at h
  cases e : mb env S with
  | none => rw [e] at h; exact h
  | some r =>
    rw [e] at h
    cases r with
    | ok fl S' => exact h
    | exc x S' => exact fun w' cls dx le rs rx => ⟨w', env, S', x, rfl, rs, re.mono le, rx, Po.le le h⟩
theorem gs_try (hexm : ∀ c h b, exm c h = some b → PySem.W.exmOne X.K (.ref (B.ca c)) (.ref (B.ca h)) = some b) (hs : X.stack = X.env :: X.outer) (hf : X.env.frame = some X.env.locals) (hN : X.N.Nodup) (tk : Takes X fun cls d _ H => E cls d H)
    (hb : ∀ (W : WX) (pn : List (Addr × Obj)) (xe : Value → Shared → Prop), Takes (X.tr pn xe) W → PassesOwn (model X.prog X.w) X.A X.env xe → PSs (X.tr pn xe) body fun Dn σ H => gS B (fun cls d H => W cls d σ H) mb Dn σ H)
    (hh : HdG B X (h₀ :: hds) l) : GS B E X (.Try body (h₀ :: hds) [] [] pos) (sTry exm mb l) := by
  refine ⟨fun pins s σ H Dn I ⟨w, env, S, hw, rs, re, h⟩ => ?_⟩
  subst hw
  have ok := I.ok
  have fr0 : X.A.frames = some (X.env :: X.outer) := by rw [ok.frames, hs]
  refine wpAny_Try_except ?_
  refine wpAny_mono ((hb (wTry B E exm l Dn) (X.pn ++ pins) (fun e t1 => wpAny (model X.prog X.w) X.A (noteFrame e X.env) (fun _ t2 => wpAny (model X.prog X.w) X.A (setFlight e none) (fun _ t3 =>
    wpAny (model X.prog X.w) X.A (handleBy e X.env (h₀ :: hds)) (SP X pins Dn) X.xe t3) X.xe t2) X.xe t1) (fun u s' xx => ?_) PassesOwn.looking).run [] s σ w.H Dn (I.toTry _) ⟨w, env, S, rfl, rs, re, wTry_of re h⟩) (fun f s1 hsp => ?_) fun e s1 he => he
  · obtain ⟨a, B0, sI, pins', σ', H', cls, d, rfl, J', nb, up, sky, na, os, ag, wish⟩ := xx
    have J : Inv X pins σ' H' sI := J'.ofTry ok
    have sky' : Sky B0 (X.env :: X.outer) a (Zc cls d) X.env.locals s'.heap := by rw [← hs]; exact sky
    show wpAny (model X.prog X.w) X.A (noteFrame (.ref a) X.env) _ _ _
    refine Sky.land Zc.steady fr0 hf sky' fun h3 fl3 up3 => ?_
    have J3 : Inv X pins σ' H' { s' with heap := h3 } := J.landed nb fl3.1 (up.trans up3) os ag
    obtain ⟨oe3, vs3, he3, hz3, hd3⟩ := fl3.there
    have nfr : a ∉ frs (X.env :: X.outer) := fun hm => by
      obtain ⟨_, o', e', hnf⟩ := fl3.2.2.1.mem hm
      rw [he3] at e'
      cases e'
      exact hnf _ hd3
    have nI : sI.heap.get? a = none := by
      cases q : sI.heap.get? a with
      | none => rfl
      | some o =>
        have z := nb a o q (by rw [hs]; exact nfr)
        rw [fl3.2.1] at z
        cases z
    have go : ∀ {hds' : List ExceptHandler} {l' : List (Nat × Option Nat × (Env → M Fl))}, HdG B X hds' l' → wTry B E exm l' Dn cls d σ' H' → wpAny (model X.prog X.w) X.A (handleBy (.ref a) X.env hds') (SP X pins Dn) X.xe { s' with heap := h3 } := by
      -- a clause is tried
      have clause : ∀ {x : Str} {c : Nat} {np : Pos} {b : Bool} {Q : Value → Shared → Prop} {x' : Exn}, Names X x (.ref (B.ca c)) → cls = .ref (B.ca x'.cl) → exm x'.cl c = some b →
          (∀ Q : Bool → Shared → Prop, ∀ E', Q b { s' with heap := h3 } → wpAny (model X.prog X.w) (X.A.mark (some (.ref a))) (eval (.Name x np) X.env) (fun v s4 => wpAny (model X.prog X.w) (X.A.mark (some (.ref a))) (excMatches (.ref a) v) Q E' s4) E' { s' with heap := h3 }) := by
        intro x c np b _ x' hc hcl he Q E' q
        have LT : PySem.W.Looks (model X.prog X.w) h3 (typeOf (.ref a)) cls := fun A Q E s k q => wpAny_typeOf_ref (k _ _ he3) (by rw [hz3.1]; exact q)
        have LM := PySem.W.exm_one (M := model X.prog X.w) J3.kIn LT (by rw [hcl]; exact hexm _ _ _ he)
        have S3 := Inv.hot J3 a
        obtain ⟨hg, hdbg, hm | ⟨hm, hv, hnn⟩⟩ := hc
        · exact ld_glob (X := hotC X a (X.pn ++ pins)) S3 hg hm (LM.here q) hdbg
        · exact ld_blt (X := hotC X a (X.pn ++ pins)) S3 hg hm hv (LM.here q) hnn hdbg
      intro hds' l' hk
      induction hk with
      | nil =>
        intro wish
        obtain ⟨w4, env4, S4, x4, ew, rs4, re4, rx, hp⟩ := wish
        subst ew
        refine wpAny_handleBy_nil ?_
        obtain ⟨k1, k2, k3, oe, vs, T, oT, ts', he, hz, hd, h1, hr⟩ := id fl3
        unfold PySem.passOn
        refine wpAny_bind (wpAny_field he hd h1 ?_)
        rw [if_neg (show ¬ ((Value.ref T == Value.none) = true) from by simp)]
        have fin : wpAny (model X.prog X.w) X.A (setFlight (.ref a) X.env.frame) (fun _ t4 => wpAny (model X.prog X.w) X.A (throw (.ref a) : Sem Flow) (SP X pins Dn) X.xe t4) X.xe { s' with heap := h3 } := by
          rw [hf]
          refine HandSPX.setFlight_upZ fl3 fun h4 hh4 up4 => wpAny_throw (tk _ _ ?_)
          exact ⟨a, B0, sI, pins, σ', w4.H, cls, d, rfl, J, nb, (up.trans up3).trans up4, .inr (.inr (by rw [hs]; exact hh4)), na, os, ag, hp w4 cls d (.refl w4) rs4 rx⟩
        first
          | exact wpAny_bind (wpAny_pure (wpAny_bind fin))
          | exact wpAny_bind fin
      | @no x c m b₀ su np ph hds2 l2 hc hsu r ih =>
        intro wish
        obtain ⟨w4, env4, S4, x4, ew, rs4, re4, rx, hp⟩ := wish
        subst ew
        unfold runH at hp
        refine wpAny_handleBy_cons (codeAny_handlers_test ?_) (by intro q; cases q)
        cases eb : exm x4.cl c with
        | none => rw [eb] at hp; exact hp.elim
        | some b =>
          rw [eb] at hp
          refine clause (Q := fun _ _ => True) hc rx.1 eb _ _ ?_
          cases b with
          | true =>
            refine codeAny_handlers_suite ?_
            refine HandSPX.lands_againZ fl3 fun h4 fl4 up4 => ?_
            have J4 : Inv X pins σ' w4.H { s' with heap := h4 } := J.landed nb fl4.1 ((up.trans up3).trans up4) os ag
            refine wpAny_mono ((hsu a (X.pn ++ pins)).run [] _ σ' _ Dn (Inv.hot J4 a) ⟨w4, env4, S4, rfl, rs4, re4, Po.noEx hp⟩) (fun f s6 hsp => ?_) (fun _ _ z => False.elim z)
            cases f with
            | next =>
              obtain ⟨σ6, H6, S6, q6⟩ := hsp
              exact ⟨_, _, Inv.unhot S6 ok, q6⟩
            | brk =>
              obtain ⟨σ6, H6, S6, q6⟩ := hsp
              exact ⟨_, _, Inv.unhot S6 ok, q6⟩
            | cont =>
              obtain ⟨σ6, H6, S6, q6⟩ := hsp
              exact ⟨_, _, Inv.unhot S6 ok, q6⟩
            | ret u =>
              obtain ⟨v6, σ6, H6, S6, r6, q6⟩ := hsp
              exact ⟨_, _, _, Inv.unhot S6 ok, r6, q6⟩
          | false =>
            show wpAny _ X.A (handleBy (.ref a) X.env hds2) _ _ _
            exact ih ⟨w4, env4, S4, x4, rfl, rs4, re4, rx, hp⟩
      | @as x n i c m b₀ su np ph hds2 l2 hc hi hln hsu r ih =>
        intro wish
        obtain ⟨w4, env4, S4, x4, ew, rs4, re4, rx, hp⟩ := wish
        subst ew
        unfold runH at hp
        refine wpAny_handleBy_cons (codeAny_handlers_test ?_) (by intro q; cases q)
        cases eb : exm x4.cl c with
        | none => rw [eb] at hp; exact hp.elim
        | some b =>
          rw [eb] at hp
          refine clause (Q := fun _ _ => True) hc rx.1 eb _ _ ?_
          cases b with
          | true =>
            refine codeAny_handlers_suite_as ?_
            refine HandSPX.lands_againZ fl3 fun h4 fl4 up4 => ?_
            obtain ⟨oe4, vs4, he4, hz4, hd4⟩ := fl4.there
            obtain ⟨G, g1, g2⟩ := restrict h4 fun b => decide (b ≠ a)
            have gk : ∀ b, b ≠ a → G.get? b = h4.get? b := fun b hb => g1 b (decide_eq_true hb)
            have ga : G.get? a = none := g2 a (by simp)
            have J4 : Inv X pins σ' w4.H { s' with heap := G } := J.landed (s' := { s' with heap := G }) nb
              (fun b o e => by rw [gk b (fun z => by rw [z, fl3.2.1] at e; cases e)]; exact fl4.1 b o e)
              (fun b o e hnf => by rw [gk b (fun z => by rw [z, nI] at e; cases e)]; exact ((up.trans up3).trans up4) b o e hnf) os ag
            obtain ⟨hc4, ds4, rds4, hds4⟩ := rx
            have eo : h4.get? a = some ({ cls := .ref (B.ca x4.cl), dict := d, data := .fields vs4, slots := oe4.slots } : Obj) := by
              obtain ⟨oc, od, odt, osl⟩ := oe4
              obtain ⟨z1, z2⟩ := hz4
              simp only at z1 z2 hd4
              subst z1 z2 hd4
              rw [he4, hc4]
            have J5 : Inv X pins σ' (upd w4.H a (exv a (B.ca x4.cl) d)) { s' with heap := h4 } := J4.laidN (h' := h4) (t' := s'.toks) (fun b o e => by
              by_cases hb : b = a
              · rw [hb, ga] at e; cases e
              · rw [gk b hb] at e; exact e) ga na (exv_ok eo)
            have le5 : w4.le (w4.putI a (exv a (B.ca x4.cl) d)) := Wd.putI_le na
            have rv5 : Rv B (w4.putI a (exv a (B.ca x4.cl) d)) (.ex x4.cl x4.ds) (.ref a) := by
              unfold Rv
              refine ⟨a, ds4, rfl, rds4.mono le5, ?_⟩
              rcases hds4 with ⟨e1, rfl⟩ | ⟨dd, rfl, e1⟩
              · exact .inl ⟨e1, upd_same⟩
              · refine .inr ⟨dd, upd_same, ?_⟩
                show upd w4.H a _ dd = _
                rw [upd_ne (ne_of_none e1 na)]; exact e1
            have S5 := Inv.hot J5 a
            refine store_ok (X := hotC X a (X.pn ++ pins)) (v := .ref a) S5 hN hi (.inl hln) rfl (fun s5 S5 => ?_) (.inr hln)
            have hp1 : Po B E0 (w4.putI a (exv a (B.ca x4.cl) d)) (m (env4.set i (some (.ex x4.cl x4.ds))) S4) (FlK B { nx := fun σ' H' => Dn.nx (σ'.set i none) H', rt := Dn.rt, bk := fun σ' H' => Dn.bk (σ'.set i none) H', ct := fun σ' H' => Dn.ct (σ'.set i none) H' }) := by
              refine Po.le le5 ((Po.noEx (Po.bnd hp)).imp fun w1 S1 fl l1 rs1 h1 => ?_)
              have h2 := Po.ret h1 rs1
              have sn : ∀ {env : Env} {σ : L2.St}, RE B w1 env σ → RE B w1 (env.set i none) (σ.set i none) := fun {env σ} re => by
                refine ⟨by simp [re.len], fun j d e => ?_⟩
                by_cases hj : j = i
                · subst hj
                  by_cases hlt : j < env.length
                  · rw [List.getElem?_set_self hlt] at e; cases e
                  · rw [List.getElem?_eq_none (by simpa using hlt)] at e; cases e
                · rw [List.getElem?_set_ne (Ne.symm hj)] at e ⊢
                  exact re.at_ j d e
              cases fl with
              | nx env => exact fun σ re => h2 _ (sn re)
              | bk env => exact fun σ re => h2 _ (sn re)
              | ct env => exact fun σ re => h2 _ (sn re)
              | rt d => exact h2
            refine wpAny_mono ((hsu a (X.pn ++ pins)).run [] s5 _ _ _ S5 ⟨_, _, S4, rfl, rs4.putI na, (re4.mono le5).set i rv5, hp1⟩) (fun f s6 hsp => ?_) (fun _ _ z => False.elim z)
            have end_ : ∀ {σ6 : L2.St} {H6 : Hp} {Q : Shared → Prop}, Inv (hotC X a (X.pn ++ pins)) [] σ6 H6 s6 → (∀ s7, Inv X pins (σ6.set i none) H6 s7 → Q s7) →
                wpAny (model X.prog X.w) X.A (do bindName X.env n .none; unbindBehindTheSuite X.env n ph) (fun _ s7 => Q s7) X.xe s6 := fun {σ6 H6 Q} S6 hq => gone_ok (Inv.unhot S6 ok) hN hi hln hq
            cases f with
            | next =>
              obtain ⟨σ6, H6, S6, q6⟩ := hsp
              exact end_ S6 fun s7 J7 => ⟨_, _, J7, q6⟩
            | brk =>
              obtain ⟨σ6, H6, S6, q6⟩ := hsp
              exact end_ S6 fun s7 J7 => ⟨_, _, J7, q6⟩
            | cont =>
              obtain ⟨σ6, H6, S6, q6⟩ := hsp
              exact end_ S6 fun s7 J7 => ⟨_, _, J7, q6⟩
            | ret u =>
              obtain ⟨v6, σ6, H6, S6, r6, q6⟩ := hsp
              exact end_ S6 fun s7 J7 => ⟨_, _, _, J7, r6, q6⟩
          | false =>
            show wpAny _ X.A (handleBy (.ref a) X.env hds2) _ _ _
            exact ih ⟨w4, env4, S4, x4, rfl, rs4, re4, rx, hp⟩
    exact go hh wish
  · cases f with
    | next =>
      obtain ⟨σ', H', J', q⟩ := hsp
      exact wpAny_execs_nil ⟨σ', H', J'.ofTry ok, q⟩
    | brk =>
      obtain ⟨σ', H', J', q⟩ := hsp
      exact ⟨σ', H', J'.ofTry ok, q⟩
    | cont =>
      obtain ⟨σ', H', J', q⟩ := hsp
      exact ⟨σ', H', J'.ofTry ok, q⟩
    | ret u =>
      obtain ⟨v, σ', H', J', r, q⟩ := hsp
      exact ⟨v, σ', H', J'.ofTry ok, r, q⟩
end
end G
end
section
/-! G20: the core of the text, what it does. -/
namespace G
open PySem L2

inductive BO where
  | add | sub | mul | div | mod | pow
  deriving Inhabited, DecidableEq
def BO.op : BO → Operator
  | .add => .Add | .sub => .Sub | .mul => .Mult | .div => .FloorDiv | .mod => .Mod | .pow => .Pow
def BO.run : BO → D → D → M D
  | .add => mAdd | .sub => mSub | .mul => mMul2 | .div => mDiv | .mod => mMod | .pow => mPow
inductive CO where
  | eq | ne | lt | le | gt | ge | is | isnot | isin | notin
  deriving Inhabited, DecidableEq
def CO.op : CO → CmpOp
  | .eq => .Eq | .ne => .NotEq | .lt => .Lt | .le => .LtE | .gt => .Gt | .ge => .GtE | .is => .Is | .isnot => .IsNot | .isin => .In | .notin => .NotIn
def CO.run : CO → D → D → M D
  | .eq => mEq | .ne => mNe | .lt => mLt | .le => mLe | .gt => mGt | .ge => mGe | .is => mIs false | .isnot => mIs true | .isin => mIn false | .notin => mIn true
/-- built-in names -/
inductive BN where
  | abs | max | min | sum | all | any | divmod | len | repr | isi | range | enum | zip | rev | int | str | tuple | list | dict | bool | eV | eL | eA | eT | eAt | eR
  deriving Inhabited, DecidableEq
def BN.name : BN → Str
  | .abs => "abs" | .max => "max" | .min => "min" | .sum => "sum" | .all => "all" | .any => "any" | .divmod => "divmod" | .len => "len" | .repr => "repr" | .isi => "isinstance"
  | .range => "range" | .enum => "enumerate" | .zip => "zip" | .rev => "reversed" | .int => "int" | .str => "str" | .tuple => "tuple" | .list => "list" | .dict => "dict" | .bool => "bool"
  | .eV => "ValueError" | .eL => "LookupError" | .eA => "ArithmeticError" | .eT => "TypeError" | .eAt => "AttributeError" | .eR => "RuntimeError"
/-- built-in methods -/
inductive BM where
  | append | extend | pop | index | join | split
  deriving Inhabited, DecidableEq
def BM.name : BM → Str
  | .append => "append" | .extend => "extend" | .pop => "pop" | .index => "index" | .join => "join" | .split => "split"
def BM.id : BM → String
  | .append => "list.append" | .extend => "list.extend" | .pop => "list.pop" | .index => "list.index" | .join => "str.join" | .split => "str.split"
def BM.ty : BM → Ty
  | .append => .list | .extend => .list | .pop => .list | .index => .list | .join => .str | .split => .str
def BM.run : BM → D → List D → M D
  | .append => mAppend | .extend => mExtend | .pop => mPop | .index => mIndexL | .join => mJoin | .split => mSplit
/-- the tables: attributes, methods, classes made, isinstance; own exceptions: their attributes, how they are made (xm: by an own __init__, x0: by none), which clause takes which -/
structure Tab where
  fld : Nat → Nat → Bool
  mt : Nat → Nat → Option Nat
  ini : Nat → Option Nat
  isv : TC → TC → Option Bool
  xf : Nat → Nat → Option Nat
  xm : Nat → Option FI
  x0 : Nat → Bool
  exm : Nat → Nat → Option Bool
def BN.run (T : Tab) : BN → List D → M D
  | .abs => mAbs | .max => mMax | .min => mMin | .sum => mSum | .all => mAll | .any => mAny | .divmod => mDivmod | .len => mLen | .repr => mRepr | .isi => mIsi T.isv
  | .int => mInt | .str => mStr | .tuple => mTuple | .list => mList
  | _ => fun _ => stuck

mutual
inductive CE where
  | var (i : Nat) | con (d : D) | glo (j : Nat) | fnv (f : Nat) | clv (c : Nat) | typ (t : Ty)
  | bin (o : BO) (a b : CE) | neg (a : CE) | not (a : CE)
  | boo (k : Bool) (es : CL)
  | ite (c a b : CE)
  | cmp (o : CO) (a b : CE) | chn (o p : CO) (a b c : CE)
  | tup (es : CL) | lst (es : CL)
  | idx (a b : CE) | slc (a : CE) (lo hi : CP)
  | att (a : CE) (f : Nat)
  | call (f n : Nat) (es : CL) (kn : List Str) (ks : CL)
  | cav (i n : Nat) (es : CL)
  | mth (a : CE) (m n : Nat) (es : CL)
  | mak (c n : Nat) (es : CL) (kn : List Str) (ks : CL)
  | mkx (c n : Nat) (es : CL) (kn : List Str) (ks : CL)
  | dc0
  | fun_ (b : BN) (es : CL)
  | bmt (a : CE) (m : BM) (es : CL)
  | lc (elt : CE) (g : CT) (it : CI) (c : CP) (own : List Nat)
  | unk
inductive CL where
  | nil | cons (e : CE) (es : CL) | star (e : CE) (es : CL)
inductive CP where
  | no | yes (e : CE)
inductive CI where
  | any (e : CE) | rng1 (a : CE) | rng2 (a b : CE) | enum (e : CE) | zip (a b : CE)
inductive CT where
  | nm (i : Nat) | tp (n : Nat) (ts : CTs) | ix (a b : CE) | fd (a : CE) (f : Nat)
inductive CTs where
  | nil | cons (t : CT) (ts : CTs)
end
instance : Inhabited CE := ⟨.var 0⟩
/-- the most turns of a loop -/
abbrev turns : Nat := 4611686018427387904
section
variable (T : Tab) (P : Nat → Option FI) (cal : Nat → List D → M D) (cst : Nat → Option D) (gd : Md)
def mCst (j : Nat) : Env → M D := fun _ S => match cst j with
  | some d => some (.ok d S)
  | none => none
/-- what is walked by enumerate, zip -/
def mEn : D → M Itr
  | .ref i => fun S => match lstAt S i with
    | some _ => some (.ok (.enl i) S)
    | none => none
  | .str cs => ret (.ens cs)
  | _ => stuck
def isSq (S : Sto) : D → Bool
  | .ref i => (lstAt S i).isSome
  | .tup _ => true
  | _ => false
def mZp (a b : D) : M Itr := match a, b with
  | .ref i, .ref j => fun S => if (lstAt S i).isSome && (lstAt S j).isSome then some (.ok (.zip a b) S) else none
  | .tup _, .tup _ => ret (.zip a b)
  | _, _ => stuck
mutual
def evE : CE → Env → M D
  | .var i => mVar i
  | .con d => mC d
  | .glo j => mCst cst j
  | .fnv f => mC (.fn f)
  | .clv c => mC (.cl c)
  | .typ t => mC (.ty t)
  | .bin o a b => fun env => bnd (evE a env) fun d => bnd (evE b env) fun e => o.run d e
  | .neg a => fun env => bnd (evE a env) mNeg
  | .not a => mNot (evE a)
  | .boo k es => evB k es
  | .ite c a b => mIte (evT c) (evE a) (evE b)
  | .cmp o a b => mCmp o.run (evE a) (evE b)
  | .chn o p a b c => mChain o.run p.run (evE a) (evE b) (evE c)
  | .tup es => mTup (evL es)
  | .lst es => mLst (evL es)
  | .idx a b => mCmp mIdx (evE a) (evE b)
  | .slc a lo hi => mSlice (evE a) (evP lo) (evP hi)
  | .att a f => fun env => bnd (evE a env) (mAttr T.fld T.mt T.xf f)
  | .call f n es kn ks => match okF P gd f n kn with
    | some fi => mCall fi (cal f) n kn (evL es) (evL ks)
    | none => fun _ => stuck
  | .cav i n es => mCallV P cal gd i n (evL es)
  | .mth a m n es => mMth T.mt P cal m n (evE a) (evL es)
  | .mkx c n es kn ks => match T.xm c with
    | some fi => mMkx fi c n kn (evL es) (evL ks)
    | none => match T.x0 c with
      | true => mC (.ex c [])
      | false => fun _ => stuck
  | .dc0 => fun _ => alloc (.dct [])
  | .mak c n es kn ks => match T.ini c with
    | some f => match okF P ⟨false, true⟩ f (n + 1) kn with
      | some fi => mMake c fi (cal f) n kn (evL es) (evL ks)
      | none => fun _ => stuck
    | none => fun _ => stuck
  | .fun_ b es => fun env => bnd (evL es env) (b.run T)
  | .bmt a m es => mBM m.ty m.run (evE a) (evL es)
  | .lc elt g it c own => mLc turns own (evI it) (evG g) (evC c) (evE elt)
  | .unk => fun _ => stuck
def evT : CE → Env → M Bool
  | .not a => mNotT (evT a)
  | .boo k es => evBT k es
  | .ite c a b => mIte (evT c) (evT a) (evT b)
  | .cmp o a b => fun env => bnd (mCmp o.run (evE a) (evE b) env) mB
  | .chn o p a b c => fun env => bnd (mChain o.run p.run (evE a) (evE b) (evE c) env) mB
  | .var i => fun env => bnd (mVar i env) mTru
  | .att a f => fun env => bnd (bnd (evE a env) (mAttr T.fld T.mt T.xf f)) mTru
  | .call f n es kn ks => match okF P gd f n kn with
    | some fi => fun env => bnd (mCall fi (cal f) n kn (evL es) (evL ks) env) mTru
    | none => fun _ => stuck
  | .cav i n es => fun env => bnd (mCallV P cal gd i n (evL es) env) mTru
  | .mth a m n es => fun env => bnd (mMth T.mt P cal m n (evE a) (evL es) env) mTru
  | .fun_ b es => fun env => bnd (bnd (evL es env) (b.run T)) mTru
  | .idx a b => fun env => bnd (mCmp mIdx (evE a) (evE b) env) mTru
  | .con d => fun _ => mTru d
  | _ => fun _ => stuck
def evB (k : Bool) : CL → Env → M D
  | .nil => fun _ => stuck
  | .cons e es => match es with
    | .nil => evE e
    | .cons e2 es2 => if k then mAnd (evE e) (evB k (.cons e2 es2)) else mOr (evE e) (evB k (.cons e2 es2))
    | .star _ _ => fun _ => stuck
  | .star _ _ => fun _ => stuck
def evBT (k : Bool) : CL → Env → M Bool
  | .nil => fun _ => stuck
  | .cons e es => match es with
    | .nil => evT e
    | .cons e2 es2 => if k then mAndT (evT e) (evBT k (.cons e2 es2)) else mOrT (evT e) (evBT k (.cons e2 es2))
    | .star _ _ => fun _ => stuck
  | .star _ _ => fun _ => stuck
def evL : CL → Env → M (List D)
  | .nil => mNil
  | .cons e es => mCons (evE e) (evL es)
  | .star e es => mStar (evE e) (evL es)
def evP : CP → Env → M (Option Int)
  | .no => mNoPart
  | .yes e => mPart (evE e)
def evC : CP → Env → M Bool
  | .no => mYes
  | .yes e => evT e
def evI : CI → Env → M Itr
  | .any e => fun env => bnd (evE e env) mIt
  | .rng1 a => fun env => bnd (mCons (evE a) mNil env) fun
    | [.int j] => fun S => if r62 j then some (.ok (.rng 0 1 j.toNat) S) else none
    | _ => stuck
  | .rng2 a b => fun env => bnd (mCons (evE a) (mCons (evE b) mNil) env) fun
    | [.int i, .int j] => fun S => if r62 i && r62 j then some (.ok (.rng i 1 (j - i).toNat) S) else none
    | _ => stuck
  | .enum e => fun env => bnd (evE e env) mEn
  | .zip a b => fun env => bnd (evE a env) fun d => bnd (evE b env) fun e => mZp d e
def evG : CT → D → Env → M Env
  | .nm i => tgN i
  | .tp n ts => tgT n (evGs ts)
  | .ix a b => tgI (evE a) (evE b)
  | .fd a f => tgF T.fld f (evE a)
def evGs : CTs → List D → Env → M Env
  | .nil => tgsNil
  | .cons t ts => tgsCons (evG t) (evGs ts)
end
end
/-- what stands in a try's body -/
inductive CR where
  | nil | rai (c n : Nat) (es : CL) (kn : List Str) (ks : CL) | iff (t : CE) (c n : Nat) (es : CL) (kn : List Str) (ks : CL) (r : CR)
instance : Inhabited CR := ⟨.nil⟩
mutual
inductive CS where
  | pas | brk | cnt | ret0
  | exp (e : CE) | ret (e : CE)
  | iff (c : CE) (a b : CS)
  | asg (g : CT) (e : CE)
  | par (is : List Nat) (es : CL)
  | for_ (g : CT) (it : CI) (b : CS)
  | whl (c : CE) (b : CS)
  | seq (a b : CS) | nil | unk
  | rai (c n : Nat) (es : CL) (kn : List Str) (ks : CL)
  | try_ (b : CR) (hs : CH)
inductive CH where
  | nil | cons (c : Nat) (sl : Option Nat) (b : CS) (r : CH)
end
instance : Inhabited CS := ⟨.pas⟩
section
variable (T : Tab) (P : Nat → Option FI) (cal : Nat → List D → M D) (cst : Nat → Option D)
/-- the attributes of what is made -/
def evX (gd : Md) (c n : Nat) (es : CL) (kn : List Str) (ks : CL) : Env → M (List D) := match T.xm c with
  | some fi => mXl fi n kn (evL T P cal cst gd es) (evL T P cal cst gd ks)
  | none => match T.x0 c with
    | true => mNil
    | false => fun _ => stuck
def sRai (c : Nat) (ml : Env → M (List D)) : Env → M Fl := fun env => bnd (noEx (ml env)) fun ds S => some (.exc ⟨c, ds⟩ S)
def evR (gd : Md) : CR → Env → M Fl
  | .nil => sNext
  | .rai c n es kn ks => sRai c (evX T P cal cst gd c n es kn ks)
  | .iff t c n es kn ks r => fun env => bnd (noEx (evT T P cal cst gd t env)) fun b => if b then sRai c (evX T P cal cst gd c n es kn ks) env else evR gd r env
def setAll : List Nat → List D → Env → Option Env
  | [], [], env => some env
  | i :: is, d :: ds, env => setAll is ds (env.set i (some d))
  | _, _, _ => none
mutual
def evS : Md → CS → Env → M Fl
  | _, .pas => sNext
  | _, .brk => sBrk
  | _, .cnt => sCont
  | _, .ret0 => sRetN
  | gd, .exp e => sExpr (evE T P cal cst gd e)
  | gd, .ret e => sRet (evE T P cal cst gd e)
  | gd, .iff c a b => sIf (evT T P cal cst gd c) (evS gd a) (evS gd b)
  | gd, .asg g e => sAsg (evE T P cal cst gd e) (evG T P cal cst gd g)
  | gd, .par is es => fun env => bnd (evL T P cal cst gd es env) fun ds S => match setAll is ds env with
    | some env => some (.ok (.nx env) S)
    | none => none
  | gd, .for_ g it b => sFor turns (evI T P cal cst gd it) (evG T P cal cst gd g) (evS gd b)
  | gd, .whl c b => wLoop (evT T P cal cst gd c) (evS gd b) turns
  | gd, .seq a b => sSeq (evS gd a) (evS gd b)
  | _, .nil => sNext
  | _, .unk => fun _ => stuck
  | gd, .rai c n es kn ks => sRai c (evX T P cal cst gd c n es kn ks)
  | gd, .try_ b hs => sTry T.exm (evR T P cal cst gd b) (evH gd hs)
def evH : Md → CH → List (Nat × Option Nat × (Env → M Fl))
  | _, .nil => []
  | gd, .cons c sl b r => (c, sl, evS ⟨gd.sh, false⟩ b) :: evH gd r
end
end
/-- a def's text: its local names, its body -/
structure FB where
  N : Nat
  body : CS
  deriving Inhabited
def envOf (n : Nat) (ds : List D) : Env := ds.map some ++ List.replicate (n - ds.length) none
def endOf : Fl → M D
  | .nx _ => ret .non
  | .rt d => ret d
  | _ => stuck
def callN (T : Tab) (P : Nat → Option FI) (cst : Nat → Option D) (F : Nat → Option FB) : Nat → Nat → List D → M D
  | 0, _, _ => stuck
  | k + 1, f, ds => match P f, F f with
    | some fi, some fb => bnd (evS T P (callN T P cst F k) cst fi.gd fb.body (envOf fb.N ds)) endOf
    | _, _ => stuck
end G
end
section
/-! G21: is the core that of the text? -/
namespace G
open PySem L2

/-- the names of the text -/
structure Gt where
  T : Tab
  nm : Nat → Str
  nF : Nat → Option Str
  nC : Nat → Option Str
  nK : Nat → Option Str
  cst : Nat → Option D
  fr : BN → Bool
def visB (sc : Scope) (x : Str) : Bool := match sc.names.lookup x with
  | some .local => true
  | some .cell => true
  | some .free => true
  | _ => false
def glB (sc : Scope) (x : Str) : Bool := match sc.names.lookup x with
  | some .globalImplicit => true
  | _ => false
def locB (sc : Scope) (x : Str) : Bool := match sc.names.lookup x with
  | some .local => true
  | some .cell => true
  | _ => false
def locS (sc : Scope) (x : Str) : Bool := match sc.names.lookup x with
  | some .local => true
  | _ => false
def okN (x : Str) : Bool := !(x == ("__debug__" : Str)) && !(x == ("__classdict__" : Str))
def atN (N : List Str) (i : Nat) (x : Str) : Bool := match N[i]? with
  | some y => decide (y = x)
  | none => false
def okC : D → Const → Bool
  | .non, .none => true
  | .bl a, .bool b => decide (a = b)
  | .int a, .int b => decide (a = b)
  | .str cs, .str y => decide (y = ⟨cs.toArray⟩)
  | _, _ => false
def plainT : Expr → Bool
  | .UnaryOp .Not _ _ => false
  | .BoolOp _ _ _ => false
  | .IfExp _ _ _ _ => false
  | .Compare _ _ _ _ => false
  | _ => true
def plainI : Expr → Bool
  | .Slice _ _ _ _ => false
  | _ => true
def notSet : Expr → Bool
  | .Set _ _ _ => false
  | _ => true
def isComp : Expr → Bool
  | .ListComp .. => true
  | .SetComp .. => true
  | .DictComp .. => true
  | _ => false
/-- built-in names that are called so -/
def BN.may (gd : Md) : BN → Bool
  | .repr => gd.sh
  | .max => gd.cm
  | .min => gd.cm
  | .sum => gd.cm
  | .all => gd.cm
  | .any => gd.cm
  | .eV => false
  | .eL => false
  | .eA => false
  | .eT => false
  | .eAt => false
  | .eR => false
  | .range => false
  | .enum => false
  | .zip => false
  | .rev => false
  | .dict => false
  | .bool => false
  | _ => true
def isNil : CL → Bool
  | .nil => true
  | _ => false
section
variable (G : Gt) (P : Nat → Option FI) (N : List Str) (gd : Md)
def nameIs (o : Option Str) (x : Str) : Bool := match o with
  | some y => decide (y = x)
  | none => false
mutual
def okE (tr : Bool) (sc : Scope) : CE → Expr → Bool
  | .var i, e => (!tr || plainT e) && match e with
    | .Name x _ => atN N i x && visB sc x && okN x
    | _ => false
  | .con d, e => (!tr || plainT e) && match e with
    | .Constant c _ _ => okC d c
    | _ => false
  | .glo j, e => (!tr || plainT e) && match e with
    | .Name x _ => nameIs (G.nK j) x && glB sc x && okN x && (G.cst j).isSome
    | _ => false
  | .fnv f, e => (!tr || plainT e) && match e with
    | .Name x _ => nameIs (G.nF f) x && glB sc x && okN x
    | _ => false
  | .clv f, e => (!tr || plainT e) && match e with
    | .Name x _ => nameIs (G.nC f) x && glB sc x && okN x
    | _ => false
  | .typ t, e => (!tr || plainT e) && match e with
    | .Name x _ => glB sc x && okN x && (match t with
      | .int => G.fr .int && decide (x = BN.int.name)
      | .bool => G.fr .bool && decide (x = BN.bool.name)
      | .str => G.fr .str && decide (x = BN.str.name)
      | .tuple => G.fr .tuple && decide (x = BN.tuple.name)
      | .list => G.fr .list && decide (x = BN.list.name)
      | .eV => G.fr .eV && decide (x = BN.eV.name)
      | .eL => G.fr .eL && decide (x = BN.eL.name)
      | .eA => G.fr .eA && decide (x = BN.eA.name)
      | .eT => G.fr .eT && decide (x = BN.eT.name)
      | .eAt => G.fr .eAt && decide (x = BN.eAt.name)
      | .eR => G.fr .eR && decide (x = BN.eR.name)
      | _ => false)
    | _ => false
  | .bin o a b, e => (!tr || plainT e) && match e with
    | .BinOp x op y _ => decide (op = o.op) && okE false sc a x && okE false sc b y
    | _ => false
  | .neg a, e => (!tr || plainT e) && match e with
    | .UnaryOp op x _ => decide (op = .USub) && okE false sc a x
    | _ => false
  | .not a, e => match e with
    | .UnaryOp op x _ => decide (op = .Not) && okE tr sc a x
    | _ => false
  | .boo k es, e => match e with
    | .BoolOp op xs _ => decide (op = if k then .And else .Or) && okB' tr sc es xs
    | _ => false
  | .ite c a b, e => match e with
    | .IfExp x y z _ => okE true sc c x && okE tr sc a y && okE tr sc b z
    | _ => false
  | .cmp o a b, e => match e with
    | .Compare x [op] [y] _ => decide (op = o.op) && okE false sc a x && okE false sc b y && notSet y
    | _ => false
  | .chn o p a b c, e => match e with
    | .Compare x [op, op2] [y, z] _ => decide (op = o.op) && decide (op2 = p.op) && okE false sc a x && okE false sc b y && okE false sc c z && notSet z
    | _ => false
  | .tup es, e => (!tr || plainT e) && match e with
    | .Tuple xs _ _ => okL sc es xs
    | _ => false
  | .lst es, e => (!tr || plainT e) && match e with
    | .List xs _ => okL sc es xs
    | _ => false
  | .idx a b, e => (!tr || plainT e) && match e with
    | .Subscript x y _ => plainI y && okE false sc a x && okE false sc b y
    | _ => false
  | .slc a lo hi, e => (!tr || plainT e) && match e with
    | .Subscript x (.Slice l h none _) _ => okE false sc a x && okP sc lo l && okP sc hi h
    | _ => false
  | .att a f, e => (!tr || plainT e) && match e with
    | .Attribute x n _ => decide (G.nm f = n) && okE false sc a x && baseOk x
    | _ => false
  | .call f n es kn ks, e => (!tr || plainT e) && match e with
    | .Call (.Name x _) xs kws _ => nameIs (G.nF f) x && glB sc x && okN x && xs.all (fun e => !isStar e) && kws.all (·.arg.isSome) && decide (kws.filterMap (·.arg) = kn) && (okF P gd f n kn).isSome && okL sc es xs && okK sc ks kws
        && (match xs with | [] => Nat.beq n 0 && (match es with | .nil => true | _ => false) | _ => true)
    | _ => false
  | .cav i n es, e => (!tr || plainT e) && match e with
    | .Call (.Name x _) xs [] _ => atN N i x && visB sc x && okN x && xs.all (fun e => !isStar e) && Nat.beq n xs.length && okL sc es xs
    | _ => false
  | .mth a m n es, e => (!tr || plainT e) && match e with
    | .Call (.Attribute o x ap) xs [] pos => decide (G.nm m = x) && baseOk o && xs.all (fun e => !isStar e) && Nat.blt xs.length 30 && (ap.endLine == pos.line) && Nat.beq n xs.length && okE false sc a o && okL sc es xs && gd.cm
    | _ => false
  | .mak c n es kn ks, e => (!tr || plainT e) && match e with
    | .Call (.Name x _) xs kws _ => nameIs (G.nC c) x && glB sc x && okN x && xs.all (fun e => !isStar e) && kws.all (·.arg.isSome) && decide (kws.filterMap (·.arg) = kn) && okL sc es xs && okK sc ks kws
        && (match G.T.ini c with | some f => (okF P ⟨false, true⟩ f (n + 1) kn).isSome | none => false) && (match xs with | [] => Nat.beq n 0 && (match es with | .nil => true | _ => false) | _ => true) && gd.cm
    | _ => false
  | .mkx c n es kn ks, e => (!tr || plainT e) && match e with
    | .Call (.Name x _) xs kws _ => nameIs (G.nC c) x && glB sc x && okN x && xs.all (fun e => !isStar e) && kws.all (·.arg.isSome) && decide (kws.filterMap (·.arg) = kn) && okL sc es xs && okK sc ks kws
        && ((G.T.xm c).isSome || (G.T.x0 c && xs.isEmpty && kws.isEmpty))
    | _ => false
  | .dc0, e => (!tr || plainT e) && match e with
    | .Dict [] [] _ => true
    | _ => false
  | .fun_ b es, e => (!tr || plainT e) && match e with
    | .Call (.Name x _) (y :: xs) [] _ => decide (x = b.name) && G.fr b && glB sc x && okN x && (y :: xs).all (fun e => !isStar e) && okL sc es (y :: xs) && b.may gd
    | _ => false
  | .bmt a m es, e => (!tr || plainT e) && match e with
    | .Call (.Attribute o x ap) xs [] pos => decide (x = m.name) && baseOk o && xs.all (fun e => !isStar e) && Nat.blt xs.length 30 && (ap.endLine == pos.line) && okE false sc a o && okL sc es xs && (match xs with | [] => (match es with | .nil => true | _ => false) | _ => true)
    | _ => false
  | .lc elt g it c own, e => (!tr || plainT e) && match e with
    | .ListComp x [g0] sc2 _ => decide (g0.is_async = 0) && blkC N sc sc2 (own.filterMap fun i => (N[i]?).map fun y => (y, i)) && Nat.beq (own.filterMap fun i => (N[i]?).map fun y => (y, i)).length own.length && okI sc it g0.target g0.iter && okG sc2 (some own) g g0.target && notSet g0.iter && okE false sc2 elt x && okCs sc2 c g0.ifs && gd.cm
    | _ => false
  | .unk, _ => true
def okCs (sc : Scope) : CP → List Expr → Bool
  | .no, fs => fs.isEmpty
  | .yes c, fs => match fs with
    | [f] => okE true sc c f
    | _ => false
def okB' (tr : Bool) (sc : Scope) : CL → List Expr → Bool
  | .cons e es, xs => match xs with
    | x :: xs => okE tr sc e x && ((isNil es && xs.isEmpty) || okB' tr sc es xs)
    | [] => false
  | _, _ => false
def okL (sc : Scope) : CL → List Expr → Bool
  | .nil, [] => true
  | .cons e es, x :: xs => !isStar x && okE false sc e x && okL sc es xs
  | .star e es, x :: xs => match x with
    | .Starred y _ => okE false sc e y && okL sc es xs
    | _ => false
  | _, _ => false
def okK (sc : Scope) : CL → List Keyword → Bool
  | .nil, [] => true
  | .cons e es, k :: ks => okE false sc e k.value && okK sc es ks
  | _, _ => false
def okP (sc : Scope) : CP → Option Expr → Bool
  | .no, none => true
  | .yes e, some x => okE false sc e x
  | _, _ => false
def okI (sc : Scope) : CI → Expr → Expr → Bool
  | .any e, _, x => okE false sc e x
  | .rng1 a, _, x => match x with
    | .Call (.Name n _) [y] [] _ => decide (n = BN.range.name) && G.fr .range && glB sc n && !isStar y && okE false sc a y
    | _ => false
  | .rng2 a b, _, x => match x with
    | .Call (.Name n _) [y, z] [] _ => decide (n = BN.range.name) && G.fr .range && glB sc n && !isStar y && !isStar z && okE false sc a y && okE false sc b z
    | _ => false
  | .enum e, t, x => match t, x with
    | .Tuple _ _ _, .Call (.Name n _) [y] [] _ => decide (n = BN.enum.name) && G.fr .enum && glB sc n && !isStar y && okE false sc e y
    | _, _ => false
  | .zip a b, t, x => match t, x with
    | .Tuple _ _ _, .Call (.Name n _) [y, z] [] _ => decide (n = BN.zip.name) && G.fr .zip && glB sc n && !isStar y && !isStar z && okE false sc a y && okE false sc b z
    | _, _ => false
def okG (sc : Scope) (own : Option (List Nat)) : CT → Expr → Bool
  | .nm i, t => match t with
    | .Name x _ => atN N i x && locB sc x && (match own with | some o => decide (i ∈ o) | none => true)
    | _ => false
  | .tp n ts, t => match t with
    | .Tuple xs _ _ => xs.all (fun e => !isStar e) && Nat.beq n xs.length && okGs sc own ts xs && gd.cm
    | _ => false
  | .ix a b, t => match t with
    | .Subscript x y _ => own.isNone && plainI y && okE false sc a x && okE false sc b y
    | _ => false
  | .fd a f, t => match t with
    | .Attribute x n _ => own.isNone && decide (G.nm f = n) && okE false sc a x
    | _ => false
def okGs (sc : Scope) (own : Option (List Nat)) : CTs → List Expr → Bool
  | .nil, [] => true
  | .cons t ts, x :: xs => !isStar x && okG sc own t x && okGs sc own ts xs
  | _, _ => false
end
end
end G
end
section
/-! G22: a core that is that of the text tells what the text does: places. -/
namespace G
open PySem L2
/-- the scope that is looked up stands for the one of the text -/
structure ScR (sc sc' : Scope) : Prop where
  vis : ∀ x, visB sc x = true → Vis sc' x
  gl : ∀ x, glB sc x = true → sc'.names.lookup x = some .globalImplicit
  loc : ∀ x, locB sc x = true → Loc sc' x
  locS : ∀ x, locS sc x = true → sc'.names.lookup x = some .local
  fr : ∀ x, (sc.names.lookup x = some .cell ∨ sc.names.lookup x = some .free) → (sc'.names.lookup x = some .cell ∨ sc'.names.lookup x = some .free)
theorem ScR.refl (sc : Scope) : ScR sc sc := by
  refine ⟨fun x h => ?_, fun x h => ?_, fun x h => ?_, fun x h => ?_, fun x h => h⟩
  · unfold visB at h
    split at h
    · rename_i e; exact .inl e
    · rename_i e; exact .inr (.inl e)
    · rename_i e; exact .inr (.inr e)
    · cases h
  · unfold glB at h
    split at h
    · rename_i e; exact e
    · cases h
  · unfold locB at h
    split at h
    · rename_i e; exact .inl e
    · rename_i e; exact .inr e
    · cases h
  · unfold _root_.G.locS at h
    split at h
    · rename_i e; exact e
    · cases h
theorem lookup_rel (g : Str → NameKind → Bool) (x : Str) : ∀ names : List (Str × NameKind), (names.map fun (p : Str × NameKind) => if g p.1 p.2 then (p.1, NameKind.cell) else p).lookup x = (names.lookup x).map fun k => if g x k then .cell else k
  | [] => rfl
  | (n, k) :: r => by
    have ih := lookup_rel g x r
    rw [List.map_cons]
    have e : (if g n k = true then (n, NameKind.cell) else (n, k)) = (n, if g n k = true then NameKind.cell else k) := by split <;> rfl
    show List.lookup x ((if g n k = true then (n, NameKind.cell) else (n, k)) :: _) = _
    rw [e, List.lookup_cons, List.lookup_cons]
    cases hx : x == n with
    | true =>
      have : x = n := by simpa using hx
      subst this
      rfl
    | false => exact ih
theorem ScR.rel (sc sc0 : Scope) : ScR sc (relS sc sc0) := by
  have key : ∀ x, ∃ b : Bool, (relS sc sc0).names.lookup x = (sc.names.lookup x).map fun k => if (k == NameKind.free && b) then .cell else k := fun x => by
    refine ⟨(sc0.kind == .function && sc0.names.lookup x == some .cell), ?_⟩
    have e := lookup_rel (fun n k => k == NameKind.free && (sc0.kind == .function && sc0.names.lookup n == some .cell)) x sc.names
    rw [← e]
    unfold relS
    show List.lookup x (List.map _ sc.names) = List.lookup x (List.map _ sc.names)
    congr 2
    funext p
    obtain ⟨n, k⟩ := p
    simp only [Bool.and_assoc]
  refine ⟨fun x h => ?_, fun x h => ?_, fun x h => ?_, fun x h => ?_, fun x h => ?_⟩
  · obtain ⟨b, e⟩ := key x
    unfold visB at h
    split at h
    · rename_i q; rw [q] at e; exact .inl e
    · rename_i q; rw [q] at e; exact .inr (.inl e)
    · rename_i q
      rw [q] at e
      cases b
      · exact .inr (.inr e)
      · exact .inr (.inl e)
    · cases h
  · obtain ⟨b, e⟩ := key x
    unfold glB at h
    split at h
    · rename_i q; rw [q] at e; exact e
    · cases h
  · obtain ⟨b, e⟩ := key x
    unfold locB at h
    split at h
    · rename_i q; rw [q] at e; exact .inl e
    · rename_i q; rw [q] at e; exact .inr e
    · cases h
  · obtain ⟨b, e⟩ := key x
    unfold _root_.G.locS at h
    split at h
    · rename_i q; rw [q] at e; exact e
    · cases h
  · obtain ⟨b, e⟩ := key x
    rcases h with q | q
    · rw [q] at e; exact .inl e
    · rw [q] at e
      cases b
      · exact .inr e
      · exact .inl e
section
variable (G : Gt) (B : Tb) (P : Nat → Option FI) (cal : Nat → List D → M D) (gd : Md) (CX : CXT) (k : Nat) (N : List Str)
/-- the same, seen from another place of the text -/
theorem _root_.G.XcG.to {B : Tb} {X Y : Cx} {c : Nat} {fi : FI} (h : XcG B X c fi) (h1 : Y.prog = X.prog) (h2 : Y.K = X.K) (h3 : Y.mg = X.mg) : XcG B Y c fi := by
  obtain ⟨⟨me, ps, e1, e2, ⟨⟨fI, fd, e3, e4, e5⟩, e6, e7, e8⟩⟩, d, kp, r⟩ := h
  exact ⟨⟨me, ps, e1, e2, ⟨⟨fI, fd, by rw [h1, h2]; exact e3, by rw [h2]; exact e4, by rw [h2]; exact e5⟩, by rw [h3]; exact e6, e7, e8⟩⟩, d, by rw [h2]; exact kp, fun M h k => r M h (by rw [← h2]; exact k)⟩
theorem _root_.G.X0G.to {B : Tb} {X Y : Cx} {c : Nat} (h : X0G B X c) (h2 : Y.K = X.K) : X0G B Y c := by
  obtain ⟨e, kp, r⟩ := h
  exact ⟨by rw [h2]; exact e, by rw [h2]; exact kp, fun M h k => r M h (by rw [← h2]; exact k)⟩
structure Pl (sc : Scope) (E : XK) (X : Cx) : Prop where
  cx : CxG B P cal gd CX k X
  hN : X.N = N
  hs : ScR sc X.env.scope
  hx : Passes CX X E
  tab : G.T.fld = B.fld ∧ G.T.mt = B.mt ∧ G.T.ini = B.ini ∧ G.T.isv = B.isv ∧ G.T.xf = B.xf
  xcg : ∀ c fi, G.T.xm c = some fi → XcG B X c fi
  x0g : ∀ c, G.T.x0 c = true → X0G B X c
  exm : ∀ c h b, G.T.exm c h = some b → PySem.W.exmOne X.K (.ref (B.ca c)) (.ref (B.ca h)) = some b
  nm : ∀ i, B.nm i = G.nm i
  nF : ∀ f x, G.nF f = some x → X.mg x = some (.ref (B.fa f))
  nC : ∀ c x, G.nC c = some x → X.mg x = some (.ref (B.ca c))
  nK : ∀ j x d, G.nK j = some x → G.cst j = some d → ∃ u v, X.mg x = some u ∧ RelV v u ∧ ∀ w, Rv B w d v
  fr : ∀ b, G.fr b = true → X.mg b.name = none
  exo : ∀ ou H s e s', ¬ CX ou H s E0 e s'
  fnc : ∀ x, sc.names.lookup x = some .cell → X.fn x = true
end
section
variable {G : Gt} {B : Tb} {P : Nat → Option FI} {cal : Nat → List D → M D} {gd : Md} {CX : CXT} {k : Nat} {N : List Str} {sc : Scope} {E : XK} {X : Cx}
theorem Pl.blk (p : Pl G B P cal gd CX k N sc E X) (sc2 : Scope) (s : Shared) (H : Hp) (C : Addr) (cl : List (Str × Addr)) (fp : List Addr) : Pl G B P cal gd CX k N sc2 E0 (blkCx X sc2 s H C cl fp) where
  cx := ⟨p.cx.hK, p.cx.hr, p.cx.hg, p.cx.calm, p.cx.nd, fun f fi e => ⟨(p.cx.fn f fi e).ok, (p.cx.fn f fi e).kp, (p.cx.fn f fi e).fi⟩⟩
  hN := p.hN
  hs := ScR.rel sc2 X.env.scope
  hx := fun _ _ H s e s' _ h => (p.exo _ _ _ _ _ h).elim
  tab := p.tab
  xcg := fun c fi e => (p.xcg c fi e).to rfl rfl rfl
  x0g := fun c e => (p.x0g c e).to rfl
  exm := p.exm
  nm := p.nm
  nF := p.nF
  nC := p.nC
  nK := p.nK
  fr := p.fr
  exo := p.exo
  fnc := fun x h => by
    show (sc2.names.lookup x == some .cell) = true
    rw [h]
    rfl
theorem Pl.gl (p : Pl G B P cal gd CX k N sc E X) {x : Str} (h : glB sc x = true) : Gl X x := p.hs.gl x h
theorem Pl.at_ (p : Pl G B P cal gd CX k N sc E X) {i : Nat} {x : Str} (h : atN N i x = true) : X.N[i]? = some x := by
  rw [p.hN]
  unfold atN at h
  split at h
  · rename_i y e; rw [e, of_decide_eq_true h]
  · cases h
theorem Pl.own (p : Pl G B P cal gd CX k N sc E X) {x : Str} (h : locB sc x = true) : Loc X.env.scope x ∧ (X.fn x = true ∨ X.env.scope.names.lookup x = some .local) := by
  refine ⟨p.hs.loc x h, ?_⟩
  unfold locB at h
  split at h
  · rename_i e
    exact .inr (p.hs.locS x (by unfold _root_.G.locS; rw [e]))
  · rename_i e
    exact .inl (p.fnc x e)
  · cases h
theorem okN_1 {x : Str} (h : okN x = true) : (x == ("__debug__" : Str)) = false := by
  unfold okN at h
  rw [Bool.and_eq_true] at h
  simpa using h.1
theorem okN_2 {x : Str} (h : okN x = true) : (x == ("__classdict__" : Str)) = false := by
  unfold okN at h
  rw [Bool.and_eq_true] at h
  simpa using h.2
theorem nameIs_some {o : Option Str} {x : Str} (h : nameIs o x = true) : o = some x := by
  unfold nameIs at h
  split at h
  · rw [of_decide_eq_true h]
  · cases h
/-! ### operators, built-ins -/
theorem bo_ok (C : CxG B P cal gd CX k X) (o : BO) : OpR X (binaryOp o.op) (g2 B E o.run) := by
  cases o with
  | add => exact add_ok C.hK
  | sub => exact sub_ok
  | mul => exact mul_ok
  | div => exact div_ok
  | mod => exact mod_ok
  | pow => exact pow_ok
theorem CxG.un (C : CxG B P cal gd CX k X) : X.A.units + 200 < cLine := by have := C.hr.un; omega
theorem co_ok (C : CxG B P cal gd CX k X) (o : CO) : OpR X (compareOp o.op) (g2 B E o.run) := by
  have hu := C.un
  cases o with
  | eq => exact eq_ok C.hK (by omega)
  | ne => exact ne_ok C.hK (by omega)
  | lt => exact cmpI_ok op_lt
  | le => exact cmpI_ok op_le
  | gt => exact cmpI_ok op_gt
  | ge => exact cmpI_ok op_ge
  | is => exact is_ok
  | isnot => exact isnot_ok
  | isin => exact in_ok C.hK (by omega)
  | notin => exact notin_ok C.hK (by omega)
theorem bm_ok (C : CxG B P cal gd CX k X) (m : BM) : PlainAttrs m.ty.name ∧ Slot m.ty.name m.name m.id ∧ typeOf (.builtin m.id) = pure (.type "method_descriptor") ∧ MtR X m.id (gM B E m.run) := by
  cases m with
  | append => exact ⟨F.plainAttrs_list, F.slot_list_append, F.type_list_append, append_ok⟩
  | extend => exact ⟨F.plainAttrs_list, F.slot_list_extend, F.type_list_extend, extend_ok C.hK⟩
  | pop => exact ⟨F.plainAttrs_list, F.slot_list_pop, F.type_list_pop, pop_ok⟩
  | index => exact ⟨F.plainAttrs_list, F.slot_list_index, F.type_list_index, index_ok C.hK⟩
  | join => exact ⟨F.plainAttrs_str, F.slot_str_join, F.type_str_join, join_ok C.hK⟩
  | split => exact ⟨F.plainAttrs_str, F.slot_str_split, F.type_str_split, split_ok⟩
theorem bm_ty (m : BM) : m.ty = .str ∨ m.ty = .list ∨ m.ty = .dict := by cases m <;> simp [BM.ty]
end
end G
end
section
/-! G23: enumerate, zip. -/
namespace G
open PySem PySem.Spec PyProof.Rows L2
section
variable {B : Tb} {E : XK} {X : Cx} {w : Wd} {S : Sto}
theorem lstAt_lt {i : Nat} {ds : List D} (rs : RS B w S) (h : lstAt S i = some ds) : i < w.n := by
  obtain ⟨h, _⟩ := lst_sq rs h
  exact h
theorem itOk_enl {w0 : Wd} {p : Nat} (hp : p < w0.n) : ItOk B w0 (.enl p) (Ite B.K (w0.ρ p)) := by
  intro w S i le rs
  unfold nextI
  dsimp only
  cases e : lstAt S p with
  | none => trivial
  | some ds =>
    obtain ⟨vs, sq, q⟩ := lstAt_sq rs e
    rw [le.ag p hp] at sq
    dsimp only
    cases ed : ds[i]? with
    | none =>
      refine ⟨vs, sq, ?_⟩
      rw [q.length]
      exact List.getElem?_eq_none_iff.mp ed
    | some d =>
      obtain ⟨v, ev, rv⟩ := q.get ed
      refine ⟨⟨vs, v, sq, ev⟩, ?_⟩
      rintro x H' ⟨T, y, rfl, hT, rfl, hy⟩
      have := hy vs sq
      rw [ev] at this
      cases this
      have le1 : w.le (w.putI T (.tup [.int (i : Nat), v])) := Wd.putI_le hT
      refine ⟨_, le1, rfl, rs.putI hT, ?_⟩
      simp only [Rv]
      exact ⟨T, _, rfl, .inl upd_same, .cons rv_int (.cons (rv.mono le1) .nil)⟩
end
/-- a text's signs with their places -/
def IteS (x : Str) : It :=
  ⟨fun i _ => i < x.cps.size, fun i H v H' => ∃ T c, v = .ref T ∧ H T = none ∧ H' = upd H T (.tup [.int (i : Nat), .str ⟨#[c]⟩]) ∧ x.cps[i]? = some c, fun i _ => x.cps.size ≤ i⟩
theorem text_end {prog : Program} {w : World} {A : Around} (hh : A.handled = none) (it : Addr) (x : Str) (t : Tok) (i : Nat) (hx : x.cps[i]? = none) :
    PySem.Draws prog w A it [it] i (fun _ _ => True) (fun j h => j = i ∧ h.IsStrIter it (PySem.strIterType x) x t i) where
  live := fun _ _ st => let ⟨o, ho, _⟩ := st.2; ⟨o, ho⟩
  frame := fun _ _ _ st hk => let ⟨o, ho, r⟩ := st.2; ⟨st.1, o, hk it (by simp) o ho, r⟩
  item := fun j s Q E hj st _ => by
    have := st.1
    omega
  done := fun s Q E st hE => by
    have st2 := st.2
    cases ha : x.cps.all (· < 128)
    · simp only [PySem.strIterType, ha, Bool.false_eq_true, if_false] at st2
      exact PySem.wpAny_nextOf_wide_end hh st2 hx hE
    · simp only [PySem.strIterType, ha, if_true] at st2
      exact PySem.wpAny_nextOf_ascii_end hh st2 hx hE
theorem turn_enumS {P : Program} {w : World} {K : PySem.W.Frag} {elts : List Expr} {kk : Nat} {tpos : Pos} (x : Str) (t : Tok) (e it : Addr) :
    Turn P w K (.Tuple elts kk tpos) (IteS x) [e, it] e (fun i h => (∃ old, IsEnum h e it ((i : Nat) : Int) old) ∧ h.IsStrIter it (PySem.strIterType x) x t i ∧ e ≠ it) where
  mem := by simp
  obj := fun i h st b hb => by
    obtain ⟨⟨old, he⟩, ⟨o, ho, hc, hd⟩, _⟩ := st
    rcases (show b = e ∨ b = it by simpa using hb) with z | z
    · rw [z]; exact ⟨_, he, fun v q => nomatch q⟩
    · rw [z]; exact ⟨o, ho, fun v q => by rw [hd] at q; cases q⟩
  keep := fun i h h' st k => by
    obtain ⟨⟨old, he⟩, ⟨o, ho, r⟩, hne⟩ := st
    exact ⟨⟨old, k e (by simp) _ he⟩, ⟨o, k it (by simp) _ ho, r⟩, hne⟩
  item := by
    intro X hP hw hK hc i pins s σ H E I hf st hg
    subst hP hw hK
    obtain ⟨⟨old, he⟩, hit, hne⟩ := st
    have hel : e < s.heap.objs.size := Heap.lt_size he
    have hil : it < s.heap.objs.size := by obtain ⟨_, q, _⟩ := hit; exact Heap.lt_size q
    have hh : X.A.in1.handled = none := I.ok.hd hc
    refine PySem.wpAny_pyNext_enum_itemD (PySem.Draws.text hh it x t) he hit hg hne (by simpa using hne) fun u h' tk hP ho hit' hT hsz hk => ?_
    obtain ⟨c, u', hcx, rfl⟩ := hP
    refine ⟨_, rfl, wpAny_letOwnedTupleGo_enum (s := { s with heap := h', toks := tk + 1 }) ho fun h2 he' sb => ?_⟩
    have hT2 : h2.get? s.heap.objs.size = some { cls := .type "tuple", data := .seq #[.int i tk, .str ⟨#[c]⟩ u'] } := (sb.2 _ (Nat.ne_of_gt hel)).trans hT
    have new : ObjOk X.prog X.w (upd H s.heap.objs.size (.tup [.int (i : Nat), .str ⟨#[c]⟩])) h2 s.heap.objs.size (.tup [.int (i : Nat), .str ⟨#[c]⟩]) :=
      ⟨by show 2 ≤ sizeLine; decide, [.int i tk, .str ⟨#[c]⟩ u'], .cons ⟨_, rfl⟩ (.cons ⟨_, rfl⟩ .nil), ⟨_, hT2, rfl, _, rfl⟩⟩
    have J1 : L2.Inv X pins σ (upd H s.heap.objs.size (.tup [.int (i : Nat), .str ⟨#[c]⟩])) { s with heap := h2, toks := tk + 1 } :=
      I.turnedNew (ch := [e, it]) (fun b ob hb q => (sb.2 b (fun z => hb (by simp [z]))).trans (hk b ob (fun z => hb (by simp [z])) (fun z => hb (by simp [z])) q)) hf (Nat.le_refl _) new
    refine ⟨.ref s.heap.objs.size, _, J1, rfl, ⟨_, c, rfl, I.hok.fresh (Nat.le_refl _), rfl, hcx⟩, ⟨⟨.str ⟨#[c]⟩ u', ?_⟩, ?_, hne⟩, fun b hb => ?_⟩
    · rw [show ((i + 1 : Nat) : Int) = (i : Int) + 1 by omega]
      exact he'
    · obtain ⟨o, ho2, r⟩ := hit'
      exact ⟨o, (sb.2 it (Ne.symm hne)).trans ho2, r⟩
    · have hb' : b < s.heap.objs.size := by
        rcases (show b = e ∨ b = it by simpa using hb) with z | z
        · rw [z]; exact hel
        · rw [z]; exact hil
      rw [upd_ne (Nat.ne_of_lt hb')]
      exact (hf b hb).1
  done := by
    intro X hP hw hK hc i pins s σ H E I hf st hg
    subst hP hw hK
    obtain ⟨⟨old, he⟩, hit, hne⟩ := st
    obtain ⟨f0, f1, f2, f3, f4, f5⟩ := hf it (by simp)
    have hh : X.A.in1.handled = none := I.ok.hd hc
    have hx : x.cps[i]? = none := Array.getElem?_eq_none hg
    exact PySem.wpAny_pyNext_enum_endD (text_end hh it x t i hx) he ⟨rfl, hit⟩ fun h' eb => ⟨rfl, I.turned (t' := s.toks) (fun b o hb q => eb b o hb q) f0 f1 f3 f4 f5⟩
  self := fun A i s Q E st h => let ⟨⟨_, he⟩, _⟩ := st; wpAny_pyIter_enum he h
section
variable {B : Tb} {E : XK} {X : Cx} {w : Wd} {S : Sto}
theorem itOk_ens {w0 : Wd} {cs : List Nat} : ItOk B w0 (.ens cs) (IteS ⟨cs.toArray⟩) := by
  intro w S i le rs
  unfold nextI
  dsimp only
  cases e : cs[i]? with
  | none =>
    show (⟨cs.toArray⟩ : Str).cps.size ≤ i
    have := List.getElem?_eq_none_iff.mp e
    simpa using this
  | some c =>
    have hi := (List.getElem?_eq_some_iff.mp e).1
    refine ⟨by show i < (⟨cs.toArray⟩ : Str).cps.size; simpa using hi, ?_⟩
    rintro x H' ⟨T, c', rfl, hT, rfl, hc⟩
    have : c' = c := by
      have h1 : cs[i]? = some c' := by simpa using hc
      rw [e] at h1
      exact (Option.some.inj h1).symm
    subst this
    have le1 : w.le (w.putI T (.tup [.int (i : Nat), .str ⟨#[c']⟩])) := Wd.putI_le hT
    refine ⟨_, le1, rfl, rs.putI hT, ?_⟩
    simp only [Rv]
    exact ⟨T, _, rfl, .inl upd_same, .cons rv_int (.cons (by simp only [Rv]) .nil)⟩
theorem gi_enum {elts : List Expr} {kk : Nat} {tpos : Pos} {e : Expr} {m : Env → M D} {p pos : Pos} (hK : X.K = B.K) (hg : Gl X "enumerate") (hm : X.mg "enumerate" = none) (he : GE B E X e m) (hs : isStar e = false) :
    GI B E X (.Tuple elts kk tpos) (.Call (.Name "enumerate" p) [e] [] pos) fun env => bnd (m env) mEn := by
  refine ⟨fun pins s σ H R I ⟨w, env, S, hw, rs, re, h⟩ => ?_⟩
  subst hw
  replace h : Po B E w (bnd (m env) mEn S) fun w1 _ it => ∀ J, ItOk B w1 it J → R J w1.H := h
  have ha := ga_cons he ga_nil (star_cons hs)
  have hA : gA B E (mCons m mNil) σ w.H fun vs H1 => ∃ w1 S1 d, w1.H = H1 ∧ RS B w1 S1 ∧ Rvs B w1 [d] vs ∧ Po B E w1 (mEn d S1) fun w2 _ it => ∀ J, ItOk B w2 it J → R J w2.H := by
    refine ⟨w, env, S, rfl, rs, re, ?_⟩
    cases e1 : m env S with
    | none => rw [bnd_none e1] at h; exact h.elim
    | some r =>
      cases r with
      | exc x S1 =>
        rw [bnd_exc e1] at h
        rw [show mCons m mNil env S = some (.exc x S1) by unfold mCons; rw [bnd_exc e1]]
        exact h
      | ok d S1 =>
        rw [bnd_ok e1] at h
        rw [show mCons m mNil env S = some (.ok [d] S1) by unfold mCons; rw [bnd_ok e1]; rfl]
        exact fun w1 l1 rs1 vs rvs => ⟨w1, S1, d, rfl, rs1, rvs, Po.le l1 h⟩
  refine PyProof.Rows.Call_ (ld_blt I hg hm boot_enumerate (PyProof.Rows.callWith_type1 (thn (ha.run pos pins s σ w.H _ I hA) fun us s1 ⟨vs, H1, I1, r1, w1, S1, d, ew, rs1, rvs, h1⟩ => ?_) (star_cons hs) rfl))
  subst ew
  obtain ⟨v, rfl, rv⟩ := rvs1 rvs
  obtain ⟨u, rfl, ru⟩ := vals1 r1
  unfold mEn at h1
  split at h1
  · rename_i i
    split at h1
    · rename_i ds el
      obtain ⟨hi, rfl⟩ := rv_ref rv
      obtain rfl : u = Value.ref _ := ru
      obtain ⟨zs, sq, q⟩ := lstAt_sq rs1 el
      rw [← hK] at sq
      obtain ⟨its, rv', p', hz⟩ := I1.list sq
      refine call_enumerate_list p'.isList fun h' he hit hsz hk => wpAny_pyIter_enum he ?_
      have I2 : L2.Inv X pins σ w1.H { s1 with heap := h' } := I1.kept (t' := s1.toks) hk
      refine ⟨s1.heap.objs.size + 1, [s1.heap.objs.size + 1, s1.heap.objs.size], _, _, w1.H, rfl, I2, turn_enum (w1.ρ i) (s1.heap.objs.size + 1) s1.heap.objs.size, ⟨⟨.none, he⟩, hit, Nat.succ_ne_self _⟩, fun b hb => ?_, ?_⟩
      · have hle : s1.heap.objs.size ≤ b := by
          rcases (show b = s1.heap.objs.size + 1 ∨ b = s1.heap.objs.size by simpa using hb) with z | z
          · rw [z]; exact Nat.le_succ _
          · rw [z]; exact Nat.le_refl _
        exact I1.fpOk hle (I1.hok.fresh hle)
      · rw [hK]
        exact Po.ret (S := S1) h1 rs1 _ (itOk_enl hi)
    · exact h1.elim
  · rename_i cs
    simp only [Rv] at rv
    subst rv
    obtain ⟨t, rfl⟩ := ru
    refine PySem.call_enumerate_str fun h' he hit hsz hk => wpAny_pyIter_enum he ?_
    have I2 : L2.Inv X pins σ w1.H { s1 with heap := h' } := I1.kept (t' := s1.toks) hk
    refine ⟨s1.heap.objs.size + 1, [s1.heap.objs.size + 1, s1.heap.objs.size], _, _, w1.H, rfl, I2, turn_enumS ⟨cs.toArray⟩ t (s1.heap.objs.size + 1) s1.heap.objs.size, ⟨⟨.none, he⟩, hit, Nat.succ_ne_self _⟩, fun b hb => ?_, ?_⟩
    · have hle : s1.heap.objs.size ≤ b := by
        rcases (show b = s1.heap.objs.size + 1 ∨ b = s1.heap.objs.size by simpa using hb) with z | z
        · rw [z]; exact Nat.le_succ _
        · rw [z]; exact Nat.le_refl _
      exact I1.fpOk hle (I1.hok.fresh hle)
    · exact Po.ret h1 rs1 _ itOk_ens
  · exact h1.elim
theorem itOk_zipL {w0 : Wd} {p q : Nat} (hp : p < w0.n) (hq : q < w0.n) : ItOk B w0 (.zip (.ref p) (.ref q)) (Itz B.K (w0.ρ p) (w0.ρ q)) := by
  intro w S i le rs
  unfold nextI seqI
  dsimp only
  cases e : lstAt S p with
  | none => trivial
  | some ds =>
    obtain ⟨vs, sq, q1⟩ := lstAt_sq rs e
    rw [le.ag p hp] at sq
    cases e2 : lstAt S q with
    | none =>
      dsimp only
      cases ds[i]? with
      | none => trivial
      | some _ => trivial
    | some es =>
      obtain ⟨us, sq2, q2⟩ := lstAt_sq rs e2
      rw [le.ag q hq] at sq2
      dsimp only
      cases ed : ds[i]? with
      | none =>
        refine ⟨vs, us, sq, sq2, .inl ?_⟩
        rw [q1.length]
        exact List.getElem?_eq_none_iff.mp ed
      | some d =>
        cases ee : es[i]? with
        | none =>
          refine ⟨vs, us, sq, sq2, .inr ?_⟩
          rw [q2.length]
          exact List.getElem?_eq_none_iff.mp ee
        | some d2 =>
          obtain ⟨v, ev, rv⟩ := q1.get ed
          obtain ⟨u, eu, ru⟩ := q2.get ee
          refine ⟨⟨vs, us, v, u, sq, sq2, ev, eu⟩, ?_⟩
          rintro x H' ⟨T, y, z, rfl, hT, rfl, hy, hz⟩
          have h1 := hy vs sq
          have h2 := hz us sq2
          rw [ev] at h1
          rw [eu] at h2
          cases h1
          cases h2
          have le1 : w.le (w.putI T (.tup [v, u])) := Wd.putI_le hT
          refine ⟨_, le1, rfl, rs.putI hT, ?_⟩
          simp only [Rv]
          exact ⟨T, _, rfl, .inl upd_same, .cons (rv.mono le1) (.cons (ru.mono le1) .nil)⟩
theorem itOk_zipT {w0 : Wd} {p q : Addr} {ds es : List D} {vs us : List V} (t : TupAt B w0 p vs) (t2 : TupAt B w0 q us) (q1 : Rvs B w0 ds vs) (q2 : Rvs B w0 es us) : ItOk B w0 (.zip (.tup ds) (.tup es)) (RZ.ItzT B.K p q) := by
  intro w S i le rs
  unfold nextI seqI
  dsimp only
  have sq := (t.mono le).sq
  have sq2 := (t2.mono le).sq
  cases ed : ds[i]? with
  | none =>
    refine ⟨vs, us, sq, sq2, .inl ?_⟩
    rw [q1.length]
    exact List.getElem?_eq_none_iff.mp ed
  | some d =>
    cases ee : es[i]? with
    | none =>
      refine ⟨vs, us, sq, sq2, .inr ?_⟩
      rw [q2.length]
      exact List.getElem?_eq_none_iff.mp ee
    | some d2 =>
      obtain ⟨v, ev, rv⟩ := q1.get ed
      obtain ⟨u, eu, ru⟩ := q2.get ee
      refine ⟨⟨vs, us, v, u, sq, sq2, ev, eu⟩, ?_⟩
      rintro x H' ⟨T, y, z, rfl, hT, rfl, hy, hz⟩
      have h1 := hy vs sq
      have h2 := hz us sq2
      rw [ev] at h1
      rw [eu] at h2
      cases h1
      cases h2
      have le1 : w.le (w.putI T (.tup [v, u])) := Wd.putI_le hT
      refine ⟨_, le1, rfl, rs.putI hT, ?_⟩
      simp only [Rv]
      exact ⟨T, _, rfl, .inl upd_same, .cons ((rv.mono le).mono le1) (.cons ((ru.mono le).mono le1) .nil)⟩
theorem gi_zip {elts : List Expr} {kk : Nat} {tpos : Pos} {e e2 : Expr} {m m2 : Env → M D} {p pos : Pos} (hK : X.K = B.K) (hg : Gl X "zip") (hm : X.mg "zip" = none) (he : GE B E X e m) (he2 : GE B E X e2 m2) (hs : isStar e = false) (hs2 : isStar e2 = false) :
    GI B E X (.Tuple elts kk tpos) (.Call (.Name "zip" p) [e, e2] [] pos) fun env => bnd (m env) fun d => bnd (m2 env) fun f => mZp d f := by
  have ha := ga_cons he (ga_cons he2 ga_nil (star_cons hs2)) (star_cons hs)
  refine PImono (RZ.pi_zipA hg hm ha (star_cons hs) (by rw [star_cons hs2]; rfl)) fun σ H R ⟨w, env, S, hw, rs, re, h⟩ => ?_
  refine ⟨w, env, S, hw, rs, re, ?_⟩
  have step : Po B E w (mCons m (mCons m2 mNil) env S) fun w1 S1 ds => ∃ d f, ds = [d, f] ∧ Po B E w1 (mZp d f S1) fun w2 _ it => ∀ J, ItOk B w2 it J → R J w2.H := by
    replace h : Po B E w (bnd (m env) (fun d => bnd (m2 env) fun f => mZp d f) S) fun w2 _ it => ∀ J, ItOk B w2 it J → R J w2.H := h
    cases e1 : m env S with
    | none => rw [bnd_none e1] at h; exact h.elim
    | some r =>
      cases r with
      | exc x S1 =>
        rw [bnd_exc e1] at h
        rw [show mCons m (mCons m2 mNil) env S = some (.exc x S1) by unfold mCons; rw [bnd_exc e1]]
        exact h
      | ok d S1 =>
        rw [bnd_ok e1] at h
        cases e2 : m2 env S1 with
        | none => rw [bnd_none e2] at h; exact h.elim
        | some r2 =>
          cases r2 with
          | exc x S2 =>
            rw [bnd_exc e2] at h
            rw [show mCons m (mCons m2 mNil) env S = some (.exc x S2) by
              have e3 : mCons m2 mNil env S1 = some (.exc x S2) := by
                unfold mCons
                rw [bnd_exc e2]
              show bnd (m env) (fun d => bnd (mCons m2 mNil env) fun ds => ret (d :: ds)) S = _
              rw [bnd_ok e1, bnd_exc e3]]
            exact h
          | ok f S2 =>
            rw [bnd_ok e2] at h
            rw [show mCons m (mCons m2 mNil) env S = some (.ok [d, f] S2) by
              have e3 : mCons m2 mNil env S1 = some (.ok [f] S2) := by
                unfold mCons
                rw [bnd_ok e2]
                rfl
              show bnd (m env) (fun d => bnd (mCons m2 mNil env) fun ds => ret (d :: ds)) S = _
              rw [bnd_ok e1, bnd_ok e3]
              rfl]
            exact fun w1 l1 _ => ⟨d, f, rfl, Po.le l1 h⟩
  refine step.imp fun w1 S1 ds l1 rs1 ⟨d, f, e1, h1⟩ vs rvs => ?_
  subst e1
  obtain ⟨v, u, rfl, rv, ru⟩ := rvs2 rvs
  unfold mZp at h1
  split at h1
  · rename_i i j
    split at h1
    · rename_i hc
      rw [Bool.and_eq_true] at hc
      obtain ⟨a, ea⟩ := Option.isSome_iff_exists.mp hc.1
      obtain ⟨b, eb⟩ := Option.isSome_iff_exists.mp hc.2
      obtain ⟨hi, rfl⟩ := rv_ref rv
      obtain ⟨hj, rfl⟩ := rv_ref ru
      obtain ⟨vs, sq, _⟩ := lstAt_sq rs1 ea
      obtain ⟨us, sq2, _⟩ := lstAt_sq rs1 eb
      exact ⟨_, _, vs, us, rfl, .inl ⟨by rw [hK]; exact sq, by rw [hK]; exact sq2, by rw [hK]; exact Po.ret (S := S1) h1 rs1 _ (itOk_zipL hi hj)⟩⟩
    · exact h1.elim
  · rename_i a b
    obtain ⟨pa, vs, rfl, t, q⟩ := rv_tup rv
    obtain ⟨pb, us, rfl, t2, q2⟩ := rv_tup ru
    refine ⟨_, _, vs, us, rfl, .inr ⟨by rw [hK]; exact t.sq, by rw [hK]; exact t2.sq, ?_⟩⟩
    rw [hK]
    exact Po.ret h1 rs1 _ (itOk_zipT t t2 q q2)
  · exact h1.elim
end
end G
end
section
/-! G24: soundness of the core, expressions. -/
namespace G
open PySem L2
section
variable {G : Gt} {B : Tb} {P : Nat → Option FI} {cal : Nat → List D → M D} {gd : Md} {CX : CXT} {k : Nat} {N : List Str} {sc : Scope} {E : XK} {X : Cx}
theorem gt_plain {e : Expr} {m : Env → M D} (p : Pl G B P cal gd CX k N sc E X) (h : plainT e = true) (he : GE B E X e m) : GT B E X e fun env => bnd (m env) mTru := by
  refine gt_tru p.cx.hK he fun whole => ?_
  cases e with
  | UnaryOp op x pos => cases op <;> first | rfl | cases h
  | BoolOp _ _ _ => cases h
  | IfExp _ _ _ _ => cases h
  | Compare _ _ _ _ => cases h
  | _ => rfl
theorem gt_stuck {e : Expr} : GT B E X e fun _ => stuck := ⟨fun _ _ _ _ _ _ ⟨_, _, _, _, _, _, h⟩ => h.elim⟩
theorem ge_stuck {e : Expr} : GE B E X e fun _ => stuck := ⟨fun _ _ _ _ _ _ ⟨_, _, _, _, _, _, h⟩ => h.elim⟩
theorem set_marks {e : Expr} {op : CmpOp} (h : notSet e = true) : behindInMarks op e = false := by
  cases e with
  | Set _ _ _ => cases h
  | _ => rfl
theorem set_fold {e : Expr} {env : PySem.Env} (h : notSet e = true) (x : Value) : foldedSetIterable e env x = pure x := by
  cases e with
  | Set _ _ _ => cases h
  | _ => rfl
theorem okC_v {d : D} {c : Const} {j : Nat} {pos : Pos} (h : okC d c = true) : GE B E X (.Constant c j pos) (mC d) := by
  unfold okC at h
  split at h
  · exact ge_c pe_non fun _ => rv_non
  · rename_i a b
    have h := of_decide_eq_true h
    subst h
    exact ge_c pe_bl fun _ => rv_bl
  · rename_i a b
    have h := of_decide_eq_true h
    subst h
    exact ge_c pe_int fun _ => rv_int
  · rename_i cs y
    have h := of_decide_eq_true h
    subst h
    exact ge_c pe_str fun _ => rv_str
  · cases h
theorem ge_glob {x : Str} {d : D} {v : V} {u : Value} {pos : Pos} (hg : Gl X x) (hm : X.mg x = some u) (r : RelV v u) (hd : (x == ("__debug__" : Str)) = false) (rv : ∀ w, Rv B w d v) : GE B E X (.Name x pos) (mC d) :=
  ge_c (pe_glob hg hm r hd) rv
theorem ge_bltn {x : Str} {d : D} {v : V} {u : Value} {pos : Pos} (hg : Gl X x) (hm : X.mg x = none) (hv : bootBuiltins x = some u) (r : RelV v u) (hn : x ≠ "__name__") (hd : (x == ("__debug__" : Str)) = false) (rv : ∀ w, Rv B w d v) : GE B E X (.Name x pos) (mC d) :=
  ge_c (pe_bltn hg hm hv r hn hd) rv
theorem ge_fun {b : BN} {x : Str} {y : Expr} {xs : List Expr} {ms : Env → M (List D)} {q pos : Pos} (p : Pl G B P cal gd CX k N sc E X) (e : x = b.name) (hf : G.fr b = true) (hg : Gl X x) (hd : (x == ("__debug__" : Str)) = false) (hst : (y :: xs).all (fun e => !isStar e) = true) (ha : GA B E X (y :: xs) ms)
    (hr : b.may gd = true) : GE B E X (.Call (.Name x q) (y :: xs) [] pos) fun env => bnd (ms env) (b.run G.T) := by
  subst e
  have hm := p.fr b hf
  have hK := p.cx.hK
  cases b with
  | abs => exact ge_callB abs_ok hg hm PyProof.Rows.boot_abs ha (by decide) hd hst
  | max => exact ge_callB (max_ok hK (p.cx.calm hr)) hg hm PyProof.Rows.boot_max ha (by decide) hd hst
  | min => exact ge_callB (min_ok hK (p.cx.calm hr)) hg hm PyProof.Rows.boot_min ha (by decide) hd hst
  | sum => exact ge_callB (sum_ok hK (p.cx.calm hr)) hg hm PyProof.Rows.boot_sum ha (by decide) hd hst
  | all => exact ge_callB (all_ok hK (p.cx.calm hr)) hg hm PyProof.Rows.boot_all ha (by decide) hd hst
  | any => exact ge_callB (any_ok hK (p.cx.calm hr)) hg hm PyProof.Rows.boot_any ha (by decide) hd hst
  | divmod => exact ge_callB divmod_ok hg hm PyProof.Rows.boot_divmod ha (by decide) hd hst
  | len => exact ge_callB (len_ok hK) hg hm (show bootBuiltins "len" = _ from by decide +kernel) ha (by decide) hd hst
  | repr => exact ge_callB (repr_ok hK (p.cx.hg hr) (by have := p.cx.un; omega)) hg hm PyProof.Rows.boot_repr ha (by decide) hd hst
  | isi =>
    have e : (G.T.isv : TC → TC → Option Bool) = B.isv := p.tab.2.2.2.1
    show GE B E X _ fun env => bnd (ms env) (mIsi G.T.isv)
    rw [e]
    exact ge_callB (isi_ok hK) hg hm PyProof.Rows.boot_isinstance ha (by decide) hd hst
  | int => exact ge_callTy int_ok hg hm PyProof.Rows.boot_int ha (by decide) hd hst
  | str => exact ge_callTy str_ok hg hm PyProof.Rows.boot_str ha (by decide) hd hst
  | tuple => exact ge_callTy (tuple_ok hK) hg hm PyProof.Rows.boot_tuple ha (by decide) hd hst
  | list => exact ge_callTy (list_ok hK) hg hm PyProof.Rows.boot_list ha (by decide) hd hst
  | _ => cases hr

/-- both readings -/
def Both (B : Tb) (E : XK) (X : Cx) (tr : Bool) (e : Expr) (m : Env → M D) (t : Env → M Bool) : Prop := GE B E X e m ∧ (tr = true → GT B E X e t)
theorem both_of {tr : Bool} {e : Expr} {m : Env → M D} (p : Pl G B P cal gd CX k N sc E X) (h : (!tr || plainT e) = true) (he : GE B E X e m) : Both B E X tr e m fun env => bnd (m env) mTru := by
  refine ⟨he, fun z => gt_plain p ?_ he⟩
  subst z
  simpa using h
theorem both_st {tr : Bool} {e : Expr} {m : Env → M D} (he : GE B E X e m) : Both B E X tr e m fun _ => stuck := ⟨he, fun _ => gt_stuck⟩
theorem typ_ok {x : Str} {pos : Pos} {t : Ty} (p : Pl G B P cal gd CX k N sc E X) (hg : Gl X x) (hd : (x == ("__debug__" : Str)) = false) (h : (match t with
      | .int => G.fr .int && decide (x = BN.int.name)
      | .bool => G.fr .bool && decide (x = BN.bool.name)
      | .str => G.fr .str && decide (x = BN.str.name)
      | .tuple => G.fr .tuple && decide (x = BN.tuple.name)
      | .list => G.fr .list && decide (x = BN.list.name)
      | .eV => G.fr .eV && decide (x = BN.eV.name)
      | .eL => G.fr .eL && decide (x = BN.eL.name)
      | .eA => G.fr .eA && decide (x = BN.eA.name)
      | .eT => G.fr .eT && decide (x = BN.eT.name)
      | .eAt => G.fr .eAt && decide (x = BN.eAt.name)
      | .eR => G.fr .eR && decide (x = BN.eR.name)
      | _ => false) = true) : GE B E X (.Name x pos) (mC (.ty t)) := by
  have r : ∀ w, Rv B w (.ty t) (.ty t.name) := fun w => by simp only [Rv]
  cases t with
  | int =>
    rw [Bool.and_eq_true] at h
    have e := of_decide_eq_true h.2
    subst e
    exact ge_bltn hg (p.fr _ h.1) PyProof.Rows.boot_int (v := .ty "int") rfl (by decide) hd r
  | bool =>
    rw [Bool.and_eq_true] at h
    have e := of_decide_eq_true h.2
    subst e
    exact ge_bltn hg (p.fr _ h.1) (u := .type "bool") (by decide +kernel) (v := .ty "bool") rfl (by decide) hd r
  | str =>
    rw [Bool.and_eq_true] at h
    have e := of_decide_eq_true h.2
    subst e
    exact ge_bltn hg (p.fr _ h.1) PyProof.Rows.boot_str (v := .ty "str") rfl (by decide) hd r
  | tuple =>
    rw [Bool.and_eq_true] at h
    have e := of_decide_eq_true h.2
    subst e
    exact ge_bltn hg (p.fr _ h.1) PyProof.Rows.boot_tuple (v := .ty "tuple") rfl (by decide) hd r
  | list =>
    rw [Bool.and_eq_true] at h
    have e := of_decide_eq_true h.2
    subst e
    exact ge_bltn hg (p.fr _ h.1) PyProof.Rows.boot_list (v := .ty "list") rfl (by decide) hd r
  | eV =>
    rw [Bool.and_eq_true] at h
    have e := of_decide_eq_true h.2
    subst e
    exact ge_bltn hg (p.fr _ h.1) (u := .type "ValueError") (by decide +kernel) (v := .ty "ValueError") rfl (by decide) hd r
  | eL =>
    rw [Bool.and_eq_true] at h
    have e := of_decide_eq_true h.2
    subst e
    exact ge_bltn hg (p.fr _ h.1) (u := .type "LookupError") (by decide +kernel) (v := .ty "LookupError") rfl (by decide) hd r
  | eA =>
    rw [Bool.and_eq_true] at h
    have e := of_decide_eq_true h.2
    subst e
    exact ge_bltn hg (p.fr _ h.1) (u := .type "ArithmeticError") (by decide +kernel) (v := .ty "ArithmeticError") rfl (by decide) hd r
  | eT =>
    rw [Bool.and_eq_true] at h
    have e := of_decide_eq_true h.2
    subst e
    exact ge_bltn hg (p.fr _ h.1) (u := .type "TypeError") (by decide +kernel) (v := .ty "TypeError") rfl (by decide) hd r
  | eAt =>
    rw [Bool.and_eq_true] at h
    have e := of_decide_eq_true h.2
    subst e
    exact ge_bltn hg (p.fr _ h.1) (u := .type "AttributeError") (by decide +kernel) (v := .ty "AttributeError") rfl (by decide) hd r
  | eR =>
    rw [Bool.and_eq_true] at h
    have e := of_decide_eq_true h.2
    subst e
    exact ge_bltn hg (p.fr _ h.1) (u := .type "RuntimeError") (by decide +kernel) (v := .ty "RuntimeError") rfl (by decide) hd r
  | _ => cases h
theorem gg_tup_any {es : List Expr} {kk : Nat} {pos : Pos} {r : List D → Env → M Env} (hK : X.K = B.K) (hc : X.calm = true) (h : GGs B E X es r) (h1 : es.all (fun e => !isStar e) = true) : GG B E X (.Tuple es kk pos) (tgT es.length r) := by
  have := gg_tup (k := kk) (pos := pos) hK hc h (asg_find h1)
  rw [asg_length h1] at this
  exact this
theorem ggo_tup_any {vs : List Nat} {es : List Expr} {kk : Nat} {pos : Pos} {r : List D → Env → M Env} (hK : X.K = B.K) (hc : X.calm = true) (h : GGso B E vs X es r) (h1 : es.all (fun e => !isStar e) = true) : GGo B E vs X (.Tuple es kk pos) (tgT es.length r) := by
  have := ggo_tup (k := kk) (pos := pos) hK hc h (asg_find h1)
  rw [asg_length h1] at this
  exact this
end
end G
end
section
/-! G25: soundness of the core, expressions: the induction. -/
namespace G
open PySem L2
section
variable {G : Gt} {B : Tb} {P : Nat → Option FI} {cal : Nat → List D → M D} {gd : Md} {CX : CXT} {k : Nat} {N : List Str}
theorem own_at' {N : List Str} : ∀ {own : List Nat}, (own.filterMap fun i => (N[i]?).map fun y => (y, i)).length = own.length → (own.filterMap fun i => (N[i]?).map fun y => (y, i)).map (·.2) = own
  | [], _ => rfl
  | i :: is, h => by
    rw [List.filterMap_cons] at h ⊢
    cases e : N[i]? with
    | none =>
      rw [e] at h
      have := List.length_filterMap_le (fun i => (N[i]?).map fun y => (y, i)) is
      simp only [Option.map_none, List.length_cons] at h
      omega
    | some y =>
      rw [e] at h
      simp only [Option.map_some, List.length_cons, Nat.add_right_cancel_iff] at h
      simp only [Option.map_some, List.map_cons]
      rw [own_at' h]
theorem own_at {own : List Nat} {N : List Str} (h : Nat.beq (own.filterMap fun i => (N[i]?).map fun y => (y, i)).length own.length = true) : (own.filterMap fun i => (N[i]?).map fun y => (y, i)).map (·.2) = own := own_at' (beq_t.mp h)
theorem gg_own {sc : Scope} {E : XK} {X : Cx} {i : Nat} {x : Str} {pos : Pos} (p : Pl G B P cal gd CX k N sc E X) (h1 : atN N i x = true) (h2 : locB sc x = true) : GG B E X (.Name x pos) (tgN i) :=
  gg_name (by exact p.cx.nd) (p.at_ h1) (p.own h2).1 (p.own h2).2
theorem Pl.room1 {sc : Scope} {E : XK} {X : Cx} (p : Pl G B P cal gd CX k N sc E X) : X.A.depth + 1 < recursionLimit := by
  have := p.cx.hr.dp
  omega
/-- {} -/
theorem ge_dc0 {E : XK} {X : Cx} {pos : Pos} : GE B E X (.Dict [] [] pos) fun _ => alloc (.dct []) :=
  PEmono pe_dnewK fun σ H Q ⟨w, env, S, hw, rs, re, h⟩ => by
    subst hw
    intro p hp
    have l := Wd.new_le (o := .dK []) hp
    refine h (w.new p (.dK [])) l (rs.new hp ⟨[], rfl, rfl⟩) (.ref p) ?_
    simp only [Rv]
    refine ⟨by rw [← rs.len]; exact Nat.lt_succ_self _, ?_⟩
    show V.ref p = .ref (if S.n = w.n then p else w.ρ S.n)
    rw [if_pos rs.len.symm]
mutual
theorem okE_s : ∀ (c : CE) {tr : Bool} {sc : Scope} {E : XK} {X : Cx} {e : Expr} (p : Pl G B P cal gd CX k N sc E X), okE G P N gd tr sc c e = true → Both B E X tr e (evE G.T P cal G.cst gd c) (evT G.T P cal G.cst gd c)
  | .var i, tr, sc, E, X, e, p, h => by
    simp only [okE, Bool.and_eq_true] at h
    obtain ⟨hp, h⟩ := h
    split at h
    · simp only [Bool.and_eq_true] at h
      obtain ⟨⟨h1, h2⟩, h3⟩ := h
      simp only [evE, evT]
      exact both_of p hp (ge_var (p.at_ h1) (p.hs.vis _ h2) (okN_1 h3) (okN_2 h3))
    · cases h
  | .con d, tr, sc, E, X, e, p, h => by
    simp only [okE, Bool.and_eq_true] at h
    obtain ⟨hp, h⟩ := h
    split at h
    · simp only [evE, evT]
      exact both_of p hp (okC_v h)
    · cases h
  | .glo j, tr, sc, E, X, e, p, h => by
    simp only [okE, Bool.and_eq_true] at h
    obtain ⟨hp, h⟩ := h
    split at h
    · simp only [Bool.and_eq_true] at h
      obtain ⟨⟨⟨h1, h2⟩, h3⟩, h4⟩ := h
      simp only [evE, evT]
      refine both_st ?_
      obtain ⟨d, ed⟩ := Option.isSome_iff_exists.mp h4
      obtain ⟨u, v, hm, r, rv⟩ := p.nK j _ d (nameIs_some h1) ed
      have e : mCst G.cst j = mC d := by
        funext env S
        unfold mCst mC ret
        rw [ed]
      rw [e]
      exact ge_glob (p.gl h2) hm r (okN_1 h3) rv
    · cases h
  | .fnv f, tr, sc, E, X, e, p, h => by
    simp only [okE, Bool.and_eq_true] at h
    obtain ⟨hp, h⟩ := h
    split at h
    · simp only [Bool.and_eq_true] at h
      obtain ⟨⟨h1, h2⟩, h3⟩ := h
      simp only [evE, evT]
      exact both_st (ge_glob (p.gl h2) (p.nF f _ (nameIs_some h1)) (v := .ref (B.fa f)) rfl (okN_1 h3) fun w => by simp only [Rv])
    · cases h
  | .clv f, tr, sc, E, X, e, p, h => by
    simp only [okE, Bool.and_eq_true] at h
    obtain ⟨hp, h⟩ := h
    split at h
    · simp only [Bool.and_eq_true] at h
      obtain ⟨⟨h1, h2⟩, h3⟩ := h
      simp only [evE, evT]
      exact both_st (ge_glob (p.gl h2) (p.nC f _ (nameIs_some h1)) (v := .ref (B.ca f)) rfl (okN_1 h3) fun w => by simp only [Rv])
    · cases h
  | .typ t, tr, sc, E, X, e, p, h => by
    simp only [okE, Bool.and_eq_true] at h
    obtain ⟨hp, h⟩ := h
    split at h
    · simp only [Bool.and_eq_true] at h
      obtain ⟨⟨h1, h2⟩, h3⟩ := h
      simp only [evE, evT]
      exact both_st (typ_ok p (p.gl h1) (okN_1 h2) h3)
    · cases h
  | .bin o a b, tr, sc, E, X, e, p, h => by
    simp only [okE, Bool.and_eq_true] at h
    obtain ⟨hp, h⟩ := h
    split at h
    · simp only [Bool.and_eq_true, decide_eq_true_eq] at h
      obtain ⟨⟨h1, h2⟩, h3⟩ := h
      subst h1
      simp only [evE, evT]
      exact both_st (ge_op (bo_ok p.cx o) (okE_s a p h2).1 (okE_s b p h3).1)
    · cases h
  | .neg a, tr, sc, E, X, e, p, h => by
    simp only [okE, Bool.and_eq_true] at h
    obtain ⟨hp, h⟩ := h
    split at h
    · simp only [Bool.and_eq_true, decide_eq_true_eq] at h
      obtain ⟨h1, h2⟩ := h
      subst h1
      simp only [evE, evT]
      exact both_st (ge_un neg_ok (okE_s a p h2).1)
    · cases h
  | .not a, tr, sc, E, X, e, p, h => by
    simp only [okE] at h
    split at h
    · simp only [Bool.and_eq_true, decide_eq_true_eq] at h
      obtain ⟨h1, h2⟩ := h
      subst h1
      simp only [evE, evT]
      have ih := okE_s a p h2
      exact ⟨ge_not p.cx.hK ih.1, fun z => gt_not (ih.2 z)⟩
    · cases h
  | .boo b es, tr, sc, E, X, e, p, h => by
    simp only [okE] at h
    split at h
    · rename_i op xs pos
      simp only [Bool.and_eq_true, decide_eq_true_eq] at h
      obtain ⟨h1, h2⟩ := h
      subst h1
      simp only [evE, evT]
      have ih := okB_s es (pos := pos) p b h2
      exact ⟨ih.1, fun z => (ih.2 z).pt⟩
    · cases h
  | .ite c a b, tr, sc, E, X, e, p, h => by
    simp only [okE] at h
    split at h
    · simp only [Bool.and_eq_true] at h
      obtain ⟨⟨h1, h2⟩, h3⟩ := h
      simp only [evE, evT]
      have ih := okE_s a p h2
      have jh := okE_s b p h3
      have ch := (okE_s c p h1).2 rfl
      exact ⟨ge_ite ch ih.1 jh.1, fun z => gt_ite ch (ih.2 z) (jh.2 z)⟩
    · cases h
  | .cmp o a b, tr, sc, E, X, e, p, h => by
    simp only [okE] at h
    split at h
    · simp only [Bool.and_eq_true, decide_eq_true_eq] at h
      obtain ⟨⟨⟨h1, h2⟩, h3⟩, h4⟩ := h
      subst h1
      simp only [evE, evT]
      have ih := (okE_s a p h2).1
      have jh := (okE_s b p h3).1
      exact ⟨ge_cmp (co_ok p.cx o) ih jh (set_marks h4), fun _ => gt_cmp (co_ok p.cx o) ih jh (set_marks h4)⟩
    · cases h
  | .chn o q a b c, tr, sc, E, X, e, p, h => by
    simp only [okE] at h
    split at h
    · simp only [Bool.and_eq_true, decide_eq_true_eq] at h
      obtain ⟨⟨⟨⟨⟨h1, h2⟩, h3⟩, h4⟩, h5⟩, h6⟩ := h
      subst h1
      subst h2
      simp only [evE, evT]
      have ih := (okE_s a p h3).1
      have jh := (okE_s b p h4).1
      have kh := (okE_s c p h5).1
      exact ⟨ge_chain (co_ok p.cx o) (co_ok p.cx q) ih jh kh (set_marks h6), fun _ => gt_chain (co_ok p.cx o) (co_ok p.cx q) ih jh kh (set_marks h6)⟩
    · cases h
  | .tup es, tr, sc, E, X, e, p, h => by
    simp only [okE, Bool.and_eq_true] at h
    obtain ⟨hp, h⟩ := h
    split at h
    · simp only [evE, evT]
      exact both_st (ge_tup (okL_s es p h))
    · cases h
  | .lst es, tr, sc, E, X, e, p, h => by
    simp only [okE, Bool.and_eq_true] at h
    obtain ⟨hp, h⟩ := h
    split at h
    · simp only [evE, evT]
      exact both_st (ge_lst (okL_s es p h))
    · cases h
  | .idx a b, tr, sc, E, X, e, p, h => by
    simp only [okE, Bool.and_eq_true] at h
    obtain ⟨hp, h⟩ := h
    split at h
    · rename_i x y _
      simp only [Bool.and_eq_true] at h
      obtain ⟨⟨h1, h2⟩, h3⟩ := h
      simp only [evE, evT]
      refine both_of p hp (ge_idx p.cx.hK (okE_s a p h2).1 (okE_s b p h3).1 fun o i => ?_)
      cases y with
      | Slice _ _ _ _ => cases h1
      | _ => rfl
    · cases h
  | .slc a lo hi, tr, sc, E, X, e, p, h => by
    simp only [okE, Bool.and_eq_true] at h
    obtain ⟨hp, h⟩ := h
    split at h
    · simp only [Bool.and_eq_true] at h
      obtain ⟨⟨h1, h2⟩, h3⟩ := h
      simp only [evE, evT]
      exact both_st (ge_slice p.cx.hK (okE_s a p h1).1 (okP_s lo p h2) (okP_s hi p h3))
    · cases h
  | .att a f, tr, sc, E, X, e, p, h => by
    simp only [okE, Bool.and_eq_true] at h
    obtain ⟨hp, h⟩ := h
    split at h
    · simp only [Bool.and_eq_true, decide_eq_true_eq] at h
      obtain ⟨⟨h1, h2⟩, h3⟩ := h
      simp only [evE, evT]
      rw [p.tab.1, p.tab.2.1, p.tab.2.2.2.2]
      exact both_of p hp (ge_attr p.cx ((p.nm f).trans h1) (okE_s a p h2).1 (base_ok h3))
    · cases h
  | .call f n es kn ks, tr, sc, E, X, e, p, h => by
    simp only [okE, Bool.and_eq_true] at h
    obtain ⟨hp, h⟩ := h
    split at h
    · rename_i x px xs kws pos
      simp only [Bool.and_eq_true, decide_eq_true_eq] at h
      obtain ⟨⟨⟨⟨⟨⟨⟨⟨⟨h1, h2⟩, h3⟩, h4⟩, h5⟩, h6⟩, h7⟩, h8⟩, h9⟩, h10⟩ := h
      simp only [evE, evT]
      obtain ⟨fi, ef⟩ := Option.isSome_iff_exists.mp h7
      rw [ef]
      have ih := okL_s es p h8
      have jh := okK_s ks p h9
      cases xs with
      | nil =>
        simp only [Bool.and_eq_true, beq_t] at h10
        obtain ⟨e1, e2⟩ := h10
        subst e1
        cases es with
        | nil => exact both_of p hp (ge_callP0 p.cx p.hx ef (p.gl h2) (p.nF f _ (nameIs_some h1)) (okN_1 h3) h5 h6 jh)
        | cons _ _ => cases e2
        | star _ _ => cases e2
      | cons y ys => exact both_of p hp (ge_callP1 p.cx p.hx ef (p.gl h2) (p.nF f _ (nameIs_some h1)) (okN_1 h3) h4 h5 h6 ih jh)
    · cases h
  | .cav i n es, tr, sc, E, X, e, p, h => by
    simp only [okE, Bool.and_eq_true] at h
    obtain ⟨hp, h⟩ := h
    split at h
    · rename_i x px xs pos
      simp only [Bool.and_eq_true, beq_t] at h
      obtain ⟨⟨⟨⟨⟨h1, h2⟩, h3⟩, h4⟩, h5⟩, h6⟩ := h
      subst h5
      simp only [evE, evT]
      have ih := okL_s es p h6
      cases xs with
      | nil =>
        cases es with
        | nil =>
          simp only [evL]
          exact both_of p hp (ge_callV0 p.cx p.hx (p.at_ h1) (p.hs.vis _ h2) (okN_1 h3) (okN_2 h3))
        | cons _ _ => simp [okL] at h6
        | star _ _ => simp [okL] at h6
      | cons y ys => exact both_of p hp (ge_callV1 p.cx p.hx (p.at_ h1) (p.hs.vis _ h2) (okN_1 h3) (okN_2 h3) h4 ih)
    · cases h
  | .mth a m n es, tr, sc, E, X, e, p, h => by
    simp only [okE, Bool.and_eq_true] at h
    obtain ⟨hp, h⟩ := h
    split at h
    · rename_i o x ap xs pos
      simp only [Bool.and_eq_true, decide_eq_true_eq, beq_t] at h
      obtain ⟨⟨⟨⟨⟨⟨⟨⟨h1, h2⟩, h3⟩, h4⟩, h5⟩, h6⟩, h7⟩, h8⟩, hcm⟩ := h
      subst h6
      have ih := okL_s es p h8
      have jh := (okE_s a p h7).1
      simp only [evE, evT]
      have e : G.T.mt = B.mt := p.tab.2.1
      rw [e]
      cases xs with
      | nil =>
        cases es with
        | nil =>
          simp only [evL]
          exact both_of p hp (ge_mth0 p.cx hcm p.hx ((p.nm m).trans h1) jh h2 h5)
        | cons _ _ => simp [okL] at h8
        | star _ _ => simp [okL] at h8
      | cons y ys => exact both_of p hp (ge_mth1 p.cx hcm p.hx ((p.nm m).trans h1) jh ih h2 h3 h4 h5)
    · cases h
  | .mak c n es kn ks, tr, sc, E, X, e, p, h => by
    simp only [okE, Bool.and_eq_true] at h
    obtain ⟨hp, h⟩ := h
    split at h
    · rename_i x px xs kws pos
      simp only [Bool.and_eq_true, decide_eq_true_eq] at h
      obtain ⟨⟨⟨⟨⟨⟨⟨⟨⟨⟨h1, h2⟩, h3⟩, h4⟩, h5⟩, h6⟩, h7⟩, h8⟩, h9⟩, h10⟩, hcm⟩ := h
      have e : G.T.ini = B.ini := p.tab.2.2.1
      simp only [evE, evT]
      cases ei : G.T.ini c with
      | none => rw [ei] at h9; cases h9
      | some f =>
        rw [ei] at h9
        obtain ⟨fi, ef⟩ := Option.isSome_iff_exists.mp h9
        dsimp only
        rw [ef]
        have ih := okL_s es p h7
        have jh := okK_s ks p h8
        rw [e] at ei
        cases xs with
        | nil =>
          simp only [Bool.and_eq_true, beq_t] at h10
          obtain ⟨e1, e2⟩ := h10
          subst e1
          cases es with
          | nil => exact both_st (ge_make0 p.cx hcm p.hx ei ef (p.gl h2) (p.nC c _ (nameIs_some h1)) (okN_1 h3) h5 h6 jh)
          | cons _ _ => cases e2
          | star _ _ => cases e2
        | cons y ys => exact both_st (ge_make1 p.cx hcm p.hx ei ef (p.gl h2) (p.nC c _ (nameIs_some h1)) (okN_1 h3) h4 h5 h6 ih jh)
    · cases h
  | .mkx c n es kn ks, tr, sc, E, X, e, p, h => by
    simp only [okE, Bool.and_eq_true] at h
    obtain ⟨hp, h⟩ := h
    split at h
    · rename_i x px xs kws pos
      simp only [Bool.and_eq_true, decide_eq_true_eq] at h
      obtain ⟨⟨⟨⟨⟨⟨⟨⟨h1, h2⟩, h3⟩, h4⟩, h5⟩, h6⟩, h7⟩, h8⟩, h9⟩ := h
      simp only [evE, evT]
      refine both_st ?_
      cases em : G.T.xm c with
      | some fi =>
        dsimp only
        have F := p.xcg c fi em
        have ih := okL_s es p h7
        have jh := okK_s ks p h8
        cases xs with
        | nil =>
          cases es with
          | nil =>
            simp only [evL]
            exact ge_mkx0 F p.room1 (p.gl h2) (p.nC c _ (nameIs_some h1)) (okN_1 h3) h5 h6 jh
          | cons _ _ => simp [okL] at h7
          | star _ _ => simp [okL] at h7
        | cons y ys => exact ge_mkx1 F p.room1 (p.gl h2) (p.nC c _ (nameIs_some h1)) (okN_1 h3) h4 h5 h6 ih jh
      | none =>
        dsimp only
        rw [em] at h9
        simp only [Option.isSome_none, Bool.false_or, Bool.and_eq_true] at h9
        obtain ⟨⟨h10, h11⟩, h12⟩ := h9
        rw [h10]
        dsimp only
        cases xs with
        | cons _ _ => cases h11
        | nil =>
          cases kws with
          | cons _ _ => cases h12
          | nil => exact ge_x0 (p.x0g c h10) (p.gl h2) (p.nC c _ (nameIs_some h1)) (okN_1 h3)
    · cases h
  | .dc0, tr, sc, E, X, e, p, h => by
    simp only [okE, Bool.and_eq_true] at h
    obtain ⟨hp, h⟩ := h
    split at h
    · simp only [evE, evT]
      exact both_st ge_dc0
    · cases h
  | .fun_ b es, tr, sc, E, X, e, p, h => by
    simp only [okE, Bool.and_eq_true] at h
    obtain ⟨hp, h⟩ := h
    split at h
    · simp only [Bool.and_eq_true, decide_eq_true_eq] at h
      obtain ⟨⟨⟨⟨⟨⟨h1, h2⟩, h3⟩, h4⟩, h5⟩, h6⟩, h7⟩ := h
      simp only [evE, evT]
      exact both_of p hp (ge_fun p h1 h2 (p.gl h3) (okN_1 h4) (by simpa using h5) (okL_s es p h6) h7)
    · cases h
  | .bmt a m es, tr, sc, E, X, e, p, h => by
    simp only [okE, Bool.and_eq_true] at h
    obtain ⟨hp, h⟩ := h
    split at h
    · rename_i o x ap xs pos
      simp only [Bool.and_eq_true, decide_eq_true_eq] at h
      obtain ⟨⟨⟨⟨⟨⟨⟨h1, h2⟩, h3⟩, h4⟩, h5⟩, h6⟩, h7⟩, h8⟩ := h
      subst h1
      have ih := okL_s es p h7
      have jh := (okE_s a p h6).1
      obtain ⟨b1, b2, b3, b4⟩ := bm_ok (E := E) p.cx m
      simp only [evE, evT]
      cases xs with
      | nil =>
        cases es with
        | nil =>
          simp only [evL]
          exact both_st (ge_bm0 p.cx.hK (bm_ty m) b1 b2 b3 b4 jh h2 h5)
        | cons _ _ => simp [okL] at h7
        | star _ _ => simp [okL] at h7
      | cons y ys => exact both_st (ge_bm1 p.cx.hK (bm_ty m) b1 b2 b3 b4 jh ih h2 h3 h4 h5)
    · cases h
  | .lc elt g it c own, tr, sc, E, X, e, p, h => by
    simp only [okE, Bool.and_eq_true] at h
    obtain ⟨hp, h⟩ := h
    split at h
    · rename_i x g0 sc2 pos
      obtain ⟨t, i, fs, a⟩ := g0
      simp only [Bool.and_eq_true] at h
      obtain ⟨⟨⟨⟨⟨⟨⟨⟨h0, h1⟩, h2⟩, h3⟩, h4⟩, h5⟩, h6⟩, h7⟩, hcm⟩ := h
      have h0 := of_decide_eq_true h0
      subst h0
      have hb := blkOk_by h1
      have ho := own_at h2
      have ok2 : BlkOk X.N X.env.scope sc2 (own.filterMap fun i => (N[i]?).map fun y => (y, i)) := by
        rw [p.hN]
        exact ⟨hb.kind, hb.uniq, hb.ix, fun y hy e => p.hs.fr _ (hb.free y hy e), hb.own⟩
      simp only [evE, evT]
      refine both_st ?_
      have := ge_lc (n := turns) (B := B) (E := E) (elt := x) (tg := t) (iter := i) (ifs := fs) (scope := sc2) (own := own.filterMap fun i => (N[i]?).map fun y => (y, i)) (pos := pos) (mi := evI G.T P cal G.cst gd it) (g := evG G.T P cal G.cst gd g) (t := evC G.T P cal G.cst gd c) (e := evE G.T P cal G.cst gd elt) (p.cx.calm hcm) p.cx.nd (okI_s it p h3) ok2
        (fun s H C cl fp => by rw [ho]; exact okG_o g (p.blk sc2 s H C cl fp) h4)
        (fun s H C cl fp => okCs_s c (p.blk sc2 s H C cl fp) h7)
        (fun s H C cl fp => (okE_s elt (p.blk sc2 s H C cl fp) h6).1) (set_fold h5)
      rw [ho] at this
      exact this
    · cases h
  | .unk, tr, sc, E, X, e, p, h => by
    simp only [evE, evT]
    exact both_st ge_stuck
theorem okCs_s : ∀ (c : CP) {sc : Scope} {E : XK} {X : Cx} {fs : List Expr} (p : Pl G B P cal gd CX k N sc E X), okCs G P N gd sc c fs = true → GTs B E X fs (evC G.T P cal G.cst gd c)
  | .no, sc, E, X, fs, p, h => by
    simp only [okCs] at h
    cases fs with
    | nil => simp only [evC]; exact gts_nil
    | cons _ _ => cases h
  | .yes c, sc, E, X, fs, p, h => by
    simp only [okCs] at h
    split at h
    · simp only [evC]
      exact gts_one ((okE_s c p h).2 rfl)
    · cases h
theorem okB_s : ∀ (es : CL) {tr : Bool} {sc : Scope} {E : XK} {X : Cx} {xs : List Expr} {pos : Pos} (p : Pl G B P cal gd CX k N sc E X) (b : Bool), okB' G P N gd tr sc es xs = true →
    GE B E X (.BoolOp (if b then .And else .Or) xs pos) (evB G.T P cal G.cst gd b es) ∧ (tr = true → GW B E X (.BoolOp (if b then .And else .Or) xs pos) (evBT G.T P cal G.cst gd b es))
  | .nil, tr, sc, E, X, xs, pos, p, b, h => by simp [okB'] at h
  | .star _ _, tr, sc, E, X, xs, pos, p, b, h => by simp [okB'] at h
  | .cons e es, tr, sc, E, X, xs, pos, p, b, h => by
    cases xs with
    | nil => simp [okB'] at h
    | cons x xs =>
      simp only [okB', Bool.and_eq_true, Bool.or_eq_true] at h
      obtain ⟨h1, h2⟩ := h
      have ih := okE_s e p h1
      cases es with
      | nil =>
        rcases h2 with h2 | h2
        · cases xs with
          | nil =>
            simp only [evB, evBT]
            refine ⟨pe_one ih.1, fun z => ?_⟩
            cases b
            · exact pw_or1 (ih.2 z)
            · exact pw_and1 (ih.2 z)
          | cons _ _ => simp at h2
        · simp [okB'] at h2
      | star _ _ =>
        rcases h2 with h2 | h2
        · simp [isNil] at h2
        · simp [okB'] at h2
      | cons e2 es2 =>
        rcases h2 with h2 | h2
        · simp [isNil] at h2
        · cases xs with
          | nil => simp [okB'] at h2
          | cons y ys =>
            have jh := okB_s (.cons e2 es2) (pos := pos) p b h2
            cases b
            · have j1 : GE B E X (.BoolOp .Or (y :: ys) pos) _ := jh.1
              refine ⟨?_, fun z => ?_⟩
              · rw [evB]
                exact ge_or p.cx.hK ih.1 j1
              · rw [evBT]
                exact gw_or (ih.2 z) (jh.2 z)
            · have j1 : GE B E X (.BoolOp .And (y :: ys) pos) _ := jh.1
              refine ⟨?_, fun z => ?_⟩
              · rw [evB]
                exact ge_and p.cx.hK ih.1 j1
              · rw [evBT]
                exact gw_and (ih.2 z) (jh.2 z)
theorem okL_s : ∀ (es : CL) {sc : Scope} {E : XK} {X : Cx} {xs : List Expr} (p : Pl G B P cal gd CX k N sc E X), okL G P N gd sc es xs = true → GA B E X xs (evL G.T P cal G.cst gd es)
  | .nil, sc, E, X, xs, p, h => by
    cases xs with
    | nil => simp only [evL]; exact ga_nil
    | cons _ _ => simp [okL] at h
  | .cons e es, sc, E, X, xs, p, h => by
    cases xs with
    | nil => simp [okL] at h
    | cons x xs =>
      simp only [okL, Bool.and_eq_true, Bool.not_eq_true'] at h
      simp only [evL]
      exact ga_cons (okE_s e p h.1.2).1 (okL_s es p h.2) (star_cons h.1.1)
  | .star e es, sc, E, X, xs, p, h => by
    cases xs with
    | nil => simp [okL] at h
    | cons x xs =>
      simp only [okL] at h
      split at h
      · simp only [Bool.and_eq_true] at h
        simp only [evL]
        exact ga_star p.cx.hK (okE_s e p h.1).1 (okL_s es p h.2)
      · cases h
theorem okK_s : ∀ (es : CL) {sc : Scope} {E : XK} {X : Cx} {xs : List Keyword} (p : Pl G B P cal gd CX k N sc E X), okK G P N gd sc es xs = true → PK X xs (gA B E (evL G.T P cal G.cst gd es))
  | .nil, sc, E, X, xs, p, h => by
    cases xs with
    | nil => simp only [evL]; exact gk_nil
    | cons _ _ => simp [okK] at h
  | .cons e es, sc, E, X, xs, p, h => by
    cases xs with
    | nil => simp [okK] at h
    | cons x xs =>
      obtain ⟨a, v, q⟩ := x
      simp only [okK, Bool.and_eq_true] at h
      simp only [evL]
      exact gk_cons (okE_s e p h.1).1 (okK_s es p h.2)
  | .star e es, sc, E, X, xs, p, h => by simp [okK] at h
theorem okP_s : ∀ (c : CP) {sc : Scope} {E : XK} {X : Cx} {o : Option Expr} (p : Pl G B P cal gd CX k N sc E X), okP G P N gd sc c o = true → GO B E X o (evP G.T P cal G.cst gd c)
  | .no, sc, E, X, o, p, h => by
    cases o with
    | none => simp only [evP]; exact go_none
    | some _ => simp [okP] at h
  | .yes e, sc, E, X, o, p, h => by
    cases o with
    | none => simp [okP] at h
    | some x =>
      simp only [okP] at h
      simp only [evP]
      exact go_some (okE_s e p h).1
theorem okI_s : ∀ (c : CI) {sc : Scope} {E : XK} {X : Cx} {t x : Expr} (p : Pl G B P cal gd CX k N sc E X), okI G P N gd sc c t x = true → GI B E X t x (evI G.T P cal G.cst gd c)
  | .any e, sc, E, X, t, x, p, h => by
    simp only [okI] at h
    simp only [evI]
    exact gi_any p.cx.hK (okE_s e p h).1
  | .rng1 a, sc, E, X, t, x, p, h => by
    simp only [okI] at h
    split at h
    · simp only [Bool.and_eq_true, decide_eq_true_eq, Bool.not_eq_true'] at h
      obtain ⟨⟨⟨⟨h1, h2⟩, h3⟩, h4⟩, h5⟩ := h
      subst h1
      simp only [evI]
      exact gi_range1 (p.gl h3) (p.fr _ h2) (ga_cons (okE_s a p h5).1 ga_nil (star_cons h4)) (star_cons h4)
    · cases h
  | .rng2 a b, sc, E, X, t, x, p, h => by
    simp only [okI] at h
    split at h
    · simp only [Bool.and_eq_true, decide_eq_true_eq, Bool.not_eq_true'] at h
      obtain ⟨⟨⟨⟨⟨⟨h1, h2⟩, h3⟩, h4⟩, h5⟩, h6⟩, h7⟩ := h
      subst h1
      simp only [evI]
      exact gi_range2 (p.gl h3) (p.fr _ h2) (ga_cons (okE_s a p h6).1 (ga_cons (okE_s b p h7).1 ga_nil (star_cons h5)) (star_cons h4)) (by rw [star_cons h4, star_cons h5]; rfl) (star_cons h5)
    · cases h
  | .enum e, sc, E, X, t, x, p, h => by
    unfold okI at h
    split at h
    · simp only [Bool.and_eq_true, decide_eq_true_eq, Bool.not_eq_true'] at h
      obtain ⟨⟨⟨⟨h1, h2⟩, h3⟩, h4⟩, h5⟩ := h
      subst h1
      simp only [evI]
      exact gi_enum p.cx.hK (p.gl h3) (p.fr _ h2) (okE_s e p h5).1 h4
    · cases h
  | .zip a b, sc, E, X, t, x, p, h => by
    unfold okI at h
    split at h
    · simp only [Bool.and_eq_true, decide_eq_true_eq, Bool.not_eq_true'] at h
      obtain ⟨⟨⟨⟨⟨⟨h1, h2⟩, h3⟩, h4⟩, h5⟩, h6⟩, h7⟩ := h
      subst h1
      simp only [evI]
      exact gi_zip p.cx.hK (p.gl h3) (p.fr _ h2) (okE_s a p h6).1 (okE_s b p h7).1 h4 h5
    · cases h
theorem okG_s : ∀ (c : CT) {sc : Scope} {E : XK} {X : Cx} {t : Expr} (p : Pl G B P cal gd CX k N sc E X), okG G P N gd sc none c t = true → GG B E X t (evG G.T P cal G.cst gd c)
  | .nm i, sc, E, X, t, p, h => by
    simp only [okG] at h
    split at h
    · simp only [Bool.and_eq_true] at h
      simp only [evG]
      exact gg_own p h.1.1 h.1.2
    · cases h
  | .tp n ts, sc, E, X, t, p, h => by
    simp only [okG] at h
    split at h
    · simp only [Bool.and_eq_true, beq_t] at h
      obtain ⟨⟨⟨h1, h2⟩, h3⟩, hcm⟩ := h
      subst h2
      simp only [evG]
      exact gg_tup_any p.cx.hK (p.cx.calm hcm) (okGs_s ts p h3) h1
    · cases h
  | .ix a b, sc, E, X, t, p, h => by
    simp only [okG] at h
    split at h
    · rename_i x y _
      simp only [Bool.and_eq_true] at h
      obtain ⟨⟨⟨h0, h1⟩, h2⟩, h3⟩ := h
      simp only [evG]
      refine gg_sub (okE_s a p h2).1 (okE_s b p h3).1 fun v => ?_
      cases y with
      | Slice _ _ _ _ => cases h1
      | _ => rfl
    · cases h
  | .fd a f, sc, E, X, t, p, h => by
    simp only [okG] at h
    split at h
    · simp only [Bool.and_eq_true, decide_eq_true_eq] at h
      obtain ⟨⟨h0, h1⟩, h2⟩ := h
      simp only [evG]
      rw [p.tab.1]
      exact gg_fld p.cx.hK ((p.nm f).trans h1) (okE_s a p h2).1
    · cases h
theorem okGs_s : ∀ (c : CTs) {sc : Scope} {E : XK} {X : Cx} {ts : List Expr} (p : Pl G B P cal gd CX k N sc E X), okGs G P N gd sc none c ts = true → GGs B E X ts (evGs G.T P cal G.cst gd c)
  | .nil, sc, E, X, ts, p, h => by
    cases ts with
    | nil => simp only [evGs]; exact ggs_nil
    | cons _ _ => simp [okGs] at h
  | .cons t ts', sc, E, X, ts, p, h => by
    cases ts with
    | nil => simp [okGs] at h
    | cons x xs =>
      simp only [okGs, Bool.and_eq_true, Bool.not_eq_true'] at h
      simp only [evGs]
      exact ggs_cons (okG_s t p h.1.2) (okGs_s ts' p h.2) (by rw [asg_cons h.1.1]; rfl)
theorem okG_o : ∀ (c : CT) {own : List Nat} {sc : Scope} {E : XK} {X : Cx} {t : Expr} (p : Pl G B P cal gd CX k N sc E X), okG G P N gd sc (some own) c t = true → GGo B E own X t (evG G.T P cal G.cst gd c)
  | .nm i, own, sc, E, X, t, p, h => by
    simp only [okG] at h
    split at h
    · simp only [Bool.and_eq_true, decide_eq_true_eq] at h
      simp only [evG]
      exact ggo_name (by exact p.cx.nd) (p.at_ h.1.1) (p.own h.1.2).1 (p.own h.1.2).2 h.2
    · cases h
  | .tp n ts, own, sc, E, X, t, p, h => by
    simp only [okG] at h
    split at h
    · simp only [Bool.and_eq_true, beq_t] at h
      obtain ⟨⟨⟨h1, h2⟩, h3⟩, hcm⟩ := h
      subst h2
      simp only [evG]
      exact ggo_tup_any p.cx.hK (p.cx.calm hcm) (okGs_o ts p h3) h1
    · cases h
  | .ix a b, own, sc, E, X, t, p, h => by
    simp only [okG] at h
    split at h
    · simp at h
    · cases h
  | .fd a f, own, sc, E, X, t, p, h => by
    simp only [okG] at h
    split at h
    · simp at h
    · cases h
theorem okGs_o : ∀ (c : CTs) {own : List Nat} {sc : Scope} {E : XK} {X : Cx} {ts : List Expr} (p : Pl G B P cal gd CX k N sc E X), okGs G P N gd sc (some own) c ts = true → GGso B E own X ts (evGs G.T P cal G.cst gd c)
  | .nil, own, sc, E, X, ts, p, h => by
    cases ts with
    | nil => simp only [evGs]; exact ggso_nil
    | cons _ _ => simp [okGs] at h
  | .cons t ts', own, sc, E, X, ts, p, h => by
    cases ts with
    | nil => simp [okGs] at h
    | cons x xs =>
      simp only [okGs, Bool.and_eq_true, Bool.not_eq_true'] at h
      simp only [evGs]
      exact ggso_cons (okG_o t p h.1.2) (okGs_o ts' p h.2) (by rw [asg_cons h.1.1]; rfl)
end
end
end G
end
section
/-! G26: statements: the check, the induction. -/
namespace G
open PySem L2
/-- the stores that are exchanged -/
def swp (sc : Scope) (ts vs : List Expr) : Option (Option (List Str)) :=
  let line := (ts.head?.map (·.pos.line)).getD 0
  let names := ts.filterMap fun
    | .Name id pos => if sc.names.lookup id == some .local && pos.line == line then some id else none
    | _ => none
  if (!(ts.length == 2 || ts.length == 3) || vs.length != ts.length || false) = true then some none
  else if (vs.any fun | .Starred .. => true | _ => false) = true then some none
  else if (names.length != ts.length || names.eraseDups.length != names.length) = true then some none
  else if (vs.all (foldedForSure 8)) = true then some none
  else if (vs.all (constantsAlone 8)) = true then none
  else some (some names)
theorem swp_ok {sc : Scope} {env : PySem.Env} (hs : env.scope = sc) (hk : sc.kind = .function) {ts vs : List Expr} {a b : Nat} {pa pb : Pos} {r : Option (List Str)} (h : swp sc ts vs = some r) : swappedStores [.Tuple ts a pa] (.Tuple vs b pb) env = pure r := by
  subst hs
  have hb : (env.blockKind != .function) = false := by
    unfold PySem.Env.blockKind
    rw [hk]
    rfl
  unfold swp at h
  unfold swappedStores
  dsimp only at h ⊢
  rw [hb]
  split at h
  · rename_i c
    cases h
    exact if_pos c
  · rename_i c1
    refine (if_neg c1).trans ?_
    split at h
    · rename_i c
      cases h
      exact if_pos c
    · rename_i c2
      refine (if_neg c2).trans ?_
      split at h
      · rename_i c
        cases h
        exact if_pos c
      · rename_i c3
        refine (if_neg c3).trans ?_
        split at h
        · rename_i c
          cases h
          exact if_pos c
        · rename_i c4
          refine (if_neg c4).trans ?_
          split at h
          · cases h
          · rename_i c5
            cases h
            have c5' := Bool.eq_false_iff.mpr c5
            rw [c5']
            rfl
def isTup : Expr → Bool
  | .Tuple _ _ _ => true
  | .List _ _ => true
  | _ => false
def isTupV : Expr → Bool
  | .Tuple _ _ _ => true
  | _ => false
/-- how an assignment stores: as it stands; names exchanged -/
def plainA (sc : Scope) (t e : Expr) : Bool := match t, e with
  | .Tuple ts _ _, .Tuple vs _ _ => match swp sc ts vs with
    | some none => true
    | _ => false
  | .List _ _, .Tuple _ _ _ => false
  | _, _ => true
theorem plainA_ok {sc : Scope} {env : PySem.Env} (hs : env.scope = sc) (hk : sc.kind = .function) {t e : Expr} (h : plainA sc t e = true) : swappedStores [t] e env = pure none := by
  unfold plainA at h
  split at h
  · split at h
    · rename_i q
      exact swp_ok hs hk q
    · cases h
  · cases h
  · rename_i h1 h2
    unfold swappedStores
    cases t with
    | Tuple ts _ _ =>
      cases e with
      | Tuple vs _ _ => exact (h1 _ _ _ _ _ _ rfl rfl).elim
      | _ => rfl
    | List ts _ =>
      cases e with
      | Tuple vs _ _ => exact (h2 _ _ _ _ _ rfl rfl).elim
      | _ => rfl
    | _ => cases e <;> rfl
/-- the value is a comprehension that is stored at a local name of its row -/
def swC (sc : Scope) (t e : Expr) : Bool := match e with
  | .ListComp _ _ s2 p => match t with
    | .Name x q => (sc.names.lookup x == some .local) && (q.line == p.line) && !(s2.names.any fun (n, k) => n == x && (k == .local || k == .cell))
    | _ => false
  | _ => false
def noC (t e : Expr) : Bool := match e with
  | .ListComp .. => (match t with | .Name _ _ => false | _ => true)
  | .SetComp .. => false
  | .DictComp .. => false
  | _ => true
theorem noC_ok {t e : Expr} {l : Nat} {env : PySem.Env} (h : noC t e = true) : swapsWithSole [t] e l env = pure false := by
  unfold swapsWithSole
  cases e with
  | ListComp a b c d =>
    cases t with
    | Name _ _ => cases h
    | _ => rfl
  | SetComp _ _ _ _ => cases h
  | DictComp _ _ _ _ _ => cases h
  | _ => rfl
theorem isComp_no {e : Expr} {l : Nat} {env : PySem.Env} (h : isComp e = false) : swapsWith e none l env = pure false := by
  cases e with
  | ListComp _ _ _ _ => cases h
  | SetComp _ _ _ _ => cases h
  | DictComp _ _ _ _ _ => cases h
  | _ => rfl
theorem swC_ok {sc : Scope} {env : PySem.Env} (hs : env.scope = sc) (hk : sc.kind = .function) {x : Str} {q : Pos} {elt : Expr} {gens : List Comprehension} {s2 : Scope} {p : Pos} {l : Nat} (h : swC sc (.Name x q) (.ListComp elt gens s2 p) = true) :
    swapsWith (.ListComp elt gens s2 p) (some (.Name x q)) l env = pure true ∧ sc.names.lookup x = some .local := by
  subst hs
  unfold swC at h
  simp only [Bool.and_eq_true] at h
  obtain ⟨⟨h1, h2⟩, h3⟩ := h
  have hb : (env.blockKind == .function) = true := by
    unfold PySem.Env.blockKind
    rw [hk]
    rfl
  refine ⟨?_, by simpa using h1⟩
  unfold swapsWith
  show (pure (env.blockKind == .function && env.kindOf x == some .local && q.line == p.line && !(s2.names.any fun (n, k) => n == x && (k == .local || k == .cell))) : Sem Bool) = pure true
  rw [hb, show (env.kindOf x == some .local) = true from h1, h2, h3]
  rfl
section
variable (G : Gt) (P : Nat → Option FI) (N : List Str) (sc : Scope)
def parB (is : List Nat) (ts : List Expr) (vs : List Expr) : Bool := match swp sc ts vs with
  | some (some names) => match is, ts, vs, names with
    | [i, j], [.Name x _, .Name y _], [_, _], [x', y'] => decide (x = x') && decide (y = y') && atN N i x && atN N j y && locS sc x && locS sc y && !(Nat.beq i j)
    | [i, j, l], [.Name x _, .Name y _, .Name z _], [_, _, _], [x', y', z'] => decide (x = x') && decide (y = y') && decide (z = z') && atN N i x && atN N j y && atN N l z && locS sc x && locS sc y && locS sc z && !(Nat.beq i j) && !(Nat.beq i l) && !(Nat.beq j l)
    | _, _, _, _ => false
  | _ => false
def isLc : CE → Bool
  | .lc _ _ _ _ _ => true
  | _ => false
def okR (gd : Md) : CR → List Stmt → Bool
  | .nil, ss => ss.isEmpty
  | .rai c n es kn ks, ss => match ss with
    | [.Raise (some e) none _] => okE G P N gd false sc (.mkx c n es kn ks) e
    | _ => false
  | .iff t c n es kn ks r, ss => match ss with
    | .If x [.Raise (some e) none _] [] _ :: rest => okE G P N gd true sc t x && okE G P N gd false sc (.mkx c n es kn ks) e && okR gd r rest
    | _ => false
mutual
def okSt : Md → CS → List Stmt → Bool
  | _, .nil, ss => ss.isEmpty
  | gd, .seq a b, ss => match ss with
    | s :: ss => okS1 gd a s && okSt gd b ss
    | [] => false
  | _, _, _ => false
def okS1 : Md → CS → Stmt → Bool
  | _, .pas, s => match s with
    | .Pass _ => true
    | _ => false
  | _, .brk, s => match s with
    | .Break _ => true
    | _ => false
  | _, .cnt, s => match s with
    | .Continue _ => true
    | _ => false
  | _, .ret0, s => match s with
    | .Return none _ => true
    | _ => false
  | gd, .ret e, s => match s with
    | .Return (some x) _ => okE G P N gd false sc e x
    | _ => false
  | gd, .exp e, s => match s with
    | .Expr x _ => !isComp x && okE G P N gd false sc e x
    | _ => false
  | gd, .iff c a b, s => match s with
    | .If x ys zs _ => okE G P N gd true sc c x && okSt gd a ys && okSt gd b zs
    | _ => false
  | gd, .asg g e, s => match s with
    | .Assign [t] x _ => okE G P N gd false sc e x && okG G P N gd sc none g t && !isStar t && plainA sc t x && (noC t x || (swC sc t x && isLc e))
    | _ => false
  | gd, .par is es, s => match s with
    | .Assign [.Tuple ts _ _] (.Tuple vs _ _) _ => parB N sc is ts vs && okL G P N gd sc es vs && gd.cm
    | _ => false
  | gd, .for_ g it b, s => match s with
    | .For t i ys [] _ => okI G P N gd sc it t i && okG G P N gd sc none g t && notSet i && okSt gd b ys && gd.cm
    | _ => false
  | gd, .whl c b, s => match s with
    | .While x ys [] _ => okE G P N gd true sc c x && okSt gd b ys
    | _ => false
  | gd, .rai c n es kn ks, s => match s with
    | .Raise (some e) none _ => okE G P N gd false sc (.mkx c n es kn ks) e && gd.cm
    | _ => false
  | gd, .try_ b hs, s => match s with
    | .Try body (h₀ :: hds) [] [] _ => gd.cm && okR G P N sc gd b body && okH gd hs (h₀ :: hds)
    | _ => false
  | _, .unk, _ => true
  | _, _, _ => false
def okH : Md → CH → List ExceptHandler → Bool
  | _, .nil, hs => hs.isEmpty
  | gd, .cons c sl b r, hs => match hs with
    | .ExceptHandler (some (.Name x _)) n (s0 :: su) _ :: rest => nameIs (G.nC c) x && glB sc x && okN x && (match sl, n with
      | none, none => true
      | some i, some y => atN N i y && locS sc y
      | _, _ => false) && okSt ⟨gd.sh, false⟩ b (s0 :: su) && okH gd r rest
    | _ => false
end
end
section
variable {G : Gt} {B : Tb} {P : Nat → Option FI} {cal : Nat → List D → M D} {gd : Md} {CX : CXT} {k : Nat} {N : List Str} {sc : Scope} {E : XK} {X : Cx}
theorem par2_eq {i j : Nat} {ms : Env → M (List D)} : (fun env => bnd (ms env) fun ds S => match setAll [i, j] ds env with
    | some env => some (.ok (.nx env) S)
    | none => none) = sPar2 i j ms := by
  funext env S
  unfold sPar2 bnd
  cases e : ms env S with
  | none => rfl
  | some r =>
    cases r with
    | exc _ _ => rfl
    | ok ds S1 =>
      match ds with
      | [] => rfl
      | [_] => rfl
      | [_, _] => rfl
      | _ :: _ :: _ :: _ => rfl
theorem par3_eq {i j l : Nat} {ms : Env → M (List D)} : (fun env => bnd (ms env) fun ds S => match setAll [i, j, l] ds env with
    | some env => some (.ok (.nx env) S)
    | none => none) = sPar3 i j l ms := by
  funext env S
  unfold sPar3 bnd
  cases e : ms env S with
  | none => rfl
  | some r =>
    cases r with
    | exc _ _ => rfl
    | ok ds S1 =>
      match ds with
      | [] => rfl
      | [_] => rfl
      | [_, _] => rfl
      | [_, _, _] => rfl
      | _ :: _ :: _ :: _ :: _ => rfl
theorem okG_nm {g : CT} {x : Str} {q : Pos} (h : okG G P N gd sc none g (.Name x q) = true) : ∃ i, g = .nm i ∧ atN N i x = true ∧ locB sc x = true := by
  cases g with
  | nm i =>
    simp only [okG, Bool.and_eq_true] at h
    exact ⟨i, rfl, h.1.1, h.1.2⟩
  | tp _ _ => simp [okG] at h
  | ix _ _ => simp [okG] at h
  | fd _ _ => simp [okG] at h
theorem Pl.e0 (p : Pl G B P cal gd CX k N sc E X) : Pl G B P cal gd CX k N sc E0 X where
  cx := p.cx
  hN := p.hN
  hs := p.hs
  hx := fun _ _ H s e s' _ h => (p.exo _ _ _ _ _ h).elim
  tab := p.tab
  xcg := p.xcg
  x0g := p.x0g
  exm := p.exm
  nm := p.nm
  nF := p.nF
  nC := p.nC
  nK := p.nK
  fr := p.fr
  exo := p.exo
  fnc := p.fnc
theorem Pl.tr (p : Pl G B P cal gd CX k N sc E X) (pn : List (Addr × Obj)) (xe : Value → Shared → Prop) : Pl G B P cal gd CX k N sc E0 (X.tr pn xe) where
  cx := ⟨p.cx.hK, p.cx.hr, p.cx.hg, p.cx.calm, p.cx.nd, fun f fi e => ⟨(p.cx.fn f fi e).ok, (p.cx.fn f fi e).kp, (p.cx.fn f fi e).fi⟩⟩
  hN := p.hN
  hs := p.hs
  hx := fun _ _ H s e s' _ h => (p.exo _ _ _ _ _ h).elim
  tab := p.tab
  xcg := fun c fi e => (p.xcg c fi e).to rfl rfl rfl
  x0g := fun c e => (p.x0g c e).to rfl
  exm := p.exm
  nm := p.nm
  nF := p.nF
  nC := p.nC
  nK := p.nK
  fr := p.fr
  exo := p.exo
  fnc := p.fnc
theorem Pl.hot (p : Pl G B P cal gd CX k N sc E X) (a : Addr) (pn : List (Addr × Obj)) : Pl G B P cal ⟨gd.sh, false⟩ CX k N sc E0 (hotC X a pn) where
  cx := ⟨p.cx.hK, ⟨(fun z => Bool.noConfusion z), p.cx.hr.dp, p.cx.hr.un⟩, p.cx.hg, (fun z => Bool.noConfusion z), p.cx.nd, fun f fi e => ⟨(p.cx.fn f fi e).ok, (p.cx.fn f fi e).kp, (p.cx.fn f fi e).fi⟩⟩
  hN := p.hN
  hs := p.hs
  hx := fun _ _ H s e s' _ h => (p.exo _ _ _ _ _ h).elim
  tab := p.tab
  xcg := fun c fi e => (p.xcg c fi e).to rfl rfl rfl
  x0g := fun c e => (p.x0g c e).to rfl
  exm := p.exm
  nm := p.nm
  nF := p.nF
  nC := p.nC
  nK := p.nK
  fr := p.fr
  exo := p.exo
  fnc := p.fnc
/-- what is raised -/
theorem okX_s {c n : Nat} {es ks : CL} {kn : List Str} {e : Expr} (p : Pl G B P cal gd CX k N sc E X) (h : okE G P N gd false sc (.mkx c n es kn ks) e = true) : PMk X e (gX B E c (evX G.T P cal G.cst gd c n es kn ks)) := by
  simp only [okE, Bool.and_eq_true] at h
  obtain ⟨hp, h⟩ := h
  split at h
  · rename_i x px xs kws pos
    simp only [Bool.and_eq_true, decide_eq_true_eq] at h
    obtain ⟨⟨⟨⟨⟨⟨⟨⟨h1, h2⟩, h3⟩, h4⟩, h5⟩, h6⟩, h7⟩, h8⟩, h9⟩ := h
    unfold evX
    cases em : G.T.xm c with
    | some fi =>
      dsimp only
      have F := p.xcg c fi em
      have ih := okL_s es p h7
      have jh := okK_s ks p h8
      cases xs with
      | nil =>
        cases es with
        | nil =>
          simp only [evL]
          exact pmk_0 F p.room1 (p.gl h2) (p.nC c _ (nameIs_some h1)) (okN_1 h3) h5 h6 jh
        | cons _ _ => simp [okL] at h7
        | star _ _ => simp [okL] at h7
      | cons y ys => exact pmk_1 F p.room1 (p.gl h2) (p.nC c _ (nameIs_some h1)) (okN_1 h3) h4 h5 h6 ih jh
    | none =>
      dsimp only
      rw [em] at h9
      simp only [Option.isSome_none, Bool.false_or, Bool.and_eq_true] at h9
      obtain ⟨⟨h10, h11⟩, h12⟩ := h9
      rw [h10]
      dsimp only
      cases xs with
      | cons _ _ => cases h11
      | nil =>
        cases kws with
        | cons _ _ => cases h12
        | nil => exact pmk_x0 (p.x0g c h10) (p.gl h2) (p.nC c _ (nameIs_some h1)) (okN_1 h3)
  · cases h
theorem sRai_po {w : Wd} {S : Sto} {c : Nat} {ml : Env → M (List D)} {env : Env} {E' : XK} {Pq : Wd → Sto → Fl → Prop} (rs : RS B w S) (h : Po B E' w (sRai c ml env S) Pq) : Po B E0 w (ml env S) fun w1 S1 as => ∀ w' cls dx, w1.le w' → RS B w' S1 → RX B w' ⟨c, as⟩ cls dx → E' cls dx w'.H := by
  unfold sRai at h
  exact (Po.noEx h.bnd).imp fun w1 S1 as l1 rs1 h1 w' cls dx le rs' rx => h1 w' cls dx le rs' rx
/-- a try's body -/
theorem okR_s (p : Pl G B P cal gd CX k N sc E X) : ∀ (c : CR) {ss : List Stmt}, okR G P N sc gd c ss = true → ∀ (W : WX) (pn : List (Addr × Obj)) (xe : Value → Shared → Prop), Takes (X.tr pn xe) W → X.calm = true →
    PSs (X.tr pn xe) ss fun Dn σ H => gS B (fun cls d H => W cls d σ H) (evR G.T P cal G.cst gd c) Dn σ H
  | .nil, ss, h, W, pn, xe, tk, hc => by
    simp only [okR] at h
    cases ss with
    | nil => exact PSsmono pss_nil fun Dn σ H ⟨w, env, S, hw, rs, re, q⟩ => by subst hw; exact Po.ret (show Po B _ w (ret (Fl.nx env) S) _ from q) rs σ re
    | cons _ _ => cases h
  | .rai c n es kn ks, ss, h, W, pn, xe, tk, hc => by
    simp only [okR] at h
    split at h
    · refine PSsmono (pss_cons (ps_raise hc tk (okX_s (p.tr pn xe) h)) pss_nil) fun Dn σ H ⟨w, env, S, hw, rs, re, q⟩ => ?_
      exact ⟨w, env, S, hw, rs, re, sRai_po rs q⟩
    · cases h
  | .iff t c n es kn ks r, ss, h, W, pn, xe, tk, hc => by
    simp only [okR] at h
    split at h
    · simp only [Bool.and_eq_true] at h
      have p' := p.tr pn xe
      refine PSsmono (pss_cons (ps_if ((okE_s t p' h.1.1).2 rfl) (pss_cons (ps_raise hc tk (okX_s p' h.1.2)) pss_nil) pss_nil) (okR_s p r h.2 W pn xe tk hc)) fun Dn σ H ⟨w, env, S, hw, rs, re, q⟩ => ?_
      refine ⟨w, env, S, hw, rs, re, ?_⟩
      have q1 : Po B _ w (bnd (noEx (evT G.T P cal G.cst gd t env)) (fun b => if b then sRai c (evX G.T P cal G.cst gd c n es kn ks) env else evR G.T P cal G.cst gd r env) S) _ := q
      refine (Po.noEx q1.bnd).imp fun w1 S1 b l1 rs1 h1 => ?_
      cases b with
      | true => exact ⟨w1, env, S1, rfl, rs1, re.mono l1, sRai_po rs1 h1⟩
      | false => exact ⟨w1, env, S1, rfl, rs1, re.mono l1, h1⟩
    · cases h
mutual
theorem okSt_s : ∀ (c : CS) {ss : List Stmt} {gd : Md} {E : XK} {X : Cx} (p : Pl G B P cal gd CX k N sc E X) (hs : X.env.scope = sc) (hk : sc.kind = .function) (hp : PassesOwn (model X.prog X.w) X.A X.env X.xe) (tk : Takes X fun cls d _ H => E cls d H) (hst : X.stack = X.env :: X.outer) (hfr : X.env.frame = some X.env.locals), okSt G P N sc gd c ss = true → GSs B E X ss (evS G.T P cal G.cst gd c)
  | .nil, ss, gd, E, X, p, hs, hk, hp, tk, hst, hfr, h => by
    simp only [okSt] at h
    cases ss with
    | nil => simp only [evS]; exact gss_nil
    | cons _ _ => cases h
  | .seq a b, ss, gd, E, X, p, hs, hk, hp, tk, hst, hfr, h => by
    simp only [okSt] at h
    split at h
    · rw [Bool.and_eq_true] at h
      simp only [evS]
      exact gss_cons (okS1_s a p hs hk hp tk hst hfr h.1) (okSt_s b p hs hk hp tk hst hfr h.2)
    · cases h
  | .pas, ss, gd, E, X, p, hs, hk, hp, tk, hst, hfr, h => by simp [okSt] at h
  | .brk, ss, gd, E, X, p, hs, hk, hp, tk, hst, hfr, h => by simp [okSt] at h
  | .cnt, ss, gd, E, X, p, hs, hk, hp, tk, hst, hfr, h => by simp [okSt] at h
  | .ret0, ss, gd, E, X, p, hs, hk, hp, tk, hst, hfr, h => by simp [okSt] at h
  | .ret _, ss, gd, E, X, p, hs, hk, hp, tk, hst, hfr, h => by simp [okSt] at h
  | .exp _, ss, gd, E, X, p, hs, hk, hp, tk, hst, hfr, h => by simp [okSt] at h
  | .iff _ _ _, ss, gd, E, X, p, hs, hk, hp, tk, hst, hfr, h => by simp [okSt] at h
  | .asg _ _, ss, gd, E, X, p, hs, hk, hp, tk, hst, hfr, h => by simp [okSt] at h
  | .par _ _, ss, gd, E, X, p, hs, hk, hp, tk, hst, hfr, h => by simp [okSt] at h
  | .for_ _ _ _, ss, gd, E, X, p, hs, hk, hp, tk, hst, hfr, h => by simp [okSt] at h
  | .whl _ _, ss, gd, E, X, p, hs, hk, hp, tk, hst, hfr, h => by simp [okSt] at h
  | .unk, ss, gd, E, X, p, hs, hk, hp, tk, hst, hfr, h => by simp [okSt] at h
  | .rai _ _ _ _ _, ss, gd, E, X, p, hs, hk, hp, tk, hst, hfr, h => by simp [okSt] at h
  | .try_ _ _, ss, gd, E, X, p, hs, hk, hp, tk, hst, hfr, h => by simp [okSt] at h
theorem okS1_s : ∀ (c : CS) {s : Stmt} {gd : Md} {E : XK} {X : Cx} (p : Pl G B P cal gd CX k N sc E X) (hs : X.env.scope = sc) (hk : sc.kind = .function) (hp : PassesOwn (model X.prog X.w) X.A X.env X.xe) (tk : Takes X fun cls d _ H => E cls d H) (hst : X.stack = X.env :: X.outer) (hfr : X.env.frame = some X.env.locals), okS1 G P N sc gd c s = true → GS B E X s (evS G.T P cal G.cst gd c)
  | .nil, s, gd, E, X, p, hs, hk, hp, tk, hst, hfr, h => by simp [okS1] at h
  | .unk, s, gd, E, X, p, hs, hk, hp, tk, hst, hfr, h => by
    simp only [evS]
    exact ⟨fun _ _ _ _ _ _ ⟨_, _, _, _, _, _, z⟩ => z.elim⟩
  | .seq _ _, s, gd, E, X, p, hs, hk, hp, tk, hst, hfr, h => by simp [okS1] at h
  | .pas, s, gd, E, X, p, hs, hk, hp, tk, hst, hfr, h => by
    simp only [okS1] at h
    split at h
    · simp only [evS]; exact gs_pass
    · cases h
  | .brk, s, gd, E, X, p, hs, hk, hp, tk, hst, hfr, h => by
    simp only [okS1] at h
    split at h
    · simp only [evS]; exact gs_break
    · cases h
  | .cnt, s, gd, E, X, p, hs, hk, hp, tk, hst, hfr, h => by
    simp only [okS1] at h
    split at h
    · simp only [evS]; exact gs_continue
    · cases h
  | .ret0, s, gd, E, X, p, hs, hk, hp, tk, hst, hfr, h => by
    simp only [okS1] at h
    split at h
    · simp only [evS]; exact gs_retN
    · cases h
  | .ret e, s, gd, E, X, p, hs, hk, hp, tk, hst, hfr, h => by
    simp only [okS1] at h
    split at h
    · simp only [evS]; exact gs_ret (okE_s e p h).1
    · cases h
  | .exp e, s, gd, E, X, p, hs, hk, hp, tk, hst, hfr, h => by
    simp only [okS1] at h
    split at h
    · simp only [Bool.and_eq_true, Bool.not_eq_true'] at h
      simp only [evS]
      exact gs_expr (okE_s e p h.2).1 (isComp_no h.1)
    · cases h
  | .iff c a b, s, gd, E, X, p, hs, hk, hp, tk, hst, hfr, h => by
    simp only [okS1] at h
    split at h
    · simp only [Bool.and_eq_true] at h
      simp only [evS]
      exact gs_if ((okE_s c p h.1.1).2 rfl) (okSt_s a p hs hk hp tk hst hfr h.1.2) (okSt_s b p hs hk hp tk hst hfr h.2)
    · cases h
  | .asg g e, s, gd, E, X, p, hs, hk, hp, tk, hst, hfr, h => by
    simp only [okS1] at h
    split at h
    · rename_i t x pos
      simp only [Bool.and_eq_true, Bool.not_eq_true'] at h
      obtain ⟨⟨⟨⟨h1, h2⟩, h3⟩, h4⟩, h5⟩ := h
      simp only [evS]
      by_cases hn : noC t x = true
      · exact gs_asg (okE_s e p h1).1 (okG_s g p h2) (noC_ok hn) (plainA_ok hs hk h4) (by rw [asg_cons h3]; rfl)
      · rw [Bool.or_eq_true] at h5
        rcases h5 with h5 | h5
        · exact absurd h5 hn
        · rw [Bool.and_eq_true] at h5
          obtain ⟨h5, h6⟩ := h5
          cases e with
          | lc elt g' it c own =>
            cases x with
            | ListComp ex gens s2 px =>
              cases t with
              | Name y q =>
                obtain ⟨i, eg, a1, a2⟩ := okG_nm h2
                subst eg
                obtain ⟨w1, w2⟩ := swC_ok (l := pos.line) hs hk h5
                simp only [okE, Bool.and_eq_true] at h1
                obtain ⟨_, h1⟩ := h1
                split at h1
                · rename_i x2 g0 sc2 pos2 heq
                  cases heq
                  obtain ⟨t, i2, fs, a⟩ := g0
                  simp only [Bool.and_eq_true] at h1
                  obtain ⟨⟨⟨⟨⟨⟨⟨⟨k0, k1⟩, k2⟩, k3⟩, k4⟩, k5⟩, k6⟩, k7⟩, hcm⟩ := h1
                  have k0 := of_decide_eq_true k0
                  subst k0
                  have hb := blkOk_by k1
                  have ho := own_at k2
                  have ok2 : BlkOk X.N X.env.scope s2 (own.filterMap fun i => (N[i]?).map fun y => (y, i)) := by
                    rw [p.hN]
                    exact ⟨hb.kind, hb.uniq, hb.ix, fun y hy e => p.hs.fr _ (hb.free y hy e), hb.own⟩
                  simp only [evE, evG]
                  have := gs_setLc (n := turns) (B := B) (E := E) (i := i) (y := y) (py := q) (elt := ex) (tg := t) (iter := i2) (ifs := fs) (scope := s2) (own := own.filterMap fun i => (N[i]?).map fun y => (y, i)) (pos := px) (spos := pos) (mi := evI G.T P cal G.cst gd it) (g := evG G.T P cal G.cst gd g') (t := evC G.T P cal G.cst gd c) (e := evE G.T P cal G.cst gd elt) (p.cx.calm hcm) p.cx.nd (p.at_ a1) (by rw [hs]; exact w2) w1 (okI_s it p k3) ok2
                    (fun s H C cl fp => by rw [ho]; exact okG_o g' (p.blk s2 s H C cl fp) k4)
                    (fun s H C cl fp => okCs_s c (p.blk s2 s H C cl fp) k7)
                    (fun s H C cl fp => (okE_s elt (p.blk s2 s H C cl fp) k6).1) (set_fold k5)
                  rw [ho] at this
                  exact this
                · cases h1
              | _ => cases h5
            | _ => cases h5
          | _ => cases h6
    · cases h
  | .par is es, s, gd, E, X, p, hs, hk, hp, tk, hst, hfr, h => by
    simp only [okS1] at h
    split at h
    · rename_i ts kt pt vs k2 pv pos
      rw [Bool.and_eq_true, Bool.and_eq_true] at h
      obtain ⟨⟨h1, h2⟩, hcm⟩ := h
      unfold parB at h1
      split at h1
      · rename_i names ew
        split at h1
        · rename_i i j x px y py a b x' y'
          simp only [Bool.and_eq_true, decide_eq_true_eq, Bool.not_eq_true'] at h1
          obtain ⟨⟨⟨⟨⟨⟨e1, e2⟩, a1⟩, a2⟩, l1⟩, l2⟩, ne⟩ := h1
          subst e1; subst e2
          simp only [evS]
          have q := gs_par2 (B := B) (E := E) (kt := kt) (pt := pt) (px := px) (py := py) (pos := pos) (k2 := k2) (pt2 := pv) (p.cx.calm hcm) p.cx.nd (p.at_ a1) (p.at_ a2) (beq_f.mp ne) (p.hs.locS _ l1) (p.hs.locS _ l2) (okL_s es p h2) (swp_ok hs hk ew)
          rw [← par2_eq] at q
          exact q
        · rename_i i j l x px y py z pz a b c x' y' z'
          simp only [Bool.and_eq_true, decide_eq_true_eq, Bool.not_eq_true'] at h1
          obtain ⟨⟨⟨⟨⟨⟨⟨⟨⟨⟨⟨e1, e2⟩, e3⟩, a1⟩, a2⟩, a3⟩, l1⟩, l2⟩, l3⟩, n1⟩, n2⟩, n3⟩ := h1
          subst e1; subst e2; subst e3
          simp only [evS]
          have q := gs_par3 (B := B) (E := E) (kt := kt) (pt := pt) (px := px) (py := py) (pz := pz) (pos := pos) (k2 := k2) (pt2 := pv) (p.cx.calm hcm) p.cx.nd (p.at_ a1) (p.at_ a2) (p.at_ a3) (beq_f.mp n1) (beq_f.mp n2) (beq_f.mp n3) (p.hs.locS _ l1) (p.hs.locS _ l2) (p.hs.locS _ l3) (okL_s es p h2) (swp_ok hs hk ew)
          rw [← par3_eq] at q
          exact q
        · cases h1
      · cases h1
    · cases h
  | .for_ g it b, s, gd, E, X, p, hs, hk, hp, tk, hst, hfr, h => by
    simp only [okS1] at h
    split at h
    · simp only [Bool.and_eq_true] at h
      obtain ⟨⟨⟨⟨h1, h2⟩, h3⟩, h4⟩, hcm⟩ := h
      simp only [evS]
      exact gs_for turns hp (p.cx.calm hcm) (okI_s it p h1) (okG_s g p h2) (okSt_s b p hs hk hp tk hst hfr h4) (set_fold h3)
    · cases h
  | .whl c b, s, gd, E, X, p, hs, hk, hp, tk, hst, hfr, h => by
    simp only [okS1] at h
    split at h
    · simp only [Bool.and_eq_true] at h
      simp only [evS]
      exact gs_while turns hp ((okE_s c p h.1).2 rfl) (okSt_s b p hs hk hp tk hst hfr h.2)
    · cases h
  | .rai c n es kn ks, s, gd, E, X, p, hs, hk, hp, tk, hst, hfr, h => by
    simp only [okS1] at h
    split at h
    · rename_i e pos
      rw [Bool.and_eq_true] at h
      simp only [evS]
      refine PSmono (ps_raise (p.cx.calm h.2) tk (okX_s p.e0 h.1)) fun Dn σ H ⟨w, env, S, hw, rs, re, q⟩ => ?_
      exact ⟨w, env, S, hw, rs, re, sRai_po rs q⟩
    · cases h
  | .try_ b hds, s, gd, E, X, p, hs, hk, hp, tk, hst, hfr, h => by
    simp only [okS1] at h
    split at h
    · simp only [Bool.and_eq_true] at h
      simp only [evS]
      exact gs_try p.exm hst hfr p.cx.nd tk (fun W pn xe tk' hp' => okR_s p b h.1.2 W pn xe tk' (p.cx.calm h.1.1)) (okH_s hds p hs hk hst hfr h.2)
    · cases h
theorem okH_s : ∀ (c : CH) {hds : List ExceptHandler} {gd : Md} {E : XK} {X : Cx} (p : Pl G B P cal gd CX k N sc E X) (hs : X.env.scope = sc) (hk : sc.kind = .function) (hst : X.stack = X.env :: X.outer) (hfr : X.env.frame = some X.env.locals),
    okH G P N sc gd c hds = true → HdG B X hds (evH G.T P cal G.cst gd c)
  | .nil, hds, gd, E, X, p, hs, hk, hst, hfr, h => by
    simp only [okH] at h
    cases hds with
    | nil => simp only [evH]; exact .nil
    | cons _ _ => cases h
  | .cons c sl b r, hds, gd, E, X, p, hs, hk, hst, hfr, h => by
    simp only [okH] at h
    split at h
    · rename_i x np n s0 su ph rest
      simp only [Bool.and_eq_true] at h
      obtain ⟨⟨⟨⟨⟨h1, h2⟩, h3⟩, h4⟩, h5⟩, h6⟩ := h
      have hc : Names X x (.ref (B.ca c)) := ⟨p.gl h2, okN_1 h3, .inl (p.nC c _ (nameIs_some h1))⟩
      have hb : ∀ a pn, PSs (hotC X a pn) (s0 :: su) (gS B E0 (evS G.T P cal G.cst ⟨gd.sh, false⟩ b)) := fun a pn =>
        okSt_s b (p.hot a pn) hs hk (fun _ _ z => z.elim) takes_none5 hst hfr h5
      have ih := okH_s r p hs hk hst hfr h6
      simp only [evH]
      split at h4
      · exact .no hc hb ih
      · rw [Bool.and_eq_true] at h4
        exact .as hc (p.at_ h4.1) (p.hs.locS _ h4.2) hb ih
      · cases h4
    · cases h
end
end
end G
end
section
/-! G27: defs, the whole text. -/
namespace G
open PySem L2
/-- a def of the text -/
structure FX where
  name : Str
  qual : Str
  params : Arguments
  body : List Stmt
  scope : Scope
def parsB (t : Arguments) (ps : List Str) : Bool := match t with
  | ⟨[], A, none, [], [], none, _⟩ => decide (A.map (·.arg) = ps)
  | _ => false
def scB (N ps : List Str) (sc : Scope) : Bool :=
  (match sc.kind with | .function => true | _ => false) && !sc.isCoroutine && !sc.isGenerator && decide N.Nodup && decide (N.take ps.length = ps) &&
  ps.all (fun x => match sc.names.lookup x with | some .local => true | some .cell => true | _ => false) && sc.names.all fun y => match y.2 with | .free => false | _ => true
theorem scB_ok {N ps : List Str} {sc : Scope} (h : scB N ps sc = true) : FnScope N ps sc := by
  unfold scB at h
  simp only [Bool.and_eq_true, Bool.not_eq_true', decide_eq_true_eq] at h
  obtain ⟨⟨⟨⟨⟨⟨h1, h2⟩, h3⟩, h4⟩, h5⟩, h6⟩, h7⟩ := h
  refine ⟨?_, h2, h3, h4, h5, fun x hx => ?_, fun y hy e => ?_⟩
  · split at h1
    · assumption
    · cases h1
  · have := List.all_eq_true.mp h6 x hx
    split at this
    · rename_i e; exact .inl e
    · rename_i e; exact .inr e
    · cases this
  · have := List.all_eq_true.mp h7 y hy
    rw [e] at this
    cases this
def okD (G : Gt) (P : Nat → Option FI) (fi : FI) (fb : FB) (N : List Str) (t : FX) : Bool :=
  parsB t.params fi.ps && Nat.beq N.length fb.N && scB N fi.ps t.scope && okSt G P N t.scope fi.gd fb.body t.body
/-- what is known of the heap behind the top -/
structure Wf (prog : Program) (G : Gt) (P : Nat → Option FI) (F : Nat → Option FB) (B : Tb) (mg : Str → Option Value) : Prop where
  tab : G.T.fld = B.fld ∧ G.T.mt = B.mt ∧ G.T.ini = B.ini ∧ G.T.isv = B.isv ∧ G.T.xf = B.xf
  xcg : ∀ X : Cx, X.prog = prog → X.K = B.K → X.mg = mg → ∀ c fi, G.T.xm c = some fi → XcG B X c fi
  x0g : ∀ X : Cx, X.K = B.K → ∀ c, G.T.x0 c = true → X0G B X c
  exm : ∀ c h b, G.T.exm c h = some b → PySem.W.exmOne B.K (.ref (B.ca c)) (.ref (B.ca h)) = some b
  nm : ∀ i, B.nm i = G.nm i
  nF : ∀ f x, G.nF f = some x → mg x = some (.ref (B.fa f))
  nC : ∀ c x, G.nC c = some x → mg x = some (.ref (B.ca c))
  nK : ∀ j x d, G.nK j = some x → G.cst j = some d → ∃ u v, mg x = some u ∧ RelV v u ∧ ∀ w, Rv B w d v
  fr : ∀ b, G.fr b = true → mg b.name = none
  fn : ∀ f fi, P f = some fi → ∃ fb N t dvs fd, F f = some fb ∧ okD G P fi fb N t = true ∧ FunD B.K t.name t.qual t.params t.body t.scope dvs [] (B.fa f) fd ∧ (∀ w, Rvs B w fi.dfl dvs) ∧ PySem.W.fnIn B.K (B.fa f) = true
section
variable {G : Gt} {P : Nat → Option FI} {F : Nat → Option FB} {B : Tb} {prog : Program} {w0 : World} {mg : Str → Option Value} {base : Heap}
theorem spG_len {np : Nat} {r : List D → M D} {ps : List Str} (h : np = ps.length) : ∀ vs H Q E, spG B np r vs H Q E → vs.length = ps.length := fun vs H Q E ⟨w, S, ds, _, _, r2, hl, _⟩ => by rw [r2.length, hl, h]
theorem envOf_re {w : Wd} {ds : List D} {vs : List V} {N : List Str} (r : Rvs B w ds vs) : RE B w (envOf N.length ds) (L2.start N vs) := by
  have hl := r.length
  refine ⟨?_, fun i d h => ?_⟩
  · unfold envOf L2.start
    rw [List.length_append, List.length_append, List.length_map, List.length_map, List.length_replicate, List.length_replicate, hl]
  · unfold envOf at h
    unfold L2.start
    by_cases hi : i < ds.length
    · rw [List.getElem?_append_left (by simpa using hi), List.getElem?_map] at h
      cases e : ds[i]? with
      | none => rw [e] at h; cases h
      | some d' =>
        rw [e] at h
        cases h
        obtain ⟨v, ev, rv⟩ := r.get e
        refine ⟨v, ?_, rv⟩
        rw [List.getElem?_append_left (by simp; omega), List.getElem?_map, ev]
        rfl
    · rw [List.getElem?_append_right (by simp; omega), List.getElem?_replicate] at h
      split at h <;> cases h
/-- the promise of each def, call depth by call depth -/
theorem level (W : Wf prog G P F B mg) :
    ∀ (k f : Nat) (fi : FI), P f = some fi → (∃ fd, FnS prog w0 B.K mg base (CX prog w0) fi.gd (2 * k) (B.fa f) fd fi.ps (spG B fi.ps.length (callN G.T P G.cst F k f)) ∧ (∃ oc od osl, B.K.lookup (B.fa f) = some ⟨oc, od, .func fd, osl⟩) ∧
      ∀ n ks, bindOk fi.ps n ks fi.dfl.length = true → ∃ its dvs, (∀ w, Rvs B w fi.dfl dvs) ∧ KBn B.K fd fi.ps n ks (fun us ws => arr (selOf fi.ps n ks fi.dfl.length) us ws its) (fun vs zs => arr (selOf fi.ps n ks fi.dfl.length) vs zs dvs)) ∧
      PySem.W.keepIn B.K (.ref (B.fa f)) = true ∧ PySem.W.fnIn B.K (B.fa f) = true := by
  intro k
  induction k with
  | zero =>
    intro f fi hf
    obtain ⟨fb, N, t, dvs, fd, hF, hok, hd, hdv, hfi⟩ := W.fn f fi hf
    unfold okD at hok
    simp only [Bool.and_eq_true] at hok
    obtain ⟨⟨⟨h1, h2⟩, h3⟩, h4⟩ := hok
    have hlk : ∃ oc od osl, B.K.lookup (B.fa f) = some ⟨oc, od, .func fd, osl⟩ := by
      obtain ⟨oc, od, _, _, _, _, _, _, _, osl, e1, e2, _⟩ := hd.ex
      exact ⟨oc, od, osl, by rw [e1]; rw [e1] at e2; exact e2⟩
    refine ⟨⟨fd, ⟨spG_len rfl, fun A ou s H ar us vs Q E _ _ _ _ _ ⟨w, S, ds, _, _, _, _, q⟩ => q.elim⟩, hlk, fun n ks ok => ?_⟩, hd.kp, hfi⟩
    have hp := h1
    unfold parsB at hp
    split at hp
    · rename_i A dfl ep
      have hl : dvs.length = fi.dfl.length := (hdv ⟨fun _ => 0, 0, fun _ => none⟩).length
      obtain ⟨its, hv, kb⟩ := kbn_ok hd ep (of_decide_eq_true hp) (by rw [hl]; exact ok)
      rw [hl] at kb
      exact ⟨its, dvs, hdv, kb⟩
    · cases hp
  | succ k ih =>
    intro f fi hf
    obtain ⟨fb, N, t, dvs, fd, hF, hok, hd, hdv, hfi⟩ := W.fn f fi hf
    unfold okD at hok
    simp only [Bool.and_eq_true] at hok
    obtain ⟨⟨⟨h1, h2⟩, h3⟩, h4⟩ := hok
    have hN := beq_t.mp h2
    have hsc := scB_ok h3
    have hlk : ∃ oc od osl, B.K.lookup (B.fa f) = some ⟨oc, od, .func fd, osl⟩ := by
      obtain ⟨oc, od, _, _, _, _, _, _, _, osl, e1, e2, _⟩ := hd.ex
      exact ⟨oc, od, osl, by rw [e1]; rw [e1] at e2; exact e2⟩
    refine ⟨⟨fd, ?_, hlk, fun n ks ok => ?_⟩, hd.kp, hfi⟩
    · show FnS prog w0 B.K mg base (CX prog w0) fi.gd (2 * k + 1 + 1) (B.fa f) fd fi.ps _
      refine FnS.body hd hsc (spG_len rfl) fun cv A ou s H vs Q E hr hg ⟨w, S, ds, hw, rs, rds, hl, q⟩ => ?_
      refine ⟨gS B E (evS G.T P (callN G.T P G.cst F k) G.cst fi.gd fb.body), ?_, ?_⟩
      · have tk : Takes (cxC fi.gd.cm (CX prog w0) prog w0 B.K mg base N t.qual t.scope (B.fa f) cv A ou s H E) fun cls d _ H => E cls d H := takes_of rfl rfl rfl rfl
        have pl : Pl G B P (callN G.T P G.cst F k) fi.gd (CX prog w0) (2 * k) N t.scope E (cxC fi.gd.cm (CX prog w0) prog w0 B.K mg base N t.qual t.scope (B.fa f) cv A ou s H E) :=
          { cx := ⟨rfl, hr, hg, fun z => z, hsc.nd, fun g fj hg => ⟨let ⟨fd, a, _, b⟩ := (ih g fj hg).1; ⟨fd, a, b⟩, (ih g fj hg).2.1, (ih g fj hg).2.2⟩⟩
            hN := rfl
            hs := ScR.refl t.scope
            hx := passes_call tk fun _ _ _ _ h => h
            tab := W.tab
            xcg := W.xcg _ rfl rfl rfl
            x0g := W.x0g _ rfl
            exm := W.exm
            nm := W.nm
            nF := W.nF
            nC := W.nC
            nK := W.nK
            fr := W.fr
            exo := fun _ _ _ _ _ ⟨_, _, _, _, _, _, _, _, _, _, _, _, z⟩ => z
            fnc := fun _ _ => rfl }
        exact okSt_s fb.body pl rfl hsc.kind (passes_of rfl) tk rfl rfl h4
      · refine ⟨w, envOf fb.N ds, S, hw, rs, by rw [← hN]; exact envOf_re rds, ?_⟩
        unfold callN at q
        rw [hf, hF] at q
        refine (Po.bnd q).imp fun w1 S1 fl l1 rs1 h1 => ?_
        cases fl with
        | nx env => exact fun σ re => PD.ret (d := .non) h1 rs1 rv_non
        | rt d => exact fun v rv => PD.ret h1 rs1 rv
        | bk env => exact h1.elim
        | ct env => exact h1.elim
    · have hp := h1
      unfold parsB at hp
      split at hp
      · rename_i A dfl ep
        have hl : dvs.length = fi.dfl.length := (hdv ⟨fun _ => 0, 0, fun _ => none⟩).length
        obtain ⟨its, hv, kb⟩ := kbn_ok hd ep (of_decide_eq_true hp) (by rw [hl]; exact ok)
        rw [hl] at kb
        exact ⟨its, dvs, hdv, kb⟩
      · cases hp
end
end G
end
section
/-! G28: from the heap behind the top to what is known of it. -/
namespace G
open PySem L2
/-- what a tool prints of a text -/
structure Dat where
  nmL : List Str
  fns : List He.DefD
  fis : List FI
  fbs : List (FB × List Str)
  clsL : List Str
  file : Str
  exL : List (Nat × He.DefD × FI)
  x0L : List Nat
  xfL : List (Nat × Nat × Nat)
  exmL : List (Nat × Nat × Bool)
  isxE : Nat
  isxM : Nat
  isxT : List (Ty × Bool)
  fldL : List (Nat × Nat)
  mtL : List (Nat × Nat × Nat)
  iniL : List (Nat × Nat)
  isvL : List (TC × TC × Bool)
  cstL : List (Str × D)
  frL : List BN
def nmOf (L : List Str) (i : Nat) : Str := match L[i]? with
  | some x => x
  | none => ⟨#[1000000000 + i]⟩
def nmGood (L : List Str) : Bool := decide L.Nodup && L.all fun x => match x.cps.toList with
  | [c] => Nat.blt c 1000000000
  | _ => true
theorem nm_inj {L : List Str} (h : nmGood L = true) (i j : Nat) (e : nmOf L i = nmOf L j) : i = j := by
  unfold nmGood at h
  rw [Bool.and_eq_true, decide_eq_true_eq, List.all_eq_true] at h
  obtain ⟨hn, ha⟩ := h
  have out : ∀ {i j : Nat} {x : Str}, L[i]? = some x → L[j]? = none → x ≠ ⟨#[1000000000 + j]⟩ := fun {i j x} e1 _ e => by
    subst e
    have := ha _ (List.mem_of_getElem? e1)
    simp only at this
    have h2 : 1000000000 + j + 1 ≤ 1000000000 := Nat.le_of_ble_eq_true this
    omega
  unfold nmOf at e
  cases e1 : L[i]? with
  | none =>
    cases e2 : L[j]? with
    | none =>
      rw [e1, e2] at e
      have := congrArg (fun x : Str => x.cps.toList) e
      simp at this
      exact this
    | some y =>
      rw [e1, e2] at e
      exact absurd e.symm (out e2 e1)
  | some x =>
    cases e2 : L[j]? with
    | none =>
      rw [e1, e2] at e
      exact absurd e (out e1 e2)
    | some y =>
      rw [e1, e2] at e
      dsimp only at e
      subst e
      obtain ⟨h1, q1⟩ := List.getElem?_eq_some_iff.mp e1
      obtain ⟨h2, q2⟩ := List.getElem?_eq_some_iff.mp e2
      rcases Nat.lt_trichotomy i j with z | z | z
      · exact absurd (q1.trans q2.symm) (List.pairwise_iff_getElem.mp hn i j h1 h2 z)
      · exact z
      · exact absurd (q2.trans q1.symm) (List.pairwise_iff_getElem.mp hn j i h2 h1 z)
def find2 : List (Nat × Nat) → Nat → Option Nat
  | [], _ => none
  | (a, b) :: r, x => if Nat.beq a x then some b else find2 r x
def find3 : List (Nat × Nat × Nat) → Nat → Nat → Option Nat
  | [], _, _ => none
  | (a, b, c) :: r, x, y => if Nat.beq a x && Nat.beq b y then some c else find3 r x y
def mem2 : List (Nat × Nat) → Nat → Nat → Bool
  | [], _, _ => false
  | (a, b) :: r, x, y => (Nat.beq a x && Nat.beq b y) || mem2 r x y
def findV : List (TC × TC × Bool) → TC → TC → Option Bool
  | [], _, _ => none
  | (a, b, c) :: r, x, y => if decide (a = x) && decide (b = y) then some c else findV r x y
def findX : List (Nat × He.DefD × FI) → Nat → Option FI
  | [], _ => none
  | (a, _, b) :: r, x => if Nat.beq a x then some b else findX r x
def findM : List (Nat × Nat × Bool) → Nat → Nat → Option Bool
  | [], _, _ => none
  | (a, b, c) :: r, x, y => if Nat.beq a x && Nat.beq b y then some c else findM r x y
def mem1 : List Nat → Nat → Bool
  | [], _ => false
  | a :: r, x => Nat.beq a x || mem1 r x
theorem findX_mem : ∀ {L : List (Nat × He.DefD × FI)} {x : Nat} {y : FI}, findX L x = some y → ∃ d, (x, d, y) ∈ L
  | [], _, _, h => by cases h
  | (a, d, b) :: r, x, y, h => by
    unfold findX at h
    split at h
    · rename_i e
      cases h
      rw [beq_t.mp e]
      exact ⟨d, List.mem_cons_self ..⟩
    · obtain ⟨d, hd⟩ := findX_mem h
      exact ⟨d, List.mem_cons_of_mem _ hd⟩
theorem findM_mem : ∀ {L : List (Nat × Nat × Bool)} {x y : Nat} {z : Bool}, findM L x y = some z → (x, y, z) ∈ L
  | [], _, _, _, h => by cases h
  | (a, b, c) :: r, x, y, z, h => by
    unfold findM at h
    split at h
    · rename_i e
      rw [Bool.and_eq_true] at e
      cases h
      rw [beq_t.mp e.1, beq_t.mp e.2]
      exact List.mem_cons_self ..
    · exact List.mem_cons_of_mem _ (findM_mem h)
theorem mem1_mem : ∀ {L : List Nat} {x : Nat}, mem1 L x = true → x ∈ L
  | [], _, h => by cases h
  | a :: r, x, h => by
    unfold mem1 at h
    rw [Bool.or_eq_true] at h
    rcases h with h | h
    · rw [beq_t.mp h]
      exact List.mem_cons_self ..
    · exact List.mem_cons_of_mem _ (mem1_mem h)
def findT : List (Ty × Bool) → Ty → Option Bool
  | [], _ => none
  | (a, b) :: r, x => if decide (a = x) then some b else findT r x
theorem findT_mem : ∀ {L : List (Ty × Bool)} {x : Ty} {y : Bool}, findT L x = some y → (x, y) ∈ L
  | [], _, _, h => by cases h
  | (a, b) :: r, x, y, h => by
    unfold findT at h
    split at h
    · rename_i e
      cases h
      rw [of_decide_eq_true e]
      exact List.mem_cons_self ..
    · exact List.mem_cons_of_mem _ (findT_mem h)
theorem find2_mem : ∀ {L : List (Nat × Nat)} {x y : Nat}, find2 L x = some y → (x, y) ∈ L
  | [], _, _, h => by cases h
  | (a, b) :: r, x, y, h => by
    unfold find2 at h
    split at h
    · rename_i e
      cases h
      rw [beq_t.mp e]
      exact List.mem_cons_self ..
    · exact List.mem_cons_of_mem _ (find2_mem h)
theorem find3_mem : ∀ {L : List (Nat × Nat × Nat)} {x y z : Nat}, find3 L x y = some z → (x, y, z) ∈ L
  | [], _, _, _, h => by cases h
  | (a, b, c) :: r, x, y, z, h => by
    unfold find3 at h
    split at h
    · rename_i e
      rw [Bool.and_eq_true] at e
      cases h
      rw [beq_t.mp e.1, beq_t.mp e.2]
      exact List.mem_cons_self ..
    · exact List.mem_cons_of_mem _ (find3_mem h)
theorem mem2_mem : ∀ {L : List (Nat × Nat)} {x y : Nat}, mem2 L x y = true → (x, y) ∈ L
  | [], _, _, h => by cases h
  | (a, b) :: r, x, y, h => by
    unfold mem2 at h
    rw [Bool.or_eq_true, Bool.and_eq_true] at h
    rcases h with h | h
    · rw [beq_t.mp h.1, beq_t.mp h.2]
      exact List.mem_cons_self ..
    · exact List.mem_cons_of_mem _ (mem2_mem h)
theorem findV_mem : ∀ {L : List (TC × TC × Bool)} {x y : TC} {z : Bool}, findV L x y = some z → (x, y, z) ∈ L
  | [], _, _, _, h => by cases h
  | (a, b, c) :: r, x, y, z, h => by
    unfold findV at h
    split at h
    · rename_i e
      rw [Bool.and_eq_true, decide_eq_true_eq, decide_eq_true_eq] at e
      cases h
      rw [e.1, e.2]
      exact List.mem_cons_self ..
    · exact List.mem_cons_of_mem _ (findV_mem h)
section
variable (T : Dat)
def Dat.nm (i : Nat) : Str := nmOf T.nmL i
/-- which class's instances are of which class: own exceptions by a table of bits -/
def Dat.isv : TC → TC → Option Bool := fun t c => match t with
  | .exc a => if Nat.blt a 64 && Nat.testBit T.isxE a then match c with
    | .own b => if Nat.blt b T.clsL.length && Nat.blt b 64 then some (Nat.testBit T.isxM (64 * a + b)) else none
    | .ty y => findT T.isxT y
    | .exc _ => none else none
  | _ => findV T.isvL t c
def Dat.xps (c : Nat) : List Str := match findX T.exL c with
  | some fi => fi.ps.tail
  | none => []
def Dat.tab : Tab := ⟨mem2 T.fldL, find3 T.mtL, find2 T.iniL, T.isv, find3 T.xfL, findX T.exL, mem1 T.x0L, findM T.exmL⟩
def Dat.P (f : Nat) : Option FI := T.fis[f]?
def Dat.F (f : Nat) : Option FB := (T.fbs[f]?).map (·.1)
def Dat.cst (j : Nat) : Option D := (T.cstL[j]?).map (·.2)
def gloOf (d : He.DefD) : Option Str := match d.at_ with
  | (x, none) => some x
  | _ => none
def Dat.G : Gt where
  T := T.tab
  nm := T.nm
  nF := fun f => (T.fns[f]?).bind gloOf
  nC := fun c => T.clsL[c]?
  nK := fun j => (T.cstL[j]?).map (·.1)
  cst := T.cst
  fr := fun b => decide (b ∈ T.frL)
variable (K : PySem.W.Frag)
def Dat.fa (f : Nat) : Addr := match T.fns[f]? with
  | some d => He.fAd K d.at_
  | none => 0
def Dat.ca (c : Nat) : Addr := match T.clsL[c]? with
  | some x => He.ga K x
  | none => 0
mutual
def relD : Nat → D → Value → Bool
  | 0, _, _ => false
  | n + 1, d, u => match d, u with
    | .non, .none => true
    | .bl a, .bool b => decide (a = b)
    | .int i, .int j _ => decide (i = j)
    | .str cs, .str y _ => decide (y = ⟨cs.toArray⟩)
    | .tup ds, .ref a => match K.lookup a with
      | some ⟨.type c, _, .seq its _, _⟩ => decide (c = "tuple") && decide (its.size ≤ sizeLine) && relDs n ds its.toList
      | _ => false
    | _, _ => false
def relDs : Nat → List D → List Value → Bool
  | 0, _, _ => false
  | n + 1, ds, us => match ds, us with
    | [], [] => true
    | d :: ds, u :: us => relD n d u && relDs n ds us
    | _, _ => false
end
def dvD : He.Dv → Option D
  | .non => some .non
  | .bl b => some (.bl b)
  | .int i => some (.int i)
  | .str x => some (.str x.cps.toList)
  | _ => none
def dflOk : List D → List He.Dv → Bool
  | [], [] => true
  | .non :: ds, .non :: vs => dflOk ds vs
  | .bl a :: ds, .bl b :: vs => decide (a = b) && dflOk ds vs
  | .int a :: ds, .int b :: vs => decide (a = b) && dflOk ds vs
  | .str cs :: ds, .str y :: vs => decide (y = ⟨cs.toArray⟩) && dflOk ds vs
  | _, _ => false
def clsB (x : Str) : Bool := (He.Fa.cls x).ok K
def bmethB (C : Addr) (m : Str) (g : Addr) : Bool := He.eqO (PySem.W.findIn K (.ref C) m) (some (some (.ref g))) && PySem.W.isFn K (.ref g) && PySem.W.keepIn K (.ref g) && He.eqO (PySem.W.specialIn K (.ref g) "__get__") (some (some (.builtin "function.__get__"))) &&
  decide (PySem.W.takesIn K (.ref g) = some false) && !PySem.W.copiedNames.contains m && PySem.W.fnIn K g
theorem bmethB_ok {C : Addr} {m : Str} {g : Addr} (h : bmethB K C m g = true) : BMeth K C m g := by
  unfold bmethB at h
  simp only [Bool.and_eq_true, decide_eq_true_eq, Bool.not_eq_true'] at h
  obtain ⟨⟨⟨⟨⟨⟨h1, h2⟩, h3⟩, h4⟩, h5⟩, h6⟩, h7⟩ := h
  exact ⟨⟨He.eqO_ok h1, h2, h3⟩, He.eqO_ok h4, h5, h6, h7⟩
def insB (C : Addr) : Bool := He.eqO (PySem.W.findIn K (.ref C) "__class__") (some (some (.builtin "object.__class__"))) && He.eqO (PySem.W.specialIn K (.builtin "object.__class__") "__get__") (some (some (.builtin "getset_descriptor.__get__"))) &&
  decide (PySem.W.takesIn K (.builtin "object.__class__") = some true) && decide (PySem.W.mroIn K C (.type "object") = some true)
def clsAt (c : Nat) : Bool := match T.clsL[c]? with
  | some x => clsB K x
  | none => false
/-- what is asked of an exception class so that its instances are read -/
def excB (C : Addr) : Bool := He.eqO (PySem.W.findIn K (.ref C) "__getattribute__") (some (some (.builtin "BaseException.__getattribute__"))) && He.eqO (PySem.W.findIn K (.ref C) "__getattr__") (some none) && decide (PySem.W.subIn K (.ref C) (.type "BaseException") = some true) && PySem.W.hasDictIn K C && insB K C
theorem excB_ok {C : Addr} (h : excB K C = true) : ExcC K C := by
  unfold excB insB at h
  simp only [Bool.and_eq_true, decide_eq_true_eq] at h
  obtain ⟨⟨⟨⟨h1, h2⟩, h3⟩, h4⟩, ⟨⟨h5, h6⟩, h7⟩, h8⟩ := h
  exact ⟨He.eqO_ok h1, He.eqO_ok h2, h3, h4, He.eqO_ok h5, He.eqO_ok h6, h7, h8⟩
def oexB (C : Addr) : Bool := (match K.lookup C with
  | some ⟨.type t, _, .cls cd, sl⟩ => decide (t = "type") && (match cd.mro, sl.toList with
    | .ref C' :: bm, [_, _, _, _, some (.builtin n), _] => decide (C' = C) && decide (n = "ValueError.__new__") && !cd.hasDel && cd.hasDict && HandSPX.refsVE bm
    | _, _ => false)
  | _ => false) && He.eqO (PySem.W.findIn K (.ref C) "__setattr__") (some (some (.builtin "object.__setattr__"))) && decide (PySem.W.subIn K (.ref C) (.type "BaseException") = some true) && decide (PySem.W.typeIn K (.ref C) = some (.type "type")) && PySem.W.keepIn K (.ref C)
theorem oexB_ok {C : Addr} (h : oexB K C = true) : OexC K C := by
  unfold oexB at h
  simp only [Bool.and_eq_true, decide_eq_true_eq] at h
  obtain ⟨⟨⟨⟨h1, h2⟩, h3⟩, h4⟩, h5⟩ := h
  refine ⟨?_, He.eqO_ok h2, h3, h4, h5⟩
  split at h1
  · rename_i t dd cd sl ho
    rw [Bool.and_eq_true, decide_eq_true_eq] at h1
    obtain ⟨rfl, h1⟩ := h1
    split at h1
    · rename_i C' bm k0 k1 k2 k3 n k5 hm hs
      simp only [Bool.and_eq_true, Bool.not_eq_true', decide_eq_true_eq] at h1
      obtain ⟨⟨⟨⟨rfl, rfl⟩, hdel⟩, hdic⟩, ht⟩ := h1
      obtain ⟨nm, bs, mro, ns, qn, hd, sn, sub, ab, col, del⟩ := cd
      dsimp only at hm hdel hdic
      subst hm hdel hdic
      have hsl : sl = #[k0, k1, k2, k3, some (.builtin "ValueError.__new__"), k5] := by
        obtain ⟨l⟩ := sl
        simp only at hs
        rw [hs]
      subst hsl
      exact ⟨nm, qn, ns, bs, bm, sn, sub, ab, col, dd, k0, k1, k2, k3, k5, ho, ht⟩
    · cases h1
  · cases h1
/-- the def of an own __init__, as it was made -/
abbrev XW : Type := Option (Str × Str × Arguments × FuncBody × Scope × Addr × Addr)
def xW (p : Str × Option Str) : XW := match K.lookup (He.fAd K p) with
  | some ⟨_, _, .func fd, _⟩ => some (fd.name, fd.qualname, fd.params, fd.body, fd.scope, fd.globals, fd.builtins)
  | _ => none
def xVal (d : He.DefD) : XW := some (d.name, d.qual, d.params, .stmts d.body, d.scope, mainGlobals, builtinsNs)
def xfnB (file : Str) (C : Addr) (q : Str) (f : Addr) : Bool := match K.lookup f with
  | some ⟨_, _, .func fd, _⟩ => (match fd.closure with
    | [(n, cc)] => decide (n = "__class__") && (match K.lookup cc with
      | some ⟨_, _, .cell (some (.ref D)), _⟩ => decide (D = C)
      | _ => false)
    | _ => false) && (match fd.code with
    | .ref cda => PySem.W.codeIn K (.ref cda) q && (match K.lookup cda with
      | some ⟨_, _, .fields vs, _⟩ => (match (vs[2]? : Option Value) with
        | some (Value.str fl _) => decide (fl = file)
        | _ => false)
      | _ => false)
    | _ => false) && (match fd.defaults with
    | .none => true
    | _ => false)
  | _ => false
def xiB (file : Str) (C : Addr) (d : He.DefD) (ps : List Str) : Bool := xfnB K file C d.qual (He.fAd K d.at_) && oexB K C && decide (PySem.W.ks_superIn K C C "__init__" = some (some (.builtin "ValueError.__init__"))) && decide (PySem.W.subIn K (.ref C) (.type "ValueError") = some true) &&
  decide (PySem.W.mroIn K C (.ref C) = some true) && He.eqO (PySem.W.findIn K (.ref C) "__init__") (some (some (.ref (He.fAd K d.at_)))) && decide (PySem.W.typeIn K (.ref (He.fAd K d.at_)) = some (.type "function")) && ps.all fun x => He.eqO (PySem.W.findIn K (.ref C) x) (some none)
def tcB (t c : TC) (b : Bool) : Bool := decide (PySem.W.kitOne K (t.val (T.ca K)) (c.val (T.ca K)) = some b) && match t with
  | .own x => clsAt T K x && insB K (T.ca K x)
  | .exc x => excB K (T.ca K x)
  | _ => true
/-- the look at the heap -/
def Dat.chk : Bool :=
  T.fldL.all (fun p => clsAt T K p.1 && He.eqO (PySem.W.findIn K (.ref (T.ca K p.1)) (T.nm p.2)) (some none)) &&
  T.mtL.all (fun p => clsAt T K p.1 && bmethB K (T.ca K p.1) (T.nm p.2.1) (T.fa K p.2.2)) &&
  T.iniL.all (fun p => PySem.W.makesIn K (T.ca K p.1) && He.eqO (PySem.W.findIn K (.ref (T.ca K p.1)) "__init__") (some (some (.ref (T.fa K p.2)))) && PySem.W.isFn K (.ref (T.fa K p.2)) && PySem.W.keepIn K (.ref (T.ca K p.1))) &&
  T.isvL.all (fun p => tcB T K p.1 p.2.1 p.2.2) &&
  (List.range 64).all (fun a => !Nat.testBit T.isxE a || (excB K (T.ca K a) && ((List.range 64).all fun b => !Nat.blt b T.clsL.length || decide (PySem.W.kitOne K (.ref (T.ca K a)) (.ref (T.ca K b)) = some (Nat.testBit T.isxM (64 * a + b)))) && T.isxT.all fun p => decide (PySem.W.kitOne K (.ref (T.ca K a)) (.type p.1.name) = some p.2))) &&
  T.cstL.all (fun p => match PySem.W.nsIn K mainGlobals p.1 with
    | some (some u) => relD K 1000 p.2 u
    | _ => false) &&
  T.frL.all (fun b => (He.Fa.free b.name).ok K) &&
  T.clsL.all (fun x => (He.Fa.glo x).ok K) &&
  T.exL.all (fun p => xiB K T.file (T.ca K p.1) p.2.1 p.2.2.ps.tail) &&
  T.x0L.all (fun c => PySem.W.excIn K (T.ca K c) He.veBase "ValueError.__new__" && PySem.W.keepIn K (.ref (T.ca K c)) && decide (PySem.W.subIn K (.ref (T.ca K c)) (.type "BaseException") = some true) && decide (PySem.W.typeIn K (.ref (T.ca K c)) = some (.type "type"))) &&
  T.xfL.all (fun p => decide ((T.xps p.1)[p.2.2]? = some (T.nm p.2.1)) && decide (T.xps p.1).Nodup && He.eqO (PySem.W.findIn K (.ref (T.ca K p.1)) (T.nm p.2.1)) (some none) && excB K (T.ca K p.1)) &&
  T.exmL.all (fun p => decide (PySem.W.exmOne K (.ref (T.ca K p.1)) (.ref (T.ca K p.2.1)) = some p.2.2)) &&
  (T.exL.isEmpty || (He.eqO (PySem.W.nsIn K cStatics "thirdparty.any") (some none) && He.eqO (PySem.W.nsIn K mainGlobals "super") (some none))) &&
  (match K.lookup sysModules with
    | some o => decide (o.cls = .type "dict")
    | none => false) &&
  T.fns.all (fun d => d.ok K && PySem.W.fnIn K (He.fAd K d.at_) && match gloOf d with
    | some x => (He.Fa.glo x).ok K
    | none => true)
/-- what is met anew, by a mask of what was met -/
def put1 {α : Type} (k : Nat → List Addr → α) : List Addr → Nat → List Addr → α
  | [], seen, acc => k seen acc
  | b :: r, seen, acc => match Nat.testBit seen b with
    | true => put1 k r seen acc
    | false => HandSHeadRun.frNat (Nat.lor seen (Nat.shiftLeft 1 b)) fun seen => put1 k r seen (b :: acc)
def refsL (g : Addr → Option Obj) : List Addr → List Addr
  | [] => []
  | a :: r => (match g a with
    | some o => He.refsD o
    | none => []) ++ refsL g r
/-- what is met in n steps -/
def asB (g : Addr → Option Obj) : Nat → Nat → List Addr → List Addr → List Addr
  | 0, _, all, _ => all
  | n + 1, seen, all, fr => put1 (fun seen nw => asB g n seen (all ++ nw) nw) (refsL g fr) seen []
def asN (g : Addr → Option Obj) (n : Nat) : List Addr := asB g n (Nat.lor (Nat.shiftLeft 1 mainGlobals) (Nat.shiftLeft 1 builtinsNs)) [mainGlobals, cStatics, sysModules] [mainGlobals]
abbrev AlG : Type := Bool × List He.FnW × List XW
def obsG (T : Dat) (K : PySem.W.Frag) : AlG := (T.chk K, T.fns.map (fun d => He.fnW K d.at_), T.exL.map fun p => xW K p.2.1.at_)
def valG (T : Dat) : AlG := (true, T.fns.map He.DefD.val, T.exL.map fun p => xVal p.2.1)
def obsGG (n : Nat) (T : Dat) (g : Addr → Option Obj) : AlG := obsG T (He.frG g (asN g n))
def hookG (n : Nat) (T : Dat) : PySem.W.Hook where
  α := AlG
  obs := fun s => obsGG n T s.heap.get?
  val := fun _ => valG T
  says := fun _ h => ∃ K : PySem.W.Frag, K.In h ∧ obsG T K = valG T
  of := fun _ _ e => ⟨_, He.frG_in, e⟩
  keeps := fun _ _ _ ⟨K, hK, c⟩ k => ⟨K, PySem.W.Frag.In.keeps hK k, c⟩
theorem obsGG_eq {n : Nat} {T : Dat} {g : Addr → Option Obj} {s : Shared} (h : ∀ a, g a = s.heap.get? a) : obsGG n T g = (hookG n T).obs s := by
  have e : g = s.heap.get? := funext h
  rw [e] <;> rfl
end
section
variable {T : Dat} {K : PySem.W.Frag}
mutual
theorem relD_ok {B : Tb} (hB : B.K = K) : ∀ {n : Nat} {d : D} {u : Value}, relD K n d u = true → ∃ v, RelV v u ∧ ∀ w, Rv B w d v := fun {n d u} h => by
  cases n with
  | zero => simp [relD] at h
  | succ n =>
    unfold relD at h
    split at h
    · exact ⟨.non, rfl, fun _ => rv_non⟩
    · have h := of_decide_eq_true h
      subst h
      exact ⟨.bl _, rfl, fun _ => rv_bl⟩
    · have h := of_decide_eq_true h
      subst h
      exact ⟨.int _, ⟨_, rfl⟩, fun _ => rv_int⟩
    · have h := of_decide_eq_true h
      subst h
      exact ⟨.str _, ⟨_, rfl⟩, fun _ => rv_str⟩
    · rename_i ds a
      split at h
      · rename_i c od its m sl e
        rw [Bool.and_eq_true, Bool.and_eq_true, decide_eq_true_eq, decide_eq_true_eq] at h
        obtain ⟨⟨h1, h2⟩, h3⟩ := h
        obtain ⟨vs, rv, q⟩ := relDs_ok hB h3
        refine ⟨.ref a, rfl, fun w => ?_⟩
        simp only [Rv]
        exact ⟨a, vs, rfl, .inr ⟨_, its, m, by rw [hB]; exact e, by rw [h1], rfl, h2, rv⟩, q w⟩
      · cases h
    · cases h
theorem relDs_ok {B : Tb} (hB : B.K = K) : ∀ {n : Nat} {ds : List D} {us : List Value}, relDs K n ds us = true → ∃ vs, Vals vs us ∧ ∀ w, Rvs B w ds vs := fun {n ds us} h => by
  cases n with
  | zero => simp [relDs] at h
  | succ n =>
    unfold relDs at h
    split at h
    · exact ⟨[], .nil, fun _ => .nil⟩
    · rw [Bool.and_eq_true] at h
      obtain ⟨v, r1, q1⟩ := relD_ok hB h.1
      obtain ⟨vs, r2, q2⟩ := relDs_ok hB h.2
      exact ⟨v :: vs, .cons r1 r2, fun w => .cons (q1 w) (q2 w)⟩
    · cases h
end
theorem dflOk_ok {B : Tb} : ∀ {ds : List D} {vs : List He.Dv}, dflOk ds vs = true → ∀ w, Rvs B w ds (vs.map (He.Dv.v K))
  | [], [], _, w => .nil
  | [], _ :: _, h, _ => by simp [dflOk] at h
  | d :: ds, [], h, _ => by cases d <;> simp [dflOk] at h
  | d :: ds, v :: vs, h, w => by
    cases d with
    | non =>
      cases v with
      | non => exact .cons rv_non (dflOk_ok (ds := ds) (vs := vs) h w)
      | _ => simp [dflOk] at h
    | bl a =>
      cases v with
      | bl b =>
        simp only [dflOk, Bool.and_eq_true, decide_eq_true_eq] at h
        rw [h.1]
        exact .cons rv_bl (dflOk_ok h.2 w)
      | _ => simp [dflOk] at h
    | int a =>
      cases v with
      | int b =>
        simp only [dflOk, Bool.and_eq_true, decide_eq_true_eq] at h
        rw [h.1]
        exact .cons rv_int (dflOk_ok h.2 w)
      | _ => simp [dflOk] at h
    | str a =>
      cases v with
      | str b =>
        simp only [dflOk, Bool.and_eq_true, decide_eq_true_eq] at h
        rw [h.1]
        exact .cons rv_str (dflOk_ok h.2 w)
      | _ => simp [dflOk] at h
    | _ => simp [dflOk] at h
theorem clsAt_ok {c : Nat} (h : clsAt T K c = true) : Cls K (T.ca K c) := by
  unfold clsAt at h
  unfold Dat.ca
  split at h
  · exact He.cls_ok h
  · cases h
/-- the look, taken apart -/
structure Chk (T : Dat) (K : PySem.W.Frag) : Prop where
  fld : ∀ p ∈ T.fldL, (clsAt T K p.1 && He.eqO (PySem.W.findIn K (.ref (T.ca K p.1)) (T.nm p.2)) (some none)) = true
  mt : ∀ p ∈ T.mtL, (clsAt T K p.1 && bmethB K (T.ca K p.1) (T.nm p.2.1) (T.fa K p.2.2)) = true
  ini : ∀ p ∈ T.iniL, (PySem.W.makesIn K (T.ca K p.1) && He.eqO (PySem.W.findIn K (.ref (T.ca K p.1)) "__init__") (some (some (.ref (T.fa K p.2)))) && PySem.W.isFn K (.ref (T.fa K p.2)) && PySem.W.keepIn K (.ref (T.ca K p.1))) = true
  isv : ∀ p ∈ T.isvL, tcB T K p.1 p.2.1 p.2.2 = true
  isx : ∀ a < 64, Nat.testBit T.isxE a = true → ExcC K (T.ca K a) ∧ (∀ b < 64, b < T.clsL.length → PySem.W.kitOne K (.ref (T.ca K a)) (.ref (T.ca K b)) = some (Nat.testBit T.isxM (64 * a + b))) ∧ ∀ p ∈ T.isxT, PySem.W.kitOne K (.ref (T.ca K a)) (.type p.1.name) = some p.2
  cst : ∀ p ∈ T.cstL, (match PySem.W.nsIn K mainGlobals p.1 with
    | some (some u) => relD K 1000 p.2 u
    | _ => false) = true
  fr : ∀ b ∈ T.frL, (He.Fa.free b.name).ok K = true
  cls : ∀ x ∈ T.clsL, (He.Fa.glo x).ok K = true
  ex : ∀ p ∈ T.exL, xiB K T.file (T.ca K p.1) p.2.1 p.2.2.ps.tail = true
  x0 : ∀ c ∈ T.x0L, (PySem.W.excIn K (T.ca K c) He.veBase "ValueError.__new__" && PySem.W.keepIn K (.ref (T.ca K c)) && decide (PySem.W.subIn K (.ref (T.ca K c)) (.type "BaseException") = some true) && decide (PySem.W.typeIn K (.ref (T.ca K c)) = some (.type "type"))) = true
  xf : ∀ p ∈ T.xfL, (decide ((T.xps p.1)[p.2.2]? = some (T.nm p.2.1)) && decide (T.xps p.1).Nodup && He.eqO (PySem.W.findIn K (.ref (T.ca K p.1)) (T.nm p.2.1)) (some none) && excB K (T.ca K p.1)) = true
  exm : ∀ p ∈ T.exmL, PySem.W.exmOne K (.ref (T.ca K p.1)) (.ref (T.ca K p.2.1)) = some p.2.2
  sup : T.exL ≠ [] → PySem.W.nsIn K cStatics "thirdparty.any" = some none ∧ (He.Fa.free "super").ok K = true
  smd : ∃ o, K.lookup sysModules = some o ∧ o.cls = .type "dict"
  fns : ∀ d ∈ T.fns, (d.ok K && PySem.W.fnIn K (He.fAd K d.at_) && match gloOf d with
    | some x => (He.Fa.glo x).ok K
    | none => true) = true
theorem Dat.chk_of (h : T.chk K = true) : Chk T K := by
  unfold Dat.chk at h
  simp only [Bool.and_eq_true, List.all_eq_true] at h
  obtain ⟨⟨⟨⟨⟨⟨⟨⟨⟨⟨⟨⟨⟨⟨h1, h2⟩, h3⟩, h4⟩, hx⟩, h5⟩, h6⟩, h7⟩, h8⟩, h9⟩, h10⟩, h11⟩, h12⟩, h13⟩, h14⟩ := h
  refine ⟨fun p hp => by simpa only [Bool.and_eq_true] using h1 p hp, fun p hp => by simpa only [Bool.and_eq_true] using h2 p hp, fun p hp => by simpa only [Bool.and_eq_true] using h3 p hp, h4, fun a ha hb => ?_, h5, h6, h7, h8, fun p hp => by simpa only [Bool.and_eq_true] using h9 p hp,
    fun p hp => by simpa only [Bool.and_eq_true] using h10 p hp, fun p hp => of_decide_eq_true (h11 p hp), fun hne => ?_, ?_, fun p hp => by simpa only [Bool.and_eq_true] using h14 p hp⟩
  · have h := hx a (List.mem_range.mpr ha)
    rw [Bool.or_eq_true] at h
    rcases h with h | h
    · rw [hb] at h; cases h
    · simp only [Bool.and_eq_true, List.all_eq_true] at h
      obtain ⟨⟨h1, h2⟩, h3⟩ := h
      refine ⟨excB_ok K h1, fun b hb2 hb3 => ?_, fun p hp => of_decide_eq_true (h3 p hp)⟩
      have h := h2 b (List.mem_range.mpr hb2)
      rw [Bool.or_eq_true] at h
      rcases h with h | h
      · have e : Nat.blt b T.clsL.length = true := Nat.ble_eq_true_of_le hb3
        rw [e] at h; cases h
      · exact of_decide_eq_true h
  · rw [Bool.or_eq_true] at h12
    rcases h12 with h12 | h12
    · exact absurd (by simpa using h12) hne
    · rw [Bool.and_eq_true] at h12
      exact ⟨He.eqO_ok h12.1, h12.2⟩
  · split at h13
    · rename_i o e
      exact ⟨o, e, of_decide_eq_true h13⟩
    · cases h13
/-- the table of the heap -/
def Dat.B (T : Dat) (K : PySem.W.Frag) (hn : nmGood T.nmL = true) (hc : T.chk K = true) : Tb where
  K := K
  fa := T.fa K
  ca := T.ca K
  wa := fun _ => 0
  nm := T.nm
  nmi := nm_inj hn
  smd := (Dat.chk_of hc).smd
  fld := mem2 T.fldL
  fldC := fun c f h => by
    have := (Dat.chk_of hc).fld _ (mem2_mem h)
    rw [Bool.and_eq_true] at this
    exact ⟨clsAt_ok this.1, He.eqO_ok this.2⟩
  xps := T.xps
  xf := find3 T.xfL
  xfC := fun c f i h => by
    have := (Dat.chk_of hc).xf _ (find3_mem h)
    simp only [Bool.and_eq_true, decide_eq_true_eq] at this
    exact ⟨this.1.1.1, this.1.1.2, He.eqO_ok this.1.2, excB_ok K this.2⟩
  mt := find3 T.mtL
  mtC := fun c m f h => by
    have := (Dat.chk_of hc).mt _ (find3_mem h)
    rw [Bool.and_eq_true] at this
    exact ⟨clsAt_ok this.1, bmethB_ok K this.2⟩
  ini := find2 T.iniL
  iniC := fun c f h => by
    have := (Dat.chk_of hc).ini _ (find2_mem h)
    simp only [Bool.and_eq_true] at this
    exact ⟨this.1.1.1, He.eqO_ok this.1.1.2, this.1.2, this.2⟩
  isv := T.isv
  isvC := fun t c b h => by
    unfold Dat.isv at h
    split at h
    · rename_i a
      split at h
      · rename_i ha
        rw [Bool.and_eq_true] at ha
        obtain ⟨_, k2, k3⟩ := (Dat.chk_of hc).isx a (Nat.le_of_ble_eq_true ha.1) ha.2
        split at h
        · rename_i b'
          split at h
          · rename_i hb
            rw [Bool.and_eq_true] at hb
            cases h
            exact k2 b' (Nat.le_of_ble_eq_true hb.2) (Nat.le_of_ble_eq_true hb.1)
          · cases h
        · exact k3 _ (findT_mem h)
        · cases h
      · cases h
    · have := (Dat.chk_of hc).isv _ (findV_mem h)
      unfold tcB at this
      rw [Bool.and_eq_true] at this
      exact of_decide_eq_true this.1
  exC := fun c d b h => by
    unfold Dat.isv at h
    split at h
    · rename_i a heq
      cases heq
      split at h
      · rename_i ha
        rw [Bool.and_eq_true] at ha
        exact ((Dat.chk_of hc).isx _ (Nat.le_of_ble_eq_true ha.1) ha.2).1
      · cases h
    · rename_i hne
      exact absurd rfl (hne _)
  insC := fun c d b h => by
    have := (Dat.chk_of hc).isv _ (findV_mem (show findV T.isvL (.own c) d = some b from h))
    unfold tcB insB at this
    simp only [Bool.and_eq_true, decide_eq_true_eq] at this
    obtain ⟨_, h1, ⟨⟨h2, h3⟩, h4⟩, h5⟩ := this
    exact ⟨clsAt_ok h1, He.eqO_ok h2, He.eqO_ok h3, h4, h5⟩
/-- the text's own check: cores, defaults -/
def fxOf (d : He.DefD) : FX := ⟨d.name, d.qual, d.params, d.body, d.scope⟩
def Dat.ok1 (T : Dat) : FI → FB × List Str → He.DefD → Bool := fun fi b d => okD T.G T.P fi b.1 b.2 (fxOf d) && dflOk fi.dfl d.dfl && d.kwd.isEmpty
def okAll (f : FI → FB × List Str → He.DefD → Bool) : List FI → List (FB × List Str) → List He.DefD → Bool
  | [], [], [] => true
  | a :: as, b :: bs, c :: cs => f a b c && okAll f as bs cs
  | _, _, _ => false
theorem okAll_at {f : FI → FB × List Str → He.DefD → Bool} : ∀ {as : List FI} {bs : List (FB × List Str)} {cs : List He.DefD} {i : Nat} {a : FI}, okAll f as bs cs = true → as[i]? = some a → ∃ b c, bs[i]? = some b ∧ cs[i]? = some c ∧ f a b c = true
  | [], _, _, _, _, _, e => by simp at e
  | a :: as, bs, cs, i, x, h, e => by
    cases bs with
    | nil => simp [okAll] at h
    | cons b bs =>
      cases cs with
      | nil => simp [okAll] at h
      | cons c cs =>
        simp only [okAll, Bool.and_eq_true] at h
        cases i with
        | zero => simp at e; subst e; exact ⟨b, c, rfl, rfl, h.1⟩
        | succ i => simpa using okAll_at (i := i) h.2 (by simpa using e)
def xscB (me : Str) (ps : List Str) (sc : Scope) : Bool :=
  (match sc.kind with | .function => true | _ => false) && !sc.isCoroutine && !sc.isGenerator && (sc.names.all fun y => match y.2 with | .cell => false | _ => true) && glB sc "super" && (match sc.names.lookup ("__class__" : Str) with | some .free => true | _ => false) &&
  ((me :: ps).all fun x => locS sc x && !(x == ("__debug__" : Str))) && decide (me :: ps).Nodup
theorem xscB_ok {me : Str} {ps : List Str} {sc : Scope} (h : xscB me ps sc = true) : XSc me ps sc := by
  unfold xscB at h
  simp only [Bool.and_eq_true, Bool.not_eq_true', decide_eq_true_eq] at h
  obtain ⟨⟨⟨⟨⟨⟨⟨h1, h2⟩, h3⟩, h4⟩, h5⟩, h6⟩, h7⟩, h8⟩ := h
  refine ⟨?_, h2, h3, fun x hx e => ?_, ?_, ?_, fun x hx => ?_, h8⟩
  · split at h1
    · assumption
    · cases h1
  · have := List.all_eq_true.mp h4 x hx
    rw [e] at this
    cases this
  · unfold glB at h5
    split at h5
    · assumption
    · cases h5
  · split at h6
    · assumption
    · cases h6
  · have := List.all_eq_true.mp h7 x hx
    rw [Bool.and_eq_true] at this
    unfold locS at this
    refine ⟨?_, by simpa using this.2⟩
    have h := this.1
    split at h
    · assumption
    · cases h
def exOk (d : He.DefD) (fi : FI) : Bool := match fi.ps with
  | me :: ps => parsB d.params fi.ps && fi.dfl.isEmpty && !ps.isEmpty && Nat.ble ps.length 900 && xiBody me ps d.body && xscB me ps d.scope
  | [] => false
def Dat.good (T : Dat) : Bool := okAll T.ok1 T.fis T.fbs T.fns && T.exL.all fun p => exOk p.2.1 p.2.2
theorem xW_fd {d : He.DefD} {f : Addr} {file : Str} {C : Addr} (hf : f = He.fAd K d.at_) (h1 : xW K d.at_ = xVal d) (h2 : xfnB K file C d.qual f = true) : ∃ oc od osl cc cda kV doc pm an ct, K.lookup f = some ⟨oc, od, .func (PySem.W.fnX d.name d.qual d.params d.body d.scope [("__class__", cc)] .none kV doc pm an (.ref cda) ct), osl⟩ ∧
    PySem.W.codeIn K (.ref cda) d.qual = true ∧ (∃ ccl cdd vs ccs tf, K.lookup cda = some ⟨ccl, cdd, .fields vs, ccs⟩ ∧ vs[2]? = some (.str file tf)) ∧ ∃ cl cld csl, K.lookup cc = some ⟨cl, cld, .cell (some (.ref C)), csl⟩ := by
  subst hf
  unfold xW xVal at h1
  unfold xfnB at h2
  cases q : K.lookup (He.fAd K d.at_) with
  | none => rw [q] at h2; cases h2
  | some o =>
    obtain ⟨oc, od, dt, osl⟩ := o
    rw [q] at h1 h2
    cases dt with
    | func fd =>
      obtain ⟨name, qual, params, body, scope, globals, closure, dfl, kwd, doc, pm, an, code, ct, blt⟩ := fd
      simp only [Option.some.injEq, Prod.mk.injEq] at h1
      obtain ⟨rfl, rfl, rfl, rfl, rfl, rfl, rfl⟩ := h1
      simp only [Bool.and_eq_true] at h2
      obtain ⟨⟨h3, h4⟩, h5⟩ := h2
      split at h3
      · rename_i n cc
        rw [Bool.and_eq_true, decide_eq_true_eq] at h3
        obtain ⟨rfl, h3⟩ := h3
        split at h3
        · rename_i cl cld D csl ec
          have h3 := of_decide_eq_true h3
          subst h3
          split at h4
          · rename_i cda
            rw [Bool.and_eq_true] at h4
            obtain ⟨h4, h6⟩ := h4
            split at h6
            · rename_i ccl cdd vs ccs ecd
              split at h6
              · rename_i fl tf ev
                have h6 := of_decide_eq_true h6
                subst h6
                split at h5
                · exact ⟨oc, od, osl, cc, cda, _, _, _, _, _, rfl, h4, ⟨ccl, cdd, vs, ccs, tf, ecd, ev⟩, ⟨cl, cld, csl, ec⟩⟩
                · cases h5
              · cases h6
            · cases h6
          · cases h4
        · cases h3
      · cases h3
    | _ => cases h2
theorem Dat.xcg {prog : Program} {mg : Str → Option Value} {h : Heap} (X : K.In h) (Gm : h.Ns mainGlobals mg) (hn : nmGood T.nmL = true) (hg : T.good = true) (hs : obsG T K = valG T) (hc : T.chk K = true) (hfile : (prog.main.file == T.file) = true) (htop : (prog.main.scope.names.lookup ("super" : Str)).isSome = false)
    (Y : Cx) (h1 : Y.prog = prog) (h2 : Y.K = K) (h3 : Y.mg = mg) (c : Nat) (fi : FI) (e : findX T.exL c = some fi) : XcG (T.B K hn hc) Y c fi := by
  subst h1 h2 h3
  obtain ⟨d, hd⟩ := findX_mem e
  have C := Dat.chk_of hc
  have c1 := C.ex _ hd
  unfold Dat.good at hg
  rw [Bool.and_eq_true, List.all_eq_true] at hg
  have g1 := hg.2 _ hd
  have e3 : T.exL.map (fun p => xW Y.K p.2.1.at_) = T.exL.map (fun p => xVal p.2.1) := congrArg (fun z : AlG => z.2.2) hs
  have e4 : xW Y.K d.at_ = xVal d := List.map_inj_left.mp e3 _ hd
  unfold xiB at c1
  simp only [Bool.and_eq_true, decide_eq_true_eq] at c1
  obtain ⟨⟨⟨⟨⟨⟨⟨x1, x2⟩, x3⟩, x4⟩, x5⟩, x6⟩, x7⟩, x8⟩ := c1
  have x2 := oexB_ok Y.K x2
  obtain ⟨s1, s2⟩ := C.sup (fun z => by rw [z] at hd; cases hd)
  obtain ⟨oc, od, osl, cc, cda, kV, doc, pm, an, ct, lk, hcd, ⟨ccl, cdd, vs, ccs, tf, l1, l2⟩, hcell⟩ := xW_fd rfl e4 x1
  unfold exOk at g1
  cases ep : fi.ps with
  | nil => rw [ep] at g1; cases g1
  | cons me ps =>
    rw [ep] at g1
    simp only [Bool.and_eq_true] at g1
    obtain ⟨⟨⟨⟨⟨g1, g2⟩, g3⟩, g4⟩, g5⟩, g6⟩ := g1
    have hx : T.xps c = ps := by
      unfold Dat.xps
      rw [e]
      dsimp only
      rw [ep]
      rfl
    unfold parsB at g1
    split at g1
    · rename_i As dfl epar
      have hAs := of_decide_eq_true g1
      rw [ep] at x8
      refine ⟨⟨me, ps, ep, hx, ⟨⟨_, _, ⟨⟨_, _, _, _, _, cc, cda, _, _, _, _, _, _, rfl, hcd, ⟨ccl, cdd, vs, ccs, T.file, tf, l1, l2, hfile⟩, hcell, ⟨As, dfl, epar, hAs⟩, rfl, g5, xscB_ok g6⟩, ⟨oc, od, osl, lk⟩, x2, htop, x3, x4, x5, s1, fun x hx' => He.eqO_ok (List.all_eq_true.mp x8 x hx')⟩, He.eqO_ok x6, x7⟩,
        He.free_ok X Gm s2, (fun z => by rw [z] at g3; cases g3), Nat.le_of_ble_eq_true g4⟩⟩, by simpa using g2, x2.kC, raises_own x2.exC x2.tyC⟩
    · cases g1
theorem Dat.wf {prog : Program} {h : Heap} {mg : Str → Option Value} (X : K.In h) (Gm : h.Ns mainGlobals mg) (hn : nmGood T.nmL = true) (hg : T.good = true) (hs : obsG T K = valG T) (hc : T.chk K = true) (hfile : (prog.main.file == T.file) = true) (htop : (prog.main.scope.names.lookup ("super" : Str)).isSome = false) : Wf prog T.G T.P T.F (T.B K hn hc) mg := by
  have C := Dat.chk_of hc
  refine ⟨⟨rfl, rfl, rfl, rfl, rfl⟩, fun Y h1 h2 h3 c fi e => Dat.xcg X Gm hn hg hs hc hfile htop Y h1 h2 h3 c fi e, fun Y h2 c e => ?_, fun c h b e => C.exm _ (findM_mem e), fun _ => rfl, fun f x e => ?_, fun c x e => ?_, fun j x d e1 e2 => ?_, fun b e => ?_, fun f fi e => ?_⟩
  · subst h2
    have c1 := C.x0 _ (mem1_mem e)
    simp only [Bool.and_eq_true, decide_eq_true_eq] at c1
    exact ⟨c1.1.1.1, c1.1.1.2, raises_own c1.1.2 c1.2⟩
  · have e : (T.fns[f]?).bind gloOf = some x := e
    cases ed : T.fns[f]? with
    | none => rw [ed] at e; cases e
    | some d =>
      rw [ed] at e
      have e : gloOf d = some x := e
      have := C.fns d (List.mem_of_getElem? ed)
      rw [e, Bool.and_eq_true] at this
      have h1 := He.glo_ok X Gm this.2
      have h2 : T.fa K f = He.ga K x := by
        unfold Dat.fa
        rw [ed]
        unfold gloOf at e
        split at e
        · rename_i y ea
          cases e
          show He.fAd K d.at_ = _
          rw [ea]
          rfl
        · cases e
      rw [h1, show (T.B K hn hc).fa f = T.fa K f from rfl, h2]
  · have e : T.clsL[c]? = some x := e
    have := C.cls x (List.mem_of_getElem? e)
    have h1 := He.glo_ok X Gm this
    have h2 : T.ca K c = He.ga K x := by
      unfold Dat.ca
      rw [e]
    rw [h1, show (T.B K hn hc).ca c = T.ca K c from rfl, h2]
  · have e1 : (T.cstL[j]?).map (·.1) = some x := e1
    have e2 : (T.cstL[j]?).map (·.2) = some d := e2
    cases ed : T.cstL[j]? with
    | none => rw [ed] at e1; cases e1
    | some p =>
      rw [ed] at e1 e2
      cases e1
      cases e2
      have := C.cst p (List.mem_of_getElem? ed)
      split at this
      · rename_i u eu
        obtain ⟨v, r, q⟩ := relD_ok (B := T.B K hn hc) rfl this
        exact ⟨u, v, PySem.W.mg_of X Gm eu, r, q⟩
      · cases this
  · have := C.fr b (of_decide_eq_true e)
    exact He.free_ok X Gm this
  · unfold Dat.good at hg
    rw [Bool.and_eq_true] at hg
    obtain ⟨b, d, e1, e2, h1⟩ := okAll_at hg.1 e
    unfold Dat.ok1 at h1
    simp only [Bool.and_eq_true] at h1
    obtain ⟨⟨h1, h2⟩, h3⟩ := h1
    have h4 := C.fns d (List.mem_of_getElem? e2)
    simp only [Bool.and_eq_true] at h4
    have e3 : T.fns.map (fun d => He.fnW K d.at_) = T.fns.map He.DefD.val := congrArg (fun z : AlG => z.2.1) hs
    have e4 : He.fnW K d.at_ = d.val := by
      have := congrArg (fun l => l[f]?) e3
      simpa [List.getElem?_map, e2] using this
    obtain ⟨fd, hF⟩ := He.DefD.funD e4 h4.1.1
    have hk : d.kws K = [] := by
      unfold He.DefD.kws
      have : d.kwd = [] := by simpa using h3
      rw [this]
      rfl
    rw [hk] at hF
    have hfa : (T.B K hn hc).fa f = He.fAd K d.at_ := by
      show T.fa K f = _
      unfold Dat.fa
      rw [e2]
    refine ⟨b.1, b.2, fxOf d, d.dvs K, fd, ?_, h1, ?_, ?_, ?_⟩
    · show (T.fbs[f]?).map (·.1) = _
      rw [e1]; rfl
    · rw [hfa]; exact hF
    · exact dflOk_ok h2
    · rw [hfa]; exact h4.1.2
end
end G
end
section
/-! G29: a law's end. -/
namespace G
open PySem L2
/-- the store at the law's call: the script -/
def S0 (t : Tr) (ns : List Int) : Sto := (⟨0, t⟩ : Sto).push (.frz (ns.map D.int))
theorem rvs_ints {B : Tb} {w : Wd} : ∀ ns : List Int, Rvs B w (ns.map D.int) (ns.map V.int)
  | [] => .nil
  | n :: ns => .cons rv_int (rvs_ints ns)
theorem start_ok {B : Tb} {H : Hp} {a : Addr} {ns : List Int} {t : Tr} (ht : ∀ i, t.get i = none) (hO : Only H) (hS : SqL B.K H a (ns.map V.int)) : RS B ⟨fun _ => a, 1, H⟩ (S0 t ns) ∧ Rvs B ⟨fun _ => a, 1, H⟩ [.ref 0] [.ref a] := by
  refine ⟨⟨rfl, fun i c e => ?_, fun i j c c' e1 _ m _ _ => ?_⟩, .cons ?_ .nil⟩
  · unfold S0 at e
    rw [Sto.get_push] at e
    by_cases hi : i = 0
    · subst hi
      rw [if_pos rfl] at e
      cases e
      refine ⟨Nat.zero_lt_one, ?_⟩
      rcases hS with (h | ⟨o, h⟩) | h
      · rcases hO a with z | ⟨o, xs, z⟩
        · rw [z] at h; cases h
        · rw [z] at h; cases h
      · exact .inl ⟨_, h, o, _, rfl, rvs_ints ns⟩
      · exact .inr ⟨_, _, rfl, h, rvs_ints ns⟩
    · rw [if_neg hi] at e
      rw [show (⟨0, t⟩ : Sto).get i = t.get i from rfl, ht i] at e
      cases e
  · unfold S0 at e1
    rw [Sto.get_push] at e1
    by_cases hi : i = 0
    · subst hi
      rw [if_pos rfl] at e1
      cases e1
      cases m
    · rw [if_neg hi] at e1
      rw [show (⟨0, t⟩ : Sto).get i = t.get i from rfl, ht i] at e1
      cases e1
  · simp only [Rv]
    exact ⟨Nat.zero_lt_one, trivial⟩
/-- a law -/
theorem law_end {l : PySem.W.OpenLaw} {n kk fl : Nat} {q : Program} {loose : List Str} {XP : (Str → Option Value) → Heap → Prop} {d : DefRec} {x : Str} {fi : FI} {T : Dat}
    (hn : l.most = some n) (hn2 : n ≤ sizeLine) (hdf : d.params.defaults = []) (hr : Room (2 * kk) callerA)
    (hnm : nmGood T.nmL = true) (hg : T.good = true) (hfile : (l.prog.main.file == T.file) = true) (htop : (l.prog.main.scope.names.lookup ("super" : Str)).isSome = false) (hP : T.P fl = some fi) (hps : fi.ps = [x]) (hdl : fi.dfl = []) (hnF : T.G.nF fl = some d.name)
    {t : Tr} (ht : ∀ i, t.get i = none) (hrun : ∀ ns : List Int, ns.length ≤ n → Bits ns → ∃ S, callN T.tab T.P T.cst T.F kk fl [.ref 0] (S0 t ns) = some (.ok (.bl true) S)) :
    PySem.W.WalkO q loose XP (fun _ h => ∃ K : PySem.W.Frag, K.In h ∧ obsG T K = valG T) l.row.toRowW d [] (fun f vs => PySem.call f vs) := by
  have hcx : ∀ (w : World) (H : Hp) (e : Value) (s s' : Shared), CX l.prog w [] H s (fun _ _ _ => False) e s' → False := fun w H e s s' ⟨_, _, _, _, _, _, _, _, _, _, _, _, z⟩ => z
  refine walkX (l := l) (n := n) (k := 2 * kk) (x := x) (CX := fun w => CX l.prog w) hn hn2 hdf hr ?_ fun w H s e s' z => hcx w H e s s' z
  intro w mg fa h Y Gm hmg
  obtain ⟨K, KX, hs⟩ := Y
  have hc : T.chk K = true := congrArg (fun z : AlG => z.1) hs
  have W := Dat.wf KX Gm hnm hg hs hc hfile htop
  have e : fa = (T.B K hnm hc).fa fl := by
    have h1 := W.nF fl d.name hnF
    rw [hmg] at h1
    cases h1
    rfl
  subst e
  have lv := fun base => level (prog := l.prog) (w0 := w) (base := base) W kk fl fi hP
  obtain ⟨⟨fd, _, ⟨oc, od, osl, lk⟩, kb⟩, _, _⟩ := lv default
  obtain ⟨its, dvs, _, hb⟩ := kb 1 [] (by
    rw [hps, hdl]
    show bindOk [x] 1 [] 0 = true
    simp [bindOk])
  refine ⟨K, fd, spG (T.B K hnm hc) 1 (callN T.tab T.P T.cst T.F kk fl), KX, fun s u hK => ?_, fun H a ns hl hbt hO hS => ?_, fun base _ _ => ?_⟩
  · have h1 := hb.to s [u] [] hK rfl rfl
    rw [hps, hdl] at h1
    exact h1
  · obtain ⟨rs, r⟩ := start_ok (B := T.B K hnm hc) ht hO hS
    refine ⟨_, S0 t ns, _, rfl, rs, r, rfl, ?_⟩
    obtain ⟨S, e⟩ := hrun ns hl hbt
    rw [e]
    intro w' _ _ v rv
    simpa only [Rv] using rv
  · obtain ⟨⟨fd2, h1, ⟨oc2, od2, osl2, lk2⟩, _⟩, _, _⟩ := lv base
    rw [lk] at lk2
    have e : fd = fd2 := by
      have h := congrArg Obj.data (Option.some.inj lk2)
      exact Data.func.inj h
    subst e
    rw [hps] at h1
    exact h1.up
end G
end
section
namespace T
open PySem L2 G
abbrev ss (x : String) : Str := Str.ofString x
abbrev top (i : Nat) : Stmt := PySem.Challenge.pw_measuretongue_k01_errors_each_of_its_own.main.body.getD i (.Pass ⟨0, 0, 0, 0⟩)
def fA : Stmt → Arguments
  | .FunctionDef (args := a) .. => a
  | _ => ⟨[], [], none, [], [], none, []⟩
def fB : Stmt → List Stmt
  | .FunctionDef (body := b) .. => b
  | _ => []
def fS : Stmt → Scope
  | .FunctionDef (scope := s) .. => s
  | _ => ⟨.function, [], false, false, []⟩
def cB : Stmt → List Stmt
  | .ClassDef (body := b) .. => b
  | _ => []
/-- _law_purse -/
def b0 : CS := .seq (.asg (.nm 2) (.ite (.cmp .lt (.var 1) (.fun_ .len (.cons (.var 0) (.nil)))) (.idx (.var 0) (.var 1)) (.con (.int (0))))) (.seq (.asg (.nm 3) (.bin .mod (.fun_ .int (.cons (.bin .add (.bin .add (.bin .mul (.var 2) (.con (.int (22003)))) (.bin .mul (.var 1) (.con (.int (80021))))) (.con (.int (3001)))) (.nil))) (.con (.int (2147483549))))) (.seq (.for_ (.nm 4) (.any (.ite (.cmp .ge (.var 1) (.fun_ .len (.cons (.var 0) (.nil)))) (.slc (.var 0) .no (.yes (.con (.int (4))))) (.lst (.nil)))) (.seq (.asg (.nm 3) (.bin .mod (.fun_ .int (.cons (.bin .add (.bin .mul (.var 3) (.con (.int (15013)))) (.var 4)) (.nil))) (.con (.int (2147483549))))) (.nil))) (.seq (.ret (.lst (.cons (.ite (.cmp .ge (.fun_ .abs (.cons (.var 2) (.nil))) (.bin .pow (.con (.int (10))) (.con (.int (18))))) (.fun_ .abs (.cons (.var 2) (.nil))) (.con (.int (0)))) (.cons (.var 3) (.cons (.con (.int (0))) (.nil)))))) (.nil))))
/-- _law_take -/
def b1 : CS := .seq (.asg (.tp 3 (.cons (.nm 2) (.cons (.nm 3) (.cons (.nm 4) (.nil))))) (.var 0)) (.seq (.asg (.ix (.var 0) (.con (.int (1)))) (.bin .mod (.fun_ .int (.cons (.bin .add (.bin .add (.bin .mul (.var 3) (.bin .add (.con (.int (78007))) (.bin .mul (.con (.int (6))) (.var 4)))) (.bin .mul (.con (.int (41011))) (.var 4))) (.con (.int (27211)))) (.nil))) (.con (.int (2147483549))))) (.seq (.asg (.ix (.var 0) (.con (.int (2)))) (.bin .add (.var 4) (.con (.int (1))))) (.seq (.iff (.cmp .gt (.var 2) (.con (.int (0)))) (.seq (.asg (.ix (.var 0) (.con (.int (0)))) (.bin .div (.fun_ .int (.cons (.var 2) (.nil))) (.var 1))) (.seq (.ret (.bin .mod (.fun_ .int (.cons (.var 2) (.nil))) (.var 1))) (.nil))) (.nil)) (.seq (.ret (.bin .mod (.fun_ .int (.cons (.bin .div (.idx (.var 0) (.con (.int (1)))) (.con (.int (128)))) (.nil))) (.var 1))) (.nil)))))
/-- _law_pick -/
def b2 : CS := .seq (.ret (.idx (.var 1) (.call 1 2 (.cons (.var 0) (.cons (.fun_ .len (.cons (.var 1) (.nil))) (.nil))) [] (.nil)))) (.nil)
/-- _law_given_ones -/
def b3 : CS := .seq (.ret (.lst (.cons (.lst (.cons (.con (.str [103, 105, 118, 101, 110])) (.cons (.mkx 1 1 (.cons (.var 0) (.nil)) [] (.nil)) (.cons (.mkx 1 0 (.nil) [(ss "given")] (.cons (.var 0) (.nil))) (.nil))))) (.cons (.lst (.cons (.con (.str [103, 105, 118, 101, 110])) (.cons (.mkx 2 1 (.cons (.var 0) (.nil)) [] (.nil)) (.cons (.mkx 2 0 (.nil) [(ss "given")] (.cons (.var 0) (.nil))) (.nil))))) (.cons (.lst (.cons (.con (.str [103, 105, 118, 101, 110])) (.cons (.mkx 3 1 (.cons (.var 0) (.nil)) [] (.nil)) (.cons (.mkx 3 0 (.nil) [(ss "given")] (.cons (.var 0) (.nil))) (.nil))))) (.cons (.lst (.cons (.con (.str [103, 105, 118, 101, 110])) (.cons (.mkx 4 1 (.cons (.var 0) (.nil)) [] (.nil)) (.cons (.mkx 4 0 (.nil) [(ss "given")] (.cons (.var 0) (.nil))) (.nil))))) (.cons (.lst (.cons (.con (.str [103, 105, 118, 101, 110])) (.cons (.mkx 5 1 (.cons (.var 0) (.nil)) [] (.nil)) (.cons (.mkx 5 0 (.nil) [(ss "given")] (.cons (.var 0) (.nil))) (.nil))))) (.cons (.lst (.cons (.con (.str [103, 105, 118, 101, 110])) (.cons (.mkx 6 1 (.cons (.var 0) (.nil)) [] (.nil)) (.cons (.mkx 6 0 (.nil) [(ss "given")] (.cons (.var 0) (.nil))) (.nil))))) (.cons (.lst (.cons (.con (.str [103, 105, 118, 101, 110])) (.cons (.mkx 7 1 (.cons (.var 0) (.nil)) [] (.nil)) (.cons (.mkx 7 0 (.nil) [(ss "given")] (.cons (.var 0) (.nil))) (.nil))))) (.cons (.lst (.cons (.con (.str [103, 105, 118, 101, 110])) (.cons (.mkx 8 1 (.cons (.var 0) (.nil)) [] (.nil)) (.cons (.mkx 8 0 (.nil) [(ss "given")] (.cons (.var 0) (.nil))) (.nil))))) (.cons (.lst (.cons (.con (.str [103, 105, 118, 101, 110])) (.cons (.mkx 9 1 (.cons (.var 0) (.nil)) [] (.nil)) (.cons (.mkx 9 0 (.nil) [(ss "given")] (.cons (.var 0) (.nil))) (.nil))))) (.cons (.lst (.cons (.con (.str [103, 105, 118, 101, 110])) (.cons (.mkx 10 1 (.cons (.var 0) (.nil)) [] (.nil)) (.cons (.mkx 10 0 (.nil) [(ss "given")] (.cons (.var 0) (.nil))) (.nil))))) (.cons (.lst (.cons (.con (.str [103, 105, 118, 101, 110])) (.cons (.mkx 11 1 (.cons (.var 0) (.nil)) [] (.nil)) (.cons (.mkx 11 0 (.nil) [(ss "given")] (.cons (.var 0) (.nil))) (.nil))))) (.cons (.lst (.cons (.con (.str [103, 105, 118, 101, 110])) (.cons (.mkx 12 1 (.cons (.var 0) (.nil)) [] (.nil)) (.cons (.mkx 12 0 (.nil) [(ss "given")] (.cons (.var 0) (.nil))) (.nil))))) (.cons (.lst (.cons (.con (.str [103, 105, 118, 101, 110])) (.cons (.mkx 13 1 (.cons (.var 0) (.nil)) [] (.nil)) (.cons (.mkx 13 0 (.nil) [(ss "given")] (.cons (.var 0) (.nil))) (.nil))))) (.cons (.lst (.cons (.con (.str [103, 105, 118, 101, 110])) (.cons (.mkx 14 1 (.cons (.var 0) (.nil)) [] (.nil)) (.cons (.mkx 14 0 (.nil) [(ss "given")] (.cons (.var 0) (.nil))) (.nil))))) (.nil))))))))))))))))) (.nil)
/-- _law_index_ones -/
def b4 : CS := .seq (.ret (.lst (.cons (.lst (.cons (.con (.str [114, 111, 119])) (.cons (.mkx 15 2 (.cons (.var 0) (.cons (.lst (.cons (.var 0) (.nil))) (.nil))) [] (.nil)) (.cons (.mkx 15 0 (.nil) [(ss "row"), (ss "word")] (.cons (.var 0) (.cons (.lst (.cons (.var 0) (.nil))) (.nil)))) (.nil))))) (.cons (.lst (.cons (.con (.str [105, 110, 100, 101, 120])) (.cons (.mkx 16 1 (.cons (.var 0) (.nil)) [] (.nil)) (.cons (.mkx 16 0 (.nil) [(ss "index")] (.cons (.var 0) (.nil))) (.nil))))) (.cons (.lst (.cons (.con (.str [105, 110, 100, 101, 120])) (.cons (.mkx 17 1 (.cons (.var 0) (.nil)) [] (.nil)) (.cons (.mkx 17 0 (.nil) [(ss "index")] (.cons (.var 0) (.nil))) (.nil))))) (.cons (.lst (.cons (.con (.str [114, 101, 97, 115, 111, 110])) (.cons (.mkx 18 1 (.cons (.var 0) (.nil)) [] (.nil)) (.cons (.mkx 18 0 (.nil) [(ss "reason")] (.cons (.var 0) (.nil))) (.nil))))) (.cons (.lst (.cons (.con (.str [])) (.cons (.mkx 19 0 (.nil) [] (.nil)) (.cons (.mkx 19 0 (.nil) [] (.nil)) (.nil))))) (.cons (.lst (.cons (.con (.str [])) (.cons (.mkx 20 0 (.nil) [] (.nil)) (.cons (.mkx 20 0 (.nil) [] (.nil)) (.nil))))) (.cons (.lst (.cons (.con (.str [])) (.cons (.mkx 21 0 (.nil) [] (.nil)) (.cons (.mkx 21 0 (.nil) [] (.nil)) (.nil))))) (.cons (.lst (.cons (.con (.str [])) (.cons (.mkx 22 0 (.nil) [] (.nil)) (.cons (.mkx 22 0 (.nil) [] (.nil)) (.nil))))) (.cons (.lst (.cons (.con (.str [])) (.cons (.mkx 23 0 (.nil) [] (.nil)) (.cons (.mkx 23 0 (.nil) [] (.nil)) (.nil))))) (.cons (.lst (.cons (.con (.str [])) (.cons (.mkx 24 0 (.nil) [] (.nil)) (.cons (.mkx 24 0 (.nil) [] (.nil)) (.nil))))) (.nil))))))))))))) (.nil)
/-- _law_kinds -/
def b5 : CS := .seq (.asg (.nm 1) (.lst (.cons (.fun_ .isi (.cons (.var 0) (.cons (.clv 1) (.nil)))) (.cons (.fun_ .isi (.cons (.var 0) (.cons (.clv 2) (.nil)))) (.cons (.fun_ .isi (.cons (.var 0) (.cons (.clv 3) (.nil)))) (.cons (.fun_ .isi (.cons (.var 0) (.cons (.clv 4) (.nil)))) (.cons (.fun_ .isi (.cons (.var 0) (.cons (.clv 5) (.nil)))) (.cons (.fun_ .isi (.cons (.var 0) (.cons (.clv 6) (.nil)))) (.cons (.fun_ .isi (.cons (.var 0) (.cons (.clv 7) (.nil)))) (.cons (.fun_ .isi (.cons (.var 0) (.cons (.clv 8) (.nil)))) (.cons (.fun_ .isi (.cons (.var 0) (.cons (.clv 9) (.nil)))) (.cons (.fun_ .isi (.cons (.var 0) (.cons (.clv 10) (.nil)))) (.cons (.fun_ .isi (.cons (.var 0) (.cons (.clv 11) (.nil)))) (.cons (.fun_ .isi (.cons (.var 0) (.cons (.clv 12) (.nil)))) (.cons (.fun_ .isi (.cons (.var 0) (.cons (.clv 13) (.nil)))) (.nil)))))))))))))))) (.seq (.ret (.bin .add (.var 1) (.lst (.cons (.fun_ .isi (.cons (.var 0) (.cons (.clv 14) (.nil)))) (.cons (.fun_ .isi (.cons (.var 0) (.cons (.clv 15) (.nil)))) (.cons (.fun_ .isi (.cons (.var 0) (.cons (.clv 16) (.nil)))) (.cons (.fun_ .isi (.cons (.var 0) (.cons (.clv 17) (.nil)))) (.cons (.fun_ .isi (.cons (.var 0) (.cons (.clv 18) (.nil)))) (.cons (.fun_ .isi (.cons (.var 0) (.cons (.clv 19) (.nil)))) (.cons (.fun_ .isi (.cons (.var 0) (.cons (.clv 20) (.nil)))) (.cons (.fun_ .isi (.cons (.var 0) (.cons (.clv 21) (.nil)))) (.cons (.fun_ .isi (.cons (.var 0) (.cons (.clv 22) (.nil)))) (.cons (.fun_ .isi (.cons (.var 0) (.cons (.clv 23) (.nil)))) (.cons (.fun_ .isi (.cons (.var 0) (.cons (.clv 24) (.nil)))) (.nil))))))))))))))) (.nil))
/-- _law_kept -/
def b6 : CS := .seq (.iff (.cmp .eq (.var 0) (.con (.str [103, 105, 118, 101, 110]))) (.seq (.ret (.att (.var 1) 4)) (.nil)) (.nil)) (.seq (.iff (.cmp .eq (.var 0) (.con (.str [105, 110, 100, 101, 120]))) (.seq (.ret (.att (.var 1) 3)) (.nil)) (.nil)) (.seq (.iff (.cmp .eq (.var 0) (.con (.str [114, 111, 119]))) (.seq (.ret (.ite (.cmp .eq (.fun_ .repr (.cons (.att (.var 1) 1) (.nil))) (.fun_ .repr (.cons (.lst (.cons (.att (.var 1) 2) (.nil))) (.nil)))) (.att (.var 1) 2) (.con (.str [97, 110, 111, 116, 104, 101, 114, 32, 119, 111, 114, 100])))) (.nil)) (.nil)) (.seq (.ret (.ite (.cmp .eq (.var 0) (.con (.str [114, 101, 97, 115, 111, 110]))) (.att (.var 1) 0) (.con (.non)))) (.nil))))
/-- _law_is_plain -/
def b7 : CS := .seq (.iff (.boo false (.cons (.not (.fun_ .isi (.cons (.var 0) (.cons (.clv 0) (.nil))))) (.cons (.not (.fun_ .isi (.cons (.var 0) (.cons (.typ .eV) (.nil))))) (.nil)))) (.seq (.ret (.con (.bl false))) (.nil)) (.nil)) (.seq (.ret (.not (.fun_ .isi (.cons (.var 0) (.cons (.tup (.cons (.typ .eL) (.cons (.typ .eA) (.cons (.typ .eT) (.cons (.typ .eAt) (.cons (.typ .eR) (.nil))))))) (.nil)))))) (.nil))
/-- _law_is_caught -/
def b8 : CS := .seq (.try_ (.iff (.cmp .eq (.var 0) (.con (.int (0)))) 1 1 (.cons (.var 1) (.nil)) [] (.nil) (.iff (.cmp .eq (.var 0) (.con (.int (1)))) 15 0 (.nil) [(ss "row"), (ss "word")] (.cons (.var 1) (.cons (.con (.int (0))) (.nil))) (.iff (.cmp .eq (.var 0) (.con (.int (2)))) 16 1 (.cons (.var 1) (.nil)) [] (.nil) (.iff (.cmp .eq (.var 0) (.con (.int (3)))) 18 0 (.nil) [(ss "reason")] (.cons (.var 1) (.nil)) (.rai 19 0 (.nil) [] (.nil)))))) (.cons 0 (some 2) (.seq (.ret (.boo true (.cons (.idx (.call 5 1 (.cons (.var 2) (.nil)) [] (.nil)) (.idx (.tup (.cons (.con (.int (0))) (.cons (.con (.int (14))) (.cons (.con (.int (15))) (.cons (.con (.int (17))) (.cons (.con (.int (18))) (.nil))))))) (.var 0))) (.cons (.call 7 1 (.cons (.var 2) (.nil)) [] (.nil)) (.nil))))) (.nil)) (.nil))) (.seq (.ret (.con (.bl false))) (.nil))
/-- _law_right -/
def b9 : CS := .seq (.iff (.boo false (.cons (.not (.call 7 1 (.cons (.mkx 0 0 (.nil) [] (.nil)) (.nil)) [] (.nil))) (.cons (.cmp .isin (.con (.bl true)) (.call 5 1 (.cons (.mkx 0 0 (.nil) [] (.nil)) (.nil)) [] (.nil))) (.nil)))) (.seq (.ret (.con (.bl false))) (.nil)) (.nil)) (.seq (.asg (.nm 1) (.tup (.cons (.con (.non)) (.cons (.con (.bl true)) (.cons (.con (.bl false)) (.cons (.con (.int (0))) (.cons (.con (.int (1))) (.cons (.neg (.con (.int (1)))) (.cons (.bin .pow (.con (.int (10))) (.con (.int (29)))) (.cons (.con (.str [])) (.cons (.con (.str [97])) (.cons (.tup (.nil)) (.cons (.tup (.cons (.con (.int (1))) (.cons (.con (.str [103, 111, 111, 100])) (.nil)))) (.cons (.lst (.nil)) (.cons (.dc0) (.cons (.tup (.cons (.tup (.cons (.con (.int (1))) (.cons (.con (.str [97])) (.nil)))) (.nil))) (.cons (.tup (.cons (.con (.bl true)) (.cons (.con (.int (0))) (.nil)))) (.nil)))))))))))))))))) (.seq (.asg (.nm 2) (.call 2 2 (.cons (.var 0) (.cons (.var 1) (.nil))) [] (.nil))) (.seq (.asg (.nm 2) (.call 2 2 (.cons (.var 0) (.cons (.tup (.cons (.var 2) (.cons (.tup (.cons (.var 2) (.cons (.var 2) (.nil)))) (.cons (.lst (.cons (.var 2) (.nil))) (.cons (.con (.str [97, 32, 116, 101, 120, 116])) (.cons (.neg (.con (.int (7)))) (.cons (.tup (.cons (.tup (.nil)) (.cons (.tup (.cons (.var 2) (.nil))) (.nil)))) (.nil)))))))) (.nil))) [] (.nil))) (.seq (.asg (.nm 3) (.con (.int (0)))) (.seq (.for_ (.tp 3 (.cons (.nm 4) (.cons (.nm 5) (.cons (.nm 6) (.nil))))) (.any (.bin .add (.call 3 1 (.cons (.var 2) (.nil)) [] (.nil)) (.call 4 1 (.cons (.var 2) (.nil)) [] (.nil)))) (.seq (.for_ (.nm 9) (.any (.tup (.cons (.var 5) (.cons (.var 6) (.nil))))) (.seq (.iff (.boo false (.cons (.cmp .ne (.call 5 1 (.cons (.var 9) (.nil)) [] (.nil)) (.lc (.cmp .eq (.var 11) (.var 3)) (.nm 11) (.rng1 (.con (.int (24)))) .no [11])) (.cons (.not (.call 7 1 (.cons (.var 9) (.nil)) [] (.nil))) (.nil)))) (.seq (.ret (.con (.bl false))) (.nil)) (.nil)) (.seq (.iff (.cmp .ne (.fun_ .repr (.cons (.call 6 2 (.cons (.var 4) (.cons (.var 9) (.nil))) [] (.nil)) (.nil))) (.fun_ .repr (.cons (.ite (.cmp .ne (.var 4) (.con (.str []))) (.var 2) (.con (.non))) (.nil)))) (.seq (.ret (.con (.bl false))) (.nil)) (.nil)) (.nil)))) (.seq (.asg (.nm 3) (.bin .add (.var 3) (.con (.int (1))))) (.nil)))) (.seq (.asg (.nm 7) (.lst (.cons (.call 1 2 (.cons (.var 0) (.cons (.con (.int (9))) (.nil))) [] (.nil)) (.nil)))) (.seq (.asg (.nm 8) (.bin .add (.call 3 1 (.cons (.var 7) (.nil)) [] (.nil)) (.call 4 1 (.cons (.var 7) (.nil)) [] (.nil)))) (.seq (.exp (.bmt (.var 7) .append (.cons (.call 1 2 (.cons (.var 0) (.cons (.con (.int (9))) (.nil))) [] (.nil)) (.nil)))) (.seq (.for_ (.tp 3 (.cons (.nm 4) (.cons (.nm 5) (.cons (.nm 6) (.nil))))) (.any (.var 8)) (.seq (.iff (.boo true (.cons (.cmp .notin (.var 4) (.tup (.cons (.con (.str [])) (.cons (.con (.str [114, 111, 119])) (.nil))))) (.cons (.boo false (.cons (.cmp .ne (.call 6 2 (.cons (.var 4) (.cons (.var 5) (.nil))) [] (.nil)) (.var 7)) (.cons (.cmp .ne (.call 6 2 (.cons (.var 4) (.cons (.var 6) (.nil))) [] (.nil)) (.var 7)) (.nil)))) (.nil)))) (.seq (.ret (.con (.bl false))) (.nil)) (.nil)) (.nil))) (.seq (.ret (.fun_ .all (.cons (.lc (.cmp .is (.call 8 2 (.cons (.var 10) (.cons (.var 2) (.nil))) [] (.nil)) (.con (.bl true))) (.nm 10) (.rng1 (.con (.int (5)))) .no [10]) (.nil)))) (.nil)))))))))))
/-- law -/
def b10 : CS := .seq (.ret (.fun_ .all (.cons (.lc (.call 9 1 (.cons (.call 0 2 (.cons (.var 0) (.cons (.var 1) (.nil))) [] (.nil)) (.nil)) [] (.nil)) (.nm 1) (.rng1 (.fun_ .max (.cons (.con (.int (2))) (.cons (.fun_ .min (.cons (.fun_ .len (.cons (.var 0) (.nil))) (.cons (.con (.int (3))) (.nil)))) (.nil))))) .no [1]) (.nil)))) (.nil)
def fns : List He.DefD := [
  He.DefD.mk ((ss "_law_purse"), none) (ss "_law_purse") (ss "_law_purse") (fA (top 27)) (fB (top 27)) (fS (top 27)) [] [],
  He.DefD.mk ((ss "_law_take"), none) (ss "_law_take") (ss "_law_take") (fA (top 28)) (fB (top 28)) (fS (top 28)) [] [],
  He.DefD.mk ((ss "_law_pick"), none) (ss "_law_pick") (ss "_law_pick") (fA (top 29)) (fB (top 29)) (fS (top 29)) [] [],
  He.DefD.mk ((ss "_law_given_ones"), none) (ss "_law_given_ones") (ss "_law_given_ones") (fA (top 30)) (fB (top 30)) (fS (top 30)) [] [],
  He.DefD.mk ((ss "_law_index_ones"), none) (ss "_law_index_ones") (ss "_law_index_ones") (fA (top 31)) (fB (top 31)) (fS (top 31)) [] [],
  He.DefD.mk ((ss "_law_kinds"), none) (ss "_law_kinds") (ss "_law_kinds") (fA (top 32)) (fB (top 32)) (fS (top 32)) [] [],
  He.DefD.mk ((ss "_law_kept"), none) (ss "_law_kept") (ss "_law_kept") (fA (top 33)) (fB (top 33)) (fS (top 33)) [] [],
  He.DefD.mk ((ss "_law_is_plain"), none) (ss "_law_is_plain") (ss "_law_is_plain") (fA (top 34)) (fB (top 34)) (fS (top 34)) [] [],
  He.DefD.mk ((ss "_law_is_caught"), none) (ss "_law_is_caught") (ss "_law_is_caught") (fA (top 35)) (fB (top 35)) (fS (top 35)) [] [],
  He.DefD.mk ((ss "_law_right"), none) (ss "_law_right") (ss "_law_right") (fA (top 36)) (fB (top 36)) (fS (top 36)) [] [],
  He.DefD.mk ((ss "law"), none) (ss "law") (ss "law") (fA (top 37)) (fB (top 37)) (fS (top 37)) [] []]
def fis : List FI := [
  FI.mk [(ss "cells"), (ss "at")] 2 [] ⟨false, true⟩ (by decide +kernel) rfl,
  FI.mk [(ss "draws"), (ss "many")] 2 [] ⟨false, true⟩ (by decide +kernel) rfl,
  FI.mk [(ss "draws"), (ss "some")] 2 [] ⟨false, true⟩ (by decide +kernel) rfl,
  FI.mk [(ss "thing")] 1 [] ⟨false, true⟩ (by decide +kernel) rfl,
  FI.mk [(ss "thing")] 1 [] ⟨false, true⟩ (by decide +kernel) rfl,
  FI.mk [(ss "e")] 1 [] ⟨false, false⟩ (by decide +kernel) rfl,
  FI.mk [(ss "word"), (ss "e")] 2 [] ⟨true, true⟩ (by decide +kernel) rfl,
  FI.mk [(ss "e")] 1 [] ⟨false, false⟩ (by decide +kernel) rfl,
  FI.mk [(ss "way"), (ss "thing")] 2 [] ⟨false, true⟩ (by decide +kernel) rfl,
  FI.mk [(ss "draws")] 1 [] ⟨true, true⟩ (by decide +kernel) rfl,
  FI.mk [(ss "cells")] 1 [] ⟨true, true⟩ (by decide +kernel) rfl]
def fbs : List (FB × List Str) := [
  (FB.mk 5 b0, [(ss "cells"), (ss "at"), (ss "cell"), (ss "seed"), (ss "other")]),
  (FB.mk 5 b1, [(ss "draws"), (ss "many"), (ss "figures"), (ss "seed"), (ss "turn")]),
  (FB.mk 2 b2, [(ss "draws"), (ss "some")]),
  (FB.mk 1 b3, [(ss "thing")]),
  (FB.mk 1 b4, [(ss "thing")]),
  (FB.mk 2 b5, [(ss "e"), (ss "found")]),
  (FB.mk 2 b6, [(ss "word"), (ss "e")]),
  (FB.mk 1 b7, [(ss "e")]),
  (FB.mk 3 b8, [(ss "way"), (ss "thing"), (ss "e")]),
  (FB.mk 12 b9, [(ss "draws"), (ss "plain"), (ss "thing"), (ss "spot"), (ss "word"), (ss "one"), (ss "two"), (ss "row"), (ss "made"), (ss "e"), (ss "way"), (ss "at")]),
  (FB.mk 2 b10, [(ss "cells"), (ss "at")])]
def dat : Dat where
  nmL := [(ss "reason"), (ss "word"), (ss "row"), (ss "index"), (ss "given")]
  fns := fns
  fis := fis
  fbs := fbs
  clsL := [(ss "MeasureError"), (ss "InvalidText"), (ss "InvalidProgram"), (ss "InvalidTree"), (ss "InvalidKinds"), (ss "InvalidScaling"), (ss "InvalidGivens"), (ss "InvalidNumber"), (ss "InvalidName"), (ss "InvalidUnits"), (ss "InvalidSum"), (ss "InvalidTable"), (ss "InvalidCode"), (ss "InvalidLine"), (ss "NotADesk"), (ss "NotWellRead"), (ss "InvalidRows"), (ss "InvalidDeed"), (ss "Barred"), (ss "NothingToUndo"), (ss "NotRuled"), (ss "NotLet"), (ss "NotOfKind"), (ss "NoForm"), (ss "TooGreat")]
  file := (PySem.Challenge.pw_measuretongue_k01_errors_each_of_its_own.main.file)
  exL := [(1, He.DefD.mk ((ss "InvalidText"), some (ss "__init__")) (ss "__init__") (ss "InvalidText.__init__") (fA ((cB (top 2)).getD 0 (.Pass ⟨0, 0, 0, 0⟩))) (fB ((cB (top 2)).getD 0 (.Pass ⟨0, 0, 0, 0⟩))) (fS ((cB (top 2)).getD 0 (.Pass ⟨0, 0, 0, 0⟩))) [] [], FI.mk [(ss "self"), (ss "given")] 2 [] ⟨false, true⟩ (by decide +kernel) rfl),
    (2, He.DefD.mk ((ss "InvalidProgram"), some (ss "__init__")) (ss "__init__") (ss "InvalidProgram.__init__") (fA ((cB (top 3)).getD 0 (.Pass ⟨0, 0, 0, 0⟩))) (fB ((cB (top 3)).getD 0 (.Pass ⟨0, 0, 0, 0⟩))) (fS ((cB (top 3)).getD 0 (.Pass ⟨0, 0, 0, 0⟩))) [] [], FI.mk [(ss "self"), (ss "given")] 2 [] ⟨false, true⟩ (by decide +kernel) rfl),
    (3, He.DefD.mk ((ss "InvalidTree"), some (ss "__init__")) (ss "__init__") (ss "InvalidTree.__init__") (fA ((cB (top 4)).getD 0 (.Pass ⟨0, 0, 0, 0⟩))) (fB ((cB (top 4)).getD 0 (.Pass ⟨0, 0, 0, 0⟩))) (fS ((cB (top 4)).getD 0 (.Pass ⟨0, 0, 0, 0⟩))) [] [], FI.mk [(ss "self"), (ss "given")] 2 [] ⟨false, true⟩ (by decide +kernel) rfl),
    (4, He.DefD.mk ((ss "InvalidKinds"), some (ss "__init__")) (ss "__init__") (ss "InvalidKinds.__init__") (fA ((cB (top 5)).getD 0 (.Pass ⟨0, 0, 0, 0⟩))) (fB ((cB (top 5)).getD 0 (.Pass ⟨0, 0, 0, 0⟩))) (fS ((cB (top 5)).getD 0 (.Pass ⟨0, 0, 0, 0⟩))) [] [], FI.mk [(ss "self"), (ss "given")] 2 [] ⟨false, true⟩ (by decide +kernel) rfl),
    (5, He.DefD.mk ((ss "InvalidScaling"), some (ss "__init__")) (ss "__init__") (ss "InvalidScaling.__init__") (fA ((cB (top 6)).getD 0 (.Pass ⟨0, 0, 0, 0⟩))) (fB ((cB (top 6)).getD 0 (.Pass ⟨0, 0, 0, 0⟩))) (fS ((cB (top 6)).getD 0 (.Pass ⟨0, 0, 0, 0⟩))) [] [], FI.mk [(ss "self"), (ss "given")] 2 [] ⟨false, true⟩ (by decide +kernel) rfl),
    (6, He.DefD.mk ((ss "InvalidGivens"), some (ss "__init__")) (ss "__init__") (ss "InvalidGivens.__init__") (fA ((cB (top 7)).getD 0 (.Pass ⟨0, 0, 0, 0⟩))) (fB ((cB (top 7)).getD 0 (.Pass ⟨0, 0, 0, 0⟩))) (fS ((cB (top 7)).getD 0 (.Pass ⟨0, 0, 0, 0⟩))) [] [], FI.mk [(ss "self"), (ss "given")] 2 [] ⟨false, true⟩ (by decide +kernel) rfl),
    (7, He.DefD.mk ((ss "InvalidNumber"), some (ss "__init__")) (ss "__init__") (ss "InvalidNumber.__init__") (fA ((cB (top 8)).getD 0 (.Pass ⟨0, 0, 0, 0⟩))) (fB ((cB (top 8)).getD 0 (.Pass ⟨0, 0, 0, 0⟩))) (fS ((cB (top 8)).getD 0 (.Pass ⟨0, 0, 0, 0⟩))) [] [], FI.mk [(ss "self"), (ss "given")] 2 [] ⟨false, true⟩ (by decide +kernel) rfl),
    (8, He.DefD.mk ((ss "InvalidName"), some (ss "__init__")) (ss "__init__") (ss "InvalidName.__init__") (fA ((cB (top 9)).getD 0 (.Pass ⟨0, 0, 0, 0⟩))) (fB ((cB (top 9)).getD 0 (.Pass ⟨0, 0, 0, 0⟩))) (fS ((cB (top 9)).getD 0 (.Pass ⟨0, 0, 0, 0⟩))) [] [], FI.mk [(ss "self"), (ss "given")] 2 [] ⟨false, true⟩ (by decide +kernel) rfl),
    (9, He.DefD.mk ((ss "InvalidUnits"), some (ss "__init__")) (ss "__init__") (ss "InvalidUnits.__init__") (fA ((cB (top 10)).getD 0 (.Pass ⟨0, 0, 0, 0⟩))) (fB ((cB (top 10)).getD 0 (.Pass ⟨0, 0, 0, 0⟩))) (fS ((cB (top 10)).getD 0 (.Pass ⟨0, 0, 0, 0⟩))) [] [], FI.mk [(ss "self"), (ss "given")] 2 [] ⟨false, true⟩ (by decide +kernel) rfl),
    (10, He.DefD.mk ((ss "InvalidSum"), some (ss "__init__")) (ss "__init__") (ss "InvalidSum.__init__") (fA ((cB (top 11)).getD 0 (.Pass ⟨0, 0, 0, 0⟩))) (fB ((cB (top 11)).getD 0 (.Pass ⟨0, 0, 0, 0⟩))) (fS ((cB (top 11)).getD 0 (.Pass ⟨0, 0, 0, 0⟩))) [] [], FI.mk [(ss "self"), (ss "given")] 2 [] ⟨false, true⟩ (by decide +kernel) rfl),
    (11, He.DefD.mk ((ss "InvalidTable"), some (ss "__init__")) (ss "__init__") (ss "InvalidTable.__init__") (fA ((cB (top 12)).getD 0 (.Pass ⟨0, 0, 0, 0⟩))) (fB ((cB (top 12)).getD 0 (.Pass ⟨0, 0, 0, 0⟩))) (fS ((cB (top 12)).getD 0 (.Pass ⟨0, 0, 0, 0⟩))) [] [], FI.mk [(ss "self"), (ss "given")] 2 [] ⟨false, true⟩ (by decide +kernel) rfl),
    (12, He.DefD.mk ((ss "InvalidCode"), some (ss "__init__")) (ss "__init__") (ss "InvalidCode.__init__") (fA ((cB (top 13)).getD 0 (.Pass ⟨0, 0, 0, 0⟩))) (fB ((cB (top 13)).getD 0 (.Pass ⟨0, 0, 0, 0⟩))) (fS ((cB (top 13)).getD 0 (.Pass ⟨0, 0, 0, 0⟩))) [] [], FI.mk [(ss "self"), (ss "given")] 2 [] ⟨false, true⟩ (by decide +kernel) rfl),
    (13, He.DefD.mk ((ss "InvalidLine"), some (ss "__init__")) (ss "__init__") (ss "InvalidLine.__init__") (fA ((cB (top 14)).getD 0 (.Pass ⟨0, 0, 0, 0⟩))) (fB ((cB (top 14)).getD 0 (.Pass ⟨0, 0, 0, 0⟩))) (fS ((cB (top 14)).getD 0 (.Pass ⟨0, 0, 0, 0⟩))) [] [], FI.mk [(ss "self"), (ss "given")] 2 [] ⟨false, true⟩ (by decide +kernel) rfl),
    (14, He.DefD.mk ((ss "NotADesk"), some (ss "__init__")) (ss "__init__") (ss "NotADesk.__init__") (fA ((cB (top 15)).getD 0 (.Pass ⟨0, 0, 0, 0⟩))) (fB ((cB (top 15)).getD 0 (.Pass ⟨0, 0, 0, 0⟩))) (fS ((cB (top 15)).getD 0 (.Pass ⟨0, 0, 0, 0⟩))) [] [], FI.mk [(ss "self"), (ss "given")] 2 [] ⟨false, true⟩ (by decide +kernel) rfl),
    (15, He.DefD.mk ((ss "NotWellRead"), some (ss "__init__")) (ss "__init__") (ss "NotWellRead.__init__") (fA ((cB (top 16)).getD 0 (.Pass ⟨0, 0, 0, 0⟩))) (fB ((cB (top 16)).getD 0 (.Pass ⟨0, 0, 0, 0⟩))) (fS ((cB (top 16)).getD 0 (.Pass ⟨0, 0, 0, 0⟩))) [] [], FI.mk [(ss "self"), (ss "row"), (ss "word")] 3 [] ⟨false, true⟩ (by decide +kernel) rfl),
    (16, He.DefD.mk ((ss "InvalidRows"), some (ss "__init__")) (ss "__init__") (ss "InvalidRows.__init__") (fA ((cB (top 17)).getD 0 (.Pass ⟨0, 0, 0, 0⟩))) (fB ((cB (top 17)).getD 0 (.Pass ⟨0, 0, 0, 0⟩))) (fS ((cB (top 17)).getD 0 (.Pass ⟨0, 0, 0, 0⟩))) [] [], FI.mk [(ss "self"), (ss "index")] 2 [] ⟨false, true⟩ (by decide +kernel) rfl),
    (17, He.DefD.mk ((ss "InvalidDeed"), some (ss "__init__")) (ss "__init__") (ss "InvalidDeed.__init__") (fA ((cB (top 18)).getD 0 (.Pass ⟨0, 0, 0, 0⟩))) (fB ((cB (top 18)).getD 0 (.Pass ⟨0, 0, 0, 0⟩))) (fS ((cB (top 18)).getD 0 (.Pass ⟨0, 0, 0, 0⟩))) [] [], FI.mk [(ss "self"), (ss "index")] 2 [] ⟨false, true⟩ (by decide +kernel) rfl),
    (18, He.DefD.mk ((ss "Barred"), some (ss "__init__")) (ss "__init__") (ss "Barred.__init__") (fA ((cB (top 19)).getD 0 (.Pass ⟨0, 0, 0, 0⟩))) (fB ((cB (top 19)).getD 0 (.Pass ⟨0, 0, 0, 0⟩))) (fS ((cB (top 19)).getD 0 (.Pass ⟨0, 0, 0, 0⟩))) [] [], FI.mk [(ss "self"), (ss "reason")] 2 [] ⟨false, true⟩ (by decide +kernel) rfl)]
  x0L := [0, 19, 20, 21, 22, 23, 24]
  xfL := [(1, 4, 0), (2, 4, 0), (3, 4, 0), (4, 4, 0), (5, 4, 0), (6, 4, 0), (7, 4, 0), (8, 4, 0), (9, 4, 0), (10, 4, 0), (11, 4, 0), (12, 4, 0), (13, 4, 0), (14, 4, 0), (15, 2, 0), (15, 1, 1), (16, 3, 0), (17, 3, 0), (18, 0, 0)]
  exmL := [(0, 0, true), (1, 0, true), (2, 0, true), (3, 0, true), (4, 0, true), (5, 0, true), (6, 0, true), (7, 0, true), (8, 0, true), (9, 0, true), (10, 0, true), (11, 0, true), (12, 0, true), (13, 0, true), (14, 0, true), (15, 0, true), (16, 0, true), (17, 0, true), (18, 0, true), (19, 0, true), (20, 0, true), (21, 0, true), (22, 0, true), (23, 0, true), (24, 0, true)]
  isxE := 33554431
  isxM := 40438334624250805603776421506254896209211370652021560271200089144182152877230398142633641062356831983426158108413296045963487083212427248648478161850633692559104514870211274837382017512272138465539656812611162550342662295274089790210839113173690305330588374623160095113722546594894320052718701288255497893541651397425333252362379497849905059023194811498213273926445546965201386455707039921959296144179239696285782277284423749998697600691909995928390327552762082412724225
  isxT := [(.eV, true), (.eL, false), (.eA, false), (.eT, false), (.eAt, false), (.eR, false)]
  fldL := []
  mtL := []
  iniL := []
  isvL := [(.ty .non, .ty .int, false), (.ty .non, .ty .bool, false), (.ty .non, .ty .str, false), (.ty .non, .ty .list, false), (.ty .non, .ty .tuple, false), (.ty .non, .ty .dict, false), (.ty .bool, .ty .int, true), (.ty .bool, .ty .bool, true), (.ty .bool, .ty .str, false), (.ty .bool, .ty .list, false), (.ty .bool, .ty .tuple, false), (.ty .bool, .ty .dict, false), (.ty .int, .ty .int, true), (.ty .int, .ty .bool, false), (.ty .int, .ty .str, false), (.ty .int, .ty .list, false), (.ty .int, .ty .tuple, false), (.ty .int, .ty .dict, false), (.ty .str, .ty .int, false), (.ty .str, .ty .bool, false), (.ty .str, .ty .str, true), (.ty .str, .ty .list, false), (.ty .str, .ty .tuple, false), (.ty .str, .ty .dict, false), (.ty .list, .ty .int, false), (.ty .list, .ty .bool, false), (.ty .list, .ty .str, false), (.ty .list, .ty .list, true), (.ty .list, .ty .tuple, false), (.ty .list, .ty .dict, false), (.ty .tuple, .ty .int, false), (.ty .tuple, .ty .bool, false), (.ty .tuple, .ty .str, false), (.ty .tuple, .ty .list, false), (.ty .tuple, .ty .tuple, true), (.ty .tuple, .ty .dict, false), (.ty .dict, .ty .int, false), (.ty .dict, .ty .bool, false), (.ty .dict, .ty .str, false), (.ty .dict, .ty .list, false), (.ty .dict, .ty .tuple, false), (.ty .dict, .ty .dict, true)]
  cstL := []
  frL := [.eA, .eAt, .eL, .eR, .eT, .eV, .abs, .all, .int, .isi, .len, .max, .min, .range, .repr]
def loose0 : List Str := [(ss "MeasureError"), (ss "InvalidText"), (ss "InvalidProgram"), (ss "InvalidTree"), (ss "InvalidKinds"), (ss "InvalidScaling"), (ss "InvalidGivens"), (ss "InvalidNumber"), (ss "InvalidName"), (ss "InvalidUnits"), (ss "InvalidSum"), (ss "InvalidTable"), (ss "InvalidCode"), (ss "InvalidLine"), (ss "NotADesk"), (ss "NotWellRead"), (ss "InvalidRows"), (ss "InvalidDeed"), (ss "Barred"), (ss "NothingToUndo"), (ss "NotRuled"), (ss "NotLet"), (ss "NotOfKind"), (ss "NoForm"), (ss "TooGreat"), (ss "_law_purse"), (ss "_law_take"), (ss "_law_pick"), (ss "_law_given_ones"), (ss "_law_index_ones"), (ss "_law_kinds"), (ss "_law_kept"), (ss "_law_is_plain"), (ss "_law_is_caught"), (ss "_law_right")]
def loose : List Str := loose0
-- law at 37 of 38
end T
theorem T.nmg : G.nmGood T.dat.nmL = true := by decide +kernel
end
section
/-! K01p: the plain law: tools. -/
namespace T
open L2 G
/-- a whole tree of cells -/
def full : Nat → (Nat → Option Cell) → Tr
  | 0, _ => .lf
  | k + 1, g => .nd (g 0) (full k fun i => g (2 * i + 1)) (full k fun i => g (2 * i + 2))
def upd' (g : Nat → Option Cell) (i : Nat) (c : Cell) : Nat → Option Cell := fun j => match Nat.beq j i with
  | true => some c
  | false => g j
theorem upd'_same {g : Nat → Option Cell} {i : Nat} {c : Cell} : upd' g i c i = some c := by
  unfold upd'
  rw [Nat.beq_refl]
theorem upd'_ne {g : Nat → Option Cell} {i j : Nat} {c : Cell} (h : j ≠ i) : upd' g i c j = g j := by
  unfold upd'
  rw [beq_f.mpr h]
theorem full_ins : ∀ (k f i : Nat) (c : Cell) (g : Nat → Option Cell), i < f → i + 1 < 2 ^ k → Tr.ins f i c (full k g) = full k (upd' g i c)
  | 0, _, i, _, _, _, h => by simp at h
  | k + 1, 0, i, _, _, h, _ => absurd h (Nat.not_lt_zero _)
  | k + 1, f + 1, i, c, g, hf, hk => by
    have hp : 2 ^ (k + 1) = 2 * 2 ^ k := by rw [Nat.pow_succ]; omega
    rw [hp] at hk
    show Tr.ins (f + 1) i c (.nd (g 0) (full k fun i => g (2 * i + 1)) (full k fun i => g (2 * i + 2))) = .nd (upd' g i c 0) (full k fun j => upd' g i c (2 * j + 1)) (full k fun j => upd' g i c (2 * j + 2))
    unfold Tr.ins
    split
    · rename_i h0
      have h0 := beq_t.mp h0
      subst h0
      rw [upd'_same]
      have e1 : (fun j => upd' g 0 c (2 * j + 1)) = fun j => g (2 * j + 1) := funext fun j => upd'_ne (by omega)
      have e2 : (fun j => upd' g 0 c (2 * j + 2)) = fun j => g (2 * j + 2) := funext fun j => upd'_ne (by omega)
      rw [e1, e2]
    · rename_i h0
      have h0 := beq_f.mp h0
      split
      · rename_i h1
        have h1 := beq_t.mp h1
        rw [full_ins k f (i / 2) c (fun i => g (2 * i + 1)) (by omega) (by omega), upd'_ne (Ne.symm h0)]
        have e1 : upd' (fun i => g (2 * i + 1)) (i / 2) c = fun j => upd' g i c (2 * j + 1) := funext fun j => by
          by_cases hj : j = i / 2
          · rw [hj, upd'_same, show 2 * (i / 2) + 1 = i by omega, upd'_same]
          · rw [upd'_ne hj, upd'_ne (by omega)]
        have e2 : (fun j => upd' g i c (2 * j + 2)) = fun j => g (2 * j + 2) := funext fun j => upd'_ne (by omega)
        rw [e1, e2]
      · rename_i h1
        have h1 := beq_f.mp h1
        rw [full_ins k f (i / 2 - 1) c (fun i => g (2 * i + 2)) (by omega) (by omega), upd'_ne (Ne.symm h0)]
        have e1 : upd' (fun i => g (2 * i + 2)) (i / 2 - 1) c = fun j => upd' g i c (2 * j + 2) := funext fun j => by
          by_cases hj : j = i / 2 - 1
          · rw [hj, upd'_same, show 2 * (i / 2 - 1) + 2 = i by omega, upd'_same]
          · rw [upd'_ne hj, upd'_ne (by omega)]
        have e2 : (fun j => upd' g i c (2 * j + 1)) = fun j => g (2 * j + 1) := funext fun j => upd'_ne (by omega)
        rw [e1, e2]
theorem full_get : ∀ (k i : Nat) (g : Nat → Option Cell), i + 1 < 2 ^ k → (full k g).get i = g i
  | 0, i, _, h => by simp at h
  | k + 1, i, g, hk => by
    have hp : 2 ^ (k + 1) = 2 * 2 ^ k := by rw [Nat.pow_succ]; omega
    rw [hp] at hk
    show Tr.get (.nd (g 0) (full k fun i => g (2 * i + 1)) (full k fun i => g (2 * i + 2))) i = g i
    unfold Tr.get
    split
    · rename_i h0; rw [beq_t.mp h0]
    · rename_i h0
      have h0 := beq_f.mp h0
      split
      · rename_i h1
        have h1 := beq_t.mp h1
        rw [full_get k (i / 2) _ (by omega), show 2 * (i / 2) + 1 = i by omega]
      · rename_i h1
        have h1 := beq_f.mp h1
        rw [full_get k (i / 2 - 1) _ (by omega), show 2 * (i / 2 - 1) + 2 = i by omega]
/-- a store of n cells -/
def fu (g : Nat → Option Cell) (n : Nat) : Sto := ⟨n, full 10 g⟩
theorem fu_push {g : Nat → Option Cell} {n : Nat} {c : Cell} (h : n < 1000) : (fu g n).push c = fu (upd' g n c) (n + 1) := by
  show (⟨n + 1, Tr.ins (n + 1) n c (full 10 g)⟩ : Sto) = _
  rw [full_ins 10 (n + 1) n c g (Nat.lt_succ_self _) (by omega)]
  rfl
theorem fu_put {g : Nat → Option Cell} {n i : Nat} {c : Cell} (h : i < 1000) : (fu g n).put i c = fu (upd' g i c) n := by
  show (⟨n, Tr.ins (i + 1) i c (full 10 g)⟩ : Sto) = _
  rw [full_ins 10 (i + 1) i c g (Nat.lt_succ_self _) (by omega)]
  rfl
theorem fu_get {g : Nat → Option Cell} {n i : Nat} (h : i < 1000) : (fu g n).get i = g i := full_get 10 i g (by omega)
theorem full_none : ∀ (k i : Nat), (full k fun _ => none).get i = none
  | 0, i => rfl
  | k + 1, i => by
    show Tr.get (.nd none (full k fun _ => none) (full k fun _ => none)) i = none
    unfold Tr.get
    split
    · rfl
    · split
      · exact full_none k _
      · exact full_none k _
/-- the cells below n stay -/
def Ag (n : Nat) (g' g : Nat → Option Cell) : Prop := ∀ j, j < n → g' j = g j
theorem Ag.refl {n : Nat} {g : Nat → Option Cell} : Ag n g g := fun _ _ => rfl
theorem Ag.trans {n m : Nat} {a b c : Nat → Option Cell} (h1 : Ag n b a) (h2 : Ag m c b) (h : n ≤ m) : Ag n c a := fun j hj => (h2 j (by omega)).trans (h1 j hj)
theorem Ag.mono {n m : Nat} {a b : Nat → Option Cell} (h1 : Ag m b a) (h : n ≤ m) : Ag n b a := fun j hj => h1 j (by omega)
theorem Ag.push {n m : Nat} {a b : Nat → Option Cell} {c : Cell} (h1 : Ag n b a) (h : n ≤ m) : Ag n (upd' b m c) a := fun j hj => (upd'_ne (by omega)).trans (h1 j hj)
abbrev cal (k : Nat) : Nat → List D → M D := callN dat.tab dat.P dat.cst dat.F k
abbrev eE (k : Nat) (gd : Md) (c : CE) (env : G.Env) : M D := evE dat.tab dat.P (cal k) dat.cst gd c env
abbrev eT (k : Nat) (gd : Md) (c : CE) (env : G.Env) : M Bool := evT dat.tab dat.P (cal k) dat.cst gd c env
abbrev eL (k : Nat) (gd : Md) (c : CL) (env : G.Env) : M (List D) := evL dat.tab dat.P (cal k) dat.cst gd c env
abbrev eS (k : Nat) (gd : Md) (c : CS) (env : G.Env) : M Fl := evS dat.tab dat.P (cal k) dat.cst gd c env
section
variable {k : Nat} {gd : Md} {env env' : G.Env} {S S' S2 : Sto} {d v : D}
theorem run_seq {a b : CS} (h : eS k gd a env S = some (.ok (.nx env') S')) : eS k gd (.seq a b) env S = eS k gd b env' S' := by
  show evS _ _ _ _ _ _ _ _ = _
  rw [evS]
  exact bnd_ok h
theorem run_ret {a b : CS} (h : eS k gd a env S = some (.ok (.rt d) S')) : eS k gd (.seq a b) env S = some (.ok (.rt d) S') := by
  show evS _ _ _ _ _ _ _ _ = _
  rw [evS]
  exact bnd_ok h
theorem run_nil : eS k gd .nil env S = some (.ok (.nx env) S) := by
  show evS _ _ _ _ _ _ _ _ = _
  rw [evS]
  rfl
theorem run_if {c : CE} {a b : CS} {q : Bool} (h : eT k gd c env S = some (.ok q S')) : eS k gd (.iff c a b) env S = if q then eS k gd a env S' else eS k gd b env S' := by
  show evS _ _ _ _ _ _ _ _ = _
  rw [evS]
  exact (bnd_ok h).trans (by cases q <;> rfl)
theorem run_asg {e : CE} {i : Nat} (h : eE k gd e env S = some (.ok v S')) : eS k gd (.asg (.nm i) e) env S = some (.ok (.nx (env.set i (some v))) S') := by
  show evS _ _ _ _ _ _ _ _ = _
  rw [evS, evG]
  exact (bnd_ok h).trans rfl
theorem run_rete {e : CE} (h : eE k gd e env S = some (.ok v S')) : eS k gd (.ret e) env S = some (.ok (.rt v) S') := by
  show evS _ _ _ _ _ _ _ _ = _
  rw [evS]
  exact (bnd_ok h).trans rfl
theorem run_exp {e : CE} (h : eE k gd e env S = some (.ok v S')) : eS k gd (.exp e) env S = some (.ok (.nx env) S') := by
  show evS _ _ _ _ _ _ _ _ = _
  rw [evS]
  exact (bnd_ok h).trans rfl
theorem ev_cons {e : CE} {es : CL} {vs : List D} (h : eE k gd e env S = some (.ok v S')) (h2 : eL k gd es env S' = some (.ok vs S2)) : eL k gd (.cons e es) env S = some (.ok (v :: vs) S2) := by
  show evL _ _ _ _ _ _ _ _ = _
  rw [evL]
  exact (bnd_ok h).trans ((bnd_ok h2).trans rfl)
theorem ev_nil : eL k gd .nil env S = some (.ok [] S) := by
  show evL _ _ _ _ _ _ _ _ = _
  rw [evL]
  rfl
theorem ev_lst {es : CL} {vs : List D} (hl : lenOk vs.length = true) (h : eL k gd es env S = some (.ok vs S')) : eE k gd (.lst es) env S = some (.ok (.ref S'.n) (S'.push (.lst vs))) := by
  show evE _ _ _ _ _ _ _ _ = _
  rw [evE]
  refine (bnd_ok h).trans ?_
  show (if lenOk vs.length = true then alloc (Cell.lst vs) S' else none) = _
  rw [hl]
  rfl
theorem ev_fun {b : BN} {es : CL} {vs : List D} (h : eL k gd es env S = some (.ok vs S')) : eE k gd (.fun_ b es) env S = b.run dat.tab vs S' := by
  show evE _ _ _ _ _ _ _ _ = _
  rw [evE]
  exact bnd_ok h
theorem ev_call {f n : Nat} {es : CL} {vs : List D} {fi : FI} (hf : okF dat.P gd f n [] = some fi) (hk : (okB fi n [] && Nat.beq vs.length n) = true) (hv : fill fi n [] vs [] = vs) (h : eL k gd es env S = some (.ok vs S')) : eE k gd (.call f n es [] .nil) env S = cal k f vs S' := by
  show evE _ _ _ _ _ _ _ _ = _
  rw [evE, hf]
  refine (bnd_ok h).trans ((bnd_ok (show evL dat.tab dat.P (cal k) dat.cst gd .nil env S' = _ from ev_nil)).trans ?_)
  show (if okB fi n [] && Nat.beq vs.length n && Nat.beq ([] : List D).length ([] : List PySem.Str).length then cal k f (fill fi n [] vs []) S' else none) = _
  rw [hk, hv]
  rfl
theorem call_of {f : Nat} {fi : FI} {fb : FB} {ds : List D} {fl : Fl} (hP : dat.P f = some fi) (hF : dat.F f = some fb) (h : eS k fi.gd fb.body (envOf fb.N ds) S = some (.ok fl S')) : cal (k + 1) f ds S = endOf fl S' := by
  show callN _ _ _ _ (k + 1) f ds S = _
  unfold callN
  rw [hP, hF]
  exact bnd_ok h
end
end T
end
section
/-! K01q: the draws; what is shown. -/
namespace T
open PySem L2 G
theorem upd'_upd' {g : Nat → Option Cell} {i : Nat} {a b : Cell} : upd' (upd' g i a) i b = upd' g i b := funext fun j => by
  by_cases h : j = i
  · rw [h, upd'_same, upd'_same]
  · rw [upd'_ne h, upd'_ne h, upd'_ne h]
def dropS : Nat → CS → CS
  | 0, c => c
  | n + 1, .seq _ b => dropS n b
  | _, c => c
def headS : CS → CS
  | .seq a _ => a
  | c => c
section
variable {k : Nat} {gd : Md} {env env' : G.Env} {S S' S2 : Sto} {d v e : D}
theorem ev_idx {a b : CE} (h1 : eE k gd a env S = some (.ok d S')) (h2 : eE k gd b env S' = some (.ok e S2)) : eE k gd (.idx a b) env S = mIdx d e S2 := by
  show evE _ _ _ _ _ _ _ _ = _
  rw [evE]
  exact (bnd_ok h1).trans (bnd_ok h2)
theorem ev_cmp {o : CO} {a b : CE} {q : Bool} (h1 : eE k gd a env S = some (.ok d S')) (h2 : eE k gd b env S' = some (.ok e S2)) (h : o.run d e S2 = some (.ok (.bl q) S2)) : eT k gd (.cmp o a b) env S = some (.ok q S2) := by
  show evT _ _ _ _ _ _ _ _ = _
  rw [evT]
  refine (bnd_ok (show mCmp o.run (evE dat.tab dat.P (cal k) dat.cst gd a) (evE dat.tab dat.P (cal k) dat.cst gd b) env S = some (.ok (.bl q) S2) from ?_)).trans rfl
  exact (bnd_ok h1).trans ((bnd_ok h2).trans h)
theorem dAt_ok : ∀ {ds : List D} {r : Int}, 0 ≤ r → r < (ds.length : Int) → ∃ x ∈ ds, dAt ds r = some x := fun {ds r} h0 h1 => by
  obtain ⟨i, rfl⟩ := Int.eq_ofNat_of_zero_le h0
  have hi : i < ds.length := by omega
  refine ⟨ds[i], List.getElem_mem hi, ?_⟩
  unfold dAt ixN
  simp [hi]
theorem pick_of {dd m : Nat} {r : Int} {xs : List D} (hl : xs.length = m) (h0 : 0 ≤ r) (h1 : r < (m : Int)) (ht : cal 97 1 [.ref dd, .int m] S = some (.ok (.int r) S')) : ∃ x ∈ xs, cal 98 2 [.ref dd, .tup xs] S = some (.ok x S') := by
  obtain ⟨x, hx, e⟩ := dAt_ok (ds := xs) h0 (by rw [hl]; exact h1)
  refine ⟨x, hx, ?_⟩
  refine call_of (k := 97) (fl := .rt x) (show dat.P 2 = some _ from rfl) (show dat.F 2 = some _ from rfl) ?_
  refine run_ret (run_rete ?_)
  rw [ev_idx (d := .tup xs) (e := .int r) (S' := S) (S2 := S') rfl ?_]
  · show (match dAt xs r with
      | some d => some (Res.ok d S')
      | none => none) = _
    rw [e]
  · rw [ev_call (vs := [.ref dd, .int m]) (S' := S) (show okF dat.P _ 1 2 [] = some _ from rfl) rfl rfl (ev_cons (v := .ref dd) (S' := S) rfl (ev_cons (v := .int m) (S' := S) ?_ ev_nil))]
    · exact ht
    · rw [ev_fun (ev_cons (v := .tup xs) (S' := S) rfl ev_nil)]
      show some (Res.ok (D.int xs.length) S) = _
      rw [hl]
end
/-! ### what is shown -/
/-- x is the data p, looked at L deep -/
def Shn (L : Nat) (g : Nat → Option Cell) (x : D) (p : PyData) : Prop := ∀ n m, pdr (fu g n) (m + L) x = some p
theorem Shn.up {L L' : Nat} {g : Nat → Option Cell} {x : D} {p : PyData} (h : Shn L g x p) (hl : L ≤ L') : Shn L' g x p := fun n m => by
  have := h n (m + (L' - L))
  rwa [show m + (L' - L) + L = m + L' by omega] at this
theorem pdrs_cons {S : Sto} {n : Nat} {d : D} {ds : List D} {p : PyData} {ps : List PyData} (h1 : pdr S n d = some p) (h2 : pdrs S n ds = some ps) : pdrs S (n + 1) (d :: ds) = some (p :: ps) := by
  simp only [pdrs, h1, h2]
theorem Shn.tup1 {L : Nat} {g : Nat → Option Cell} {x : D} {p : PyData} (h : Shn L g x p) : Shn (L + 4) g (.tup [x]) (.tuple [p]) := fun n m => by
  show pdr (fu g n) (m + L + 3 + 1) _ = _
  simp only [pdr]
  rw [pdrs_cons (n := m + L + 2) (ps := []) (by have := h n (m + 2); rwa [show m + 2 + L = m + L + 2 by omega] at this) (by simp only [pdrs])]
theorem Shn.tup2 {L : Nat} {g : Nat → Option Cell} {x y : D} {p q : PyData} (h : Shn L g x p) (h' : Shn L g y q) : Shn (L + 4) g (.tup [x, y]) (.tuple [p, q]) := fun n m => by
  show pdr (fu g n) (m + L + 3 + 1) _ = _
  simp only [pdr]
  rw [pdrs_cons (n := m + L + 2) (ps := [q]) (by have := h n (m + 2); rwa [show m + 2 + L = m + L + 2 by omega] at this)
    (pdrs_cons (n := m + L + 1) (ps := []) (by have := h' n (m + 1); rwa [show m + 1 + L = m + L + 1 by omega] at this) (by simp only [pdrs]))]
theorem Shn.lst1 {L : Nat} {g : Nat → Option Cell} {x : D} {p : PyData} {i : Nat} (hi : i < 1000) (e : g i = some (.lst [x])) (h : Shn L g x p) : Shn (L + 4) g (.ref i) (.list [p]) := fun n m => by
  show pdr (fu g n) (m + L + 3 + 1) _ = _
  simp only [pdr, lstAt, fu_get hi, e]
  rw [pdrs_cons (n := m + L + 2) (ps := []) (by have := h n (m + 2); rwa [show m + 2 + L = m + L + 2 by omega] at this) (by simp only [pdrs])]
theorem Shn.lst0 {g : Nat → Option Cell} {i : Nat} (hi : i < 1000) (e : g i = some (.lst [])) : Shn 4 g (.ref i) (.list []) := fun n m => by
  show pdr (fu g n) (m + 3 + 1) _ = _
  simp only [pdr, lstAt, fu_get hi, e, pdrs]
theorem Shn.dct0 {g : Nat → Option Cell} {i : Nat} (hi : i < 1000) (e : g i = some (.dct [])) : Shn 4 g (.ref i) (.dict []) := fun n m => by
  show pdr (fu g n) (m + 3 + 1) _ = _
  simp only [pdr, fu_get hi, e]
/-- the sizes -/
def szB (p : PyData) : Bool := (match shB p with
  | some m => Nat.ble m 2000
  | none => false) && Nat.ble p.depth 20
def P1 : List PyData := [.none, .bool true, .bool false, .int 0, .int 1, .int (-1), .int (10 ^ 29), .str ⟨#[]⟩, .str ⟨#[97]⟩, .tuple [], .tuple [.int 1, .str ⟨#[103, 111, 111, 100]⟩], .list [], .dict [], .tuple [.tuple [.int 1, .str ⟨#[97]⟩]], .tuple [.bool true, .int 0]]
def P2 (p : PyData) : List PyData := [p, .tuple [p, p], .list [p], .str ⟨#[97, 32, 116, 101, 120, 116]⟩, .int (-7), .tuple [.tuple [], .tuple [p]]]
theorem sz_all : (P1.all fun p => (P2 p).all fun q => szB q && szB (.list [q])) = true := by decide +kernel
theorem sz_of {p q : PyData} (hp : p ∈ P1) (hq : q ∈ P2 p) : szB q = true ∧ szB (.list [q]) = true := by
  have h := List.all_eq_true.mp (List.all_eq_true.mp sz_all p hp) q hq
  rw [Bool.and_eq_true] at h
  exact h
theorem repr_of {g : Nat → Option Cell} {x : D} {p : PyData} {n L : Nat} (h : Shn L g x p) (hL : L ≤ 100) (hs : szB p = true) : mRepr [x] (fu g n) = some (.ok (.rp p) (fu g n)) := by
  have h1 : pdr (fu g n) 400 x = some p := by
    have := h n (400 - L)
    rwa [show 400 - L + L = 400 by omega] at this
  unfold szB at hs
  rw [Bool.and_eq_true] at hs
  obtain ⟨hs, hd⟩ := hs
  show (match pdr (fu g n) 400 x with
    | some p => match shB p with
      | some n' => if lenOk n' && Nat.ble p.depth 100 then some (Res.ok (D.rp p) (fu g n)) else none
      | none => none
    | none => none) = _
  rw [h1]
  dsimp only
  split at hs
  · rename_i m e
    have hm := Nat.le_of_ble_eq_true hs
    have e1 : lenOk m = true := Nat.ble_eq_true_of_le (by omega)
    have e2 : Nat.ble p.depth 100 = true := Nat.ble_eq_true_of_le (by have := Nat.le_of_ble_eq_true hd; omega)
    rw [e1, e2]
    rfl
  · cases hs
mutual
theorem pdB_refl : ∀ (n : Nat) {p : PyData}, (shB p).isSome = true → sizeOf p < n → pdB p p = true
  | 0, _, _, h => absurd h (Nat.not_lt_zero _)
  | n + 1, p, hs, h => by
    cases p with
    | none => rfl
    | bool b => simp [pdB]
    | int b => simp [pdB]
    | str b => simp [pdB]
    | list ps =>
      simp only [pdB]
      refine pdsB_refl n ?_ (by simp at h; omega)
      simp only [shB] at hs
      split at hs
      · rename_i e; rw [e]; rfl
      · cases hs
    | tuple ps =>
      simp only [pdB]
      refine pdsB_refl n ?_ (by simp at h; omega)
      simp only [shB] at hs
      split at hs
      · rename_i e; rw [e]; rfl
      · cases hs
    | dict kvs =>
      cases kvs with
      | nil => simp [pdB]
      | cons _ _ => simp [shB] at hs
theorem pdsB_refl : ∀ (n : Nat) {ps : List PyData}, (shBs ps).isSome = true → sizeOf ps < n → pdsB ps ps = true
  | 0, _, _, h => absurd h (Nat.not_lt_zero _)
  | n + 1, ps, hs, h => by
    cases ps with
    | nil => simp [pdsB]
    | cons p ps =>
      simp only [shBs] at hs
      split at hs
      · rename_i e1 e2
        simp only [pdsB, Bool.and_eq_true]
        exact ⟨pdB_refl n (by rw [e1]; rfl) (by simp at h; omega), pdsB_refl n (by rw [e2]; rfl) (by simp at h; omega)⟩
      · cases hs
end
theorem rp_refl {p : PyData} (hs : szB p = true) : pdB p p = true := by
  refine pdB_refl (sizeOf p + 1) ?_ (Nat.lt_succ_self _)
  unfold szB at hs
  rw [Bool.and_eq_true] at hs
  split at hs
  · rename_i e; rw [e]; rfl
  · cases hs.1
end T
end
section
/-! K01l: the two loops. -/
namespace T
open PySem L2 G
def forB : CS → CS
  | .for_ _ _ b => b
  | c => c
def ifC : CS → CE
  | .iff c _ _ => c
  | _ => .unk
abbrev GG : Md := ⟨true, true⟩
abbrev OB : CS := forB (headS (dropS 5 b9))
abbrev IB : CS := forB (headS OB)
abbrev C1 : CE := ifC (headS IB)
abbrev C2 : CE := ifC (headS (dropS 1 IB))
abbrev OB2 : CS := forB (headS (dropS 9 b9))
/-- a run from the cells g, n of them: those stay -/
def Runs {α : Type} (m : M α) (g : Nat → Option Cell) (n : Nat) (a : α) (n' : Nat) : Prop := ∃ g', m (fu g n) = some (.ok a (fu g' n')) ∧ Ag n g' g
section
variable {k : Nat} {gd : Md} {env env1 env2 : G.Env} {S S1 S2 S3 : Sto} {one two : D}
theorem run_no {c : CE} {a : CS} (h : eT k gd c env S = some (.ok false S1)) : eS k gd (.iff c a .nil) env S = some (.ok (.nx env) S1) := by
  rw [run_if h, if_neg Bool.false_ne_true]
  exact run_nil (k := k) (gd := gd)
theorem loop_step {it : Itr} {G0 : D → G.Env → M G.Env} {b : G.Env → M Fl} {n i : Nat} {d : D} (h1 : nextI S it i = some (some d)) (h2 : G0 d env S = some (.ok env1 S1)) (h3 : b env1 S1 = some (.ok (.nx env2) S2)) : fLoop it G0 b (n + 1) i env S = fLoop it G0 b n (i + 1) env2 S2 := by
  show (match nextI S it i with
    | none => none
    | some none => some (Res.ok (Fl.nx env) S)
    | some (some d) => bnd (G0 d env) (fun env => bnd (b env) fun
      | .nx env => fLoop it G0 b n (i + 1) env
      | .ct env => fLoop it G0 b n (i + 1) env
      | .bk env => ret (.nx env)
      | .rt d => ret (.rt d)) S) = _
  rw [h1]
  exact (bnd_ok h2).trans (bnd_ok h3)
theorem loop_end {it : Itr} {G0 : D → G.Env → M G.Env} {b : G.Env → M Fl} {n i : Nat} (h1 : nextI S it i = some none) : fLoop it G0 b (n + 1) i env S = some (.ok (.nx env) S) := by
  show (match nextI S it i with
    | none => none
    | some none => some (Res.ok (Fl.nx env) S)
    | some (some d) => bnd (G0 d env) (fun env => bnd (b env) fun
      | .nx env => fLoop it G0 b n (i + 1) env
      | .ct env => fLoop it G0 b n (i + 1) env
      | .bk env => ret (.nx env)
      | .rt d => ret (.rt d)) S) = _
  rw [h1]
theorem run_for {g : CT} {it : CI} {b : CS} {J : Itr} (h : evI dat.tab dat.P (cal k) dat.cst gd it env S = some (.ok J S1)) : eS k gd (.for_ g it b) env S = fLoop J (evG dat.tab dat.P (cal k) dat.cst gd g) (eS k gd b) turns 0 env S1 := by
  show evS _ _ _ _ _ _ _ _ = _
  rw [evS]
  exact bnd_ok h
theorem inner_ok {b : CS} (h5 : env[5]? = some (some one)) (h6 : env[6]? = some (some two)) (h1 : eS k gd b (env.set 9 (some one)) S = some (.ok (.nx env1) S1)) (h2 : eS k gd b (env1.set 9 (some two)) S1 = some (.ok (.nx env2) S2)) :
    eS k gd (.for_ (.nm 9) (.any (.tup (.cons (.var 5) (.cons (.var 6) .nil)))) b) env S = some (.ok (.nx env2) S2) := by
  have hi : evI dat.tab dat.P (cal k) dat.cst gd (.any (.tup (.cons (.var 5) (.cons (.var 6) .nil)))) env S = some (.ok (.tup [one, two]) S) := by
    have v5 : eE k gd (.var 5) env S = some (.ok one S) := by
      show evE _ _ _ _ _ _ _ _ = _
      rw [evE]
      unfold mVar
      rw [h5]
    have v6 : eE k gd (.var 6) env S = some (.ok two S) := by
      show evE _ _ _ _ _ _ _ _ = _
      rw [evE]
      unfold mVar
      rw [h6]
    rw [evI]
    refine (bnd_ok (a := .tup [one, two]) (S' := S) ?_).trans rfl
    rw [evE]
    exact (bnd_ok (ev_cons v5 (ev_cons v6 ev_nil))).trans rfl
  rw [run_for hi]
  have e : turns = 4611686018427387901 + 1 + 1 + 1 := by decide
  rw [e, loop_step (S := S) (i := 0) (d := one) rfl (by rw [evG]; rfl) h1, loop_step (S := S1) (i := 1) (d := two) rfl (by rw [evG]; rfl) h2]
  exact loop_end rfl
end
abbrev envO (dd : Nat) (pl x : D) (k : Int) (w one two : D) (w9 : Option D) : G.Env := [some (.ref dd), some pl, some x, some (.int k), some w, some one, some two, none, none, w9, none, none]
abbrev envI (dd : Nat) (pl x : D) (k : Int) (w one two e : D) : G.Env := envO dd pl x k w one two (some e)
section
variable {dd : Nat} {pl x w one two : D} {k : Int} {w9 : Option D} {N N1 N2 N3 N4 M : Nat} {g0 : Nat → Option Cell}
theorem ib_ok {e : D} {S S1 S2 : Sto} (h1 : eT 98 GG C1 (envI dd pl x k w one two e) S = some (.ok false S1)) (h2 : eT 98 GG C2 (envI dd pl x k w one two e) S1 = some (.ok false S2)) :
    eS 98 GG IB (envI dd pl x k w one two e) S = some (.ok (.nx (envI dd pl x k w one two e)) S2) := by
  show eS 98 GG (.seq (.iff C1 (.seq (.ret (.con (.bl false))) .nil) .nil) (.seq (.iff C2 (.seq (.ret (.con (.bl false))) .nil) .nil) .nil)) _ _ = _
  rw [run_seq (run_no h1), run_seq (run_no h2)]
  exact run_nil (k := 98) (gd := GG)
theorem iter_ok (l1 : N ≤ N1) (l2 : N1 ≤ N2) (l3 : N2 ≤ N3) (hM : M ≤ N) (h1 : ∀ g, Runs (eT 98 GG C1 (envI dd pl x k w one two one)) g N false N1) (h2 : ∀ g, Ag M g g0 → Runs (eT 98 GG C2 (envI dd pl x k w one two one)) g N1 false N2)
    (h3 : ∀ g, Runs (eT 98 GG C1 (envI dd pl x k w one two two)) g N2 false N3) (h4 : ∀ g, Ag M g g0 → Runs (eT 98 GG C2 (envI dd pl x k w one two two)) g N3 false N4) (g : Nat → Option Cell) (hg : Ag M g g0) :
    Runs (eS 98 GG OB (envO dd pl x k w one two w9)) g N (.nx (envI dd pl x (k + 1) w one two two)) N4 := by
  obtain ⟨g1, e1, a1⟩ := h1 g
  have b1 : Ag M g1 g0 := fun j hj => (a1 j (by omega)).trans (hg j hj)
  obtain ⟨g2, e2, a2⟩ := h2 g1 b1
  have b2 : Ag M g2 g0 := fun j hj => (a2 j (by omega)).trans (b1 j hj)
  obtain ⟨g3, e3, a3⟩ := h3 g2
  have b3 : Ag M g3 g0 := fun j hj => (a3 j (by omega)).trans (b2 j hj)
  obtain ⟨g4, e4, a4⟩ := h4 g3 b3
  refine ⟨g4, ?_, fun j hj => by rw [a4 j (by omega), a3 j (by omega), a2 j (by omega), a1 j hj]⟩
  show eS 98 GG (.seq (.for_ (.nm 9) (.any (.tup (.cons (.var 5) (.cons (.var 6) .nil)))) IB) (.seq (.asg (.nm 3) (.bin .add (.var 3) (.con (.int 1)))) .nil)) _ _ = _
  rw [run_seq (inner_ok (env := envO dd pl x k w one two w9) (one := one) (two := two) rfl rfl (ib_ok e1 e2) (ib_ok e3 e4)), run_seq (run_asg (v := .int (k + 1)) rfl)]
  exact run_nil (k := 98) (gd := GG)
/-! ### the second question -/
theorem c2_of {e v v2 : D} {p : PyData} {S S1 : Sto} (hk : cal 98 6 [w, e] S = some (.ok v S1)) (h1 : mRepr [v] S1 = some (.ok (.rp p) S1)) (h2 : eE 98 GG (.ite (.cmp .ne (.var 4) (.con (.str []))) (.var 2) (.con .non)) (envI dd pl x k w one two e) S1 = some (.ok v2 S1))
    (h3 : mRepr [v2] S1 = some (.ok (.rp p) S1)) (hp : pdB p p = true) : eT 98 GG C2 (envI dd pl x k w one two e) S = some (.ok false S1) := by
  have a1 : eE 98 GG (.fun_ .repr (.cons (.call 6 2 (.cons (.var 4) (.cons (.var 9) .nil)) [] .nil) .nil)) (envI dd pl x k w one two e) S = some (.ok (.rp p) S1) := by
    rw [ev_fun (vs := [v]) (S' := S1) (ev_cons (S' := S1) ?_ ev_nil)]
    · exact h1
    · rw [ev_call (vs := [w, e]) (S' := S) (show okF dat.P _ 6 2 [] = some _ from rfl) rfl rfl (ev_cons (v := w) (S' := S) rfl (ev_cons (v := e) (S' := S) rfl ev_nil))]
      exact hk
  have a2 : eE 98 GG (.fun_ .repr (.cons (.ite (.cmp .ne (.var 4) (.con (.str []))) (.var 2) (.con .non)) .nil)) (envI dd pl x k w one two e) S1 = some (.ok (.rp p) S1) := by
    rw [ev_fun (vs := [v2]) (S' := S1) (ev_cons (S' := S1) h2 ev_nil)]
    exact h3
  refine ev_cmp (d := .rp p) (e := .rp p) a1 a2 ?_
  show (match (if pdB p p then some true else none) with
    | some b => some (Res.ok (D.bl (!b)) S1)
    | none => none) = _
  rw [hp]
  rfl
end
end T
end
section
/-! K01m: what an error keeps. -/
namespace T
open PySem L2 G
abbrev wG : D := .str [103, 105, 118, 101, 110]
abbrev wI : D := .str [105, 110, 100, 101, 120]
abbrev wR : D := .str [114, 101, 97, 115, 111, 110]
abbrev wW : D := .str [114, 111, 119]
abbrev w0 : D := .str []
theorem keptG (S : Sto) (x : D) : ∀ c ∈ [1, 2, 3, 4, 5, 6, 7, 8, 9, 10, 11, 12, 13, 14], cal 98 6 [wG, .ex c [x]] S = some (.ok x S) := by
  intro c hc
  simp only [List.mem_cons, List.not_mem_nil, or_false] at hc
  rcases hc with h | h | h | h | h | h | h | h | h | h | h | h | h | h <;> subst h <;> kernel_rfl
theorem keptI (S : Sto) (x : D) : ∀ c ∈ [16, 17], cal 98 6 [wI, .ex c [x]] S = some (.ok x S) := by
  intro c hc
  simp only [List.mem_cons, List.not_mem_nil, or_false] at hc
  rcases hc with h | h <;> subst h <;> kernel_rfl
theorem keptR (S : Sto) (x : D) : cal 98 6 [wR, .ex 18 [x]] S = some (.ok x S) := by kernel_rfl
theorem kept0 (S : Sto) : ∀ c ∈ [19, 20, 21, 22, 23, 24], cal 98 6 [w0, .ex c []] S = some (.ok .non S) := by
  intro c hc
  simp only [List.mem_cons, List.not_mem_nil, or_false] at hc
  rcases hc with h | h | h | h | h | h <;> subst h <;> kernel_rfl
/-- a thing that is shown by p -/
structure Th (M : Nat) (g0 : Nat → Option Cell) (x : D) (p : PyData) : Prop where
  sh : ∀ g, Ag M g g0 → Shn 40 g x p
  s1 : szB p = true
  s2 : szB (.list [p]) = true
section
variable {dd : Nat} {pl x one two : D} {k : Int} {N M : Nat} {g0 : Nat → Option Cell} {p : PyData}
theorem keptW (T1 : Th M g0 x p) {g : Nat → Option Cell} {j : Nat} (hj : j < M) (hM : M ≤ N) (hN : N < 1000) (h : g0 j = some (.lst [x])) (hg : Ag M g g0) :
    cal 98 6 [wW, .ex 15 [x, .ref j]] (fu g N) = some (.ok x (fu (upd' g N (.lst [x])) (N + 1))) := by
  refine call_of (k := 97) (fl := .rt x) (show dat.P 6 = some _ from rfl) (show dat.F 6 = some _ from rfl) ?_
  show eS 97 ⟨true, true⟩ b6 [some wW, some (.ex 15 [x, .ref j])] (fu g N) = _
  have hg2 : Ag M (upd' g N (.lst [x])) g0 := hg.push hM
  have r1 : mRepr [.ref j] (fu g N) = some (.ok (.rp (.list [p])) (fu g N)) := repr_of (L := 44) (Shn.lst1 (by omega) ((hg j hj).trans h) (T1.sh g hg)) (by omega) T1.s2
  have r2 : mRepr [.ref N] (fu (upd' g N (.lst [x])) (N + 1)) = some (.ok (.rp (.list [p])) (fu (upd' g N (.lst [x])) (N + 1))) := repr_of (L := 44) (Shn.lst1 hN upd'_same (T1.sh _ hg2)) (by omega) T1.s2
  unfold b6
  rw [run_seq (run_no (S1 := fu g N) (show eT 97 ⟨true, true⟩ (.cmp .eq (.var 0) (.con wG)) _ _ = _ by kernel_rfl)), run_seq (run_no (S1 := fu g N) (show eT 97 ⟨true, true⟩ (.cmp .eq (.var 0) (.con wI)) _ _ = _ by kernel_rfl))]
  refine run_ret ?_
  rw [run_if (q := true) (S' := fu g N) (show eT 97 ⟨true, true⟩ (.cmp .eq (.var 0) (.con wW)) _ _ = _ by kernel_rfl), if_pos rfl]
  refine run_ret (run_rete ?_)
  have a1 : eE 97 ⟨true, true⟩ (.fun_ .repr (.cons (.att (.var 1) 1) .nil)) [some wW, some (.ex 15 [x, .ref j])] (fu g N) = some (.ok (.rp (.list [p])) (fu g N)) := by
    rw [ev_fun (vs := [.ref j]) (S' := fu g N) (ev_cons (S' := fu g N) (by kernel_rfl) ev_nil)]
    exact r1
  have a2 : eE 97 ⟨true, true⟩ (.fun_ .repr (.cons (.lst (.cons (.att (.var 1) 2) .nil)) .nil)) [some wW, some (.ex 15 [x, .ref j])] (fu g N) = some (.ok (.rp (.list [p])) (fu (upd' g N (.lst [x])) (N + 1))) := by
    rw [ev_fun (vs := [.ref N]) (S' := fu (upd' g N (.lst [x])) (N + 1)) (ev_cons (S' := fu (upd' g N (.lst [x])) (N + 1)) ?_ ev_nil)]
    · exact r2
    · rw [ev_lst (vs := [x]) (S' := fu g N) rfl (ev_cons (S' := fu g N) (by kernel_rfl) ev_nil), fu_push hN]
      rfl
  have a3 : eT 97 ⟨true, true⟩ (.cmp .eq (.fun_ .repr (.cons (.att (.var 1) 1) .nil)) (.fun_ .repr (.cons (.lst (.cons (.att (.var 1) 2) .nil)) .nil))) [some wW, some (.ex 15 [x, .ref j])] (fu g N) = some (.ok true (fu (upd' g N (.lst [x])) (N + 1))) := by
    refine ev_cmp a1 a2 ?_
    show (match (if pdB (.list [p]) (.list [p]) then some true else none) with
      | some b => some (Res.ok (D.bl b) _)
      | none => none) = _
    rw [rp_refl T1.s2]
    rfl
  show evE _ _ _ _ _ _ _ _ = _
  rw [evE]
  exact (bnd_ok a3).trans (by kernel_rfl)
theorem c2_x (T1 : Th M g0 x p) {w e : D} (hw : ∀ S, eE 98 GG (.ite (.cmp .ne (.var 4) (.con (.str []))) (.var 2) (.con .non)) (envI dd pl x k w one two e) S = some (.ok x S)) (hk : ∀ S, cal 98 6 [w, e] S = some (.ok x S)) :
    ∀ g, Ag M g g0 → Runs (eT 98 GG C2 (envI dd pl x k w one two e)) g N false N := fun g hg =>
  have r1 := repr_of (n := N) (T1.sh g hg) (by omega) T1.s1
  ⟨g, c2_of (hk _) r1 (hw _) r1 (rp_refl T1.s1), Ag.refl⟩
theorem c2_0 {e : D} (hk : ∀ S, cal 98 6 [w0, e] S = some (.ok .non S)) : ∀ g, Ag M g g0 → Runs (eT 98 GG C2 (envI dd pl x k w0 one two e)) g N false N := fun g hg =>
  ⟨g, c2_of (p := .none) (v2 := .non) (hk _) rfl (by kernel_rfl) rfl rfl, Ag.refl⟩
theorem c2_w (T1 : Th M g0 x p) {j : Nat} (hj : j < M) (hM : M ≤ N) (hN : N < 1000) (h : g0 j = some (.lst [x])) : ∀ g, Ag M g g0 → Runs (eT 98 GG C2 (envI dd pl x k wW one two (.ex 15 [x, .ref j]))) g N false (N + 1) := fun g hg =>
  have r1 := repr_of (n := N + 1) (T1.sh (upd' g N (.lst [x])) (hg.push hM)) (by omega) T1.s1
  ⟨_, c2_of (keptW T1 hj hM hN h hg) r1 (by kernel_rfl) r1 (rp_refl T1.s1), Ag.push Ag.refl (Nat.le_refl _)⟩
end
end T
end
section
/-! K01n: many cells; the second loop's question. -/
namespace T
open PySem L2 G
def pushL (S : Sto) : List Cell → Sto
  | [] => S
  | c :: cs => pushL (S.push c) cs
def updL (g : Nat → Option Cell) (n : Nat) : List Cell → Nat → Option Cell
  | [] => g
  | c :: cs => updL (upd' g n c) (n + 1) cs
theorem pushL_fu : ∀ (cs : List Cell) (g : Nat → Option Cell) (n : Nat), n + cs.length ≤ 1000 → pushL (fu g n) cs = fu (updL g n cs) (n + cs.length)
  | [], g, n, _ => rfl
  | c :: cs, g, n, h => by
    simp only [List.length_cons] at h
    show pushL ((fu g n).push c) cs = _
    rw [fu_push (by omega), pushL_fu cs _ _ (by omega)]
    show fu _ _ = fu _ (n + (cs.length + 1))
    rw [show n + 1 + cs.length = n + (cs.length + 1) by omega]
    rfl
theorem updL_ag : ∀ (cs : List Cell) (g : Nat → Option Cell) (n : Nat), Ag n (updL g n cs) g
  | [], g, n => Ag.refl
  | c :: cs, g, n => fun j hj => by
    show updL (upd' g n c) (n + 1) cs j = g j
    rw [updL_ag cs _ _ j (by omega), upd'_ne (by omega)]
theorem updL_at : ∀ (cs : List Cell) (g : Nat → Option Cell) (n i : Nat) (c : Cell), cs[i]? = some c → updL g n cs (n + i) = some c
  | [], g, n, i, c, h => by simp at h
  | c0 :: cs, g, n, 0, c, h => by
    simp at h
    subst h
    show updL (upd' g n c0) (n + 1) cs n = _
    rw [updL_ag cs _ _ n (by omega), upd'_same]
  | c0 :: cs, g, n, i + 1, c, h => by
    show updL (upd' g n c0) (n + 1) cs (n + (i + 1)) = _
    rw [show n + (i + 1) = n + 1 + i by omega]
    exact updL_at cs _ _ i c (by simpa using h)
theorem upd'_self {g : Nat → Option Cell} {i : Nat} {c : Cell} (h : g i = some c) : upd' g i c = g := funext fun j => by
  by_cases hj : j = i
  · rw [hj, upd'_same, h]
  · rw [upd'_ne hj]
theorem Runs.of {α : Type} {m : M α} {g : Nat → Option Cell} {n n' : Nat} {a : α} {cs : List Cell} (h : m (fu g n) = some (.ok a (pushL (fu g n) cs))) (hn : n + cs.length ≤ 1000) (e : n' = n + cs.length) : Runs m g n a n' :=
  ⟨updL g n cs, by rw [h, pushL_fu cs g n hn, e], updL_ag cs g n⟩
/-! ### a thing that was picked -/
abbrev plL (N0 : Nat) : List D := [.non, .bl true, .bl false, .int 0, .int 1, .int (-1), .int (10 ^ 29), .str [], .str [97], .tup [], .tup [.int 1, .str [103, 111, 111, 100]], .ref (N0 + 3), .ref (N0 + 4), .tup [.tup [.int 1, .str [97]]], .tup [.bl true, .int 0]]
abbrev plM (N0 : Nat) (x : D) : List D := [x, .tup [x, x], .ref (N0 + 5), .str [97, 32, 116, 101, 120, 116], .int (-7), .tup [.tup [], .tup [x]]]
theorem shn_of {L : Nat} {g : Nat → Option Cell} {x : D} {p : PyData} (h : ∀ S m, pdr S (m + L) x = some p) : Shn L g x p := fun n m => h _ m
theorem th1 {N0 : Nat} (hN : N0 < 900) {x : D} (hx : x ∈ plL N0) : ∃ p ∈ P1, ∀ g : Nat → Option Cell, g (N0 + 3) = some (.lst []) → g (N0 + 4) = some (.dct []) → Shn 10 g x p := by
  simp only [plL, List.mem_cons, List.not_mem_nil, or_false] at hx
  have m : ∀ i (p : PyData), P1[i]? = some p → p ∈ P1 := fun i p h => List.mem_of_getElem? h
  rcases hx with h | h | h | h | h | h | h | h | h | h | h | h | h | h | h <;> subst h
  · exact ⟨_, m 0 _ rfl, fun g _ _ => shn_of fun S n => rfl⟩
  · exact ⟨_, m 1 _ rfl, fun g _ _ => shn_of fun S n => rfl⟩
  · exact ⟨_, m 2 _ rfl, fun g _ _ => shn_of fun S n => rfl⟩
  · exact ⟨_, m 3 _ rfl, fun g _ _ => shn_of fun S n => rfl⟩
  · exact ⟨_, m 4 _ rfl, fun g _ _ => shn_of fun S n => rfl⟩
  · exact ⟨_, m 5 _ rfl, fun g _ _ => shn_of fun S n => rfl⟩
  · exact ⟨_, m 6 _ rfl, fun g _ _ => shn_of fun S n => rfl⟩
  · exact ⟨_, m 7 _ rfl, fun g _ _ => shn_of fun S n => rfl⟩
  · exact ⟨_, m 8 _ rfl, fun g _ _ => shn_of fun S n => rfl⟩
  · exact ⟨_, m 9 _ rfl, fun g _ _ => shn_of fun S n => rfl⟩
  · exact ⟨_, m 10 _ rfl, fun g _ _ => shn_of fun S n => rfl⟩
  · exact ⟨_, m 11 _ rfl, fun g h _ => (Shn.lst0 (by omega) h).up (by omega)⟩
  · exact ⟨_, m 12 _ rfl, fun g _ h => (Shn.dct0 (by omega) h).up (by omega)⟩
  · exact ⟨_, m 13 _ rfl, fun g _ _ => shn_of fun S n => rfl⟩
  · exact ⟨_, m 14 _ rfl, fun g _ _ => shn_of fun S n => rfl⟩
theorem th2 {N0 : Nat} (hN : N0 < 900) {x y : D} (hx : x ∈ plL N0) (hy : y ∈ plM N0 x) {M : Nat} {g0 : Nat → Option Cell} (hM : N0 + 6 ≤ M) (h3 : g0 (N0 + 3) = some (.lst [])) (h4 : g0 (N0 + 4) = some (.dct [])) (h5 : g0 (N0 + 5) = some (.lst [x])) : ∃ p, Th M g0 y p := by
  obtain ⟨p, hp, sh⟩ := th1 hN hx
  have S1 : ∀ g, Ag M g g0 → Shn 10 g x p := fun g hg => sh g ((hg _ (by omega)).trans h3) ((hg _ (by omega)).trans h4)
  have m : ∀ i (q : PyData), (P2 p)[i]? = some q → q ∈ P2 p := fun i q h => List.mem_of_getElem? h
  have fin : ∀ q, q ∈ P2 p → (∀ g, Ag M g g0 → Shn 40 g y q) → ∃ p, Th M g0 y p := fun q hq h => ⟨q, h, (sz_of hp hq).1, (sz_of hp hq).2⟩
  simp only [plM, List.mem_cons, List.not_mem_nil, or_false] at hy
  rcases hy with h | h | h | h | h | h <;> subst h
  · exact fin _ (m 0 _ rfl) fun g hg => (S1 g hg).up (by omega)
  · exact fin _ (m 1 _ rfl) fun g hg => (Shn.tup2 (S1 g hg) (S1 g hg)).up (by omega)
  · exact fin _ (m 2 _ rfl) fun g hg => (Shn.lst1 (by omega) ((hg _ (by omega)).trans h5) (S1 g hg)).up (by omega)
  · exact fin _ (m 3 _ rfl) fun g hg => shn_of fun S n => rfl
  · exact fin _ (m 4 _ rfl) fun g hg => shn_of fun S n => rfl
  · exact fin _ (m 5 _ rfl) fun g hg => (Shn.tup2 (L := 14) (shn_of fun S n => rfl) ((Shn.tup1 (S1 g hg)).up (by omega))).up (by omega)
/-! ### the second loop -/
abbrev C3 : CE := ifC (headS OB2)
theorem ne_row {S : Sto} {r : Nat} {a b : Int} (h : S.get r = some (.lst [.int a, .int b])) : mNe (.ref r) (.ref r) S = some (.ok (.bl false) S) := by
  have e : pd S 400 (.ref r) = some (.list [.int a, .int b]) := by
    have l : lstAt S r = some [.int a, .int b] := by unfold lstAt; rw [h]
    simp [pd, pds, l]
  show (match (match pd S 400 (.ref r), pd S 400 (.ref r) with
    | some p, some q => if SeqAt.shaped p && SeqAt.shaped q then some (PyData.eqv p q) else none
    | _, _ => none) with
    | some b => some (Res.ok (D.bl (!b)) S)
    | none => none) = _
  rw [e]
  have s : SeqAt.shaped (.list [.int a, .int b]) = true := by
    unfold SeqAt.shaped
    simp [PyData.canLay0, PyData.canLayAll0, PyData.depth, PyData.depthAll]
  have q : PyData.eqv (.list [.int a, .int b]) (.list [.int a, .int b]) = true := by
    simp [PyData.eqv, PyData.eqvAll]
  dsimp only
  rw [s, q]
  rfl
/-! ### numbers -/
theorem bits_small {j : Int} {m : Nat} (h : j.natAbs < 2 ^ m) : Builtin.Int.intBits j ≤ m := by
  unfold Builtin.Int.intBits
  split
  · exact Nat.zero_le _
  · rename_i hj
    have hz : j.natAbs ≠ 0 := fun z => hj (by simpa using Int.natAbs_eq_zero.mp z)
    exact (Nat.log2_lt hz).mpr h
theorem mul_of {i j : Int} {S : Sto} (h : Builtin.Int.intBits i + Builtin.Int.intBits j ≤ 134217728) : mMul2 (.int i) (.int j) S = some (.ok (.int (i * j)) S) := by
  show (if mulOk i j then some (Res.ok (D.int (i * j)) S) else none) = _
  have : mulOk i j = true := decide_eq_true h
  rw [this]
  rfl
section
variable {k : Nat} {gd : Md} {env env' : G.Env} {S S' S2 : Sto} {d v e : D}
theorem ev_bin {o : BO} {a b : CE} (h1 : eE k gd a env S = some (.ok d S')) (h2 : eE k gd b env S' = some (.ok e S2)) : eE k gd (.bin o a b) env S = o.run d e S2 := by
  show evE _ _ _ _ _ _ _ _ = _
  rw [evE]
  exact (bnd_ok h1).trans (bnd_ok h2)
theorem run_asgx {g : CT} {c : CE} (h : eE k gd c env S = some (.ok v S')) (h2 : evG dat.tab dat.P (cal k) dat.cst gd g v env S' = some (.ok env' S2)) : eS k gd (.asg g c) env S = some (.ok (.nx env') S2) := by
  show evS _ _ _ _ _ _ _ _ = _
  rw [evS]
  exact (bnd_ok h).trans ((bnd_ok h2).trans rfl)
/-- int(v * K + L + M) % 2147483549 -/
theorem seed_ok {i : Nat} {cK cL : CE} {b K L z : Int} {M : Int} (hb0 : 0 ≤ b) (hb : b < 2147483549) (hK : eE k gd cK env S = some (.ok (.int K) S)) (k0 : 0 ≤ K) (k1 : K < 1000000) (hL : eE k gd cL env S = some (.ok (.int L) S)) (hz : z = (b * K + L + M) % 2147483549) (hv : mVar i env S = some (.ok (.int b) S)) :
    eE k gd (.bin .mod (.fun_ .int (.cons (.bin .add (.bin .add (.bin .mul (.var i) cK) cL) (.con (.int M))) .nil)) (.con (.int 2147483549))) env S = some (.ok (.int z) S) := by
  have h1 : eE k gd (.bin .mul (.var i) cK) env S = some (.ok (.int (b * K)) S) := by
    rw [ev_bin (S' := S) (S2 := S) (d := .int b) (e := .int K) (by show evE _ _ _ _ _ _ _ _ = _; rw [evE]; exact hv) hK]
    refine mul_of ?_
    have e1 := bits_small (j := b) (m := 40) (by omega)
    have e2 := bits_small (j := K) (m := 40) (by omega)
    omega
  have h2 : eE k gd (.bin .add (.bin .mul (.var i) cK) cL) env S = some (.ok (.int (b * K + L)) S) := by
    rw [ev_bin h1 hL]
    rfl
  have h3 : eE k gd (.bin .add (.bin .add (.bin .mul (.var i) cK) cL) (.con (.int M))) env S = some (.ok (.int (b * K + L + M)) S) := by
    rw [ev_bin (S2 := S) (e := .int M) h2 (by show evE _ _ _ _ _ _ _ _ = _; rw [evE]; rfl)]
    rfl
  have h4 : eE k gd (.fun_ .int (.cons (.bin .add (.bin .add (.bin .mul (.var i) cK) cL) (.con (.int M))) .nil)) env S = some (.ok (.int (b * K + L + M)) S) := by
    rw [ev_fun (ev_cons h3 ev_nil)]
    rfl
  rw [ev_bin (S2 := S) (e := .int 2147483549) h4 (by show evE _ _ _ _ _ _ _ _ = _; rw [evE]; rfl), hz]
  rfl
end
end T
end
section
/-! K01o: turns of the loops. -/
namespace T
open PySem L2 G
def argS : CS → CL
  | .asg _ (.call _ _ es _ _) => es
  | _ => .nil
def forI : CS → CI
  | .for_ _ i _ => i
  | _ => .any .unk
/-- the cells of _law_given_ones(x) + _law_index_ones(x), made at n -/
def items (x : D) (n : Nat) : List Cell :=
  ((List.range 14).map fun i => .lst [wG, .ex (i + 1) [x], .ex (i + 1) [x]]) ++ ([.lst ((List.range 14).map fun i => .ref (n + i)), .lst [x], .lst [x], .lst [wW, .ex 15 [x, .ref (n + 15)], .ex 15 [x, .ref (n + 16)]], .lst [wI, .ex 16 [x], .ex 16 [x]], .lst [wI, .ex 17 [x], .ex 17 [x]], .lst [wR, .ex 18 [x], .ex 18 [x]]] ++
  (((List.range 6).map fun i => .lst [w0, .ex (i + 19) [], .ex (i + 19) []]) ++ [.lst ((List.range 10).map fun i => .ref (n + 17 + i)), .lst (((List.range 14).map fun i => .ref (n + i)) ++ (List.range 10).map fun i => .ref (n + 17 + i))]))
abbrev allR (n : Nat) : List D := ((List.range 14).map fun i => .ref (n + i)) ++ (List.range 10).map fun i => .ref (n + 17 + i)
theorem items_len (x : D) (n : Nat) : (items x n).length = 29 := rfl
abbrev tg3 : CT := .tp 3 (.cons (.nm 4) (.cons (.nm 5) (.cons (.nm 6) .nil)))
theorem tgt3 {env : G.Env} {g : Nat → Option Cell} {N r : Nat} {w one two : D} (lr : r < 1000) (hr : g r = some (.lst [w, one, two])) :
    evG dat.tab dat.P (cal 98) dat.cst GG tg3 (.ref r) env (fu g N) = some (.ok (((env.set 4 (some w)).set 5 (some one)).set 6 (some two)) (fu g N)) := by
  have l : lstAt (fu g N) r = some [w, one, two] := by
    unfold lstAt
    rw [fu_get lr, hr]
  show evG _ _ _ _ _ _ _ _ _ = _
  rw [evG]
  unfold tgT
  dsimp only
  rw [l]
  dsimp only
  rw [if_pos (show ([w, one, two] : List D).length = 3 from rfl)]
  simp only [evGs, evG]
  rfl
theorem turn {m i N N' Q L r : Nat} {ds : List D} {w one two : D} {g g0 : Nat → Option Cell} {env env2 : G.Env} {b : G.Env → M Fl} (hM : Q < 1000) (lL : L < Q) (lr : r < Q) (hL : g0 L = some (.lst ds)) (hi : ds[i]? = some (.ref r)) (hr : g0 r = some (.lst [w, one, two])) (hg : Ag Q g g0)
    (hb : Runs (b (((env.set 4 (some w)).set 5 (some one)).set 6 (some two))) g N (.nx env2) N') :
    ∃ g', fLoop (.lst L) (evG dat.tab dat.P (cal 98) dat.cst GG tg3) b (m + 1) i env (fu g N) = fLoop (.lst L) (evG dat.tab dat.P (cal 98) dat.cst GG tg3) b m (i + 1) env2 (fu g' N') ∧ Ag N g' g := by
  obtain ⟨g', e, a⟩ := hb
  refine ⟨g', loop_step (d := .ref r) ?_ (tgt3 (by omega) ((hg r lr).trans hr)) e, a⟩
  show (match lstAt (fu g N) L with
    | some ds => some ds[i]?
    | none => none) = _
  have l : lstAt (fu g N) L = some ds := by
    unfold lstAt
    rw [fu_get (by omega), hg L lL, hL]
  rw [l]
  dsimp only
  rw [hi]
theorem turn_end {m i N Q L : Nat} {ds : List D} {g g0 : Nat → Option Cell} {env : G.Env} {G0 : D → G.Env → M G.Env} {b : G.Env → M Fl} (hM : Q < 1000) (lL : L < Q) (hL : g0 L = some (.lst ds)) (hi : ds[i]? = none) (hg : Ag Q g g0) : fLoop (.lst L) G0 b (m + 1) i env (fu g N) = some (.ok (.nx env) (fu g N)) := by
  refine loop_end ?_
  show (match lstAt (fu g N) L with
    | some ds => some ds[i]?
    | none => none) = _
  have l : lstAt (fu g N) L = some ds := by
    unfold lstAt
    rw [fu_get (by omega), hg L lL, hL]
  rw [l]
  dsimp only
  rw [hi]
section
variable {k : Nat} {gd : Md} {env env' : G.Env} {S S' S2 : Sto} {d v e : D}
theorem t_and {a b : CE} {q : Bool} (h1 : eT k gd a env S = some (.ok true S')) (h2 : eT k gd b env S' = some (.ok q S2)) : eT k gd (.boo true (.cons a (.cons b .nil))) env S = some (.ok q S2) := by
  show evT _ _ _ _ _ _ _ _ = _
  rw [evT, evBT, evBT]
  exact (bnd_ok h1).trans h2
theorem t_or {a b : CE} {q : Bool} (h1 : eT k gd a env S = some (.ok false S')) (h2 : eT k gd b env S' = some (.ok q S2)) : eT k gd (.boo false (.cons a (.cons b .nil))) env S = some (.ok q S2) := by
  show evT _ _ _ _ _ _ _ _ = _
  rw [evT, evBT, evBT]
  exact (bnd_ok h1).trans h2
theorem ev_append {a : CE} {es : CL} {i : Nat} {xs : List D} (ha : eE k gd a env S = some (.ok (.ref i) S)) (h0 : S.get i = some (.lst xs)) (hes : eL k gd es env S = some (.ok [v] S')) (h1 : S'.get i = some (.lst xs)) (hl : lenOk (xs.length + 1) = true) :
    eE k gd (.bmt a .append es) env S = some (.ok .non (S'.put i (.lst (xs ++ [v])))) := by
  show evE _ _ _ _ _ _ _ _ = _
  rw [evE]
  refine (bnd_ok ha).trans ?_
  have t : isTy (BM.append).ty S (.ref i) = true := by
    show (match (match S.get i with
      | some (.lst _) => some (TC.ty .list)
      | some (.frz _) => some (.ty .list)
      | some (.dct _) => some (.ty .dict)
      | some (.ins c _) => some (.own c)
      | none => none) with
      | some (.ty u) => decide (u = Ty.list)
      | _ => false) = true
    rw [h0]
    rfl
  show (if isTy (BM.append).ty S (.ref i) then bnd (evL dat.tab dat.P (cal k) dat.cst gd es env) (fun ds => mAppend (.ref i) ds) S else none) = _
  rw [if_pos t]
  refine (bnd_ok hes).trans ?_
  unfold mAppend
  simp only [h1, hl, if_true]
end
section
variable {dd row made : Nat} {pl x one two k3 : D} {w9 : Option D} {S : Sto} {a b : Int}
abbrev env2 (dd : Nat) (pl x k3 w one two : D) (row made : Nat) (w9 : Option D) : G.Env := [some (.ref dd), some pl, some x, some k3, some w, some one, some two, some (.ref row), some (.ref made), w9, none, none]
theorem body2 {w : D} (h : eT 98 GG C3 (env2 dd pl x k3 w one two row made w9) S = some (.ok false S)) : eS 98 GG OB2 (env2 dd pl x k3 w one two row made w9) S = some (.ok (.nx (env2 dd pl x k3 w one two row made w9)) S) := by
  show eS 98 GG (.seq (.iff C3 (.seq (.ret (.con (.bl false))) .nil) .nil) .nil) _ _ = _
  rw [run_seq (run_no h)]
  exact run_nil (k := 98) (gd := GG)
theorem c3_x {w : D} (hin : ∀ S, eT 98 GG (.cmp .notin (.var 4) (.tup (.cons (.con (.str [])) (.cons (.con wW) .nil)))) (env2 dd pl x k3 w one two row made w9) S = some (.ok true S)) (h : S.get row = some (.lst [.int a, .int b]))
    (k1 : ∀ S, cal 98 6 [w, one] S = some (.ok (.ref row) S)) (k2 : ∀ S, cal 98 6 [w, two] S = some (.ok (.ref row) S)) : eT 98 GG C3 (env2 dd pl x k3 w one two row made w9) S = some (.ok false S) := by
  refine t_and (hin S) (t_or (S' := S) ?_ ?_)
  · refine ev_cmp (d := .ref row) (e := .ref row) (S' := S) ?_ rfl (ne_row h)
    rw [ev_call (vs := [w, one]) (S' := S) (show okF dat.P _ 6 2 [] = some _ from rfl) rfl rfl (ev_cons (v := w) (S' := S) rfl (ev_cons (v := one) (S' := S) rfl ev_nil))]
    exact k1 S
  · refine ev_cmp (d := .ref row) (e := .ref row) (S' := S) ?_ rfl (ne_row h)
    rw [ev_call (vs := [w, two]) (S' := S) (show okF dat.P _ 6 2 [] = some _ from rfl) rfl rfl (ev_cons (v := w) (S' := S) rfl (ev_cons (v := two) (S' := S) rfl ev_nil))]
    exact k2 S
theorem c3_0 : eT 98 GG C3 (env2 dd pl x k3 w0 one two row made w9) S = some (.ok false S) := by kernel_rfl
theorem c3_w : eT 98 GG C3 (env2 dd pl x k3 wW one two row made w9) S = some (.ok false S) := by kernel_rfl
end
section
variable {m i dd N N1 N2 N3 N4 M L r : Nat} {ds : List D} {pl x w one two : D} {k k' : Int} {o4 o5 o6 o9 : Option D} {g g0 : Nat → Option Cell}
/-- one turn of the first loop -/
theorem turnI (hM : M < 1000) (lL : L < M) (lr : r < M) (l0 : M ≤ N) (l1 : N ≤ N1) (l2 : N1 ≤ N2) (l3 : N2 ≤ N3) (hk : k' = k + 1) (hL : g0 L = some (.lst ds)) (hi : ds[i]? = some (.ref r)) (hr : g0 r = some (.lst [w, one, two])) (hg : Ag M g g0)
    (h1 : ∀ g, Runs (eT 98 GG C1 (envI dd pl x k w one two one)) g N false N1) (h2 : ∀ g, Ag M g g0 → Runs (eT 98 GG C2 (envI dd pl x k w one two one)) g N1 false N2)
    (h3 : ∀ g, Runs (eT 98 GG C1 (envI dd pl x k w one two two)) g N2 false N3) (h4 : ∀ g, Ag M g g0 → Runs (eT 98 GG C2 (envI dd pl x k w one two two)) g N3 false N4) :
    ∃ g', fLoop (.lst L) (evG dat.tab dat.P (cal 98) dat.cst GG tg3) (eS 98 GG OB) (m + 1) i [some (.ref dd), some pl, some x, some (.int k), o4, o5, o6, none, none, o9, none, none] (fu g N) = fLoop (.lst L) (evG dat.tab dat.P (cal 98) dat.cst GG tg3) (eS 98 GG OB) m (i + 1) (envI dd pl x k' w one two two) (fu g' N4) ∧ Ag M g' g0 := by
  subst hk
  obtain ⟨g', e, a⟩ := turn (env := [some (.ref dd), some pl, some x, some (.int k), o4, o5, o6, none, none, o9, none, none]) (b := eS 98 GG OB) (m := m) hM lL lr hL hi hr hg (iter_ok (w9 := o9) l1 l2 l3 l0 h1 h2 h3 h4 g hg)
  exact ⟨g', e, fun j hj => (a j (by omega)).trans (hg j hj)⟩
end
section
variable {m i dd N Q L r row : Nat} {ds : List D} {pl x k3 w one two : D} {o4 o5 o6 o9 : Option D} {g : Nat → Option Cell}
/-- one turn of the second loop -/
theorem turnJ (hM : Q < 1000) (lL : L < Q) (lr : r < Q) (hL : g L = some (.lst ds)) (hi : ds[i]? = some (.ref r)) (hr : g r = some (.lst [w, one, two])) (h : eT 98 GG C3 (env2 dd pl x k3 w one two row L o9) (fu g N) = some (.ok false (fu g N))) :
    fLoop (.lst L) (evG dat.tab dat.P (cal 98) dat.cst GG tg3) (eS 98 GG OB2) (m + 1) i [some (.ref dd), some pl, some x, some k3, o4, o5, o6, some (.ref row), some (.ref L), o9, none, none] (fu g N) = fLoop (.lst L) (evG dat.tab dat.P (cal 98) dat.cst GG tg3) (eS 98 GG OB2) m (i + 1) (env2 dd pl x k3 w one two row L o9) (fu g N) := by
  refine loop_step (d := .ref r) ?_ (tgt3 (by omega) hr) (body2 h)
  show (match lstAt (fu g N) L with
    | some ds => some ds[i]?
    | none => none) = _
  have l : lstAt (fu g N) L = some ds := by
    unfold lstAt
    rw [fu_get (by omega), hL]
  rw [l]
  dsimp only
  rw [hi]
end
end T
end
section
/-! K01b4: the round that begins with 4 cells. -/
namespace T.B4
open PySem L2 G T
theorem take0 {g : Nat → Option Cell} {n : Nat} {a b : Int} {k : Nat} (hb0 : 0 ≤ b) (hb : b < 2147483549) (hg : g 3 = some (.lst [.int a, .int b, .int 0])) : ∃ r a' b' : Int, 0 ≤ b' ∧ b' < 2147483549 ∧ 0 ≤ r ∧ r < ((15 : Nat) : Int) ∧
    cal (k + 1) 1 [.ref 3, .int 15] (fu g n) = some (.ok (.int r) (fu (upd' g 3 (.lst [.int a', .int b', .int 1])) n)) := by
  rw [← upd'_self hg]
  simp only [upd'_upd']
  have hb2 : 0 ≤ (b * 78007 + 0 + 27211) % 2147483549 ∧ (b * 78007 + 0 + 27211) % 2147483549 < 2147483549 := ⟨Int.emod_nonneg _ (by decide), Int.emod_lt_of_pos _ (by decide)⟩
  have hc : eS k ⟨false, true⟩ b1 [some (.ref 3), some (.int 15), none, none, none] (fu (upd' g 3 (.lst [.int a, .int b, .int 0])) n) = eS k ⟨false, true⟩ (dropS 3 b1) [some (.ref 3), some (.int 15), some (.int a), some (.int b), some (.int 0)]
      (((fu (upd' g 3 (.lst [.int a, .int b, .int 0])) n).put 3 (.lst [.int a, .int ((b * 78007 + 0 + 27211) % 2147483549), .int 0])).put 3 (.lst [.int a, .int ((b * 78007 + 0 + 27211) % 2147483549), .int 1])) := by
    have h0 : eS k ⟨false, true⟩ (headS b1) [some (.ref 3), some (.int 15), none, none, none] (fu (upd' g 3 (.lst [.int a, .int b, .int 0])) n) = some (.ok (.nx [some (.ref 3), some (.int 15), some (.int a), some (.int b), some (.int 0)]) (fu (upd' g 3 (.lst [.int a, .int b, .int 0])) n)) := by kernel_rfl
    have h1 : eS k ⟨false, true⟩ (headS (dropS 1 b1)) [some (.ref 3), some (.int 15), some (.int a), some (.int b), some (.int 0)] (fu (upd' g 3 (.lst [.int a, .int b, .int 0])) n) = some (.ok (.nx [some (.ref 3), some (.int 15), some (.int a), some (.int b), some (.int 0)])
      ((fu (upd' g 3 (.lst [.int a, .int b, .int 0])) n).put 3 (.lst [.int a, .int ((b * 78007 + 0 + 27211) % 2147483549), .int 0]))) :=
      run_asgx (v := .int ((b * 78007 + 0 + 27211) % 2147483549)) (S' := fu (upd' g 3 (.lst [.int a, .int b, .int 0])) n) (seed_ok (K := 78007) (L := 0) hb0 hb (by kernel_rfl) (by decide) (by decide) (by kernel_rfl) rfl rfl) (by kernel_rfl)
    have h2 : eS k ⟨false, true⟩ (headS (dropS 2 b1)) [some (.ref 3), some (.int 15), some (.int a), some (.int b), some (.int 0)] ((fu (upd' g 3 (.lst [.int a, .int b, .int 0])) n).put 3 (.lst [.int a, .int ((b * 78007 + 0 + 27211) % 2147483549), .int 0])) = some (.ok (.nx [some (.ref 3), some (.int 15), some (.int a), some (.int b), some (.int 0)])
      (((fu (upd' g 3 (.lst [.int a, .int b, .int 0])) n).put 3 (.lst [.int a, .int ((b * 78007 + 0 + 27211) % 2147483549), .int 0])).put 3 (.lst [.int a, .int ((b * 78007 + 0 + 27211) % 2147483549), .int 1]))) := by kernel_rfl
    exact (run_seq h0).trans ((run_seq h1).trans (run_seq h2))
  rw [fu_put (by decide), fu_put (by decide), upd'_upd', upd'_upd'] at hc
  generalize (b * 78007 + 0 + 27211) % 2147483549 = b2 at hc hb2
  have hq : eT k ⟨false, true⟩ (.cmp .gt (.var 2) (.con (.int 0))) [some (.ref 3), some (.int 15), some (.int a), some (.int b), some (.int 0)] (fu (upd' g 3 (.lst [.int a, .int b2, .int 1])) n) = some (.ok (decide (0 < a)) (fu (upd' g 3 (.lst [.int a, .int b2, .int 1])) n)) := by kernel_rfl
  have emod : ∀ z : Int, 0 ≤ z % ((15 : Nat) : Int) ∧ z % ((15 : Nat) : Int) < ((15 : Nat) : Int) := fun z => ⟨Int.emod_nonneg _ (by decide), Int.emod_lt_of_pos _ (by decide)⟩
  unfold b1 at hc
  simp only [dropS] at hc
  by_cases h : 0 < a
  · refine ⟨a % ((15 : Nat) : Int), a / ((15 : Nat) : Int), b2, hb2.1, hb2.2, (emod a).1, (emod a).2, ?_⟩
    refine call_of (k := k) (fl := .rt (.int (a % ((15 : Nat) : Int)))) (show dat.P 1 = some _ from rfl) (show dat.F 1 = some _ from rfl) ?_
    refine Eq.trans hc ?_
    refine run_ret ?_
    rw [run_if hq, if_pos (decide_eq_true h)]
    have s1 : eS k ⟨false, true⟩ (.asg (.ix (.var 0) (.con (.int 0))) (.bin .div (.fun_ .int (.cons (.var 2) .nil)) (.var 1))) [some (.ref 3), some (.int 15), some (.int a), some (.int b), some (.int 0)] (fu (upd' g 3 (.lst [.int a, .int b2, .int 1])) n) = some (.ok (.nx [some (.ref 3), some (.int 15), some (.int a), some (.int b), some (.int 0)]) ((fu (upd' g 3 (.lst [.int a, .int b2, .int 1])) n).put 3 (.lst [.int (a / ((15 : Nat) : Int)), .int b2, .int 1]))) := by kernel_rfl
    rw [fu_put (by decide), upd'_upd'] at s1
    rw [run_seq s1]
    exact run_ret (run_rete (by kernel_rfl))
  · refine ⟨b2 / 128 % ((15 : Nat) : Int), a, b2, hb2.1, hb2.2, (emod _).1, (emod _).2, ?_⟩
    refine call_of (k := k) (fl := .rt (.int (b2 / 128 % ((15 : Nat) : Int)))) (show dat.P 1 = some _ from rfl) (show dat.F 1 = some _ from rfl) ?_
    refine Eq.trans hc ?_
    rw [run_seq (run_no (by rw [hq, decide_eq_false h]))]
    exact run_ret (run_rete (by kernel_rfl))
theorem take1 {g : Nat → Option Cell} {n : Nat} {a b : Int} {k : Nat} (hb0 : 0 ≤ b) (hb : b < 2147483549) (hg : g 3 = some (.lst [.int a, .int b, .int 1])) : ∃ r a' b' : Int, 0 ≤ b' ∧ b' < 2147483549 ∧ 0 ≤ r ∧ r < ((6 : Nat) : Int) ∧
    cal (k + 1) 1 [.ref 3, .int 6] (fu g n) = some (.ok (.int r) (fu (upd' g 3 (.lst [.int a', .int b', .int 2])) n)) := by
  rw [← upd'_self hg]
  simp only [upd'_upd']
  have hb2 : 0 ≤ (b * 78013 + 41011 + 27211) % 2147483549 ∧ (b * 78013 + 41011 + 27211) % 2147483549 < 2147483549 := ⟨Int.emod_nonneg _ (by decide), Int.emod_lt_of_pos _ (by decide)⟩
  have hc : eS k ⟨false, true⟩ b1 [some (.ref 3), some (.int 6), none, none, none] (fu (upd' g 3 (.lst [.int a, .int b, .int 1])) n) = eS k ⟨false, true⟩ (dropS 3 b1) [some (.ref 3), some (.int 6), some (.int a), some (.int b), some (.int 1)]
      (((fu (upd' g 3 (.lst [.int a, .int b, .int 1])) n).put 3 (.lst [.int a, .int ((b * 78013 + 41011 + 27211) % 2147483549), .int 1])).put 3 (.lst [.int a, .int ((b * 78013 + 41011 + 27211) % 2147483549), .int 2])) := by
    have h0 : eS k ⟨false, true⟩ (headS b1) [some (.ref 3), some (.int 6), none, none, none] (fu (upd' g 3 (.lst [.int a, .int b, .int 1])) n) = some (.ok (.nx [some (.ref 3), some (.int 6), some (.int a), some (.int b), some (.int 1)]) (fu (upd' g 3 (.lst [.int a, .int b, .int 1])) n)) := by kernel_rfl
    have h1 : eS k ⟨false, true⟩ (headS (dropS 1 b1)) [some (.ref 3), some (.int 6), some (.int a), some (.int b), some (.int 1)] (fu (upd' g 3 (.lst [.int a, .int b, .int 1])) n) = some (.ok (.nx [some (.ref 3), some (.int 6), some (.int a), some (.int b), some (.int 1)])
      ((fu (upd' g 3 (.lst [.int a, .int b, .int 1])) n).put 3 (.lst [.int a, .int ((b * 78013 + 41011 + 27211) % 2147483549), .int 1]))) :=
      run_asgx (v := .int ((b * 78013 + 41011 + 27211) % 2147483549)) (S' := fu (upd' g 3 (.lst [.int a, .int b, .int 1])) n) (seed_ok (K := 78013) (L := 41011) hb0 hb (by kernel_rfl) (by decide) (by decide) (by kernel_rfl) rfl rfl) (by kernel_rfl)
    have h2 : eS k ⟨false, true⟩ (headS (dropS 2 b1)) [some (.ref 3), some (.int 6), some (.int a), some (.int b), some (.int 1)] ((fu (upd' g 3 (.lst [.int a, .int b, .int 1])) n).put 3 (.lst [.int a, .int ((b * 78013 + 41011 + 27211) % 2147483549), .int 1])) = some (.ok (.nx [some (.ref 3), some (.int 6), some (.int a), some (.int b), some (.int 1)])
      (((fu (upd' g 3 (.lst [.int a, .int b, .int 1])) n).put 3 (.lst [.int a, .int ((b * 78013 + 41011 + 27211) % 2147483549), .int 1])).put 3 (.lst [.int a, .int ((b * 78013 + 41011 + 27211) % 2147483549), .int 2]))) := by kernel_rfl
    exact (run_seq h0).trans ((run_seq h1).trans (run_seq h2))
  rw [fu_put (by decide), fu_put (by decide), upd'_upd', upd'_upd'] at hc
  generalize (b * 78013 + 41011 + 27211) % 2147483549 = b2 at hc hb2
  have hq : eT k ⟨false, true⟩ (.cmp .gt (.var 2) (.con (.int 0))) [some (.ref 3), some (.int 6), some (.int a), some (.int b), some (.int 1)] (fu (upd' g 3 (.lst [.int a, .int b2, .int 2])) n) = some (.ok (decide (0 < a)) (fu (upd' g 3 (.lst [.int a, .int b2, .int 2])) n)) := by kernel_rfl
  have emod : ∀ z : Int, 0 ≤ z % ((6 : Nat) : Int) ∧ z % ((6 : Nat) : Int) < ((6 : Nat) : Int) := fun z => ⟨Int.emod_nonneg _ (by decide), Int.emod_lt_of_pos _ (by decide)⟩
  unfold b1 at hc
  simp only [dropS] at hc
  by_cases h : 0 < a
  · refine ⟨a % ((6 : Nat) : Int), a / ((6 : Nat) : Int), b2, hb2.1, hb2.2, (emod a).1, (emod a).2, ?_⟩
    refine call_of (k := k) (fl := .rt (.int (a % ((6 : Nat) : Int)))) (show dat.P 1 = some _ from rfl) (show dat.F 1 = some _ from rfl) ?_
    refine Eq.trans hc ?_
    refine run_ret ?_
    rw [run_if hq, if_pos (decide_eq_true h)]
    have s1 : eS k ⟨false, true⟩ (.asg (.ix (.var 0) (.con (.int 0))) (.bin .div (.fun_ .int (.cons (.var 2) .nil)) (.var 1))) [some (.ref 3), some (.int 6), some (.int a), some (.int b), some (.int 1)] (fu (upd' g 3 (.lst [.int a, .int b2, .int 2])) n) = some (.ok (.nx [some (.ref 3), some (.int 6), some (.int a), some (.int b), some (.int 1)]) ((fu (upd' g 3 (.lst [.int a, .int b2, .int 2])) n).put 3 (.lst [.int (a / ((6 : Nat) : Int)), .int b2, .int 2]))) := by kernel_rfl
    rw [fu_put (by decide), upd'_upd'] at s1
    rw [run_seq s1]
    exact run_ret (run_rete (by kernel_rfl))
  · refine ⟨b2 / 128 % ((6 : Nat) : Int), a, b2, hb2.1, hb2.2, (emod _).1, (emod _).2, ?_⟩
    refine call_of (k := k) (fl := .rt (.int (b2 / 128 % ((6 : Nat) : Int)))) (show dat.P 1 = some _ from rfl) (show dat.F 1 = some _ from rfl) ?_
    refine Eq.trans hc ?_
    rw [run_seq (run_no (by rw [hq, decide_eq_false h]))]
    exact run_ret (run_rete (by kernel_rfl))
theorem take2 {g : Nat → Option Cell} {n : Nat} {a b : Int} {k : Nat} (hb0 : 0 ≤ b) (hb : b < 2147483549) (hg : g 3 = some (.lst [.int a, .int b, .int 2])) : ∃ r a' b' : Int, 0 ≤ b' ∧ b' < 2147483549 ∧ 0 ≤ r ∧ r < ((9 : Nat) : Int) ∧
    cal (k + 1) 1 [.ref 3, .int 9] (fu g n) = some (.ok (.int r) (fu (upd' g 3 (.lst [.int a', .int b', .int 3])) n)) := by
  rw [← upd'_self hg]
  simp only [upd'_upd']
  have hb2 : 0 ≤ (b * 78019 + 82022 + 27211) % 2147483549 ∧ (b * 78019 + 82022 + 27211) % 2147483549 < 2147483549 := ⟨Int.emod_nonneg _ (by decide), Int.emod_lt_of_pos _ (by decide)⟩
  have hc : eS k ⟨false, true⟩ b1 [some (.ref 3), some (.int 9), none, none, none] (fu (upd' g 3 (.lst [.int a, .int b, .int 2])) n) = eS k ⟨false, true⟩ (dropS 3 b1) [some (.ref 3), some (.int 9), some (.int a), some (.int b), some (.int 2)]
      (((fu (upd' g 3 (.lst [.int a, .int b, .int 2])) n).put 3 (.lst [.int a, .int ((b * 78019 + 82022 + 27211) % 2147483549), .int 2])).put 3 (.lst [.int a, .int ((b * 78019 + 82022 + 27211) % 2147483549), .int 3])) := by
    have h0 : eS k ⟨false, true⟩ (headS b1) [some (.ref 3), some (.int 9), none, none, none] (fu (upd' g 3 (.lst [.int a, .int b, .int 2])) n) = some (.ok (.nx [some (.ref 3), some (.int 9), some (.int a), some (.int b), some (.int 2)]) (fu (upd' g 3 (.lst [.int a, .int b, .int 2])) n)) := by kernel_rfl
    have h1 : eS k ⟨false, true⟩ (headS (dropS 1 b1)) [some (.ref 3), some (.int 9), some (.int a), some (.int b), some (.int 2)] (fu (upd' g 3 (.lst [.int a, .int b, .int 2])) n) = some (.ok (.nx [some (.ref 3), some (.int 9), some (.int a), some (.int b), some (.int 2)])
      ((fu (upd' g 3 (.lst [.int a, .int b, .int 2])) n).put 3 (.lst [.int a, .int ((b * 78019 + 82022 + 27211) % 2147483549), .int 2]))) :=
      run_asgx (v := .int ((b * 78019 + 82022 + 27211) % 2147483549)) (S' := fu (upd' g 3 (.lst [.int a, .int b, .int 2])) n) (seed_ok (K := 78019) (L := 82022) hb0 hb (by kernel_rfl) (by decide) (by decide) (by kernel_rfl) rfl rfl) (by kernel_rfl)
    have h2 : eS k ⟨false, true⟩ (headS (dropS 2 b1)) [some (.ref 3), some (.int 9), some (.int a), some (.int b), some (.int 2)] ((fu (upd' g 3 (.lst [.int a, .int b, .int 2])) n).put 3 (.lst [.int a, .int ((b * 78019 + 82022 + 27211) % 2147483549), .int 2])) = some (.ok (.nx [some (.ref 3), some (.int 9), some (.int a), some (.int b), some (.int 2)])
      (((fu (upd' g 3 (.lst [.int a, .int b, .int 2])) n).put 3 (.lst [.int a, .int ((b * 78019 + 82022 + 27211) % 2147483549), .int 2])).put 3 (.lst [.int a, .int ((b * 78019 + 82022 + 27211) % 2147483549), .int 3]))) := by kernel_rfl
    exact (run_seq h0).trans ((run_seq h1).trans (run_seq h2))
  rw [fu_put (by decide), fu_put (by decide), upd'_upd', upd'_upd'] at hc
  generalize (b * 78019 + 82022 + 27211) % 2147483549 = b2 at hc hb2
  have hq : eT k ⟨false, true⟩ (.cmp .gt (.var 2) (.con (.int 0))) [some (.ref 3), some (.int 9), some (.int a), some (.int b), some (.int 2)] (fu (upd' g 3 (.lst [.int a, .int b2, .int 3])) n) = some (.ok (decide (0 < a)) (fu (upd' g 3 (.lst [.int a, .int b2, .int 3])) n)) := by kernel_rfl
  have emod : ∀ z : Int, 0 ≤ z % ((9 : Nat) : Int) ∧ z % ((9 : Nat) : Int) < ((9 : Nat) : Int) := fun z => ⟨Int.emod_nonneg _ (by decide), Int.emod_lt_of_pos _ (by decide)⟩
  unfold b1 at hc
  simp only [dropS] at hc
  by_cases h : 0 < a
  · refine ⟨a % ((9 : Nat) : Int), a / ((9 : Nat) : Int), b2, hb2.1, hb2.2, (emod a).1, (emod a).2, ?_⟩
    refine call_of (k := k) (fl := .rt (.int (a % ((9 : Nat) : Int)))) (show dat.P 1 = some _ from rfl) (show dat.F 1 = some _ from rfl) ?_
    refine Eq.trans hc ?_
    refine run_ret ?_
    rw [run_if hq, if_pos (decide_eq_true h)]
    have s1 : eS k ⟨false, true⟩ (.asg (.ix (.var 0) (.con (.int 0))) (.bin .div (.fun_ .int (.cons (.var 2) .nil)) (.var 1))) [some (.ref 3), some (.int 9), some (.int a), some (.int b), some (.int 2)] (fu (upd' g 3 (.lst [.int a, .int b2, .int 3])) n) = some (.ok (.nx [some (.ref 3), some (.int 9), some (.int a), some (.int b), some (.int 2)]) ((fu (upd' g 3 (.lst [.int a, .int b2, .int 3])) n).put 3 (.lst [.int (a / ((9 : Nat) : Int)), .int b2, .int 3]))) := by kernel_rfl
    rw [fu_put (by decide), upd'_upd'] at s1
    rw [run_seq s1]
    exact run_ret (run_rete (by kernel_rfl))
  · refine ⟨b2 / 128 % ((9 : Nat) : Int), a, b2, hb2.1, hb2.2, (emod _).1, (emod _).2, ?_⟩
    refine call_of (k := k) (fl := .rt (.int (b2 / 128 % ((9 : Nat) : Int)))) (show dat.P 1 = some _ from rfl) (show dat.F 1 = some _ from rfl) ?_
    refine Eq.trans hc ?_
    rw [run_seq (run_no (by rw [hq, decide_eq_false h]))]
    exact run_ret (run_rete (by kernel_rfl))
theorem take3 {g : Nat → Option Cell} {n : Nat} {a b : Int} {k : Nat} (hb0 : 0 ≤ b) (hb : b < 2147483549) (hg : g 3 = some (.lst [.int a, .int b, .int 3])) : ∃ r a' b' : Int, 0 ≤ b' ∧ b' < 2147483549 ∧ 0 ≤ r ∧ r < ((9 : Nat) : Int) ∧
    cal (k + 1) 1 [.ref 3, .int 9] (fu g n) = some (.ok (.int r) (fu (upd' g 3 (.lst [.int a', .int b', .int 4])) n)) := by
  rw [← upd'_self hg]
  simp only [upd'_upd']
  have hb2 : 0 ≤ (b * 78025 + 123033 + 27211) % 2147483549 ∧ (b * 78025 + 123033 + 27211) % 2147483549 < 2147483549 := ⟨Int.emod_nonneg _ (by decide), Int.emod_lt_of_pos _ (by decide)⟩
  have hc : eS k ⟨false, true⟩ b1 [some (.ref 3), some (.int 9), none, none, none] (fu (upd' g 3 (.lst [.int a, .int b, .int 3])) n) = eS k ⟨false, true⟩ (dropS 3 b1) [some (.ref 3), some (.int 9), some (.int a), some (.int b), some (.int 3)]
      (((fu (upd' g 3 (.lst [.int a, .int b, .int 3])) n).put 3 (.lst [.int a, .int ((b * 78025 + 123033 + 27211) % 2147483549), .int 3])).put 3 (.lst [.int a, .int ((b * 78025 + 123033 + 27211) % 2147483549), .int 4])) := by
    have h0 : eS k ⟨false, true⟩ (headS b1) [some (.ref 3), some (.int 9), none, none, none] (fu (upd' g 3 (.lst [.int a, .int b, .int 3])) n) = some (.ok (.nx [some (.ref 3), some (.int 9), some (.int a), some (.int b), some (.int 3)]) (fu (upd' g 3 (.lst [.int a, .int b, .int 3])) n)) := by kernel_rfl
    have h1 : eS k ⟨false, true⟩ (headS (dropS 1 b1)) [some (.ref 3), some (.int 9), some (.int a), some (.int b), some (.int 3)] (fu (upd' g 3 (.lst [.int a, .int b, .int 3])) n) = some (.ok (.nx [some (.ref 3), some (.int 9), some (.int a), some (.int b), some (.int 3)])
      ((fu (upd' g 3 (.lst [.int a, .int b, .int 3])) n).put 3 (.lst [.int a, .int ((b * 78025 + 123033 + 27211) % 2147483549), .int 3]))) :=
      run_asgx (v := .int ((b * 78025 + 123033 + 27211) % 2147483549)) (S' := fu (upd' g 3 (.lst [.int a, .int b, .int 3])) n) (seed_ok (K := 78025) (L := 123033) hb0 hb (by kernel_rfl) (by decide) (by decide) (by kernel_rfl) rfl rfl) (by kernel_rfl)
    have h2 : eS k ⟨false, true⟩ (headS (dropS 2 b1)) [some (.ref 3), some (.int 9), some (.int a), some (.int b), some (.int 3)] ((fu (upd' g 3 (.lst [.int a, .int b, .int 3])) n).put 3 (.lst [.int a, .int ((b * 78025 + 123033 + 27211) % 2147483549), .int 3])) = some (.ok (.nx [some (.ref 3), some (.int 9), some (.int a), some (.int b), some (.int 3)])
      (((fu (upd' g 3 (.lst [.int a, .int b, .int 3])) n).put 3 (.lst [.int a, .int ((b * 78025 + 123033 + 27211) % 2147483549), .int 3])).put 3 (.lst [.int a, .int ((b * 78025 + 123033 + 27211) % 2147483549), .int 4]))) := by kernel_rfl
    exact (run_seq h0).trans ((run_seq h1).trans (run_seq h2))
  rw [fu_put (by decide), fu_put (by decide), upd'_upd', upd'_upd'] at hc
  generalize (b * 78025 + 123033 + 27211) % 2147483549 = b2 at hc hb2
  have hq : eT k ⟨false, true⟩ (.cmp .gt (.var 2) (.con (.int 0))) [some (.ref 3), some (.int 9), some (.int a), some (.int b), some (.int 3)] (fu (upd' g 3 (.lst [.int a, .int b2, .int 4])) n) = some (.ok (decide (0 < a)) (fu (upd' g 3 (.lst [.int a, .int b2, .int 4])) n)) := by kernel_rfl
  have emod : ∀ z : Int, 0 ≤ z % ((9 : Nat) : Int) ∧ z % ((9 : Nat) : Int) < ((9 : Nat) : Int) := fun z => ⟨Int.emod_nonneg _ (by decide), Int.emod_lt_of_pos _ (by decide)⟩
  unfold b1 at hc
  simp only [dropS] at hc
  by_cases h : 0 < a
  · refine ⟨a % ((9 : Nat) : Int), a / ((9 : Nat) : Int), b2, hb2.1, hb2.2, (emod a).1, (emod a).2, ?_⟩
    refine call_of (k := k) (fl := .rt (.int (a % ((9 : Nat) : Int)))) (show dat.P 1 = some _ from rfl) (show dat.F 1 = some _ from rfl) ?_
    refine Eq.trans hc ?_
    refine run_ret ?_
    rw [run_if hq, if_pos (decide_eq_true h)]
    have s1 : eS k ⟨false, true⟩ (.asg (.ix (.var 0) (.con (.int 0))) (.bin .div (.fun_ .int (.cons (.var 2) .nil)) (.var 1))) [some (.ref 3), some (.int 9), some (.int a), some (.int b), some (.int 3)] (fu (upd' g 3 (.lst [.int a, .int b2, .int 4])) n) = some (.ok (.nx [some (.ref 3), some (.int 9), some (.int a), some (.int b), some (.int 3)]) ((fu (upd' g 3 (.lst [.int a, .int b2, .int 4])) n).put 3 (.lst [.int (a / ((9 : Nat) : Int)), .int b2, .int 4]))) := by kernel_rfl
    rw [fu_put (by decide), upd'_upd'] at s1
    rw [run_seq s1]
    exact run_ret (run_rete (by kernel_rfl))
  · refine ⟨b2 / 128 % ((9 : Nat) : Int), a, b2, hb2.1, hb2.2, (emod _).1, (emod _).2, ?_⟩
    refine call_of (k := k) (fl := .rt (.int (b2 / 128 % ((9 : Nat) : Int)))) (show dat.P 1 = some _ from rfl) (show dat.F 1 = some _ from rfl) ?_
    refine Eq.trans hc ?_
    rw [run_seq (run_no (by rw [hq, decide_eq_false h]))]
    exact run_ret (run_rete (by kernel_rfl))
theorem c1_39 {g : Nat → Option Cell} {dd : Nat} {pl x w one two : D} {as : List D} : Runs (eT 98 GG C1 (envI dd pl x 0 w one two (.ex 1 as))) g 39 false 43 :=
  Runs.of (cs := [.lst ((List.range 13).map fun i => .bl (Nat.beq (i + 1) 1)), .lst ((List.range 11).map fun i => .bl (Nat.beq (i + 14) 1)), .lst (((List.range 13).map fun i => .bl (Nat.beq (i + 1) 1)) ++ (List.range 11).map fun i => .bl (Nat.beq (i + 14) 1)), .lst ((List.range 24).map fun i => .bl (Nat.beq i 0))]) (by kernel_rfl) (by decide) rfl
theorem c1_43 {g : Nat → Option Cell} {dd : Nat} {pl x w one two : D} {as : List D} : Runs (eT 98 GG C1 (envI dd pl x 0 w one two (.ex 1 as))) g 43 false 47 :=
  Runs.of (cs := [.lst ((List.range 13).map fun i => .bl (Nat.beq (i + 1) 1)), .lst ((List.range 11).map fun i => .bl (Nat.beq (i + 14) 1)), .lst (((List.range 13).map fun i => .bl (Nat.beq (i + 1) 1)) ++ (List.range 11).map fun i => .bl (Nat.beq (i + 14) 1)), .lst ((List.range 24).map fun i => .bl (Nat.beq i 0))]) (by kernel_rfl) (by decide) rfl
theorem c1_47 {g : Nat → Option Cell} {dd : Nat} {pl x w one two : D} {as : List D} : Runs (eT 98 GG C1 (envI dd pl x 1 w one two (.ex 2 as))) g 47 false 51 :=
  Runs.of (cs := [.lst ((List.range 13).map fun i => .bl (Nat.beq (i + 1) 2)), .lst ((List.range 11).map fun i => .bl (Nat.beq (i + 14) 2)), .lst (((List.range 13).map fun i => .bl (Nat.beq (i + 1) 2)) ++ (List.range 11).map fun i => .bl (Nat.beq (i + 14) 2)), .lst ((List.range 24).map fun i => .bl (Nat.beq i 1))]) (by kernel_rfl) (by decide) rfl
theorem c1_51 {g : Nat → Option Cell} {dd : Nat} {pl x w one two : D} {as : List D} : Runs (eT 98 GG C1 (envI dd pl x 1 w one two (.ex 2 as))) g 51 false 55 :=
  Runs.of (cs := [.lst ((List.range 13).map fun i => .bl (Nat.beq (i + 1) 2)), .lst ((List.range 11).map fun i => .bl (Nat.beq (i + 14) 2)), .lst (((List.range 13).map fun i => .bl (Nat.beq (i + 1) 2)) ++ (List.range 11).map fun i => .bl (Nat.beq (i + 14) 2)), .lst ((List.range 24).map fun i => .bl (Nat.beq i 1))]) (by kernel_rfl) (by decide) rfl
theorem c1_55 {g : Nat → Option Cell} {dd : Nat} {pl x w one two : D} {as : List D} : Runs (eT 98 GG C1 (envI dd pl x 2 w one two (.ex 3 as))) g 55 false 59 :=
  Runs.of (cs := [.lst ((List.range 13).map fun i => .bl (Nat.beq (i + 1) 3)), .lst ((List.range 11).map fun i => .bl (Nat.beq (i + 14) 3)), .lst (((List.range 13).map fun i => .bl (Nat.beq (i + 1) 3)) ++ (List.range 11).map fun i => .bl (Nat.beq (i + 14) 3)), .lst ((List.range 24).map fun i => .bl (Nat.beq i 2))]) (by kernel_rfl) (by decide) rfl
theorem c1_59 {g : Nat → Option Cell} {dd : Nat} {pl x w one two : D} {as : List D} : Runs (eT 98 GG C1 (envI dd pl x 2 w one two (.ex 3 as))) g 59 false 63 :=
  Runs.of (cs := [.lst ((List.range 13).map fun i => .bl (Nat.beq (i + 1) 3)), .lst ((List.range 11).map fun i => .bl (Nat.beq (i + 14) 3)), .lst (((List.range 13).map fun i => .bl (Nat.beq (i + 1) 3)) ++ (List.range 11).map fun i => .bl (Nat.beq (i + 14) 3)), .lst ((List.range 24).map fun i => .bl (Nat.beq i 2))]) (by kernel_rfl) (by decide) rfl
theorem c1_63 {g : Nat → Option Cell} {dd : Nat} {pl x w one two : D} {as : List D} : Runs (eT 98 GG C1 (envI dd pl x 3 w one two (.ex 4 as))) g 63 false 67 :=
  Runs.of (cs := [.lst ((List.range 13).map fun i => .bl (Nat.beq (i + 1) 4)), .lst ((List.range 11).map fun i => .bl (Nat.beq (i + 14) 4)), .lst (((List.range 13).map fun i => .bl (Nat.beq (i + 1) 4)) ++ (List.range 11).map fun i => .bl (Nat.beq (i + 14) 4)), .lst ((List.range 24).map fun i => .bl (Nat.beq i 3))]) (by kernel_rfl) (by decide) rfl
theorem c1_67 {g : Nat → Option Cell} {dd : Nat} {pl x w one two : D} {as : List D} : Runs (eT 98 GG C1 (envI dd pl x 3 w one two (.ex 4 as))) g 67 false 71 :=
  Runs.of (cs := [.lst ((List.range 13).map fun i => .bl (Nat.beq (i + 1) 4)), .lst ((List.range 11).map fun i => .bl (Nat.beq (i + 14) 4)), .lst (((List.range 13).map fun i => .bl (Nat.beq (i + 1) 4)) ++ (List.range 11).map fun i => .bl (Nat.beq (i + 14) 4)), .lst ((List.range 24).map fun i => .bl (Nat.beq i 3))]) (by kernel_rfl) (by decide) rfl
theorem c1_71 {g : Nat → Option Cell} {dd : Nat} {pl x w one two : D} {as : List D} : Runs (eT 98 GG C1 (envI dd pl x 4 w one two (.ex 5 as))) g 71 false 75 :=
  Runs.of (cs := [.lst ((List.range 13).map fun i => .bl (Nat.beq (i + 1) 5)), .lst ((List.range 11).map fun i => .bl (Nat.beq (i + 14) 5)), .lst (((List.range 13).map fun i => .bl (Nat.beq (i + 1) 5)) ++ (List.range 11).map fun i => .bl (Nat.beq (i + 14) 5)), .lst ((List.range 24).map fun i => .bl (Nat.beq i 4))]) (by kernel_rfl) (by decide) rfl
theorem c1_75 {g : Nat → Option Cell} {dd : Nat} {pl x w one two : D} {as : List D} : Runs (eT 98 GG C1 (envI dd pl x 4 w one two (.ex 5 as))) g 75 false 79 :=
  Runs.of (cs := [.lst ((List.range 13).map fun i => .bl (Nat.beq (i + 1) 5)), .lst ((List.range 11).map fun i => .bl (Nat.beq (i + 14) 5)), .lst (((List.range 13).map fun i => .bl (Nat.beq (i + 1) 5)) ++ (List.range 11).map fun i => .bl (Nat.beq (i + 14) 5)), .lst ((List.range 24).map fun i => .bl (Nat.beq i 4))]) (by kernel_rfl) (by decide) rfl
theorem c1_79 {g : Nat → Option Cell} {dd : Nat} {pl x w one two : D} {as : List D} : Runs (eT 98 GG C1 (envI dd pl x 5 w one two (.ex 6 as))) g 79 false 83 :=
  Runs.of (cs := [.lst ((List.range 13).map fun i => .bl (Nat.beq (i + 1) 6)), .lst ((List.range 11).map fun i => .bl (Nat.beq (i + 14) 6)), .lst (((List.range 13).map fun i => .bl (Nat.beq (i + 1) 6)) ++ (List.range 11).map fun i => .bl (Nat.beq (i + 14) 6)), .lst ((List.range 24).map fun i => .bl (Nat.beq i 5))]) (by kernel_rfl) (by decide) rfl
theorem c1_83 {g : Nat → Option Cell} {dd : Nat} {pl x w one two : D} {as : List D} : Runs (eT 98 GG C1 (envI dd pl x 5 w one two (.ex 6 as))) g 83 false 87 :=
  Runs.of (cs := [.lst ((List.range 13).map fun i => .bl (Nat.beq (i + 1) 6)), .lst ((List.range 11).map fun i => .bl (Nat.beq (i + 14) 6)), .lst (((List.range 13).map fun i => .bl (Nat.beq (i + 1) 6)) ++ (List.range 11).map fun i => .bl (Nat.beq (i + 14) 6)), .lst ((List.range 24).map fun i => .bl (Nat.beq i 5))]) (by kernel_rfl) (by decide) rfl
theorem c1_87 {g : Nat → Option Cell} {dd : Nat} {pl x w one two : D} {as : List D} : Runs (eT 98 GG C1 (envI dd pl x 6 w one two (.ex 7 as))) g 87 false 91 :=
  Runs.of (cs := [.lst ((List.range 13).map fun i => .bl (Nat.beq (i + 1) 7)), .lst ((List.range 11).map fun i => .bl (Nat.beq (i + 14) 7)), .lst (((List.range 13).map fun i => .bl (Nat.beq (i + 1) 7)) ++ (List.range 11).map fun i => .bl (Nat.beq (i + 14) 7)), .lst ((List.range 24).map fun i => .bl (Nat.beq i 6))]) (by kernel_rfl) (by decide) rfl
theorem c1_91 {g : Nat → Option Cell} {dd : Nat} {pl x w one two : D} {as : List D} : Runs (eT 98 GG C1 (envI dd pl x 6 w one two (.ex 7 as))) g 91 false 95 :=
  Runs.of (cs := [.lst ((List.range 13).map fun i => .bl (Nat.beq (i + 1) 7)), .lst ((List.range 11).map fun i => .bl (Nat.beq (i + 14) 7)), .lst (((List.range 13).map fun i => .bl (Nat.beq (i + 1) 7)) ++ (List.range 11).map fun i => .bl (Nat.beq (i + 14) 7)), .lst ((List.range 24).map fun i => .bl (Nat.beq i 6))]) (by kernel_rfl) (by decide) rfl
theorem c1_95 {g : Nat → Option Cell} {dd : Nat} {pl x w one two : D} {as : List D} : Runs (eT 98 GG C1 (envI dd pl x 7 w one two (.ex 8 as))) g 95 false 99 :=
  Runs.of (cs := [.lst ((List.range 13).map fun i => .bl (Nat.beq (i + 1) 8)), .lst ((List.range 11).map fun i => .bl (Nat.beq (i + 14) 8)), .lst (((List.range 13).map fun i => .bl (Nat.beq (i + 1) 8)) ++ (List.range 11).map fun i => .bl (Nat.beq (i + 14) 8)), .lst ((List.range 24).map fun i => .bl (Nat.beq i 7))]) (by kernel_rfl) (by decide) rfl
theorem c1_99 {g : Nat → Option Cell} {dd : Nat} {pl x w one two : D} {as : List D} : Runs (eT 98 GG C1 (envI dd pl x 7 w one two (.ex 8 as))) g 99 false 103 :=
  Runs.of (cs := [.lst ((List.range 13).map fun i => .bl (Nat.beq (i + 1) 8)), .lst ((List.range 11).map fun i => .bl (Nat.beq (i + 14) 8)), .lst (((List.range 13).map fun i => .bl (Nat.beq (i + 1) 8)) ++ (List.range 11).map fun i => .bl (Nat.beq (i + 14) 8)), .lst ((List.range 24).map fun i => .bl (Nat.beq i 7))]) (by kernel_rfl) (by decide) rfl
theorem c1_103 {g : Nat → Option Cell} {dd : Nat} {pl x w one two : D} {as : List D} : Runs (eT 98 GG C1 (envI dd pl x 8 w one two (.ex 9 as))) g 103 false 107 :=
  Runs.of (cs := [.lst ((List.range 13).map fun i => .bl (Nat.beq (i + 1) 9)), .lst ((List.range 11).map fun i => .bl (Nat.beq (i + 14) 9)), .lst (((List.range 13).map fun i => .bl (Nat.beq (i + 1) 9)) ++ (List.range 11).map fun i => .bl (Nat.beq (i + 14) 9)), .lst ((List.range 24).map fun i => .bl (Nat.beq i 8))]) (by kernel_rfl) (by decide) rfl
theorem c1_107 {g : Nat → Option Cell} {dd : Nat} {pl x w one two : D} {as : List D} : Runs (eT 98 GG C1 (envI dd pl x 8 w one two (.ex 9 as))) g 107 false 111 :=
  Runs.of (cs := [.lst ((List.range 13).map fun i => .bl (Nat.beq (i + 1) 9)), .lst ((List.range 11).map fun i => .bl (Nat.beq (i + 14) 9)), .lst (((List.range 13).map fun i => .bl (Nat.beq (i + 1) 9)) ++ (List.range 11).map fun i => .bl (Nat.beq (i + 14) 9)), .lst ((List.range 24).map fun i => .bl (Nat.beq i 8))]) (by kernel_rfl) (by decide) rfl
theorem c1_111 {g : Nat → Option Cell} {dd : Nat} {pl x w one two : D} {as : List D} : Runs (eT 98 GG C1 (envI dd pl x 9 w one two (.ex 10 as))) g 111 false 115 :=
  Runs.of (cs := [.lst ((List.range 13).map fun i => .bl (Nat.beq (i + 1) 10)), .lst ((List.range 11).map fun i => .bl (Nat.beq (i + 14) 10)), .lst (((List.range 13).map fun i => .bl (Nat.beq (i + 1) 10)) ++ (List.range 11).map fun i => .bl (Nat.beq (i + 14) 10)), .lst ((List.range 24).map fun i => .bl (Nat.beq i 9))]) (by kernel_rfl) (by decide) rfl
theorem c1_115 {g : Nat → Option Cell} {dd : Nat} {pl x w one two : D} {as : List D} : Runs (eT 98 GG C1 (envI dd pl x 9 w one two (.ex 10 as))) g 115 false 119 :=
  Runs.of (cs := [.lst ((List.range 13).map fun i => .bl (Nat.beq (i + 1) 10)), .lst ((List.range 11).map fun i => .bl (Nat.beq (i + 14) 10)), .lst (((List.range 13).map fun i => .bl (Nat.beq (i + 1) 10)) ++ (List.range 11).map fun i => .bl (Nat.beq (i + 14) 10)), .lst ((List.range 24).map fun i => .bl (Nat.beq i 9))]) (by kernel_rfl) (by decide) rfl
theorem c1_119 {g : Nat → Option Cell} {dd : Nat} {pl x w one two : D} {as : List D} : Runs (eT 98 GG C1 (envI dd pl x 10 w one two (.ex 11 as))) g 119 false 123 :=
  Runs.of (cs := [.lst ((List.range 13).map fun i => .bl (Nat.beq (i + 1) 11)), .lst ((List.range 11).map fun i => .bl (Nat.beq (i + 14) 11)), .lst (((List.range 13).map fun i => .bl (Nat.beq (i + 1) 11)) ++ (List.range 11).map fun i => .bl (Nat.beq (i + 14) 11)), .lst ((List.range 24).map fun i => .bl (Nat.beq i 10))]) (by kernel_rfl) (by decide) rfl
theorem c1_123 {g : Nat → Option Cell} {dd : Nat} {pl x w one two : D} {as : List D} : Runs (eT 98 GG C1 (envI dd pl x 10 w one two (.ex 11 as))) g 123 false 127 :=
  Runs.of (cs := [.lst ((List.range 13).map fun i => .bl (Nat.beq (i + 1) 11)), .lst ((List.range 11).map fun i => .bl (Nat.beq (i + 14) 11)), .lst (((List.range 13).map fun i => .bl (Nat.beq (i + 1) 11)) ++ (List.range 11).map fun i => .bl (Nat.beq (i + 14) 11)), .lst ((List.range 24).map fun i => .bl (Nat.beq i 10))]) (by kernel_rfl) (by decide) rfl
theorem c1_127 {g : Nat → Option Cell} {dd : Nat} {pl x w one two : D} {as : List D} : Runs (eT 98 GG C1 (envI dd pl x 11 w one two (.ex 12 as))) g 127 false 131 :=
  Runs.of (cs := [.lst ((List.range 13).map fun i => .bl (Nat.beq (i + 1) 12)), .lst ((List.range 11).map fun i => .bl (Nat.beq (i + 14) 12)), .lst (((List.range 13).map fun i => .bl (Nat.beq (i + 1) 12)) ++ (List.range 11).map fun i => .bl (Nat.beq (i + 14) 12)), .lst ((List.range 24).map fun i => .bl (Nat.beq i 11))]) (by kernel_rfl) (by decide) rfl
theorem c1_131 {g : Nat → Option Cell} {dd : Nat} {pl x w one two : D} {as : List D} : Runs (eT 98 GG C1 (envI dd pl x 11 w one two (.ex 12 as))) g 131 false 135 :=
  Runs.of (cs := [.lst ((List.range 13).map fun i => .bl (Nat.beq (i + 1) 12)), .lst ((List.range 11).map fun i => .bl (Nat.beq (i + 14) 12)), .lst (((List.range 13).map fun i => .bl (Nat.beq (i + 1) 12)) ++ (List.range 11).map fun i => .bl (Nat.beq (i + 14) 12)), .lst ((List.range 24).map fun i => .bl (Nat.beq i 11))]) (by kernel_rfl) (by decide) rfl
theorem c1_135 {g : Nat → Option Cell} {dd : Nat} {pl x w one two : D} {as : List D} : Runs (eT 98 GG C1 (envI dd pl x 12 w one two (.ex 13 as))) g 135 false 139 :=
  Runs.of (cs := [.lst ((List.range 13).map fun i => .bl (Nat.beq (i + 1) 13)), .lst ((List.range 11).map fun i => .bl (Nat.beq (i + 14) 13)), .lst (((List.range 13).map fun i => .bl (Nat.beq (i + 1) 13)) ++ (List.range 11).map fun i => .bl (Nat.beq (i + 14) 13)), .lst ((List.range 24).map fun i => .bl (Nat.beq i 12))]) (by kernel_rfl) (by decide) rfl
theorem c1_139 {g : Nat → Option Cell} {dd : Nat} {pl x w one two : D} {as : List D} : Runs (eT 98 GG C1 (envI dd pl x 12 w one two (.ex 13 as))) g 139 false 143 :=
  Runs.of (cs := [.lst ((List.range 13).map fun i => .bl (Nat.beq (i + 1) 13)), .lst ((List.range 11).map fun i => .bl (Nat.beq (i + 14) 13)), .lst (((List.range 13).map fun i => .bl (Nat.beq (i + 1) 13)) ++ (List.range 11).map fun i => .bl (Nat.beq (i + 14) 13)), .lst ((List.range 24).map fun i => .bl (Nat.beq i 12))]) (by kernel_rfl) (by decide) rfl
theorem c1_143 {g : Nat → Option Cell} {dd : Nat} {pl x w one two : D} {as : List D} : Runs (eT 98 GG C1 (envI dd pl x 13 w one two (.ex 14 as))) g 143 false 147 :=
  Runs.of (cs := [.lst ((List.range 13).map fun i => .bl (Nat.beq (i + 1) 14)), .lst ((List.range 11).map fun i => .bl (Nat.beq (i + 14) 14)), .lst (((List.range 13).map fun i => .bl (Nat.beq (i + 1) 14)) ++ (List.range 11).map fun i => .bl (Nat.beq (i + 14) 14)), .lst ((List.range 24).map fun i => .bl (Nat.beq i 13))]) (by kernel_rfl) (by decide) rfl
theorem c1_147 {g : Nat → Option Cell} {dd : Nat} {pl x w one two : D} {as : List D} : Runs (eT 98 GG C1 (envI dd pl x 13 w one two (.ex 14 as))) g 147 false 151 :=
  Runs.of (cs := [.lst ((List.range 13).map fun i => .bl (Nat.beq (i + 1) 14)), .lst ((List.range 11).map fun i => .bl (Nat.beq (i + 14) 14)), .lst (((List.range 13).map fun i => .bl (Nat.beq (i + 1) 14)) ++ (List.range 11).map fun i => .bl (Nat.beq (i + 14) 14)), .lst ((List.range 24).map fun i => .bl (Nat.beq i 13))]) (by kernel_rfl) (by decide) rfl
theorem c1_151 {g : Nat → Option Cell} {dd : Nat} {pl x w one two : D} {as : List D} : Runs (eT 98 GG C1 (envI dd pl x 14 w one two (.ex 15 as))) g 151 false 155 :=
  Runs.of (cs := [.lst ((List.range 13).map fun i => .bl (Nat.beq (i + 1) 15)), .lst ((List.range 11).map fun i => .bl (Nat.beq (i + 14) 15)), .lst (((List.range 13).map fun i => .bl (Nat.beq (i + 1) 15)) ++ (List.range 11).map fun i => .bl (Nat.beq (i + 14) 15)), .lst ((List.range 24).map fun i => .bl (Nat.beq i 14))]) (by kernel_rfl) (by decide) rfl
theorem c1_156 {g : Nat → Option Cell} {dd : Nat} {pl x w one two : D} {as : List D} : Runs (eT 98 GG C1 (envI dd pl x 14 w one two (.ex 15 as))) g 156 false 160 :=
  Runs.of (cs := [.lst ((List.range 13).map fun i => .bl (Nat.beq (i + 1) 15)), .lst ((List.range 11).map fun i => .bl (Nat.beq (i + 14) 15)), .lst (((List.range 13).map fun i => .bl (Nat.beq (i + 1) 15)) ++ (List.range 11).map fun i => .bl (Nat.beq (i + 14) 15)), .lst ((List.range 24).map fun i => .bl (Nat.beq i 14))]) (by kernel_rfl) (by decide) rfl
theorem c1_161 {g : Nat → Option Cell} {dd : Nat} {pl x w one two : D} {as : List D} : Runs (eT 98 GG C1 (envI dd pl x 15 w one two (.ex 16 as))) g 161 false 165 :=
  Runs.of (cs := [.lst ((List.range 13).map fun i => .bl (Nat.beq (i + 1) 16)), .lst ((List.range 11).map fun i => .bl (Nat.beq (i + 14) 16)), .lst (((List.range 13).map fun i => .bl (Nat.beq (i + 1) 16)) ++ (List.range 11).map fun i => .bl (Nat.beq (i + 14) 16)), .lst ((List.range 24).map fun i => .bl (Nat.beq i 15))]) (by kernel_rfl) (by decide) rfl
theorem c1_165 {g : Nat → Option Cell} {dd : Nat} {pl x w one two : D} {as : List D} : Runs (eT 98 GG C1 (envI dd pl x 15 w one two (.ex 16 as))) g 165 false 169 :=
  Runs.of (cs := [.lst ((List.range 13).map fun i => .bl (Nat.beq (i + 1) 16)), .lst ((List.range 11).map fun i => .bl (Nat.beq (i + 14) 16)), .lst (((List.range 13).map fun i => .bl (Nat.beq (i + 1) 16)) ++ (List.range 11).map fun i => .bl (Nat.beq (i + 14) 16)), .lst ((List.range 24).map fun i => .bl (Nat.beq i 15))]) (by kernel_rfl) (by decide) rfl
theorem c1_169 {g : Nat → Option Cell} {dd : Nat} {pl x w one two : D} {as : List D} : Runs (eT 98 GG C1 (envI dd pl x 16 w one two (.ex 17 as))) g 169 false 173 :=
  Runs.of (cs := [.lst ((List.range 13).map fun i => .bl (Nat.beq (i + 1) 17)), .lst ((List.range 11).map fun i => .bl (Nat.beq (i + 14) 17)), .lst (((List.range 13).map fun i => .bl (Nat.beq (i + 1) 17)) ++ (List.range 11).map fun i => .bl (Nat.beq (i + 14) 17)), .lst ((List.range 24).map fun i => .bl (Nat.beq i 16))]) (by kernel_rfl) (by decide) rfl
theorem c1_173 {g : Nat → Option Cell} {dd : Nat} {pl x w one two : D} {as : List D} : Runs (eT 98 GG C1 (envI dd pl x 16 w one two (.ex 17 as))) g 173 false 177 :=
  Runs.of (cs := [.lst ((List.range 13).map fun i => .bl (Nat.beq (i + 1) 17)), .lst ((List.range 11).map fun i => .bl (Nat.beq (i + 14) 17)), .lst (((List.range 13).map fun i => .bl (Nat.beq (i + 1) 17)) ++ (List.range 11).map fun i => .bl (Nat.beq (i + 14) 17)), .lst ((List.range 24).map fun i => .bl (Nat.beq i 16))]) (by kernel_rfl) (by decide) rfl
theorem c1_177 {g : Nat → Option Cell} {dd : Nat} {pl x w one two : D} {as : List D} : Runs (eT 98 GG C1 (envI dd pl x 17 w one two (.ex 18 as))) g 177 false 181 :=
  Runs.of (cs := [.lst ((List.range 13).map fun i => .bl (Nat.beq (i + 1) 18)), .lst ((List.range 11).map fun i => .bl (Nat.beq (i + 14) 18)), .lst (((List.range 13).map fun i => .bl (Nat.beq (i + 1) 18)) ++ (List.range 11).map fun i => .bl (Nat.beq (i + 14) 18)), .lst ((List.range 24).map fun i => .bl (Nat.beq i 17))]) (by kernel_rfl) (by decide) rfl
theorem c1_181 {g : Nat → Option Cell} {dd : Nat} {pl x w one two : D} {as : List D} : Runs (eT 98 GG C1 (envI dd pl x 17 w one two (.ex 18 as))) g 181 false 185 :=
  Runs.of (cs := [.lst ((List.range 13).map fun i => .bl (Nat.beq (i + 1) 18)), .lst ((List.range 11).map fun i => .bl (Nat.beq (i + 14) 18)), .lst (((List.range 13).map fun i => .bl (Nat.beq (i + 1) 18)) ++ (List.range 11).map fun i => .bl (Nat.beq (i + 14) 18)), .lst ((List.range 24).map fun i => .bl (Nat.beq i 17))]) (by kernel_rfl) (by decide) rfl
theorem c1_185 {g : Nat → Option Cell} {dd : Nat} {pl x w one two : D} {as : List D} : Runs (eT 98 GG C1 (envI dd pl x 18 w one two (.ex 19 as))) g 185 false 189 :=
  Runs.of (cs := [.lst ((List.range 13).map fun i => .bl (Nat.beq (i + 1) 19)), .lst ((List.range 11).map fun i => .bl (Nat.beq (i + 14) 19)), .lst (((List.range 13).map fun i => .bl (Nat.beq (i + 1) 19)) ++ (List.range 11).map fun i => .bl (Nat.beq (i + 14) 19)), .lst ((List.range 24).map fun i => .bl (Nat.beq i 18))]) (by kernel_rfl) (by decide) rfl
theorem c1_189 {g : Nat → Option Cell} {dd : Nat} {pl x w one two : D} {as : List D} : Runs (eT 98 GG C1 (envI dd pl x 18 w one two (.ex 19 as))) g 189 false 193 :=
  Runs.of (cs := [.lst ((List.range 13).map fun i => .bl (Nat.beq (i + 1) 19)), .lst ((List.range 11).map fun i => .bl (Nat.beq (i + 14) 19)), .lst (((List.range 13).map fun i => .bl (Nat.beq (i + 1) 19)) ++ (List.range 11).map fun i => .bl (Nat.beq (i + 14) 19)), .lst ((List.range 24).map fun i => .bl (Nat.beq i 18))]) (by kernel_rfl) (by decide) rfl
theorem c1_193 {g : Nat → Option Cell} {dd : Nat} {pl x w one two : D} {as : List D} : Runs (eT 98 GG C1 (envI dd pl x 19 w one two (.ex 20 as))) g 193 false 197 :=
  Runs.of (cs := [.lst ((List.range 13).map fun i => .bl (Nat.beq (i + 1) 20)), .lst ((List.range 11).map fun i => .bl (Nat.beq (i + 14) 20)), .lst (((List.range 13).map fun i => .bl (Nat.beq (i + 1) 20)) ++ (List.range 11).map fun i => .bl (Nat.beq (i + 14) 20)), .lst ((List.range 24).map fun i => .bl (Nat.beq i 19))]) (by kernel_rfl) (by decide) rfl
theorem c1_197 {g : Nat → Option Cell} {dd : Nat} {pl x w one two : D} {as : List D} : Runs (eT 98 GG C1 (envI dd pl x 19 w one two (.ex 20 as))) g 197 false 201 :=
  Runs.of (cs := [.lst ((List.range 13).map fun i => .bl (Nat.beq (i + 1) 20)), .lst ((List.range 11).map fun i => .bl (Nat.beq (i + 14) 20)), .lst (((List.range 13).map fun i => .bl (Nat.beq (i + 1) 20)) ++ (List.range 11).map fun i => .bl (Nat.beq (i + 14) 20)), .lst ((List.range 24).map fun i => .bl (Nat.beq i 19))]) (by kernel_rfl) (by decide) rfl
theorem c1_201 {g : Nat → Option Cell} {dd : Nat} {pl x w one two : D} {as : List D} : Runs (eT 98 GG C1 (envI dd pl x 20 w one two (.ex 21 as))) g 201 false 205 :=
  Runs.of (cs := [.lst ((List.range 13).map fun i => .bl (Nat.beq (i + 1) 21)), .lst ((List.range 11).map fun i => .bl (Nat.beq (i + 14) 21)), .lst (((List.range 13).map fun i => .bl (Nat.beq (i + 1) 21)) ++ (List.range 11).map fun i => .bl (Nat.beq (i + 14) 21)), .lst ((List.range 24).map fun i => .bl (Nat.beq i 20))]) (by kernel_rfl) (by decide) rfl
theorem c1_205 {g : Nat → Option Cell} {dd : Nat} {pl x w one two : D} {as : List D} : Runs (eT 98 GG C1 (envI dd pl x 20 w one two (.ex 21 as))) g 205 false 209 :=
  Runs.of (cs := [.lst ((List.range 13).map fun i => .bl (Nat.beq (i + 1) 21)), .lst ((List.range 11).map fun i => .bl (Nat.beq (i + 14) 21)), .lst (((List.range 13).map fun i => .bl (Nat.beq (i + 1) 21)) ++ (List.range 11).map fun i => .bl (Nat.beq (i + 14) 21)), .lst ((List.range 24).map fun i => .bl (Nat.beq i 20))]) (by kernel_rfl) (by decide) rfl
theorem c1_209 {g : Nat → Option Cell} {dd : Nat} {pl x w one two : D} {as : List D} : Runs (eT 98 GG C1 (envI dd pl x 21 w one two (.ex 22 as))) g 209 false 213 :=
  Runs.of (cs := [.lst ((List.range 13).map fun i => .bl (Nat.beq (i + 1) 22)), .lst ((List.range 11).map fun i => .bl (Nat.beq (i + 14) 22)), .lst (((List.range 13).map fun i => .bl (Nat.beq (i + 1) 22)) ++ (List.range 11).map fun i => .bl (Nat.beq (i + 14) 22)), .lst ((List.range 24).map fun i => .bl (Nat.beq i 21))]) (by kernel_rfl) (by decide) rfl
theorem c1_213 {g : Nat → Option Cell} {dd : Nat} {pl x w one two : D} {as : List D} : Runs (eT 98 GG C1 (envI dd pl x 21 w one two (.ex 22 as))) g 213 false 217 :=
  Runs.of (cs := [.lst ((List.range 13).map fun i => .bl (Nat.beq (i + 1) 22)), .lst ((List.range 11).map fun i => .bl (Nat.beq (i + 14) 22)), .lst (((List.range 13).map fun i => .bl (Nat.beq (i + 1) 22)) ++ (List.range 11).map fun i => .bl (Nat.beq (i + 14) 22)), .lst ((List.range 24).map fun i => .bl (Nat.beq i 21))]) (by kernel_rfl) (by decide) rfl
theorem c1_217 {g : Nat → Option Cell} {dd : Nat} {pl x w one two : D} {as : List D} : Runs (eT 98 GG C1 (envI dd pl x 22 w one two (.ex 23 as))) g 217 false 221 :=
  Runs.of (cs := [.lst ((List.range 13).map fun i => .bl (Nat.beq (i + 1) 23)), .lst ((List.range 11).map fun i => .bl (Nat.beq (i + 14) 23)), .lst (((List.range 13).map fun i => .bl (Nat.beq (i + 1) 23)) ++ (List.range 11).map fun i => .bl (Nat.beq (i + 14) 23)), .lst ((List.range 24).map fun i => .bl (Nat.beq i 22))]) (by kernel_rfl) (by decide) rfl
theorem c1_221 {g : Nat → Option Cell} {dd : Nat} {pl x w one two : D} {as : List D} : Runs (eT 98 GG C1 (envI dd pl x 22 w one two (.ex 23 as))) g 221 false 225 :=
  Runs.of (cs := [.lst ((List.range 13).map fun i => .bl (Nat.beq (i + 1) 23)), .lst ((List.range 11).map fun i => .bl (Nat.beq (i + 14) 23)), .lst (((List.range 13).map fun i => .bl (Nat.beq (i + 1) 23)) ++ (List.range 11).map fun i => .bl (Nat.beq (i + 14) 23)), .lst ((List.range 24).map fun i => .bl (Nat.beq i 22))]) (by kernel_rfl) (by decide) rfl
theorem c1_225 {g : Nat → Option Cell} {dd : Nat} {pl x w one two : D} {as : List D} : Runs (eT 98 GG C1 (envI dd pl x 23 w one two (.ex 24 as))) g 225 false 229 :=
  Runs.of (cs := [.lst ((List.range 13).map fun i => .bl (Nat.beq (i + 1) 24)), .lst ((List.range 11).map fun i => .bl (Nat.beq (i + 14) 24)), .lst (((List.range 13).map fun i => .bl (Nat.beq (i + 1) 24)) ++ (List.range 11).map fun i => .bl (Nat.beq (i + 14) 24)), .lst ((List.range 24).map fun i => .bl (Nat.beq i 23))]) (by kernel_rfl) (by decide) rfl
theorem c1_229 {g : Nat → Option Cell} {dd : Nat} {pl x w one two : D} {as : List D} : Runs (eT 98 GG C1 (envI dd pl x 23 w one two (.ex 24 as))) g 229 false 233 :=
  Runs.of (cs := [.lst ((List.range 13).map fun i => .bl (Nat.beq (i + 1) 24)), .lst ((List.range 11).map fun i => .bl (Nat.beq (i + 14) 24)), .lst (((List.range 13).map fun i => .bl (Nat.beq (i + 1) 24)) ++ (List.range 11).map fun i => .bl (Nat.beq (i + 14) 24)), .lst ((List.range 24).map fun i => .bl (Nat.beq i 23))]) (by kernel_rfl) (by decide) rfl
abbrev e0 : G.Env := [some (.ref 3), none, none, none, none, none, none, none, none, none, none, none]
abbrev e1 : G.Env := [some (.ref 3), some (.tup (plL 4)), none, none, none, none, none, none, none, none, none, none]
abbrev e2 (x : D) (s : Option D) : G.Env := [some (.ref 3), some (.tup (plL 4)), some x, s, none, none, none, none, none, none, none, none]
theorem s0_ok {g : Nat → Option Cell} : eS 98 GG (headS b9) e0 (fu g 4) = some (.ok (.nx e0) (pushL (fu g 4) [.lst ((List.range 13).map fun i => .bl (Nat.beq (i + 1) 99)), .lst ((List.range 11).map fun i => .bl (Nat.beq (i + 14) 99)), .lst (((List.range 13).map fun i => .bl (Nat.beq (i + 1) 99)) ++ (List.range 11).map fun i => .bl (Nat.beq (i + 14) 99))])) := by kernel_rfl
theorem s1_ok {g : Nat → Option Cell} : eS 98 GG (headS (dropS 1 b9)) e0 (fu g 7) = some (.ok (.nx e1) (pushL (fu g 7) [.lst [], .dct []])) := by kernel_rfl
theorem s3_args {g : Nat → Option Cell} {x : D} : eL 98 GG (argS (headS (dropS 3 b9))) (e2 x none) (fu g 9) = some (.ok [.ref 3, .tup (plM 4 x)] (pushL (fu g 9) [.lst [x]])) := by kernel_rfl
theorem s5_it {g : Nat → Option Cell} {x : D} : evI dat.tab dat.P (cal 98) dat.cst GG (forI (headS (dropS 5 b9))) (e2 x (some (.int 0))) (fu g 10) = some (.ok (.lst 38) (pushL (fu g 10) (items x 10))) := by kernel_rfl
theorem s7_ok {g : Nat → Option Cell} {o0 o1 o2 o3 o4 o5 o6 o9 : Option D} : eS 98 GG (headS (dropS 7 b9)) [o0, o1, o2, o3, o4, o5, o6, some (.ref 233), none, o9, none, none] (fu g 234) = some (.ok (.nx [o0, o1, o2, o3, o4, o5, o6, some (.ref 233), some (.ref 262), o9, none, none]) (pushL (fu g 234) (items (.ref 233) 234))) := by kernel_rfl
theorem s10_ok {g : Nat → Option Cell} {x : D} {o0 o1 o3 o4 o5 o6 o7 o8 o9 : Option D} : eS 98 GG (headS (dropS 10 b9)) [o0, o1, some x, o3, o4, o5, o6, o7, o8, o9, none, none] (fu g 263) = some (.ok (.rt (.bl true)) (pushL (fu g 263) [.lst [.bl true, .bl true, .bl true, .bl true, .bl true], .lst ((List.range 13).map fun i => .bl (Nat.beq (i + 1) 1)), .lst ((List.range 11).map fun i => .bl (Nat.beq (i + 14) 1)), .lst (((List.range 13).map fun i => .bl (Nat.beq (i + 1) 1)) ++ (List.range 11).map fun i => .bl (Nat.beq (i + 14) 1)), .lst ((List.range 13).map fun i => .bl (Nat.beq (i + 1) 15)), .lst ((List.range 11).map fun i => .bl (Nat.beq (i + 14) 15)), .lst (((List.range 13).map fun i => .bl (Nat.beq (i + 1) 15)) ++ (List.range 11).map fun i => .bl (Nat.beq (i + 14) 15)), .lst ((List.range 13).map fun i => .bl (Nat.beq (i + 1) 16)), .lst ((List.range 11).map fun i => .bl (Nat.beq (i + 14) 16)), .lst (((List.range 13).map fun i => .bl (Nat.beq (i + 1) 16)) ++ (List.range 11).map fun i => .bl (Nat.beq (i + 14) 16)), .lst ((List.range 13).map fun i => .bl (Nat.beq (i + 1) 18)), .lst ((List.range 11).map fun i => .bl (Nat.beq (i + 14) 18)), .lst (((List.range 13).map fun i => .bl (Nat.beq (i + 1) 18)) ++ (List.range 11).map fun i => .bl (Nat.beq (i + 14) 18)), .lst ((List.range 13).map fun i => .bl (Nat.beq (i + 1) 19)), .lst ((List.range 11).map fun i => .bl (Nat.beq (i + 14) 19)), .lst (((List.range 13).map fun i => .bl (Nat.beq (i + 1) 19)) ++ (List.range 11).map fun i => .bl (Nat.beq (i + 14) 19))])) := by kernel_rfl

theorem loop1 {g : Nat → Option Cell} {x : D} {p : PyData} (T1 : Th 39 (updL g 10 (items x 10)) x p) : ∃ g', eS 98 GG (headS (dropS 5 b9)) (e2 x (some (.int 0))) (fu g 10) = some (.ok (.nx (envI 3 (.tup (plL 4)) x 24 w0 (.ex 24 []) (.ex 24 []) (.ex 24 []))) (fu g' 233)) ∧ Ag 10 g' g := by
  have at_ : ∀ i c, (items x 10)[i]? = some c → updL g 10 (items x 10) (10 + i) = some c := updL_at _ _ _
  have h0 : Ag 10 (updL g 10 (items x 10)) g := updL_ag _ _ _
  have hI := (s5_it (g := g) (x := x)).trans (by rw [pushL_fu _ _ _ (by rw [items_len]; decide), items_len])
  revert T1 at_ h0 hI
  generalize updL g 10 (items x 10) = g0
  intro T1 at_ h0 hI
  have hL : g0 38 = some (.lst (allR 10)) := at_ 28 _ rfl
  have e : turns = 4611686018427387879 + 25 := by decide
  have go : ∃ g', fLoop (.lst 38) (evG dat.tab dat.P (cal 98) dat.cst GG tg3) (eS 98 GG OB) (4611686018427387879 + 25) 0 (e2 x (some (.int 0))) (fu g0 39) = some (.ok (.nx (envI 3 (.tup (plL 4)) x 24 w0 (.ex 24 []) (.ex 24 []) (.ex 24 []))) (fu g' 233)) ∧ Ag 39 g' g0 := by
    have b0 : Ag 39 g0 g0 := Ag.refl
    obtain ⟨g1, f1, b1⟩ := turnI (m := 4611686018427387879 + 24) (i := 0) (dd := 3) (pl := .tup (plL 4)) (x := x) (k := 0) (k' := 1) (o4 := none) (o5 := none) (o6 := none) (o9 := none) (w := wG) (one := (.ex 1 [x])) (two := (.ex 1 [x])) (N := 39) (N1 := 43) (N2 := 43) (N3 := 47) (N4 := 47) (r := 10) (by decide) (by decide) (by decide) (by decide) (by decide) (by decide) (by decide) (by decide) hL rfl (at_ 0 _ rfl) b0 (fun g => c1_39) (c2_x T1 (fun S => by kernel_rfl) (fun S => keptG S x 1 (by decide))) (fun g => c1_43) (c2_x T1 (fun S => by kernel_rfl) (fun S => keptG S x 1 (by decide)))
    obtain ⟨g2, f2, b2⟩ := turnI (m := 4611686018427387879 + 23) (i := 1) (dd := 3) (pl := .tup (plL 4)) (x := x) (k := 1) (k' := 2) (o4 := (some wG)) (o5 := (some (.ex 1 [x]))) (o6 := (some (.ex 1 [x]))) (o9 := (some (.ex 1 [x]))) (w := wG) (one := (.ex 2 [x])) (two := (.ex 2 [x])) (N := 47) (N1 := 51) (N2 := 51) (N3 := 55) (N4 := 55) (r := 11) (by decide) (by decide) (by decide) (by decide) (by decide) (by decide) (by decide) (by decide) hL rfl (at_ 1 _ rfl) b1 (fun g => c1_47) (c2_x T1 (fun S => by kernel_rfl) (fun S => keptG S x 2 (by decide))) (fun g => c1_51) (c2_x T1 (fun S => by kernel_rfl) (fun S => keptG S x 2 (by decide)))
    obtain ⟨g3, f3, b3⟩ := turnI (m := 4611686018427387879 + 22) (i := 2) (dd := 3) (pl := .tup (plL 4)) (x := x) (k := 2) (k' := 3) (o4 := (some wG)) (o5 := (some (.ex 2 [x]))) (o6 := (some (.ex 2 [x]))) (o9 := (some (.ex 2 [x]))) (w := wG) (one := (.ex 3 [x])) (two := (.ex 3 [x])) (N := 55) (N1 := 59) (N2 := 59) (N3 := 63) (N4 := 63) (r := 12) (by decide) (by decide) (by decide) (by decide) (by decide) (by decide) (by decide) (by decide) hL rfl (at_ 2 _ rfl) b2 (fun g => c1_55) (c2_x T1 (fun S => by kernel_rfl) (fun S => keptG S x 3 (by decide))) (fun g => c1_59) (c2_x T1 (fun S => by kernel_rfl) (fun S => keptG S x 3 (by decide)))
    obtain ⟨g4, f4, b4⟩ := turnI (m := 4611686018427387879 + 21) (i := 3) (dd := 3) (pl := .tup (plL 4)) (x := x) (k := 3) (k' := 4) (o4 := (some wG)) (o5 := (some (.ex 3 [x]))) (o6 := (some (.ex 3 [x]))) (o9 := (some (.ex 3 [x]))) (w := wG) (one := (.ex 4 [x])) (two := (.ex 4 [x])) (N := 63) (N1 := 67) (N2 := 67) (N3 := 71) (N4 := 71) (r := 13) (by decide) (by decide) (by decide) (by decide) (by decide) (by decide) (by decide) (by decide) hL rfl (at_ 3 _ rfl) b3 (fun g => c1_63) (c2_x T1 (fun S => by kernel_rfl) (fun S => keptG S x 4 (by decide))) (fun g => c1_67) (c2_x T1 (fun S => by kernel_rfl) (fun S => keptG S x 4 (by decide)))
    obtain ⟨g5, f5, b5⟩ := turnI (m := 4611686018427387879 + 20) (i := 4) (dd := 3) (pl := .tup (plL 4)) (x := x) (k := 4) (k' := 5) (o4 := (some wG)) (o5 := (some (.ex 4 [x]))) (o6 := (some (.ex 4 [x]))) (o9 := (some (.ex 4 [x]))) (w := wG) (one := (.ex 5 [x])) (two := (.ex 5 [x])) (N := 71) (N1 := 75) (N2 := 75) (N3 := 79) (N4 := 79) (r := 14) (by decide) (by decide) (by decide) (by decide) (by decide) (by decide) (by decide) (by decide) hL rfl (at_ 4 _ rfl) b4 (fun g => c1_71) (c2_x T1 (fun S => by kernel_rfl) (fun S => keptG S x 5 (by decide))) (fun g => c1_75) (c2_x T1 (fun S => by kernel_rfl) (fun S => keptG S x 5 (by decide)))
    obtain ⟨g6, f6, b6⟩ := turnI (m := 4611686018427387879 + 19) (i := 5) (dd := 3) (pl := .tup (plL 4)) (x := x) (k := 5) (k' := 6) (o4 := (some wG)) (o5 := (some (.ex 5 [x]))) (o6 := (some (.ex 5 [x]))) (o9 := (some (.ex 5 [x]))) (w := wG) (one := (.ex 6 [x])) (two := (.ex 6 [x])) (N := 79) (N1 := 83) (N2 := 83) (N3 := 87) (N4 := 87) (r := 15) (by decide) (by decide) (by decide) (by decide) (by decide) (by decide) (by decide) (by decide) hL rfl (at_ 5 _ rfl) b5 (fun g => c1_79) (c2_x T1 (fun S => by kernel_rfl) (fun S => keptG S x 6 (by decide))) (fun g => c1_83) (c2_x T1 (fun S => by kernel_rfl) (fun S => keptG S x 6 (by decide)))
    obtain ⟨g7, f7, b7⟩ := turnI (m := 4611686018427387879 + 18) (i := 6) (dd := 3) (pl := .tup (plL 4)) (x := x) (k := 6) (k' := 7) (o4 := (some wG)) (o5 := (some (.ex 6 [x]))) (o6 := (some (.ex 6 [x]))) (o9 := (some (.ex 6 [x]))) (w := wG) (one := (.ex 7 [x])) (two := (.ex 7 [x])) (N := 87) (N1 := 91) (N2 := 91) (N3 := 95) (N4 := 95) (r := 16) (by decide) (by decide) (by decide) (by decide) (by decide) (by decide) (by decide) (by decide) hL rfl (at_ 6 _ rfl) b6 (fun g => c1_87) (c2_x T1 (fun S => by kernel_rfl) (fun S => keptG S x 7 (by decide))) (fun g => c1_91) (c2_x T1 (fun S => by kernel_rfl) (fun S => keptG S x 7 (by decide)))
    obtain ⟨g8, f8, b8⟩ := turnI (m := 4611686018427387879 + 17) (i := 7) (dd := 3) (pl := .tup (plL 4)) (x := x) (k := 7) (k' := 8) (o4 := (some wG)) (o5 := (some (.ex 7 [x]))) (o6 := (some (.ex 7 [x]))) (o9 := (some (.ex 7 [x]))) (w := wG) (one := (.ex 8 [x])) (two := (.ex 8 [x])) (N := 95) (N1 := 99) (N2 := 99) (N3 := 103) (N4 := 103) (r := 17) (by decide) (by decide) (by decide) (by decide) (by decide) (by decide) (by decide) (by decide) hL rfl (at_ 7 _ rfl) b7 (fun g => c1_95) (c2_x T1 (fun S => by kernel_rfl) (fun S => keptG S x 8 (by decide))) (fun g => c1_99) (c2_x T1 (fun S => by kernel_rfl) (fun S => keptG S x 8 (by decide)))
    obtain ⟨g9, f9, b9⟩ := turnI (m := 4611686018427387879 + 16) (i := 8) (dd := 3) (pl := .tup (plL 4)) (x := x) (k := 8) (k' := 9) (o4 := (some wG)) (o5 := (some (.ex 8 [x]))) (o6 := (some (.ex 8 [x]))) (o9 := (some (.ex 8 [x]))) (w := wG) (one := (.ex 9 [x])) (two := (.ex 9 [x])) (N := 103) (N1 := 107) (N2 := 107) (N3 := 111) (N4 := 111) (r := 18) (by decide) (by decide) (by decide) (by decide) (by decide) (by decide) (by decide) (by decide) hL rfl (at_ 8 _ rfl) b8 (fun g => c1_103) (c2_x T1 (fun S => by kernel_rfl) (fun S => keptG S x 9 (by decide))) (fun g => c1_107) (c2_x T1 (fun S => by kernel_rfl) (fun S => keptG S x 9 (by decide)))
    obtain ⟨g10, f10, b10⟩ := turnI (m := 4611686018427387879 + 15) (i := 9) (dd := 3) (pl := .tup (plL 4)) (x := x) (k := 9) (k' := 10) (o4 := (some wG)) (o5 := (some (.ex 9 [x]))) (o6 := (some (.ex 9 [x]))) (o9 := (some (.ex 9 [x]))) (w := wG) (one := (.ex 10 [x])) (two := (.ex 10 [x])) (N := 111) (N1 := 115) (N2 := 115) (N3 := 119) (N4 := 119) (r := 19) (by decide) (by decide) (by decide) (by decide) (by decide) (by decide) (by decide) (by decide) hL rfl (at_ 9 _ rfl) b9 (fun g => c1_111) (c2_x T1 (fun S => by kernel_rfl) (fun S => keptG S x 10 (by decide))) (fun g => c1_115) (c2_x T1 (fun S => by kernel_rfl) (fun S => keptG S x 10 (by decide)))
    obtain ⟨g11, f11, b11⟩ := turnI (m := 4611686018427387879 + 14) (i := 10) (dd := 3) (pl := .tup (plL 4)) (x := x) (k := 10) (k' := 11) (o4 := (some wG)) (o5 := (some (.ex 10 [x]))) (o6 := (some (.ex 10 [x]))) (o9 := (some (.ex 10 [x]))) (w := wG) (one := (.ex 11 [x])) (two := (.ex 11 [x])) (N := 119) (N1 := 123) (N2 := 123) (N3 := 127) (N4 := 127) (r := 20) (by decide) (by decide) (by decide) (by decide) (by decide) (by decide) (by decide) (by decide) hL rfl (at_ 10 _ rfl) b10 (fun g => c1_119) (c2_x T1 (fun S => by kernel_rfl) (fun S => keptG S x 11 (by decide))) (fun g => c1_123) (c2_x T1 (fun S => by kernel_rfl) (fun S => keptG S x 11 (by decide)))
    obtain ⟨g12, f12, b12⟩ := turnI (m := 4611686018427387879 + 13) (i := 11) (dd := 3) (pl := .tup (plL 4)) (x := x) (k := 11) (k' := 12) (o4 := (some wG)) (o5 := (some (.ex 11 [x]))) (o6 := (some (.ex 11 [x]))) (o9 := (some (.ex 11 [x]))) (w := wG) (one := (.ex 12 [x])) (two := (.ex 12 [x])) (N := 127) (N1 := 131) (N2 := 131) (N3 := 135) (N4 := 135) (r := 21) (by decide) (by decide) (by decide) (by decide) (by decide) (by decide) (by decide) (by decide) hL rfl (at_ 11 _ rfl) b11 (fun g => c1_127) (c2_x T1 (fun S => by kernel_rfl) (fun S => keptG S x 12 (by decide))) (fun g => c1_131) (c2_x T1 (fun S => by kernel_rfl) (fun S => keptG S x 12 (by decide)))
    obtain ⟨g13, f13, b13⟩ := turnI (m := 4611686018427387879 + 12) (i := 12) (dd := 3) (pl := .tup (plL 4)) (x := x) (k := 12) (k' := 13) (o4 := (some wG)) (o5 := (some (.ex 12 [x]))) (o6 := (some (.ex 12 [x]))) (o9 := (some (.ex 12 [x]))) (w := wG) (one := (.ex 13 [x])) (two := (.ex 13 [x])) (N := 135) (N1 := 139) (N2 := 139) (N3 := 143) (N4 := 143) (r := 22) (by decide) (by decide) (by decide) (by decide) (by decide) (by decide) (by decide) (by decide) hL rfl (at_ 12 _ rfl) b12 (fun g => c1_135) (c2_x T1 (fun S => by kernel_rfl) (fun S => keptG S x 13 (by decide))) (fun g => c1_139) (c2_x T1 (fun S => by kernel_rfl) (fun S => keptG S x 13 (by decide)))
    obtain ⟨g14, f14, b14⟩ := turnI (m := 4611686018427387879 + 11) (i := 13) (dd := 3) (pl := .tup (plL 4)) (x := x) (k := 13) (k' := 14) (o4 := (some wG)) (o5 := (some (.ex 13 [x]))) (o6 := (some (.ex 13 [x]))) (o9 := (some (.ex 13 [x]))) (w := wG) (one := (.ex 14 [x])) (two := (.ex 14 [x])) (N := 143) (N1 := 147) (N2 := 147) (N3 := 151) (N4 := 151) (r := 23) (by decide) (by decide) (by decide) (by decide) (by decide) (by decide) (by decide) (by decide) hL rfl (at_ 13 _ rfl) b13 (fun g => c1_143) (c2_x T1 (fun S => by kernel_rfl) (fun S => keptG S x 14 (by decide))) (fun g => c1_147) (c2_x T1 (fun S => by kernel_rfl) (fun S => keptG S x 14 (by decide)))
    obtain ⟨g15, f15, b15⟩ := turnI (m := 4611686018427387879 + 10) (i := 14) (dd := 3) (pl := .tup (plL 4)) (x := x) (k := 14) (k' := 15) (o4 := (some wG)) (o5 := (some (.ex 14 [x]))) (o6 := (some (.ex 14 [x]))) (o9 := (some (.ex 14 [x]))) (w := wW) (one := (.ex 15 [x, .ref 25])) (two := (.ex 15 [x, .ref 26])) (N := 151) (N1 := 155) (N2 := 156) (N3 := 160) (N4 := 161) (r := 27) (by decide) (by decide) (by decide) (by decide) (by decide) (by decide) (by decide) (by decide) hL rfl (at_ 17 _ rfl) b14 (fun g => c1_151) (c2_w T1 (j := 25) (by decide) (by decide) (by decide) (at_ 15 _ rfl)) (fun g => c1_156) (c2_w T1 (j := 26) (by decide) (by decide) (by decide) (at_ 16 _ rfl))
    obtain ⟨g16, f16, b16⟩ := turnI (m := 4611686018427387879 + 9) (i := 15) (dd := 3) (pl := .tup (plL 4)) (x := x) (k := 15) (k' := 16) (o4 := (some wW)) (o5 := (some (.ex 15 [x, .ref 25]))) (o6 := (some (.ex 15 [x, .ref 26]))) (o9 := (some (.ex 15 [x, .ref 26]))) (w := wI) (one := (.ex 16 [x])) (two := (.ex 16 [x])) (N := 161) (N1 := 165) (N2 := 165) (N3 := 169) (N4 := 169) (r := 28) (by decide) (by decide) (by decide) (by decide) (by decide) (by decide) (by decide) (by decide) hL rfl (at_ 18 _ rfl) b15 (fun g => c1_161) (c2_x T1 (fun S => by kernel_rfl) (fun S => keptI S x 16 (by decide))) (fun g => c1_165) (c2_x T1 (fun S => by kernel_rfl) (fun S => keptI S x 16 (by decide)))
    obtain ⟨g17, f17, b17⟩ := turnI (m := 4611686018427387879 + 8) (i := 16) (dd := 3) (pl := .tup (plL 4)) (x := x) (k := 16) (k' := 17) (o4 := (some wI)) (o5 := (some (.ex 16 [x]))) (o6 := (some (.ex 16 [x]))) (o9 := (some (.ex 16 [x]))) (w := wI) (one := (.ex 17 [x])) (two := (.ex 17 [x])) (N := 169) (N1 := 173) (N2 := 173) (N3 := 177) (N4 := 177) (r := 29) (by decide) (by decide) (by decide) (by decide) (by decide) (by decide) (by decide) (by decide) hL rfl (at_ 19 _ rfl) b16 (fun g => c1_169) (c2_x T1 (fun S => by kernel_rfl) (fun S => keptI S x 17 (by decide))) (fun g => c1_173) (c2_x T1 (fun S => by kernel_rfl) (fun S => keptI S x 17 (by decide)))
    obtain ⟨g18, f18, b18⟩ := turnI (m := 4611686018427387879 + 7) (i := 17) (dd := 3) (pl := .tup (plL 4)) (x := x) (k := 17) (k' := 18) (o4 := (some wI)) (o5 := (some (.ex 17 [x]))) (o6 := (some (.ex 17 [x]))) (o9 := (some (.ex 17 [x]))) (w := wR) (one := (.ex 18 [x])) (two := (.ex 18 [x])) (N := 177) (N1 := 181) (N2 := 181) (N3 := 185) (N4 := 185) (r := 30) (by decide) (by decide) (by decide) (by decide) (by decide) (by decide) (by decide) (by decide) hL rfl (at_ 20 _ rfl) b17 (fun g => c1_177) (c2_x T1 (fun S => by kernel_rfl) (fun S => keptR S x)) (fun g => c1_181) (c2_x T1 (fun S => by kernel_rfl) (fun S => keptR S x))
    obtain ⟨g19, f19, b19⟩ := turnI (m := 4611686018427387879 + 6) (i := 18) (dd := 3) (pl := .tup (plL 4)) (x := x) (k := 18) (k' := 19) (o4 := (some wR)) (o5 := (some (.ex 18 [x]))) (o6 := (some (.ex 18 [x]))) (o9 := (some (.ex 18 [x]))) (w := w0) (one := (.ex 19 [])) (two := (.ex 19 [])) (N := 185) (N1 := 189) (N2 := 189) (N3 := 193) (N4 := 193) (r := 31) (by decide) (by decide) (by decide) (by decide) (by decide) (by decide) (by decide) (by decide) hL rfl (at_ 21 _ rfl) b18 (fun g => c1_185) (c2_0 (fun S => kept0 S 19 (by decide))) (fun g => c1_189) (c2_0 (fun S => kept0 S 19 (by decide)))
    obtain ⟨g20, f20, b20⟩ := turnI (m := 4611686018427387879 + 5) (i := 19) (dd := 3) (pl := .tup (plL 4)) (x := x) (k := 19) (k' := 20) (o4 := (some w0)) (o5 := (some (.ex 19 []))) (o6 := (some (.ex 19 []))) (o9 := (some (.ex 19 []))) (w := w0) (one := (.ex 20 [])) (two := (.ex 20 [])) (N := 193) (N1 := 197) (N2 := 197) (N3 := 201) (N4 := 201) (r := 32) (by decide) (by decide) (by decide) (by decide) (by decide) (by decide) (by decide) (by decide) hL rfl (at_ 22 _ rfl) b19 (fun g => c1_193) (c2_0 (fun S => kept0 S 20 (by decide))) (fun g => c1_197) (c2_0 (fun S => kept0 S 20 (by decide)))
    obtain ⟨g21, f21, b21⟩ := turnI (m := 4611686018427387879 + 4) (i := 20) (dd := 3) (pl := .tup (plL 4)) (x := x) (k := 20) (k' := 21) (o4 := (some w0)) (o5 := (some (.ex 20 []))) (o6 := (some (.ex 20 []))) (o9 := (some (.ex 20 []))) (w := w0) (one := (.ex 21 [])) (two := (.ex 21 [])) (N := 201) (N1 := 205) (N2 := 205) (N3 := 209) (N4 := 209) (r := 33) (by decide) (by decide) (by decide) (by decide) (by decide) (by decide) (by decide) (by decide) hL rfl (at_ 23 _ rfl) b20 (fun g => c1_201) (c2_0 (fun S => kept0 S 21 (by decide))) (fun g => c1_205) (c2_0 (fun S => kept0 S 21 (by decide)))
    obtain ⟨g22, f22, b22⟩ := turnI (m := 4611686018427387879 + 3) (i := 21) (dd := 3) (pl := .tup (plL 4)) (x := x) (k := 21) (k' := 22) (o4 := (some w0)) (o5 := (some (.ex 21 []))) (o6 := (some (.ex 21 []))) (o9 := (some (.ex 21 []))) (w := w0) (one := (.ex 22 [])) (two := (.ex 22 [])) (N := 209) (N1 := 213) (N2 := 213) (N3 := 217) (N4 := 217) (r := 34) (by decide) (by decide) (by decide) (by decide) (by decide) (by decide) (by decide) (by decide) hL rfl (at_ 24 _ rfl) b21 (fun g => c1_209) (c2_0 (fun S => kept0 S 22 (by decide))) (fun g => c1_213) (c2_0 (fun S => kept0 S 22 (by decide)))
    obtain ⟨g23, f23, b23⟩ := turnI (m := 4611686018427387879 + 2) (i := 22) (dd := 3) (pl := .tup (plL 4)) (x := x) (k := 22) (k' := 23) (o4 := (some w0)) (o5 := (some (.ex 22 []))) (o6 := (some (.ex 22 []))) (o9 := (some (.ex 22 []))) (w := w0) (one := (.ex 23 [])) (two := (.ex 23 [])) (N := 217) (N1 := 221) (N2 := 221) (N3 := 225) (N4 := 225) (r := 35) (by decide) (by decide) (by decide) (by decide) (by decide) (by decide) (by decide) (by decide) hL rfl (at_ 25 _ rfl) b22 (fun g => c1_217) (c2_0 (fun S => kept0 S 23 (by decide))) (fun g => c1_221) (c2_0 (fun S => kept0 S 23 (by decide)))
    obtain ⟨g24, f24, b24⟩ := turnI (m := 4611686018427387879 + 1) (i := 23) (dd := 3) (pl := .tup (plL 4)) (x := x) (k := 23) (k' := 24) (o4 := (some w0)) (o5 := (some (.ex 23 []))) (o6 := (some (.ex 23 []))) (o9 := (some (.ex 23 []))) (w := w0) (one := (.ex 24 [])) (two := (.ex 24 [])) (N := 225) (N1 := 229) (N2 := 229) (N3 := 233) (N4 := 233) (r := 36) (by decide) (by decide) (by decide) (by decide) (by decide) (by decide) (by decide) (by decide) hL rfl (at_ 26 _ rfl) b23 (fun g => c1_225) (c2_0 (fun S => kept0 S 24 (by decide))) (fun g => c1_229) (c2_0 (fun S => kept0 S 24 (by decide)))
    exact ⟨g24, f1.trans (f2.trans (f3.trans (f4.trans (f5.trans (f6.trans (f7.trans (f8.trans (f9.trans (f10.trans (f11.trans (f12.trans (f13.trans (f14.trans (f15.trans (f16.trans (f17.trans (f18.trans (f19.trans (f20.trans (f21.trans (f22.trans (f23.trans (f24.trans (turn_end (by decide) (by decide) hL rfl b24)))))))))))))))))))))))), b24⟩
  obtain ⟨g', f, b⟩ := go
  refine ⟨g', ?_, fun j hj => (b j (by omega)).trans (h0 j hj)⟩
  exact (run_for hI).trans ((congrArg (fun t => fLoop _ _ _ t 0 _ _) e).trans f)

theorem loop2 {g : Nat → Option Cell} {pl x : D} {a b : Int} {o4 o5 o6 o9 : Option D} (hrow : g 233 = some (.lst [.int a, .int b])) (at_ : ∀ i c, (items (.ref 233) 234)[i]? = some c → g (234 + i) = some c) : ∃ w one two, eS 98 GG (headS (dropS 9 b9)) [some (.ref 3), some pl, some x, some (.int 24), o4, o5, o6, some (.ref 233), some (.ref 262), o9, none, none] (fu g 263) = some (.ok (.nx (env2 3 pl x (.int 24) w one two 233 262 o9)) (fu g 263)) := by
  have hL : g 262 = some (.lst (allR 234)) := at_ 28 _ rfl
  have hR : (fu g 263).get 233 = some (.lst [.int a, .int b]) := (fu_get (by decide)).trans hrow
  have hI : evI dat.tab dat.P (cal 98) dat.cst GG (forI (headS (dropS 9 b9))) [some (.ref 3), some pl, some x, some (.int 24), o4, o5, o6, some (.ref 233), some (.ref 262), o9, none, none] (fu g 263) = some (.ok (.lst 262) (fu g 263)) := by
    rw [← upd'_self hL]
    kernel_rfl
  have e : turns = 4611686018427387879 + 25 := by decide
  have f1 := turnJ (m := 4611686018427387879 + 24) (i := 0) (dd := 3) (pl := pl) (x := x) (k3 := .int 24) (row := 233) (o4 := o4) (o5 := o5) (o6 := o6) (o9 := o9) (w := wG) (one := (.ex 1 [.ref 233])) (two := (.ex 1 [.ref 233])) (N := 263) (Q := 263) (L := 262) (r := 234) (by decide) (by decide) (by decide) hL rfl (at_ 0 _ rfl) (c3_x (fun S => by kernel_rfl) hR (fun S => keptG S _ 1 (by decide)) (fun S => keptG S _ 1 (by decide)))
  have f2 := turnJ (m := 4611686018427387879 + 23) (i := 1) (dd := 3) (pl := pl) (x := x) (k3 := .int 24) (row := 233) (o4 := (some wG)) (o5 := (some (.ex 1 [.ref 233]))) (o6 := (some (.ex 1 [.ref 233]))) (o9 := o9) (w := wG) (one := (.ex 2 [.ref 233])) (two := (.ex 2 [.ref 233])) (N := 263) (Q := 263) (L := 262) (r := 235) (by decide) (by decide) (by decide) hL rfl (at_ 1 _ rfl) (c3_x (fun S => by kernel_rfl) hR (fun S => keptG S _ 2 (by decide)) (fun S => keptG S _ 2 (by decide)))
  have f3 := turnJ (m := 4611686018427387879 + 22) (i := 2) (dd := 3) (pl := pl) (x := x) (k3 := .int 24) (row := 233) (o4 := (some wG)) (o5 := (some (.ex 2 [.ref 233]))) (o6 := (some (.ex 2 [.ref 233]))) (o9 := o9) (w := wG) (one := (.ex 3 [.ref 233])) (two := (.ex 3 [.ref 233])) (N := 263) (Q := 263) (L := 262) (r := 236) (by decide) (by decide) (by decide) hL rfl (at_ 2 _ rfl) (c3_x (fun S => by kernel_rfl) hR (fun S => keptG S _ 3 (by decide)) (fun S => keptG S _ 3 (by decide)))
  have f4 := turnJ (m := 4611686018427387879 + 21) (i := 3) (dd := 3) (pl := pl) (x := x) (k3 := .int 24) (row := 233) (o4 := (some wG)) (o5 := (some (.ex 3 [.ref 233]))) (o6 := (some (.ex 3 [.ref 233]))) (o9 := o9) (w := wG) (one := (.ex 4 [.ref 233])) (two := (.ex 4 [.ref 233])) (N := 263) (Q := 263) (L := 262) (r := 237) (by decide) (by decide) (by decide) hL rfl (at_ 3 _ rfl) (c3_x (fun S => by kernel_rfl) hR (fun S => keptG S _ 4 (by decide)) (fun S => keptG S _ 4 (by decide)))
  have f5 := turnJ (m := 4611686018427387879 + 20) (i := 4) (dd := 3) (pl := pl) (x := x) (k3 := .int 24) (row := 233) (o4 := (some wG)) (o5 := (some (.ex 4 [.ref 233]))) (o6 := (some (.ex 4 [.ref 233]))) (o9 := o9) (w := wG) (one := (.ex 5 [.ref 233])) (two := (.ex 5 [.ref 233])) (N := 263) (Q := 263) (L := 262) (r := 238) (by decide) (by decide) (by decide) hL rfl (at_ 4 _ rfl) (c3_x (fun S => by kernel_rfl) hR (fun S => keptG S _ 5 (by decide)) (fun S => keptG S _ 5 (by decide)))
  have f6 := turnJ (m := 4611686018427387879 + 19) (i := 5) (dd := 3) (pl := pl) (x := x) (k3 := .int 24) (row := 233) (o4 := (some wG)) (o5 := (some (.ex 5 [.ref 233]))) (o6 := (some (.ex 5 [.ref 233]))) (o9 := o9) (w := wG) (one := (.ex 6 [.ref 233])) (two := (.ex 6 [.ref 233])) (N := 263) (Q := 263) (L := 262) (r := 239) (by decide) (by decide) (by decide) hL rfl (at_ 5 _ rfl) (c3_x (fun S => by kernel_rfl) hR (fun S => keptG S _ 6 (by decide)) (fun S => keptG S _ 6 (by decide)))
  have f7 := turnJ (m := 4611686018427387879 + 18) (i := 6) (dd := 3) (pl := pl) (x := x) (k3 := .int 24) (row := 233) (o4 := (some wG)) (o5 := (some (.ex 6 [.ref 233]))) (o6 := (some (.ex 6 [.ref 233]))) (o9 := o9) (w := wG) (one := (.ex 7 [.ref 233])) (two := (.ex 7 [.ref 233])) (N := 263) (Q := 263) (L := 262) (r := 240) (by decide) (by decide) (by decide) hL rfl (at_ 6 _ rfl) (c3_x (fun S => by kernel_rfl) hR (fun S => keptG S _ 7 (by decide)) (fun S => keptG S _ 7 (by decide)))
  have f8 := turnJ (m := 4611686018427387879 + 17) (i := 7) (dd := 3) (pl := pl) (x := x) (k3 := .int 24) (row := 233) (o4 := (some wG)) (o5 := (some (.ex 7 [.ref 233]))) (o6 := (some (.ex 7 [.ref 233]))) (o9 := o9) (w := wG) (one := (.ex 8 [.ref 233])) (two := (.ex 8 [.ref 233])) (N := 263) (Q := 263) (L := 262) (r := 241) (by decide) (by decide) (by decide) hL rfl (at_ 7 _ rfl) (c3_x (fun S => by kernel_rfl) hR (fun S => keptG S _ 8 (by decide)) (fun S => keptG S _ 8 (by decide)))
  have f9 := turnJ (m := 4611686018427387879 + 16) (i := 8) (dd := 3) (pl := pl) (x := x) (k3 := .int 24) (row := 233) (o4 := (some wG)) (o5 := (some (.ex 8 [.ref 233]))) (o6 := (some (.ex 8 [.ref 233]))) (o9 := o9) (w := wG) (one := (.ex 9 [.ref 233])) (two := (.ex 9 [.ref 233])) (N := 263) (Q := 263) (L := 262) (r := 242) (by decide) (by decide) (by decide) hL rfl (at_ 8 _ rfl) (c3_x (fun S => by kernel_rfl) hR (fun S => keptG S _ 9 (by decide)) (fun S => keptG S _ 9 (by decide)))
  have f10 := turnJ (m := 4611686018427387879 + 15) (i := 9) (dd := 3) (pl := pl) (x := x) (k3 := .int 24) (row := 233) (o4 := (some wG)) (o5 := (some (.ex 9 [.ref 233]))) (o6 := (some (.ex 9 [.ref 233]))) (o9 := o9) (w := wG) (one := (.ex 10 [.ref 233])) (two := (.ex 10 [.ref 233])) (N := 263) (Q := 263) (L := 262) (r := 243) (by decide) (by decide) (by decide) hL rfl (at_ 9 _ rfl) (c3_x (fun S => by kernel_rfl) hR (fun S => keptG S _ 10 (by decide)) (fun S => keptG S _ 10 (by decide)))
  have f11 := turnJ (m := 4611686018427387879 + 14) (i := 10) (dd := 3) (pl := pl) (x := x) (k3 := .int 24) (row := 233) (o4 := (some wG)) (o5 := (some (.ex 10 [.ref 233]))) (o6 := (some (.ex 10 [.ref 233]))) (o9 := o9) (w := wG) (one := (.ex 11 [.ref 233])) (two := (.ex 11 [.ref 233])) (N := 263) (Q := 263) (L := 262) (r := 244) (by decide) (by decide) (by decide) hL rfl (at_ 10 _ rfl) (c3_x (fun S => by kernel_rfl) hR (fun S => keptG S _ 11 (by decide)) (fun S => keptG S _ 11 (by decide)))
  have f12 := turnJ (m := 4611686018427387879 + 13) (i := 11) (dd := 3) (pl := pl) (x := x) (k3 := .int 24) (row := 233) (o4 := (some wG)) (o5 := (some (.ex 11 [.ref 233]))) (o6 := (some (.ex 11 [.ref 233]))) (o9 := o9) (w := wG) (one := (.ex 12 [.ref 233])) (two := (.ex 12 [.ref 233])) (N := 263) (Q := 263) (L := 262) (r := 245) (by decide) (by decide) (by decide) hL rfl (at_ 11 _ rfl) (c3_x (fun S => by kernel_rfl) hR (fun S => keptG S _ 12 (by decide)) (fun S => keptG S _ 12 (by decide)))
  have f13 := turnJ (m := 4611686018427387879 + 12) (i := 12) (dd := 3) (pl := pl) (x := x) (k3 := .int 24) (row := 233) (o4 := (some wG)) (o5 := (some (.ex 12 [.ref 233]))) (o6 := (some (.ex 12 [.ref 233]))) (o9 := o9) (w := wG) (one := (.ex 13 [.ref 233])) (two := (.ex 13 [.ref 233])) (N := 263) (Q := 263) (L := 262) (r := 246) (by decide) (by decide) (by decide) hL rfl (at_ 12 _ rfl) (c3_x (fun S => by kernel_rfl) hR (fun S => keptG S _ 13 (by decide)) (fun S => keptG S _ 13 (by decide)))
  have f14 := turnJ (m := 4611686018427387879 + 11) (i := 13) (dd := 3) (pl := pl) (x := x) (k3 := .int 24) (row := 233) (o4 := (some wG)) (o5 := (some (.ex 13 [.ref 233]))) (o6 := (some (.ex 13 [.ref 233]))) (o9 := o9) (w := wG) (one := (.ex 14 [.ref 233])) (two := (.ex 14 [.ref 233])) (N := 263) (Q := 263) (L := 262) (r := 247) (by decide) (by decide) (by decide) hL rfl (at_ 13 _ rfl) (c3_x (fun S => by kernel_rfl) hR (fun S => keptG S _ 14 (by decide)) (fun S => keptG S _ 14 (by decide)))
  have f15 := turnJ (m := 4611686018427387879 + 10) (i := 14) (dd := 3) (pl := pl) (x := x) (k3 := .int 24) (row := 233) (o4 := (some wG)) (o5 := (some (.ex 14 [.ref 233]))) (o6 := (some (.ex 14 [.ref 233]))) (o9 := o9) (w := wW) (one := (.ex 15 [.ref 233, .ref 249])) (two := (.ex 15 [.ref 233, .ref 250])) (N := 263) (Q := 263) (L := 262) (r := 251) (by decide) (by decide) (by decide) hL rfl (at_ 17 _ rfl) c3_w
  have f16 := turnJ (m := 4611686018427387879 + 9) (i := 15) (dd := 3) (pl := pl) (x := x) (k3 := .int 24) (row := 233) (o4 := (some wW)) (o5 := (some (.ex 15 [.ref 233, .ref 249]))) (o6 := (some (.ex 15 [.ref 233, .ref 250]))) (o9 := o9) (w := wI) (one := (.ex 16 [.ref 233])) (two := (.ex 16 [.ref 233])) (N := 263) (Q := 263) (L := 262) (r := 252) (by decide) (by decide) (by decide) hL rfl (at_ 18 _ rfl) (c3_x (fun S => by kernel_rfl) hR (fun S => keptI S _ 16 (by decide)) (fun S => keptI S _ 16 (by decide)))
  have f17 := turnJ (m := 4611686018427387879 + 8) (i := 16) (dd := 3) (pl := pl) (x := x) (k3 := .int 24) (row := 233) (o4 := (some wI)) (o5 := (some (.ex 16 [.ref 233]))) (o6 := (some (.ex 16 [.ref 233]))) (o9 := o9) (w := wI) (one := (.ex 17 [.ref 233])) (two := (.ex 17 [.ref 233])) (N := 263) (Q := 263) (L := 262) (r := 253) (by decide) (by decide) (by decide) hL rfl (at_ 19 _ rfl) (c3_x (fun S => by kernel_rfl) hR (fun S => keptI S _ 17 (by decide)) (fun S => keptI S _ 17 (by decide)))
  have f18 := turnJ (m := 4611686018427387879 + 7) (i := 17) (dd := 3) (pl := pl) (x := x) (k3 := .int 24) (row := 233) (o4 := (some wI)) (o5 := (some (.ex 17 [.ref 233]))) (o6 := (some (.ex 17 [.ref 233]))) (o9 := o9) (w := wR) (one := (.ex 18 [.ref 233])) (two := (.ex 18 [.ref 233])) (N := 263) (Q := 263) (L := 262) (r := 254) (by decide) (by decide) (by decide) hL rfl (at_ 20 _ rfl) (c3_x (fun S => by kernel_rfl) hR (fun S => keptR S _) (fun S => keptR S _))
  have f19 := turnJ (m := 4611686018427387879 + 6) (i := 18) (dd := 3) (pl := pl) (x := x) (k3 := .int 24) (row := 233) (o4 := (some wR)) (o5 := (some (.ex 18 [.ref 233]))) (o6 := (some (.ex 18 [.ref 233]))) (o9 := o9) (w := w0) (one := (.ex 19 [])) (two := (.ex 19 [])) (N := 263) (Q := 263) (L := 262) (r := 255) (by decide) (by decide) (by decide) hL rfl (at_ 21 _ rfl) c3_0
  have f20 := turnJ (m := 4611686018427387879 + 5) (i := 19) (dd := 3) (pl := pl) (x := x) (k3 := .int 24) (row := 233) (o4 := (some w0)) (o5 := (some (.ex 19 []))) (o6 := (some (.ex 19 []))) (o9 := o9) (w := w0) (one := (.ex 20 [])) (two := (.ex 20 [])) (N := 263) (Q := 263) (L := 262) (r := 256) (by decide) (by decide) (by decide) hL rfl (at_ 22 _ rfl) c3_0
  have f21 := turnJ (m := 4611686018427387879 + 4) (i := 20) (dd := 3) (pl := pl) (x := x) (k3 := .int 24) (row := 233) (o4 := (some w0)) (o5 := (some (.ex 20 []))) (o6 := (some (.ex 20 []))) (o9 := o9) (w := w0) (one := (.ex 21 [])) (two := (.ex 21 [])) (N := 263) (Q := 263) (L := 262) (r := 257) (by decide) (by decide) (by decide) hL rfl (at_ 23 _ rfl) c3_0
  have f22 := turnJ (m := 4611686018427387879 + 3) (i := 21) (dd := 3) (pl := pl) (x := x) (k3 := .int 24) (row := 233) (o4 := (some w0)) (o5 := (some (.ex 21 []))) (o6 := (some (.ex 21 []))) (o9 := o9) (w := w0) (one := (.ex 22 [])) (two := (.ex 22 [])) (N := 263) (Q := 263) (L := 262) (r := 258) (by decide) (by decide) (by decide) hL rfl (at_ 24 _ rfl) c3_0
  have f23 := turnJ (m := 4611686018427387879 + 2) (i := 22) (dd := 3) (pl := pl) (x := x) (k3 := .int 24) (row := 233) (o4 := (some w0)) (o5 := (some (.ex 22 []))) (o6 := (some (.ex 22 []))) (o9 := o9) (w := w0) (one := (.ex 23 [])) (two := (.ex 23 [])) (N := 263) (Q := 263) (L := 262) (r := 259) (by decide) (by decide) (by decide) hL rfl (at_ 25 _ rfl) c3_0
  have f24 := turnJ (m := 4611686018427387879 + 1) (i := 23) (dd := 3) (pl := pl) (x := x) (k3 := .int 24) (row := 233) (o4 := (some w0)) (o5 := (some (.ex 23 []))) (o6 := (some (.ex 23 []))) (o9 := o9) (w := w0) (one := (.ex 24 [])) (two := (.ex 24 [])) (N := 263) (Q := 263) (L := 262) (r := 260) (by decide) (by decide) (by decide) hL rfl (at_ 26 _ rfl) c3_0
  have go := f1.trans (f2.trans (f3.trans (f4.trans (f5.trans (f6.trans (f7.trans (f8.trans (f9.trans (f10.trans (f11.trans (f12.trans (f13.trans (f14.trans (f15.trans (f16.trans (f17.trans (f18.trans (f19.trans (f20.trans (f21.trans (f22.trans (f23.trans (f24.trans (turn_end (Q := 263) (by decide) (by decide) hL rfl Ag.refl))))))))))))))))))))))))
  exact ⟨_, _, _, (run_for hI).trans ((congrArg (fun t => fLoop _ _ _ t 0 _ _) e).trans go)⟩

theorem right_ok {g : Nat → Option Cell} {a b : Int} (hb0 : 0 ≤ b) (hb : b < 2147483549) (hg : g 3 = some (.lst [.int a, .int b, .int 0])) : ∃ g', cal 99 9 [.ref 3] (fu g 4) = some (.ok (.bl true) (fu g' 279)) ∧ ∀ j, j < 3 → g' j = g j := by
  have h0 := s0_ok (g := g)
  rw [pushL_fu _ _ _ (by decide)] at h0
  have a0 := updL_ag [.lst ((List.range 13).map fun i => .bl (Nat.beq (i + 1) 99)), .lst ((List.range 11).map fun i => .bl (Nat.beq (i + 14) 99)), .lst (((List.range 13).map fun i => .bl (Nat.beq (i + 1) 99)) ++ (List.range 11).map fun i => .bl (Nat.beq (i + 14) 99))] g 4
  revert h0 a0
  generalize updL g 4 [.lst ((List.range 13).map fun i => .bl (Nat.beq (i + 1) 99)), .lst ((List.range 11).map fun i => .bl (Nat.beq (i + 14) 99)), .lst (((List.range 13).map fun i => .bl (Nat.beq (i + 1) 99)) ++ (List.range 11).map fun i => .bl (Nat.beq (i + 14) 99))] = g0
  intro h0 a0
  have h1 := s1_ok (g := g0)
  rw [pushL_fu _ _ _ (by decide)] at h1
  have a1 := updL_ag [.lst [], .dct []] g0 7
  have p3 := updL_at [.lst [], .dct []] g0 7 0 _ rfl
  have p4 := updL_at [.lst [], .dct []] g0 7 1 _ rfl
  revert h1 a1 p3 p4
  generalize updL g0 7 [.lst [], .dct []] = g1
  intro h1 a1 p3 p4
  have d1 : g1 3 = some (.lst [.int a, .int b, .int 0]) := (a1 _ (by decide)).trans ((a0 _ (by decide)).trans hg)
  obtain ⟨r0, a', b', hb0, hb, r00, r01, t0⟩ := take0 (n := 9) hb0 hb d1
  obtain ⟨x1, hx1, q0⟩ := pick_of (xs := plL 4) (m := 15) rfl r00 r01 t0
  have a2 : ∀ j, j ≠ 3 → upd' g1 3 (.lst [.int a', .int b', .int 1]) j = g1 j := fun j hj => upd'_ne hj
  have d2 : upd' g1 3 (.lst [.int a', .int b', .int 1]) 3 = _ := upd'_same
  revert q0 a2 d2
  generalize upd' g1 3 (.lst [.int a', .int b', .int 1]) = g2
  intro q0 a2 d2
  have h2 : eS 98 GG (headS (dropS 2 b9)) e1 (fu g1 9) = some (.ok (.nx (e2 x1 none)) (fu g2 9)) :=
    run_asg ((ev_call (vs := [.ref 3, .tup (plL 4)]) (S' := fu g1 9) rfl rfl rfl (by kernel_rfl)).trans q0)
  have h3 := s3_args (g := g2) (x := x1)
  rw [pushL_fu _ _ _ (by simp only [List.length_cons, List.length_nil]; decide)] at h3
  have a3 := updL_ag [.lst [x1]] g2 9
  have p5 := updL_at [.lst [x1]] g2 9 0 _ rfl
  revert h3 a3 p5
  generalize updL g2 9 [.lst [x1]] = g3
  intro h3 a3 p5
  have d3 := (a3 3 (by decide)).trans d2
  obtain ⟨r1, a', b', hb0, hb, r10, r11, t1⟩ := take1 (n := 10) hb0 hb d3
  obtain ⟨y, hy, q1⟩ := pick_of (xs := plM 4 x1) (m := 6) rfl r10 r11 t1
  have a4 : ∀ j, j ≠ 3 → upd' g3 3 (.lst [.int a', .int b', .int 2]) j = g3 j := fun j hj => upd'_ne hj
  have d4 : upd' g3 3 (.lst [.int a', .int b', .int 2]) 3 = _ := upd'_same
  revert q1 a4 d4
  generalize upd' g3 3 (.lst [.int a', .int b', .int 2]) = g4
  intro q1 a4 d4
  have h3 : eS 98 GG (headS (dropS 3 b9)) (e2 x1 none) (fu g2 9) = some (.ok (.nx (e2 y none)) (fu g4 10)) :=
    run_asg ((ev_call (vs := [.ref 3, .tup (plM 4 x1)]) (S' := fu g3 10) rfl rfl rfl h3).trans q1)
  have h4 : eS 98 GG (headS (dropS 4 b9)) (e2 y none) (fu g4 10) = some (.ok (.nx (e2 y (some (.int 0)))) (fu g4 10)) := by kernel_rfl
  have u4 := updL_ag (items y 10) g4 10
  have m3 := (a4 7 (by decide)).trans ((a3 7 (by decide)).trans ((a2 7 (by decide)).trans p3))
  have m4 := (a4 8 (by decide)).trans ((a3 8 (by decide)).trans ((a2 8 (by decide)).trans p4))
  have m5 := (a4 9 (by decide)).trans p5
  obtain ⟨p, T1⟩ := th2 (N0 := 4) (by decide) hx1 hy (M := 39) (g0 := updL g4 10 (items y 10)) (by decide) ((u4 _ (by decide)).trans m3) ((u4 _ (by decide)).trans m4) ((u4 _ (by decide)).trans m5)
  obtain ⟨g5, h5, a5⟩ := loop1 T1
  have d5 := (a5 3 (by decide)).trans d4
  obtain ⟨r2, a', b', hb0, hb, _, _, t2⟩ := take2 (n := 233) hb0 hb d5
  have a6 : ∀ j, j ≠ 3 → upd' g5 3 (.lst [.int a', .int b', .int 3]) j = g5 j := fun j hj => upd'_ne hj
  have d6 : upd' g5 3 (.lst [.int a', .int b', .int 3]) 3 = _ := upd'_same
  revert t2 a6 d6
  generalize upd' g5 3 (.lst [.int a', .int b', .int 3]) = g6
  intro t2 a6 d6
  have h6 : eS 98 GG (headS (dropS 6 b9)) (envI 3 (.tup (plL 4)) y 24 w0 (.ex 24 []) (.ex 24 []) (.ex 24 [])) (fu g5 233) = some (.ok (.nx [some (.ref 3), some (.tup (plL 4)), some y, some (.int 24), some w0, some (.ex 24 []), some (.ex 24 []), some (.ref 233), none, some (.ex 24 []), none, none]) (fu (upd' g6 233 (.lst [.int r2])) 234)) := by
    have e := ev_lst (k := 98) (gd := GG) (es := .cons (.call 1 2 (.cons (.var 0) (.cons (.con (.int 9)) .nil)) [] .nil) .nil) (env := envI 3 (.tup (plL 4)) y 24 w0 (.ex 24 []) (.ex 24 []) (.ex 24 [])) (vs := [.int r2]) rfl (ev_cons ((ev_call (vs := [.ref 3, .int 9]) (S := fu g5 233) (S' := fu g5 233) rfl rfl rfl (by kernel_rfl)).trans t2) ev_nil)
    rw [fu_push (by decide)] at e
    exact run_asg e
  have a7 := updL_ag (items (.ref 233) 234) (upd' g6 233 (.lst [.int r2])) 234
  have u7 := updL_at (items (.ref 233) 234) (upd' g6 233 (.lst [.int r2])) 234
  have h7 := s7_ok (g := upd' g6 233 (.lst [.int r2])) (o0 := some (.ref 3)) (o1 := some (.tup (plL 4))) (o2 := some y) (o3 := some (.int 24)) (o4 := some w0) (o5 := some (.ex 24 [])) (o6 := some (.ex 24 [])) (o9 := some (.ex 24 []))
  rw [pushL_fu _ _ _ (by rw [items_len]; decide), items_len] at h7
  have c7 : updL (upd' g6 233 (.lst [.int r2])) 234 (items (.ref 233) 234) 233 = some (.lst [.int r2]) := (a7 _ (by decide)).trans upd'_same
  have b7 : ∀ j, j < 233 → updL (upd' g6 233 (.lst [.int r2])) 234 (items (.ref 233) 234) j = g6 j := fun j hj => (a7 _ (by omega)).trans (upd'_ne (by omega))
  revert h7 u7 c7 b7
  generalize updL (upd' g6 233 (.lst [.int r2])) 234 (items (.ref 233) 234) = g7
  intro u7 h7 c7 b7
  have d7 := (b7 3 (by decide)).trans d6
  obtain ⟨r3, a', b', hb0, hb, _, _, t3⟩ := take3 (n := 263) hb0 hb d7
  have a8 : ∀ j, j ≠ 3 → upd' g7 3 (.lst [.int a', .int b', .int 4]) j = g7 j := fun j hj => upd'_ne hj
  revert t3 a8
  generalize upd' g7 3 (.lst [.int a', .int b', .int 4]) = g8
  intro t3 a8
  have h8 : eS 98 GG (headS (dropS 8 b9)) (env2 3 (.tup (plL 4)) y (.int 24) w0 (.ex 24 []) (.ex 24 []) 233 262 (some (.ex 24 []))) (fu g7 263) = some (.ok (.nx (env2 3 (.tup (plL 4)) y (.int 24) w0 (.ex 24 []) (.ex 24 []) 233 262 (some (.ex 24 [])))) (fu (upd' g8 233 (.lst [.int r2, .int r3])) 263)) := by
    have e := ev_append (k := 98) (gd := GG) (a := .var 7) (es := .cons (.call 1 2 (.cons (.var 0) (.cons (.con (.int 9)) .nil)) [] .nil) .nil) (i := 233) (xs := [.int r2]) (v := .int r3) (env := env2 3 (.tup (plL 4)) y (.int 24) w0 (.ex 24 []) (.ex 24 []) 233 262 (some (.ex 24 []))) (S := fu g7 263) (S' := fu g8 263)
      (by kernel_rfl) ((fu_get (by decide)).trans c7) (ev_cons ((ev_call (vs := [.ref 3, .int 9]) (S' := fu g7 263) rfl rfl rfl (by kernel_rfl)).trans t3) ev_nil) ((fu_get (by decide)).trans ((a8 _ (by decide)).trans c7)) rfl
    rw [fu_put (by decide)] at e
    exact run_exp e
  obtain ⟨w, one, two, h9⟩ := loop2 (g := upd' g8 233 (.lst [.int r2, .int r3])) (pl := .tup (plL 4)) (x := y) (a := r2) (b := r3) (o4 := some w0) (o5 := some (.ex 24 [])) (o6 := some (.ex 24 [])) (o9 := some (.ex 24 [])) upd'_same
    (fun i c h => (upd'_ne (by omega)).trans ((a8 _ (by omega)).trans (u7 i c h)))
  have h10 := s10_ok (g := upd' g8 233 (.lst [.int r2, .int r3])) (x := y) (o0 := some (.ref 3)) (o1 := some (.tup (plL 4))) (o3 := some (.int 24)) (o4 := some w) (o5 := some one) (o6 := some two) (o7 := some (.ref 233)) (o8 := some (.ref 262)) (o9 := some (.ex 24 []))
  rw [pushL_fu _ _ _ (by simp only [List.length_cons, List.length_nil]; decide)] at h10
  refine ⟨_, call_of (k := 98) (fl := .rt (.bl true)) (show dat.P 9 = some _ from rfl) (show dat.F 9 = some _ from rfl) ((run_seq h0).trans ((run_seq h1).trans ((run_seq h2).trans ((run_seq h3).trans ((run_seq h4).trans ((run_seq h5).trans ((run_seq h6).trans ((run_seq h7).trans ((run_seq h8).trans ((run_seq h9).trans (run_ret h10))))))))))), ?_⟩
  intro j hj
  rw [updL_ag _ _ _ j (by omega), upd'_ne (by omega), a8 j (by omega), b7 j (by omega), a6 j (by omega), a5 j (by omega), a4 j (by omega), a3 j (by omega), a2 j (by omega), a1 j (by omega), a0 j (by omega)]

end T.B4
end
section
/-! K01b281: the round that begins with 281 cells. -/
namespace T.B281
open PySem L2 G T
theorem take0 {g : Nat → Option Cell} {n : Nat} {a b : Int} {k : Nat} (hb0 : 0 ≤ b) (hb : b < 2147483549) (hg : g 280 = some (.lst [.int a, .int b, .int 0])) : ∃ r a' b' : Int, 0 ≤ b' ∧ b' < 2147483549 ∧ 0 ≤ r ∧ r < ((15 : Nat) : Int) ∧
    cal (k + 1) 1 [.ref 280, .int 15] (fu g n) = some (.ok (.int r) (fu (upd' g 280 (.lst [.int a', .int b', .int 1])) n)) := by
  rw [← upd'_self hg]
  simp only [upd'_upd']
  have hb2 : 0 ≤ (b * 78007 + 0 + 27211) % 2147483549 ∧ (b * 78007 + 0 + 27211) % 2147483549 < 2147483549 := ⟨Int.emod_nonneg _ (by decide), Int.emod_lt_of_pos _ (by decide)⟩
  have hc : eS k ⟨false, true⟩ b1 [some (.ref 280), some (.int 15), none, none, none] (fu (upd' g 280 (.lst [.int a, .int b, .int 0])) n) = eS k ⟨false, true⟩ (dropS 3 b1) [some (.ref 280), some (.int 15), some (.int a), some (.int b), some (.int 0)]
      (((fu (upd' g 280 (.lst [.int a, .int b, .int 0])) n).put 280 (.lst [.int a, .int ((b * 78007 + 0 + 27211) % 2147483549), .int 0])).put 280 (.lst [.int a, .int ((b * 78007 + 0 + 27211) % 2147483549), .int 1])) := by
    have h0 : eS k ⟨false, true⟩ (headS b1) [some (.ref 280), some (.int 15), none, none, none] (fu (upd' g 280 (.lst [.int a, .int b, .int 0])) n) = some (.ok (.nx [some (.ref 280), some (.int 15), some (.int a), some (.int b), some (.int 0)]) (fu (upd' g 280 (.lst [.int a, .int b, .int 0])) n)) := by kernel_rfl
    have h1 : eS k ⟨false, true⟩ (headS (dropS 1 b1)) [some (.ref 280), some (.int 15), some (.int a), some (.int b), some (.int 0)] (fu (upd' g 280 (.lst [.int a, .int b, .int 0])) n) = some (.ok (.nx [some (.ref 280), some (.int 15), some (.int a), some (.int b), some (.int 0)])
      ((fu (upd' g 280 (.lst [.int a, .int b, .int 0])) n).put 280 (.lst [.int a, .int ((b * 78007 + 0 + 27211) % 2147483549), .int 0]))) :=
      run_asgx (v := .int ((b * 78007 + 0 + 27211) % 2147483549)) (S' := fu (upd' g 280 (.lst [.int a, .int b, .int 0])) n) (seed_ok (K := 78007) (L := 0) hb0 hb (by kernel_rfl) (by decide) (by decide) (by kernel_rfl) rfl rfl) (by kernel_rfl)
    have h2 : eS k ⟨false, true⟩ (headS (dropS 2 b1)) [some (.ref 280), some (.int 15), some (.int a), some (.int b), some (.int 0)] ((fu (upd' g 280 (.lst [.int a, .int b, .int 0])) n).put 280 (.lst [.int a, .int ((b * 78007 + 0 + 27211) % 2147483549), .int 0])) = some (.ok (.nx [some (.ref 280), some (.int 15), some (.int a), some (.int b), some (.int 0)])
      (((fu (upd' g 280 (.lst [.int a, .int b, .int 0])) n).put 280 (.lst [.int a, .int ((b * 78007 + 0 + 27211) % 2147483549), .int 0])).put 280 (.lst [.int a, .int ((b * 78007 + 0 + 27211) % 2147483549), .int 1]))) := by kernel_rfl
    exact (run_seq h0).trans ((run_seq h1).trans (run_seq h2))
  rw [fu_put (by decide), fu_put (by decide), upd'_upd', upd'_upd'] at hc
  generalize (b * 78007 + 0 + 27211) % 2147483549 = b2 at hc hb2
  have hq : eT k ⟨false, true⟩ (.cmp .gt (.var 2) (.con (.int 0))) [some (.ref 280), some (.int 15), some (.int a), some (.int b), some (.int 0)] (fu (upd' g 280 (.lst [.int a, .int b2, .int 1])) n) = some (.ok (decide (0 < a)) (fu (upd' g 280 (.lst [.int a, .int b2, .int 1])) n)) := by kernel_rfl
  have emod : ∀ z : Int, 0 ≤ z % ((15 : Nat) : Int) ∧ z % ((15 : Nat) : Int) < ((15 : Nat) : Int) := fun z => ⟨Int.emod_nonneg _ (by decide), Int.emod_lt_of_pos _ (by decide)⟩
  unfold b1 at hc
  simp only [dropS] at hc
  by_cases h : 0 < a
  · refine ⟨a % ((15 : Nat) : Int), a / ((15 : Nat) : Int), b2, hb2.1, hb2.2, (emod a).1, (emod a).2, ?_⟩
    refine call_of (k := k) (fl := .rt (.int (a % ((15 : Nat) : Int)))) (show dat.P 1 = some _ from rfl) (show dat.F 1 = some _ from rfl) ?_
    refine Eq.trans hc ?_
    refine run_ret ?_
    rw [run_if hq, if_pos (decide_eq_true h)]
    have s1 : eS k ⟨false, true⟩ (.asg (.ix (.var 0) (.con (.int 0))) (.bin .div (.fun_ .int (.cons (.var 2) .nil)) (.var 1))) [some (.ref 280), some (.int 15), some (.int a), some (.int b), some (.int 0)] (fu (upd' g 280 (.lst [.int a, .int b2, .int 1])) n) = some (.ok (.nx [some (.ref 280), some (.int 15), some (.int a), some (.int b), some (.int 0)]) ((fu (upd' g 280 (.lst [.int a, .int b2, .int 1])) n).put 280 (.lst [.int (a / ((15 : Nat) : Int)), .int b2, .int 1]))) := by kernel_rfl
    rw [fu_put (by decide), upd'_upd'] at s1
    rw [run_seq s1]
    exact run_ret (run_rete (by kernel_rfl))
  · refine ⟨b2 / 128 % ((15 : Nat) : Int), a, b2, hb2.1, hb2.2, (emod _).1, (emod _).2, ?_⟩
    refine call_of (k := k) (fl := .rt (.int (b2 / 128 % ((15 : Nat) : Int)))) (show dat.P 1 = some _ from rfl) (show dat.F 1 = some _ from rfl) ?_
    refine Eq.trans hc ?_
    rw [run_seq (run_no (by rw [hq, decide_eq_false h]))]
    exact run_ret (run_rete (by kernel_rfl))
theorem take1 {g : Nat → Option Cell} {n : Nat} {a b : Int} {k : Nat} (hb0 : 0 ≤ b) (hb : b < 2147483549) (hg : g 280 = some (.lst [.int a, .int b, .int 1])) : ∃ r a' b' : Int, 0 ≤ b' ∧ b' < 2147483549 ∧ 0 ≤ r ∧ r < ((6 : Nat) : Int) ∧
    cal (k + 1) 1 [.ref 280, .int 6] (fu g n) = some (.ok (.int r) (fu (upd' g 280 (.lst [.int a', .int b', .int 2])) n)) := by
  rw [← upd'_self hg]
  simp only [upd'_upd']
  have hb2 : 0 ≤ (b * 78013 + 41011 + 27211) % 2147483549 ∧ (b * 78013 + 41011 + 27211) % 2147483549 < 2147483549 := ⟨Int.emod_nonneg _ (by decide), Int.emod_lt_of_pos _ (by decide)⟩
  have hc : eS k ⟨false, true⟩ b1 [some (.ref 280), some (.int 6), none, none, none] (fu (upd' g 280 (.lst [.int a, .int b, .int 1])) n) = eS k ⟨false, true⟩ (dropS 3 b1) [some (.ref 280), some (.int 6), some (.int a), some (.int b), some (.int 1)]
      (((fu (upd' g 280 (.lst [.int a, .int b, .int 1])) n).put 280 (.lst [.int a, .int ((b * 78013 + 41011 + 27211) % 2147483549), .int 1])).put 280 (.lst [.int a, .int ((b * 78013 + 41011 + 27211) % 2147483549), .int 2])) := by
    have h0 : eS k ⟨false, true⟩ (headS b1) [some (.ref 280), some (.int 6), none, none, none] (fu (upd' g 280 (.lst [.int a, .int b, .int 1])) n) = some (.ok (.nx [some (.ref 280), some (.int 6), some (.int a), some (.int b), some (.int 1)]) (fu (upd' g 280 (.lst [.int a, .int b, .int 1])) n)) := by kernel_rfl
    have h1 : eS k ⟨false, true⟩ (headS (dropS 1 b1)) [some (.ref 280), some (.int 6), some (.int a), some (.int b), some (.int 1)] (fu (upd' g 280 (.lst [.int a, .int b, .int 1])) n) = some (.ok (.nx [some (.ref 280), some (.int 6), some (.int a), some (.int b), some (.int 1)])
      ((fu (upd' g 280 (.lst [.int a, .int b, .int 1])) n).put 280 (.lst [.int a, .int ((b * 78013 + 41011 + 27211) % 2147483549), .int 1]))) :=
      run_asgx (v := .int ((b * 78013 + 41011 + 27211) % 2147483549)) (S' := fu (upd' g 280 (.lst [.int a, .int b, .int 1])) n) (seed_ok (K := 78013) (L := 41011) hb0 hb (by kernel_rfl) (by decide) (by decide) (by kernel_rfl) rfl rfl) (by kernel_rfl)
    have h2 : eS k ⟨false, true⟩ (headS (dropS 2 b1)) [some (.ref 280), some (.int 6), some (.int a), some (.int b), some (.int 1)] ((fu (upd' g 280 (.lst [.int a, .int b, .int 1])) n).put 280 (.lst [.int a, .int ((b * 78013 + 41011 + 27211) % 2147483549), .int 1])) = some (.ok (.nx [some (.ref 280), some (.int 6), some (.int a), some (.int b), some (.int 1)])
      (((fu (upd' g 280 (.lst [.int a, .int b, .int 1])) n).put 280 (.lst [.int a, .int ((b * 78013 + 41011 + 27211) % 2147483549), .int 1])).put 280 (.lst [.int a, .int ((b * 78013 + 41011 + 27211) % 2147483549), .int 2]))) := by kernel_rfl
    exact (run_seq h0).trans ((run_seq h1).trans (run_seq h2))
  rw [fu_put (by decide), fu_put (by decide), upd'_upd', upd'_upd'] at hc
  generalize (b * 78013 + 41011 + 27211) % 2147483549 = b2 at hc hb2
  have hq : eT k ⟨false, true⟩ (.cmp .gt (.var 2) (.con (.int 0))) [some (.ref 280), some (.int 6), some (.int a), some (.int b), some (.int 1)] (fu (upd' g 280 (.lst [.int a, .int b2, .int 2])) n) = some (.ok (decide (0 < a)) (fu (upd' g 280 (.lst [.int a, .int b2, .int 2])) n)) := by kernel_rfl
  have emod : ∀ z : Int, 0 ≤ z % ((6 : Nat) : Int) ∧ z % ((6 : Nat) : Int) < ((6 : Nat) : Int) := fun z => ⟨Int.emod_nonneg _ (by decide), Int.emod_lt_of_pos _ (by decide)⟩
  unfold b1 at hc
  simp only [dropS] at hc
  by_cases h : 0 < a
  · refine ⟨a % ((6 : Nat) : Int), a / ((6 : Nat) : Int), b2, hb2.1, hb2.2, (emod a).1, (emod a).2, ?_⟩
    refine call_of (k := k) (fl := .rt (.int (a % ((6 : Nat) : Int)))) (show dat.P 1 = some _ from rfl) (show dat.F 1 = some _ from rfl) ?_
    refine Eq.trans hc ?_
    refine run_ret ?_
    rw [run_if hq, if_pos (decide_eq_true h)]
    have s1 : eS k ⟨false, true⟩ (.asg (.ix (.var 0) (.con (.int 0))) (.bin .div (.fun_ .int (.cons (.var 2) .nil)) (.var 1))) [some (.ref 280), some (.int 6), some (.int a), some (.int b), some (.int 1)] (fu (upd' g 280 (.lst [.int a, .int b2, .int 2])) n) = some (.ok (.nx [some (.ref 280), some (.int 6), some (.int a), some (.int b), some (.int 1)]) ((fu (upd' g 280 (.lst [.int a, .int b2, .int 2])) n).put 280 (.lst [.int (a / ((6 : Nat) : Int)), .int b2, .int 2]))) := by kernel_rfl
    rw [fu_put (by decide), upd'_upd'] at s1
    rw [run_seq s1]
    exact run_ret (run_rete (by kernel_rfl))
  · refine ⟨b2 / 128 % ((6 : Nat) : Int), a, b2, hb2.1, hb2.2, (emod _).1, (emod _).2, ?_⟩
    refine call_of (k := k) (fl := .rt (.int (b2 / 128 % ((6 : Nat) : Int)))) (show dat.P 1 = some _ from rfl) (show dat.F 1 = some _ from rfl) ?_
    refine Eq.trans hc ?_
    rw [run_seq (run_no (by rw [hq, decide_eq_false h]))]
    exact run_ret (run_rete (by kernel_rfl))
theorem take2 {g : Nat → Option Cell} {n : Nat} {a b : Int} {k : Nat} (hb0 : 0 ≤ b) (hb : b < 2147483549) (hg : g 280 = some (.lst [.int a, .int b, .int 2])) : ∃ r a' b' : Int, 0 ≤ b' ∧ b' < 2147483549 ∧ 0 ≤ r ∧ r < ((9 : Nat) : Int) ∧
    cal (k + 1) 1 [.ref 280, .int 9] (fu g n) = some (.ok (.int r) (fu (upd' g 280 (.lst [.int a', .int b', .int 3])) n)) := by
  rw [← upd'_self hg]
  simp only [upd'_upd']
  have hb2 : 0 ≤ (b * 78019 + 82022 + 27211) % 2147483549 ∧ (b * 78019 + 82022 + 27211) % 2147483549 < 2147483549 := ⟨Int.emod_nonneg _ (by decide), Int.emod_lt_of_pos _ (by decide)⟩
  have hc : eS k ⟨false, true⟩ b1 [some (.ref 280), some (.int 9), none, none, none] (fu (upd' g 280 (.lst [.int a, .int b, .int 2])) n) = eS k ⟨false, true⟩ (dropS 3 b1) [some (.ref 280), some (.int 9), some (.int a), some (.int b), some (.int 2)]
      (((fu (upd' g 280 (.lst [.int a, .int b, .int 2])) n).put 280 (.lst [.int a, .int ((b * 78019 + 82022 + 27211) % 2147483549), .int 2])).put 280 (.lst [.int a, .int ((b * 78019 + 82022 + 27211) % 2147483549), .int 3])) := by
    have h0 : eS k ⟨false, true⟩ (headS b1) [some (.ref 280), some (.int 9), none, none, none] (fu (upd' g 280 (.lst [.int a, .int b, .int 2])) n) = some (.ok (.nx [some (.ref 280), some (.int 9), some (.int a), some (.int b), some (.int 2)]) (fu (upd' g 280 (.lst [.int a, .int b, .int 2])) n)) := by kernel_rfl
    have h1 : eS k ⟨false, true⟩ (headS (dropS 1 b1)) [some (.ref 280), some (.int 9), some (.int a), some (.int b), some (.int 2)] (fu (upd' g 280 (.lst [.int a, .int b, .int 2])) n) = some (.ok (.nx [some (.ref 280), some (.int 9), some (.int a), some (.int b), some (.int 2)])
      ((fu (upd' g 280 (.lst [.int a, .int b, .int 2])) n).put 280 (.lst [.int a, .int ((b * 78019 + 82022 + 27211) % 2147483549), .int 2]))) :=
      run_asgx (v := .int ((b * 78019 + 82022 + 27211) % 2147483549)) (S' := fu (upd' g 280 (.lst [.int a, .int b, .int 2])) n) (seed_ok (K := 78019) (L := 82022) hb0 hb (by kernel_rfl) (by decide) (by decide) (by kernel_rfl) rfl rfl) (by kernel_rfl)
    have h2 : eS k ⟨false, true⟩ (headS (dropS 2 b1)) [some (.ref 280), some (.int 9), some (.int a), some (.int b), some (.int 2)] ((fu (upd' g 280 (.lst [.int a, .int b, .int 2])) n).put 280 (.lst [.int a, .int ((b * 78019 + 82022 + 27211) % 2147483549), .int 2])) = some (.ok (.nx [some (.ref 280), some (.int 9), some (.int a), some (.int b), some (.int 2)])
      (((fu (upd' g 280 (.lst [.int a, .int b, .int 2])) n).put 280 (.lst [.int a, .int ((b * 78019 + 82022 + 27211) % 2147483549), .int 2])).put 280 (.lst [.int a, .int ((b * 78019 + 82022 + 27211) % 2147483549), .int 3]))) := by kernel_rfl
    exact (run_seq h0).trans ((run_seq h1).trans (run_seq h2))
  rw [fu_put (by decide), fu_put (by decide), upd'_upd', upd'_upd'] at hc
  generalize (b * 78019 + 82022 + 27211) % 2147483549 = b2 at hc hb2
  have hq : eT k ⟨false, true⟩ (.cmp .gt (.var 2) (.con (.int 0))) [some (.ref 280), some (.int 9), some (.int a), some (.int b), some (.int 2)] (fu (upd' g 280 (.lst [.int a, .int b2, .int 3])) n) = some (.ok (decide (0 < a)) (fu (upd' g 280 (.lst [.int a, .int b2, .int 3])) n)) := by kernel_rfl
  have emod : ∀ z : Int, 0 ≤ z % ((9 : Nat) : Int) ∧ z % ((9 : Nat) : Int) < ((9 : Nat) : Int) := fun z => ⟨Int.emod_nonneg _ (by decide), Int.emod_lt_of_pos _ (by decide)⟩
  unfold b1 at hc
  simp only [dropS] at hc
  by_cases h : 0 < a
  · refine ⟨a % ((9 : Nat) : Int), a / ((9 : Nat) : Int), b2, hb2.1, hb2.2, (emod a).1, (emod a).2, ?_⟩
    refine call_of (k := k) (fl := .rt (.int (a % ((9 : Nat) : Int)))) (show dat.P 1 = some _ from rfl) (show dat.F 1 = some _ from rfl) ?_
    refine Eq.trans hc ?_
    refine run_ret ?_
    rw [run_if hq, if_pos (decide_eq_true h)]
    have s1 : eS k ⟨false, true⟩ (.asg (.ix (.var 0) (.con (.int 0))) (.bin .div (.fun_ .int (.cons (.var 2) .nil)) (.var 1))) [some (.ref 280), some (.int 9), some (.int a), some (.int b), some (.int 2)] (fu (upd' g 280 (.lst [.int a, .int b2, .int 3])) n) = some (.ok (.nx [some (.ref 280), some (.int 9), some (.int a), some (.int b), some (.int 2)]) ((fu (upd' g 280 (.lst [.int a, .int b2, .int 3])) n).put 280 (.lst [.int (a / ((9 : Nat) : Int)), .int b2, .int 3]))) := by kernel_rfl
    rw [fu_put (by decide), upd'_upd'] at s1
    rw [run_seq s1]
    exact run_ret (run_rete (by kernel_rfl))
  · refine ⟨b2 / 128 % ((9 : Nat) : Int), a, b2, hb2.1, hb2.2, (emod _).1, (emod _).2, ?_⟩
    refine call_of (k := k) (fl := .rt (.int (b2 / 128 % ((9 : Nat) : Int)))) (show dat.P 1 = some _ from rfl) (show dat.F 1 = some _ from rfl) ?_
    refine Eq.trans hc ?_
    rw [run_seq (run_no (by rw [hq, decide_eq_false h]))]
    exact run_ret (run_rete (by kernel_rfl))
theorem take3 {g : Nat → Option Cell} {n : Nat} {a b : Int} {k : Nat} (hb0 : 0 ≤ b) (hb : b < 2147483549) (hg : g 280 = some (.lst [.int a, .int b, .int 3])) : ∃ r a' b' : Int, 0 ≤ b' ∧ b' < 2147483549 ∧ 0 ≤ r ∧ r < ((9 : Nat) : Int) ∧
    cal (k + 1) 1 [.ref 280, .int 9] (fu g n) = some (.ok (.int r) (fu (upd' g 280 (.lst [.int a', .int b', .int 4])) n)) := by
  rw [← upd'_self hg]
  simp only [upd'_upd']
  have hb2 : 0 ≤ (b * 78025 + 123033 + 27211) % 2147483549 ∧ (b * 78025 + 123033 + 27211) % 2147483549 < 2147483549 := ⟨Int.emod_nonneg _ (by decide), Int.emod_lt_of_pos _ (by decide)⟩
  have hc : eS k ⟨false, true⟩ b1 [some (.ref 280), some (.int 9), none, none, none] (fu (upd' g 280 (.lst [.int a, .int b, .int 3])) n) = eS k ⟨false, true⟩ (dropS 3 b1) [some (.ref 280), some (.int 9), some (.int a), some (.int b), some (.int 3)]
      (((fu (upd' g 280 (.lst [.int a, .int b, .int 3])) n).put 280 (.lst [.int a, .int ((b * 78025 + 123033 + 27211) % 2147483549), .int 3])).put 280 (.lst [.int a, .int ((b * 78025 + 123033 + 27211) % 2147483549), .int 4])) := by
    have h0 : eS k ⟨false, true⟩ (headS b1) [some (.ref 280), some (.int 9), none, none, none] (fu (upd' g 280 (.lst [.int a, .int b, .int 3])) n) = some (.ok (.nx [some (.ref 280), some (.int 9), some (.int a), some (.int b), some (.int 3)]) (fu (upd' g 280 (.lst [.int a, .int b, .int 3])) n)) := by kernel_rfl
    have h1 : eS k ⟨false, true⟩ (headS (dropS 1 b1)) [some (.ref 280), some (.int 9), some (.int a), some (.int b), some (.int 3)] (fu (upd' g 280 (.lst [.int a, .int b, .int 3])) n) = some (.ok (.nx [some (.ref 280), some (.int 9), some (.int a), some (.int b), some (.int 3)])
      ((fu (upd' g 280 (.lst [.int a, .int b, .int 3])) n).put 280 (.lst [.int a, .int ((b * 78025 + 123033 + 27211) % 2147483549), .int 3]))) :=
      run_asgx (v := .int ((b * 78025 + 123033 + 27211) % 2147483549)) (S' := fu (upd' g 280 (.lst [.int a, .int b, .int 3])) n) (seed_ok (K := 78025) (L := 123033) hb0 hb (by kernel_rfl) (by decide) (by decide) (by kernel_rfl) rfl rfl) (by kernel_rfl)
    have h2 : eS k ⟨false, true⟩ (headS (dropS 2 b1)) [some (.ref 280), some (.int 9), some (.int a), some (.int b), some (.int 3)] ((fu (upd' g 280 (.lst [.int a, .int b, .int 3])) n).put 280 (.lst [.int a, .int ((b * 78025 + 123033 + 27211) % 2147483549), .int 3])) = some (.ok (.nx [some (.ref 280), some (.int 9), some (.int a), some (.int b), some (.int 3)])
      (((fu (upd' g 280 (.lst [.int a, .int b, .int 3])) n).put 280 (.lst [.int a, .int ((b * 78025 + 123033 + 27211) % 2147483549), .int 3])).put 280 (.lst [.int a, .int ((b * 78025 + 123033 + 27211) % 2147483549), .int 4]))) := by kernel_rfl
    exact (run_seq h0).trans ((run_seq h1).trans (run_seq h2))
  rw [fu_put (by decide), fu_put (by decide), upd'_upd', upd'_upd'] at hc
  generalize (b * 78025 + 123033 + 27211) % 2147483549 = b2 at hc hb2
  have hq : eT k ⟨false, true⟩ (.cmp .gt (.var 2) (.con (.int 0))) [some (.ref 280), some (.int 9), some (.int a), some (.int b), some (.int 3)] (fu (upd' g 280 (.lst [.int a, .int b2, .int 4])) n) = some (.ok (decide (0 < a)) (fu (upd' g 280 (.lst [.int a, .int b2, .int 4])) n)) := by kernel_rfl
  have emod : ∀ z : Int, 0 ≤ z % ((9 : Nat) : Int) ∧ z % ((9 : Nat) : Int) < ((9 : Nat) : Int) := fun z => ⟨Int.emod_nonneg _ (by decide), Int.emod_lt_of_pos _ (by decide)⟩
  unfold b1 at hc
  simp only [dropS] at hc
  by_cases h : 0 < a
  · refine ⟨a % ((9 : Nat) : Int), a / ((9 : Nat) : Int), b2, hb2.1, hb2.2, (emod a).1, (emod a).2, ?_⟩
    refine call_of (k := k) (fl := .rt (.int (a % ((9 : Nat) : Int)))) (show dat.P 1 = some _ from rfl) (show dat.F 1 = some _ from rfl) ?_
    refine Eq.trans hc ?_
    refine run_ret ?_
    rw [run_if hq, if_pos (decide_eq_true h)]
    have s1 : eS k ⟨false, true⟩ (.asg (.ix (.var 0) (.con (.int 0))) (.bin .div (.fun_ .int (.cons (.var 2) .nil)) (.var 1))) [some (.ref 280), some (.int 9), some (.int a), some (.int b), some (.int 3)] (fu (upd' g 280 (.lst [.int a, .int b2, .int 4])) n) = some (.ok (.nx [some (.ref 280), some (.int 9), some (.int a), some (.int b), some (.int 3)]) ((fu (upd' g 280 (.lst [.int a, .int b2, .int 4])) n).put 280 (.lst [.int (a / ((9 : Nat) : Int)), .int b2, .int 4]))) := by kernel_rfl
    rw [fu_put (by decide), upd'_upd'] at s1
    rw [run_seq s1]
    exact run_ret (run_rete (by kernel_rfl))
  · refine ⟨b2 / 128 % ((9 : Nat) : Int), a, b2, hb2.1, hb2.2, (emod _).1, (emod _).2, ?_⟩
    refine call_of (k := k) (fl := .rt (.int (b2 / 128 % ((9 : Nat) : Int)))) (show dat.P 1 = some _ from rfl) (show dat.F 1 = some _ from rfl) ?_
    refine Eq.trans hc ?_
    rw [run_seq (run_no (by rw [hq, decide_eq_false h]))]
    exact run_ret (run_rete (by kernel_rfl))
theorem c1_316 {g : Nat → Option Cell} {dd : Nat} {pl x w one two : D} {as : List D} : Runs (eT 98 GG C1 (envI dd pl x 0 w one two (.ex 1 as))) g 316 false 320 :=
  Runs.of (cs := [.lst ((List.range 13).map fun i => .bl (Nat.beq (i + 1) 1)), .lst ((List.range 11).map fun i => .bl (Nat.beq (i + 14) 1)), .lst (((List.range 13).map fun i => .bl (Nat.beq (i + 1) 1)) ++ (List.range 11).map fun i => .bl (Nat.beq (i + 14) 1)), .lst ((List.range 24).map fun i => .bl (Nat.beq i 0))]) (by kernel_rfl) (by decide) rfl
theorem c1_320 {g : Nat → Option Cell} {dd : Nat} {pl x w one two : D} {as : List D} : Runs (eT 98 GG C1 (envI dd pl x 0 w one two (.ex 1 as))) g 320 false 324 :=
  Runs.of (cs := [.lst ((List.range 13).map fun i => .bl (Nat.beq (i + 1) 1)), .lst ((List.range 11).map fun i => .bl (Nat.beq (i + 14) 1)), .lst (((List.range 13).map fun i => .bl (Nat.beq (i + 1) 1)) ++ (List.range 11).map fun i => .bl (Nat.beq (i + 14) 1)), .lst ((List.range 24).map fun i => .bl (Nat.beq i 0))]) (by kernel_rfl) (by decide) rfl
theorem c1_324 {g : Nat → Option Cell} {dd : Nat} {pl x w one two : D} {as : List D} : Runs (eT 98 GG C1 (envI dd pl x 1 w one two (.ex 2 as))) g 324 false 328 :=
  Runs.of (cs := [.lst ((List.range 13).map fun i => .bl (Nat.beq (i + 1) 2)), .lst ((List.range 11).map fun i => .bl (Nat.beq (i + 14) 2)), .lst (((List.range 13).map fun i => .bl (Nat.beq (i + 1) 2)) ++ (List.range 11).map fun i => .bl (Nat.beq (i + 14) 2)), .lst ((List.range 24).map fun i => .bl (Nat.beq i 1))]) (by kernel_rfl) (by decide) rfl
theorem c1_328 {g : Nat → Option Cell} {dd : Nat} {pl x w one two : D} {as : List D} : Runs (eT 98 GG C1 (envI dd pl x 1 w one two (.ex 2 as))) g 328 false 332 :=
  Runs.of (cs := [.lst ((List.range 13).map fun i => .bl (Nat.beq (i + 1) 2)), .lst ((List.range 11).map fun i => .bl (Nat.beq (i + 14) 2)), .lst (((List.range 13).map fun i => .bl (Nat.beq (i + 1) 2)) ++ (List.range 11).map fun i => .bl (Nat.beq (i + 14) 2)), .lst ((List.range 24).map fun i => .bl (Nat.beq i 1))]) (by kernel_rfl) (by decide) rfl
theorem c1_332 {g : Nat → Option Cell} {dd : Nat} {pl x w one two : D} {as : List D} : Runs (eT 98 GG C1 (envI dd pl x 2 w one two (.ex 3 as))) g 332 false 336 :=
  Runs.of (cs := [.lst ((List.range 13).map fun i => .bl (Nat.beq (i + 1) 3)), .lst ((List.range 11).map fun i => .bl (Nat.beq (i + 14) 3)), .lst (((List.range 13).map fun i => .bl (Nat.beq (i + 1) 3)) ++ (List.range 11).map fun i => .bl (Nat.beq (i + 14) 3)), .lst ((List.range 24).map fun i => .bl (Nat.beq i 2))]) (by kernel_rfl) (by decide) rfl
theorem c1_336 {g : Nat → Option Cell} {dd : Nat} {pl x w one two : D} {as : List D} : Runs (eT 98 GG C1 (envI dd pl x 2 w one two (.ex 3 as))) g 336 false 340 :=
  Runs.of (cs := [.lst ((List.range 13).map fun i => .bl (Nat.beq (i + 1) 3)), .lst ((List.range 11).map fun i => .bl (Nat.beq (i + 14) 3)), .lst (((List.range 13).map fun i => .bl (Nat.beq (i + 1) 3)) ++ (List.range 11).map fun i => .bl (Nat.beq (i + 14) 3)), .lst ((List.range 24).map fun i => .bl (Nat.beq i 2))]) (by kernel_rfl) (by decide) rfl
theorem c1_340 {g : Nat → Option Cell} {dd : Nat} {pl x w one two : D} {as : List D} : Runs (eT 98 GG C1 (envI dd pl x 3 w one two (.ex 4 as))) g 340 false 344 :=
  Runs.of (cs := [.lst ((List.range 13).map fun i => .bl (Nat.beq (i + 1) 4)), .lst ((List.range 11).map fun i => .bl (Nat.beq (i + 14) 4)), .lst (((List.range 13).map fun i => .bl (Nat.beq (i + 1) 4)) ++ (List.range 11).map fun i => .bl (Nat.beq (i + 14) 4)), .lst ((List.range 24).map fun i => .bl (Nat.beq i 3))]) (by kernel_rfl) (by decide) rfl
theorem c1_344 {g : Nat → Option Cell} {dd : Nat} {pl x w one two : D} {as : List D} : Runs (eT 98 GG C1 (envI dd pl x 3 w one two (.ex 4 as))) g 344 false 348 :=
  Runs.of (cs := [.lst ((List.range 13).map fun i => .bl (Nat.beq (i + 1) 4)), .lst ((List.range 11).map fun i => .bl (Nat.beq (i + 14) 4)), .lst (((List.range 13).map fun i => .bl (Nat.beq (i + 1) 4)) ++ (List.range 11).map fun i => .bl (Nat.beq (i + 14) 4)), .lst ((List.range 24).map fun i => .bl (Nat.beq i 3))]) (by kernel_rfl) (by decide) rfl
theorem c1_348 {g : Nat → Option Cell} {dd : Nat} {pl x w one two : D} {as : List D} : Runs (eT 98 GG C1 (envI dd pl x 4 w one two (.ex 5 as))) g 348 false 352 :=
  Runs.of (cs := [.lst ((List.range 13).map fun i => .bl (Nat.beq (i + 1) 5)), .lst ((List.range 11).map fun i => .bl (Nat.beq (i + 14) 5)), .lst (((List.range 13).map fun i => .bl (Nat.beq (i + 1) 5)) ++ (List.range 11).map fun i => .bl (Nat.beq (i + 14) 5)), .lst ((List.range 24).map fun i => .bl (Nat.beq i 4))]) (by kernel_rfl) (by decide) rfl
theorem c1_352 {g : Nat → Option Cell} {dd : Nat} {pl x w one two : D} {as : List D} : Runs (eT 98 GG C1 (envI dd pl x 4 w one two (.ex 5 as))) g 352 false 356 :=
  Runs.of (cs := [.lst ((List.range 13).map fun i => .bl (Nat.beq (i + 1) 5)), .lst ((List.range 11).map fun i => .bl (Nat.beq (i + 14) 5)), .lst (((List.range 13).map fun i => .bl (Nat.beq (i + 1) 5)) ++ (List.range 11).map fun i => .bl (Nat.beq (i + 14) 5)), .lst ((List.range 24).map fun i => .bl (Nat.beq i 4))]) (by kernel_rfl) (by decide) rfl
theorem c1_356 {g : Nat → Option Cell} {dd : Nat} {pl x w one two : D} {as : List D} : Runs (eT 98 GG C1 (envI dd pl x 5 w one two (.ex 6 as))) g 356 false 360 :=
  Runs.of (cs := [.lst ((List.range 13).map fun i => .bl (Nat.beq (i + 1) 6)), .lst ((List.range 11).map fun i => .bl (Nat.beq (i + 14) 6)), .lst (((List.range 13).map fun i => .bl (Nat.beq (i + 1) 6)) ++ (List.range 11).map fun i => .bl (Nat.beq (i + 14) 6)), .lst ((List.range 24).map fun i => .bl (Nat.beq i 5))]) (by kernel_rfl) (by decide) rfl
theorem c1_360 {g : Nat → Option Cell} {dd : Nat} {pl x w one two : D} {as : List D} : Runs (eT 98 GG C1 (envI dd pl x 5 w one two (.ex 6 as))) g 360 false 364 :=
  Runs.of (cs := [.lst ((List.range 13).map fun i => .bl (Nat.beq (i + 1) 6)), .lst ((List.range 11).map fun i => .bl (Nat.beq (i + 14) 6)), .lst (((List.range 13).map fun i => .bl (Nat.beq (i + 1) 6)) ++ (List.range 11).map fun i => .bl (Nat.beq (i + 14) 6)), .lst ((List.range 24).map fun i => .bl (Nat.beq i 5))]) (by kernel_rfl) (by decide) rfl
theorem c1_364 {g : Nat → Option Cell} {dd : Nat} {pl x w one two : D} {as : List D} : Runs (eT 98 GG C1 (envI dd pl x 6 w one two (.ex 7 as))) g 364 false 368 :=
  Runs.of (cs := [.lst ((List.range 13).map fun i => .bl (Nat.beq (i + 1) 7)), .lst ((List.range 11).map fun i => .bl (Nat.beq (i + 14) 7)), .lst (((List.range 13).map fun i => .bl (Nat.beq (i + 1) 7)) ++ (List.range 11).map fun i => .bl (Nat.beq (i + 14) 7)), .lst ((List.range 24).map fun i => .bl (Nat.beq i 6))]) (by kernel_rfl) (by decide) rfl
theorem c1_368 {g : Nat → Option Cell} {dd : Nat} {pl x w one two : D} {as : List D} : Runs (eT 98 GG C1 (envI dd pl x 6 w one two (.ex 7 as))) g 368 false 372 :=
  Runs.of (cs := [.lst ((List.range 13).map fun i => .bl (Nat.beq (i + 1) 7)), .lst ((List.range 11).map fun i => .bl (Nat.beq (i + 14) 7)), .lst (((List.range 13).map fun i => .bl (Nat.beq (i + 1) 7)) ++ (List.range 11).map fun i => .bl (Nat.beq (i + 14) 7)), .lst ((List.range 24).map fun i => .bl (Nat.beq i 6))]) (by kernel_rfl) (by decide) rfl
theorem c1_372 {g : Nat → Option Cell} {dd : Nat} {pl x w one two : D} {as : List D} : Runs (eT 98 GG C1 (envI dd pl x 7 w one two (.ex 8 as))) g 372 false 376 :=
  Runs.of (cs := [.lst ((List.range 13).map fun i => .bl (Nat.beq (i + 1) 8)), .lst ((List.range 11).map fun i => .bl (Nat.beq (i + 14) 8)), .lst (((List.range 13).map fun i => .bl (Nat.beq (i + 1) 8)) ++ (List.range 11).map fun i => .bl (Nat.beq (i + 14) 8)), .lst ((List.range 24).map fun i => .bl (Nat.beq i 7))]) (by kernel_rfl) (by decide) rfl
theorem c1_376 {g : Nat → Option Cell} {dd : Nat} {pl x w one two : D} {as : List D} : Runs (eT 98 GG C1 (envI dd pl x 7 w one two (.ex 8 as))) g 376 false 380 :=
  Runs.of (cs := [.lst ((List.range 13).map fun i => .bl (Nat.beq (i + 1) 8)), .lst ((List.range 11).map fun i => .bl (Nat.beq (i + 14) 8)), .lst (((List.range 13).map fun i => .bl (Nat.beq (i + 1) 8)) ++ (List.range 11).map fun i => .bl (Nat.beq (i + 14) 8)), .lst ((List.range 24).map fun i => .bl (Nat.beq i 7))]) (by kernel_rfl) (by decide) rfl
theorem c1_380 {g : Nat → Option Cell} {dd : Nat} {pl x w one two : D} {as : List D} : Runs (eT 98 GG C1 (envI dd pl x 8 w one two (.ex 9 as))) g 380 false 384 :=
  Runs.of (cs := [.lst ((List.range 13).map fun i => .bl (Nat.beq (i + 1) 9)), .lst ((List.range 11).map fun i => .bl (Nat.beq (i + 14) 9)), .lst (((List.range 13).map fun i => .bl (Nat.beq (i + 1) 9)) ++ (List.range 11).map fun i => .bl (Nat.beq (i + 14) 9)), .lst ((List.range 24).map fun i => .bl (Nat.beq i 8))]) (by kernel_rfl) (by decide) rfl
theorem c1_384 {g : Nat → Option Cell} {dd : Nat} {pl x w one two : D} {as : List D} : Runs (eT 98 GG C1 (envI dd pl x 8 w one two (.ex 9 as))) g 384 false 388 :=
  Runs.of (cs := [.lst ((List.range 13).map fun i => .bl (Nat.beq (i + 1) 9)), .lst ((List.range 11).map fun i => .bl (Nat.beq (i + 14) 9)), .lst (((List.range 13).map fun i => .bl (Nat.beq (i + 1) 9)) ++ (List.range 11).map fun i => .bl (Nat.beq (i + 14) 9)), .lst ((List.range 24).map fun i => .bl (Nat.beq i 8))]) (by kernel_rfl) (by decide) rfl
theorem c1_388 {g : Nat → Option Cell} {dd : Nat} {pl x w one two : D} {as : List D} : Runs (eT 98 GG C1 (envI dd pl x 9 w one two (.ex 10 as))) g 388 false 392 :=
  Runs.of (cs := [.lst ((List.range 13).map fun i => .bl (Nat.beq (i + 1) 10)), .lst ((List.range 11).map fun i => .bl (Nat.beq (i + 14) 10)), .lst (((List.range 13).map fun i => .bl (Nat.beq (i + 1) 10)) ++ (List.range 11).map fun i => .bl (Nat.beq (i + 14) 10)), .lst ((List.range 24).map fun i => .bl (Nat.beq i 9))]) (by kernel_rfl) (by decide) rfl
theorem c1_392 {g : Nat → Option Cell} {dd : Nat} {pl x w one two : D} {as : List D} : Runs (eT 98 GG C1 (envI dd pl x 9 w one two (.ex 10 as))) g 392 false 396 :=
  Runs.of (cs := [.lst ((List.range 13).map fun i => .bl (Nat.beq (i + 1) 10)), .lst ((List.range 11).map fun i => .bl (Nat.beq (i + 14) 10)), .lst (((List.range 13).map fun i => .bl (Nat.beq (i + 1) 10)) ++ (List.range 11).map fun i => .bl (Nat.beq (i + 14) 10)), .lst ((List.range 24).map fun i => .bl (Nat.beq i 9))]) (by kernel_rfl) (by decide) rfl
theorem c1_396 {g : Nat → Option Cell} {dd : Nat} {pl x w one two : D} {as : List D} : Runs (eT 98 GG C1 (envI dd pl x 10 w one two (.ex 11 as))) g 396 false 400 :=
  Runs.of (cs := [.lst ((List.range 13).map fun i => .bl (Nat.beq (i + 1) 11)), .lst ((List.range 11).map fun i => .bl (Nat.beq (i + 14) 11)), .lst (((List.range 13).map fun i => .bl (Nat.beq (i + 1) 11)) ++ (List.range 11).map fun i => .bl (Nat.beq (i + 14) 11)), .lst ((List.range 24).map fun i => .bl (Nat.beq i 10))]) (by kernel_rfl) (by decide) rfl
theorem c1_400 {g : Nat → Option Cell} {dd : Nat} {pl x w one two : D} {as : List D} : Runs (eT 98 GG C1 (envI dd pl x 10 w one two (.ex 11 as))) g 400 false 404 :=
  Runs.of (cs := [.lst ((List.range 13).map fun i => .bl (Nat.beq (i + 1) 11)), .lst ((List.range 11).map fun i => .bl (Nat.beq (i + 14) 11)), .lst (((List.range 13).map fun i => .bl (Nat.beq (i + 1) 11)) ++ (List.range 11).map fun i => .bl (Nat.beq (i + 14) 11)), .lst ((List.range 24).map fun i => .bl (Nat.beq i 10))]) (by kernel_rfl) (by decide) rfl
theorem c1_404 {g : Nat → Option Cell} {dd : Nat} {pl x w one two : D} {as : List D} : Runs (eT 98 GG C1 (envI dd pl x 11 w one two (.ex 12 as))) g 404 false 408 :=
  Runs.of (cs := [.lst ((List.range 13).map fun i => .bl (Nat.beq (i + 1) 12)), .lst ((List.range 11).map fun i => .bl (Nat.beq (i + 14) 12)), .lst (((List.range 13).map fun i => .bl (Nat.beq (i + 1) 12)) ++ (List.range 11).map fun i => .bl (Nat.beq (i + 14) 12)), .lst ((List.range 24).map fun i => .bl (Nat.beq i 11))]) (by kernel_rfl) (by decide) rfl
theorem c1_408 {g : Nat → Option Cell} {dd : Nat} {pl x w one two : D} {as : List D} : Runs (eT 98 GG C1 (envI dd pl x 11 w one two (.ex 12 as))) g 408 false 412 :=
  Runs.of (cs := [.lst ((List.range 13).map fun i => .bl (Nat.beq (i + 1) 12)), .lst ((List.range 11).map fun i => .bl (Nat.beq (i + 14) 12)), .lst (((List.range 13).map fun i => .bl (Nat.beq (i + 1) 12)) ++ (List.range 11).map fun i => .bl (Nat.beq (i + 14) 12)), .lst ((List.range 24).map fun i => .bl (Nat.beq i 11))]) (by kernel_rfl) (by decide) rfl
theorem c1_412 {g : Nat → Option Cell} {dd : Nat} {pl x w one two : D} {as : List D} : Runs (eT 98 GG C1 (envI dd pl x 12 w one two (.ex 13 as))) g 412 false 416 :=
  Runs.of (cs := [.lst ((List.range 13).map fun i => .bl (Nat.beq (i + 1) 13)), .lst ((List.range 11).map fun i => .bl (Nat.beq (i + 14) 13)), .lst (((List.range 13).map fun i => .bl (Nat.beq (i + 1) 13)) ++ (List.range 11).map fun i => .bl (Nat.beq (i + 14) 13)), .lst ((List.range 24).map fun i => .bl (Nat.beq i 12))]) (by kernel_rfl) (by decide) rfl
theorem c1_416 {g : Nat → Option Cell} {dd : Nat} {pl x w one two : D} {as : List D} : Runs (eT 98 GG C1 (envI dd pl x 12 w one two (.ex 13 as))) g 416 false 420 :=
  Runs.of (cs := [.lst ((List.range 13).map fun i => .bl (Nat.beq (i + 1) 13)), .lst ((List.range 11).map fun i => .bl (Nat.beq (i + 14) 13)), .lst (((List.range 13).map fun i => .bl (Nat.beq (i + 1) 13)) ++ (List.range 11).map fun i => .bl (Nat.beq (i + 14) 13)), .lst ((List.range 24).map fun i => .bl (Nat.beq i 12))]) (by kernel_rfl) (by decide) rfl
theorem c1_420 {g : Nat → Option Cell} {dd : Nat} {pl x w one two : D} {as : List D} : Runs (eT 98 GG C1 (envI dd pl x 13 w one two (.ex 14 as))) g 420 false 424 :=
  Runs.of (cs := [.lst ((List.range 13).map fun i => .bl (Nat.beq (i + 1) 14)), .lst ((List.range 11).map fun i => .bl (Nat.beq (i + 14) 14)), .lst (((List.range 13).map fun i => .bl (Nat.beq (i + 1) 14)) ++ (List.range 11).map fun i => .bl (Nat.beq (i + 14) 14)), .lst ((List.range 24).map fun i => .bl (Nat.beq i 13))]) (by kernel_rfl) (by decide) rfl
theorem c1_424 {g : Nat → Option Cell} {dd : Nat} {pl x w one two : D} {as : List D} : Runs (eT 98 GG C1 (envI dd pl x 13 w one two (.ex 14 as))) g 424 false 428 :=
  Runs.of (cs := [.lst ((List.range 13).map fun i => .bl (Nat.beq (i + 1) 14)), .lst ((List.range 11).map fun i => .bl (Nat.beq (i + 14) 14)), .lst (((List.range 13).map fun i => .bl (Nat.beq (i + 1) 14)) ++ (List.range 11).map fun i => .bl (Nat.beq (i + 14) 14)), .lst ((List.range 24).map fun i => .bl (Nat.beq i 13))]) (by kernel_rfl) (by decide) rfl
theorem c1_428 {g : Nat → Option Cell} {dd : Nat} {pl x w one two : D} {as : List D} : Runs (eT 98 GG C1 (envI dd pl x 14 w one two (.ex 15 as))) g 428 false 432 :=
  Runs.of (cs := [.lst ((List.range 13).map fun i => .bl (Nat.beq (i + 1) 15)), .lst ((List.range 11).map fun i => .bl (Nat.beq (i + 14) 15)), .lst (((List.range 13).map fun i => .bl (Nat.beq (i + 1) 15)) ++ (List.range 11).map fun i => .bl (Nat.beq (i + 14) 15)), .lst ((List.range 24).map fun i => .bl (Nat.beq i 14))]) (by kernel_rfl) (by decide) rfl
theorem c1_433 {g : Nat → Option Cell} {dd : Nat} {pl x w one two : D} {as : List D} : Runs (eT 98 GG C1 (envI dd pl x 14 w one two (.ex 15 as))) g 433 false 437 :=
  Runs.of (cs := [.lst ((List.range 13).map fun i => .bl (Nat.beq (i + 1) 15)), .lst ((List.range 11).map fun i => .bl (Nat.beq (i + 14) 15)), .lst (((List.range 13).map fun i => .bl (Nat.beq (i + 1) 15)) ++ (List.range 11).map fun i => .bl (Nat.beq (i + 14) 15)), .lst ((List.range 24).map fun i => .bl (Nat.beq i 14))]) (by kernel_rfl) (by decide) rfl
theorem c1_438 {g : Nat → Option Cell} {dd : Nat} {pl x w one two : D} {as : List D} : Runs (eT 98 GG C1 (envI dd pl x 15 w one two (.ex 16 as))) g 438 false 442 :=
  Runs.of (cs := [.lst ((List.range 13).map fun i => .bl (Nat.beq (i + 1) 16)), .lst ((List.range 11).map fun i => .bl (Nat.beq (i + 14) 16)), .lst (((List.range 13).map fun i => .bl (Nat.beq (i + 1) 16)) ++ (List.range 11).map fun i => .bl (Nat.beq (i + 14) 16)), .lst ((List.range 24).map fun i => .bl (Nat.beq i 15))]) (by kernel_rfl) (by decide) rfl
theorem c1_442 {g : Nat → Option Cell} {dd : Nat} {pl x w one two : D} {as : List D} : Runs (eT 98 GG C1 (envI dd pl x 15 w one two (.ex 16 as))) g 442 false 446 :=
  Runs.of (cs := [.lst ((List.range 13).map fun i => .bl (Nat.beq (i + 1) 16)), .lst ((List.range 11).map fun i => .bl (Nat.beq (i + 14) 16)), .lst (((List.range 13).map fun i => .bl (Nat.beq (i + 1) 16)) ++ (List.range 11).map fun i => .bl (Nat.beq (i + 14) 16)), .lst ((List.range 24).map fun i => .bl (Nat.beq i 15))]) (by kernel_rfl) (by decide) rfl
theorem c1_446 {g : Nat → Option Cell} {dd : Nat} {pl x w one two : D} {as : List D} : Runs (eT 98 GG C1 (envI dd pl x 16 w one two (.ex 17 as))) g 446 false 450 :=
  Runs.of (cs := [.lst ((List.range 13).map fun i => .bl (Nat.beq (i + 1) 17)), .lst ((List.range 11).map fun i => .bl (Nat.beq (i + 14) 17)), .lst (((List.range 13).map fun i => .bl (Nat.beq (i + 1) 17)) ++ (List.range 11).map fun i => .bl (Nat.beq (i + 14) 17)), .lst ((List.range 24).map fun i => .bl (Nat.beq i 16))]) (by kernel_rfl) (by decide) rfl
theorem c1_450 {g : Nat → Option Cell} {dd : Nat} {pl x w one two : D} {as : List D} : Runs (eT 98 GG C1 (envI dd pl x 16 w one two (.ex 17 as))) g 450 false 454 :=
  Runs.of (cs := [.lst ((List.range 13).map fun i => .bl (Nat.beq (i + 1) 17)), .lst ((List.range 11).map fun i => .bl (Nat.beq (i + 14) 17)), .lst (((List.range 13).map fun i => .bl (Nat.beq (i + 1) 17)) ++ (List.range 11).map fun i => .bl (Nat.beq (i + 14) 17)), .lst ((List.range 24).map fun i => .bl (Nat.beq i 16))]) (by kernel_rfl) (by decide) rfl
theorem c1_454 {g : Nat → Option Cell} {dd : Nat} {pl x w one two : D} {as : List D} : Runs (eT 98 GG C1 (envI dd pl x 17 w one two (.ex 18 as))) g 454 false 458 :=
  Runs.of (cs := [.lst ((List.range 13).map fun i => .bl (Nat.beq (i + 1) 18)), .lst ((List.range 11).map fun i => .bl (Nat.beq (i + 14) 18)), .lst (((List.range 13).map fun i => .bl (Nat.beq (i + 1) 18)) ++ (List.range 11).map fun i => .bl (Nat.beq (i + 14) 18)), .lst ((List.range 24).map fun i => .bl (Nat.beq i 17))]) (by kernel_rfl) (by decide) rfl
theorem c1_458 {g : Nat → Option Cell} {dd : Nat} {pl x w one two : D} {as : List D} : Runs (eT 98 GG C1 (envI dd pl x 17 w one two (.ex 18 as))) g 458 false 462 :=
  Runs.of (cs := [.lst ((List.range 13).map fun i => .bl (Nat.beq (i + 1) 18)), .lst ((List.range 11).map fun i => .bl (Nat.beq (i + 14) 18)), .lst (((List.range 13).map fun i => .bl (Nat.beq (i + 1) 18)) ++ (List.range 11).map fun i => .bl (Nat.beq (i + 14) 18)), .lst ((List.range 24).map fun i => .bl (Nat.beq i 17))]) (by kernel_rfl) (by decide) rfl
theorem c1_462 {g : Nat → Option Cell} {dd : Nat} {pl x w one two : D} {as : List D} : Runs (eT 98 GG C1 (envI dd pl x 18 w one two (.ex 19 as))) g 462 false 466 :=
  Runs.of (cs := [.lst ((List.range 13).map fun i => .bl (Nat.beq (i + 1) 19)), .lst ((List.range 11).map fun i => .bl (Nat.beq (i + 14) 19)), .lst (((List.range 13).map fun i => .bl (Nat.beq (i + 1) 19)) ++ (List.range 11).map fun i => .bl (Nat.beq (i + 14) 19)), .lst ((List.range 24).map fun i => .bl (Nat.beq i 18))]) (by kernel_rfl) (by decide) rfl
theorem c1_466 {g : Nat → Option Cell} {dd : Nat} {pl x w one two : D} {as : List D} : Runs (eT 98 GG C1 (envI dd pl x 18 w one two (.ex 19 as))) g 466 false 470 :=
  Runs.of (cs := [.lst ((List.range 13).map fun i => .bl (Nat.beq (i + 1) 19)), .lst ((List.range 11).map fun i => .bl (Nat.beq (i + 14) 19)), .lst (((List.range 13).map fun i => .bl (Nat.beq (i + 1) 19)) ++ (List.range 11).map fun i => .bl (Nat.beq (i + 14) 19)), .lst ((List.range 24).map fun i => .bl (Nat.beq i 18))]) (by kernel_rfl) (by decide) rfl
theorem c1_470 {g : Nat → Option Cell} {dd : Nat} {pl x w one two : D} {as : List D} : Runs (eT 98 GG C1 (envI dd pl x 19 w one two (.ex 20 as))) g 470 false 474 :=
  Runs.of (cs := [.lst ((List.range 13).map fun i => .bl (Nat.beq (i + 1) 20)), .lst ((List.range 11).map fun i => .bl (Nat.beq (i + 14) 20)), .lst (((List.range 13).map fun i => .bl (Nat.beq (i + 1) 20)) ++ (List.range 11).map fun i => .bl (Nat.beq (i + 14) 20)), .lst ((List.range 24).map fun i => .bl (Nat.beq i 19))]) (by kernel_rfl) (by decide) rfl
theorem c1_474 {g : Nat → Option Cell} {dd : Nat} {pl x w one two : D} {as : List D} : Runs (eT 98 GG C1 (envI dd pl x 19 w one two (.ex 20 as))) g 474 false 478 :=
  Runs.of (cs := [.lst ((List.range 13).map fun i => .bl (Nat.beq (i + 1) 20)), .lst ((List.range 11).map fun i => .bl (Nat.beq (i + 14) 20)), .lst (((List.range 13).map fun i => .bl (Nat.beq (i + 1) 20)) ++ (List.range 11).map fun i => .bl (Nat.beq (i + 14) 20)), .lst ((List.range 24).map fun i => .bl (Nat.beq i 19))]) (by kernel_rfl) (by decide) rfl
theorem c1_478 {g : Nat → Option Cell} {dd : Nat} {pl x w one two : D} {as : List D} : Runs (eT 98 GG C1 (envI dd pl x 20 w one two (.ex 21 as))) g 478 false 482 :=
  Runs.of (cs := [.lst ((List.range 13).map fun i => .bl (Nat.beq (i + 1) 21)), .lst ((List.range 11).map fun i => .bl (Nat.beq (i + 14) 21)), .lst (((List.range 13).map fun i => .bl (Nat.beq (i + 1) 21)) ++ (List.range 11).map fun i => .bl (Nat.beq (i + 14) 21)), .lst ((List.range 24).map fun i => .bl (Nat.beq i 20))]) (by kernel_rfl) (by decide) rfl
theorem c1_482 {g : Nat → Option Cell} {dd : Nat} {pl x w one two : D} {as : List D} : Runs (eT 98 GG C1 (envI dd pl x 20 w one two (.ex 21 as))) g 482 false 486 :=
  Runs.of (cs := [.lst ((List.range 13).map fun i => .bl (Nat.beq (i + 1) 21)), .lst ((List.range 11).map fun i => .bl (Nat.beq (i + 14) 21)), .lst (((List.range 13).map fun i => .bl (Nat.beq (i + 1) 21)) ++ (List.range 11).map fun i => .bl (Nat.beq (i + 14) 21)), .lst ((List.range 24).map fun i => .bl (Nat.beq i 20))]) (by kernel_rfl) (by decide) rfl
theorem c1_486 {g : Nat → Option Cell} {dd : Nat} {pl x w one two : D} {as : List D} : Runs (eT 98 GG C1 (envI dd pl x 21 w one two (.ex 22 as))) g 486 false 490 :=
  Runs.of (cs := [.lst ((List.range 13).map fun i => .bl (Nat.beq (i + 1) 22)), .lst ((List.range 11).map fun i => .bl (Nat.beq (i + 14) 22)), .lst (((List.range 13).map fun i => .bl (Nat.beq (i + 1) 22)) ++ (List.range 11).map fun i => .bl (Nat.beq (i + 14) 22)), .lst ((List.range 24).map fun i => .bl (Nat.beq i 21))]) (by kernel_rfl) (by decide) rfl
theorem c1_490 {g : Nat → Option Cell} {dd : Nat} {pl x w one two : D} {as : List D} : Runs (eT 98 GG C1 (envI dd pl x 21 w one two (.ex 22 as))) g 490 false 494 :=
  Runs.of (cs := [.lst ((List.range 13).map fun i => .bl (Nat.beq (i + 1) 22)), .lst ((List.range 11).map fun i => .bl (Nat.beq (i + 14) 22)), .lst (((List.range 13).map fun i => .bl (Nat.beq (i + 1) 22)) ++ (List.range 11).map fun i => .bl (Nat.beq (i + 14) 22)), .lst ((List.range 24).map fun i => .bl (Nat.beq i 21))]) (by kernel_rfl) (by decide) rfl
theorem c1_494 {g : Nat → Option Cell} {dd : Nat} {pl x w one two : D} {as : List D} : Runs (eT 98 GG C1 (envI dd pl x 22 w one two (.ex 23 as))) g 494 false 498 :=
  Runs.of (cs := [.lst ((List.range 13).map fun i => .bl (Nat.beq (i + 1) 23)), .lst ((List.range 11).map fun i => .bl (Nat.beq (i + 14) 23)), .lst (((List.range 13).map fun i => .bl (Nat.beq (i + 1) 23)) ++ (List.range 11).map fun i => .bl (Nat.beq (i + 14) 23)), .lst ((List.range 24).map fun i => .bl (Nat.beq i 22))]) (by kernel_rfl) (by decide) rfl
theorem c1_498 {g : Nat → Option Cell} {dd : Nat} {pl x w one two : D} {as : List D} : Runs (eT 98 GG C1 (envI dd pl x 22 w one two (.ex 23 as))) g 498 false 502 :=
  Runs.of (cs := [.lst ((List.range 13).map fun i => .bl (Nat.beq (i + 1) 23)), .lst ((List.range 11).map fun i => .bl (Nat.beq (i + 14) 23)), .lst (((List.range 13).map fun i => .bl (Nat.beq (i + 1) 23)) ++ (List.range 11).map fun i => .bl (Nat.beq (i + 14) 23)), .lst ((List.range 24).map fun i => .bl (Nat.beq i 22))]) (by kernel_rfl) (by decide) rfl
theorem c1_502 {g : Nat → Option Cell} {dd : Nat} {pl x w one two : D} {as : List D} : Runs (eT 98 GG C1 (envI dd pl x 23 w one two (.ex 24 as))) g 502 false 506 :=
  Runs.of (cs := [.lst ((List.range 13).map fun i => .bl (Nat.beq (i + 1) 24)), .lst ((List.range 11).map fun i => .bl (Nat.beq (i + 14) 24)), .lst (((List.range 13).map fun i => .bl (Nat.beq (i + 1) 24)) ++ (List.range 11).map fun i => .bl (Nat.beq (i + 14) 24)), .lst ((List.range 24).map fun i => .bl (Nat.beq i 23))]) (by kernel_rfl) (by decide) rfl
theorem c1_506 {g : Nat → Option Cell} {dd : Nat} {pl x w one two : D} {as : List D} : Runs (eT 98 GG C1 (envI dd pl x 23 w one two (.ex 24 as))) g 506 false 510 :=
  Runs.of (cs := [.lst ((List.range 13).map fun i => .bl (Nat.beq (i + 1) 24)), .lst ((List.range 11).map fun i => .bl (Nat.beq (i + 14) 24)), .lst (((List.range 13).map fun i => .bl (Nat.beq (i + 1) 24)) ++ (List.range 11).map fun i => .bl (Nat.beq (i + 14) 24)), .lst ((List.range 24).map fun i => .bl (Nat.beq i 23))]) (by kernel_rfl) (by decide) rfl
abbrev e0 : G.Env := [some (.ref 280), none, none, none, none, none, none, none, none, none, none, none]
abbrev e1 : G.Env := [some (.ref 280), some (.tup (plL 281)), none, none, none, none, none, none, none, none, none, none]
abbrev e2 (x : D) (s : Option D) : G.Env := [some (.ref 280), some (.tup (plL 281)), some x, s, none, none, none, none, none, none, none, none]
theorem s0_ok {g : Nat → Option Cell} : eS 98 GG (headS b9) e0 (fu g 281) = some (.ok (.nx e0) (pushL (fu g 281) [.lst ((List.range 13).map fun i => .bl (Nat.beq (i + 1) 99)), .lst ((List.range 11).map fun i => .bl (Nat.beq (i + 14) 99)), .lst (((List.range 13).map fun i => .bl (Nat.beq (i + 1) 99)) ++ (List.range 11).map fun i => .bl (Nat.beq (i + 14) 99))])) := by kernel_rfl
theorem s1_ok {g : Nat → Option Cell} : eS 98 GG (headS (dropS 1 b9)) e0 (fu g 284) = some (.ok (.nx e1) (pushL (fu g 284) [.lst [], .dct []])) := by kernel_rfl
theorem s3_args {g : Nat → Option Cell} {x : D} : eL 98 GG (argS (headS (dropS 3 b9))) (e2 x none) (fu g 286) = some (.ok [.ref 280, .tup (plM 281 x)] (pushL (fu g 286) [.lst [x]])) := by kernel_rfl
theorem s5_it {g : Nat → Option Cell} {x : D} : evI dat.tab dat.P (cal 98) dat.cst GG (forI (headS (dropS 5 b9))) (e2 x (some (.int 0))) (fu g 287) = some (.ok (.lst 315) (pushL (fu g 287) (items x 287))) := by kernel_rfl
theorem s7_ok {g : Nat → Option Cell} {o0 o1 o2 o3 o4 o5 o6 o9 : Option D} : eS 98 GG (headS (dropS 7 b9)) [o0, o1, o2, o3, o4, o5, o6, some (.ref 510), none, o9, none, none] (fu g 511) = some (.ok (.nx [o0, o1, o2, o3, o4, o5, o6, some (.ref 510), some (.ref 539), o9, none, none]) (pushL (fu g 511) (items (.ref 510) 511))) := by kernel_rfl
theorem s10_ok {g : Nat → Option Cell} {x : D} {o0 o1 o3 o4 o5 o6 o7 o8 o9 : Option D} : eS 98 GG (headS (dropS 10 b9)) [o0, o1, some x, o3, o4, o5, o6, o7, o8, o9, none, none] (fu g 540) = some (.ok (.rt (.bl true)) (pushL (fu g 540) [.lst [.bl true, .bl true, .bl true, .bl true, .bl true], .lst ((List.range 13).map fun i => .bl (Nat.beq (i + 1) 1)), .lst ((List.range 11).map fun i => .bl (Nat.beq (i + 14) 1)), .lst (((List.range 13).map fun i => .bl (Nat.beq (i + 1) 1)) ++ (List.range 11).map fun i => .bl (Nat.beq (i + 14) 1)), .lst ((List.range 13).map fun i => .bl (Nat.beq (i + 1) 15)), .lst ((List.range 11).map fun i => .bl (Nat.beq (i + 14) 15)), .lst (((List.range 13).map fun i => .bl (Nat.beq (i + 1) 15)) ++ (List.range 11).map fun i => .bl (Nat.beq (i + 14) 15)), .lst ((List.range 13).map fun i => .bl (Nat.beq (i + 1) 16)), .lst ((List.range 11).map fun i => .bl (Nat.beq (i + 14) 16)), .lst (((List.range 13).map fun i => .bl (Nat.beq (i + 1) 16)) ++ (List.range 11).map fun i => .bl (Nat.beq (i + 14) 16)), .lst ((List.range 13).map fun i => .bl (Nat.beq (i + 1) 18)), .lst ((List.range 11).map fun i => .bl (Nat.beq (i + 14) 18)), .lst (((List.range 13).map fun i => .bl (Nat.beq (i + 1) 18)) ++ (List.range 11).map fun i => .bl (Nat.beq (i + 14) 18)), .lst ((List.range 13).map fun i => .bl (Nat.beq (i + 1) 19)), .lst ((List.range 11).map fun i => .bl (Nat.beq (i + 14) 19)), .lst (((List.range 13).map fun i => .bl (Nat.beq (i + 1) 19)) ++ (List.range 11).map fun i => .bl (Nat.beq (i + 14) 19))])) := by kernel_rfl

theorem loop1 {g : Nat → Option Cell} {x : D} {p : PyData} (T1 : Th 316 (updL g 287 (items x 287)) x p) : ∃ g', eS 98 GG (headS (dropS 5 b9)) (e2 x (some (.int 0))) (fu g 287) = some (.ok (.nx (envI 280 (.tup (plL 281)) x 24 w0 (.ex 24 []) (.ex 24 []) (.ex 24 []))) (fu g' 510)) ∧ Ag 287 g' g := by
  have at_ : ∀ i c, (items x 287)[i]? = some c → updL g 287 (items x 287) (287 + i) = some c := updL_at _ _ _
  have h0 : Ag 287 (updL g 287 (items x 287)) g := updL_ag _ _ _
  have hI := (s5_it (g := g) (x := x)).trans (by rw [pushL_fu _ _ _ (by rw [items_len]; decide), items_len])
  revert T1 at_ h0 hI
  generalize updL g 287 (items x 287) = g0
  intro T1 at_ h0 hI
  have hL : g0 315 = some (.lst (allR 287)) := at_ 28 _ rfl
  have e : turns = 4611686018427387879 + 25 := by decide
  have go : ∃ g', fLoop (.lst 315) (evG dat.tab dat.P (cal 98) dat.cst GG tg3) (eS 98 GG OB) (4611686018427387879 + 25) 0 (e2 x (some (.int 0))) (fu g0 316) = some (.ok (.nx (envI 280 (.tup (plL 281)) x 24 w0 (.ex 24 []) (.ex 24 []) (.ex 24 []))) (fu g' 510)) ∧ Ag 316 g' g0 := by
    have b0 : Ag 316 g0 g0 := Ag.refl
    obtain ⟨g1, f1, b1⟩ := turnI (m := 4611686018427387879 + 24) (i := 0) (dd := 280) (pl := .tup (plL 281)) (x := x) (k := 0) (k' := 1) (o4 := none) (o5 := none) (o6 := none) (o9 := none) (w := wG) (one := (.ex 1 [x])) (two := (.ex 1 [x])) (N := 316) (N1 := 320) (N2 := 320) (N3 := 324) (N4 := 324) (r := 287) (by decide) (by decide) (by decide) (by decide) (by decide) (by decide) (by decide) (by decide) hL rfl (at_ 0 _ rfl) b0 (fun g => c1_316) (c2_x T1 (fun S => by kernel_rfl) (fun S => keptG S x 1 (by decide))) (fun g => c1_320) (c2_x T1 (fun S => by kernel_rfl) (fun S => keptG S x 1 (by decide)))
    obtain ⟨g2, f2, b2⟩ := turnI (m := 4611686018427387879 + 23) (i := 1) (dd := 280) (pl := .tup (plL 281)) (x := x) (k := 1) (k' := 2) (o4 := (some wG)) (o5 := (some (.ex 1 [x]))) (o6 := (some (.ex 1 [x]))) (o9 := (some (.ex 1 [x]))) (w := wG) (one := (.ex 2 [x])) (two := (.ex 2 [x])) (N := 324) (N1 := 328) (N2 := 328) (N3 := 332) (N4 := 332) (r := 288) (by decide) (by decide) (by decide) (by decide) (by decide) (by decide) (by decide) (by decide) hL rfl (at_ 1 _ rfl) b1 (fun g => c1_324) (c2_x T1 (fun S => by kernel_rfl) (fun S => keptG S x 2 (by decide))) (fun g => c1_328) (c2_x T1 (fun S => by kernel_rfl) (fun S => keptG S x 2 (by decide)))
    obtain ⟨g3, f3, b3⟩ := turnI (m := 4611686018427387879 + 22) (i := 2) (dd := 280) (pl := .tup (plL 281)) (x := x) (k := 2) (k' := 3) (o4 := (some wG)) (o5 := (some (.ex 2 [x]))) (o6 := (some (.ex 2 [x]))) (o9 := (some (.ex 2 [x]))) (w := wG) (one := (.ex 3 [x])) (two := (.ex 3 [x])) (N := 332) (N1 := 336) (N2 := 336) (N3 := 340) (N4 := 340) (r := 289) (by decide) (by decide) (by decide) (by decide) (by decide) (by decide) (by decide) (by decide) hL rfl (at_ 2 _ rfl) b2 (fun g => c1_332) (c2_x T1 (fun S => by kernel_rfl) (fun S => keptG S x 3 (by decide))) (fun g => c1_336) (c2_x T1 (fun S => by kernel_rfl) (fun S => keptG S x 3 (by decide)))
    obtain ⟨g4, f4, b4⟩ := turnI (m := 4611686018427387879 + 21) (i := 3) (dd := 280) (pl := .tup (plL 281)) (x := x) (k := 3) (k' := 4) (o4 := (some wG)) (o5 := (some (.ex 3 [x]))) (o6 := (some (.ex 3 [x]))) (o9 := (some (.ex 3 [x]))) (w := wG) (one := (.ex 4 [x])) (two := (.ex 4 [x])) (N := 340) (N1 := 344) (N2 := 344) (N3 := 348) (N4 := 348) (r := 290) (by decide) (by decide) (by decide) (by decide) (by decide) (by decide) (by decide) (by decide) hL rfl (at_ 3 _ rfl) b3 (fun g => c1_340) (c2_x T1 (fun S => by kernel_rfl) (fun S => keptG S x 4 (by decide))) (fun g => c1_344) (c2_x T1 (fun S => by kernel_rfl) (fun S => keptG S x 4 (by decide)))
    obtain ⟨g5, f5, b5⟩ := turnI (m := 4611686018427387879 + 20) (i := 4) (dd := 280) (pl := .tup (plL 281)) (x := x) (k := 4) (k' := 5) (o4 := (some wG)) (o5 := (some (.ex 4 [x]))) (o6 := (some (.ex 4 [x]))) (o9 := (some (.ex 4 [x]))) (w := wG) (one := (.ex 5 [x])) (two := (.ex 5 [x])) (N := 348) (N1 := 352) (N2 := 352) (N3 := 356) (N4 := 356) (r := 291) (by decide) (by decide) (by decide) (by decide) (by decide) (by decide) (by decide) (by decide) hL rfl (at_ 4 _ rfl) b4 (fun g => c1_348) (c2_x T1 (fun S => by kernel_rfl) (fun S => keptG S x 5 (by decide))) (fun g => c1_352) (c2_x T1 (fun S => by kernel_rfl) (fun S => keptG S x 5 (by decide)))
    obtain ⟨g6, f6, b6⟩ := turnI (m := 4611686018427387879 + 19) (i := 5) (dd := 280) (pl := .tup (plL 281)) (x := x) (k := 5) (k' := 6) (o4 := (some wG)) (o5 := (some (.ex 5 [x]))) (o6 := (some (.ex 5 [x]))) (o9 := (some (.ex 5 [x]))) (w := wG) (one := (.ex 6 [x])) (two := (.ex 6 [x])) (N := 356) (N1 := 360) (N2 := 360) (N3 := 364) (N4 := 364) (r := 292) (by decide) (by decide) (by decide) (by decide) (by decide) (by decide) (by decide) (by decide) hL rfl (at_ 5 _ rfl) b5 (fun g => c1_356) (c2_x T1 (fun S => by kernel_rfl) (fun S => keptG S x 6 (by decide))) (fun g => c1_360) (c2_x T1 (fun S => by kernel_rfl) (fun S => keptG S x 6 (by decide)))
    obtain ⟨g7, f7, b7⟩ := turnI (m := 4611686018427387879 + 18) (i := 6) (dd := 280) (pl := .tup (plL 281)) (x := x) (k := 6) (k' := 7) (o4 := (some wG)) (o5 := (some (.ex 6 [x]))) (o6 := (some (.ex 6 [x]))) (o9 := (some (.ex 6 [x]))) (w := wG) (one := (.ex 7 [x])) (two := (.ex 7 [x])) (N := 364) (N1 := 368) (N2 := 368) (N3 := 372) (N4 := 372) (r := 293) (by decide) (by decide) (by decide) (by decide) (by decide) (by decide) (by decide) (by decide) hL rfl (at_ 6 _ rfl) b6 (fun g => c1_364) (c2_x T1 (fun S => by kernel_rfl) (fun S => keptG S x 7 (by decide))) (fun g => c1_368) (c2_x T1 (fun S => by kernel_rfl) (fun S => keptG S x 7 (by decide)))
    obtain ⟨g8, f8, b8⟩ := turnI (m := 4611686018427387879 + 17) (i := 7) (dd := 280) (pl := .tup (plL 281)) (x := x) (k := 7) (k' := 8) (o4 := (some wG)) (o5 := (some (.ex 7 [x]))) (o6 := (some (.ex 7 [x]))) (o9 := (some (.ex 7 [x]))) (w := wG) (one := (.ex 8 [x])) (two := (.ex 8 [x])) (N := 372) (N1 := 376) (N2 := 376) (N3 := 380) (N4 := 380) (r := 294) (by decide) (by decide) (by decide) (by decide) (by decide) (by decide) (by decide) (by decide) hL rfl (at_ 7 _ rfl) b7 (fun g => c1_372) (c2_x T1 (fun S => by kernel_rfl) (fun S => keptG S x 8 (by decide))) (fun g => c1_376) (c2_x T1 (fun S => by kernel_rfl) (fun S => keptG S x 8 (by decide)))
    obtain ⟨g9, f9, b9⟩ := turnI (m := 4611686018427387879 + 16) (i := 8) (dd := 280) (pl := .tup (plL 281)) (x := x) (k := 8) (k' := 9) (o4 := (some wG)) (o5 := (some (.ex 8 [x]))) (o6 := (some (.ex 8 [x]))) (o9 := (some (.ex 8 [x]))) (w := wG) (one := (.ex 9 [x])) (two := (.ex 9 [x])) (N := 380) (N1 := 384) (N2 := 384) (N3 := 388) (N4 := 388) (r := 295) (by decide) (by decide) (by decide) (by decide) (by decide) (by decide) (by decide) (by decide) hL rfl (at_ 8 _ rfl) b8 (fun g => c1_380) (c2_x T1 (fun S => by kernel_rfl) (fun S => keptG S x 9 (by decide))) (fun g => c1_384) (c2_x T1 (fun S => by kernel_rfl) (fun S => keptG S x 9 (by decide)))
    obtain ⟨g10, f10, b10⟩ := turnI (m := 4611686018427387879 + 15) (i := 9) (dd := 280) (pl := .tup (plL 281)) (x := x) (k := 9) (k' := 10) (o4 := (some wG)) (o5 := (some (.ex 9 [x]))) (o6 := (some (.ex 9 [x]))) (o9 := (some (.ex 9 [x]))) (w := wG) (one := (.ex 10 [x])) (two := (.ex 10 [x])) (N := 388) (N1 := 392) (N2 := 392) (N3 := 396) (N4 := 396) (r := 296) (by decide) (by decide) (by decide) (by decide) (by decide) (by decide) (by decide) (by decide) hL rfl (at_ 9 _ rfl) b9 (fun g => c1_388) (c2_x T1 (fun S => by kernel_rfl) (fun S => keptG S x 10 (by decide))) (fun g => c1_392) (c2_x T1 (fun S => by kernel_rfl) (fun S => keptG S x 10 (by decide)))
    obtain ⟨g11, f11, b11⟩ := turnI (m := 4611686018427387879 + 14) (i := 10) (dd := 280) (pl := .tup (plL 281)) (x := x) (k := 10) (k' := 11) (o4 := (some wG)) (o5 := (some (.ex 10 [x]))) (o6 := (some (.ex 10 [x]))) (o9 := (some (.ex 10 [x]))) (w := wG) (one := (.ex 11 [x])) (two := (.ex 11 [x])) (N := 396) (N1 := 400) (N2 := 400) (N3 := 404) (N4 := 404) (r := 297) (by decide) (by decide) (by decide) (by decide) (by decide) (by decide) (by decide) (by decide) hL rfl (at_ 10 _ rfl) b10 (fun g => c1_396) (c2_x T1 (fun S => by kernel_rfl) (fun S => keptG S x 11 (by decide))) (fun g => c1_400) (c2_x T1 (fun S => by kernel_rfl) (fun S => keptG S x 11 (by decide)))
    obtain ⟨g12, f12, b12⟩ := turnI (m := 4611686018427387879 + 13) (i := 11) (dd := 280) (pl := .tup (plL 281)) (x := x) (k := 11) (k' := 12) (o4 := (some wG)) (o5 := (some (.ex 11 [x]))) (o6 := (some (.ex 11 [x]))) (o9 := (some (.ex 11 [x]))) (w := wG) (one := (.ex 12 [x])) (two := (.ex 12 [x])) (N := 404) (N1 := 408) (N2 := 408) (N3 := 412) (N4 := 412) (r := 298) (by decide) (by decide) (by decide) (by decide) (by decide) (by decide) (by decide) (by decide) hL rfl (at_ 11 _ rfl) b11 (fun g => c1_404) (c2_x T1 (fun S => by kernel_rfl) (fun S => keptG S x 12 (by decide))) (fun g => c1_408) (c2_x T1 (fun S => by kernel_rfl) (fun S => keptG S x 12 (by decide)))
    obtain ⟨g13, f13, b13⟩ := turnI (m := 4611686018427387879 + 12) (i := 12) (dd := 280) (pl := .tup (plL 281)) (x := x) (k := 12) (k' := 13) (o4 := (some wG)) (o5 := (some (.ex 12 [x]))) (o6 := (some (.ex 12 [x]))) (o9 := (some (.ex 12 [x]))) (w := wG) (one := (.ex 13 [x])) (two := (.ex 13 [x])) (N := 412) (N1 := 416) (N2 := 416) (N3 := 420) (N4 := 420) (r := 299) (by decide) (by decide) (by decide) (by decide) (by decide) (by decide) (by decide) (by decide) hL rfl (at_ 12 _ rfl) b12 (fun g => c1_412) (c2_x T1 (fun S => by kernel_rfl) (fun S => keptG S x 13 (by decide))) (fun g => c1_416) (c2_x T1 (fun S => by kernel_rfl) (fun S => keptG S x 13 (by decide)))
    obtain ⟨g14, f14, b14⟩ := turnI (m := 4611686018427387879 + 11) (i := 13) (dd := 280) (pl := .tup (plL 281)) (x := x) (k := 13) (k' := 14) (o4 := (some wG)) (o5 := (some (.ex 13 [x]))) (o6 := (some (.ex 13 [x]))) (o9 := (some (.ex 13 [x]))) (w := wG) (one := (.ex 14 [x])) (two := (.ex 14 [x])) (N := 420) (N1 := 424) (N2 := 424) (N3 := 428) (N4 := 428) (r := 300) (by decide) (by decide) (by decide) (by decide) (by decide) (by decide) (by decide) (by decide) hL rfl (at_ 13 _ rfl) b13 (fun g => c1_420) (c2_x T1 (fun S => by kernel_rfl) (fun S => keptG S x 14 (by decide))) (fun g => c1_424) (c2_x T1 (fun S => by kernel_rfl) (fun S => keptG S x 14 (by decide)))
    obtain ⟨g15, f15, b15⟩ := turnI (m := 4611686018427387879 + 10) (i := 14) (dd := 280) (pl := .tup (plL 281)) (x := x) (k := 14) (k' := 15) (o4 := (some wG)) (o5 := (some (.ex 14 [x]))) (o6 := (some (.ex 14 [x]))) (o9 := (some (.ex 14 [x]))) (w := wW) (one := (.ex 15 [x, .ref 302])) (two := (.ex 15 [x, .ref 303])) (N := 428) (N1 := 432) (N2 := 433) (N3 := 437) (N4 := 438) (r := 304) (by decide) (by decide) (by decide) (by decide) (by decide) (by decide) (by decide) (by decide) hL rfl (at_ 17 _ rfl) b14 (fun g => c1_428) (c2_w T1 (j := 302) (by decide) (by decide) (by decide) (at_ 15 _ rfl)) (fun g => c1_433) (c2_w T1 (j := 303) (by decide) (by decide) (by decide) (at_ 16 _ rfl))
    obtain ⟨g16, f16, b16⟩ := turnI (m := 4611686018427387879 + 9) (i := 15) (dd := 280) (pl := .tup (plL 281)) (x := x) (k := 15) (k' := 16) (o4 := (some wW)) (o5 := (some (.ex 15 [x, .ref 302]))) (o6 := (some (.ex 15 [x, .ref 303]))) (o9 := (some (.ex 15 [x, .ref 303]))) (w := wI) (one := (.ex 16 [x])) (two := (.ex 16 [x])) (N := 438) (N1 := 442) (N2 := 442) (N3 := 446) (N4 := 446) (r := 305) (by decide) (by decide) (by decide) (by decide) (by decide) (by decide) (by decide) (by decide) hL rfl (at_ 18 _ rfl) b15 (fun g => c1_438) (c2_x T1 (fun S => by kernel_rfl) (fun S => keptI S x 16 (by decide))) (fun g => c1_442) (c2_x T1 (fun S => by kernel_rfl) (fun S => keptI S x 16 (by decide)))
    obtain ⟨g17, f17, b17⟩ := turnI (m := 4611686018427387879 + 8) (i := 16) (dd := 280) (pl := .tup (plL 281)) (x := x) (k := 16) (k' := 17) (o4 := (some wI)) (o5 := (some (.ex 16 [x]))) (o6 := (some (.ex 16 [x]))) (o9 := (some (.ex 16 [x]))) (w := wI) (one := (.ex 17 [x])) (two := (.ex 17 [x])) (N := 446) (N1 := 450) (N2 := 450) (N3 := 454) (N4 := 454) (r := 306) (by decide) (by decide) (by decide) (by decide) (by decide) (by decide) (by decide) (by decide) hL rfl (at_ 19 _ rfl) b16 (fun g => c1_446) (c2_x T1 (fun S => by kernel_rfl) (fun S => keptI S x 17 (by decide))) (fun g => c1_450) (c2_x T1 (fun S => by kernel_rfl) (fun S => keptI S x 17 (by decide)))
    obtain ⟨g18, f18, b18⟩ := turnI (m := 4611686018427387879 + 7) (i := 17) (dd := 280) (pl := .tup (plL 281)) (x := x) (k := 17) (k' := 18) (o4 := (some wI)) (o5 := (some (.ex 17 [x]))) (o6 := (some (.ex 17 [x]))) (o9 := (some (.ex 17 [x]))) (w := wR) (one := (.ex 18 [x])) (two := (.ex 18 [x])) (N := 454) (N1 := 458) (N2 := 458) (N3 := 462) (N4 := 462) (r := 307) (by decide) (by decide) (by decide) (by decide) (by decide) (by decide) (by decide) (by decide) hL rfl (at_ 20 _ rfl) b17 (fun g => c1_454) (c2_x T1 (fun S => by kernel_rfl) (fun S => keptR S x)) (fun g => c1_458) (c2_x T1 (fun S => by kernel_rfl) (fun S => keptR S x))
    obtain ⟨g19, f19, b19⟩ := turnI (m := 4611686018427387879 + 6) (i := 18) (dd := 280) (pl := .tup (plL 281)) (x := x) (k := 18) (k' := 19) (o4 := (some wR)) (o5 := (some (.ex 18 [x]))) (o6 := (some (.ex 18 [x]))) (o9 := (some (.ex 18 [x]))) (w := w0) (one := (.ex 19 [])) (two := (.ex 19 [])) (N := 462) (N1 := 466) (N2 := 466) (N3 := 470) (N4 := 470) (r := 308) (by decide) (by decide) (by decide) (by decide) (by decide) (by decide) (by decide) (by decide) hL rfl (at_ 21 _ rfl) b18 (fun g => c1_462) (c2_0 (fun S => kept0 S 19 (by decide))) (fun g => c1_466) (c2_0 (fun S => kept0 S 19 (by decide)))
    obtain ⟨g20, f20, b20⟩ := turnI (m := 4611686018427387879 + 5) (i := 19) (dd := 280) (pl := .tup (plL 281)) (x := x) (k := 19) (k' := 20) (o4 := (some w0)) (o5 := (some (.ex 19 []))) (o6 := (some (.ex 19 []))) (o9 := (some (.ex 19 []))) (w := w0) (one := (.ex 20 [])) (two := (.ex 20 [])) (N := 470) (N1 := 474) (N2 := 474) (N3 := 478) (N4 := 478) (r := 309) (by decide) (by decide) (by decide) (by decide) (by decide) (by decide) (by decide) (by decide) hL rfl (at_ 22 _ rfl) b19 (fun g => c1_470) (c2_0 (fun S => kept0 S 20 (by decide))) (fun g => c1_474) (c2_0 (fun S => kept0 S 20 (by decide)))
    obtain ⟨g21, f21, b21⟩ := turnI (m := 4611686018427387879 + 4) (i := 20) (dd := 280) (pl := .tup (plL 281)) (x := x) (k := 20) (k' := 21) (o4 := (some w0)) (o5 := (some (.ex 20 []))) (o6 := (some (.ex 20 []))) (o9 := (some (.ex 20 []))) (w := w0) (one := (.ex 21 [])) (two := (.ex 21 [])) (N := 478) (N1 := 482) (N2 := 482) (N3 := 486) (N4 := 486) (r := 310) (by decide) (by decide) (by decide) (by decide) (by decide) (by decide) (by decide) (by decide) hL rfl (at_ 23 _ rfl) b20 (fun g => c1_478) (c2_0 (fun S => kept0 S 21 (by decide))) (fun g => c1_482) (c2_0 (fun S => kept0 S 21 (by decide)))
    obtain ⟨g22, f22, b22⟩ := turnI (m := 4611686018427387879 + 3) (i := 21) (dd := 280) (pl := .tup (plL 281)) (x := x) (k := 21) (k' := 22) (o4 := (some w0)) (o5 := (some (.ex 21 []))) (o6 := (some (.ex 21 []))) (o9 := (some (.ex 21 []))) (w := w0) (one := (.ex 22 [])) (two := (.ex 22 [])) (N := 486) (N1 := 490) (N2 := 490) (N3 := 494) (N4 := 494) (r := 311) (by decide) (by decide) (by decide) (by decide) (by decide) (by decide) (by decide) (by decide) hL rfl (at_ 24 _ rfl) b21 (fun g => c1_486) (c2_0 (fun S => kept0 S 22 (by decide))) (fun g => c1_490) (c2_0 (fun S => kept0 S 22 (by decide)))
    obtain ⟨g23, f23, b23⟩ := turnI (m := 4611686018427387879 + 2) (i := 22) (dd := 280) (pl := .tup (plL 281)) (x := x) (k := 22) (k' := 23) (o4 := (some w0)) (o5 := (some (.ex 22 []))) (o6 := (some (.ex 22 []))) (o9 := (some (.ex 22 []))) (w := w0) (one := (.ex 23 [])) (two := (.ex 23 [])) (N := 494) (N1 := 498) (N2 := 498) (N3 := 502) (N4 := 502) (r := 312) (by decide) (by decide) (by decide) (by decide) (by decide) (by decide) (by decide) (by decide) hL rfl (at_ 25 _ rfl) b22 (fun g => c1_494) (c2_0 (fun S => kept0 S 23 (by decide))) (fun g => c1_498) (c2_0 (fun S => kept0 S 23 (by decide)))
    obtain ⟨g24, f24, b24⟩ := turnI (m := 4611686018427387879 + 1) (i := 23) (dd := 280) (pl := .tup (plL 281)) (x := x) (k := 23) (k' := 24) (o4 := (some w0)) (o5 := (some (.ex 23 []))) (o6 := (some (.ex 23 []))) (o9 := (some (.ex 23 []))) (w := w0) (one := (.ex 24 [])) (two := (.ex 24 [])) (N := 502) (N1 := 506) (N2 := 506) (N3 := 510) (N4 := 510) (r := 313) (by decide) (by decide) (by decide) (by decide) (by decide) (by decide) (by decide) (by decide) hL rfl (at_ 26 _ rfl) b23 (fun g => c1_502) (c2_0 (fun S => kept0 S 24 (by decide))) (fun g => c1_506) (c2_0 (fun S => kept0 S 24 (by decide)))
    exact ⟨g24, f1.trans (f2.trans (f3.trans (f4.trans (f5.trans (f6.trans (f7.trans (f8.trans (f9.trans (f10.trans (f11.trans (f12.trans (f13.trans (f14.trans (f15.trans (f16.trans (f17.trans (f18.trans (f19.trans (f20.trans (f21.trans (f22.trans (f23.trans (f24.trans (turn_end (by decide) (by decide) hL rfl b24)))))))))))))))))))))))), b24⟩
  obtain ⟨g', f, b⟩ := go
  refine ⟨g', ?_, fun j hj => (b j (by omega)).trans (h0 j hj)⟩
  exact (run_for hI).trans ((congrArg (fun t => fLoop _ _ _ t 0 _ _) e).trans f)

theorem loop2 {g : Nat → Option Cell} {pl x : D} {a b : Int} {o4 o5 o6 o9 : Option D} (hrow : g 510 = some (.lst [.int a, .int b])) (at_ : ∀ i c, (items (.ref 510) 511)[i]? = some c → g (511 + i) = some c) : ∃ w one two, eS 98 GG (headS (dropS 9 b9)) [some (.ref 280), some pl, some x, some (.int 24), o4, o5, o6, some (.ref 510), some (.ref 539), o9, none, none] (fu g 540) = some (.ok (.nx (env2 280 pl x (.int 24) w one two 510 539 o9)) (fu g 540)) := by
  have hL : g 539 = some (.lst (allR 511)) := at_ 28 _ rfl
  have hR : (fu g 540).get 510 = some (.lst [.int a, .int b]) := (fu_get (by decide)).trans hrow
  have hI : evI dat.tab dat.P (cal 98) dat.cst GG (forI (headS (dropS 9 b9))) [some (.ref 280), some pl, some x, some (.int 24), o4, o5, o6, some (.ref 510), some (.ref 539), o9, none, none] (fu g 540) = some (.ok (.lst 539) (fu g 540)) := by
    rw [← upd'_self hL]
    kernel_rfl
  have e : turns = 4611686018427387879 + 25 := by decide
  have f1 := turnJ (m := 4611686018427387879 + 24) (i := 0) (dd := 280) (pl := pl) (x := x) (k3 := .int 24) (row := 510) (o4 := o4) (o5 := o5) (o6 := o6) (o9 := o9) (w := wG) (one := (.ex 1 [.ref 510])) (two := (.ex 1 [.ref 510])) (N := 540) (Q := 540) (L := 539) (r := 511) (by decide) (by decide) (by decide) hL rfl (at_ 0 _ rfl) (c3_x (fun S => by kernel_rfl) hR (fun S => keptG S _ 1 (by decide)) (fun S => keptG S _ 1 (by decide)))
  have f2 := turnJ (m := 4611686018427387879 + 23) (i := 1) (dd := 280) (pl := pl) (x := x) (k3 := .int 24) (row := 510) (o4 := (some wG)) (o5 := (some (.ex 1 [.ref 510]))) (o6 := (some (.ex 1 [.ref 510]))) (o9 := o9) (w := wG) (one := (.ex 2 [.ref 510])) (two := (.ex 2 [.ref 510])) (N := 540) (Q := 540) (L := 539) (r := 512) (by decide) (by decide) (by decide) hL rfl (at_ 1 _ rfl) (c3_x (fun S => by kernel_rfl) hR (fun S => keptG S _ 2 (by decide)) (fun S => keptG S _ 2 (by decide)))
  have f3 := turnJ (m := 4611686018427387879 + 22) (i := 2) (dd := 280) (pl := pl) (x := x) (k3 := .int 24) (row := 510) (o4 := (some wG)) (o5 := (some (.ex 2 [.ref 510]))) (o6 := (some (.ex 2 [.ref 510]))) (o9 := o9) (w := wG) (one := (.ex 3 [.ref 510])) (two := (.ex 3 [.ref 510])) (N := 540) (Q := 540) (L := 539) (r := 513) (by decide) (by decide) (by decide) hL rfl (at_ 2 _ rfl) (c3_x (fun S => by kernel_rfl) hR (fun S => keptG S _ 3 (by decide)) (fun S => keptG S _ 3 (by decide)))
  have f4 := turnJ (m := 4611686018427387879 + 21) (i := 3) (dd := 280) (pl := pl) (x := x) (k3 := .int 24) (row := 510) (o4 := (some wG)) (o5 := (some (.ex 3 [.ref 510]))) (o6 := (some (.ex 3 [.ref 510]))) (o9 := o9) (w := wG) (one := (.ex 4 [.ref 510])) (two := (.ex 4 [.ref 510])) (N := 540) (Q := 540) (L := 539) (r := 514) (by decide) (by decide) (by decide) hL rfl (at_ 3 _ rfl) (c3_x (fun S => by kernel_rfl) hR (fun S => keptG S _ 4 (by decide)) (fun S => keptG S _ 4 (by decide)))
  have f5 := turnJ (m := 4611686018427387879 + 20) (i := 4) (dd := 280) (pl := pl) (x := x) (k3 := .int 24) (row := 510) (o4 := (some wG)) (o5 := (some (.ex 4 [.ref 510]))) (o6 := (some (.ex 4 [.ref 510]))) (o9 := o9) (w := wG) (one := (.ex 5 [.ref 510])) (two := (.ex 5 [.ref 510])) (N := 540) (Q := 540) (L := 539) (r := 515) (by decide) (by decide) (by decide) hL rfl (at_ 4 _ rfl) (c3_x (fun S => by kernel_rfl) hR (fun S => keptG S _ 5 (by decide)) (fun S => keptG S _ 5 (by decide)))
  have f6 := turnJ (m := 4611686018427387879 + 19) (i := 5) (dd := 280) (pl := pl) (x := x) (k3 := .int 24) (row := 510) (o4 := (some wG)) (o5 := (some (.ex 5 [.ref 510]))) (o6 := (some (.ex 5 [.ref 510]))) (o9 := o9) (w := wG) (one := (.ex 6 [.ref 510])) (two := (.ex 6 [.ref 510])) (N := 540) (Q := 540) (L := 539) (r := 516) (by decide) (by decide) (by decide) hL rfl (at_ 5 _ rfl) (c3_x (fun S => by kernel_rfl) hR (fun S => keptG S _ 6 (by decide)) (fun S => keptG S _ 6 (by decide)))
  have f7 := turnJ (m := 4611686018427387879 + 18) (i := 6) (dd := 280) (pl := pl) (x := x) (k3 := .int 24) (row := 510) (o4 := (some wG)) (o5 := (some (.ex 6 [.ref 510]))) (o6 := (some (.ex 6 [.ref 510]))) (o9 := o9) (w := wG) (one := (.ex 7 [.ref 510])) (two := (.ex 7 [.ref 510])) (N := 540) (Q := 540) (L := 539) (r := 517) (by decide) (by decide) (by decide) hL rfl (at_ 6 _ rfl) (c3_x (fun S => by kernel_rfl) hR (fun S => keptG S _ 7 (by decide)) (fun S => keptG S _ 7 (by decide)))
  have f8 := turnJ (m := 4611686018427387879 + 17) (i := 7) (dd := 280) (pl := pl) (x := x) (k3 := .int 24) (row := 510) (o4 := (some wG)) (o5 := (some (.ex 7 [.ref 510]))) (o6 := (some (.ex 7 [.ref 510]))) (o9 := o9) (w := wG) (one := (.ex 8 [.ref 510])) (two := (.ex 8 [.ref 510])) (N := 540) (Q := 540) (L := 539) (r := 518) (by decide) (by decide) (by decide) hL rfl (at_ 7 _ rfl) (c3_x (fun S => by kernel_rfl) hR (fun S => keptG S _ 8 (by decide)) (fun S => keptG S _ 8 (by decide)))
  have f9 := turnJ (m := 4611686018427387879 + 16) (i := 8) (dd := 280) (pl := pl) (x := x) (k3 := .int 24) (row := 510) (o4 := (some wG)) (o5 := (some (.ex 8 [.ref 510]))) (o6 := (some (.ex 8 [.ref 510]))) (o9 := o9) (w := wG) (one := (.ex 9 [.ref 510])) (two := (.ex 9 [.ref 510])) (N := 540) (Q := 540) (L := 539) (r := 519) (by decide) (by decide) (by decide) hL rfl (at_ 8 _ rfl) (c3_x (fun S => by kernel_rfl) hR (fun S => keptG S _ 9 (by decide)) (fun S => keptG S _ 9 (by decide)))
  have f10 := turnJ (m := 4611686018427387879 + 15) (i := 9) (dd := 280) (pl := pl) (x := x) (k3 := .int 24) (row := 510) (o4 := (some wG)) (o5 := (some (.ex 9 [.ref 510]))) (o6 := (some (.ex 9 [.ref 510]))) (o9 := o9) (w := wG) (one := (.ex 10 [.ref 510])) (two := (.ex 10 [.ref 510])) (N := 540) (Q := 540) (L := 539) (r := 520) (by decide) (by decide) (by decide) hL rfl (at_ 9 _ rfl) (c3_x (fun S => by kernel_rfl) hR (fun S => keptG S _ 10 (by decide)) (fun S => keptG S _ 10 (by decide)))
  have f11 := turnJ (m := 4611686018427387879 + 14) (i := 10) (dd := 280) (pl := pl) (x := x) (k3 := .int 24) (row := 510) (o4 := (some wG)) (o5 := (some (.ex 10 [.ref 510]))) (o6 := (some (.ex 10 [.ref 510]))) (o9 := o9) (w := wG) (one := (.ex 11 [.ref 510])) (two := (.ex 11 [.ref 510])) (N := 540) (Q := 540) (L := 539) (r := 521) (by decide) (by decide) (by decide) hL rfl (at_ 10 _ rfl) (c3_x (fun S => by kernel_rfl) hR (fun S => keptG S _ 11 (by decide)) (fun S => keptG S _ 11 (by decide)))
  have f12 := turnJ (m := 4611686018427387879 + 13) (i := 11) (dd := 280) (pl := pl) (x := x) (k3 := .int 24) (row := 510) (o4 := (some wG)) (o5 := (some (.ex 11 [.ref 510]))) (o6 := (some (.ex 11 [.ref 510]))) (o9 := o9) (w := wG) (one := (.ex 12 [.ref 510])) (two := (.ex 12 [.ref 510])) (N := 540) (Q := 540) (L := 539) (r := 522) (by decide) (by decide) (by decide) hL rfl (at_ 11 _ rfl) (c3_x (fun S => by kernel_rfl) hR (fun S => keptG S _ 12 (by decide)) (fun S => keptG S _ 12 (by decide)))
  have f13 := turnJ (m := 4611686018427387879 + 12) (i := 12) (dd := 280) (pl := pl) (x := x) (k3 := .int 24) (row := 510) (o4 := (some wG)) (o5 := (some (.ex 12 [.ref 510]))) (o6 := (some (.ex 12 [.ref 510]))) (o9 := o9) (w := wG) (one := (.ex 13 [.ref 510])) (two := (.ex 13 [.ref 510])) (N := 540) (Q := 540) (L := 539) (r := 523) (by decide) (by decide) (by decide) hL rfl (at_ 12 _ rfl) (c3_x (fun S => by kernel_rfl) hR (fun S => keptG S _ 13 (by decide)) (fun S => keptG S _ 13 (by decide)))
  have f14 := turnJ (m := 4611686018427387879 + 11) (i := 13) (dd := 280) (pl := pl) (x := x) (k3 := .int 24) (row := 510) (o4 := (some wG)) (o5 := (some (.ex 13 [.ref 510]))) (o6 := (some (.ex 13 [.ref 510]))) (o9 := o9) (w := wG) (one := (.ex 14 [.ref 510])) (two := (.ex 14 [.ref 510])) (N := 540) (Q := 540) (L := 539) (r := 524) (by decide) (by decide) (by decide) hL rfl (at_ 13 _ rfl) (c3_x (fun S => by kernel_rfl) hR (fun S => keptG S _ 14 (by decide)) (fun S => keptG S _ 14 (by decide)))
  have f15 := turnJ (m := 4611686018427387879 + 10) (i := 14) (dd := 280) (pl := pl) (x := x) (k3 := .int 24) (row := 510) (o4 := (some wG)) (o5 := (some (.ex 14 [.ref 510]))) (o6 := (some (.ex 14 [.ref 510]))) (o9 := o9) (w := wW) (one := (.ex 15 [.ref 510, .ref 526])) (two := (.ex 15 [.ref 510, .ref 527])) (N := 540) (Q := 540) (L := 539) (r := 528) (by decide) (by decide) (by decide) hL rfl (at_ 17 _ rfl) c3_w
  have f16 := turnJ (m := 4611686018427387879 + 9) (i := 15) (dd := 280) (pl := pl) (x := x) (k3 := .int 24) (row := 510) (o4 := (some wW)) (o5 := (some (.ex 15 [.ref 510, .ref 526]))) (o6 := (some (.ex 15 [.ref 510, .ref 527]))) (o9 := o9) (w := wI) (one := (.ex 16 [.ref 510])) (two := (.ex 16 [.ref 510])) (N := 540) (Q := 540) (L := 539) (r := 529) (by decide) (by decide) (by decide) hL rfl (at_ 18 _ rfl) (c3_x (fun S => by kernel_rfl) hR (fun S => keptI S _ 16 (by decide)) (fun S => keptI S _ 16 (by decide)))
  have f17 := turnJ (m := 4611686018427387879 + 8) (i := 16) (dd := 280) (pl := pl) (x := x) (k3 := .int 24) (row := 510) (o4 := (some wI)) (o5 := (some (.ex 16 [.ref 510]))) (o6 := (some (.ex 16 [.ref 510]))) (o9 := o9) (w := wI) (one := (.ex 17 [.ref 510])) (two := (.ex 17 [.ref 510])) (N := 540) (Q := 540) (L := 539) (r := 530) (by decide) (by decide) (by decide) hL rfl (at_ 19 _ rfl) (c3_x (fun S => by kernel_rfl) hR (fun S => keptI S _ 17 (by decide)) (fun S => keptI S _ 17 (by decide)))
  have f18 := turnJ (m := 4611686018427387879 + 7) (i := 17) (dd := 280) (pl := pl) (x := x) (k3 := .int 24) (row := 510) (o4 := (some wI)) (o5 := (some (.ex 17 [.ref 510]))) (o6 := (some (.ex 17 [.ref 510]))) (o9 := o9) (w := wR) (one := (.ex 18 [.ref 510])) (two := (.ex 18 [.ref 510])) (N := 540) (Q := 540) (L := 539) (r := 531) (by decide) (by decide) (by decide) hL rfl (at_ 20 _ rfl) (c3_x (fun S => by kernel_rfl) hR (fun S => keptR S _) (fun S => keptR S _))
  have f19 := turnJ (m := 4611686018427387879 + 6) (i := 18) (dd := 280) (pl := pl) (x := x) (k3 := .int 24) (row := 510) (o4 := (some wR)) (o5 := (some (.ex 18 [.ref 510]))) (o6 := (some (.ex 18 [.ref 510]))) (o9 := o9) (w := w0) (one := (.ex 19 [])) (two := (.ex 19 [])) (N := 540) (Q := 540) (L := 539) (r := 532) (by decide) (by decide) (by decide) hL rfl (at_ 21 _ rfl) c3_0
  have f20 := turnJ (m := 4611686018427387879 + 5) (i := 19) (dd := 280) (pl := pl) (x := x) (k3 := .int 24) (row := 510) (o4 := (some w0)) (o5 := (some (.ex 19 []))) (o6 := (some (.ex 19 []))) (o9 := o9) (w := w0) (one := (.ex 20 [])) (two := (.ex 20 [])) (N := 540) (Q := 540) (L := 539) (r := 533) (by decide) (by decide) (by decide) hL rfl (at_ 22 _ rfl) c3_0
  have f21 := turnJ (m := 4611686018427387879 + 4) (i := 20) (dd := 280) (pl := pl) (x := x) (k3 := .int 24) (row := 510) (o4 := (some w0)) (o5 := (some (.ex 20 []))) (o6 := (some (.ex 20 []))) (o9 := o9) (w := w0) (one := (.ex 21 [])) (two := (.ex 21 [])) (N := 540) (Q := 540) (L := 539) (r := 534) (by decide) (by decide) (by decide) hL rfl (at_ 23 _ rfl) c3_0
  have f22 := turnJ (m := 4611686018427387879 + 3) (i := 21) (dd := 280) (pl := pl) (x := x) (k3 := .int 24) (row := 510) (o4 := (some w0)) (o5 := (some (.ex 21 []))) (o6 := (some (.ex 21 []))) (o9 := o9) (w := w0) (one := (.ex 22 [])) (two := (.ex 22 [])) (N := 540) (Q := 540) (L := 539) (r := 535) (by decide) (by decide) (by decide) hL rfl (at_ 24 _ rfl) c3_0
  have f23 := turnJ (m := 4611686018427387879 + 2) (i := 22) (dd := 280) (pl := pl) (x := x) (k3 := .int 24) (row := 510) (o4 := (some w0)) (o5 := (some (.ex 22 []))) (o6 := (some (.ex 22 []))) (o9 := o9) (w := w0) (one := (.ex 23 [])) (two := (.ex 23 [])) (N := 540) (Q := 540) (L := 539) (r := 536) (by decide) (by decide) (by decide) hL rfl (at_ 25 _ rfl) c3_0
  have f24 := turnJ (m := 4611686018427387879 + 1) (i := 23) (dd := 280) (pl := pl) (x := x) (k3 := .int 24) (row := 510) (o4 := (some w0)) (o5 := (some (.ex 23 []))) (o6 := (some (.ex 23 []))) (o9 := o9) (w := w0) (one := (.ex 24 [])) (two := (.ex 24 [])) (N := 540) (Q := 540) (L := 539) (r := 537) (by decide) (by decide) (by decide) hL rfl (at_ 26 _ rfl) c3_0
  have go := f1.trans (f2.trans (f3.trans (f4.trans (f5.trans (f6.trans (f7.trans (f8.trans (f9.trans (f10.trans (f11.trans (f12.trans (f13.trans (f14.trans (f15.trans (f16.trans (f17.trans (f18.trans (f19.trans (f20.trans (f21.trans (f22.trans (f23.trans (f24.trans (turn_end (Q := 540) (by decide) (by decide) hL rfl Ag.refl))))))))))))))))))))))))
  exact ⟨_, _, _, (run_for hI).trans ((congrArg (fun t => fLoop _ _ _ t 0 _ _) e).trans go)⟩

theorem right_ok {g : Nat → Option Cell} {a b : Int} (hb0 : 0 ≤ b) (hb : b < 2147483549) (hg : g 280 = some (.lst [.int a, .int b, .int 0])) : ∃ g', cal 99 9 [.ref 280] (fu g 281) = some (.ok (.bl true) (fu g' 556)) ∧ ∀ j, j < 280 → g' j = g j := by
  have h0 := s0_ok (g := g)
  rw [pushL_fu _ _ _ (by decide)] at h0
  have a0 := updL_ag [.lst ((List.range 13).map fun i => .bl (Nat.beq (i + 1) 99)), .lst ((List.range 11).map fun i => .bl (Nat.beq (i + 14) 99)), .lst (((List.range 13).map fun i => .bl (Nat.beq (i + 1) 99)) ++ (List.range 11).map fun i => .bl (Nat.beq (i + 14) 99))] g 281
  revert h0 a0
  generalize updL g 281 [.lst ((List.range 13).map fun i => .bl (Nat.beq (i + 1) 99)), .lst ((List.range 11).map fun i => .bl (Nat.beq (i + 14) 99)), .lst (((List.range 13).map fun i => .bl (Nat.beq (i + 1) 99)) ++ (List.range 11).map fun i => .bl (Nat.beq (i + 14) 99))] = g0
  intro h0 a0
  have h1 := s1_ok (g := g0)
  rw [pushL_fu _ _ _ (by decide)] at h1
  have a1 := updL_ag [.lst [], .dct []] g0 284
  have p3 := updL_at [.lst [], .dct []] g0 284 0 _ rfl
  have p4 := updL_at [.lst [], .dct []] g0 284 1 _ rfl
  revert h1 a1 p3 p4
  generalize updL g0 284 [.lst [], .dct []] = g1
  intro h1 a1 p3 p4
  have d1 : g1 280 = some (.lst [.int a, .int b, .int 0]) := (a1 _ (by decide)).trans ((a0 _ (by decide)).trans hg)
  obtain ⟨r0, a', b', hb0, hb, r00, r01, t0⟩ := take0 (n := 286) hb0 hb d1
  obtain ⟨x1, hx1, q0⟩ := pick_of (xs := plL 281) (m := 15) rfl r00 r01 t0
  have a2 : ∀ j, j ≠ 280 → upd' g1 280 (.lst [.int a', .int b', .int 1]) j = g1 j := fun j hj => upd'_ne hj
  have d2 : upd' g1 280 (.lst [.int a', .int b', .int 1]) 280 = _ := upd'_same
  revert q0 a2 d2
  generalize upd' g1 280 (.lst [.int a', .int b', .int 1]) = g2
  intro q0 a2 d2
  have h2 : eS 98 GG (headS (dropS 2 b9)) e1 (fu g1 286) = some (.ok (.nx (e2 x1 none)) (fu g2 286)) :=
    run_asg ((ev_call (vs := [.ref 280, .tup (plL 281)]) (S' := fu g1 286) rfl rfl rfl (by kernel_rfl)).trans q0)
  have h3 := s3_args (g := g2) (x := x1)
  rw [pushL_fu _ _ _ (by simp only [List.length_cons, List.length_nil]; decide)] at h3
  have a3 := updL_ag [.lst [x1]] g2 286
  have p5 := updL_at [.lst [x1]] g2 286 0 _ rfl
  revert h3 a3 p5
  generalize updL g2 286 [.lst [x1]] = g3
  intro h3 a3 p5
  have d3 := (a3 280 (by decide)).trans d2
  obtain ⟨r1, a', b', hb0, hb, r10, r11, t1⟩ := take1 (n := 287) hb0 hb d3
  obtain ⟨y, hy, q1⟩ := pick_of (xs := plM 281 x1) (m := 6) rfl r10 r11 t1
  have a4 : ∀ j, j ≠ 280 → upd' g3 280 (.lst [.int a', .int b', .int 2]) j = g3 j := fun j hj => upd'_ne hj
  have d4 : upd' g3 280 (.lst [.int a', .int b', .int 2]) 280 = _ := upd'_same
  revert q1 a4 d4
  generalize upd' g3 280 (.lst [.int a', .int b', .int 2]) = g4
  intro q1 a4 d4
  have h3 : eS 98 GG (headS (dropS 3 b9)) (e2 x1 none) (fu g2 286) = some (.ok (.nx (e2 y none)) (fu g4 287)) :=
    run_asg ((ev_call (vs := [.ref 280, .tup (plM 281 x1)]) (S' := fu g3 287) rfl rfl rfl h3).trans q1)
  have h4 : eS 98 GG (headS (dropS 4 b9)) (e2 y none) (fu g4 287) = some (.ok (.nx (e2 y (some (.int 0)))) (fu g4 287)) := by kernel_rfl
  have u4 := updL_ag (items y 287) g4 287
  have m3 := (a4 284 (by decide)).trans ((a3 284 (by decide)).trans ((a2 284 (by decide)).trans p3))
  have m4 := (a4 285 (by decide)).trans ((a3 285 (by decide)).trans ((a2 285 (by decide)).trans p4))
  have m5 := (a4 286 (by decide)).trans p5
  obtain ⟨p, T1⟩ := th2 (N0 := 281) (by decide) hx1 hy (M := 316) (g0 := updL g4 287 (items y 287)) (by decide) ((u4 _ (by decide)).trans m3) ((u4 _ (by decide)).trans m4) ((u4 _ (by decide)).trans m5)
  obtain ⟨g5, h5, a5⟩ := loop1 T1
  have d5 := (a5 280 (by decide)).trans d4
  obtain ⟨r2, a', b', hb0, hb, _, _, t2⟩ := take2 (n := 510) hb0 hb d5
  have a6 : ∀ j, j ≠ 280 → upd' g5 280 (.lst [.int a', .int b', .int 3]) j = g5 j := fun j hj => upd'_ne hj
  have d6 : upd' g5 280 (.lst [.int a', .int b', .int 3]) 280 = _ := upd'_same
  revert t2 a6 d6
  generalize upd' g5 280 (.lst [.int a', .int b', .int 3]) = g6
  intro t2 a6 d6
  have h6 : eS 98 GG (headS (dropS 6 b9)) (envI 280 (.tup (plL 281)) y 24 w0 (.ex 24 []) (.ex 24 []) (.ex 24 [])) (fu g5 510) = some (.ok (.nx [some (.ref 280), some (.tup (plL 281)), some y, some (.int 24), some w0, some (.ex 24 []), some (.ex 24 []), some (.ref 510), none, some (.ex 24 []), none, none]) (fu (upd' g6 510 (.lst [.int r2])) 511)) := by
    have e := ev_lst (k := 98) (gd := GG) (es := .cons (.call 1 2 (.cons (.var 0) (.cons (.con (.int 9)) .nil)) [] .nil) .nil) (env := envI 280 (.tup (plL 281)) y 24 w0 (.ex 24 []) (.ex 24 []) (.ex 24 [])) (vs := [.int r2]) rfl (ev_cons ((ev_call (vs := [.ref 280, .int 9]) (S := fu g5 510) (S' := fu g5 510) rfl rfl rfl (by kernel_rfl)).trans t2) ev_nil)
    rw [fu_push (by decide)] at e
    exact run_asg e
  have a7 := updL_ag (items (.ref 510) 511) (upd' g6 510 (.lst [.int r2])) 511
  have u7 := updL_at (items (.ref 510) 511) (upd' g6 510 (.lst [.int r2])) 511
  have h7 := s7_ok (g := upd' g6 510 (.lst [.int r2])) (o0 := some (.ref 280)) (o1 := some (.tup (plL 281))) (o2 := some y) (o3 := some (.int 24)) (o4 := some w0) (o5 := some (.ex 24 [])) (o6 := some (.ex 24 [])) (o9 := some (.ex 24 []))
  rw [pushL_fu _ _ _ (by rw [items_len]; decide), items_len] at h7
  have c7 : updL (upd' g6 510 (.lst [.int r2])) 511 (items (.ref 510) 511) 510 = some (.lst [.int r2]) := (a7 _ (by decide)).trans upd'_same
  have b7 : ∀ j, j < 510 → updL (upd' g6 510 (.lst [.int r2])) 511 (items (.ref 510) 511) j = g6 j := fun j hj => (a7 _ (by omega)).trans (upd'_ne (by omega))
  revert h7 u7 c7 b7
  generalize updL (upd' g6 510 (.lst [.int r2])) 511 (items (.ref 510) 511) = g7
  intro u7 h7 c7 b7
  have d7 := (b7 280 (by decide)).trans d6
  obtain ⟨r3, a', b', hb0, hb, _, _, t3⟩ := take3 (n := 540) hb0 hb d7
  have a8 : ∀ j, j ≠ 280 → upd' g7 280 (.lst [.int a', .int b', .int 4]) j = g7 j := fun j hj => upd'_ne hj
  revert t3 a8
  generalize upd' g7 280 (.lst [.int a', .int b', .int 4]) = g8
  intro t3 a8
  have h8 : eS 98 GG (headS (dropS 8 b9)) (env2 280 (.tup (plL 281)) y (.int 24) w0 (.ex 24 []) (.ex 24 []) 510 539 (some (.ex 24 []))) (fu g7 540) = some (.ok (.nx (env2 280 (.tup (plL 281)) y (.int 24) w0 (.ex 24 []) (.ex 24 []) 510 539 (some (.ex 24 [])))) (fu (upd' g8 510 (.lst [.int r2, .int r3])) 540)) := by
    have e := ev_append (k := 98) (gd := GG) (a := .var 7) (es := .cons (.call 1 2 (.cons (.var 0) (.cons (.con (.int 9)) .nil)) [] .nil) .nil) (i := 510) (xs := [.int r2]) (v := .int r3) (env := env2 280 (.tup (plL 281)) y (.int 24) w0 (.ex 24 []) (.ex 24 []) 510 539 (some (.ex 24 []))) (S := fu g7 540) (S' := fu g8 540)
      (by kernel_rfl) ((fu_get (by decide)).trans c7) (ev_cons ((ev_call (vs := [.ref 280, .int 9]) (S' := fu g7 540) rfl rfl rfl (by kernel_rfl)).trans t3) ev_nil) ((fu_get (by decide)).trans ((a8 _ (by decide)).trans c7)) rfl
    rw [fu_put (by decide)] at e
    exact run_exp e
  obtain ⟨w, one, two, h9⟩ := loop2 (g := upd' g8 510 (.lst [.int r2, .int r3])) (pl := .tup (plL 281)) (x := y) (a := r2) (b := r3) (o4 := some w0) (o5 := some (.ex 24 [])) (o6 := some (.ex 24 [])) (o9 := some (.ex 24 [])) upd'_same
    (fun i c h => (upd'_ne (by omega)).trans ((a8 _ (by omega)).trans (u7 i c h)))
  have h10 := s10_ok (g := upd' g8 510 (.lst [.int r2, .int r3])) (x := y) (o0 := some (.ref 280)) (o1 := some (.tup (plL 281))) (o3 := some (.int 24)) (o4 := some w) (o5 := some one) (o6 := some two) (o7 := some (.ref 510)) (o8 := some (.ref 539)) (o9 := some (.ex 24 []))
  rw [pushL_fu _ _ _ (by simp only [List.length_cons, List.length_nil]; decide)] at h10
  refine ⟨_, call_of (k := 98) (fl := .rt (.bl true)) (show dat.P 9 = some _ from rfl) (show dat.F 9 = some _ from rfl) ((run_seq h0).trans ((run_seq h1).trans ((run_seq h2).trans ((run_seq h3).trans ((run_seq h4).trans ((run_seq h5).trans ((run_seq h6).trans ((run_seq h7).trans ((run_seq h8).trans ((run_seq h9).trans (run_ret h10))))))))))), ?_⟩
  intro j hj
  rw [updL_ag _ _ _ j (by omega), upd'_ne (by omega), a8 j (by omega), b7 j (by omega), a6 j (by omega), a5 j (by omega), a4 j (by omega), a3 j (by omega), a2 j (by omega), a1 j (by omega), a0 j (by omega)]

end T.B281
end
section
/-! K01b558: the round that begins with 558 cells. -/
namespace T.B558
open PySem L2 G T
theorem take0 {g : Nat → Option Cell} {n : Nat} {a b : Int} {k : Nat} (hb0 : 0 ≤ b) (hb : b < 2147483549) (hg : g 557 = some (.lst [.int a, .int b, .int 0])) : ∃ r a' b' : Int, 0 ≤ b' ∧ b' < 2147483549 ∧ 0 ≤ r ∧ r < ((15 : Nat) : Int) ∧
    cal (k + 1) 1 [.ref 557, .int 15] (fu g n) = some (.ok (.int r) (fu (upd' g 557 (.lst [.int a', .int b', .int 1])) n)) := by
  rw [← upd'_self hg]
  simp only [upd'_upd']
  have hb2 : 0 ≤ (b * 78007 + 0 + 27211) % 2147483549 ∧ (b * 78007 + 0 + 27211) % 2147483549 < 2147483549 := ⟨Int.emod_nonneg _ (by decide), Int.emod_lt_of_pos _ (by decide)⟩
  have hc : eS k ⟨false, true⟩ b1 [some (.ref 557), some (.int 15), none, none, none] (fu (upd' g 557 (.lst [.int a, .int b, .int 0])) n) = eS k ⟨false, true⟩ (dropS 3 b1) [some (.ref 557), some (.int 15), some (.int a), some (.int b), some (.int 0)]
      (((fu (upd' g 557 (.lst [.int a, .int b, .int 0])) n).put 557 (.lst [.int a, .int ((b * 78007 + 0 + 27211) % 2147483549), .int 0])).put 557 (.lst [.int a, .int ((b * 78007 + 0 + 27211) % 2147483549), .int 1])) := by
    have h0 : eS k ⟨false, true⟩ (headS b1) [some (.ref 557), some (.int 15), none, none, none] (fu (upd' g 557 (.lst [.int a, .int b, .int 0])) n) = some (.ok (.nx [some (.ref 557), some (.int 15), some (.int a), some (.int b), some (.int 0)]) (fu (upd' g 557 (.lst [.int a, .int b, .int 0])) n)) := by kernel_rfl
    have h1 : eS k ⟨false, true⟩ (headS (dropS 1 b1)) [some (.ref 557), some (.int 15), some (.int a), some (.int b), some (.int 0)] (fu (upd' g 557 (.lst [.int a, .int b, .int 0])) n) = some (.ok (.nx [some (.ref 557), some (.int 15), some (.int a), some (.int b), some (.int 0)])
      ((fu (upd' g 557 (.lst [.int a, .int b, .int 0])) n).put 557 (.lst [.int a, .int ((b * 78007 + 0 + 27211) % 2147483549), .int 0]))) :=
      run_asgx (v := .int ((b * 78007 + 0 + 27211) % 2147483549)) (S' := fu (upd' g 557 (.lst [.int a, .int b, .int 0])) n) (seed_ok (K := 78007) (L := 0) hb0 hb (by kernel_rfl) (by decide) (by decide) (by kernel_rfl) rfl rfl) (by kernel_rfl)
    have h2 : eS k ⟨false, true⟩ (headS (dropS 2 b1)) [some (.ref 557), some (.int 15), some (.int a), some (.int b), some (.int 0)] ((fu (upd' g 557 (.lst [.int a, .int b, .int 0])) n).put 557 (.lst [.int a, .int ((b * 78007 + 0 + 27211) % 2147483549), .int 0])) = some (.ok (.nx [some (.ref 557), some (.int 15), some (.int a), some (.int b), some (.int 0)])
      (((fu (upd' g 557 (.lst [.int a, .int b, .int 0])) n).put 557 (.lst [.int a, .int ((b * 78007 + 0 + 27211) % 2147483549), .int 0])).put 557 (.lst [.int a, .int ((b * 78007 + 0 + 27211) % 2147483549), .int 1]))) := by kernel_rfl
    exact (run_seq h0).trans ((run_seq h1).trans (run_seq h2))
  rw [fu_put (by decide), fu_put (by decide), upd'_upd', upd'_upd'] at hc
  generalize (b * 78007 + 0 + 27211) % 2147483549 = b2 at hc hb2
  have hq : eT k ⟨false, true⟩ (.cmp .gt (.var 2) (.con (.int 0))) [some (.ref 557), some (.int 15), some (.int a), some (.int b), some (.int 0)] (fu (upd' g 557 (.lst [.int a, .int b2, .int 1])) n) = some (.ok (decide (0 < a)) (fu (upd' g 557 (.lst [.int a, .int b2, .int 1])) n)) := by kernel_rfl
  have emod : ∀ z : Int, 0 ≤ z % ((15 : Nat) : Int) ∧ z % ((15 : Nat) : Int) < ((15 : Nat) : Int) := fun z => ⟨Int.emod_nonneg _ (by decide), Int.emod_lt_of_pos _ (by decide)⟩
  unfold b1 at hc
  simp only [dropS] at hc
  by_cases h : 0 < a
  · refine ⟨a % ((15 : Nat) : Int), a / ((15 : Nat) : Int), b2, hb2.1, hb2.2, (emod a).1, (emod a).2, ?_⟩
    refine call_of (k := k) (fl := .rt (.int (a % ((15 : Nat) : Int)))) (show dat.P 1 = some _ from rfl) (show dat.F 1 = some _ from rfl) ?_
    refine Eq.trans hc ?_
    refine run_ret ?_
    rw [run_if hq, if_pos (decide_eq_true h)]
    have s1 : eS k ⟨false, true⟩ (.asg (.ix (.var 0) (.con (.int 0))) (.bin .div (.fun_ .int (.cons (.var 2) .nil)) (.var 1))) [some (.ref 557), some (.int 15), some (.int a), some (.int b), some (.int 0)] (fu (upd' g 557 (.lst [.int a, .int b2, .int 1])) n) = some (.ok (.nx [some (.ref 557), some (.int 15), some (.int a), some (.int b), some (.int 0)]) ((fu (upd' g 557 (.lst [.int a, .int b2, .int 1])) n).put 557 (.lst [.int (a / ((15 : Nat) : Int)), .int b2, .int 1]))) := by kernel_rfl
    rw [fu_put (by decide), upd'_upd'] at s1
    rw [run_seq s1]
    exact run_ret (run_rete (by kernel_rfl))
  · refine ⟨b2 / 128 % ((15 : Nat) : Int), a, b2, hb2.1, hb2.2, (emod _).1, (emod _).2, ?_⟩
    refine call_of (k := k) (fl := .rt (.int (b2 / 128 % ((15 : Nat) : Int)))) (show dat.P 1 = some _ from rfl) (show dat.F 1 = some _ from rfl) ?_
    refine Eq.trans hc ?_
    rw [run_seq (run_no (by rw [hq, decide_eq_false h]))]
    exact run_ret (run_rete (by kernel_rfl))
theorem take1 {g : Nat → Option Cell} {n : Nat} {a b : Int} {k : Nat} (hb0 : 0 ≤ b) (hb : b < 2147483549) (hg : g 557 = some (.lst [.int a, .int b, .int 1])) : ∃ r a' b' : Int, 0 ≤ b' ∧ b' < 2147483549 ∧ 0 ≤ r ∧ r < ((6 : Nat) : Int) ∧
    cal (k + 1) 1 [.ref 557, .int 6] (fu g n) = some (.ok (.int r) (fu (upd' g 557 (.lst [.int a', .int b', .int 2])) n)) := by
  rw [← upd'_self hg]
  simp only [upd'_upd']
  have hb2 : 0 ≤ (b * 78013 + 41011 + 27211) % 2147483549 ∧ (b * 78013 + 41011 + 27211) % 2147483549 < 2147483549 := ⟨Int.emod_nonneg _ (by decide), Int.emod_lt_of_pos _ (by decide)⟩
  have hc : eS k ⟨false, true⟩ b1 [some (.ref 557), some (.int 6), none, none, none] (fu (upd' g 557 (.lst [.int a, .int b, .int 1])) n) = eS k ⟨false, true⟩ (dropS 3 b1) [some (.ref 557), some (.int 6), some (.int a), some (.int b), some (.int 1)]
      (((fu (upd' g 557 (.lst [.int a, .int b, .int 1])) n).put 557 (.lst [.int a, .int ((b * 78013 + 41011 + 27211) % 2147483549), .int 1])).put 557 (.lst [.int a, .int ((b * 78013 + 41011 + 27211) % 2147483549), .int 2])) := by
    have h0 : eS k ⟨false, true⟩ (headS b1) [some (.ref 557), some (.int 6), none, none, none] (fu (upd' g 557 (.lst [.int a, .int b, .int 1])) n) = some (.ok (.nx [some (.ref 557), some (.int 6), some (.int a), some (.int b), some (.int 1)]) (fu (upd' g 557 (.lst [.int a, .int b, .int 1])) n)) := by kernel_rfl
    have h1 : eS k ⟨false, true⟩ (headS (dropS 1 b1)) [some (.ref 557), some (.int 6), some (.int a), some (.int b), some (.int 1)] (fu (upd' g 557 (.lst [.int a, .int b, .int 1])) n) = some (.ok (.nx [some (.ref 557), some (.int 6), some (.int a), some (.int b), some (.int 1)])
      ((fu (upd' g 557 (.lst [.int a, .int b, .int 1])) n).put 557 (.lst [.int a, .int ((b * 78013 + 41011 + 27211) % 2147483549), .int 1]))) :=
      run_asgx (v := .int ((b * 78013 + 41011 + 27211) % 2147483549)) (S' := fu (upd' g 557 (.lst [.int a, .int b, .int 1])) n) (seed_ok (K := 78013) (L := 41011) hb0 hb (by kernel_rfl) (by decide) (by decide) (by kernel_rfl) rfl rfl) (by kernel_rfl)
    have h2 : eS k ⟨false, true⟩ (headS (dropS 2 b1)) [some (.ref 557), some (.int 6), some (.int a), some (.int b), some (.int 1)] ((fu (upd' g 557 (.lst [.int a, .int b, .int 1])) n).put 557 (.lst [.int a, .int ((b * 78013 + 41011 + 27211) % 2147483549), .int 1])) = some (.ok (.nx [some (.ref 557), some (.int 6), some (.int a), some (.int b), some (.int 1)])
      (((fu (upd' g 557 (.lst [.int a, .int b, .int 1])) n).put 557 (.lst [.int a, .int ((b * 78013 + 41011 + 27211) % 2147483549), .int 1])).put 557 (.lst [.int a, .int ((b * 78013 + 41011 + 27211) % 2147483549), .int 2]))) := by kernel_rfl
    exact (run_seq h0).trans ((run_seq h1).trans (run_seq h2))
  rw [fu_put (by decide), fu_put (by decide), upd'_upd', upd'_upd'] at hc
  generalize (b * 78013 + 41011 + 27211) % 2147483549 = b2 at hc hb2
  have hq : eT k ⟨false, true⟩ (.cmp .gt (.var 2) (.con (.int 0))) [some (.ref 557), some (.int 6), some (.int a), some (.int b), some (.int 1)] (fu (upd' g 557 (.lst [.int a, .int b2, .int 2])) n) = some (.ok (decide (0 < a)) (fu (upd' g 557 (.lst [.int a, .int b2, .int 2])) n)) := by kernel_rfl
  have emod : ∀ z : Int, 0 ≤ z % ((6 : Nat) : Int) ∧ z % ((6 : Nat) : Int) < ((6 : Nat) : Int) := fun z => ⟨Int.emod_nonneg _ (by decide), Int.emod_lt_of_pos _ (by decide)⟩
  unfold b1 at hc
  simp only [dropS] at hc
  by_cases h : 0 < a
  · refine ⟨a % ((6 : Nat) : Int), a / ((6 : Nat) : Int), b2, hb2.1, hb2.2, (emod a).1, (emod a).2, ?_⟩
    refine call_of (k := k) (fl := .rt (.int (a % ((6 : Nat) : Int)))) (show dat.P 1 = some _ from rfl) (show dat.F 1 = some _ from rfl) ?_
    refine Eq.trans hc ?_
    refine run_ret ?_
    rw [run_if hq, if_pos (decide_eq_true h)]
    have s1 : eS k ⟨false, true⟩ (.asg (.ix (.var 0) (.con (.int 0))) (.bin .div (.fun_ .int (.cons (.var 2) .nil)) (.var 1))) [some (.ref 557), some (.int 6), some (.int a), some (.int b), some (.int 1)] (fu (upd' g 557 (.lst [.int a, .int b2, .int 2])) n) = some (.ok (.nx [some (.ref 557), some (.int 6), some (.int a), some (.int b), some (.int 1)]) ((fu (upd' g 557 (.lst [.int a, .int b2, .int 2])) n).put 557 (.lst [.int (a / ((6 : Nat) : Int)), .int b2, .int 2]))) := by kernel_rfl
    rw [fu_put (by decide), upd'_upd'] at s1
    rw [run_seq s1]
    exact run_ret (run_rete (by kernel_rfl))
  · refine ⟨b2 / 128 % ((6 : Nat) : Int), a, b2, hb2.1, hb2.2, (emod _).1, (emod _).2, ?_⟩
    refine call_of (k := k) (fl := .rt (.int (b2 / 128 % ((6 : Nat) : Int)))) (show dat.P 1 = some _ from rfl) (show dat.F 1 = some _ from rfl) ?_
    refine Eq.trans hc ?_
    rw [run_seq (run_no (by rw [hq, decide_eq_false h]))]
    exact run_ret (run_rete (by kernel_rfl))
theorem take2 {g : Nat → Option Cell} {n : Nat} {a b : Int} {k : Nat} (hb0 : 0 ≤ b) (hb : b < 2147483549) (hg : g 557 = some (.lst [.int a, .int b, .int 2])) : ∃ r a' b' : Int, 0 ≤ b' ∧ b' < 2147483549 ∧ 0 ≤ r ∧ r < ((9 : Nat) : Int) ∧
    cal (k + 1) 1 [.ref 557, .int 9] (fu g n) = some (.ok (.int r) (fu (upd' g 557 (.lst [.int a', .int b', .int 3])) n)) := by
  rw [← upd'_self hg]
  simp only [upd'_upd']
  have hb2 : 0 ≤ (b * 78019 + 82022 + 27211) % 2147483549 ∧ (b * 78019 + 82022 + 27211) % 2147483549 < 2147483549 := ⟨Int.emod_nonneg _ (by decide), Int.emod_lt_of_pos _ (by decide)⟩
  have hc : eS k ⟨false, true⟩ b1 [some (.ref 557), some (.int 9), none, none, none] (fu (upd' g 557 (.lst [.int a, .int b, .int 2])) n) = eS k ⟨false, true⟩ (dropS 3 b1) [some (.ref 557), some (.int 9), some (.int a), some (.int b), some (.int 2)]
      (((fu (upd' g 557 (.lst [.int a, .int b, .int 2])) n).put 557 (.lst [.int a, .int ((b * 78019 + 82022 + 27211) % 2147483549), .int 2])).put 557 (.lst [.int a, .int ((b * 78019 + 82022 + 27211) % 2147483549), .int 3])) := by
    have h0 : eS k ⟨false, true⟩ (headS b1) [some (.ref 557), some (.int 9), none, none, none] (fu (upd' g 557 (.lst [.int a, .int b, .int 2])) n) = some (.ok (.nx [some (.ref 557), some (.int 9), some (.int a), some (.int b), some (.int 2)]) (fu (upd' g 557 (.lst [.int a, .int b, .int 2])) n)) := by kernel_rfl
    have h1 : eS k ⟨false, true⟩ (headS (dropS 1 b1)) [some (.ref 557), some (.int 9), some (.int a), some (.int b), some (.int 2)] (fu (upd' g 557 (.lst [.int a, .int b, .int 2])) n) = some (.ok (.nx [some (.ref 557), some (.int 9), some (.int a), some (.int b), some (.int 2)])
      ((fu (upd' g 557 (.lst [.int a, .int b, .int 2])) n).put 557 (.lst [.int a, .int ((b * 78019 + 82022 + 27211) % 2147483549), .int 2]))) :=
      run_asgx (v := .int ((b * 78019 + 82022 + 27211) % 2147483549)) (S' := fu (upd' g 557 (.lst [.int a, .int b, .int 2])) n) (seed_ok (K := 78019) (L := 82022) hb0 hb (by kernel_rfl) (by decide) (by decide) (by kernel_rfl) rfl rfl) (by kernel_rfl)
    have h2 : eS k ⟨false, true⟩ (headS (dropS 2 b1)) [some (.ref 557), some (.int 9), some (.int a), some (.int b), some (.int 2)] ((fu (upd' g 557 (.lst [.int a, .int b, .int 2])) n).put 557 (.lst [.int a, .int ((b * 78019 + 82022 + 27211) % 2147483549), .int 2])) = some (.ok (.nx [some (.ref 557), some (.int 9), some (.int a), some (.int b), some (.int 2)])
      (((fu (upd' g 557 (.lst [.int a, .int b, .int 2])) n).put 557 (.lst [.int a, .int ((b * 78019 + 82022 + 27211) % 2147483549), .int 2])).put 557 (.lst [.int a, .int ((b * 78019 + 82022 + 27211) % 2147483549), .int 3]))) := by kernel_rfl
    exact (run_seq h0).trans ((run_seq h1).trans (run_seq h2))
  rw [fu_put (by decide), fu_put (by decide), upd'_upd', upd'_upd'] at hc
  generalize (b * 78019 + 82022 + 27211) % 2147483549 = b2 at hc hb2
  have hq : eT k ⟨false, true⟩ (.cmp .gt (.var 2) (.con (.int 0))) [some (.ref 557), some (.int 9), some (.int a), some (.int b), some (.int 2)] (fu (upd' g 557 (.lst [.int a, .int b2, .int 3])) n) = some (.ok (decide (0 < a)) (fu (upd' g 557 (.lst [.int a, .int b2, .int 3])) n)) := by kernel_rfl
  have emod : ∀ z : Int, 0 ≤ z % ((9 : Nat) : Int) ∧ z % ((9 : Nat) : Int) < ((9 : Nat) : Int) := fun z => ⟨Int.emod_nonneg _ (by decide), Int.emod_lt_of_pos _ (by decide)⟩
  unfold b1 at hc
  simp only [dropS] at hc
  by_cases h : 0 < a
  · refine ⟨a % ((9 : Nat) : Int), a / ((9 : Nat) : Int), b2, hb2.1, hb2.2, (emod a).1, (emod a).2, ?_⟩
    refine call_of (k := k) (fl := .rt (.int (a % ((9 : Nat) : Int)))) (show dat.P 1 = some _ from rfl) (show dat.F 1 = some _ from rfl) ?_
    refine Eq.trans hc ?_
    refine run_ret ?_
    rw [run_if hq, if_pos (decide_eq_true h)]
    have s1 : eS k ⟨false, true⟩ (.asg (.ix (.var 0) (.con (.int 0))) (.bin .div (.fun_ .int (.cons (.var 2) .nil)) (.var 1))) [some (.ref 557), some (.int 9), some (.int a), some (.int b), some (.int 2)] (fu (upd' g 557 (.lst [.int a, .int b2, .int 3])) n) = some (.ok (.nx [some (.ref 557), some (.int 9), some (.int a), some (.int b), some (.int 2)]) ((fu (upd' g 557 (.lst [.int a, .int b2, .int 3])) n).put 557 (.lst [.int (a / ((9 : Nat) : Int)), .int b2, .int 3]))) := by kernel_rfl
    rw [fu_put (by decide), upd'_upd'] at s1
    rw [run_seq s1]
    exact run_ret (run_rete (by kernel_rfl))
  · refine ⟨b2 / 128 % ((9 : Nat) : Int), a, b2, hb2.1, hb2.2, (emod _).1, (emod _).2, ?_⟩
    refine call_of (k := k) (fl := .rt (.int (b2 / 128 % ((9 : Nat) : Int)))) (show dat.P 1 = some _ from rfl) (show dat.F 1 = some _ from rfl) ?_
    refine Eq.trans hc ?_
    rw [run_seq (run_no (by rw [hq, decide_eq_false h]))]
    exact run_ret (run_rete (by kernel_rfl))
theorem take3 {g : Nat → Option Cell} {n : Nat} {a b : Int} {k : Nat} (hb0 : 0 ≤ b) (hb : b < 2147483549) (hg : g 557 = some (.lst [.int a, .int b, .int 3])) : ∃ r a' b' : Int, 0 ≤ b' ∧ b' < 2147483549 ∧ 0 ≤ r ∧ r < ((9 : Nat) : Int) ∧
    cal (k + 1) 1 [.ref 557, .int 9] (fu g n) = some (.ok (.int r) (fu (upd' g 557 (.lst [.int a', .int b', .int 4])) n)) := by
  rw [← upd'_self hg]
  simp only [upd'_upd']
  have hb2 : 0 ≤ (b * 78025 + 123033 + 27211) % 2147483549 ∧ (b * 78025 + 123033 + 27211) % 2147483549 < 2147483549 := ⟨Int.emod_nonneg _ (by decide), Int.emod_lt_of_pos _ (by decide)⟩
  have hc : eS k ⟨false, true⟩ b1 [some (.ref 557), some (.int 9), none, none, none] (fu (upd' g 557 (.lst [.int a, .int b, .int 3])) n) = eS k ⟨false, true⟩ (dropS 3 b1) [some (.ref 557), some (.int 9), some (.int a), some (.int b), some (.int 3)]
      (((fu (upd' g 557 (.lst [.int a, .int b, .int 3])) n).put 557 (.lst [.int a, .int ((b * 78025 + 123033 + 27211) % 2147483549), .int 3])).put 557 (.lst [.int a, .int ((b * 78025 + 123033 + 27211) % 2147483549), .int 4])) := by
    have h0 : eS k ⟨false, true⟩ (headS b1) [some (.ref 557), some (.int 9), none, none, none] (fu (upd' g 557 (.lst [.int a, .int b, .int 3])) n) = some (.ok (.nx [some (.ref 557), some (.int 9), some (.int a), some (.int b), some (.int 3)]) (fu (upd' g 557 (.lst [.int a, .int b, .int 3])) n)) := by kernel_rfl
    have h1 : eS k ⟨false, true⟩ (headS (dropS 1 b1)) [some (.ref 557), some (.int 9), some (.int a), some (.int b), some (.int 3)] (fu (upd' g 557 (.lst [.int a, .int b, .int 3])) n) = some (.ok (.nx [some (.ref 557), some (.int 9), some (.int a), some (.int b), some (.int 3)])
      ((fu (upd' g 557 (.lst [.int a, .int b, .int 3])) n).put 557 (.lst [.int a, .int ((b * 78025 + 123033 + 27211) % 2147483549), .int 3]))) :=
      run_asgx (v := .int ((b * 78025 + 123033 + 27211) % 2147483549)) (S' := fu (upd' g 557 (.lst [.int a, .int b, .int 3])) n) (seed_ok (K := 78025) (L := 123033) hb0 hb (by kernel_rfl) (by decide) (by decide) (by kernel_rfl) rfl rfl) (by kernel_rfl)
    have h2 : eS k ⟨false, true⟩ (headS (dropS 2 b1)) [some (.ref 557), some (.int 9), some (.int a), some (.int b), some (.int 3)] ((fu (upd' g 557 (.lst [.int a, .int b, .int 3])) n).put 557 (.lst [.int a, .int ((b * 78025 + 123033 + 27211) % 2147483549), .int 3])) = some (.ok (.nx [some (.ref 557), some (.int 9), some (.int a), some (.int b), some (.int 3)])
      (((fu (upd' g 557 (.lst [.int a, .int b, .int 3])) n).put 557 (.lst [.int a, .int ((b * 78025 + 123033 + 27211) % 2147483549), .int 3])).put 557 (.lst [.int a, .int ((b * 78025 + 123033 + 27211) % 2147483549), .int 4]))) := by kernel_rfl
    exact (run_seq h0).trans ((run_seq h1).trans (run_seq h2))
  rw [fu_put (by decide), fu_put (by decide), upd'_upd', upd'_upd'] at hc
  generalize (b * 78025 + 123033 + 27211) % 2147483549 = b2 at hc hb2
  have hq : eT k ⟨false, true⟩ (.cmp .gt (.var 2) (.con (.int 0))) [some (.ref 557), some (.int 9), some (.int a), some (.int b), some (.int 3)] (fu (upd' g 557 (.lst [.int a, .int b2, .int 4])) n) = some (.ok (decide (0 < a)) (fu (upd' g 557 (.lst [.int a, .int b2, .int 4])) n)) := by kernel_rfl
  have emod : ∀ z : Int, 0 ≤ z % ((9 : Nat) : Int) ∧ z % ((9 : Nat) : Int) < ((9 : Nat) : Int) := fun z => ⟨Int.emod_nonneg _ (by decide), Int.emod_lt_of_pos _ (by decide)⟩
  unfold b1 at hc
  simp only [dropS] at hc
  by_cases h : 0 < a
  · refine ⟨a % ((9 : Nat) : Int), a / ((9 : Nat) : Int), b2, hb2.1, hb2.2, (emod a).1, (emod a).2, ?_⟩
    refine call_of (k := k) (fl := .rt (.int (a % ((9 : Nat) : Int)))) (show dat.P 1 = some _ from rfl) (show dat.F 1 = some _ from rfl) ?_
    refine Eq.trans hc ?_
    refine run_ret ?_
    rw [run_if hq, if_pos (decide_eq_true h)]
    have s1 : eS k ⟨false, true⟩ (.asg (.ix (.var 0) (.con (.int 0))) (.bin .div (.fun_ .int (.cons (.var 2) .nil)) (.var 1))) [some (.ref 557), some (.int 9), some (.int a), some (.int b), some (.int 3)] (fu (upd' g 557 (.lst [.int a, .int b2, .int 4])) n) = some (.ok (.nx [some (.ref 557), some (.int 9), some (.int a), some (.int b), some (.int 3)]) ((fu (upd' g 557 (.lst [.int a, .int b2, .int 4])) n).put 557 (.lst [.int (a / ((9 : Nat) : Int)), .int b2, .int 4]))) := by kernel_rfl
    rw [fu_put (by decide), upd'_upd'] at s1
    rw [run_seq s1]
    exact run_ret (run_rete (by kernel_rfl))
  · refine ⟨b2 / 128 % ((9 : Nat) : Int), a, b2, hb2.1, hb2.2, (emod _).1, (emod _).2, ?_⟩
    refine call_of (k := k) (fl := .rt (.int (b2 / 128 % ((9 : Nat) : Int)))) (show dat.P 1 = some _ from rfl) (show dat.F 1 = some _ from rfl) ?_
    refine Eq.trans hc ?_
    rw [run_seq (run_no (by rw [hq, decide_eq_false h]))]
    exact run_ret (run_rete (by kernel_rfl))
theorem c1_593 {g : Nat → Option Cell} {dd : Nat} {pl x w one two : D} {as : List D} : Runs (eT 98 GG C1 (envI dd pl x 0 w one two (.ex 1 as))) g 593 false 597 :=
  Runs.of (cs := [.lst ((List.range 13).map fun i => .bl (Nat.beq (i + 1) 1)), .lst ((List.range 11).map fun i => .bl (Nat.beq (i + 14) 1)), .lst (((List.range 13).map fun i => .bl (Nat.beq (i + 1) 1)) ++ (List.range 11).map fun i => .bl (Nat.beq (i + 14) 1)), .lst ((List.range 24).map fun i => .bl (Nat.beq i 0))]) (by kernel_rfl) (by decide) rfl
theorem c1_597 {g : Nat → Option Cell} {dd : Nat} {pl x w one two : D} {as : List D} : Runs (eT 98 GG C1 (envI dd pl x 0 w one two (.ex 1 as))) g 597 false 601 :=
  Runs.of (cs := [.lst ((List.range 13).map fun i => .bl (Nat.beq (i + 1) 1)), .lst ((List.range 11).map fun i => .bl (Nat.beq (i + 14) 1)), .lst (((List.range 13).map fun i => .bl (Nat.beq (i + 1) 1)) ++ (List.range 11).map fun i => .bl (Nat.beq (i + 14) 1)), .lst ((List.range 24).map fun i => .bl (Nat.beq i 0))]) (by kernel_rfl) (by decide) rfl
theorem c1_601 {g : Nat → Option Cell} {dd : Nat} {pl x w one two : D} {as : List D} : Runs (eT 98 GG C1 (envI dd pl x 1 w one two (.ex 2 as))) g 601 false 605 :=
  Runs.of (cs := [.lst ((List.range 13).map fun i => .bl (Nat.beq (i + 1) 2)), .lst ((List.range 11).map fun i => .bl (Nat.beq (i + 14) 2)), .lst (((List.range 13).map fun i => .bl (Nat.beq (i + 1) 2)) ++ (List.range 11).map fun i => .bl (Nat.beq (i + 14) 2)), .lst ((List.range 24).map fun i => .bl (Nat.beq i 1))]) (by kernel_rfl) (by decide) rfl
theorem c1_605 {g : Nat → Option Cell} {dd : Nat} {pl x w one two : D} {as : List D} : Runs (eT 98 GG C1 (envI dd pl x 1 w one two (.ex 2 as))) g 605 false 609 :=
  Runs.of (cs := [.lst ((List.range 13).map fun i => .bl (Nat.beq (i + 1) 2)), .lst ((List.range 11).map fun i => .bl (Nat.beq (i + 14) 2)), .lst (((List.range 13).map fun i => .bl (Nat.beq (i + 1) 2)) ++ (List.range 11).map fun i => .bl (Nat.beq (i + 14) 2)), .lst ((List.range 24).map fun i => .bl (Nat.beq i 1))]) (by kernel_rfl) (by decide) rfl
theorem c1_609 {g : Nat → Option Cell} {dd : Nat} {pl x w one two : D} {as : List D} : Runs (eT 98 GG C1 (envI dd pl x 2 w one two (.ex 3 as))) g 609 false 613 :=
  Runs.of (cs := [.lst ((List.range 13).map fun i => .bl (Nat.beq (i + 1) 3)), .lst ((List.range 11).map fun i => .bl (Nat.beq (i + 14) 3)), .lst (((List.range 13).map fun i => .bl (Nat.beq (i + 1) 3)) ++ (List.range 11).map fun i => .bl (Nat.beq (i + 14) 3)), .lst ((List.range 24).map fun i => .bl (Nat.beq i 2))]) (by kernel_rfl) (by decide) rfl
theorem c1_613 {g : Nat → Option Cell} {dd : Nat} {pl x w one two : D} {as : List D} : Runs (eT 98 GG C1 (envI dd pl x 2 w one two (.ex 3 as))) g 613 false 617 :=
  Runs.of (cs := [.lst ((List.range 13).map fun i => .bl (Nat.beq (i + 1) 3)), .lst ((List.range 11).map fun i => .bl (Nat.beq (i + 14) 3)), .lst (((List.range 13).map fun i => .bl (Nat.beq (i + 1) 3)) ++ (List.range 11).map fun i => .bl (Nat.beq (i + 14) 3)), .lst ((List.range 24).map fun i => .bl (Nat.beq i 2))]) (by kernel_rfl) (by decide) rfl
theorem c1_617 {g : Nat → Option Cell} {dd : Nat} {pl x w one two : D} {as : List D} : Runs (eT 98 GG C1 (envI dd pl x 3 w one two (.ex 4 as))) g 617 false 621 :=
  Runs.of (cs := [.lst ((List.range 13).map fun i => .bl (Nat.beq (i + 1) 4)), .lst ((List.range 11).map fun i => .bl (Nat.beq (i + 14) 4)), .lst (((List.range 13).map fun i => .bl (Nat.beq (i + 1) 4)) ++ (List.range 11).map fun i => .bl (Nat.beq (i + 14) 4)), .lst ((List.range 24).map fun i => .bl (Nat.beq i 3))]) (by kernel_rfl) (by decide) rfl
theorem c1_621 {g : Nat → Option Cell} {dd : Nat} {pl x w one two : D} {as : List D} : Runs (eT 98 GG C1 (envI dd pl x 3 w one two (.ex 4 as))) g 621 false 625 :=
  Runs.of (cs := [.lst ((List.range 13).map fun i => .bl (Nat.beq (i + 1) 4)), .lst ((List.range 11).map fun i => .bl (Nat.beq (i + 14) 4)), .lst (((List.range 13).map fun i => .bl (Nat.beq (i + 1) 4)) ++ (List.range 11).map fun i => .bl (Nat.beq (i + 14) 4)), .lst ((List.range 24).map fun i => .bl (Nat.beq i 3))]) (by kernel_rfl) (by decide) rfl
theorem c1_625 {g : Nat → Option Cell} {dd : Nat} {pl x w one two : D} {as : List D} : Runs (eT 98 GG C1 (envI dd pl x 4 w one two (.ex 5 as))) g 625 false 629 :=
  Runs.of (cs := [.lst ((List.range 13).map fun i => .bl (Nat.beq (i + 1) 5)), .lst ((List.range 11).map fun i => .bl (Nat.beq (i + 14) 5)), .lst (((List.range 13).map fun i => .bl (Nat.beq (i + 1) 5)) ++ (List.range 11).map fun i => .bl (Nat.beq (i + 14) 5)), .lst ((List.range 24).map fun i => .bl (Nat.beq i 4))]) (by kernel_rfl) (by decide) rfl
theorem c1_629 {g : Nat → Option Cell} {dd : Nat} {pl x w one two : D} {as : List D} : Runs (eT 98 GG C1 (envI dd pl x 4 w one two (.ex 5 as))) g 629 false 633 :=
  Runs.of (cs := [.lst ((List.range 13).map fun i => .bl (Nat.beq (i + 1) 5)), .lst ((List.range 11).map fun i => .bl (Nat.beq (i + 14) 5)), .lst (((List.range 13).map fun i => .bl (Nat.beq (i + 1) 5)) ++ (List.range 11).map fun i => .bl (Nat.beq (i + 14) 5)), .lst ((List.range 24).map fun i => .bl (Nat.beq i 4))]) (by kernel_rfl) (by decide) rfl
theorem c1_633 {g : Nat → Option Cell} {dd : Nat} {pl x w one two : D} {as : List D} : Runs (eT 98 GG C1 (envI dd pl x 5 w one two (.ex 6 as))) g 633 false 637 :=
  Runs.of (cs := [.lst ((List.range 13).map fun i => .bl (Nat.beq (i + 1) 6)), .lst ((List.range 11).map fun i => .bl (Nat.beq (i + 14) 6)), .lst (((List.range 13).map fun i => .bl (Nat.beq (i + 1) 6)) ++ (List.range 11).map fun i => .bl (Nat.beq (i + 14) 6)), .lst ((List.range 24).map fun i => .bl (Nat.beq i 5))]) (by kernel_rfl) (by decide) rfl
theorem c1_637 {g : Nat → Option Cell} {dd : Nat} {pl x w one two : D} {as : List D} : Runs (eT 98 GG C1 (envI dd pl x 5 w one two (.ex 6 as))) g 637 false 641 :=
  Runs.of (cs := [.lst ((List.range 13).map fun i => .bl (Nat.beq (i + 1) 6)), .lst ((List.range 11).map fun i => .bl (Nat.beq (i + 14) 6)), .lst (((List.range 13).map fun i => .bl (Nat.beq (i + 1) 6)) ++ (List.range 11).map fun i => .bl (Nat.beq (i + 14) 6)), .lst ((List.range 24).map fun i => .bl (Nat.beq i 5))]) (by kernel_rfl) (by decide) rfl
theorem c1_641 {g : Nat → Option Cell} {dd : Nat} {pl x w one two : D} {as : List D} : Runs (eT 98 GG C1 (envI dd pl x 6 w one two (.ex 7 as))) g 641 false 645 :=
  Runs.of (cs := [.lst ((List.range 13).map fun i => .bl (Nat.beq (i + 1) 7)), .lst ((List.range 11).map fun i => .bl (Nat.beq (i + 14) 7)), .lst (((List.range 13).map fun i => .bl (Nat.beq (i + 1) 7)) ++ (List.range 11).map fun i => .bl (Nat.beq (i + 14) 7)), .lst ((List.range 24).map fun i => .bl (Nat.beq i 6))]) (by kernel_rfl) (by decide) rfl
theorem c1_645 {g : Nat → Option Cell} {dd : Nat} {pl x w one two : D} {as : List D} : Runs (eT 98 GG C1 (envI dd pl x 6 w one two (.ex 7 as))) g 645 false 649 :=
  Runs.of (cs := [.lst ((List.range 13).map fun i => .bl (Nat.beq (i + 1) 7)), .lst ((List.range 11).map fun i => .bl (Nat.beq (i + 14) 7)), .lst (((List.range 13).map fun i => .bl (Nat.beq (i + 1) 7)) ++ (List.range 11).map fun i => .bl (Nat.beq (i + 14) 7)), .lst ((List.range 24).map fun i => .bl (Nat.beq i 6))]) (by kernel_rfl) (by decide) rfl
theorem c1_649 {g : Nat → Option Cell} {dd : Nat} {pl x w one two : D} {as : List D} : Runs (eT 98 GG C1 (envI dd pl x 7 w one two (.ex 8 as))) g 649 false 653 :=
  Runs.of (cs := [.lst ((List.range 13).map fun i => .bl (Nat.beq (i + 1) 8)), .lst ((List.range 11).map fun i => .bl (Nat.beq (i + 14) 8)), .lst (((List.range 13).map fun i => .bl (Nat.beq (i + 1) 8)) ++ (List.range 11).map fun i => .bl (Nat.beq (i + 14) 8)), .lst ((List.range 24).map fun i => .bl (Nat.beq i 7))]) (by kernel_rfl) (by decide) rfl
theorem c1_653 {g : Nat → Option Cell} {dd : Nat} {pl x w one two : D} {as : List D} : Runs (eT 98 GG C1 (envI dd pl x 7 w one two (.ex 8 as))) g 653 false 657 :=
  Runs.of (cs := [.lst ((List.range 13).map fun i => .bl (Nat.beq (i + 1) 8)), .lst ((List.range 11).map fun i => .bl (Nat.beq (i + 14) 8)), .lst (((List.range 13).map fun i => .bl (Nat.beq (i + 1) 8)) ++ (List.range 11).map fun i => .bl (Nat.beq (i + 14) 8)), .lst ((List.range 24).map fun i => .bl (Nat.beq i 7))]) (by kernel_rfl) (by decide) rfl
theorem c1_657 {g : Nat → Option Cell} {dd : Nat} {pl x w one two : D} {as : List D} : Runs (eT 98 GG C1 (envI dd pl x 8 w one two (.ex 9 as))) g 657 false 661 :=
  Runs.of (cs := [.lst ((List.range 13).map fun i => .bl (Nat.beq (i + 1) 9)), .lst ((List.range 11).map fun i => .bl (Nat.beq (i + 14) 9)), .lst (((List.range 13).map fun i => .bl (Nat.beq (i + 1) 9)) ++ (List.range 11).map fun i => .bl (Nat.beq (i + 14) 9)), .lst ((List.range 24).map fun i => .bl (Nat.beq i 8))]) (by kernel_rfl) (by decide) rfl
theorem c1_661 {g : Nat → Option Cell} {dd : Nat} {pl x w one two : D} {as : List D} : Runs (eT 98 GG C1 (envI dd pl x 8 w one two (.ex 9 as))) g 661 false 665 :=
  Runs.of (cs := [.lst ((List.range 13).map fun i => .bl (Nat.beq (i + 1) 9)), .lst ((List.range 11).map fun i => .bl (Nat.beq (i + 14) 9)), .lst (((List.range 13).map fun i => .bl (Nat.beq (i + 1) 9)) ++ (List.range 11).map fun i => .bl (Nat.beq (i + 14) 9)), .lst ((List.range 24).map fun i => .bl (Nat.beq i 8))]) (by kernel_rfl) (by decide) rfl
theorem c1_665 {g : Nat → Option Cell} {dd : Nat} {pl x w one two : D} {as : List D} : Runs (eT 98 GG C1 (envI dd pl x 9 w one two (.ex 10 as))) g 665 false 669 :=
  Runs.of (cs := [.lst ((List.range 13).map fun i => .bl (Nat.beq (i + 1) 10)), .lst ((List.range 11).map fun i => .bl (Nat.beq (i + 14) 10)), .lst (((List.range 13).map fun i => .bl (Nat.beq (i + 1) 10)) ++ (List.range 11).map fun i => .bl (Nat.beq (i + 14) 10)), .lst ((List.range 24).map fun i => .bl (Nat.beq i 9))]) (by kernel_rfl) (by decide) rfl
theorem c1_669 {g : Nat → Option Cell} {dd : Nat} {pl x w one two : D} {as : List D} : Runs (eT 98 GG C1 (envI dd pl x 9 w one two (.ex 10 as))) g 669 false 673 :=
  Runs.of (cs := [.lst ((List.range 13).map fun i => .bl (Nat.beq (i + 1) 10)), .lst ((List.range 11).map fun i => .bl (Nat.beq (i + 14) 10)), .lst (((List.range 13).map fun i => .bl (Nat.beq (i + 1) 10)) ++ (List.range 11).map fun i => .bl (Nat.beq (i + 14) 10)), .lst ((List.range 24).map fun i => .bl (Nat.beq i 9))]) (by kernel_rfl) (by decide) rfl
theorem c1_673 {g : Nat → Option Cell} {dd : Nat} {pl x w one two : D} {as : List D} : Runs (eT 98 GG C1 (envI dd pl x 10 w one two (.ex 11 as))) g 673 false 677 :=
  Runs.of (cs := [.lst ((List.range 13).map fun i => .bl (Nat.beq (i + 1) 11)), .lst ((List.range 11).map fun i => .bl (Nat.beq (i + 14) 11)), .lst (((List.range 13).map fun i => .bl (Nat.beq (i + 1) 11)) ++ (List.range 11).map fun i => .bl (Nat.beq (i + 14) 11)), .lst ((List.range 24).map fun i => .bl (Nat.beq i 10))]) (by kernel_rfl) (by decide) rfl
theorem c1_677 {g : Nat → Option Cell} {dd : Nat} {pl x w one two : D} {as : List D} : Runs (eT 98 GG C1 (envI dd pl x 10 w one two (.ex 11 as))) g 677 false 681 :=
  Runs.of (cs := [.lst ((List.range 13).map fun i => .bl (Nat.beq (i + 1) 11)), .lst ((List.range 11).map fun i => .bl (Nat.beq (i + 14) 11)), .lst (((List.range 13).map fun i => .bl (Nat.beq (i + 1) 11)) ++ (List.range 11).map fun i => .bl (Nat.beq (i + 14) 11)), .lst ((List.range 24).map fun i => .bl (Nat.beq i 10))]) (by kernel_rfl) (by decide) rfl
theorem c1_681 {g : Nat → Option Cell} {dd : Nat} {pl x w one two : D} {as : List D} : Runs (eT 98 GG C1 (envI dd pl x 11 w one two (.ex 12 as))) g 681 false 685 :=
  Runs.of (cs := [.lst ((List.range 13).map fun i => .bl (Nat.beq (i + 1) 12)), .lst ((List.range 11).map fun i => .bl (Nat.beq (i + 14) 12)), .lst (((List.range 13).map fun i => .bl (Nat.beq (i + 1) 12)) ++ (List.range 11).map fun i => .bl (Nat.beq (i + 14) 12)), .lst ((List.range 24).map fun i => .bl (Nat.beq i 11))]) (by kernel_rfl) (by decide) rfl
theorem c1_685 {g : Nat → Option Cell} {dd : Nat} {pl x w one two : D} {as : List D} : Runs (eT 98 GG C1 (envI dd pl x 11 w one two (.ex 12 as))) g 685 false 689 :=
  Runs.of (cs := [.lst ((List.range 13).map fun i => .bl (Nat.beq (i + 1) 12)), .lst ((List.range 11).map fun i => .bl (Nat.beq (i + 14) 12)), .lst (((List.range 13).map fun i => .bl (Nat.beq (i + 1) 12)) ++ (List.range 11).map fun i => .bl (Nat.beq (i + 14) 12)), .lst ((List.range 24).map fun i => .bl (Nat.beq i 11))]) (by kernel_rfl) (by decide) rfl
theorem c1_689 {g : Nat → Option Cell} {dd : Nat} {pl x w one two : D} {as : List D} : Runs (eT 98 GG C1 (envI dd pl x 12 w one two (.ex 13 as))) g 689 false 693 :=
  Runs.of (cs := [.lst ((List.range 13).map fun i => .bl (Nat.beq (i + 1) 13)), .lst ((List.range 11).map fun i => .bl (Nat.beq (i + 14) 13)), .lst (((List.range 13).map fun i => .bl (Nat.beq (i + 1) 13)) ++ (List.range 11).map fun i => .bl (Nat.beq (i + 14) 13)), .lst ((List.range 24).map fun i => .bl (Nat.beq i 12))]) (by kernel_rfl) (by decide) rfl
theorem c1_693 {g : Nat → Option Cell} {dd : Nat} {pl x w one two : D} {as : List D} : Runs (eT 98 GG C1 (envI dd pl x 12 w one two (.ex 13 as))) g 693 false 697 :=
  Runs.of (cs := [.lst ((List.range 13).map fun i => .bl (Nat.beq (i + 1) 13)), .lst ((List.range 11).map fun i => .bl (Nat.beq (i + 14) 13)), .lst (((List.range 13).map fun i => .bl (Nat.beq (i + 1) 13)) ++ (List.range 11).map fun i => .bl (Nat.beq (i + 14) 13)), .lst ((List.range 24).map fun i => .bl (Nat.beq i 12))]) (by kernel_rfl) (by decide) rfl
theorem c1_697 {g : Nat → Option Cell} {dd : Nat} {pl x w one two : D} {as : List D} : Runs (eT 98 GG C1 (envI dd pl x 13 w one two (.ex 14 as))) g 697 false 701 :=
  Runs.of (cs := [.lst ((List.range 13).map fun i => .bl (Nat.beq (i + 1) 14)), .lst ((List.range 11).map fun i => .bl (Nat.beq (i + 14) 14)), .lst (((List.range 13).map fun i => .bl (Nat.beq (i + 1) 14)) ++ (List.range 11).map fun i => .bl (Nat.beq (i + 14) 14)), .lst ((List.range 24).map fun i => .bl (Nat.beq i 13))]) (by kernel_rfl) (by decide) rfl
theorem c1_701 {g : Nat → Option Cell} {dd : Nat} {pl x w one two : D} {as : List D} : Runs (eT 98 GG C1 (envI dd pl x 13 w one two (.ex 14 as))) g 701 false 705 :=
  Runs.of (cs := [.lst ((List.range 13).map fun i => .bl (Nat.beq (i + 1) 14)), .lst ((List.range 11).map fun i => .bl (Nat.beq (i + 14) 14)), .lst (((List.range 13).map fun i => .bl (Nat.beq (i + 1) 14)) ++ (List.range 11).map fun i => .bl (Nat.beq (i + 14) 14)), .lst ((List.range 24).map fun i => .bl (Nat.beq i 13))]) (by kernel_rfl) (by decide) rfl
theorem c1_705 {g : Nat → Option Cell} {dd : Nat} {pl x w one two : D} {as : List D} : Runs (eT 98 GG C1 (envI dd pl x 14 w one two (.ex 15 as))) g 705 false 709 :=
  Runs.of (cs := [.lst ((List.range 13).map fun i => .bl (Nat.beq (i + 1) 15)), .lst ((List.range 11).map fun i => .bl (Nat.beq (i + 14) 15)), .lst (((List.range 13).map fun i => .bl (Nat.beq (i + 1) 15)) ++ (List.range 11).map fun i => .bl (Nat.beq (i + 14) 15)), .lst ((List.range 24).map fun i => .bl (Nat.beq i 14))]) (by kernel_rfl) (by decide) rfl
theorem c1_710 {g : Nat → Option Cell} {dd : Nat} {pl x w one two : D} {as : List D} : Runs (eT 98 GG C1 (envI dd pl x 14 w one two (.ex 15 as))) g 710 false 714 :=
  Runs.of (cs := [.lst ((List.range 13).map fun i => .bl (Nat.beq (i + 1) 15)), .lst ((List.range 11).map fun i => .bl (Nat.beq (i + 14) 15)), .lst (((List.range 13).map fun i => .bl (Nat.beq (i + 1) 15)) ++ (List.range 11).map fun i => .bl (Nat.beq (i + 14) 15)), .lst ((List.range 24).map fun i => .bl (Nat.beq i 14))]) (by kernel_rfl) (by decide) rfl
theorem c1_715 {g : Nat → Option Cell} {dd : Nat} {pl x w one two : D} {as : List D} : Runs (eT 98 GG C1 (envI dd pl x 15 w one two (.ex 16 as))) g 715 false 719 :=
  Runs.of (cs := [.lst ((List.range 13).map fun i => .bl (Nat.beq (i + 1) 16)), .lst ((List.range 11).map fun i => .bl (Nat.beq (i + 14) 16)), .lst (((List.range 13).map fun i => .bl (Nat.beq (i + 1) 16)) ++ (List.range 11).map fun i => .bl (Nat.beq (i + 14) 16)), .lst ((List.range 24).map fun i => .bl (Nat.beq i 15))]) (by kernel_rfl) (by decide) rfl
theorem c1_719 {g : Nat → Option Cell} {dd : Nat} {pl x w one two : D} {as : List D} : Runs (eT 98 GG C1 (envI dd pl x 15 w one two (.ex 16 as))) g 719 false 723 :=
  Runs.of (cs := [.lst ((List.range 13).map fun i => .bl (Nat.beq (i + 1) 16)), .lst ((List.range 11).map fun i => .bl (Nat.beq (i + 14) 16)), .lst (((List.range 13).map fun i => .bl (Nat.beq (i + 1) 16)) ++ (List.range 11).map fun i => .bl (Nat.beq (i + 14) 16)), .lst ((List.range 24).map fun i => .bl (Nat.beq i 15))]) (by kernel_rfl) (by decide) rfl
theorem c1_723 {g : Nat → Option Cell} {dd : Nat} {pl x w one two : D} {as : List D} : Runs (eT 98 GG C1 (envI dd pl x 16 w one two (.ex 17 as))) g 723 false 727 :=
  Runs.of (cs := [.lst ((List.range 13).map fun i => .bl (Nat.beq (i + 1) 17)), .lst ((List.range 11).map fun i => .bl (Nat.beq (i + 14) 17)), .lst (((List.range 13).map fun i => .bl (Nat.beq (i + 1) 17)) ++ (List.range 11).map fun i => .bl (Nat.beq (i + 14) 17)), .lst ((List.range 24).map fun i => .bl (Nat.beq i 16))]) (by kernel_rfl) (by decide) rfl
theorem c1_727 {g : Nat → Option Cell} {dd : Nat} {pl x w one two : D} {as : List D} : Runs (eT 98 GG C1 (envI dd pl x 16 w one two (.ex 17 as))) g 727 false 731 :=
  Runs.of (cs := [.lst ((List.range 13).map fun i => .bl (Nat.beq (i + 1) 17)), .lst ((List.range 11).map fun i => .bl (Nat.beq (i + 14) 17)), .lst (((List.range 13).map fun i => .bl (Nat.beq (i + 1) 17)) ++ (List.range 11).map fun i => .bl (Nat.beq (i + 14) 17)), .lst ((List.range 24).map fun i => .bl (Nat.beq i 16))]) (by kernel_rfl) (by decide) rfl
theorem c1_731 {g : Nat → Option Cell} {dd : Nat} {pl x w one two : D} {as : List D} : Runs (eT 98 GG C1 (envI dd pl x 17 w one two (.ex 18 as))) g 731 false 735 :=
  Runs.of (cs := [.lst ((List.range 13).map fun i => .bl (Nat.beq (i + 1) 18)), .lst ((List.range 11).map fun i => .bl (Nat.beq (i + 14) 18)), .lst (((List.range 13).map fun i => .bl (Nat.beq (i + 1) 18)) ++ (List.range 11).map fun i => .bl (Nat.beq (i + 14) 18)), .lst ((List.range 24).map fun i => .bl (Nat.beq i 17))]) (by kernel_rfl) (by decide) rfl
theorem c1_735 {g : Nat → Option Cell} {dd : Nat} {pl x w one two : D} {as : List D} : Runs (eT 98 GG C1 (envI dd pl x 17 w one two (.ex 18 as))) g 735 false 739 :=
  Runs.of (cs := [.lst ((List.range 13).map fun i => .bl (Nat.beq (i + 1) 18)), .lst ((List.range 11).map fun i => .bl (Nat.beq (i + 14) 18)), .lst (((List.range 13).map fun i => .bl (Nat.beq (i + 1) 18)) ++ (List.range 11).map fun i => .bl (Nat.beq (i + 14) 18)), .lst ((List.range 24).map fun i => .bl (Nat.beq i 17))]) (by kernel_rfl) (by decide) rfl
theorem c1_739 {g : Nat → Option Cell} {dd : Nat} {pl x w one two : D} {as : List D} : Runs (eT 98 GG C1 (envI dd pl x 18 w one two (.ex 19 as))) g 739 false 743 :=
  Runs.of (cs := [.lst ((List.range 13).map fun i => .bl (Nat.beq (i + 1) 19)), .lst ((List.range 11).map fun i => .bl (Nat.beq (i + 14) 19)), .lst (((List.range 13).map fun i => .bl (Nat.beq (i + 1) 19)) ++ (List.range 11).map fun i => .bl (Nat.beq (i + 14) 19)), .lst ((List.range 24).map fun i => .bl (Nat.beq i 18))]) (by kernel_rfl) (by decide) rfl
theorem c1_743 {g : Nat → Option Cell} {dd : Nat} {pl x w one two : D} {as : List D} : Runs (eT 98 GG C1 (envI dd pl x 18 w one two (.ex 19 as))) g 743 false 747 :=
  Runs.of (cs := [.lst ((List.range 13).map fun i => .bl (Nat.beq (i + 1) 19)), .lst ((List.range 11).map fun i => .bl (Nat.beq (i + 14) 19)), .lst (((List.range 13).map fun i => .bl (Nat.beq (i + 1) 19)) ++ (List.range 11).map fun i => .bl (Nat.beq (i + 14) 19)), .lst ((List.range 24).map fun i => .bl (Nat.beq i 18))]) (by kernel_rfl) (by decide) rfl
theorem c1_747 {g : Nat → Option Cell} {dd : Nat} {pl x w one two : D} {as : List D} : Runs (eT 98 GG C1 (envI dd pl x 19 w one two (.ex 20 as))) g 747 false 751 :=
  Runs.of (cs := [.lst ((List.range 13).map fun i => .bl (Nat.beq (i + 1) 20)), .lst ((List.range 11).map fun i => .bl (Nat.beq (i + 14) 20)), .lst (((List.range 13).map fun i => .bl (Nat.beq (i + 1) 20)) ++ (List.range 11).map fun i => .bl (Nat.beq (i + 14) 20)), .lst ((List.range 24).map fun i => .bl (Nat.beq i 19))]) (by kernel_rfl) (by decide) rfl
theorem c1_751 {g : Nat → Option Cell} {dd : Nat} {pl x w one two : D} {as : List D} : Runs (eT 98 GG C1 (envI dd pl x 19 w one two (.ex 20 as))) g 751 false 755 :=
  Runs.of (cs := [.lst ((List.range 13).map fun i => .bl (Nat.beq (i + 1) 20)), .lst ((List.range 11).map fun i => .bl (Nat.beq (i + 14) 20)), .lst (((List.range 13).map fun i => .bl (Nat.beq (i + 1) 20)) ++ (List.range 11).map fun i => .bl (Nat.beq (i + 14) 20)), .lst ((List.range 24).map fun i => .bl (Nat.beq i 19))]) (by kernel_rfl) (by decide) rfl
theorem c1_755 {g : Nat → Option Cell} {dd : Nat} {pl x w one two : D} {as : List D} : Runs (eT 98 GG C1 (envI dd pl x 20 w one two (.ex 21 as))) g 755 false 759 :=
  Runs.of (cs := [.lst ((List.range 13).map fun i => .bl (Nat.beq (i + 1) 21)), .lst ((List.range 11).map fun i => .bl (Nat.beq (i + 14) 21)), .lst (((List.range 13).map fun i => .bl (Nat.beq (i + 1) 21)) ++ (List.range 11).map fun i => .bl (Nat.beq (i + 14) 21)), .lst ((List.range 24).map fun i => .bl (Nat.beq i 20))]) (by kernel_rfl) (by decide) rfl
theorem c1_759 {g : Nat → Option Cell} {dd : Nat} {pl x w one two : D} {as : List D} : Runs (eT 98 GG C1 (envI dd pl x 20 w one two (.ex 21 as))) g 759 false 763 :=
  Runs.of (cs := [.lst ((List.range 13).map fun i => .bl (Nat.beq (i + 1) 21)), .lst ((List.range 11).map fun i => .bl (Nat.beq (i + 14) 21)), .lst (((List.range 13).map fun i => .bl (Nat.beq (i + 1) 21)) ++ (List.range 11).map fun i => .bl (Nat.beq (i + 14) 21)), .lst ((List.range 24).map fun i => .bl (Nat.beq i 20))]) (by kernel_rfl) (by decide) rfl
theorem c1_763 {g : Nat → Option Cell} {dd : Nat} {pl x w one two : D} {as : List D} : Runs (eT 98 GG C1 (envI dd pl x 21 w one two (.ex 22 as))) g 763 false 767 :=
  Runs.of (cs := [.lst ((List.range 13).map fun i => .bl (Nat.beq (i + 1) 22)), .lst ((List.range 11).map fun i => .bl (Nat.beq (i + 14) 22)), .lst (((List.range 13).map fun i => .bl (Nat.beq (i + 1) 22)) ++ (List.range 11).map fun i => .bl (Nat.beq (i + 14) 22)), .lst ((List.range 24).map fun i => .bl (Nat.beq i 21))]) (by kernel_rfl) (by decide) rfl
theorem c1_767 {g : Nat → Option Cell} {dd : Nat} {pl x w one two : D} {as : List D} : Runs (eT 98 GG C1 (envI dd pl x 21 w one two (.ex 22 as))) g 767 false 771 :=
  Runs.of (cs := [.lst ((List.range 13).map fun i => .bl (Nat.beq (i + 1) 22)), .lst ((List.range 11).map fun i => .bl (Nat.beq (i + 14) 22)), .lst (((List.range 13).map fun i => .bl (Nat.beq (i + 1) 22)) ++ (List.range 11).map fun i => .bl (Nat.beq (i + 14) 22)), .lst ((List.range 24).map fun i => .bl (Nat.beq i 21))]) (by kernel_rfl) (by decide) rfl
theorem c1_771 {g : Nat → Option Cell} {dd : Nat} {pl x w one two : D} {as : List D} : Runs (eT 98 GG C1 (envI dd pl x 22 w one two (.ex 23 as))) g 771 false 775 :=
  Runs.of (cs := [.lst ((List.range 13).map fun i => .bl (Nat.beq (i + 1) 23)), .lst ((List.range 11).map fun i => .bl (Nat.beq (i + 14) 23)), .lst (((List.range 13).map fun i => .bl (Nat.beq (i + 1) 23)) ++ (List.range 11).map fun i => .bl (Nat.beq (i + 14) 23)), .lst ((List.range 24).map fun i => .bl (Nat.beq i 22))]) (by kernel_rfl) (by decide) rfl
theorem c1_775 {g : Nat → Option Cell} {dd : Nat} {pl x w one two : D} {as : List D} : Runs (eT 98 GG C1 (envI dd pl x 22 w one two (.ex 23 as))) g 775 false 779 :=
  Runs.of (cs := [.lst ((List.range 13).map fun i => .bl (Nat.beq (i + 1) 23)), .lst ((List.range 11).map fun i => .bl (Nat.beq (i + 14) 23)), .lst (((List.range 13).map fun i => .bl (Nat.beq (i + 1) 23)) ++ (List.range 11).map fun i => .bl (Nat.beq (i + 14) 23)), .lst ((List.range 24).map fun i => .bl (Nat.beq i 22))]) (by kernel_rfl) (by decide) rfl
theorem c1_779 {g : Nat → Option Cell} {dd : Nat} {pl x w one two : D} {as : List D} : Runs (eT 98 GG C1 (envI dd pl x 23 w one two (.ex 24 as))) g 779 false 783 :=
  Runs.of (cs := [.lst ((List.range 13).map fun i => .bl (Nat.beq (i + 1) 24)), .lst ((List.range 11).map fun i => .bl (Nat.beq (i + 14) 24)), .lst (((List.range 13).map fun i => .bl (Nat.beq (i + 1) 24)) ++ (List.range 11).map fun i => .bl (Nat.beq (i + 14) 24)), .lst ((List.range 24).map fun i => .bl (Nat.beq i 23))]) (by kernel_rfl) (by decide) rfl
theorem c1_783 {g : Nat → Option Cell} {dd : Nat} {pl x w one two : D} {as : List D} : Runs (eT 98 GG C1 (envI dd pl x 23 w one two (.ex 24 as))) g 783 false 787 :=
  Runs.of (cs := [.lst ((List.range 13).map fun i => .bl (Nat.beq (i + 1) 24)), .lst ((List.range 11).map fun i => .bl (Nat.beq (i + 14) 24)), .lst (((List.range 13).map fun i => .bl (Nat.beq (i + 1) 24)) ++ (List.range 11).map fun i => .bl (Nat.beq (i + 14) 24)), .lst ((List.range 24).map fun i => .bl (Nat.beq i 23))]) (by kernel_rfl) (by decide) rfl
abbrev e0 : G.Env := [some (.ref 557), none, none, none, none, none, none, none, none, none, none, none]
abbrev e1 : G.Env := [some (.ref 557), some (.tup (plL 558)), none, none, none, none, none, none, none, none, none, none]
abbrev e2 (x : D) (s : Option D) : G.Env := [some (.ref 557), some (.tup (plL 558)), some x, s, none, none, none, none, none, none, none, none]
theorem s0_ok {g : Nat → Option Cell} : eS 98 GG (headS b9) e0 (fu g 558) = some (.ok (.nx e0) (pushL (fu g 558) [.lst ((List.range 13).map fun i => .bl (Nat.beq (i + 1) 99)), .lst ((List.range 11).map fun i => .bl (Nat.beq (i + 14) 99)), .lst (((List.range 13).map fun i => .bl (Nat.beq (i + 1) 99)) ++ (List.range 11).map fun i => .bl (Nat.beq (i + 14) 99))])) := by kernel_rfl
theorem s1_ok {g : Nat → Option Cell} : eS 98 GG (headS (dropS 1 b9)) e0 (fu g 561) = some (.ok (.nx e1) (pushL (fu g 561) [.lst [], .dct []])) := by kernel_rfl
theorem s3_args {g : Nat → Option Cell} {x : D} : eL 98 GG (argS (headS (dropS 3 b9))) (e2 x none) (fu g 563) = some (.ok [.ref 557, .tup (plM 558 x)] (pushL (fu g 563) [.lst [x]])) := by kernel_rfl
theorem s5_it {g : Nat → Option Cell} {x : D} : evI dat.tab dat.P (cal 98) dat.cst GG (forI (headS (dropS 5 b9))) (e2 x (some (.int 0))) (fu g 564) = some (.ok (.lst 592) (pushL (fu g 564) (items x 564))) := by kernel_rfl
theorem s7_ok {g : Nat → Option Cell} {o0 o1 o2 o3 o4 o5 o6 o9 : Option D} : eS 98 GG (headS (dropS 7 b9)) [o0, o1, o2, o3, o4, o5, o6, some (.ref 787), none, o9, none, none] (fu g 788) = some (.ok (.nx [o0, o1, o2, o3, o4, o5, o6, some (.ref 787), some (.ref 816), o9, none, none]) (pushL (fu g 788) (items (.ref 787) 788))) := by kernel_rfl
theorem s10_ok {g : Nat → Option Cell} {x : D} {o0 o1 o3 o4 o5 o6 o7 o8 o9 : Option D} : eS 98 GG (headS (dropS 10 b9)) [o0, o1, some x, o3, o4, o5, o6, o7, o8, o9, none, none] (fu g 817) = some (.ok (.rt (.bl true)) (pushL (fu g 817) [.lst [.bl true, .bl true, .bl true, .bl true, .bl true], .lst ((List.range 13).map fun i => .bl (Nat.beq (i + 1) 1)), .lst ((List.range 11).map fun i => .bl (Nat.beq (i + 14) 1)), .lst (((List.range 13).map fun i => .bl (Nat.beq (i + 1) 1)) ++ (List.range 11).map fun i => .bl (Nat.beq (i + 14) 1)), .lst ((List.range 13).map fun i => .bl (Nat.beq (i + 1) 15)), .lst ((List.range 11).map fun i => .bl (Nat.beq (i + 14) 15)), .lst (((List.range 13).map fun i => .bl (Nat.beq (i + 1) 15)) ++ (List.range 11).map fun i => .bl (Nat.beq (i + 14) 15)), .lst ((List.range 13).map fun i => .bl (Nat.beq (i + 1) 16)), .lst ((List.range 11).map fun i => .bl (Nat.beq (i + 14) 16)), .lst (((List.range 13).map fun i => .bl (Nat.beq (i + 1) 16)) ++ (List.range 11).map fun i => .bl (Nat.beq (i + 14) 16)), .lst ((List.range 13).map fun i => .bl (Nat.beq (i + 1) 18)), .lst ((List.range 11).map fun i => .bl (Nat.beq (i + 14) 18)), .lst (((List.range 13).map fun i => .bl (Nat.beq (i + 1) 18)) ++ (List.range 11).map fun i => .bl (Nat.beq (i + 14) 18)), .lst ((List.range 13).map fun i => .bl (Nat.beq (i + 1) 19)), .lst ((List.range 11).map fun i => .bl (Nat.beq (i + 14) 19)), .lst (((List.range 13).map fun i => .bl (Nat.beq (i + 1) 19)) ++ (List.range 11).map fun i => .bl (Nat.beq (i + 14) 19))])) := by kernel_rfl

theorem loop1 {g : Nat → Option Cell} {x : D} {p : PyData} (T1 : Th 593 (updL g 564 (items x 564)) x p) : ∃ g', eS 98 GG (headS (dropS 5 b9)) (e2 x (some (.int 0))) (fu g 564) = some (.ok (.nx (envI 557 (.tup (plL 558)) x 24 w0 (.ex 24 []) (.ex 24 []) (.ex 24 []))) (fu g' 787)) ∧ Ag 564 g' g := by
  have at_ : ∀ i c, (items x 564)[i]? = some c → updL g 564 (items x 564) (564 + i) = some c := updL_at _ _ _
  have h0 : Ag 564 (updL g 564 (items x 564)) g := updL_ag _ _ _
  have hI := (s5_it (g := g) (x := x)).trans (by rw [pushL_fu _ _ _ (by rw [items_len]; decide), items_len])
  revert T1 at_ h0 hI
  generalize updL g 564 (items x 564) = g0
  intro T1 at_ h0 hI
  have hL : g0 592 = some (.lst (allR 564)) := at_ 28 _ rfl
  have e : turns = 4611686018427387879 + 25 := by decide
  have go : ∃ g', fLoop (.lst 592) (evG dat.tab dat.P (cal 98) dat.cst GG tg3) (eS 98 GG OB) (4611686018427387879 + 25) 0 (e2 x (some (.int 0))) (fu g0 593) = some (.ok (.nx (envI 557 (.tup (plL 558)) x 24 w0 (.ex 24 []) (.ex 24 []) (.ex 24 []))) (fu g' 787)) ∧ Ag 593 g' g0 := by
    have b0 : Ag 593 g0 g0 := Ag.refl
    obtain ⟨g1, f1, b1⟩ := turnI (m := 4611686018427387879 + 24) (i := 0) (dd := 557) (pl := .tup (plL 558)) (x := x) (k := 0) (k' := 1) (o4 := none) (o5 := none) (o6 := none) (o9 := none) (w := wG) (one := (.ex 1 [x])) (two := (.ex 1 [x])) (N := 593) (N1 := 597) (N2 := 597) (N3 := 601) (N4 := 601) (r := 564) (by decide) (by decide) (by decide) (by decide) (by decide) (by decide) (by decide) (by decide) hL rfl (at_ 0 _ rfl) b0 (fun g => c1_593) (c2_x T1 (fun S => by kernel_rfl) (fun S => keptG S x 1 (by decide))) (fun g => c1_597) (c2_x T1 (fun S => by kernel_rfl) (fun S => keptG S x 1 (by decide)))
    obtain ⟨g2, f2, b2⟩ := turnI (m := 4611686018427387879 + 23) (i := 1) (dd := 557) (pl := .tup (plL 558)) (x := x) (k := 1) (k' := 2) (o4 := (some wG)) (o5 := (some (.ex 1 [x]))) (o6 := (some (.ex 1 [x]))) (o9 := (some (.ex 1 [x]))) (w := wG) (one := (.ex 2 [x])) (two := (.ex 2 [x])) (N := 601) (N1 := 605) (N2 := 605) (N3 := 609) (N4 := 609) (r := 565) (by decide) (by decide) (by decide) (by decide) (by decide) (by decide) (by decide) (by decide) hL rfl (at_ 1 _ rfl) b1 (fun g => c1_601) (c2_x T1 (fun S => by kernel_rfl) (fun S => keptG S x 2 (by decide))) (fun g => c1_605) (c2_x T1 (fun S => by kernel_rfl) (fun S => keptG S x 2 (by decide)))
    obtain ⟨g3, f3, b3⟩ := turnI (m := 4611686018427387879 + 22) (i := 2) (dd := 557) (pl := .tup (plL 558)) (x := x) (k := 2) (k' := 3) (o4 := (some wG)) (o5 := (some (.ex 2 [x]))) (o6 := (some (.ex 2 [x]))) (o9 := (some (.ex 2 [x]))) (w := wG) (one := (.ex 3 [x])) (two := (.ex 3 [x])) (N := 609) (N1 := 613) (N2 := 613) (N3 := 617) (N4 := 617) (r := 566) (by decide) (by decide) (by decide) (by decide) (by decide) (by decide) (by decide) (by decide) hL rfl (at_ 2 _ rfl) b2 (fun g => c1_609) (c2_x T1 (fun S => by kernel_rfl) (fun S => keptG S x 3 (by decide))) (fun g => c1_613) (c2_x T1 (fun S => by kernel_rfl) (fun S => keptG S x 3 (by decide)))
    obtain ⟨g4, f4, b4⟩ := turnI (m := 4611686018427387879 + 21) (i := 3) (dd := 557) (pl := .tup (plL 558)) (x := x) (k := 3) (k' := 4) (o4 := (some wG)) (o5 := (some (.ex 3 [x]))) (o6 := (some (.ex 3 [x]))) (o9 := (some (.ex 3 [x]))) (w := wG) (one := (.ex 4 [x])) (two := (.ex 4 [x])) (N := 617) (N1 := 621) (N2 := 621) (N3 := 625) (N4 := 625) (r := 567) (by decide) (by decide) (by decide) (by decide) (by decide) (by decide) (by decide) (by decide) hL rfl (at_ 3 _ rfl) b3 (fun g => c1_617) (c2_x T1 (fun S => by kernel_rfl) (fun S => keptG S x 4 (by decide))) (fun g => c1_621) (c2_x T1 (fun S => by kernel_rfl) (fun S => keptG S x 4 (by decide)))
    obtain ⟨g5, f5, b5⟩ := turnI (m := 4611686018427387879 + 20) (i := 4) (dd := 557) (pl := .tup (plL 558)) (x := x) (k := 4) (k' := 5) (o4 := (some wG)) (o5 := (some (.ex 4 [x]))) (o6 := (some (.ex 4 [x]))) (o9 := (some (.ex 4 [x]))) (w := wG) (one := (.ex 5 [x])) (two := (.ex 5 [x])) (N := 625) (N1 := 629) (N2 := 629) (N3 := 633) (N4 := 633) (r := 568) (by decide) (by decide) (by decide) (by decide) (by decide) (by decide) (by decide) (by decide) hL rfl (at_ 4 _ rfl) b4 (fun g => c1_625) (c2_x T1 (fun S => by kernel_rfl) (fun S => keptG S x 5 (by decide))) (fun g => c1_629) (c2_x T1 (fun S => by kernel_rfl) (fun S => keptG S x 5 (by decide)))
    obtain ⟨g6, f6, b6⟩ := turnI (m := 4611686018427387879 + 19) (i := 5) (dd := 557) (pl := .tup (plL 558)) (x := x) (k := 5) (k' := 6) (o4 := (some wG)) (o5 := (some (.ex 5 [x]))) (o6 := (some (.ex 5 [x]))) (o9 := (some (.ex 5 [x]))) (w := wG) (one := (.ex 6 [x])) (two := (.ex 6 [x])) (N := 633) (N1 := 637) (N2 := 637) (N3 := 641) (N4 := 641) (r := 569) (by decide) (by decide) (by decide) (by decide) (by decide) (by decide) (by decide) (by decide) hL rfl (at_ 5 _ rfl) b5 (fun g => c1_633) (c2_x T1 (fun S => by kernel_rfl) (fun S => keptG S x 6 (by decide))) (fun g => c1_637) (c2_x T1 (fun S => by kernel_rfl) (fun S => keptG S x 6 (by decide)))
    obtain ⟨g7, f7, b7⟩ := turnI (m := 4611686018427387879 + 18) (i := 6) (dd := 557) (pl := .tup (plL 558)) (x := x) (k := 6) (k' := 7) (o4 := (some wG)) (o5 := (some (.ex 6 [x]))) (o6 := (some (.ex 6 [x]))) (o9 := (some (.ex 6 [x]))) (w := wG) (one := (.ex 7 [x])) (two := (.ex 7 [x])) (N := 641) (N1 := 645) (N2 := 645) (N3 := 649) (N4 := 649) (r := 570) (by decide) (by decide) (by decide) (by decide) (by decide) (by decide) (by decide) (by decide) hL rfl (at_ 6 _ rfl) b6 (fun g => c1_641) (c2_x T1 (fun S => by kernel_rfl) (fun S => keptG S x 7 (by decide))) (fun g => c1_645) (c2_x T1 (fun S => by kernel_rfl) (fun S => keptG S x 7 (by decide)))
    obtain ⟨g8, f8, b8⟩ := turnI (m := 4611686018427387879 + 17) (i := 7) (dd := 557) (pl := .tup (plL 558)) (x := x) (k := 7) (k' := 8) (o4 := (some wG)) (o5 := (some (.ex 7 [x]))) (o6 := (some (.ex 7 [x]))) (o9 := (some (.ex 7 [x]))) (w := wG) (one := (.ex 8 [x])) (two := (.ex 8 [x])) (N := 649) (N1 := 653) (N2 := 653) (N3 := 657) (N4 := 657) (r := 571) (by decide) (by decide) (by decide) (by decide) (by decide) (by decide) (by decide) (by decide) hL rfl (at_ 7 _ rfl) b7 (fun g => c1_649) (c2_x T1 (fun S => by kernel_rfl) (fun S => keptG S x 8 (by decide))) (fun g => c1_653) (c2_x T1 (fun S => by kernel_rfl) (fun S => keptG S x 8 (by decide)))
    obtain ⟨g9, f9, b9⟩ := turnI (m := 4611686018427387879 + 16) (i := 8) (dd := 557) (pl := .tup (plL 558)) (x := x) (k := 8) (k' := 9) (o4 := (some wG)) (o5 := (some (.ex 8 [x]))) (o6 := (some (.ex 8 [x]))) (o9 := (some (.ex 8 [x]))) (w := wG) (one := (.ex 9 [x])) (two := (.ex 9 [x])) (N := 657) (N1 := 661) (N2 := 661) (N3 := 665) (N4 := 665) (r := 572) (by decide) (by decide) (by decide) (by decide) (by decide) (by decide) (by decide) (by decide) hL rfl (at_ 8 _ rfl) b8 (fun g => c1_657) (c2_x T1 (fun S => by kernel_rfl) (fun S => keptG S x 9 (by decide))) (fun g => c1_661) (c2_x T1 (fun S => by kernel_rfl) (fun S => keptG S x 9 (by decide)))
    obtain ⟨g10, f10, b10⟩ := turnI (m := 4611686018427387879 + 15) (i := 9) (dd := 557) (pl := .tup (plL 558)) (x := x) (k := 9) (k' := 10) (o4 := (some wG)) (o5 := (some (.ex 9 [x]))) (o6 := (some (.ex 9 [x]))) (o9 := (some (.ex 9 [x]))) (w := wG) (one := (.ex 10 [x])) (two := (.ex 10 [x])) (N := 665) (N1 := 669) (N2 := 669) (N3 := 673) (N4 := 673) (r := 573) (by decide) (by decide) (by decide) (by decide) (by decide) (by decide) (by decide) (by decide) hL rfl (at_ 9 _ rfl) b9 (fun g => c1_665) (c2_x T1 (fun S => by kernel_rfl) (fun S => keptG S x 10 (by decide))) (fun g => c1_669) (c2_x T1 (fun S => by kernel_rfl) (fun S => keptG S x 10 (by decide)))
    obtain ⟨g11, f11, b11⟩ := turnI (m := 4611686018427387879 + 14) (i := 10) (dd := 557) (pl := .tup (plL 558)) (x := x) (k := 10) (k' := 11) (o4 := (some wG)) (o5 := (some (.ex 10 [x]))) (o6 := (some (.ex 10 [x]))) (o9 := (some (.ex 10 [x]))) (w := wG) (one := (.ex 11 [x])) (two := (.ex 11 [x])) (N := 673) (N1 := 677) (N2 := 677) (N3 := 681) (N4 := 681) (r := 574) (by decide) (by decide) (by decide) (by decide) (by decide) (by decide) (by decide) (by decide) hL rfl (at_ 10 _ rfl) b10 (fun g => c1_673) (c2_x T1 (fun S => by kernel_rfl) (fun S => keptG S x 11 (by decide))) (fun g => c1_677) (c2_x T1 (fun S => by kernel_rfl) (fun S => keptG S x 11 (by decide)))
    obtain ⟨g12, f12, b12⟩ := turnI (m := 4611686018427387879 + 13) (i := 11) (dd := 557) (pl := .tup (plL 558)) (x := x) (k := 11) (k' := 12) (o4 := (some wG)) (o5 := (some (.ex 11 [x]))) (o6 := (some (.ex 11 [x]))) (o9 := (some (.ex 11 [x]))) (w := wG) (one := (.ex 12 [x])) (two := (.ex 12 [x])) (N := 681) (N1 := 685) (N2 := 685) (N3 := 689) (N4 := 689) (r := 575) (by decide) (by decide) (by decide) (by decide) (by decide) (by decide) (by decide) (by decide) hL rfl (at_ 11 _ rfl) b11 (fun g => c1_681) (c2_x T1 (fun S => by kernel_rfl) (fun S => keptG S x 12 (by decide))) (fun g => c1_685) (c2_x T1 (fun S => by kernel_rfl) (fun S => keptG S x 12 (by decide)))
    obtain ⟨g13, f13, b13⟩ := turnI (m := 4611686018427387879 + 12) (i := 12) (dd := 557) (pl := .tup (plL 558)) (x := x) (k := 12) (k' := 13) (o4 := (some wG)) (o5 := (some (.ex 12 [x]))) (o6 := (some (.ex 12 [x]))) (o9 := (some (.ex 12 [x]))) (w := wG) (one := (.ex 13 [x])) (two := (.ex 13 [x])) (N := 689) (N1 := 693) (N2 := 693) (N3 := 697) (N4 := 697) (r := 576) (by decide) (by decide) (by decide) (by decide) (by decide) (by decide) (by decide) (by decide) hL rfl (at_ 12 _ rfl) b12 (fun g => c1_689) (c2_x T1 (fun S => by kernel_rfl) (fun S => keptG S x 13 (by decide))) (fun g => c1_693) (c2_x T1 (fun S => by kernel_rfl) (fun S => keptG S x 13 (by decide)))
    obtain ⟨g14, f14, b14⟩ := turnI (m := 4611686018427387879 + 11) (i := 13) (dd := 557) (pl := .tup (plL 558)) (x := x) (k := 13) (k' := 14) (o4 := (some wG)) (o5 := (some (.ex 13 [x]))) (o6 := (some (.ex 13 [x]))) (o9 := (some (.ex 13 [x]))) (w := wG) (one := (.ex 14 [x])) (two := (.ex 14 [x])) (N := 697) (N1 := 701) (N2 := 701) (N3 := 705) (N4 := 705) (r := 577) (by decide) (by decide) (by decide) (by decide) (by decide) (by decide) (by decide) (by decide) hL rfl (at_ 13 _ rfl) b13 (fun g => c1_697) (c2_x T1 (fun S => by kernel_rfl) (fun S => keptG S x 14 (by decide))) (fun g => c1_701) (c2_x T1 (fun S => by kernel_rfl) (fun S => keptG S x 14 (by decide)))
    obtain ⟨g15, f15, b15⟩ := turnI (m := 4611686018427387879 + 10) (i := 14) (dd := 557) (pl := .tup (plL 558)) (x := x) (k := 14) (k' := 15) (o4 := (some wG)) (o5 := (some (.ex 14 [x]))) (o6 := (some (.ex 14 [x]))) (o9 := (some (.ex 14 [x]))) (w := wW) (one := (.ex 15 [x, .ref 579])) (two := (.ex 15 [x, .ref 580])) (N := 705) (N1 := 709) (N2 := 710) (N3 := 714) (N4 := 715) (r := 581) (by decide) (by decide) (by decide) (by decide) (by decide) (by decide) (by decide) (by decide) hL rfl (at_ 17 _ rfl) b14 (fun g => c1_705) (c2_w T1 (j := 579) (by decide) (by decide) (by decide) (at_ 15 _ rfl)) (fun g => c1_710) (c2_w T1 (j := 580) (by decide) (by decide) (by decide) (at_ 16 _ rfl))
    obtain ⟨g16, f16, b16⟩ := turnI (m := 4611686018427387879 + 9) (i := 15) (dd := 557) (pl := .tup (plL 558)) (x := x) (k := 15) (k' := 16) (o4 := (some wW)) (o5 := (some (.ex 15 [x, .ref 579]))) (o6 := (some (.ex 15 [x, .ref 580]))) (o9 := (some (.ex 15 [x, .ref 580]))) (w := wI) (one := (.ex 16 [x])) (two := (.ex 16 [x])) (N := 715) (N1 := 719) (N2 := 719) (N3 := 723) (N4 := 723) (r := 582) (by decide) (by decide) (by decide) (by decide) (by decide) (by decide) (by decide) (by decide) hL rfl (at_ 18 _ rfl) b15 (fun g => c1_715) (c2_x T1 (fun S => by kernel_rfl) (fun S => keptI S x 16 (by decide))) (fun g => c1_719) (c2_x T1 (fun S => by kernel_rfl) (fun S => keptI S x 16 (by decide)))
    obtain ⟨g17, f17, b17⟩ := turnI (m := 4611686018427387879 + 8) (i := 16) (dd := 557) (pl := .tup (plL 558)) (x := x) (k := 16) (k' := 17) (o4 := (some wI)) (o5 := (some (.ex 16 [x]))) (o6 := (some (.ex 16 [x]))) (o9 := (some (.ex 16 [x]))) (w := wI) (one := (.ex 17 [x])) (two := (.ex 17 [x])) (N := 723) (N1 := 727) (N2 := 727) (N3 := 731) (N4 := 731) (r := 583) (by decide) (by decide) (by decide) (by decide) (by decide) (by decide) (by decide) (by decide) hL rfl (at_ 19 _ rfl) b16 (fun g => c1_723) (c2_x T1 (fun S => by kernel_rfl) (fun S => keptI S x 17 (by decide))) (fun g => c1_727) (c2_x T1 (fun S => by kernel_rfl) (fun S => keptI S x 17 (by decide)))
    obtain ⟨g18, f18, b18⟩ := turnI (m := 4611686018427387879 + 7) (i := 17) (dd := 557) (pl := .tup (plL 558)) (x := x) (k := 17) (k' := 18) (o4 := (some wI)) (o5 := (some (.ex 17 [x]))) (o6 := (some (.ex 17 [x]))) (o9 := (some (.ex 17 [x]))) (w := wR) (one := (.ex 18 [x])) (two := (.ex 18 [x])) (N := 731) (N1 := 735) (N2 := 735) (N3 := 739) (N4 := 739) (r := 584) (by decide) (by decide) (by decide) (by decide) (by decide) (by decide) (by decide) (by decide) hL rfl (at_ 20 _ rfl) b17 (fun g => c1_731) (c2_x T1 (fun S => by kernel_rfl) (fun S => keptR S x)) (fun g => c1_735) (c2_x T1 (fun S => by kernel_rfl) (fun S => keptR S x))
    obtain ⟨g19, f19, b19⟩ := turnI (m := 4611686018427387879 + 6) (i := 18) (dd := 557) (pl := .tup (plL 558)) (x := x) (k := 18) (k' := 19) (o4 := (some wR)) (o5 := (some (.ex 18 [x]))) (o6 := (some (.ex 18 [x]))) (o9 := (some (.ex 18 [x]))) (w := w0) (one := (.ex 19 [])) (two := (.ex 19 [])) (N := 739) (N1 := 743) (N2 := 743) (N3 := 747) (N4 := 747) (r := 585) (by decide) (by decide) (by decide) (by decide) (by decide) (by decide) (by decide) (by decide) hL rfl (at_ 21 _ rfl) b18 (fun g => c1_739) (c2_0 (fun S => kept0 S 19 (by decide))) (fun g => c1_743) (c2_0 (fun S => kept0 S 19 (by decide)))
    obtain ⟨g20, f20, b20⟩ := turnI (m := 4611686018427387879 + 5) (i := 19) (dd := 557) (pl := .tup (plL 558)) (x := x) (k := 19) (k' := 20) (o4 := (some w0)) (o5 := (some (.ex 19 []))) (o6 := (some (.ex 19 []))) (o9 := (some (.ex 19 []))) (w := w0) (one := (.ex 20 [])) (two := (.ex 20 [])) (N := 747) (N1 := 751) (N2 := 751) (N3 := 755) (N4 := 755) (r := 586) (by decide) (by decide) (by decide) (by decide) (by decide) (by decide) (by decide) (by decide) hL rfl (at_ 22 _ rfl) b19 (fun g => c1_747) (c2_0 (fun S => kept0 S 20 (by decide))) (fun g => c1_751) (c2_0 (fun S => kept0 S 20 (by decide)))
    obtain ⟨g21, f21, b21⟩ := turnI (m := 4611686018427387879 + 4) (i := 20) (dd := 557) (pl := .tup (plL 558)) (x := x) (k := 20) (k' := 21) (o4 := (some w0)) (o5 := (some (.ex 20 []))) (o6 := (some (.ex 20 []))) (o9 := (some (.ex 20 []))) (w := w0) (one := (.ex 21 [])) (two := (.ex 21 [])) (N := 755) (N1 := 759) (N2 := 759) (N3 := 763) (N4 := 763) (r := 587) (by decide) (by decide) (by decide) (by decide) (by decide) (by decide) (by decide) (by decide) hL rfl (at_ 23 _ rfl) b20 (fun g => c1_755) (c2_0 (fun S => kept0 S 21 (by decide))) (fun g => c1_759) (c2_0 (fun S => kept0 S 21 (by decide)))
    obtain ⟨g22, f22, b22⟩ := turnI (m := 4611686018427387879 + 3) (i := 21) (dd := 557) (pl := .tup (plL 558)) (x := x) (k := 21) (k' := 22) (o4 := (some w0)) (o5 := (some (.ex 21 []))) (o6 := (some (.ex 21 []))) (o9 := (some (.ex 21 []))) (w := w0) (one := (.ex 22 [])) (two := (.ex 22 [])) (N := 763) (N1 := 767) (N2 := 767) (N3 := 771) (N4 := 771) (r := 588) (by decide) (by decide) (by decide) (by decide) (by decide) (by decide) (by decide) (by decide) hL rfl (at_ 24 _ rfl) b21 (fun g => c1_763) (c2_0 (fun S => kept0 S 22 (by decide))) (fun g => c1_767) (c2_0 (fun S => kept0 S 22 (by decide)))
    obtain ⟨g23, f23, b23⟩ := turnI (m := 4611686018427387879 + 2) (i := 22) (dd := 557) (pl := .tup (plL 558)) (x := x) (k := 22) (k' := 23) (o4 := (some w0)) (o5 := (some (.ex 22 []))) (o6 := (some (.ex 22 []))) (o9 := (some (.ex 22 []))) (w := w0) (one := (.ex 23 [])) (two := (.ex 23 [])) (N := 771) (N1 := 775) (N2 := 775) (N3 := 779) (N4 := 779) (r := 589) (by decide) (by decide) (by decide) (by decide) (by decide) (by decide) (by decide) (by decide) hL rfl (at_ 25 _ rfl) b22 (fun g => c1_771) (c2_0 (fun S => kept0 S 23 (by decide))) (fun g => c1_775) (c2_0 (fun S => kept0 S 23 (by decide)))
    obtain ⟨g24, f24, b24⟩ := turnI (m := 4611686018427387879 + 1) (i := 23) (dd := 557) (pl := .tup (plL 558)) (x := x) (k := 23) (k' := 24) (o4 := (some w0)) (o5 := (some (.ex 23 []))) (o6 := (some (.ex 23 []))) (o9 := (some (.ex 23 []))) (w := w0) (one := (.ex 24 [])) (two := (.ex 24 [])) (N := 779) (N1 := 783) (N2 := 783) (N3 := 787) (N4 := 787) (r := 590) (by decide) (by decide) (by decide) (by decide) (by decide) (by decide) (by decide) (by decide) hL rfl (at_ 26 _ rfl) b23 (fun g => c1_779) (c2_0 (fun S => kept0 S 24 (by decide))) (fun g => c1_783) (c2_0 (fun S => kept0 S 24 (by decide)))
    exact ⟨g24, f1.trans (f2.trans (f3.trans (f4.trans (f5.trans (f6.trans (f7.trans (f8.trans (f9.trans (f10.trans (f11.trans (f12.trans (f13.trans (f14.trans (f15.trans (f16.trans (f17.trans (f18.trans (f19.trans (f20.trans (f21.trans (f22.trans (f23.trans (f24.trans (turn_end (by decide) (by decide) hL rfl b24)))))))))))))))))))))))), b24⟩
  obtain ⟨g', f, b⟩ := go
  refine ⟨g', ?_, fun j hj => (b j (by omega)).trans (h0 j hj)⟩
  exact (run_for hI).trans ((congrArg (fun t => fLoop _ _ _ t 0 _ _) e).trans f)

theorem loop2 {g : Nat → Option Cell} {pl x : D} {a b : Int} {o4 o5 o6 o9 : Option D} (hrow : g 787 = some (.lst [.int a, .int b])) (at_ : ∀ i c, (items (.ref 787) 788)[i]? = some c → g (788 + i) = some c) : ∃ w one two, eS 98 GG (headS (dropS 9 b9)) [some (.ref 557), some pl, some x, some (.int 24), o4, o5, o6, some (.ref 787), some (.ref 816), o9, none, none] (fu g 817) = some (.ok (.nx (env2 557 pl x (.int 24) w one two 787 816 o9)) (fu g 817)) := by
  have hL : g 816 = some (.lst (allR 788)) := at_ 28 _ rfl
  have hR : (fu g 817).get 787 = some (.lst [.int a, .int b]) := (fu_get (by decide)).trans hrow
  have hI : evI dat.tab dat.P (cal 98) dat.cst GG (forI (headS (dropS 9 b9))) [some (.ref 557), some pl, some x, some (.int 24), o4, o5, o6, some (.ref 787), some (.ref 816), o9, none, none] (fu g 817) = some (.ok (.lst 816) (fu g 817)) := by
    rw [← upd'_self hL]
    kernel_rfl
  have e : turns = 4611686018427387879 + 25 := by decide
  have f1 := turnJ (m := 4611686018427387879 + 24) (i := 0) (dd := 557) (pl := pl) (x := x) (k3 := .int 24) (row := 787) (o4 := o4) (o5 := o5) (o6 := o6) (o9 := o9) (w := wG) (one := (.ex 1 [.ref 787])) (two := (.ex 1 [.ref 787])) (N := 817) (Q := 817) (L := 816) (r := 788) (by decide) (by decide) (by decide) hL rfl (at_ 0 _ rfl) (c3_x (fun S => by kernel_rfl) hR (fun S => keptG S _ 1 (by decide)) (fun S => keptG S _ 1 (by decide)))
  have f2 := turnJ (m := 4611686018427387879 + 23) (i := 1) (dd := 557) (pl := pl) (x := x) (k3 := .int 24) (row := 787) (o4 := (some wG)) (o5 := (some (.ex 1 [.ref 787]))) (o6 := (some (.ex 1 [.ref 787]))) (o9 := o9) (w := wG) (one := (.ex 2 [.ref 787])) (two := (.ex 2 [.ref 787])) (N := 817) (Q := 817) (L := 816) (r := 789) (by decide) (by decide) (by decide) hL rfl (at_ 1 _ rfl) (c3_x (fun S => by kernel_rfl) hR (fun S => keptG S _ 2 (by decide)) (fun S => keptG S _ 2 (by decide)))
  have f3 := turnJ (m := 4611686018427387879 + 22) (i := 2) (dd := 557) (pl := pl) (x := x) (k3 := .int 24) (row := 787) (o4 := (some wG)) (o5 := (some (.ex 2 [.ref 787]))) (o6 := (some (.ex 2 [.ref 787]))) (o9 := o9) (w := wG) (one := (.ex 3 [.ref 787])) (two := (.ex 3 [.ref 787])) (N := 817) (Q := 817) (L := 816) (r := 790) (by decide) (by decide) (by decide) hL rfl (at_ 2 _ rfl) (c3_x (fun S => by kernel_rfl) hR (fun S => keptG S _ 3 (by decide)) (fun S => keptG S _ 3 (by decide)))
  have f4 := turnJ (m := 4611686018427387879 + 21) (i := 3) (dd := 557) (pl := pl) (x := x) (k3 := .int 24) (row := 787) (o4 := (some wG)) (o5 := (some (.ex 3 [.ref 787]))) (o6 := (some (.ex 3 [.ref 787]))) (o9 := o9) (w := wG) (one := (.ex 4 [.ref 787])) (two := (.ex 4 [.ref 787])) (N := 817) (Q := 817) (L := 816) (r := 791) (by decide) (by decide) (by decide) hL rfl (at_ 3 _ rfl) (c3_x (fun S => by kernel_rfl) hR (fun S => keptG S _ 4 (by decide)) (fun S => keptG S _ 4 (by decide)))
  have f5 := turnJ (m := 4611686018427387879 + 20) (i := 4) (dd := 557) (pl := pl) (x := x) (k3 := .int 24) (row := 787) (o4 := (some wG)) (o5 := (some (.ex 4 [.ref 787]))) (o6 := (some (.ex 4 [.ref 787]))) (o9 := o9) (w := wG) (one := (.ex 5 [.ref 787])) (two := (.ex 5 [.ref 787])) (N := 817) (Q := 817) (L := 816) (r := 792) (by decide) (by decide) (by decide) hL rfl (at_ 4 _ rfl) (c3_x (fun S => by kernel_rfl) hR (fun S => keptG S _ 5 (by decide)) (fun S => keptG S _ 5 (by decide)))
  have f6 := turnJ (m := 4611686018427387879 + 19) (i := 5) (dd := 557) (pl := pl) (x := x) (k3 := .int 24) (row := 787) (o4 := (some wG)) (o5 := (some (.ex 5 [.ref 787]))) (o6 := (some (.ex 5 [.ref 787]))) (o9 := o9) (w := wG) (one := (.ex 6 [.ref 787])) (two := (.ex 6 [.ref 787])) (N := 817) (Q := 817) (L := 816) (r := 793) (by decide) (by decide) (by decide) hL rfl (at_ 5 _ rfl) (c3_x (fun S => by kernel_rfl) hR (fun S => keptG S _ 6 (by decide)) (fun S => keptG S _ 6 (by decide)))
  have f7 := turnJ (m := 4611686018427387879 + 18) (i := 6) (dd := 557) (pl := pl) (x := x) (k3 := .int 24) (row := 787) (o4 := (some wG)) (o5 := (some (.ex 6 [.ref 787]))) (o6 := (some (.ex 6 [.ref 787]))) (o9 := o9) (w := wG) (one := (.ex 7 [.ref 787])) (two := (.ex 7 [.ref 787])) (N := 817) (Q := 817) (L := 816) (r := 794) (by decide) (by decide) (by decide) hL rfl (at_ 6 _ rfl) (c3_x (fun S => by kernel_rfl) hR (fun S => keptG S _ 7 (by decide)) (fun S => keptG S _ 7 (by decide)))
  have f8 := turnJ (m := 4611686018427387879 + 17) (i := 7) (dd := 557) (pl := pl) (x := x) (k3 := .int 24) (row := 787) (o4 := (some wG)) (o5 := (some (.ex 7 [.ref 787]))) (o6 := (some (.ex 7 [.ref 787]))) (o9 := o9) (w := wG) (one := (.ex 8 [.ref 787])) (two := (.ex 8 [.ref 787])) (N := 817) (Q := 817) (L := 816) (r := 795) (by decide) (by decide) (by decide) hL rfl (at_ 7 _ rfl) (c3_x (fun S => by kernel_rfl) hR (fun S => keptG S _ 8 (by decide)) (fun S => keptG S _ 8 (by decide)))
  have f9 := turnJ (m := 4611686018427387879 + 16) (i := 8) (dd := 557) (pl := pl) (x := x) (k3 := .int 24) (row := 787) (o4 := (some wG)) (o5 := (some (.ex 8 [.ref 787]))) (o6 := (some (.ex 8 [.ref 787]))) (o9 := o9) (w := wG) (one := (.ex 9 [.ref 787])) (two := (.ex 9 [.ref 787])) (N := 817) (Q := 817) (L := 816) (r := 796) (by decide) (by decide) (by decide) hL rfl (at_ 8 _ rfl) (c3_x (fun S => by kernel_rfl) hR (fun S => keptG S _ 9 (by decide)) (fun S => keptG S _ 9 (by decide)))
  have f10 := turnJ (m := 4611686018427387879 + 15) (i := 9) (dd := 557) (pl := pl) (x := x) (k3 := .int 24) (row := 787) (o4 := (some wG)) (o5 := (some (.ex 9 [.ref 787]))) (o6 := (some (.ex 9 [.ref 787]))) (o9 := o9) (w := wG) (one := (.ex 10 [.ref 787])) (two := (.ex 10 [.ref 787])) (N := 817) (Q := 817) (L := 816) (r := 797) (by decide) (by decide) (by decide) hL rfl (at_ 9 _ rfl) (c3_x (fun S => by kernel_rfl) hR (fun S => keptG S _ 10 (by decide)) (fun S => keptG S _ 10 (by decide)))
  have f11 := turnJ (m := 4611686018427387879 + 14) (i := 10) (dd := 557) (pl := pl) (x := x) (k3 := .int 24) (row := 787) (o4 := (some wG)) (o5 := (some (.ex 10 [.ref 787]))) (o6 := (some (.ex 10 [.ref 787]))) (o9 := o9) (w := wG) (one := (.ex 11 [.ref 787])) (two := (.ex 11 [.ref 787])) (N := 817) (Q := 817) (L := 816) (r := 798) (by decide) (by decide) (by decide) hL rfl (at_ 10 _ rfl) (c3_x (fun S => by kernel_rfl) hR (fun S => keptG S _ 11 (by decide)) (fun S => keptG S _ 11 (by decide)))
  have f12 := turnJ (m := 4611686018427387879 + 13) (i := 11) (dd := 557) (pl := pl) (x := x) (k3 := .int 24) (row := 787) (o4 := (some wG)) (o5 := (some (.ex 11 [.ref 787]))) (o6 := (some (.ex 11 [.ref 787]))) (o9 := o9) (w := wG) (one := (.ex 12 [.ref 787])) (two := (.ex 12 [.ref 787])) (N := 817) (Q := 817) (L := 816) (r := 799) (by decide) (by decide) (by decide) hL rfl (at_ 11 _ rfl) (c3_x (fun S => by kernel_rfl) hR (fun S => keptG S _ 12 (by decide)) (fun S => keptG S _ 12 (by decide)))
  have f13 := turnJ (m := 4611686018427387879 + 12) (i := 12) (dd := 557) (pl := pl) (x := x) (k3 := .int 24) (row := 787) (o4 := (some wG)) (o5 := (some (.ex 12 [.ref 787]))) (o6 := (some (.ex 12 [.ref 787]))) (o9 := o9) (w := wG) (one := (.ex 13 [.ref 787])) (two := (.ex 13 [.ref 787])) (N := 817) (Q := 817) (L := 816) (r := 800) (by decide) (by decide) (by decide) hL rfl (at_ 12 _ rfl) (c3_x (fun S => by kernel_rfl) hR (fun S => keptG S _ 13 (by decide)) (fun S => keptG S _ 13 (by decide)))
  have f14 := turnJ (m := 4611686018427387879 + 11) (i := 13) (dd := 557) (pl := pl) (x := x) (k3 := .int 24) (row := 787) (o4 := (some wG)) (o5 := (some (.ex 13 [.ref 787]))) (o6 := (some (.ex 13 [.ref 787]))) (o9 := o9) (w := wG) (one := (.ex 14 [.ref 787])) (two := (.ex 14 [.ref 787])) (N := 817) (Q := 817) (L := 816) (r := 801) (by decide) (by decide) (by decide) hL rfl (at_ 13 _ rfl) (c3_x (fun S => by kernel_rfl) hR (fun S => keptG S _ 14 (by decide)) (fun S => keptG S _ 14 (by decide)))
  have f15 := turnJ (m := 4611686018427387879 + 10) (i := 14) (dd := 557) (pl := pl) (x := x) (k3 := .int 24) (row := 787) (o4 := (some wG)) (o5 := (some (.ex 14 [.ref 787]))) (o6 := (some (.ex 14 [.ref 787]))) (o9 := o9) (w := wW) (one := (.ex 15 [.ref 787, .ref 803])) (two := (.ex 15 [.ref 787, .ref 804])) (N := 817) (Q := 817) (L := 816) (r := 805) (by decide) (by decide) (by decide) hL rfl (at_ 17 _ rfl) c3_w
  have f16 := turnJ (m := 4611686018427387879 + 9) (i := 15) (dd := 557) (pl := pl) (x := x) (k3 := .int 24) (row := 787) (o4 := (some wW)) (o5 := (some (.ex 15 [.ref 787, .ref 803]))) (o6 := (some (.ex 15 [.ref 787, .ref 804]))) (o9 := o9) (w := wI) (one := (.ex 16 [.ref 787])) (two := (.ex 16 [.ref 787])) (N := 817) (Q := 817) (L := 816) (r := 806) (by decide) (by decide) (by decide) hL rfl (at_ 18 _ rfl) (c3_x (fun S => by kernel_rfl) hR (fun S => keptI S _ 16 (by decide)) (fun S => keptI S _ 16 (by decide)))
  have f17 := turnJ (m := 4611686018427387879 + 8) (i := 16) (dd := 557) (pl := pl) (x := x) (k3 := .int 24) (row := 787) (o4 := (some wI)) (o5 := (some (.ex 16 [.ref 787]))) (o6 := (some (.ex 16 [.ref 787]))) (o9 := o9) (w := wI) (one := (.ex 17 [.ref 787])) (two := (.ex 17 [.ref 787])) (N := 817) (Q := 817) (L := 816) (r := 807) (by decide) (by decide) (by decide) hL rfl (at_ 19 _ rfl) (c3_x (fun S => by kernel_rfl) hR (fun S => keptI S _ 17 (by decide)) (fun S => keptI S _ 17 (by decide)))
  have f18 := turnJ (m := 4611686018427387879 + 7) (i := 17) (dd := 557) (pl := pl) (x := x) (k3 := .int 24) (row := 787) (o4 := (some wI)) (o5 := (some (.ex 17 [.ref 787]))) (o6 := (some (.ex 17 [.ref 787]))) (o9 := o9) (w := wR) (one := (.ex 18 [.ref 787])) (two := (.ex 18 [.ref 787])) (N := 817) (Q := 817) (L := 816) (r := 808) (by decide) (by decide) (by decide) hL rfl (at_ 20 _ rfl) (c3_x (fun S => by kernel_rfl) hR (fun S => keptR S _) (fun S => keptR S _))
  have f19 := turnJ (m := 4611686018427387879 + 6) (i := 18) (dd := 557) (pl := pl) (x := x) (k3 := .int 24) (row := 787) (o4 := (some wR)) (o5 := (some (.ex 18 [.ref 787]))) (o6 := (some (.ex 18 [.ref 787]))) (o9 := o9) (w := w0) (one := (.ex 19 [])) (two := (.ex 19 [])) (N := 817) (Q := 817) (L := 816) (r := 809) (by decide) (by decide) (by decide) hL rfl (at_ 21 _ rfl) c3_0
  have f20 := turnJ (m := 4611686018427387879 + 5) (i := 19) (dd := 557) (pl := pl) (x := x) (k3 := .int 24) (row := 787) (o4 := (some w0)) (o5 := (some (.ex 19 []))) (o6 := (some (.ex 19 []))) (o9 := o9) (w := w0) (one := (.ex 20 [])) (two := (.ex 20 [])) (N := 817) (Q := 817) (L := 816) (r := 810) (by decide) (by decide) (by decide) hL rfl (at_ 22 _ rfl) c3_0
  have f21 := turnJ (m := 4611686018427387879 + 4) (i := 20) (dd := 557) (pl := pl) (x := x) (k3 := .int 24) (row := 787) (o4 := (some w0)) (o5 := (some (.ex 20 []))) (o6 := (some (.ex 20 []))) (o9 := o9) (w := w0) (one := (.ex 21 [])) (two := (.ex 21 [])) (N := 817) (Q := 817) (L := 816) (r := 811) (by decide) (by decide) (by decide) hL rfl (at_ 23 _ rfl) c3_0
  have f22 := turnJ (m := 4611686018427387879 + 3) (i := 21) (dd := 557) (pl := pl) (x := x) (k3 := .int 24) (row := 787) (o4 := (some w0)) (o5 := (some (.ex 21 []))) (o6 := (some (.ex 21 []))) (o9 := o9) (w := w0) (one := (.ex 22 [])) (two := (.ex 22 [])) (N := 817) (Q := 817) (L := 816) (r := 812) (by decide) (by decide) (by decide) hL rfl (at_ 24 _ rfl) c3_0
  have f23 := turnJ (m := 4611686018427387879 + 2) (i := 22) (dd := 557) (pl := pl) (x := x) (k3 := .int 24) (row := 787) (o4 := (some w0)) (o5 := (some (.ex 22 []))) (o6 := (some (.ex 22 []))) (o9 := o9) (w := w0) (one := (.ex 23 [])) (two := (.ex 23 [])) (N := 817) (Q := 817) (L := 816) (r := 813) (by decide) (by decide) (by decide) hL rfl (at_ 25 _ rfl) c3_0
  have f24 := turnJ (m := 4611686018427387879 + 1) (i := 23) (dd := 557) (pl := pl) (x := x) (k3 := .int 24) (row := 787) (o4 := (some w0)) (o5 := (some (.ex 23 []))) (o6 := (some (.ex 23 []))) (o9 := o9) (w := w0) (one := (.ex 24 [])) (two := (.ex 24 [])) (N := 817) (Q := 817) (L := 816) (r := 814) (by decide) (by decide) (by decide) hL rfl (at_ 26 _ rfl) c3_0
  have go := f1.trans (f2.trans (f3.trans (f4.trans (f5.trans (f6.trans (f7.trans (f8.trans (f9.trans (f10.trans (f11.trans (f12.trans (f13.trans (f14.trans (f15.trans (f16.trans (f17.trans (f18.trans (f19.trans (f20.trans (f21.trans (f22.trans (f23.trans (f24.trans (turn_end (Q := 817) (by decide) (by decide) hL rfl Ag.refl))))))))))))))))))))))))
  exact ⟨_, _, _, (run_for hI).trans ((congrArg (fun t => fLoop _ _ _ t 0 _ _) e).trans go)⟩

theorem right_ok {g : Nat → Option Cell} {a b : Int} (hb0 : 0 ≤ b) (hb : b < 2147483549) (hg : g 557 = some (.lst [.int a, .int b, .int 0])) : ∃ g', cal 99 9 [.ref 557] (fu g 558) = some (.ok (.bl true) (fu g' 833)) ∧ ∀ j, j < 557 → g' j = g j := by
  have h0 := s0_ok (g := g)
  rw [pushL_fu _ _ _ (by decide)] at h0
  have a0 := updL_ag [.lst ((List.range 13).map fun i => .bl (Nat.beq (i + 1) 99)), .lst ((List.range 11).map fun i => .bl (Nat.beq (i + 14) 99)), .lst (((List.range 13).map fun i => .bl (Nat.beq (i + 1) 99)) ++ (List.range 11).map fun i => .bl (Nat.beq (i + 14) 99))] g 558
  revert h0 a0
  generalize updL g 558 [.lst ((List.range 13).map fun i => .bl (Nat.beq (i + 1) 99)), .lst ((List.range 11).map fun i => .bl (Nat.beq (i + 14) 99)), .lst (((List.range 13).map fun i => .bl (Nat.beq (i + 1) 99)) ++ (List.range 11).map fun i => .bl (Nat.beq (i + 14) 99))] = g0
  intro h0 a0
  have h1 := s1_ok (g := g0)
  rw [pushL_fu _ _ _ (by decide)] at h1
  have a1 := updL_ag [.lst [], .dct []] g0 561
  have p3 := updL_at [.lst [], .dct []] g0 561 0 _ rfl
  have p4 := updL_at [.lst [], .dct []] g0 561 1 _ rfl
  revert h1 a1 p3 p4
  generalize updL g0 561 [.lst [], .dct []] = g1
  intro h1 a1 p3 p4
  have d1 : g1 557 = some (.lst [.int a, .int b, .int 0]) := (a1 _ (by decide)).trans ((a0 _ (by decide)).trans hg)
  obtain ⟨r0, a', b', hb0, hb, r00, r01, t0⟩ := take0 (n := 563) hb0 hb d1
  obtain ⟨x1, hx1, q0⟩ := pick_of (xs := plL 558) (m := 15) rfl r00 r01 t0
  have a2 : ∀ j, j ≠ 557 → upd' g1 557 (.lst [.int a', .int b', .int 1]) j = g1 j := fun j hj => upd'_ne hj
  have d2 : upd' g1 557 (.lst [.int a', .int b', .int 1]) 557 = _ := upd'_same
  revert q0 a2 d2
  generalize upd' g1 557 (.lst [.int a', .int b', .int 1]) = g2
  intro q0 a2 d2
  have h2 : eS 98 GG (headS (dropS 2 b9)) e1 (fu g1 563) = some (.ok (.nx (e2 x1 none)) (fu g2 563)) :=
    run_asg ((ev_call (vs := [.ref 557, .tup (plL 558)]) (S' := fu g1 563) rfl rfl rfl (by kernel_rfl)).trans q0)
  have h3 := s3_args (g := g2) (x := x1)
  rw [pushL_fu _ _ _ (by simp only [List.length_cons, List.length_nil]; decide)] at h3
  have a3 := updL_ag [.lst [x1]] g2 563
  have p5 := updL_at [.lst [x1]] g2 563 0 _ rfl
  revert h3 a3 p5
  generalize updL g2 563 [.lst [x1]] = g3
  intro h3 a3 p5
  have d3 := (a3 557 (by decide)).trans d2
  obtain ⟨r1, a', b', hb0, hb, r10, r11, t1⟩ := take1 (n := 564) hb0 hb d3
  obtain ⟨y, hy, q1⟩ := pick_of (xs := plM 558 x1) (m := 6) rfl r10 r11 t1
  have a4 : ∀ j, j ≠ 557 → upd' g3 557 (.lst [.int a', .int b', .int 2]) j = g3 j := fun j hj => upd'_ne hj
  have d4 : upd' g3 557 (.lst [.int a', .int b', .int 2]) 557 = _ := upd'_same
  revert q1 a4 d4
  generalize upd' g3 557 (.lst [.int a', .int b', .int 2]) = g4
  intro q1 a4 d4
  have h3 : eS 98 GG (headS (dropS 3 b9)) (e2 x1 none) (fu g2 563) = some (.ok (.nx (e2 y none)) (fu g4 564)) :=
    run_asg ((ev_call (vs := [.ref 557, .tup (plM 558 x1)]) (S' := fu g3 564) rfl rfl rfl h3).trans q1)
  have h4 : eS 98 GG (headS (dropS 4 b9)) (e2 y none) (fu g4 564) = some (.ok (.nx (e2 y (some (.int 0)))) (fu g4 564)) := by kernel_rfl
  have u4 := updL_ag (items y 564) g4 564
  have m3 := (a4 561 (by decide)).trans ((a3 561 (by decide)).trans ((a2 561 (by decide)).trans p3))
  have m4 := (a4 562 (by decide)).trans ((a3 562 (by decide)).trans ((a2 562 (by decide)).trans p4))
  have m5 := (a4 563 (by decide)).trans p5
  obtain ⟨p, T1⟩ := th2 (N0 := 558) (by decide) hx1 hy (M := 593) (g0 := updL g4 564 (items y 564)) (by decide) ((u4 _ (by decide)).trans m3) ((u4 _ (by decide)).trans m4) ((u4 _ (by decide)).trans m5)
  obtain ⟨g5, h5, a5⟩ := loop1 T1
  have d5 := (a5 557 (by decide)).trans d4
  obtain ⟨r2, a', b', hb0, hb, _, _, t2⟩ := take2 (n := 787) hb0 hb d5
  have a6 : ∀ j, j ≠ 557 → upd' g5 557 (.lst [.int a', .int b', .int 3]) j = g5 j := fun j hj => upd'_ne hj
  have d6 : upd' g5 557 (.lst [.int a', .int b', .int 3]) 557 = _ := upd'_same
  revert t2 a6 d6
  generalize upd' g5 557 (.lst [.int a', .int b', .int 3]) = g6
  intro t2 a6 d6
  have h6 : eS 98 GG (headS (dropS 6 b9)) (envI 557 (.tup (plL 558)) y 24 w0 (.ex 24 []) (.ex 24 []) (.ex 24 [])) (fu g5 787) = some (.ok (.nx [some (.ref 557), some (.tup (plL 558)), some y, some (.int 24), some w0, some (.ex 24 []), some (.ex 24 []), some (.ref 787), none, some (.ex 24 []), none, none]) (fu (upd' g6 787 (.lst [.int r2])) 788)) := by
    have e := ev_lst (k := 98) (gd := GG) (es := .cons (.call 1 2 (.cons (.var 0) (.cons (.con (.int 9)) .nil)) [] .nil) .nil) (env := envI 557 (.tup (plL 558)) y 24 w0 (.ex 24 []) (.ex 24 []) (.ex 24 [])) (vs := [.int r2]) rfl (ev_cons ((ev_call (vs := [.ref 557, .int 9]) (S := fu g5 787) (S' := fu g5 787) rfl rfl rfl (by kernel_rfl)).trans t2) ev_nil)
    rw [fu_push (by decide)] at e
    exact run_asg e
  have a7 := updL_ag (items (.ref 787) 788) (upd' g6 787 (.lst [.int r2])) 788
  have u7 := updL_at (items (.ref 787) 788) (upd' g6 787 (.lst [.int r2])) 788
  have h7 := s7_ok (g := upd' g6 787 (.lst [.int r2])) (o0 := some (.ref 557)) (o1 := some (.tup (plL 558))) (o2 := some y) (o3 := some (.int 24)) (o4 := some w0) (o5 := some (.ex 24 [])) (o6 := some (.ex 24 [])) (o9 := some (.ex 24 []))
  rw [pushL_fu _ _ _ (by rw [items_len]; decide), items_len] at h7
  have c7 : updL (upd' g6 787 (.lst [.int r2])) 788 (items (.ref 787) 788) 787 = some (.lst [.int r2]) := (a7 _ (by decide)).trans upd'_same
  have b7 : ∀ j, j < 787 → updL (upd' g6 787 (.lst [.int r2])) 788 (items (.ref 787) 788) j = g6 j := fun j hj => (a7 _ (by omega)).trans (upd'_ne (by omega))
  revert h7 u7 c7 b7
  generalize updL (upd' g6 787 (.lst [.int r2])) 788 (items (.ref 787) 788) = g7
  intro u7 h7 c7 b7
  have d7 := (b7 557 (by decide)).trans d6
  obtain ⟨r3, a', b', hb0, hb, _, _, t3⟩ := take3 (n := 817) hb0 hb d7
  have a8 : ∀ j, j ≠ 557 → upd' g7 557 (.lst [.int a', .int b', .int 4]) j = g7 j := fun j hj => upd'_ne hj
  revert t3 a8
  generalize upd' g7 557 (.lst [.int a', .int b', .int 4]) = g8
  intro t3 a8
  have h8 : eS 98 GG (headS (dropS 8 b9)) (env2 557 (.tup (plL 558)) y (.int 24) w0 (.ex 24 []) (.ex 24 []) 787 816 (some (.ex 24 []))) (fu g7 817) = some (.ok (.nx (env2 557 (.tup (plL 558)) y (.int 24) w0 (.ex 24 []) (.ex 24 []) 787 816 (some (.ex 24 [])))) (fu (upd' g8 787 (.lst [.int r2, .int r3])) 817)) := by
    have e := ev_append (k := 98) (gd := GG) (a := .var 7) (es := .cons (.call 1 2 (.cons (.var 0) (.cons (.con (.int 9)) .nil)) [] .nil) .nil) (i := 787) (xs := [.int r2]) (v := .int r3) (env := env2 557 (.tup (plL 558)) y (.int 24) w0 (.ex 24 []) (.ex 24 []) 787 816 (some (.ex 24 []))) (S := fu g7 817) (S' := fu g8 817)
      (by kernel_rfl) ((fu_get (by decide)).trans c7) (ev_cons ((ev_call (vs := [.ref 557, .int 9]) (S' := fu g7 817) rfl rfl rfl (by kernel_rfl)).trans t3) ev_nil) ((fu_get (by decide)).trans ((a8 _ (by decide)).trans c7)) rfl
    rw [fu_put (by decide)] at e
    exact run_exp e
  obtain ⟨w, one, two, h9⟩ := loop2 (g := upd' g8 787 (.lst [.int r2, .int r3])) (pl := .tup (plL 558)) (x := y) (a := r2) (b := r3) (o4 := some w0) (o5 := some (.ex 24 [])) (o6 := some (.ex 24 [])) (o9 := some (.ex 24 [])) upd'_same
    (fun i c h => (upd'_ne (by omega)).trans ((a8 _ (by omega)).trans (u7 i c h)))
  have h10 := s10_ok (g := upd' g8 787 (.lst [.int r2, .int r3])) (x := y) (o0 := some (.ref 557)) (o1 := some (.tup (plL 558))) (o3 := some (.int 24)) (o4 := some w) (o5 := some one) (o6 := some two) (o7 := some (.ref 787)) (o8 := some (.ref 816)) (o9 := some (.ex 24 []))
  rw [pushL_fu _ _ _ (by simp only [List.length_cons, List.length_nil]; decide)] at h10
  refine ⟨_, call_of (k := 98) (fl := .rt (.bl true)) (show dat.P 9 = some _ from rfl) (show dat.F 9 = some _ from rfl) ((run_seq h0).trans ((run_seq h1).trans ((run_seq h2).trans ((run_seq h3).trans ((run_seq h4).trans ((run_seq h5).trans ((run_seq h6).trans ((run_seq h7).trans ((run_seq h8).trans ((run_seq h9).trans (run_ret h10))))))))))), ?_⟩
  intro j hj
  rw [updL_ag _ _ _ j (by omega), upd'_ne (by omega), a8 j (by omega), b7 j (by omega), a6 j (by omega), a5 j (by omega), a4 j (by omega), a3 j (by omega), a2 j (by omega), a1 j (by omega), a0 j (by omega)]

end T.B558
end
section
/-! K01s: the purse and the law. -/
namespace T
open PySem L2 G
section
variable {k : Nat} {gd : Md} {env env' : G.Env} {S S' S2 : Sto} {d v e : D}
theorem ev_ite {c : CE} {a b : CE} {q : Bool} (h : eT k gd c env S = some (.ok q S')) : eE k gd (.ite c a b) env S = if q then eE k gd a env S' else eE k gd b env S' := by
  show evE _ _ _ _ _ _ _ _ = _
  rw [evE]
  exact (bnd_ok h).trans (by cases q <;> rfl)
theorem seed_ok2 {i : Nat} {cK cL : CE} {b K L z : Int} {M : Int} (hm : Builtin.Int.intBits b + Builtin.Int.intBits K ≤ 134217728) (hK : eE k gd cK env S = some (.ok (.int K) S)) (hL : eE k gd cL env S = some (.ok (.int L) S)) (hz : z = (b * K + L + M) % 2147483549) (hv : mVar i env S = some (.ok (.int b) S)) :
    eE k gd (.bin .mod (.fun_ .int (.cons (.bin .add (.bin .add (.bin .mul (.var i) cK) cL) (.con (.int M))) .nil)) (.con (.int 2147483549))) env S = some (.ok (.int z) S) := by
  have h1 : eE k gd (.bin .mul (.var i) cK) env S = some (.ok (.int (b * K)) S) := by
    rw [ev_bin (S' := S) (S2 := S) (d := .int b) (e := .int K) (by show evE _ _ _ _ _ _ _ _ = _; rw [evE]; exact hv) hK]
    exact mul_of hm
  have h2 : eE k gd (.bin .add (.bin .mul (.var i) cK) cL) env S = some (.ok (.int (b * K + L)) S) := by
    rw [ev_bin h1 hL]
    rfl
  have h3 : eE k gd (.bin .add (.bin .add (.bin .mul (.var i) cK) cL) (.con (.int M))) env S = some (.ok (.int (b * K + L + M)) S) := by
    rw [ev_bin (S2 := S) (e := .int M) h2 (by show evE _ _ _ _ _ _ _ _ = _; rw [evE]; rfl)]
    rfl
  have h4 : eE k gd (.fun_ .int (.cons (.bin .add (.bin .add (.bin .mul (.var i) cK) cL) (.con (.int M))) .nil)) env S = some (.ok (.int (b * K + L + M)) S) := by
    rw [ev_fun (ev_cons h3 ev_nil)]
    rfl
  rw [ev_bin (S2 := S) (e := .int 2147483549) h4 (by show evE _ _ _ _ _ _ _ _ = _; rw [evE]; rfl), hz]
  rfl
end
abbrev nsC (ns : List Int) : Cell := .frz (ns.map D.int)
theorem len_of {k : Nat} {gd : Md} {env : G.Env} {g : Nat → Option Cell} {n : Nat} {ns : List Int} (h0 : g 0 = some (nsC ns)) (hv : mVar 0 env (fu g n) = some (.ok (.ref 0) (fu g n))) : eE k gd (.fun_ .len (.cons (.var 0) .nil)) env (fu g n) = some (.ok (.int ns.length) (fu g n)) := by
  rw [ev_fun (vs := [.ref 0]) (S' := fu g n) (ev_cons (by show evE _ _ _ _ _ _ _ _ = _; rw [evE]; exact hv) ev_nil)]
  show mLen [.ref 0] (fu g n) = _
  unfold mLen
  simp only [fu_get (show 0 < 1000 by decide), h0, List.length_map]
theorem emodM (z : Int) : 0 ≤ z % 2147483549 ∧ z % 2147483549 < 2147483549 := ⟨Int.emod_nonneg _ (by decide), Int.emod_lt_of_pos _ (by decide)⟩
/-- draws of a cell that is there -/
theorem purseA {k at_ n : Nat} {g : Nat → Option Cell} {ns : List Int} (hB : Bits ns) (h0 : g 0 = some (nsC ns)) (ha : at_ < ns.length) (h3 : at_ < 3) (hn : n + 2 ≤ 1000) :
    ∃ a b : Int, 0 ≤ b ∧ b < 2147483549 ∧ cal (k + 1) 0 [.ref 0, .int at_] (fu g n) = some (.ok (.ref (n + 1)) (fu (upd' (upd' g n (.lst [])) (n + 1) (.lst [.int a, .int b, .int 0])) (n + 2))) := by
  have hc : ns[at_] ∈ ns := List.getElem_mem ha
  have hbits := hB _ hc
  have hlen : ∀ {env : G.Env} {S0}, S0 = fu g n → mVar 0 env S0 = some (.ok (.ref 0) S0) → eE k ⟨false, true⟩ (.fun_ .len (.cons (.var 0) .nil)) env S0 = some (.ok (.int ns.length) S0) := fun {env S0} e h => by subst e; exact len_of h0 h
  have q1 : eT k ⟨false, true⟩ (.cmp .lt (.var 1) (.fun_ .len (.cons (.var 0) .nil))) [some (.ref 0), some (.int at_), none, none, none] (fu g n) = some (.ok true (fu g n)) := by
    refine ev_cmp (S' := fu g n) (d := .int at_) rfl (hlen rfl rfl) ?_
    show some (Res.ok (D.bl (decide ((at_ : Int) < (ns.length : Int)))) (fu g n)) = _
    rw [decide_eq_true (by omega)]
  have hx : eE k ⟨false, true⟩ (.idx (.var 0) (.var 1)) [some (.ref 0), some (.int at_), none, none, none] (fu g n) = some (.ok (.int ns[at_]) (fu g n)) := by
    rw [ev_idx (S' := fu g n) (S2 := fu g n) (d := .ref 0) (e := .int at_) rfl rfl]
    have l : lstAt (fu g n) 0 = some (ns.map D.int) := by
      unfold lstAt
      rw [fu_get (by decide), h0]
    have dd : dAt (ns.map D.int) (at_ : Int) = some (.int ns[at_]) := by
      unfold dAt ixN
      simp [ha]
    show (match lstAt (fu g n) 0 with
      | some ds => match dAt ds (at_ : Int) with
        | some d => some (Res.ok d (fu g n))
        | none => none
      | none => none) = _
    rw [l]
    dsimp only
    rw [dd]
  have s1 : eS k ⟨false, true⟩ (headS b0) [some (.ref 0), some (.int at_), none, none, none] (fu g n) = some (.ok (.nx [some (.ref 0), some (.int at_), some (.int ns[at_]), none, none]) (fu g n)) :=
    run_asg ((ev_ite q1).trans hx)
  generalize hcell : ns[at_] = cell at s1 hbits
  have s2 : eS k ⟨false, true⟩ (headS (dropS 1 b0)) [some (.ref 0), some (.int at_), some (.int cell), none, none] (fu g n) = some (.ok (.nx [some (.ref 0), some (.int at_), some (.int cell), some (.int ((cell * 22003 + (at_ : Int) * 80021 + 3001) % 2147483549)), none]) (fu g n)) := by
    refine run_asg (seed_ok2 (K := 22003) (L := (at_ : Int) * 80021) ?_ rfl ?_ rfl rfl)
    · have e1 := bits_small (j := 22003) (m := 40) (by decide)
      omega
    · rw [ev_bin (S' := fu g n) (S2 := fu g n) (d := .int at_) (e := .int 80021) rfl rfl]
      refine mul_of ?_
      have e1 := bits_small (j := 80021) (m := 40) (by decide)
      have e2 := bits_small (j := (at_ : Int)) (m := 40) (by omega)
      omega
  obtain ⟨b0', b1'⟩ := emodM (cell * 22003 + (at_ : Int) * 80021 + 3001)
  generalize (cell * 22003 + (at_ : Int) * 80021 + 3001) % 2147483549 = b at s2 b0' b1'
  have q3 : eT k ⟨false, true⟩ (.cmp .ge (.var 1) (.fun_ .len (.cons (.var 0) .nil))) [some (.ref 0), some (.int at_), some (.int cell), some (.int b), none] (fu g n) = some (.ok false (fu g n)) := by
    refine ev_cmp (S' := fu g n) (d := .int at_) rfl (hlen rfl rfl) ?_
    show some (Res.ok (D.bl (decide ((at_ : Int) ≥ (ns.length : Int)))) (fu g n)) = _
    rw [decide_eq_false (by omega)]
  have i3 : evI dat.tab dat.P (cal k) dat.cst ⟨false, true⟩ (forI (headS (dropS 2 b0))) [some (.ref 0), some (.int at_), some (.int cell), some (.int b), none] (fu g n) = some (.ok (.lst n) (fu (upd' g n (.lst [])) (n + 1))) := by
    show evI _ _ _ _ _ (.any (.ite _ _ (.lst .nil))) _ _ = _
    rw [evI]
    refine (bnd_ok (a := .ref n) (S' := fu (upd' g n (.lst [])) (n + 1)) ?_).trans ?_
    · refine (ev_ite q3).trans ?_
      rw [if_neg Bool.false_ne_true, ev_lst (vs := []) (S' := fu g n) rfl ev_nil, fu_push (by omega)]
      rfl
    · show mIt (.ref n) _ = _
      have l : lstAt (fu (upd' g n (.lst [])) (n + 1)) n = some [] := by
        unfold lstAt
        rw [fu_get (by omega), upd'_same]
      unfold mIt
      simp only [l]
  have s3 : eS k ⟨false, true⟩ (headS (dropS 2 b0)) [some (.ref 0), some (.int at_), some (.int cell), some (.int b), none] (fu g n) = some (.ok (.nx [some (.ref 0), some (.int at_), some (.int cell), some (.int b), none]) (fu (upd' g n (.lst [])) (n + 1))) := by
    refine (run_for i3).trans ?_
    have e : turns = 4611686018427387903 + 1 := by decide
    rw [e]
    refine loop_end ?_
    show (match lstAt (fu (upd' g n (.lst [])) (n + 1)) n with
      | some ds => some ds[0]?
      | none => none) = _
    have l : lstAt (fu (upd' g n (.lst [])) (n + 1)) n = some [] := by
      unfold lstAt
      rw [fu_get (by omega), upd'_same]
    rw [l]
    rfl
  have abs_ : eE k ⟨false, true⟩ (.fun_ .abs (.cons (.var 2) .nil)) [some (.ref 0), some (.int at_), some (.int cell), some (.int b), none] (fu (upd' g n (.lst [])) (n + 1)) = some (.ok (.int (if cell < 0 then -cell else cell)) (fu (upd' g n (.lst [])) (n + 1))) := by
    rw [ev_fun (vs := [.int cell]) (S' := fu (upd' g n (.lst [])) (n + 1)) (ev_cons rfl ev_nil)]
    rfl
  have pw : eE k ⟨false, true⟩ (.bin .pow (.con (.int 10)) (.con (.int 18))) [some (.ref 0), some (.int at_), some (.int cell), some (.int b), none] (fu (upd' g n (.lst [])) (n + 1)) = some (.ok (.int (10 ^ 18)) (fu (upd' g n (.lst [])) (n + 1))) := by kernel_rfl
  have it : ∃ a : Int, eE k ⟨false, true⟩ (.ite (.cmp .ge (.fun_ .abs (.cons (.var 2) .nil)) (.bin .pow (.con (.int 10)) (.con (.int 18)))) (.fun_ .abs (.cons (.var 2) .nil)) (.con (.int 0))) [some (.ref 0), some (.int at_), some (.int cell), some (.int b), none] (fu (upd' g n (.lst [])) (n + 1)) = some (.ok (.int a) (fu (upd' g n (.lst [])) (n + 1))) := by
    have q := ev_cmp (o := .ge) (q := decide ((if cell < 0 then -cell else cell) ≥ (10 ^ 18 : Int))) abs_ pw rfl
    cases hq : decide ((if cell < 0 then -cell else cell) ≥ (10 ^ 18 : Int)) with
    | true => rw [hq] at q; exact ⟨_, (ev_ite q).trans abs_⟩
    | false => rw [hq] at q; exact ⟨0, (ev_ite q).trans rfl⟩
  obtain ⟨a, it⟩ := it
  refine ⟨a, b, b0', b1', ?_⟩
  refine call_of (k := k) (fl := .rt (.ref (n + 1))) (show dat.P 0 = some _ from rfl) (show dat.F 0 = some _ from rfl) ?_
  have s4 : eS k ⟨false, true⟩ (headS (dropS 3 b0)) [some (.ref 0), some (.int at_), some (.int cell), some (.int b), none] (fu (upd' g n (.lst [])) (n + 1)) = some (.ok (.rt (.ref (n + 1))) (fu (upd' (upd' g n (.lst [])) (n + 1) (.lst [.int a, .int b, .int 0])) (n + 2))) := by
    have e := ev_lst (vs := [.int a, .int b, .int 0]) rfl (ev_cons it (ev_cons (e := .var 3) (v := .int b) rfl (ev_cons (e := .con (.int 0)) (v := .int 0) rfl ev_nil)))
    rw [fu_push (by omega)] at e
    exact run_rete e
  exact (run_seq s1).trans ((run_seq s2).trans ((run_seq s3).trans (run_ret s4)))
end T
end
section
/-! K01x: the law's own body. -/
namespace T
open PySem L2 G
theorem purse00 {k : Nat} {g : Nat → Option Cell} (h0 : g 0 = some (nsC [])) : ∃ a b : Int, ∃ c : Cell, 0 ≤ b ∧ b < 2147483549 ∧ cal (k + 1) 0 [.ref 0, .int 0] (fu g 2) = some (.ok (.ref 3) (fu (upd' (upd' g 2 c) 3 (.lst [.int a, .int b, .int 0])) 4)) := by
  refine ⟨0, 3001, .lst [], by decide, by decide, ?_⟩
  rw [← upd'_self h0]
  have h : cal (k + 1) 0 [.ref 0, .int 0] (fu (upd' g 0 (nsC [])) 2) = some (.ok (.ref 3) (pushL (fu (upd' g 0 (nsC [])) 2) [.lst [], .lst [.int 0, .int 3001, .int 0]])) := by kernel_rfl
  rw [h, pushL_fu _ _ _ (by decide)]
  rfl
theorem purse10 {k : Nat} {g : Nat → Option Cell} (h0 : g 0 = some (nsC [])) : ∃ a b : Int, ∃ c : Cell, 0 ≤ b ∧ b < 2147483549 ∧ cal (k + 1) 0 [.ref 0, .int 1] (fu g 279) = some (.ok (.ref 280) (fu (upd' (upd' g 279 c) 280 (.lst [.int a, .int b, .int 0])) 281)) := by
  refine ⟨0, 83022, .lst [], by decide, by decide, ?_⟩
  rw [← upd'_self h0]
  have h : cal (k + 1) 0 [.ref 0, .int 1] (fu (upd' g 0 (nsC [])) 279) = some (.ok (.ref 280) (pushL (fu (upd' g 0 (nsC [])) 279) [.lst [], .lst [.int 0, .int 83022, .int 0]])) := by kernel_rfl
  rw [h, pushL_fu _ _ _ (by decide)]
  rfl
theorem purse11 {k : Nat} {g : Nat → Option Cell} {z : Int} (h0 : g 0 = some (nsC [z])) : ∃ a b : Int, ∃ c : Cell, 0 ≤ b ∧ b < 2147483549 ∧ cal (k + 1) 0 [.ref 0, .int 1] (fu g 279) = some (.ok (.ref 280) (fu (upd' (upd' g 279 c) 280 (.lst [.int a, .int b, .int 0])) 281)) := by
  refine ⟨0, (83022 * 15013 + z) % 2147483549, .lst [.int z], (emodM _).1, (emodM _).2, ?_⟩
  rw [← upd'_self h0]
  have h : cal (k + 1) 0 [.ref 0, .int 1] (fu (upd' g 0 (nsC [z])) 279) = some (.ok (.ref 280) (pushL (fu (upd' g 0 (nsC [z])) 279) [.lst [.int z], .lst [.int 0, .int ((83022 * 15013 + z) % 2147483549), .int 0]])) := by kernel_rfl
  rw [h, pushL_fu _ _ _ (by simp only [List.length_cons, List.length_nil]; decide)]
  rfl
theorem purse0 {k : Nat} {g : Nat → Option Cell} {ns : List Int} (hB : Bits ns) (h0 : g 0 = some (nsC ns)) : ∃ a b : Int, ∃ c : Cell, 0 ≤ b ∧ b < 2147483549 ∧ cal (k + 1) 0 [.ref 0, .int 0] (fu g 2) = some (.ok (.ref 3) (fu (upd' (upd' g 2 c) 3 (.lst [.int a, .int b, .int 0])) 4)) := by
  match ns, hB, h0 with
  | [], _, h0 => exact purse00 h0
  | z :: zs, hB, h0 =>
    obtain ⟨a, b, h1, h2, h⟩ := purseA (k := k) (at_ := 0) (n := 2) hB h0 (by simp) (by decide) (by decide)
    exact ⟨a, b, _, h1, h2, h⟩
theorem purse1 {k : Nat} {g : Nat → Option Cell} {ns : List Int} (hB : Bits ns) (h0 : g 0 = some (nsC ns)) : ∃ a b : Int, ∃ c : Cell, 0 ≤ b ∧ b < 2147483549 ∧ cal (k + 1) 0 [.ref 0, .int 1] (fu g 279) = some (.ok (.ref 280) (fu (upd' (upd' g 279 c) 280 (.lst [.int a, .int b, .int 0])) 281)) := by
  match ns, hB, h0 with
  | [], _, h0 => exact purse10 h0
  | [z], _, h0 => exact purse11 h0
  | z :: y :: zs, hB, h0 =>
    obtain ⟨a, b, h1, h2, h⟩ := purseA (k := k) (at_ := 1) (n := 279) hB h0 (by simp) (by decide) (by decide)
    exact ⟨a, b, _, h1, h2, h⟩
theorem purse2 {k : Nat} {g : Nat → Option Cell} {ns : List Int} (hB : Bits ns) (hl : 3 ≤ ns.length) (h0 : g 0 = some (nsC ns)) : ∃ a b : Int, ∃ c : Cell, 0 ≤ b ∧ b < 2147483549 ∧ cal (k + 1) 0 [.ref 0, .int 2] (fu g 556) = some (.ok (.ref 557) (fu (upd' (upd' g 556 c) 557 (.lst [.int a, .int b, .int 0])) 558)) := by
  obtain ⟨a, b, h1, h2, h⟩ := purseA (k := k) (at_ := 2) (n := 556) hB h0 (by omega) (by decide) (by decide)
  exact ⟨a, b, _, h1, h2, h⟩
/-! ### the comprehension -/
def lcOf : CS → CE
  | .seq (.ret (.fun_ _ (.cons e _))) _ => e
  | _ => .unk
abbrev RE_ : CE := .call 9 1 (.cons (.call 0 2 (.cons (.var 0) (.cons (.var 1) .nil)) [] .nil) .nil) [] .nil
/-- one element: the round answers True -/
theorem elem {at_ dd n n2 : Nat} {g g2 g3 : Nat → Option Cell} (h1 : cal 99 0 [.ref 0, .int at_] (fu g n) = some (.ok (.ref dd) (fu g2 (n + 2)))) (h2 : cal 99 9 [.ref dd] (fu g2 (n + 2)) = some (.ok (.bl true) (fu g3 n2))) :
    eE 99 GG RE_ [some (.ref 0), some (.int at_)] (fu g n) = some (.ok (.bl true) (fu g3 n2)) := by
  refine (ev_call (vs := [.ref dd]) (S' := fu g2 (n + 2)) rfl rfl rfl (ev_cons ((ev_call (vs := [.ref 0, .int at_]) (S' := fu g n) rfl rfl rfl (ev_cons (v := .ref 0) (S' := fu g n) rfl (ev_cons (v := .int at_) (S' := fu g n) rfl ev_nil))).trans h1) ev_nil)).trans h2
theorem lc_step {it : Itr} {G0 : D → G.Env → M G.Env} {e : G.Env → M D} {k n i N N' : Nat} {d y : D} {env env1 : G.Env} {g g' : Nat → Option Cell} {xs : List D} (h1 : nextI (fu g N) it i = some (some d)) (h2 : G0 d env (fu g N) = some (.ok env1 (fu g N))) (h3 : e env1 (fu g N) = some (.ok y (fu g' N'))) (hk : k < 1000) (h4 : g' k = some (.lst xs)) (hl : lenOk (xs.length + 1) = true) :
    lcLoop it G0 mYes e k env (n + 1) i (fu g N) = lcLoop it G0 mYes e k env n (i + 1) (fu (upd' g' k (.lst (xs ++ [y]))) N') := by
  show (match nextI (fu g N) it i with
    | none => none
    | some none => some (Res.ok () (fu g N))
    | some (some d) => bnd (noX (G0 d env)) (fun env' => bnd (noX (mYes env')) fun b => if b then bnd (noX (e env')) (fun y => bnd (mApp k y) fun _ => lcLoop it G0 mYes e k env n (i + 1)) else lcLoop it G0 mYes e k env n (i + 1)) (fu g N)) = _
  rw [h1]
  dsimp only
  refine (bnd_ok (a := env1) (S' := fu g N) (by unfold noX; rw [h2])).trans ?_
  refine (bnd_ok (a := true) (S' := fu g N) rfl).trans ?_
  rw [if_pos rfl]
  refine (bnd_ok (a := y) (S' := fu g' N') (by unfold noX; rw [h3])).trans ?_
  refine (bnd_ok (a := ()) (S' := fu (upd' g' k (.lst (xs ++ [y]))) N') ?_).trans rfl
  unfold mApp
  simp only [fu_get hk, h4, hl, if_true, fu_put hk]
theorem lc_end {it : Itr} {G0 : D → G.Env → M G.Env} {e : G.Env → M D} {k n i : Nat} {env : G.Env} {S : Sto} (h1 : nextI S it i = some none) : lcLoop it G0 mYes e k env (n + 1) i S = some (.ok () S) := by
  show (match nextI S it i with
    | none => none
    | some none => some (Res.ok () S)
    | some (some d) => bnd (noX (G0 d env)) (fun env' => bnd (noX (mYes env')) fun b => if b then bnd (noX (e env')) (fun y => bnd (mApp k y) fun _ => lcLoop it G0 mYes e k env n (i + 1)) else lcLoop it G0 mYes e k env n (i + 1)) S) = _
  rw [h1]
/-- what the law runs over -/
theorem rng_of {g : Nat → Option Cell} {n : Nat} {ns : List Int} (h0 : g 0 = some (nsC ns)) (hl : ns.length ≤ 63) : evI dat.tab dat.P (cal 99) dat.cst GG (.rng1 (.fun_ .max (.cons (.con (.int 2)) (.cons (.fun_ .min (.cons (.fun_ .len (.cons (.var 0) .nil)) (.cons (.con (.int 3)) .nil))) .nil)))) [some (.ref 0), none] (fu g n) = some (.ok (.rng 0 1 (if 3 ≤ ns.length then 3 else 2)) (fu g n)) := by
  have e1 := len_of (k := 99) (gd := GG) (env := [some (.ref 0), none]) (n := n) h0 rfl
  have e2 := ev_cons (v := .int ns.length) e1 (ev_cons (e := .con (.int 3)) (v := .int 3) (S' := fu g n) rfl ev_nil)
  have e3 := (ev_fun (b := .min) e2).trans (show _ = some (Res.ok (.int (if (3 : Int) < (ns.length : Int) then 3 else (ns.length : Int))) (fu g n)) from rfl)
  have e4 := ev_cons (e := .con (.int 2)) (v := .int 2) (S' := fu g n) rfl (ev_cons e3 ev_nil)
  have e5 := (ev_fun (b := .max) e4).trans (show _ = some (Res.ok (.int (if (if (3 : Int) < (ns.length : Int) then 3 else (ns.length : Int)) > 2 then (if (3 : Int) < (ns.length : Int) then 3 else (ns.length : Int)) else 2)) (fu g n)) from rfl)
  have v : (if (if (3 : Int) < (ns.length : Int) then 3 else (ns.length : Int)) > 2 then (if (3 : Int) < (ns.length : Int) then 3 else (ns.length : Int)) else 2) = (((if 3 ≤ ns.length then 3 else 2 : Nat)) : Int) := by
    split <;> split <;> split <;> omega
  rw [v] at e5
  show evI _ _ _ _ _ _ _ _ = _
  rw [evI]
  have e6 := ev_cons e5 ev_nil
  show bnd (evL dat.tab dat.P (cal 99) dat.cst GG (.cons _ .nil) [some (.ref 0), none]) _ _ = _
  refine (bnd_ok e6).trans ?_
  dsimp only
  have r : r62 (((if 3 ≤ ns.length then 3 else 2 : Nat)) : Int) = true := by split <;> rfl
  rw [r]
  rfl
end T
end
section
/-! K01y: the plain law. -/
namespace T
open PySem L2 G
/-- one round of the law -/
theorem round0 {g : Nat → Option Cell} {ns : List Int} (hB : Bits ns) (h0 : g 0 = some (nsC ns)) : ∃ g', eE 99 GG RE_ [some (.ref 0), some (.int 0)] (fu g 2) = some (.ok (.bl true) (fu g' 279)) ∧ ∀ j, j < 2 → g' j = g j := by
  obtain ⟨a, b, c, b0, b1, hp⟩ := purse0 (k := 98) hB h0
  obtain ⟨g', hr, hj⟩ := B4.right_ok (g := upd' (upd' g 2 c) 3 (.lst [.int a, .int b, .int 0])) b0 b1 upd'_same
  exact ⟨g', elem hp hr, fun j h => by rw [hj j (by omega), upd'_ne (by omega), upd'_ne (by omega)]⟩
theorem round1 {g : Nat → Option Cell} {ns : List Int} (hB : Bits ns) (h0 : g 0 = some (nsC ns)) : ∃ g', eE 99 GG RE_ [some (.ref 0), some (.int 1)] (fu g 279) = some (.ok (.bl true) (fu g' 556)) ∧ ∀ j, j < 2 → g' j = g j := by
  obtain ⟨a, b, c, b0, b1, hp⟩ := purse1 (k := 98) hB h0
  obtain ⟨g', hr, hj⟩ := B281.right_ok (g := upd' (upd' g 279 c) 280 (.lst [.int a, .int b, .int 0])) b0 b1 upd'_same
  exact ⟨g', elem hp hr, fun j h => by rw [hj j (by omega), upd'_ne (by omega), upd'_ne (by omega)]⟩
theorem round2 {g : Nat → Option Cell} {ns : List Int} (hB : Bits ns) (hl : 3 ≤ ns.length) (h0 : g 0 = some (nsC ns)) : ∃ g', eE 99 GG RE_ [some (.ref 0), some (.int 2)] (fu g 556) = some (.ok (.bl true) (fu g' 833)) ∧ ∀ j, j < 2 → g' j = g j := by
  obtain ⟨a, b, c, b0, b1, hp⟩ := purse2 (k := 98) hB hl h0
  obtain ⟨g', hr, hj⟩ := B558.right_ok (g := upd' (upd' g 556 c) 557 (.lst [.int a, .int b, .int 0])) b0 b1 upd'_same
  exact ⟨g', elem hp hr, fun j h => by rw [hj j (by omega), upd'_ne (by omega), upd'_ne (by omega)]⟩
abbrev RG : CI := .rng1 (.fun_ .max (.cons (.con (.int 2)) (.cons (.fun_ .min (.cons (.fun_ .len (.cons (.var 0) .nil)) (.cons (.con (.int 3)) .nil))) .nil)))
theorem all_of {g : Nat → Option Cell} {n : Nat} {ds : List D} {bs : List Bool} (h : g 1 = some (.lst ds)) (e : blsOf ds = some bs) (t : bs.all id = true) : mAll [.ref 1] (fu g n) = some (.ok (.bl true) (fu g n)) := by
  have l : lstAt (fu g n) 1 = some ds := by
    unfold lstAt
    rw [fu_get (by decide), h]
  unfold mAll
  simp only [l, e, t]
theorem lc_all {g : Nat → Option Cell} {ns : List Int} (hB : Bits ns) (hl : ns.length ≤ 63) (h0 : g 0 = some (nsC ns)) : ∃ S, eE 99 GG (.fun_ .all (.cons (.lc RE_ (.nm 1) RG .no [1]) .nil)) [some (.ref 0), none] (fu g 1) = some (.ok (.bl true) S) := by
  have e : turns = 4611686018427387900 + 4 := by decide
  have hr := rng_of (n := 1) h0 hl
  obtain ⟨g1, r1, j1⟩ := round0 (g := upd' g 1 (.lst [])) hB ((upd'_ne (by decide)).trans h0)
  have z1 : g1 0 = some (nsC ns) := (j1 0 (by decide)).trans ((upd'_ne (by decide)).trans h0)
  have k1 : g1 1 = some (.lst []) := (j1 1 (by decide)).trans upd'_same
  obtain ⟨g2, r2, j2⟩ := round1 (g := upd' g1 1 (.lst [.bl true])) hB ((upd'_ne (by decide)).trans z1)
  have z2 : g2 0 = some (nsC ns) := (j2 0 (by decide)).trans ((upd'_ne (by decide)).trans z1)
  have k2 : g2 1 = some (.lst [.bl true]) := (j2 1 (by decide)).trans upd'_same
  have fin : ∀ {g' : Nat → Option Cell} {N : Nat} {ds : List D} {bs : List Bool}, lcLoop (.rng 0 1 (if 3 ≤ ns.length then 3 else 2)) (evG dat.tab dat.P (cal 99) dat.cst GG (.nm 1)) mYes (eE 99 GG RE_) 1 [some (.ref 0), none] turns 0 (fu (upd' g 1 (.lst [])) 2) = some (.ok () (fu g' N)) → g' 1 = some (.lst ds) → blsOf ds = some bs → bs.all id = true →
      ∃ S, eE 99 GG (.fun_ .all (.cons (.lc RE_ (.nm 1) RG .no [1]) .nil)) [some (.ref 0), none] (fu g 1) = some (.ok (.bl true) S) := by
    intro g' N ds bs hL hk hb ht
    refine ⟨fu g' N, ?_⟩
    refine (ev_fun (vs := [.ref 1]) (S' := fu g' N) (ev_cons ?_ ev_nil)).trans (all_of hk hb ht)
    show evE _ _ _ _ _ _ _ _ = _
    rw [evE]
    refine (bnd_ok hr).trans ?_
    show bnd (lcLoop (.rng 0 1 (if 3 ≤ ns.length then 3 else 2)) (evG dat.tab dat.P (cal 99) dat.cst GG (.nm 1)) mYes (eE 99 GG RE_) 1 [some (.ref 0), none] turns 0) (fun _ => ret (D.ref 1)) ((fu g 1).push (.lst [])) = _
    rw [fu_push (by decide)]
    exact (bnd_ok hL).trans rfl
  have s1 : ∀ q : Nat, 2 ≤ q → lcLoop (.rng 0 1 q) (evG dat.tab dat.P (cal 99) dat.cst GG (.nm 1)) mYes (eE 99 GG RE_) 1 [some (.ref 0), none] turns 0 (fu (upd' g 1 (.lst [])) 2) = lcLoop (.rng 0 1 q) (evG dat.tab dat.P (cal 99) dat.cst GG (.nm 1)) mYes (eE 99 GG RE_) 1 [some (.ref 0), none] (4611686018427387900 + 2) 2 (fu (upd' g2 1 (.lst [.bl true, .bl true])) 556) := by
    intro q hq
    rw [e]
    refine (lc_step (n := 4611686018427387900 + 3) (d := .int 0) ?_ (by rw [evG]; rfl) r1 (by decide) k1 rfl).trans ?_
    · show some (if Nat.blt 0 q then some (D.int (0 + ((0 : Nat) : Int) * 1)) else none) = _
      rw [if_pos (show Nat.blt _ q = true from Nat.ble_eq_true_of_le (by omega))]
      rfl
    refine (lc_step (n := 4611686018427387900 + 2) (d := .int 1) ?_ (by rw [evG]; rfl) r2 (by decide) k2 rfl).trans ?_
    · show some (if Nat.blt 1 q then some (D.int (0 + ((1 : Nat) : Int) * 1)) else none) = _
      rw [if_pos (show Nat.blt _ q = true from Nat.ble_eq_true_of_le (by omega))]
      rfl
    rfl
  by_cases h3 : 3 ≤ ns.length
  · rw [if_pos h3] at fin
    obtain ⟨g3, r3, j3⟩ := round2 (g := upd' g2 1 (.lst [.bl true, .bl true])) hB h3 ((upd'_ne (by decide)).trans z2)
    have k3 : g3 1 = some (.lst [.bl true, .bl true]) := (j3 1 (by decide)).trans upd'_same
    refine fin ((s1 3 (by decide)).trans ((lc_step (n := 4611686018427387900 + 1) (d := .int 2) rfl (by rw [evG]; rfl) r3 (by decide) k3 rfl).trans (lc_end rfl))) upd'_same rfl rfl
  · rw [if_neg h3] at fin
    exact fin ((s1 2 (by decide)).trans (lc_end rfl)) upd'_same rfl rfl
theorem plain (ns : List Int) (hl : ns.length ≤ 63) (hB : Bits ns) : ∃ S, callN dat.tab dat.P dat.cst dat.F 100 10 [.ref 0] (S0 (full 10 fun _ => none) ns) = some (.ok (.bl true) S) := by
  obtain ⟨S, h⟩ := lc_all (g := upd' (fun _ => none) 0 (nsC ns)) hB hl upd'_same
  refine ⟨S, ?_⟩
  have e : S0 (full 10 fun _ => none) ns = fu (upd' (fun _ => none) 0 (nsC ns)) 1 := fu_push (g := fun _ => none) (n := 0) (by decide)
  rw [e]
  exact call_of (k := 99) (fl := .rt (.bl true)) (show dat.P 10 = some _ from rfl) (show dat.F 10 = some _ from rfl) (run_ret (run_rete h))
end T
end
section
namespace T
open PySem PySem.Spec PyProof.Rows L2 G
abbrev R : PySem.W.OpenRow := PySem.W.OpenLaw.row PySem.Challenge.rw_measuretongue_k01_errors_each_of_its_own
abbrev hk : PySem.W.Hook := hookG 4 dat
def ob (s : PySem.W.SharedT) : G.AlG := obsGG 4 dat (HandSHeadRun.getT s)
theorem ob_eq (s : PySem.W.SharedT) : ob s = hk.obs s.abs := obsGG_eq (HandSHeadRun.getT_eq s)
end T
end
section
namespace T
open PySem PySem.Spec PyProof.Rows L2 G
theorem run (w : World) : HandSHeadRun.RunEq R (PySem.W.view R.prog [37]) hk ob 8000 loose w := by
  intro os; kernel_rfl
end T
end
namespace T
open PySem PySem.Spec PyProof.Rows L2 G
theorem gd : G.Dat.good T.dat = true := by decide +kernel
end T
open PySem PySem.W PySem.Calls PyProof.Rows
theorem PySem.Challenge.cw_measuretongue_k01_errors_each_of_its_own_holds : PySem.Challenge.rw_measuretongue_k01_errors_each_of_its_own.Holds := by
  w_on; o_law
  refine HandSHeadRun.head_any (r := OpenLaw.row PySem.Challenge.rw_measuretongue_k01_errors_each_of_its_own) (q := view (OpenLaw.row PySem.Challenge.rw_measuretongue_k01_errors_each_of_its_own).prog [37]) (H := T.hk) (ob := T.ob) (M := 8000) (loose := T.loose) (d := HandSHeadRun.topDef (OpenLaw.row PySem.Challenge.rw_measuretongue_k01_errors_each_of_its_own).prog 37) (kwd := []) T.ob_eq
    (by kernel_rfl) (fun s => by kernel_rfl) T.run (by kernel_rfl) (by kernel_rfl) (by kernel_rfl) (by rfl) (by first | assumption | decide +kernel) (by decide +kernel) ⟨rfl, rfl, rfl, rfl, rfl, by decide +kernel⟩ ?hw ?hc
  case hw => w_witness2
  case hc =>
    exact G.law_end (l := PySem.Challenge.rw_measuretongue_k01_errors_each_of_its_own) (n := 63) (kk := 100) (fl := 10) (x := "cells") (T := T.dat) (t := T.full 10 fun _ => none) rfl (by decide) (by kernel_rfl) ⟨rfl, by decide, by decide⟩ T.nmg T.gd (by kernel_rfl) (by kernel_rfl) rfl rfl rfl (by kernel_rfl) (T.full_none 10) T.plain
