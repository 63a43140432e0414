import PyProof.Rows.All
import Wide.All
import OpenK.AllK
import Wide.FinOn
import HandS.ForMost
import HandS.ForExc
import HandS.CallSlots
import HandS.IsInst
import HandS.Flow
import HandS.Style
import HandS.TupAny
import HandS.Deep
import HandS.Dict
import HandS.Set
import HandS.Strs
import HandS.SetFor
import PyProof.Rows.SortShellAny
import HandS.SortRule
import HandS.Nested
import HandS.ExcInit
import HandS.ExcField
import KE.KExcSuper
import KE.GoesEnum
import HandS.ListItems
import HandS.Codes
import HandS.Exc
import HandS.Ends
import HandS.EndBits
import PyProof.ReprLen
import PySem.Challenge.RW_onlygiven_k02_books_checked
set_option Elab.async false
set_option linter.all false
set_option maxRecDepth 100000
set_option autoImplicit false
/-! MP: a small interpreter on values, and how its values lie in the layer's heap. -/
namespace MP
open PySem PySem.Spec PyProof.Rows L2
abbrev DK := Sum Int (List Nat)
/-- values: tuples, lists that nobody changes any more, dicts likewise, instances that nobody changes, shared objects by number -/
inductive W where
  | non | bl (b : Bool) | int (i : Int) | str (s : List Nat)
  | tup (xs : List W) | lst (xs : List W)
  | dct (kvs : List (DK × W))
  | ins (c : Nat) (fs : List W)
  | obj (i : Nat)
deriving Inhabited
abbrev toS (s : List Nat) : Str := ⟨s.toArray⟩
def toK : DK → Key
  | .inl i => .inl i
  | .inr s => .inr (toS s)
theorem toS_inj {s t : List Nat} (h : toS s = toS t) : s = t := by
  have e := congrArg (fun x : Str => x.cps.toList) h
  simpa using e
theorem toS_cps (x : Str) : toS x.cps.toList = x := by cases x; simp
theorem toK_inj {k l : DK} (h : toK k = toK l) : k = l := by
  cases k <;> cases l <;> simp only [toK, Sum.inl.injEq, Sum.inr.injEq, reduceCtorEq] at h ⊢
  · exact h
  · exact toS_inj h
/-- the view: what is frozen, where the shared objects lie -/
structure Fz where
  F : Hp
  ι : List Addr
/-- what is known of the module: K, the classes' addresses and fields -/
structure Md where
  K : PySem.W.Frag
  cls : Nat → Addr
  flds : Nat → List Str
/-- a list of plain form that is to be read -/
def LstR (K : PySem.W.Frag) (F : Hp) (a : Addr) (xs : List V) : Prop :=
  Rd F a (.lst xs) ∨ ∃ (its : List Value) (n : Nat), K.lookup a = some { cls := .type "list", data := .seq its.toArray n } ∧ xs.length ≤ sizeLine ∧ Vals xs its
theorem LstR.sq {K : PySem.W.Frag} {F : Hp} {a : Addr} {xs : List V} (h : LstR K F a xs) : SqL K F a xs := by
  rcases h with h | ⟨its, n, h1, h2, h3⟩
  · exact .inl h
  · refine .inr ⟨_, its.toArray, n, h1, rfl, rfl, rfl, ?_, by simpa using h3⟩
    have e := h3.length
    rw [List.size_toArray, ← e]
    exact h2
section
variable (M : Md)
mutual
def Rep (G : Fz) : V → W → Prop
  | v, .non => v = .non
  | v, .bl b => v = .bl b
  | v, .int i => v = .int i
  | v, .str s => v = .str (toS s)
  | v, .tup ws => ∃ a vs, v = .ref a ∧ SqT M.K G.F a vs ∧ Reps G vs ws
  | v, .lst ws => ∃ a vs, v = .ref a ∧ LstR M.K G.F a vs ∧ Reps G vs ws
  | v, .dct kvs => ∃ a es, v = .ref a ∧ Rd G.F a (.dK es) ∧ Repk G es kvs
  | v, .ins c fs => ∃ a dx es, v = .ref a ∧ G.F a = some (.ins (M.cls c) dx es) ∧ es.map (·.1) = M.flds c ∧ Reps G (es.map (·.2)) fs
  | v, .obj i => ∃ a, v = .ref a ∧ G.ι[i]? = some a
def Reps (G : Fz) : List V → List W → Prop
  | [], [] => True
  | v :: vs, w :: ws => Rep G v w ∧ Reps G vs ws
  | [], _ :: _ => False
  | _ :: _, [] => False
def Repk (G : Fz) : List (Key × V) → List (DK × W) → Prop
  | [], [] => True
  | (k, v) :: vs, (l, w) :: ws => k = toK l ∧ Rep G v w ∧ Repk G vs ws
  | [], _ :: _ => False
  | _ :: _, [] => False
end
end
/-- more is frozen, more objects -/
structure Fz.Le (G G' : Fz) : Prop where
  F : Same G.F G'.F
  ι : ∃ l, G'.ι = G.ι ++ l
theorem Fz.Le.refl (G : Fz) : G.Le G := ⟨Same.refl _, [], by simp⟩
theorem Fz.Le.trans {A B C : Fz} (h : A.Le B) (k : B.Le C) : A.Le C := by
  obtain ⟨h1, l, e⟩ := h
  obtain ⟨k1, m, f⟩ := k
  exact ⟨h1.trans k1, l ++ m, by rw [f, e, List.append_assoc]⟩
theorem Fz.Le.at {G G' : Fz} (h : G.Le G') {i : Nat} {a : Addr} (e : G.ι[i]? = some a) : G'.ι[i]? = some a := by
  obtain ⟨_, l, q⟩ := h
  rw [q]
  have hi : i < G.ι.length := (List.getElem?_eq_some_iff.mp e).1
  rw [List.getElem?_append_left hi]
  exact e
theorem rd_mono {F F' : Hp} {a : Addr} {u : HO} (h : Same F F') (r : Rd F a u) : Rd F' a u := by
  rcases r with r | ⟨o, r⟩
  · exact .inl (h _ _ r)
  · exact .inr ⟨o, h _ _ r⟩
theorem lstR_mono {K : PySem.W.Frag} {F F' : Hp} {a : Addr} {xs : List V} (h : Same F F') (r : LstR K F a xs) : LstR K F' a xs := by
  rcases r with r | r
  · exact .inl (rd_mono h r)
  · exact .inr r
theorem sqL_mono {K : PySem.W.Frag} {F F' : Hp} {a : Addr} {xs : List V} (h : Same F F') (r : SqL K F a xs) : SqL K F' a xs := by
  rcases r with r | r
  · exact .inl (rd_mono h r)
  · exact .inr r
theorem sqT_mono {K : PySem.W.Frag} {F F' : Hp} {a : Addr} {xs : List V} (h : Same F F') (r : SqT K F a xs) : SqT K F' a xs := by
  rcases r with r | r
  · exact .inl (rd_mono h r)
  · exact .inr r
section
variable {M : Md} {G G' : Fz}
mutual
theorem Rep.mono (h : G.Le G') : ∀ (w : W) (v : V), Rep M G v w → Rep M G' v w
  | .non, v, r => by simpa only [Rep] using r
  | .bl _, v, r => by simpa only [Rep] using r
  | .int _, v, r => by simpa only [Rep] using r
  | .str _, v, r => by simpa only [Rep] using r
  | .tup ws, v, r => by
    simp only [Rep] at r ⊢
    obtain ⟨a, vs, e, q, z⟩ := r
    exact ⟨a, vs, e, sqT_mono h.F q, Reps.mono h ws vs z⟩
  | .lst ws, v, r => by
    simp only [Rep] at r ⊢
    obtain ⟨a, vs, e, q, z⟩ := r
    exact ⟨a, vs, e, lstR_mono h.F q, Reps.mono h ws vs z⟩
  | .dct kvs, v, r => by
    simp only [Rep] at r ⊢
    obtain ⟨a, es, e, q, z⟩ := r
    exact ⟨a, es, e, rd_mono h.F q, Repk.mono h kvs es z⟩
  | .ins c fs, v, r => by
    simp only [Rep] at r ⊢
    obtain ⟨a, dx, es, e, q, z, y⟩ := r
    exact ⟨a, dx, es, e, h.F _ _ q, z, Reps.mono h fs _ y⟩
  | .obj i, v, r => by
    simp only [Rep] at r ⊢
    obtain ⟨a, e, q⟩ := r
    exact ⟨a, e, h.at q⟩
theorem Reps.mono (h : G.Le G') : ∀ (ws : List W) (vs : List V), Reps M G vs ws → Reps M G' vs ws
  | [], [], _ => trivial
  | [], _ :: _, r => r.elim
  | _ :: _, [], r => r.elim
  | w :: ws, v :: vs, r => ⟨Rep.mono h w v r.1, Reps.mono h ws vs r.2⟩
theorem Repk.mono (h : G.Le G') : ∀ (ws : List (DK × W)) (vs : List (Key × V)), Repk M G vs ws → Repk M G' vs ws
  | [], [], _ => trivial
  | [], _ :: _, r => r.elim
  | _ :: _, [], r => r.elim
  | (l, w) :: ws, (k, v) :: vs, r => ⟨r.1, Rep.mono h w v r.2.1, Repk.mono h ws vs r.2.2⟩
end
theorem Reps.length : ∀ {ws : List W} {vs : List V}, Reps M G vs ws → vs.length = ws.length
  | [], [], _ => rfl
  | [], _ :: _, r => r.elim
  | _ :: _, [], r => r.elim
  | w :: ws, v :: vs, r => by
    have e := Reps.length (ws := ws) (vs := vs) r.2
    simp only [List.length_cons, e]
theorem Reps.get : ∀ {ws : List W} {vs : List V} {i : Nat} {v : V}, Reps M G vs ws → vs[i]? = some v → ∃ w, ws[i]? = some w ∧ Rep M G v w
  | [], [], _, _, _, h => by simp at h
  | [], _ :: _, _, _, r, _ => r.elim
  | _ :: _, [], _, _, r, _ => r.elim
  | w :: ws, v :: vs, 0, x, r, h => by
    simp at h
    subst h
    exact ⟨w, rfl, r.1⟩
  | w :: ws, v :: vs, i + 1, x, r, h => by
    obtain ⟨z, e, q⟩ := Reps.get (ws := ws) (vs := vs) (i := i) (v := x) r.2 (by simpa using h)
    exact ⟨z, by simpa using e, q⟩
theorem Reps.getW : ∀ {ws : List W} {vs : List V} {i : Nat} {w : W}, Reps M G vs ws → ws[i]? = some w → ∃ v, vs[i]? = some v ∧ Rep M G v w
  | [], [], _, _, _, h => by simp at h
  | [], _ :: _, _, _, r, _ => r.elim
  | _ :: _, [], _, _, r, _ => r.elim
  | w :: ws, v :: vs, 0, x, r, h => by
    simp at h
    subst h
    exact ⟨v, rfl, r.1⟩
  | w :: ws, v :: vs, i + 1, x, r, h => by
    obtain ⟨z, e, q⟩ := Reps.getW (ws := ws) (vs := vs) (i := i) (w := x) r.2 (by simpa using h)
    exact ⟨z, by simpa using e, q⟩
theorem Reps.append : ∀ {ws zs : List W} {vs us : List V}, Reps M G vs ws → Reps M G us zs → Reps M G (vs ++ us) (ws ++ zs)
  | [], _, [], _, _, s => s
  | [], _, _ :: _, _, r, _ => r.elim
  | _ :: _, _, [], _, r, _ => r.elim
  | w :: ws, _, v :: vs, _, r, s => ⟨r.1, Reps.append r.2 s⟩
theorem Reps.take : ∀ {ws : List W} {vs : List V} (n : Nat), Reps M G vs ws → Reps M G (vs.take n) (ws.take n)
  | [], [], _, _ => by simp [Reps]
  | [], _ :: _, _, r => r.elim
  | _ :: _, [], _, r => r.elim
  | w :: ws, v :: vs, 0, r => by simp [Reps]
  | w :: ws, v :: vs, n + 1, r => ⟨r.1, Reps.take n r.2⟩
theorem Reps.drop : ∀ {ws : List W} {vs : List V} (n : Nat), Reps M G vs ws → Reps M G (vs.drop n) (ws.drop n)
  | [], [], _, _ => by simp [Reps]
  | [], _ :: _, _, r => r.elim
  | _ :: _, [], _, r => r.elim
  | w :: ws, v :: vs, 0, r => r
  | w :: ws, v :: vs, n + 1, r => Reps.drop n r.2
theorem Reps.set : ∀ {ws : List W} {vs : List V} (i : Nat) {v : V} {w : W}, Reps M G vs ws → Rep M G v w → Reps M G (vs.set i v) (ws.set i w)
  | [], [], _, _, _, _, _ => by simp [Reps]
  | [], _ :: _, _, _, _, r, _ => r.elim
  | _ :: _, [], _, _, _, r, _ => r.elim
  | w :: ws, v :: vs, 0, _, _, r, s => ⟨s, r.2⟩
  | w :: ws, v :: vs, i + 1, _, _, r, s => ⟨r.1, Reps.set i r.2 s⟩
theorem Reps.reverse : ∀ {ws : List W} {vs : List V}, Reps M G vs ws → Reps M G vs.reverse ws.reverse
  | [], [], _ => by simp [Reps]
  | [], _ :: _, r => r.elim
  | _ :: _, [], r => r.elim
  | w :: ws, v :: vs, r => by
    rw [List.reverse_cons, List.reverse_cons]
    exact Reps.append (Reps.reverse r.2) ⟨r.1, trivial⟩
end
end MP
/-! MP: the terms and their evaluator. -/
namespace MP
open PySem
inductive Cell where
  | dct (kvs : List (DK × W))
  | ins (c : Nat) (fs : List W)
deriving Inhabited
abbrev Sto := List Cell
inductive Out (α : Type) where
  | ok (a : α) (φ : Sto) | exc (x : W) (φ : Sto) | bad
deriving Inhabited
namespace Out
def bind {α β : Type} (r : Out α) (f : α → Sto → Out β) : Out β := match r with
  | ok a φ => f a φ
  | exc x φ => exc x φ
  | bad => bad
@[simp] theorem bind_ok {α β : Type} (a : α) (φ : Sto) (f : α → Sto → Out β) : (Out.ok a φ).bind f = f a φ := rfl
@[simp] theorem bind_exc {α β : Type} (x : W) (φ : Sto) (f : α → Sto → Out β) : (Out.exc x φ : Out α).bind f = .exc x φ := rfl
@[simp] theorem bind_bad {α β : Type} (f : α → Sto → Out β) : (Out.bad : Out α).bind f = .bad := rfl
theorem bind_assoc {α β γ : Type} (r : Out α) (f : α → Sto → Out β) (g : β → Sto → Out γ) : (r.bind f).bind g = r.bind fun a φ => (f a φ).bind g := by cases r <;> rfl
def holds {α : Type} (r : Out α) (Q : α → Sto → Prop) (E : W → Sto → Prop) : Prop := match r with
  | ok a φ => Q a φ
  | exc x φ => E x φ
  | bad => False
theorem holds_bind {α β : Type} (r : Out α) (f : α → Sto → Out β) (Q : β → Sto → Prop) (E : W → Sto → Prop) :
    (r.bind f).holds Q E = r.holds (fun a φ => (f a φ).holds Q E) E := by cases r <;> rfl
theorem holds_mono {α : Type} {r : Out α} {Q Q' : α → Sto → Prop} {E E' : W → Sto → Prop} (h : r.holds Q E) (hq : ∀ a φ, Q a φ → Q' a φ) (he : ∀ x φ, E x φ → E' x φ) : r.holds Q' E' := by
  cases r with
  | ok a φ => exact hq _ _ h
  | exc x φ => exact he _ _ h
  | bad => exact h
def ofO {α : Type} (o : Option α) (φ : Sto) : Out α := match o with
  | some a => .ok a φ
  | none => .bad
@[simp] theorem ofO_some {α : Type} (a : α) (φ : Sto) : ofO (some a) φ = .ok a φ := rfl
@[simp] theorem ofO_none {α : Type} (φ : Sto) : ofO (none : Option α) φ = .bad := rfl
end Out
/-- a name's place: nothing, a value that nobody changes, an object of one's own -/
inductive Sl where
  | none | val (w : W) | own (w : W)
deriving Inhabited
abbrev Loc := List Sl
inductive Res where
  | nx (ρ : Loc) (φ : Sto) | rt (w : W) (φ : Sto) | bk (ρ : Loc) (φ : Sto) | ct (ρ : Loc) (φ : Sto) | ex (x : W) (ρ : Loc) (φ : Sto) | bad
deriving Inhabited
inductive Cop where | eq | ne | lt | le | gt | ge | isin | notin | isnone | notnone
deriving DecidableEq, Inhabited
inductive Bop where | add | sub | mul | fdiv | mod | pow
deriving DecidableEq, Inhabited
inductive Ty where | int | str | bool | tuple | list
deriving DecidableEq, Inhabited
/-- built-ins of one argument -/
inductive Blt where | len | int | repr | all | any | tuple | list | sorted
deriving DecidableEq, Inhabited
inductive T where
  | nil | cons (a b : T)
  | var (i : Nat) | own (i : Nat) | glob (g : Nat)
  | int (i : Int) | str (s : List Nat) | bl (b : Bool) | non
  | tup (es : T) | lst (es : T) | dnew (ks : List (List Nat)) (es : T) | dempty
  | bin (op : Bop) (a b : T) | neg (a : T)
  | cmp (op : Cop) (a b : T) | chn (op op' : Cop) (a b c : T)
  | andN (es : T) | orN (es : T) | not (a : T) | ife (c a b : T)
  | idx (a i : T) | dget (d k : T) | slc (a lo hi : T) | rev (a : T)
  | call (f : Nat) (es : T) | callk (f : Nat) (ks : List Nat) (es : T)
  | isi (a : T) (t : Ty) | blt (b : Blt) (a : T) | join (s a : T)
  | comp (x : Nat) (it c e : T)
  | rng1 (a : T) | rng2 (a b : T) | enum (a : T) | lset (a : T) | sortS (a : T) | sortI (i : Nat) | revT (a : T)
  -- statements
  | sset (i : Nat) (e : T) | spar (is : List Nat) (es : T) | sunp (is : List Nat) (e : T)
  | sdput (d k e : T) | slput (i : Nat) (k e : T) | sdown (i : Nat) (k e : T)
  | sapp (i : Nat) (e : T) | sext (i : Nat) (e : T) | spop (j i : Nat)
  | sif (c a b : T) | swhile (c b : T) | sfor (i : Nat) (it b : T) | sforT (is : List Nat) (it b : T)
  | sforE (is : List Nat) (a b : T) | srais (k : Nat) (es : T) | stry (yes no : List Nat) (i : Nat) (b : T) (hs : List (Sum (List Nat) Nat))
  | sret (e : T) | sretN | spass | sbrk | scnt | sexp (e : T) | sfrz (i : Nat)
deriving Inhabited
def T.isNil : T → Bool
  | .nil => true
  | _ => false
def T.isOwn : T → Bool
  | .own _ => true
  | _ => false
/-- does it make a new object? fr tells of the defs -/
def T.fresh (fr : Nat → Bool) : T → Bool
  | .lst _ | .dempty | .comp _ _ _ _ | .sortS _ | .sortI _ | .rev _ => true
  | .blt b _ => match b with
    | .list | .sorted => true
    | _ => false
  | .bin .add (.own _) _ => true
  | .bin .add a _ => a.fresh fr
  | .call f _ => fr f
  | .callk f _ _ => fr f
  | _ => false
def W.isStr : W → Bool
  | .str _ => true
  | _ => false
def W.isObj : W → Bool
  | .lst _ | .dct _ | .ins _ _ => true
  | _ => false
/-! ### operations -/
abbrev cps (s : String) : List Nat := s.toList.map Char.toNat
def b2i (b : Bool) : Int := if b then 1 else 0
mutual
def W.toD : W → PyData
  | .non => .none
  | .bl b => .bool b
  | .int i => .int i
  | .str s => .str (toS s)
  | .tup ws => .tuple (toDs ws)
  | .lst ws => .list (toDs ws)
  | .dct _ => .none
  | .ins _ _ => .none
  | .obj _ => .none
def toDs : List W → List PyData
  | [] => []
  | w :: ws => w.toD :: toDs ws
end
mutual
/-- plain data, at most n deep, of good signs -/
def W.okD : Nat → W → Bool
  | _, .non => true
  | _, .bl _ => true
  | _, .int _ => true
  | _, .str s => s.all (· < 0x110000)
  | n + 1, .tup ws => okDs n ws
  | n + 1, .lst ws => okDs n ws
  | _, _ => false
def okDs : Nat → List W → Bool
  | _, [] => true
  | n, w :: ws => w.okD n && okDs n ws
end
def eqW (a b : W) : Bool := PyData.eqv a.toD b.toD
def truthy : W → Option Bool
  | .non => some false
  | .bl b => some b
  | .int i => some (i != 0)
  | .str s => if s.length ≤ sizeLine then some ((s.length : Int) != 0) else none
  | .tup ws => some (!ws.isEmpty)
  | .lst ws => some (!ws.isEmpty)
  | _ => none
def opBin : Bop → W → W → Option W
  | .add, .int i, .int j => some (.int (i + j))
  | .add, .str s, .str t => if s.length + t.length ≤ sizeLine then some (.str (s ++ t)) else none
  | .add, .tup a, .tup b => if a.length + b.length ≤ sizeLine then some (.tup (a ++ b)) else none
  | .add, .lst a, .lst b => if a.length + b.length ≤ sizeLine then some (.lst (a ++ b)) else none
  | .sub, .int i, .int j => some (.int (i - j))
  | .mul, .int i, .int j => if (-(2 ^ 64) < i ∧ i < 2 ^ 64) ∨ (-(2 ^ 64) < j ∧ j < 2 ^ 64) then some (.int (i * j)) else none
  | .fdiv, .int i, .int j => if j ≠ 0 ∧ j.natAbs < 1073741824 then some (.int (i.fdiv j)) else none
  | .mod, .int i, .int j => if j ≠ 0 then some (.int (i.fmod j)) else none
  | .pow, .int i, .int j => if 0 ≤ j ∧ j ≤ 1000000 ∧ i.natAbs < 2 ^ 64 then some (.int (i ^ j.toNat)) else none
  | _, _, _ => none
def ltS (s t : List Nat) : Bool := decide (s < t)
def flat : W → Bool
  | .non | .bl _ | .int _ | .str _ => true
  | _ => false
def isNon : W → Bool
  | .non => true
  | _ => false
def opCmp : Cop → W → W → Option Bool
  | .eq, .tup ws, .tup [] => some ws.isEmpty
  | .ne, .tup ws, .tup [] => some (!ws.isEmpty)
  | .eq, a, b => if a.okD 62 && b.okD 62 then some (eqW a b) else none
  | .ne, a, b => if a.okD 62 && b.okD 62 then some (!eqW a b) else none
  | .lt, .int i, .int j => some (decide (i < j))
  | .le, .int i, .int j => some (decide (i ≤ j))
  | .gt, .int i, .int j => some (decide (j < i))
  | .ge, .int i, .int j => some (decide (j ≤ i))
  | .lt, .str s, .str t => some (decide (s < t))
  | .le, .str s, .str t => some (!decide (t < s))
  | .gt, .str s, .str t => some (decide (t < s))
  | .ge, .str s, .str t => some (!decide (s < t))
  | .isin, .str [c], .str t => some (decide (c ∈ t))
  | .notin, .str [c], .str t => some (!decide (c ∈ t))
  | .isin, a, .lst ws => if a.okD 62 && okDs 61 ws then some (ws.any fun z => eqW z a) else none
  | .notin, a, .lst ws => if a.okD 62 && okDs 61 ws then some (!ws.any fun z => eqW z a) else none
  | .isnone, a, .non => some (isNon a)
  | .notnone, a, .non => some (!isNon a)
  | _, _, _ => none
def ixW {α : Type} (xs : List α) (i : Int) : Option α :=
  if 0 ≤ i then (if i < xs.length then xs[i.toNat]? else none) else if -(xs.length : Int) ≤ i then xs[(i + xs.length).toNat]? else none
/-- the place that an index of any sign means -/
def ixN (n : Nat) (i : Int) : Option Nat := if 0 ≤ i then (if i < n then some i.toNat else none) else if -(n : Int) ≤ i then some (i + n).toNat else none
def opIdx : W → W → Option W
  | .lst ws, .int i => ixW ws i
  | .tup ws, .int i => ixW ws i
  | .str s, .int i => if s.length ≤ sizeLine then (ixW s i).map fun c => .str [c] else none
  | _, _ => none
/-- a slice's bound as a place among n -/
def bound (n d : Nat) : Option Int → Nat
  | none => d
  | some v => if v < 0 then (v + (n : Int)).toNat else min v.toNat n
def cut {α : Type} (lo hi : Option Int) (xs : List α) : List α :=
  (xs.drop (bound xs.length 0 lo)).take (bound xs.length xs.length hi - bound xs.length 0 lo)
def opSlc (lo hi : Option Int) : W → Option W
  | .lst ws => some (.lst (cut lo hi ws))
  | .tup ws => some (.tup (cut lo hi ws))
  | .str s => if s.length ≤ sizeLine then some (.str (cut lo hi s)) else none
  | _ => none
def isTy : Ty → W → Option Bool
  | .int, .int _ => some true
  | .int, .bl _ => some true
  | .str, .str _ => some true
  | .bool, .bl _ => some true
  | .tuple, .tup _ => some true
  | .list, .lst _ => some true
  | _, .ins _ _ => none
  | _, .obj _ => none
  | _, .dct _ => none
  | _, _ => some false
def items : W → Option (List W)
  | .lst ws => some ws
  | .tup ws => some ws
  | .str s => some (s.map fun c => .str [c])
  | _ => none
def allB : List W → Option Bool
  | [] => some true
  | .bl b :: r => (allB r).map (b && ·)
  | _ :: _ => none
def anyB : List W → Option Bool
  | [] => some false
  | .bl b :: r => (anyB r).map (b || ·)
  | _ :: _ => none
def strsOf : List W → Option (List (List Nat))
  | [] => some []
  | .str s :: r => (strsOf r).map (s :: ·)
  | _ :: _ => none
def joinS (S : List Nat) : List (List Nat) → List Nat
  | [] => []
  | [x] => x
  | x :: y :: r => x ++ (S ++ joinS S (y :: r))
def bigOk (w : W) : Bool := w.okD 62 && w.toD.showable && decide (w.toD.shown.length ≤ sizeLine)
/-- texts into an ascending list without doubles -/
def insS (x : List Nat) : List (List Nat) → List (List Nat)
  | [] => [x]
  | y :: r => if x < y then x :: y :: r else if y < x then y :: insS x r else y :: r
def setS (xs : List (List Nat)) : List (List Nat) := xs.foldr insS []
def ltPr (p q : List Nat × List Nat) : Bool := decide (p.1 < q.1) || (decide (p.1 = q.1) && decide (p.2 < q.2))
def insP (p : List Nat × List Nat) : List (List Nat × List Nat) → List (List Nat × List Nat)
  | [] => [p]
  | q :: r => if ltPr q p then q :: insP p r else p :: q :: r
def sortP (xs : List (List Nat × List Nat)) : List (List Nat × List Nat) := xs.foldr insP []
def pairOf : W → Option (List Nat × List Nat)
  | .tup [.str a, .str b] => some (a, b)
  | _ => none
def pairsOf : List W → Option (List (List Nat × List Nat))
  | [] => some []
  | w :: r => (pairOf w).bind fun p => (pairsOf r).map (p :: ·)
def seqOf : W → Option (List W)
  | .lst ws => some ws
  | .tup ws => some ws
  | _ => none
/-- len(set(a)) -/
def opLset (w : W) : Option W := ((seqOf w).bind strsOf).bind fun xs => if xs.length < 4000 then some (.int (setS xs).length) else none
/-- sorted(set(a)) -/
def opSortS (w : W) : Option W := ((seqOf w).bind strsOf).bind fun xs => if xs.length < 64 then some (.lst ((setS xs).map .str)) else none
def opRev : W → Option W
  | .lst ws => some (.lst ws.reverse)
  | _ => none
def opRevT : W → Option W
  | .tup ws => some (.tup ws.reverse)
  | _ => none
/-- what enumerate walks -/
def enumW (i : Nat) : List W → List W
  | [] => []
  | w :: ws => .tup [.int i, w] :: enumW (i + 1) ws
def opEnum : W → Option (List W)
  | .lst ws => some (enumW 0 ws)
  | .tup ws => some (enumW 0 ws)
  | _ => none
/-- the texts of a dict -/
def strKV : List (DK × W) → Option (List (List Nat × List Nat))
  | [] => some []
  | (.inr k, .str v) :: r => (strKV r).map ((k, v) :: ·)
  | _ :: _ => none
/-- what a handler hands back: a text, or the field at this place -/
abbrev HIt := Sum (List Nat) Nat
def hItem (fs : List W) : HIt → Option W
  | .inl s => some (.str s)
  | .inr j => fs[j]?
def hItems (fs : List W) : List HIt → Option (List W)
  | [] => some []
  | a :: r => (hItem fs a).bind fun x => (hItems fs r).map (x :: ·)
def opBlt : Blt → W → Option W
  | .len, .str s => if s.length ≤ sizeLine then some (.int s.length) else none
  | .len, .lst ws => some (.int ws.length)
  | .len, .tup ws => some (.int ws.length)
  | .int, .int i => some (.int i)
  | .int, .bl b => some (.int (b2i b))
  | .repr, w => if bigOk w then some (.str w.toD.shown.cps.toList) else none
  | .all, .lst ws => (allB ws).map .bl
  | .any, .lst ws => (anyB ws).map .bl
  | .tuple, .lst ws => some (.tup ws)
  | .tuple, .tup ws => some (.tup ws)
  | .list, .lst ws => some (.lst ws)
  | .list, .tup ws => some (.lst ws)
  | .sorted, .lst ws => (pairsOf ws).bind fun ps => if ps.length < 64 then some (.lst ((sortP ps).map fun p => .tup [.str p.1, .str p.2])) else none
  | _, _ => none
def opJoin : W → W → Option W
  | .str S, .lst ws => (strsOf ws).bind fun xs => if (xs.map (·.length)).sum + xs.length * S.length ≤ sizeLine then some (.str (joinS S xs)) else none
  | _, _ => none
def getK (kvs : List (DK × W)) (k : DK) : Option W := (kvs.find? fun kv => decide (kv.1 = k)).map (·.2)
def putK' (kvs : List (DK × W)) (k : DK) (w : W) : List (DK × W) :=
  if (kvs.any fun kv => decide (kv.1 = k)) = true then kvs.map fun kv => if kv.1 = k then (k, w) else kv else kvs ++ [(k, w)]
def keyOf : W → Option DK
  | .int i => some (.inl i)
  | .str s => some (.inr s)
  | _ => none
/-! ### the evaluator -/
abbrev Calls := Nat → List W → Sto → Out W
structure Fn where
  n : Nat            -- parameters
  m : Nat            -- names in all
  fr : Bool          -- what it hands back is a new object
  body : T
deriving Inhabited
section
variable (gv : Nat → Option W) (fr : Nat → Bool) (call : Calls)
def compL (c : W → Sto → Out Bool) (e : W → Sto → Out W) : List W → Sto → Out (List W)
  | [], φ => .ok [] φ
  | w :: ws, φ => (c w φ).bind fun b φ1 =>
    if b then (e w φ1).bind fun z φ2 => (compL c e ws φ2).bind fun zs φ3 => .ok (z :: zs) φ3
    else compL c e ws φ1
/-- no exception leaves a comprehension -/
def noExc {α : Type} : Out α → Out α
  | .exc _ _ => .bad
  | r => r
def upto (lo : Int) : Nat → List W
  | 0 => []
  | n + 1 => .int lo :: upto (lo + 1) n
def partOf : W → Option (Option Int)
  | .int i => some (some i)
  | _ => none
def opRng1 : W → Option W
  | .int j => if -(2 ^ 62) ≤ j ∧ j < 2 ^ 62 then some (.lst (upto 0 j.toNat)) else none
  | _ => none
def opRng2 : W → W → Option W
  | .int i, .int j => if (-(2 ^ 62) ≤ i ∧ i < 2 ^ 62) ∧ (-(2 ^ 62) ≤ j ∧ j < 2 ^ 62) then some (.lst (upto i (j - i).toNat)) else none
  | _, _ => none
/-- what stands ready to be stored -/
def slOf (f : Bool) (w : W) : Sl := if f then .own w else .val w
/-- keywords' values in the parameters' order -/
def permL {α : Type} (ks : List Nat) (xs : List α) : List α := (List.range ks.length).filterMap fun j => (ks.findIdx? (· == j)).bind fun i => xs[i]?
mutual
def evalE : T → Loc → Sto → Out W
  | .var i, ρ, φ => match ρ[i]? with
    | some (.val w) => .ok w φ
    | _ => .bad
  | .own i, ρ, φ => match ρ[i]? with
    | some (.own w) => .ok w φ
    | _ => .bad
  | .glob g, _, φ => .ofO (gv g) φ
  | .int i, _, φ => .ok (.int i) φ
  | .str s, _, φ => .ok (.str s) φ
  | .bl b, _, φ => .ok (.bl b) φ
  | .non, _, φ => .ok .non φ
  | .tup es, ρ, φ => (evalEs es ρ φ).bind fun ws φ1 => if ws.length ≤ sizeLine then .ok (.tup ws) φ1 else .bad
  | .lst es, ρ, φ => (evalEs es ρ φ).bind fun ws φ1 => if ws.length ≤ sizeLine then .ok (.lst ws) φ1 else .bad
  | .dnew ks es, ρ, φ => (evalEs es ρ φ).bind fun ws φ1 =>
      if ks.length = ws.length ∧ ks.length ≤ 15 ∧ ks.Nodup then .ok (.obj φ1.length) (φ1 ++ [.dct ((ks.map Sum.inr).zip ws)]) else .bad
  | .dempty, _, φ => .ok (.dct []) φ
  | .bin op a b, ρ, φ => (evalE a ρ φ).bind fun x φ1 => (evalE b ρ φ1).bind fun y φ2 => .ofO (opBin op x y) φ2
  | .neg a, ρ, φ => (evalE a ρ φ).bind fun x φ1 => match x with
    | .int i => .ok (.int (-i)) φ1
    | _ => .bad
  | .cmp op a b, ρ, φ => (evalE a ρ φ).bind fun x φ1 => (evalE b ρ φ1).bind fun y φ2 => .ofO ((opCmp op x y).map .bl) φ2
  | .chn op op' a b c, ρ, φ => (evalE a ρ φ).bind fun x φ1 => (evalE b ρ φ1).bind fun y φ2 => (Out.ofO (opCmp op x y) φ2).bind fun k φ3 =>
      if k then (evalE c ρ φ3).bind fun z φ4 => .ofO ((opCmp op' y z).map .bl) φ4 else .ok (.bl false) φ3
  | .andN es, ρ, φ => evalAnd es ρ φ
  | .orN es, ρ, φ => evalOr es ρ φ
  | .not a, ρ, φ => (evalE a ρ φ).bind fun x φ1 => .ofO ((truthy x).map fun b => .bl (!b)) φ1
  | .ife c a b, ρ, φ => (evalE c ρ φ).bind fun x φ1 => (Out.ofO (truthy x) φ1).bind fun k φ2 => if k then evalE a ρ φ2 else evalE b ρ φ2
  | .idx a i, ρ, φ => (evalE a ρ φ).bind fun x φ1 => (evalE i ρ φ1).bind fun y φ2 => .ofO (opIdx x y) φ2
  | .dget d k, ρ, φ => (evalE d ρ φ).bind fun x φ1 => (evalE k ρ φ1).bind fun y φ2 => match x with
    | .obj i => match φ2[i]? with
      | some (.dct kvs) => .ofO ((keyOf y).bind (getK kvs)) φ2
      | _ => .bad
    | .dct kvs => .ofO ((keyOf y).bind (getK kvs)) φ2
    | _ => .bad
  | .slc a lo hi, ρ, φ => (evalE a ρ φ).bind fun x φ1 =>
      (if lo.isNil then .ok none φ1 else (evalE lo ρ φ1).bind fun y φ' => .ofO (partOf y) φ').bind fun l φ2 =>
      (if hi.isNil then .ok none φ2 else (evalE hi ρ φ2).bind fun y φ' => .ofO (partOf y) φ').bind fun h φ3 => .ofO (opSlc l h x) φ3
  | .call f es, ρ, φ => (evalEs es ρ φ).bind fun ws φ1 => call f ws φ1
  | .callk f ks es, ρ, φ => (evalEs es ρ φ).bind fun ws φ1 => call f (permL ks ws) φ1
  | .isi a t, ρ, φ => (evalE a ρ φ).bind fun x φ1 => .ofO ((isTy t x).map .bl) φ1
  | .blt b a, ρ, φ => (evalE a ρ φ).bind fun x φ1 => .ofO (opBlt b x) φ1
  | .join s a, ρ, φ => (evalE s ρ φ).bind fun x φ1 => if x.isStr then (evalE a ρ φ1).bind fun y φ2 => .ofO (opJoin x y) φ2 else .bad
  | .comp x it c e, ρ, φ => (evalE it ρ φ).bind fun y φ1 => (Out.ofO (items y) φ1).bind fun ws φ1 =>
      noExc ((compL (fun w φ' => if c.isNil then .ok true φ' else (evalE c (ρ.set x (.val w)) φ').bind fun z φ'' => .ofO (truthy z) φ'')
        (fun w φ' => evalE e (ρ.set x (.val w)) φ') ws φ1).bind fun zs φ2 => if zs.length ≤ sizeLine then .ok (.lst zs) φ2 else .bad)
  | .rng1 a, ρ, φ => (evalE a ρ φ).bind fun x φ1 => .ofO (opRng1 x) φ1
  | .rng2 a b, ρ, φ => (evalE a ρ φ).bind fun x φ1 => (evalE b ρ φ1).bind fun y φ2 => .ofO (opRng2 x y) φ2
  | .rev a, ρ, φ => (evalE a ρ φ).bind fun x φ1 => .ofO (opRev x) φ1
  | .lset a, ρ, φ => (evalE a ρ φ).bind fun x φ1 => .ofO (opLset x) φ1
  | .sortS a, ρ, φ => (evalE a ρ φ).bind fun x φ1 => .ofO (opSortS x) φ1
  | .sortI i, ρ, φ => match ρ[i]? with
    | some (.own (.dct kvs)) => .ofO ((strKV kvs).map fun ps => .lst ((sortP ps).map fun p => .tup [.str p.1, .str p.2])) φ
    | _ => .bad
  | .revT a, ρ, φ => (evalE a ρ φ).bind fun x φ1 => .ofO (opRevT x) φ1
  | _, _, _ => .bad
def evalEs : T → Loc → Sto → Out (List W)
  | .nil, _, φ => .ok [] φ
  | .cons a b, ρ, φ => (evalE a ρ φ).bind fun x φ1 => (evalEs b ρ φ1).bind fun xs φ2 => .ok (x :: xs) φ2
  | _, _, _ => .bad
def evalAnd : T → Loc → Sto → Out W
  | .cons a .nil, ρ, φ => evalE a ρ φ
  | .cons a b, ρ, φ => (evalE a ρ φ).bind fun x φ1 => (Out.ofO (truthy x) φ1).bind fun k φ2 => if k then evalAnd b ρ φ2 else .ok x φ2
  | _, _, _ => .bad
def evalOr : T → Loc → Sto → Out W
  | .cons a .nil, ρ, φ => evalE a ρ φ
  | .cons a b, ρ, φ => (evalE a ρ φ).bind fun x φ1 => (Out.ofO (truthy x) φ1).bind fun k φ2 => if k then .ok x φ2 else evalOr b ρ φ2
  | _, _, _ => .bad
end
end
/-! ### statements -/
namespace Out
/-- an expression's outcome, what follows -/
def toR {α : Type} (r : Out α) (ρ : Loc) (f : α → Sto → Res) : Res := match r with
  | ok a φ => f a φ
  | exc x φ => .ex x ρ φ
  | bad => .bad
@[simp] theorem toR_ok {α : Type} (a : α) (φ : Sto) (ρ : Loc) (f : α → Sto → Res) : (Out.ok a φ).toR ρ f = f a φ := rfl
@[simp] theorem toR_exc {α : Type} (x : W) (φ : Sto) (ρ : Loc) (f : α → Sto → Res) : (Out.exc x φ : Out α).toR ρ f = .ex x ρ φ := rfl
@[simp] theorem toR_bad {α : Type} (ρ : Loc) (f : α → Sto → Res) : (Out.bad : Out α).toR ρ f = .bad := rfl
end Out
namespace Res
def andThen (r : Res) (f : Loc → Sto → Res) : Res := match r with
  | nx ρ φ => f ρ φ
  | r => r
@[simp] theorem andThen_nx (ρ : Loc) (φ : Sto) (f : Loc → Sto → Res) : (Res.nx ρ φ).andThen f = f ρ φ := rfl
@[simp] theorem andThen_rt (w : W) (φ : Sto) (f : Loc → Sto → Res) : (Res.rt w φ).andThen f = .rt w φ := rfl
@[simp] theorem andThen_bk (ρ : Loc) (φ : Sto) (f : Loc → Sto → Res) : (Res.bk ρ φ).andThen f = .bk ρ φ := rfl
@[simp] theorem andThen_ct (ρ : Loc) (φ : Sto) (f : Loc → Sto → Res) : (Res.ct ρ φ).andThen f = .ct ρ φ := rfl
@[simp] theorem andThen_ex (x : W) (ρ : Loc) (φ : Sto) (f : Loc → Sto → Res) : (Res.ex x ρ φ).andThen f = .ex x ρ φ := rfl
@[simp] theorem andThen_bad (f : Loc → Sto → Res) : Res.bad.andThen f = .bad := rfl
/-- a loop's body is done: go on with the next turn (none), or leave -/
def turn (r : Res) (go : Loc → Sto → Res) : Res := match r with
  | nx ρ φ => go ρ φ
  | ct ρ φ => go ρ φ
  | bk ρ φ => .nx ρ φ
  | r => r
@[simp] theorem turn_nx (ρ : Loc) (φ : Sto) (f : Loc → Sto → Res) : (Res.nx ρ φ).turn f = f ρ φ := rfl
@[simp] theorem turn_ct (ρ : Loc) (φ : Sto) (f : Loc → Sto → Res) : (Res.ct ρ φ).turn f = f ρ φ := rfl
@[simp] theorem turn_bk (ρ : Loc) (φ : Sto) (f : Loc → Sto → Res) : (Res.bk ρ φ).turn f = .nx ρ φ := rfl
@[simp] theorem turn_rt (w : W) (φ : Sto) (f : Loc → Sto → Res) : (Res.rt w φ).turn f = .rt w φ := rfl
@[simp] theorem turn_ex (x : W) (ρ : Loc) (φ : Sto) (f : Loc → Sto → Res) : (Res.ex x ρ φ).turn f = .ex x ρ φ := rfl
@[simp] theorem turn_bad (f : Loc → Sto → Res) : Res.bad.turn f = .bad := rfl
end Res
section
variable (c : Loc → Sto → Out Bool) (b : Loc → Sto → Res)
/-- a while, at most n turns -/
def wfuel : Nat → Loc → Sto → Option Res
  | 0, _, _ => none
  | n + 1, ρ, φ => match c ρ φ with
    | .ok false φ1 => some (.nx ρ φ1)
    | .ok true φ1 => match b ρ φ1 with
      | .nx ρ2 φ2 => wfuel n ρ2 φ2
      | .ct ρ2 φ2 => wfuel n ρ2 φ2
      | .bk ρ2 φ2 => some (.nx ρ2 φ2)
      | r => some r
    | .exc x φ1 => some (.ex x ρ φ1)
    | .bad => some .bad
theorem wfuel_succ : ∀ (n : Nat) (ρ : Loc) (φ : Sto) (r : Res), wfuel c b n ρ φ = some r → wfuel c b (n + 1) ρ φ = some r
  | 0, _, _, _, h => by simp [wfuel] at h
  | n + 1, ρ, φ, r, h => by
    unfold wfuel at h ⊢
    split at h
    · exact h
    · rename_i φ1 hc
      split at h
      · exact wfuel_succ n _ _ _ h
      · exact wfuel_succ n _ _ _ h
      · exact h
      · exact h
    · exact h
    · exact h
theorem wfuel_le {n m : Nat} (h : n ≤ m) {ρ : Loc} {φ : Sto} {r : Res} (e : wfuel c b n ρ φ = some r) : wfuel c b m ρ φ = some r := by
  induction h with
  | refl => exact e
  | step _ ih => exact wfuel_succ c b _ _ _ _ ih
open Classical in
/-- a while: where it does not end, it is bad -/
noncomputable def wloop (ρ : Loc) (φ : Sto) : Res := if h : ∃ r n, wfuel c b n ρ φ = some r then Classical.choose h else .bad
theorem wloop_of {n : Nat} {ρ : Loc} {φ : Sto} {r : Res} (e : wfuel c b n ρ φ = some r) : wloop c b ρ φ = r := by
  have h : ∃ r n, wfuel c b n ρ φ = some r := ⟨r, n, e⟩
  unfold wloop
  rw [dif_pos h]
  obtain ⟨m, hm⟩ := Classical.choose_spec h
  have h1 := wfuel_le c b (Nat.le_max_left n m) e
  have h2 := wfuel_le c b (Nat.le_max_right n m) hm
  rw [h1] at h2
  exact (Option.some.inj h2).symm
theorem wloop_ends {ρ : Loc} {φ : Sto} (h : wloop c b ρ φ ≠ .bad) : ∃ n, wfuel c b n ρ φ = some (wloop c b ρ φ) := by
  unfold wloop at h ⊢
  split
  · rename_i q
    exact Classical.choose_spec q
  · rename_i q
    rw [dif_neg q] at h
    exact absurd rfl h
theorem wloop_eq (ρ : Loc) (φ : Sto) : wloop c b ρ φ = (c ρ φ).toR ρ fun k φ1 => if k then (b ρ φ1).turn (wloop c b) else .nx ρ φ1 := by
  cases hc : c ρ φ with
  | ok k φ1 =>
    cases k with
    | false =>
      show _ = Res.nx ρ φ1
      exact wloop_of c b (n := 1) (by simp [wfuel, hc])
    | true =>
      show _ = (b ρ φ1).turn (wloop c b)
      have go : ∀ ρ2 φ2, (∀ n, wfuel c b (n + 1) ρ φ = wfuel c b n ρ2 φ2) → wloop c b ρ φ = wloop c b ρ2 φ2 := fun ρ2 φ2 e => by
        by_cases q : ∃ r n, wfuel c b n ρ2 φ2 = some r
        · obtain ⟨r, n, hn⟩ := q
          rw [wloop_of c b hn]
          exact wloop_of c b (n := n + 1) ((e n).trans hn)
        · have q' : ¬ ∃ r n, wfuel c b n ρ φ = some r := fun ⟨r, n, hn⟩ => by
            cases n with
            | zero => simp [wfuel] at hn
            | succ n => exact q ⟨r, n, (e n).symm.trans hn⟩
          unfold wloop
          rw [dif_neg q, dif_neg q']
      cases hb : b ρ φ1 with
      | nx ρ2 φ2 => exact go ρ2 φ2 fun n => by conv => lhs; unfold wfuel; simp only [hc, hb]
      | ct ρ2 φ2 => exact go ρ2 φ2 fun n => by conv => lhs; unfold wfuel; simp only [hc, hb]
      | bk ρ2 φ2 => exact wloop_of c b (n := 1) (by simp [wfuel, hc, hb])
      | rt w φ2 => exact wloop_of c b (n := 1) (by simp [wfuel, hc, hb])
      | ex x ρ2 φ2 => exact wloop_of c b (n := 1) (by simp [wfuel, hc, hb])
      | bad => exact wloop_of c b (n := 1) (by simp [wfuel, hc, hb])
  | exc x φ1 => exact wloop_of c b (n := 1) (by simp [wfuel, hc])
  | bad => exact wloop_of c b (n := 1) (by simp [wfuel, hc])
end
/-- a for over these items -/
def floop (b : W → Loc → Sto → Res) : List W → Loc → Sto → Res
  | [], ρ, φ => .nx ρ φ
  | w :: ws, ρ, φ => (b w ρ φ).turn (floop b ws)
def setAll : List Nat → List W → Loc → Option Loc
  | [], [], ρ => some ρ
  | i :: is, w :: ws, ρ => setAll is ws (ρ.set i (.val w))
  | _, _, _ => none
def T.frs (fr : Nat → Bool) : T → List Bool
  | .cons a b => a.fresh fr :: b.frs fr
  | _ => []
def slots : List Bool → List W → Option (List Sl)
  | [], [] => some []
  | f :: fs, w :: ws => if f && !w.isObj then none else (slots fs ws).map (slOf f w :: ·)
  | _, _ => none
def setSl : List Nat → List Sl → Loc → Option Loc
  | [], [], ρ => some ρ
  | i :: is, s :: ss, ρ => setSl is ss (ρ.set i s)
  | _, _, _ => none
def elems : W → Option (List W)
  | .tup ws => some ws
  | _ => none
section
variable (gv : Nat → Option W) (fr : Nat → Bool) (call : Calls)
noncomputable def evalS : T → Loc → Sto → Res
  | .nil, ρ, φ => .nx ρ φ
  | .cons a b, ρ, φ => (evalS a ρ φ).andThen fun ρ1 φ1 => evalS b ρ1 φ1
  | .sset i e, ρ, φ => (evalE gv call e ρ φ).toR ρ fun w φ1 =>
      if e.fresh fr then (if w.isObj then .nx (ρ.set i (.own w)) φ1 else .bad) else .nx (ρ.set i (.val w)) φ1
  | .spar is es, ρ, φ => (evalEs gv call es ρ φ).toR ρ fun ws φ1 => match (slots (es.frs fr) ws).bind fun ss => setSl is ss ρ with
    | some ρ' => .nx ρ' φ1
    | none => .bad
  | .sunp is e, ρ, φ => (evalE gv call e ρ φ).toR ρ fun w φ1 => match (elems w).bind fun ws => setAll is ws ρ with
    | some ρ' => .nx ρ' φ1
    | none => .bad
  | .sdput d k e, ρ, φ => (evalE gv call e ρ φ).toR ρ fun z φ1 => (evalE gv call d ρ φ1).toR ρ fun x φ2 => (evalE gv call k ρ φ2).toR ρ fun y φ3 => match x, keyOf y with
    | .obj i, some l => match φ3[i]? with
      | some (.dct kvs) => if kvs.length < sizeLine then .nx ρ (φ3.set i (.dct (putK' kvs l z))) else .bad
      | _ => .bad
    | _, _ => .bad
  | .sdown i k e, ρ, φ => match ρ[i]? with
    | some (.own (.dct kvs)) => (evalE gv call e ρ φ).toR ρ fun z φ1 => (evalE gv call k ρ φ1).toR ρ fun y φ2 => match keyOf y with
      | some l => if kvs.length < sizeLine then .nx (ρ.set i (.own (.dct (putK' kvs l z)))) φ2 else .bad
      | none => .bad
    | _ => .bad
  | .sapp i e, ρ, φ => match ρ[i]? with
    | some (.own (.lst ws)) => (evalE gv call e ρ φ).toR ρ fun z φ1 => if ws.length < sizeLine then .nx (ρ.set i (.own (.lst (ws ++ [z])))) φ1 else .bad
    | _ => .bad
  | .sext i e, ρ, φ => match ρ[i]? with
    | some (.own (.lst ws)) => (evalE gv call e ρ φ).toR ρ fun z φ1 => match z with
      | .lst zs => if ws.length + zs.length ≤ sizeLine then .nx (ρ.set i (.own (.lst (ws ++ zs)))) φ1 else .bad
      | _ => .bad
    | _ => .bad
  | .spop j i, ρ, φ => match ρ[i]? with
    | some (.own (.lst ws)) => match ws.getLast? with
      | some z => .nx ((ρ.set i (.own (.lst ws.dropLast))).set j (.val z)) φ
      | none => .bad
    | _ => .bad
  | .sif c a b, ρ, φ => (evalE gv call c ρ φ).toR ρ fun x φ1 => match truthy x with
    | some true => evalS a ρ φ1
    | some false => evalS b ρ φ1
    | none => .bad
  | .swhile c b, ρ, φ => wloop (fun ρ φ => (evalE gv call c ρ φ).bind fun x φ1 => .ofO (truthy x) φ1) (fun ρ φ => evalS b ρ φ) ρ φ
  | .sfor i it b, ρ, φ => (evalE gv call it ρ φ).toR ρ fun x φ1 => match items x with
    | some ws => floop (fun w ρ φ => evalS b (ρ.set i (.val w)) φ) ws ρ φ1
    | none => .bad
  | .sforT is it b, ρ, φ => (evalE gv call it ρ φ).toR ρ fun x φ1 => match items x with
    | some ws => floop (fun w ρ φ => match (elems w).bind fun us => setAll is us ρ with
      | some ρ' => evalS b ρ' φ
      | none => .bad) ws ρ φ1
    | none => .bad
  | .sforE is a b, ρ, φ => (evalE gv call a ρ φ).toR ρ fun x φ1 => match opEnum x with
    | some ws => floop (fun w ρ φ => match (elems w).bind fun us => setAll is us ρ with
      | some ρ' => evalS b ρ' φ
      | none => .bad) ws ρ φ1
    | none => .bad
  | .srais k es, ρ, φ => (evalEs gv call es ρ φ).toR ρ fun ws φ1 => .ex (.ins k ws.reverse) ρ φ1
  | .stry yes no i b hs, ρ, φ => match evalS b ρ φ with
    | .ex (.ins k fs) ρ' φ' => if i < ρ'.length ∧ k ∈ yes then (match hItems fs hs with
        | some ws => if ws.length ≤ 1000 then .rt (.tup ws) φ' else .bad
        | none => .bad)
      else if k ∈ no ∧ k ∉ yes then .ex (.ins k fs) ρ' φ' else .bad
    | .ex _ _ _ => .bad
    | r => r
  | .sret e, ρ, φ => (evalE gv call e ρ φ).toR ρ fun w φ1 => .rt w φ1
  | .sretN, _, φ => .rt .non φ
  | .spass, ρ, φ => .nx ρ φ
  | .sbrk, ρ, φ => .bk ρ φ
  | .scnt, ρ, φ => .ct ρ φ
  | .sexp e, ρ, φ => (evalE gv call e ρ φ).toR ρ fun _ φ1 => .nx ρ φ1
  | .sfrz i, ρ, φ => match ρ[i]? with
    | some (.own w) => .nx (ρ.set i (.val w)) φ
    | _ => .bad
  | _, _, _ => .bad
end
/-- what a def hands back -/
def Res.out (fr : Bool) : Res → Out W
  | .nx _ φ => if fr then .bad else .ok .non φ
  | .rt w φ => if fr && !w.isObj then .bad else .ok w φ
  | .ex x _ φ => .exc x φ
  | _ => .bad
structure Prg where
  gv : Nat → Option W
  fns : List Fn
def Prg.fr (P : Prg) (f : Nat) : Bool := ((P.fns[f]?).map (·.fr)).getD false
def start (m : Nat) (ws : List W) : Loc := ws.map .val ++ List.replicate (m - ws.length) .none
/-- a def called, at most d deep -/
noncomputable def Prg.call (P : Prg) : Nat → Calls
  | 0, _, _, _ => .bad
  | d + 1, f, ws, φ => match P.fns[f]? with
    | some fn => if ws.length = fn.n then (evalS P.gv P.fr (P.call d) fn.body (start fn.m ws) φ).out fn.fr else .bad
    | none => .bad
end MP
/-! MP: states, results, and what an operation does. -/
namespace MP
open PySem PySem.Spec PyProof.Rows L2
def plainName (x : PySem.Str) : Bool := !(x == ("__debug__" : PySem.Str)) && !(x == ("__classdict__" : PySem.Str)) && !decide (x = "__name__")
theorem plain1 {x : PySem.Str} (h : plainName x = true) : (x == ("__debug__" : PySem.Str)) = false := by unfold plainName at h; simp only [Bool.and_eq_true, Bool.not_eq_true'] at h; exact h.1.1
theorem plain2 {x : PySem.Str} (h : plainName x = true) : (x == ("__classdict__" : PySem.Str)) = false := by unfold plainName at h; simp only [Bool.and_eq_true, Bool.not_eq_true'] at h; exact h.1.2
theorem plain3 {x : PySem.Str} (h : plainName x = true) : x ≠ "__name__" := by unfold plainName at h; simp only [Bool.and_eq_true, Bool.not_eq_true'] at h; exact of_decide_eq_false h.2
section
variable (M : Md)
def CellOk (G : Fz) (H : Hp) (a : Addr) : Cell → Prop
  | .dct kvs => ∃ es, H a = some (.dK es) ∧ Repk M G es kvs
  | .ins c fs => ∃ dx es, H a = some (.ins (M.cls c) dx es) ∧ es.map (·.1) = M.flds c ∧ Reps M G (es.map (·.2)) fs
structure StoOk (G : Fz) (φ : Sto) (H : Hp) : Prop where
  le : Same G.F H
  nd : G.ι.Nodup
  len : G.ι.length = φ.length
  cell : ∀ (i : Nat) (c : Cell) (a : Addr), φ[i]? = some c → G.ι[i]? = some a → G.F a = none ∧ CellOk M G H a c
/-- an object of one's own at a: its own contents lie in the heap, all below is frozen -/
def RepO (G : Fz) (H : Hp) (a : Addr) : W → Prop
  | .lst ws => ∃ vs, H a = some (.lst vs) ∧ Reps M G vs ws
  | .dct kvs => ∃ es, H a = some (.dK es) ∧ Repk M G es kvs
  | .ins c fs => ∃ dx es, H a = some (.ins (M.cls c) dx es) ∧ es.map (·.1) = M.flds c ∧ Reps M G (es.map (·.2)) fs
  | _ => False
/-- at a stands an object of one's own -/
structure Own (G : Fz) (H : Hp) (a : Addr) (w : W) : Prop where
  F : G.F a = none
  ι : a ∉ G.ι
  rep : RepO M G H a w
def SlOk (Z : Hp) (G : Fz) (H : Hp) (v : Option (Option V)) : Sl → Prop
  | .none => True
  | .val w => ∃ x, v = some (some x) ∧ Rep M G x w
  | .own w => ∃ a, v = some (some (.ref a)) ∧ Z a = none ∧ Own M G H a w
structure LocOk (Z : Hp) (G : Fz) (ρ : Loc) (σ : L2.St) (H : Hp) : Prop where
  len : σ.length = ρ.length
  at_ : ∀ (i : Nat) (s : Sl), ρ[i]? = some s → SlOk M Z G H σ[i]? s
  apart : ∀ (i j : Nat) (w w' : W) (a : Addr), ρ[i]? = some (.own w) → ρ[j]? = some (.own w') → σ[i]? = some (some (.ref a)) → σ[j]? = some (some (.ref a)) → i = j
end
/-- from one state to a later one -/
structure Ext (G : Fz) (H : Hp) (G' : Fz) (H' : Hp) : Prop where
  F : Same G.F G'.F
  keep : ∀ b o, H b = some o → b ∉ G.ι → H' b = some o
  new : ∀ b, H b ≠ none → b ∉ G.ι → G.F b = none → G'.F b = none
  ι : ∃ l, G'.ι = G.ι ++ l ∧ ∀ b ∈ l, H b = none
  alive : ∀ b ∈ G'.ι, H' b ≠ none
section
variable {M : Md} {Z : Hp} {G G' G1 G2 : Fz} {H H' H1 H2 : Hp} {φ φ' φ1 : Sto} {ρ : Loc} {σ : L2.St} {w : W} {a : Addr} {v : V}
theorem Ext.le (e : Ext G H G' H') : G.Le G' := by
  obtain ⟨l, q, _⟩ := e.ι
  exact ⟨e.F, l, q⟩
theorem RepO.alive (h : RepO M G H a w) : H a ≠ none := by
  cases w <;> simp only [RepO] at h
  case lst => obtain ⟨vs, e, _⟩ := h; rw [e]; simp
  case dct => obtain ⟨vs, e, _⟩ := h; rw [e]; simp
  case ins => obtain ⟨_, vs, e, _⟩ := h; rw [e]; simp
theorem CellOk.alive {c : Cell} (h : CellOk M G H a c) : H a ≠ none := by
  cases c <;> simp only [CellOk] at h
  case dct => obtain ⟨vs, e, _⟩ := h; rw [e]; simp
  case ins => obtain ⟨_, vs, e, _⟩ := h; rw [e]; simp
theorem StoOk.alive (s : StoOk M G φ H) : ∀ b ∈ G.ι, H b ≠ none := by
  intro b hb
  obtain ⟨i, hi, e⟩ := List.mem_iff_getElem.mp hb
  have h1 : i < φ.length := by rw [← s.len]; exact hi
  exact (s.cell i φ[i] b (List.getElem?_eq_getElem h1) (by rw [List.getElem?_eq_getElem hi, e])).2.alive
theorem StoOk.noF (s : StoOk M G φ H) : ∀ b ∈ G.ι, G.F b = none := by
  intro b hb
  obtain ⟨i, hi, e⟩ := List.mem_iff_getElem.mp hb
  have h1 : i < φ.length := by rw [← s.len]; exact hi
  exact (s.cell i φ[i] b (List.getElem?_eq_getElem h1) (by rw [List.getElem?_eq_getElem hi, e])).1
theorem Ext.refl (s : StoOk M G φ H) : Ext G H G H := ⟨Same.refl _, fun _ _ h _ => h, fun _ _ _ h => h, ⟨[], by simp, by simp⟩, s.alive⟩
theorem Ext.trans (e : Ext G H G1 H1) (f : Ext G1 H1 G2 H2) : Ext G H G2 H2 := by
  obtain ⟨l, q, ql⟩ := e.ι
  obtain ⟨m, r, rm⟩ := f.ι
  have nin : ∀ b, H b ≠ none → b ∉ G.ι → b ∉ G1.ι := fun b h1 h2 h3 => by
    rw [q] at h3
    rcases List.mem_append.mp h3 with z | z
    · exact h2 z
    · exact h1 (ql b z)
  refine ⟨e.F.trans f.F, fun b o h n => f.keep b o (e.keep b o h n) (nin b (by rw [h]; simp) n), fun b h n z => ?_, ⟨l ++ m, by rw [r, q, List.append_assoc], fun b hb => ?_⟩, f.alive⟩
  · have h1 : H1 b ≠ none := by
      cases hb : H b with
      | none => exact absurd hb h
      | some o => rw [e.keep b o hb n]; simp
    exact f.new b h1 (nin b h n) (e.new b h n z)
  · rcases List.mem_append.mp hb with z | z
    · exact ql b z
    · have h1 := rm b z
      cases hH : H b with
      | none => rfl
      | some o =>
        by_cases hi : b ∈ G.ι
        · exact absurd h1 (e.alive b (by rw [q]; exact List.mem_append_left _ hi))
        · rw [e.keep b o hH hi] at h1
          cases h1
theorem RepO.mono (h : G.Le G') (r : RepO M G H a w) (k : H' a = H a) : RepO M G' H' a w := by
  cases w <;> simp only [RepO] at r ⊢
  case lst => obtain ⟨vs, e, q⟩ := r; exact ⟨vs, k.trans e, Reps.mono h _ _ q⟩
  case dct => obtain ⟨vs, e, q⟩ := r; exact ⟨vs, k.trans e, Repk.mono h _ _ q⟩
  case ins => obtain ⟨dx, vs, e, z, q⟩ := r; exact ⟨dx, vs, k.trans e, z, Reps.mono h _ _ q⟩
theorem Ext.same (e : Ext G H G' H') (h : H a ≠ none) (n : a ∉ G.ι) : H' a = H a := by
  cases hb : H a with
  | none => exact absurd hb h
  | some o => exact e.keep a o hb n
theorem Ext.nin (e : Ext G H G' H') (h : H a ≠ none) (n : a ∉ G.ι) : a ∉ G'.ι := fun h3 => by
  obtain ⟨l, q, ql⟩ := e.ι
  rw [q] at h3
  rcases List.mem_append.mp h3 with z | z
  · exact n z
  · exact h (ql a z)
theorem Own.ext (o : Own M G H a w) (e : Ext G H G' H') : Own M G' H' a w :=
  ⟨e.new a o.rep.alive o.ι o.F, e.nin o.rep.alive o.ι, o.rep.mono e.le (e.same o.rep.alive o.ι)⟩
theorem LocOk.ext (l : LocOk M Z G ρ σ H) (e : Ext G H G' H') : LocOk M Z G' ρ σ H' := by
  refine ⟨l.len, fun i s h => ?_, l.apart⟩
  have q := l.at_ i s h
  cases s with
  | none => trivial
  | val w =>
    obtain ⟨x, e1, r⟩ := q
    exact ⟨x, e1, Rep.mono e.le w x r⟩
  | own w =>
    obtain ⟨a, e1, z, o⟩ := q
    exact ⟨a, e1, z, o.ext e⟩
/-! ### the state changes -/
/-- a new object is laid, not frozen -/
theorem sto_laid (s : StoOk M G φ H) {p : Addr} {o : HO} (hp : H p = none) : StoOk M G φ (upd H p o) := by
  refine ⟨fun b u h => ?_, s.nd, s.len, fun i c a h1 h2 => ?_⟩
  · have e := s.le b u h
    rw [upd_ne (ne_of_none e hp)]
    exact e
  · obtain ⟨h3, h4⟩ := s.cell i c a h1 h2
    refine ⟨h3, ?_⟩
    have ne : a ≠ p := fun z => h4.alive (z ▸ hp)
    cases c <;> simp only [CellOk] at h4 ⊢
    · obtain ⟨es, e, q⟩ := h4
      exact ⟨es, by rw [upd_ne ne]; exact e, q⟩
    · obtain ⟨dx, es, e, q⟩ := h4
      exact ⟨dx, es, by rw [upd_ne ne]; exact e, q⟩
theorem ext_laid (s : StoOk M G φ H) {p : Addr} {o : HO} (hp : H p = none) : Ext G H G (upd H p o) := by
  refine ⟨Same.refl _, fun b u h _ => by rw [upd_ne (ne_of_none h hp)]; exact h, fun _ _ _ h => h, ⟨[], by simp, by simp⟩, fun b hb => ?_⟩
  have h := s.alive b hb
  by_cases e : b = p
  · rw [e, upd_same]; simp
  · rw [upd_ne e]; exact h
theorem own_laid (s : StoOk M G φ H) {p : Addr} {o : HO} (hp : H p = none) (r : RepO M G (upd H p o) p w) : Own M G (upd H p o) p w := by
  refine ⟨?_, fun h => s.alive p h hp, r⟩
  cases e : G.F p with
  | none => rfl
  | some u => rw [s.le p u e] at hp; cases hp
/-- an object is frozen -/
def Fz.frz (G : Fz) (a : Addr) (o : HO) : Fz := ⟨upd G.F a o, G.ι⟩
theorem frz_le {o : HO} (h : G.F a = none) : G.Le (G.frz a o) := ⟨fun b u e => by show upd G.F a o b = _; rw [upd_ne (ne_of_none e h)]; exact e, [], by simp [Fz.frz]⟩
theorem CellOk.mono {c : Cell} (h : G.Le G') (r : CellOk M G H a c) (k : H' a = H a) : CellOk M G' H' a c := by
  cases c <;> simp only [CellOk] at r ⊢
  case dct => obtain ⟨vs, e, q⟩ := r; exact ⟨vs, k.trans e, Repk.mono h _ _ q⟩
  case ins => obtain ⟨dx, vs, e, z, q⟩ := r; exact ⟨dx, vs, k.trans e, z, Reps.mono h _ _ q⟩
theorem sto_frz (s : StoOk M G φ H) {o : HO} (hF : G.F a = none) (hι : a ∉ G.ι) (hH : H a = some o) : StoOk M (G.frz a o) φ H := by
  refine ⟨fun b u h => ?_, s.nd, s.len, fun i c b h1 h2 => ?_⟩
  · by_cases e : b = a
    · subst e
      have h' : upd G.F b o b = some u := h
      rw [upd_same] at h'
      cases h'
      exact hH
    · have h' : upd G.F a o b = some u := h
      rw [upd_ne e] at h'
      exact s.le b u h'
  · obtain ⟨h3, h4⟩ := s.cell i c b h1 h2
    have ne : b ≠ a := fun z => hι (z ▸ List.mem_of_getElem? h2)
    refine ⟨by show upd G.F a o b = none; rw [upd_ne ne]; exact h3, h4.mono (frz_le hF) rfl⟩
theorem rep_frz {o : HO} (h : Own M G H a w) (hH : H a = some o) : Rep M (G.frz a o) (.ref a) w := by
  have le : G.Le (G.frz a o) := frz_le h.F
  have r := h.rep
  have at_ : (G.frz a o).F a = some o := upd_same
  cases w <;> simp only [RepO] at r <;> simp only [Rep]
  case lst ws =>
    obtain ⟨vs, e, q⟩ := r
    rw [hH] at e; cases e
    exact ⟨a, vs, rfl, .inl (.inl at_), Reps.mono le _ _ q⟩
  case dct kvs =>
    obtain ⟨vs, e, q⟩ := r
    rw [hH] at e; cases e
    exact ⟨a, vs, rfl, .inl at_, Repk.mono le _ _ q⟩
  case ins c fs =>
    obtain ⟨dx, vs, e, z, q⟩ := r
    rw [hH] at e; cases e
    exact ⟨a, dx, vs, rfl, at_, z, Reps.mono le _ _ q⟩
theorem ext_frz0 (s : StoOk M G φ H) {o : HO} (h : Own M G' H' a w) (e : Ext G H G' H') (hH : H a = none) (hH' : H' a = some o) : Ext G H (G'.frz a o) H' := by
  refine ⟨fun b u q => ?_, e.keep, fun b h1 h2 h3 => ?_, e.ι, e.alive⟩
  · have q' := e.F b u q
    show upd G'.F a o b = _
    rw [upd_ne (ne_of_none q' h.F)]
    exact q'
  · show upd G'.F a o b = none
    have ne : b ≠ a := fun z => h1 (z ▸ hH)
    rw [upd_ne ne]
    exact e.new b h1 h2 h3
end
/-! ### results -/
abbrev Rst := Fz → Hp → Hp → V → W → Prop
section
variable (M : Md)
def RV : Rst := fun G' _ _ v w => Rep M G' v w
def RO : Rst := fun G' _ H' v w => ∃ a, v = .ref a ∧ Own M G' H' a w
def RR : Rst := fun G' _ H' v w => Rep M G' v w ∨ ∃ a, v = .ref a ∧ Own M G' H' a w
/-- new, where it is an object -/
def RB : Rst := fun G' H H' v w => (w.isObj = true ∧ ∃ a, v = .ref a ∧ H a = none ∧ Own M G' H' a w) ∨ (w.isObj = false ∧ Rep M G' v w)
/-- what may follow -/
def Post (R : Rst) (G : Fz) (H : Hp) (w : W) (φ' : Sto) (Q : VK) : Prop := ∀ G' H' v, Ext G H G' H' → StoOk M G' φ' H' → R G' H H' v w → Q v H'
end
section
variable {M : Md} {G : Fz} {H : Hp} {w : W} {φ' : Sto} {Q : VK}
theorem RV.toR {G' : Fz} {H H' : Hp} {v : V} (h : RV M G' H H' v w) : RR M G' H H' v w := .inl h
theorem RB.toR {G' : Fz} {H H' : Hp} {v : V} (h : RB M G' H H' v w) : RR M G' H H' v w := by
  rcases h with ⟨_, a, e, _, o⟩ | ⟨_, r⟩
  · exact .inr ⟨a, e, o⟩
  · exact .inl r
theorem Post.ofR {R : Rst} (h : Post M (RR M) G H w φ' Q) (hR : ∀ {G' H' v}, R G' H H' v w → RR M G' H H' v w) : Post M R G H w φ' Q := fun G' H' v e s r => h G' H' v e s (hR r)
/-- what is new may be frozen -/
theorem Post.frz {φ : Sto} (s0 : StoOk M G φ H) (h : Post M (RV M) G H w φ' Q) : Post M (RB M) G H w φ' Q := by
  intro G' H' v e s r
  rcases r with ⟨_, a, rfl, hn, o⟩ | ⟨_, r⟩
  · cases hH : H' a with
    | none => exact absurd hH o.rep.alive
    | some u =>
      exact h (G'.frz a u) H' _ (ext_frz0 s0 o e hn hH) (sto_frz s o.F o.ι hH) (rep_frz o hH)
  · exact h G' H' v e s r
/-- an own object or a value, by what is to be read -/
theorem RR.lst {G' : Fz} {H H' : Hp} {φ : Sto} {v : V} {ws : List W} (s : StoOk M G' φ H') (h : RR M G' H H' v (.lst ws)) : ∃ a vs, v = .ref a ∧ LstR M.K H' a vs ∧ Reps M G' vs ws := by
  rcases h with r | ⟨a, rfl, o⟩
  · simp only [Rep] at r
    obtain ⟨a, vs, e, q, z⟩ := r
    exact ⟨a, vs, e, lstR_mono s.le q, z⟩
  · obtain ⟨vs, e, q⟩ := (show ∃ vs, H' a = some (.lst vs) ∧ Reps M G' vs ws from o.rep)
    exact ⟨a, vs, rfl, .inl (.inl e), q⟩
theorem RR.tup {G' : Fz} {H H' : Hp} {φ : Sto} {v : V} {ws : List W} (s : StoOk M G' φ H') (h : RR M G' H H' v (.tup ws)) : ∃ a vs, v = .ref a ∧ SqT M.K H' a vs ∧ Reps M G' vs ws ∧ SqT M.K G'.F a vs := by
  rcases h with r | ⟨a, rfl, o⟩
  · simp only [Rep] at r
    obtain ⟨a, vs, e, q, z⟩ := r
    exact ⟨a, vs, e, sqT_mono s.le q, z, q⟩
  · exact (show False from o.rep).elim
theorem RR.int {G' : Fz} {H H' : Hp} {v : V} {i : Int} (h : RR M G' H H' v (.int i)) : v = .int i := by
  rcases h with r | ⟨a, rfl, o⟩
  · simpa only [Rep] using r
  · exact (show False from o.rep).elim
theorem RR.str {G' : Fz} {H H' : Hp} {v : V} {s : List Nat} (h : RR M G' H H' v (.str s)) : v = .str (toS s) := by
  rcases h with r | ⟨a, rfl, o⟩
  · simpa only [Rep] using r
  · exact (show False from o.rep).elim
theorem RR.bl {G' : Fz} {H H' : Hp} {v : V} {b : Bool} (h : RR M G' H H' v (.bl b)) : v = .bl b := by
  rcases h with r | ⟨a, rfl, o⟩
  · simpa only [Rep] using r
  · exact (show False from o.rep).elim
theorem RR.non {G' : Fz} {H H' : Hp} {v : V} (h : RR M G' H H' v .non) : v = .non := by
  rcases h with r | ⟨a, rfl, o⟩
  · simpa only [Rep] using r
  · exact (show False from o.rep).elim
theorem RR.obj {G' : Fz} {H H' : Hp} {v : V} {i : Nat} (h : RR M G' H H' v (.obj i)) : ∃ a, v = .ref a ∧ G'.ι[i]? = some a := by
  rcases h with r | ⟨a, rfl, o⟩
  · simpa only [Rep] using r
  · exact (show False from o.rep).elim
/-- it lives on -/
theorem RR.ext {G' G2 : Fz} {H H' H2 : Hp} {v : V} {H0 : Hp} (h : RR M G' H H' v w) (e : Ext G' H' G2 H2) : RR M G2 H0 H2 v w := by
  rcases h with r | ⟨a, rfl, o⟩
  · exact .inl (Rep.mono e.le _ _ r)
  · exact .inr ⟨a, rfl, o.ext e⟩
/-- a new list, laid -/
theorem post_lst {φ : Sto} (s : StoOk M G φ H) {p : Addr} {vs : List V} {ws : List W} (hp : H p = none) (r : Reps M G vs ws) (h : Post M (RB M) G H (.lst ws) φ Q) : Q (.ref p) (upd H p (.lst vs)) :=
  h G _ _ (ext_laid s hp) (sto_laid s hp) (.inl ⟨rfl, p, rfl, hp, own_laid s hp ⟨vs, upd_same, r⟩⟩)
theorem Post.toB (h : Post M (RV M) G H w φ' Q) (hw : w.isObj = false) : Post M (RB M) G H w φ' Q := fun G' H' v e s r => by
  rcases r with ⟨z, _⟩ | ⟨_, r⟩
  · rw [hw] at z; cases z
  · exact h G' H' v e s r
theorem post_val {φ : Sto} (s : StoOk M G φ H) {v : V} (r : Rep M G v w) (hw : w.isObj = false) (h : Post M (RB M) G H w φ Q) : Q v H := h G H v (.refl s) s (.inr ⟨hw, r⟩)
/-- a new tuple, laid and frozen -/
theorem post_tup {φ : Sto} (s : StoOk M G φ H) {p : Addr} {vs : List V} {ws : List W} (hp : H p = none) (r : Reps M G vs ws) (h : Post M (RB M) G H (.tup ws) φ Q) : Q (.ref p) (upd H p (.tup vs)) := by
  have s1 := sto_laid (o := .tup vs) s hp
  have hF : G.F p = none := by
    cases e : G.F p with
    | none => rfl
    | some u => rw [s.le p u e] at hp; cases hp
  have hι : p ∉ G.ι := fun z => s.alive p z hp
  have e1 := ext_laid (o := .tup vs) s hp
  have e2 : Ext G H (G.frz p (.tup vs)) (upd H p (.tup vs)) := by
    refine ⟨fun b u q => ?_, e1.keep, fun b h1 h2 h3 => ?_, e1.ι, e1.alive⟩
    · show upd G.F p _ b = _
      rw [upd_ne (ne_of_none q hF)]
      exact q
    · show upd G.F p _ b = none
      rw [upd_ne (show b ≠ p from fun z => h1 (by rw [z]; exact hp))]
      exact h3
  refine h _ _ _ e2 (sto_frz s1 hF hι upd_same) (.inr ⟨rfl, ?_⟩)
  simp only [Rep]
  exact ⟨p, vs, rfl, .inl (.inl upd_same), Reps.mono (frz_le hF) _ _ r⟩
end
end MP
/-! MP: the operations, by values. -/
namespace MP
open PySem PySem.Spec PyProof.Rows L2 TL
theorem lenS (s : List Nat) : (toS s).length = s.length := by show (s.toArray).size = _; simp
theorem bound_eq (n d : Nat) (o : Option Int) : bound n d o = HT.sIx n d o := by cases o <;> rfl
theorem cut_V (lo hi : Option Int) (xs : List V) : cut lo hi xs = cutV xs lo hi := by unfold cut cutV; simp only [bound_eq]
theorem cut_S (lo hi : Option Int) (s : List Nat) : toS (cut lo hi s) = cutS (toS s) lo hi := by
  unfold cut cutS
  rw [lenS]
  simp only [bound_eq]
theorem joinS_eq (S : List Nat) : ∀ xs, joinS S xs = joinL S xs
  | [] => rfl
  | [_] => rfl
  | x :: y :: r => by simp only [joinS, joinL, joinS_eq S (y :: r)]
theorem joinS_str (S : List Nat) (xs : List (List Nat)) : toS (joinS S xs) = Txt.join (toS S) (xs.map toS) := by
  rw [join_eq]
  have h := tl_join (toS S) (xs.map toS)
  have e : (xs.map toS).map tl = xs := by
    rw [List.map_map]
    conv => rhs; rw [← List.map_id xs]
    exact List.map_congr_left fun x _ => by simp [tl, toS]
  rw [e] at h
  have e2 : tl (toS S) = S := by simp [tl, toS]
  rw [e2, ← joinS_eq] at h
  rw [← toS_cps (Str.join (toS S) (xs.map toS))]
  exact congrArg toS h.symm
theorem ixN_eq (n : Nat) (i : Int) : ixN n i = L2.ixN n i := rfl
theorem ixW_at {α : Type} (xs : List α) (i : Int) : ixW xs i = atI xs i := by
  unfold ixW atI L2.ixN
  split
  · split <;> rfl
  · split <;> rfl
theorem atI_rep {M : Md} {G : Fz} {vs : List V} {ws : List W} {i : Int} {w : W} (r : Reps M G vs ws) (h : ixW ws i = some w) : ∃ v, atI vs i = some v ∧ Rep M G v w := by
  rw [ixW_at] at h
  unfold atI at h ⊢
  rw [r.length]
  cases e : L2.ixN ws.length i with
  | none => rw [e] at h; cases h
  | some j =>
    rw [e] at h
    exact r.getW h
section
variable {M : Md} {G : Fz} {H : Hp}
mutual
/-- a value as data -/
theorem rep_Dp {K : PySem.W.Frag} (hK : M.K = K) (le : Same G.F H) : ∀ (n : Nat) (w : W) (v : V), w.okD n = true → Rep M G v w → Dp K H v w.toD
  | _, .non, v, _, r => by
    simp only [Rep] at r
    subst r
    exact .non
  | _, .bl b, v, _, r => by
    simp only [Rep] at r
    subst r
    exact .bl b
  | _, .int i, v, _, r => by
    simp only [Rep] at r
    subst r
    exact .int i
  | _, .str s, v, _, r => by
    simp only [Rep] at r
    subst r
    exact .str _
  | 0, .tup _, _, h, _ => by simp [W.okD] at h
  | 0, .lst _, _, h, _ => by simp [W.okD] at h
  | n + 1, .tup ws, v, h, r => by
    simp only [Rep] at r
    obtain ⟨a, vs, rfl, q, z⟩ := r
    exact .tup (by rw [← hK]; exact sqT_mono le q) (reps_Dp hK le n ws vs (by simpa [W.okD] using h) z)
  | n + 1, .lst ws, v, h, r => by
    simp only [Rep] at r
    obtain ⟨a, vs, rfl, q, z⟩ := r
    exact .lst (by rw [← hK]; exact (lstR_mono le q).sq) (reps_Dp hK le n ws vs (by simpa [W.okD] using h) z)
  | 0, .dct _, _, h, _ => by simp [W.okD] at h
  | _ + 1, .dct _, _, h, _ => by simp [W.okD] at h
  | 0, .ins _ _, _, h, _ => by simp [W.okD] at h
  | _ + 1, .ins _ _, _, h, _ => by simp [W.okD] at h
  | 0, .obj _, _, h, _ => by simp [W.okD] at h
  | _ + 1, .obj _, _, h, _ => by simp [W.okD] at h
theorem reps_Dp {K : PySem.W.Frag} (hK : M.K = K) (le : Same G.F H) : ∀ (n : Nat) (ws : List W) (vs : List V), okDs n ws = true → Reps M G vs ws → DpAll K H vs (toDs ws)
  | _, [], [], _, _ => .nil
  | _, [], _ :: _, _, r => r.elim
  | _, _ :: _, [], _, r => r.elim
  | n, w :: ws, v :: vs, h, r => by
    have h' : w.okD n = true ∧ okDs n ws = true := by simpa [okDs] using h
    exact .cons (rep_Dp hK le n w v h'.1 r.1) (reps_Dp hK le n ws vs h'.2 r.2)
end
theorem rr_Dp {K : PySem.W.Frag} (hK : M.K = K) {H0 : Hp} {φ : Sto} (s : StoOk M G φ H) {n : Nat} {w : W} {v : V} (h : w.okD n = true) (r : RR M G H0 H v w) : Dp K H v w.toD := by
  rcases r with r | ⟨a, rfl, o⟩
  · exact rep_Dp hK s.le n w v h r
  · have q := o.rep
    cases w <;> simp only [RepO] at q
    case lst ws =>
      obtain ⟨vs, e, z⟩ := q
      cases n with
      | zero => simp [W.okD] at h
      | succ n => exact .lst (.inl (.inl e)) (reps_Dp hK s.le n ws vs (by simpa [W.okD] using h) z)
    case dct => cases n <;> simp [W.okD] at h
    case ins => cases n <;> simp [W.okD] at h
end
mutual
theorem okD_lay : ∀ (n : Nat) (w : W), w.okD n = true → w.toD.canLay0 = true ∧ w.toD.depth ≤ n + 1
  | _, .non, _ => ⟨rfl, by simp [W.toD, PyData.depth]⟩
  | _, .bl _, _ => ⟨rfl, by simp [W.toD, PyData.depth]⟩
  | _, .int _, _ => ⟨rfl, by simp [W.toD, PyData.depth]⟩
  | _, .str s, h => by
    refine ⟨?_, by simp [W.toD, PyData.depth]⟩
    have h' : s.all (· < 0x110000) = true := by simpa [W.okD] using h
    show PyData.strOk (toS s) = true
    unfold PyData.strOk
    show (s.toArray).all (· < 0x110000) = true
    simpa using h'
  | 0, .tup _, h => by simp [W.okD] at h
  | 0, .lst _, h => by simp [W.okD] at h
  | n + 1, .tup ws, h => by
    have q := okDs_lay n ws (by simpa [W.okD] using h)
    refine ⟨by simpa [W.toD, PyData.canLay0] using q.1, ?_⟩
    simp only [W.toD, PyData.depth]
    omega
  | n + 1, .lst ws, h => by
    have q := okDs_lay n ws (by simpa [W.okD] using h)
    refine ⟨by simpa [W.toD, PyData.canLay0] using q.1, ?_⟩
    simp only [W.toD, PyData.depth]
    omega
  | 0, .dct _, h => by simp [W.okD] at h
  | _ + 1, .dct _, h => by simp [W.okD] at h
  | 0, .ins _ _, h => by simp [W.okD] at h
  | _ + 1, .ins _ _, h => by simp [W.okD] at h
  | 0, .obj _, h => by simp [W.okD] at h
  | _ + 1, .obj _, h => by simp [W.okD] at h
theorem okDs_lay : ∀ (n : Nat) (ws : List W), okDs n ws = true → PyData.canLayAll0 (toDs ws) = true ∧ PyData.depthAll (toDs ws) ≤ n + 1
  | _, [], _ => ⟨rfl, by simp [toDs, PyData.depthAll]⟩
  | n, w :: ws, h => by
    have h' : w.okD n = true ∧ okDs n ws = true := by simpa [okDs] using h
    have a := okD_lay n w h'.1
    have b := okDs_lay n ws h'.2
    refine ⟨by simp [toDs, PyData.canLayAll0, a.1, b.1], ?_⟩
    simp only [toDs, PyData.depthAll]
    omega
end
theorem shaped_of {w : W} (h : w.okD 62 = true) : SeqAt.shaped w.toD = true := by
  have q := okD_lay 62 w h
  unfold SeqAt.shaped
  rw [q.1, decide_eq_true (by omega : w.toD.depth ≤ 64)]
  rfl
def Bop.py : Bop → Operator
  | .add => .Add | .sub => .Sub | .mul => .Mult | .fdiv => .FloorDiv | .mod => .Mod | .pow => .Pow
def Cop.py : Cop → CmpOp
  | .eq => .Eq | .ne => .NotEq | .lt => .Lt | .le => .LtE | .gt => .Gt | .ge => .GtE | .isin => .In | .notin => .NotIn | .isnone => .Is | .notnone => .IsNot
theorem LstR.get {X : Cx} {pins : List (Addr × Obj)} {σ : L2.St} {H : Hp} {s : Shared} {a : Addr} {xs : List V} (I : Inv X pins σ H s) (h : LstR X.K H a xs) :
    xs.length ≤ sizeLine ∧ ∃ (its : List Value) (n : Nat), Vals xs its ∧ xs.length = its.length ∧ s.heap.get? a = some { cls := .type "list", data := .seq its.toArray n } := by
  rcases h with h | ⟨its, n, h1, h2, h3⟩
  · obtain ⟨z, its, n, r, e⟩ := h.ok I.hok
    exact ⟨z, its, n, r, r.length, e⟩
  · exact ⟨h2, its, n, h3, h3.length, I.kIn a _ h1⟩
section
variable {X : Cx} {M : Md}
/-- list + list, of any standing -/
theorem op_catG : OpR X (binaryOp .Add) (fun x y H Q => ∃ l b xs zs, x = .ref l ∧ y = .ref b ∧ LstR X.K H l xs ∧ LstR X.K H b zs ∧ xs.length + zs.length ≤ sizeLine ∧ ∀ p, H p = none → Q (.ref p) (upd H p (.lst (xs ++ zs)))) := by
  intro pins s σ H x y v u Q I rx ry h
  obtain ⟨l, b, xs, zs, rfl, rfl, hl, hb, hz, q⟩ := h
  cases rx
  cases ry
  obtain ⟨_, i1, n1, r1, e1, g1⟩ := LstR.get I hl
  obtain ⟨_, i2, n2, r2, e2, g2⟩ := LstR.get I hb
  refine PySem.P.add_list g1 g2 ?_ (by rw [List.size_toArray, List.size_toArray]; omega)
  have ea : i1.toArray ++ i2.toArray = (i1 ++ i2).toArray := by simp
  rw [ea]
  exact ⟨.ref _, _, I.lnew (t' := s.toks) (r1.append r2) (by rw [List.length_append]; omega), rfl, q _ I.fresh⟩
def rBin (M : Md) (op : Bop) : R2 := fun x y H Q => ∃ G φ H0 wx wy w, StoOk M G φ H ∧ RR M G H0 H x wx ∧ RR M G H0 H y wy ∧ opBin op wx wy = some w ∧ Post M (RB M) G H w φ Q
theorem or_bin (hK : X.K = M.K) (op : Bop) : OpR X (binaryOp op.py) (rBin M op) := by
  intro pins s σ H x y v u Q I rx ry h
  obtain ⟨G, φ, H0, wx, wy, w, S, hx, hy, h, P⟩ := h
  unfold opBin at h
  split at h
  · -- ints
    cases h
    rw [hx.int] at rx; rw [hy.int] at ry
    exact op_add pins s σ H _ _ v u Q I rx ry ⟨_, _, rfl, rfl, post_val S (by simp [Rep]) rfl P⟩
  · split at h
    · rename_i hz
      cases h
      rw [hx.str] at rx; rw [hy.str] at ry
      refine op_add_str pins s σ H _ _ v u Q I rx ry ⟨_, _, rfl, rfl, by rw [lenS, lenS]; exact hz, ?_⟩
      have e : ∀ a b : List Nat, toS a ++ toS b = toS (a ++ b) := fun a b => by show Str.append _ _ = _; simp [Str.append, toS]
      rw [e]
      exact post_val S (by simp [Rep]) rfl P
    · cases h
  · rename_i a b
    split at h
    · rename_i hz
      cases h
      obtain ⟨p, xs, rfl, qx, rx', fx⟩ := hx.tup S
      obtain ⟨p2, ys, rfl, qy, ry', fy⟩ := hy.tup S
      refine op_catA pins s σ H _ _ v u Q I rx ry ⟨p, p2, xs, ys, rfl, rfl, by rw [hK]; exact qx, by rw [hK]; exact qy, by rw [rx'.length, ry'.length]; exact hz, fun e => ?_, fun _ e => ?_, fun _ _ p hp => ?_⟩
      · have ea : a = [] := by
          have := rx'.length
          rw [e] at this
          exact List.eq_nil_of_length_eq_zero this.symm
        subst ea
        exact post_val S (by simp only [Rep, List.nil_append]; exact ⟨p2, ys, rfl, fy, ry'⟩) rfl P
      · have eb : b = [] := by
          have := ry'.length
          rw [e] at this
          exact List.eq_nil_of_length_eq_zero this.symm
        subst eb
        exact post_val S (by simp only [Rep, List.append_nil]; exact ⟨p, xs, rfl, fx, rx'⟩) rfl P
      · exact post_tup S hp (rx'.append ry') P
    · cases h
  · rename_i a b
    split at h
    · rename_i hz
      cases h
      obtain ⟨p, xs, rfl, qx, rx'⟩ := hx.lst S
      obtain ⟨p2, ys, rfl, qy, ry'⟩ := hy.lst S
      exact op_catG pins s σ H _ _ v u Q I rx ry ⟨p, p2, xs, ys, rfl, rfl, by rw [hK]; exact qx, by rw [hK]; exact qy, by rw [rx'.length, ry'.length]; exact hz, fun p hp => post_lst S hp (rx'.append ry') P⟩
    · cases h
  · cases h
    rw [hx.int] at rx; rw [hy.int] at ry
    exact op_sub pins s σ H _ _ v u Q I rx ry ⟨_, _, rfl, rfl, post_val S (by simp [Rep]) rfl P⟩
  · split at h
    · rename_i hz
      cases h
      rw [hx.int] at rx; rw [hy.int] at ry
      exact op_mul pins s σ H _ _ v u Q I rx ry ⟨_, _, rfl, rfl, hz, post_val S (by simp [Rep]) rfl P⟩
    · cases h
  · split at h
    · rename_i hz
      cases h
      rw [hx.int] at rx; rw [hy.int] at ry
      exact op_fdivN pins s σ H _ _ v u Q I rx ry ⟨_, _, rfl, rfl, hz, post_val S (by simp [Rep]) rfl P⟩
    · cases h
  · split at h
    · rename_i hz
      cases h
      rw [hx.int] at rx; rw [hy.int] at ry
      exact op_modN pins s σ H _ _ v u Q I rx ry ⟨_, _, rfl, rfl, hz, post_val S (by simp [Rep]) rfl P⟩
    · cases h
  · split at h
    · rename_i hz
      cases h
      rw [hx.int] at rx; rw [hy.int] at ry
      exact op_pow pins s σ H _ _ v u Q I rx ry ⟨_, _, rfl, rfl, hz, post_val S (by simp [Rep]) rfl P⟩
    · cases h
  · cases h
theorem toDs_any (a : W) : ∀ ws : List W, ((toDs ws).any fun z => PyData.eqv z a.toD) = ws.any fun z => eqW z a
  | [] => rfl
  | w :: ws => by
    simp only [toDs, List.any_cons, toDs_any a ws]
    rfl
theorem RR.isNon {G' : Fz} {H H' : Hp} {v : V} {w : W} (h : RR M G' H H' v w) : decide (v = V.non) = isNon w := by
  rcases h with r | ⟨a, rfl, o⟩
  · cases w <;> simp only [Rep] at r <;> simp only [MP.isNon]
    case non => simp [r]
    case bl => simp [r]
    case int => simp [r]
    case str => simp [r]
    case tup => obtain ⟨a, _, e, _⟩ := r; simp [e]
    case lst => obtain ⟨a, _, e, _⟩ := r; simp [e]
    case dct => obtain ⟨a, _, e, _⟩ := r; simp [e]
    case ins => obtain ⟨a, _, _, e, _⟩ := r; simp [e]
    case obj => obtain ⟨a, e, _⟩ := r; simp [e]
  · have q := o.rep
    cases w <;> simp only [RepO] at q <;> simp [MP.isNon]
def rCmp (M : Md) (op : Cop) : R2 := fun x y H Q => ∃ G φ H0 wx wy b, StoOk M G φ H ∧ RR M G H0 H x wx ∧ RR M G H0 H y wy ∧ opCmp op wx wy = some b ∧ Q (.bl b) H
theorem or_cmp (hK : X.K = M.K) (hu : X.A.units + 65 < cLine) (op : Cop) : OpR X (compareOp op.py) (rCmp M op) := by
  intro pins s σ H x y v u Q I rx ry h
  obtain ⟨G, φ, H0, wx, wy, w, S, hx, hy, h, P⟩ := h
  unfold opCmp at h
  split at h
  · rename_i ws
    cases h
    obtain ⟨a, vs, rfl, q, r', _⟩ := hx.tup S
    obtain ⟨b, vs2, rfl, q2, r2, _⟩ := hy.tup S
    have e2 : vs2 = [] := by cases vs2 with | nil => rfl | cons _ _ => exact r2.elim
    subst e2
    cases rx
    cases ry
    obtain ⟨its, rv, p, _⟩ := I.tuple (by rw [hK]; exact q)
    obtain ⟨its2, rv2, p2, _⟩ := I.tuple (by rw [hK]; exact q2)
    cases rv2
    have e : its.length = ws.length := by rw [← rv.length, r'.length]
    refine SeqAt.eq_tupleAt (e := fun _ => true) p p2 (by omega) (fun j _ h2 => by simp at h2) ⟨.bl ws.isEmpty, H, I, ?_, P⟩
    show Value.bool _ = Value.bool _
    cases ws with
    | nil => have : its = [] := List.length_eq_zero_iff.mp e; subst this; rfl
    | cons w ws => cases its with | nil => simp at e | cons i its => simp
  · rename_i ws
    cases h
    obtain ⟨a, vs, rfl, q, r', _⟩ := hx.tup S
    obtain ⟨b, vs2, rfl, q2, r2, _⟩ := hy.tup S
    have e2 : vs2 = [] := by cases vs2 with | nil => rfl | cons _ _ => exact r2.elim
    subst e2
    cases rx
    cases ry
    obtain ⟨its, rv, p, _⟩ := I.tuple (by rw [hK]; exact q)
    obtain ⟨its2, rv2, p2, _⟩ := I.tuple (by rw [hK]; exact q2)
    cases rv2
    have e : its.length = ws.length := by rw [← rv.length, r'.length]
    refine SeqAt.RcNeAt.tuples (e := fun _ => true) p p2 (by omega) (fun j _ h2 => by simp at h2) _ _ _ _ ⟨.bl (!ws.isEmpty), H, I, ?_, P⟩
    show Value.bool _ = Value.bool _
    cases ws with
    | nil => have : its = [] := List.length_eq_zero_iff.mp e; subst this; rfl
    | cons w ws => cases its with | nil => simp at e | cons i its => simp
  · split at h
    · rename_i hz
      cases h
      rw [Bool.and_eq_true] at hz
      exact op_eqD (by omega) pins s σ H _ _ v u Q I rx ry ⟨_, _, rr_Dp hK.symm S hz.1 hx, rr_Dp hK.symm S hz.2 hy, shaped_of hz.1, shaped_of hz.2, P⟩
    · cases h
  · split at h
    · rename_i hz
      cases h
      rw [Bool.and_eq_true] at hz
      exact op_neD (by omega) pins s σ H _ _ v u Q I rx ry ⟨_, _, rr_Dp hK.symm S hz.1 hx, rr_Dp hK.symm S hz.2 hy, shaped_of hz.1, shaped_of hz.2, P⟩
    · cases h
  · cases h
    rw [hx.int] at rx; rw [hy.int] at ry
    exact op_lt pins s σ H _ _ v u Q I rx ry ⟨_, _, rfl, rfl, P⟩
  · cases h
    rw [hx.int] at rx; rw [hy.int] at ry
    exact op_le pins s σ H _ _ v u Q I rx ry ⟨_, _, rfl, rfl, P⟩
  · cases h
    rw [hx.int] at rx; rw [hy.int] at ry
    exact op_gt pins s σ H _ _ v u Q I rx ry ⟨_, _, rfl, rfl, P⟩
  · cases h
    rw [hx.int] at rx; rw [hy.int] at ry
    exact op_ge pins s σ H _ _ v u Q I rx ry ⟨_, _, rfl, rfl, P⟩
  · cases h
    rw [hx.str] at rx; rw [hy.str] at ry
    exact op_lt_str pins s σ H _ _ v u Q I rx ry ⟨_, _, rfl, rfl, by simpa [toS] using P⟩
  · cases h
    rw [hx.str] at rx; rw [hy.str] at ry
    exact op_le_str pins s σ H _ _ v u Q I rx ry ⟨_, _, rfl, rfl, by simpa [toS] using P⟩
  · cases h
    rw [hx.str] at rx; rw [hy.str] at ry
    exact op_gt_str pins s σ H _ _ v u Q I rx ry ⟨_, _, rfl, rfl, by simpa [toS] using P⟩
  · cases h
    rw [hx.str] at rx; rw [hy.str] at ry
    exact op_ge_str pins s σ H _ _ v u Q I rx ry ⟨_, _, rfl, rfl, by simpa [toS] using P⟩
  · cases h
    rw [hx.str] at rx; rw [hy.str] at ry
    exact op_in_sign pins s σ H _ _ v u Q I rx ry ⟨_, _, rfl, rfl, by simpa [toS] using P⟩
  · cases h
    rw [hx.str] at rx; rw [hy.str] at ry
    exact op_notIn_sign pins s σ H _ _ v u Q I rx ry ⟨_, _, rfl, rfl, by simpa [toS] using P⟩
  · rename_i ws
    split at h
    · rename_i hz
      cases h
      rw [Bool.and_eq_true] at hz
      have hl : (W.lst ws).okD 62 = true := by simpa [W.okD] using hz.2
      refine op_inD hu pins s σ H _ _ v u Q I rx ry ⟨wx.toD, toDs ws, rr_Dp hK.symm S hz.1 hx, ?_, shaped_of hz.1, ?_, ?_⟩
      · have q := rr_Dp hK.symm S hl hy
        simpa only [W.toD] using q
      · have q := shaped_of hl
        simpa only [W.toD] using q
      · rw [toDs_any]
        exact P
    · cases h
  · rename_i ws
    split at h
    · rename_i hz
      cases h
      rw [Bool.and_eq_true] at hz
      have hl : (W.lst ws).okD 62 = true := by simpa [W.okD] using hz.2
      refine op_notInD hu pins s σ H _ _ v u Q I rx ry ⟨wx.toD, toDs ws, rr_Dp hK.symm S hz.1 hx, ?_, shaped_of hz.1, ?_, ?_⟩
      · have q := rr_Dp hK.symm S hl hy
        simpa only [W.toD] using q
      · have q := shaped_of hl
        simpa only [W.toD] using q
      · rw [toDs_any]
        exact P
    · cases h
  · cases h
    rw [hy.non] at ry
    refine op_isN pins s σ H _ _ v u Q I rx ry ⟨rfl, ?_⟩
    rw [hx.isNon]
    cases wx <;> exact P
  · cases h
    rw [hy.non] at ry
    refine op_notN pins s σ H _ _ v u Q I rx ry ⟨rfl, ?_⟩
    rw [hx.isNon]
    cases wx <;> exact P
  · cases h
end
end MP
/-! MP: the operations, by values: subscripts, built-ins. -/
namespace MP
open PySem PySem.Spec PyProof.Rows L2 TL
theorem CallR.or {X : Cx} {f : Value} {r r' : List V → Hp → VK → Prop} (h : CallR X f r) (h' : CallR X f r') : CallR X f (fun xs H Q => r xs H Q ∨ r' xs H Q) := by
  intro pins s σ H xs us Q I rx q
  rcases q with q | q
  · exact h pins s σ H xs us Q I rx q
  · exact h' pins s σ H xs us Q I rx q
section
variable {X : Cx} {M : Md}
/-! ### subscripts -/
def rIdx (M : Md) : R2 := fun x y H Q => ∃ G φ H0 wx wy w, StoOk M G φ H ∧ RR M G H0 H x wx ∧ RR M G H0 H y wy ∧ opIdx wx wy = some w ∧ Post M (RV M) G H w φ Q
theorem ir_idx (hK : X.K = M.K) : IxR X (rIdx M) := by
  intro value slice pins s σ H x y v u Q I rx ry h hs
  obtain ⟨G, φ, H0, wx, wy, w, S, hx, hy, h, P⟩ := h
  unfold opIdx at h
  split at h
  · obtain ⟨p, xs, rfl, qx, rx'⟩ := hx.lst S
    obtain ⟨z, hz, rz⟩ := atI_rep rx' h
    rw [hy.int] at ry
    exact ix_list value slice pins s σ H _ _ v u Q I rx ry ⟨p, xs, _, z, rfl, rfl, by rw [hK]; exact qx.sq, hz, P G H z (.refl S) S rz⟩ hs
  · obtain ⟨p, xs, rfl, qx, rx', fx⟩ := hx.tup S
    obtain ⟨z, hz, rz⟩ := atI_rep rx' h
    rw [hy.int] at ry
    exact ix_tup value slice pins s σ H _ _ v u Q I rx ry ⟨p, xs, _, z, rfl, rfl, by rw [hK]; exact qx, hz, P G H z (.refl S) S rz⟩ hs
  · split at h
    · rename_i hl
      obtain ⟨c, hc, e⟩ := Option.map_eq_some_iff.mp h
      rw [hx.str] at rx; rw [hy.int] at ry
      refine ix_str value slice pins s σ H _ _ v u Q I rx ry ⟨_, _, c, rfl, rfl, by rw [lenS]; exact hl, by rw [← ixW_at]; simpa [toS] using hc, ?_⟩ hs
      subst e
      exact P G H _ (.refl S) S (show Rep M G _ _ by simp [Rep, toS])
    · cases h
  · cases h
def rSlc (M : Md) : V → Option Int → Option Int → Hp → VK → Prop := fun x lo hi H Q => ∃ G φ H0 wx w, StoOk M G φ H ∧ RR M G H0 H x wx ∧ opSlc lo hi wx = some w ∧ Post M (RB M) G H w φ Q
theorem cut_rep {G : Fz} {vs : List V} {ws : List W} (lo hi : Option Int) (r : Reps M G vs ws) : Reps M G (cut lo hi vs) (cut lo hi ws) := by
  unfold cut
  rw [r.length]
  exact (r.drop _).take _
theorem sr_slc (hK : X.K = M.K) : SlR X (rSlc M) := by
  intro pins s σ H x v vl vu lo hi sl Q I rx hs pl pu h
  obtain ⟨G, φ, H0, wx, w, S, hx, h, P⟩ := h
  unfold opSlc at h
  split at h
  · cases h
    obtain ⟨p, xs, rfl, qx, rx'⟩ := hx.lst S
    refine sl_list pins s σ H _ v vl vu lo hi sl Q I rx hs pl pu ⟨p, xs, rfl, by rw [hK]; exact qx.sq, fun d hd => ?_⟩
    rw [← cut_V]
    exact post_lst S hd (cut_rep lo hi rx') P
  · cases h
    obtain ⟨p, xs, rfl, qx, rx', fx⟩ := hx.tup S
    rename_i ws
    refine sl_tupA pins s σ H _ v vl vu lo hi sl Q I rx hs pl pu ⟨p, xs, rfl, by rw [hK]; exact qx, fun e => ?_, fun _ d hd => ?_⟩
    · have e1 : cut lo hi ws = ws := by
        unfold cut
        rw [bound_eq, bound_eq, ← rx'.length, e.1, e.2, List.drop_zero, Nat.sub_zero]
        exact List.take_of_length_le (by rw [rx'.length]; exact Nat.le_refl _)
      rw [e1] at P
      exact post_val S (show Rep M G _ _ by simp only [Rep]; exact ⟨p, xs, rfl, fx, rx'⟩) rfl P
    · rw [← cut_V]
      exact post_tup S hd (cut_rep lo hi rx') P
  · split at h
    · rename_i hl
      cases h
      rw [hx.str] at rx
      refine sl_str pins s σ H _ v vl vu lo hi sl Q I rx hs pl pu ⟨_, rfl, by rw [lenS]; exact hl, ?_⟩
      rw [← cut_S]
      exact post_val S (show Rep M G _ _ by simp [Rep]) rfl P
    · cases h
  · cases h
/-! ### isinstance -/
def Ty.name : Ty → String
  | .int => "int" | .str => "str" | .bool => "bool" | .tuple => "tuple" | .list => "list"
def rIsi' (M : Md) (t : Ty) : List V → Hp → VK → Prop := fun xs H Q => ∃ G φ H0 v0 wx b, StoOk M G φ H ∧ xs = [v0, .ty t.name] ∧ RR M G H0 H v0 wx ∧ isTy t wx = some b ∧ Q (.bl b) H
theorem lst_TyX {K : PySem.W.Frag} {H : Hp} {a : Addr} {xs : List V} (h : LstR K H a xs) : TyX K H (.ref a) (.type "list") := by
  rcases h with (h | ⟨o, h⟩) | ⟨its, n, h, _⟩
  · exact .base (.lst h)
  · exact .base (.frz h)
  · exact .kList h rfl
theorem tup_TyX {K : PySem.W.Frag} {H : Hp} {a : Addr} {xs : List V} (h : SqT K H a xs) : TyX K H (.ref a) (.type "tuple") := by
  rcases h with (h | ⟨o, h⟩) | ⟨o, its, n, h, hc, _⟩
  · exact .base (.tup h)
  · exact .fTuple h
  · exact .kTuple h hc
/-- the type of plain data -/
def tyOf : W → Option String
  | .non => some "NoneType" | .bl _ => some "bool" | .int _ => some "int" | .str _ => some "str" | .tup _ => some "tuple" | .lst _ => some "list"
  | _ => none
theorem rr_TyX {G : Fz} {φ : Sto} {H0 H : Hp} {v : V} {w : W} {n : String} (S : StoOk M G φ H) (h : RR M G H0 H v w) (e : tyOf w = some n) : TyX M.K H v (.type n) := by
  cases w <;> simp only [tyOf, Option.some.injEq, reduceCtorEq] at e <;> subst e
  case non => rw [h.non]; exact .base .non
  case bl => rw [h.bl]; exact .base (.bl _)
  case int => rw [h.int]; exact .base (.int _)
  case str => rw [h.str]; exact .base (.str _)
  case tup =>
    obtain ⟨a, vs, rfl, q, _⟩ := h.tup S
    exact tup_TyX q
  case lst =>
    obtain ⟨a, vs, rfl, q, _⟩ := h.lst S
    exact lst_TyX q
theorem isTy_kit {t : Ty} {w : W} {b : Bool} (h : isTy t w = some b) : ∃ n, tyOf w = some n ∧ kitB n t.name = some b := by
  cases t <;> cases w <;> simp only [isTy, Option.some.injEq, reduceCtorEq] at h <;> subst h <;> exact ⟨_, rfl, by decide +kernel⟩
theorem cr_isi (hK : X.K = M.K) (t : Ty) : CallR X (.builtin "isinstance") (rIsi' M t) := by
  intro pins s σ H xs us Q I r h
  obtain ⟨G, φ, H0, v0, wx, b, S, rfl, hx, h, P⟩ := h
  obtain ⟨n, hn, hb⟩ := isTy_kit h
  exact call_isi pins s σ H _ us Q I r ⟨v0, .ty t.name, .type n, .type t.name, b, rfl, .ty _, by rw [hK]; exact rr_TyX S hx hn, kit_ty hb, P⟩
/-! ### truth -/
theorem empty_len {α β : Type} {xs : List α} {ys : List β} (h : xs.length = ys.length) : (!ys.isEmpty) = !xs.isEmpty := by
  cases xs <;> cases ys <;> first | rfl | (simp at h)
theorem rr_tru {G : Fz} {φ : Sto} {H0 H : Hp} {v : V} {w : W} {b : Bool} (S : StoOk M G φ H) (h : RR M G H0 H v w) (e : truthy w = some b) : TruV M.K v H b := by
  unfold truthy at e
  split at e
  · cases e; rw [h.non]; rfl
  · cases e; rw [h.bl]; rfl
  · cases e; rw [h.int]; rfl
  · split at e
    · rename_i hl
      cases e
      rw [h.str]
      exact ⟨by rw [lenS]; exact hl, by rw [lenS]⟩
    · cases e
  · cases e
    obtain ⟨a, vs, rfl, q, r, _⟩ := h.tup S
    exact .inr (.inl ⟨vs, q, empty_len r.length⟩)
  · cases e
    obtain ⟨a, vs, rfl, q, r⟩ := h.lst S
    exact .inl ⟨vs, q.sq, empty_len r.length⟩
  · cases e
/-! ### built-ins of one argument -/
def rBlt (M : Md) (b : Blt) : List V → Hp → VK → Prop := fun xs H Q => ∃ G φ H0 v0 wx w, StoOk M G φ H ∧ xs = [v0] ∧ RR M G H0 H v0 wx ∧ opBlt b wx = some w ∧ Post M (RB M) G H w φ Q
theorem cr_len (hK : X.K = M.K) : CallR X (.builtin "len") (rBlt M .len) := by
  intro pins s σ H xs us Q I r h
  obtain ⟨G, φ, H0, v0, wx, w, S, rfl, hx, h, P⟩ := h
  cases wx <;> simp only [opBlt, reduceCtorEq, Option.some.injEq, Option.ite_none_right_eq_some] at h
  case str z =>
    obtain ⟨hl, rfl⟩ := h
    rw [hx.str] at r
    refine call_len_str pins s σ H _ us Q I r ⟨_, rfl, by rw [lenS]; exact hl, ?_⟩
    rw [lenS]
    exact post_val S (show Rep M G _ _ by simp [Rep]) rfl P
  case lst ws =>
    subst h
    obtain ⟨a, vs, rfl, q, r'⟩ := hx.lst S
    refine call_len_seq pins s σ H _ us Q I r ⟨a, vs, rfl, .inl (by rw [hK]; exact q.sq), ?_⟩
    rw [r'.length]
    exact post_val S (show Rep M G _ _ by simp [Rep]) rfl P
  case tup ws =>
    subst h
    obtain ⟨a, vs, rfl, q, r', _⟩ := hx.tup S
    refine call_len_seq pins s σ H _ us Q I r ⟨a, vs, rfl, .inr (by rw [hK]; exact q), ?_⟩
    rw [r'.length]
    exact post_val S (show Rep M G _ _ by simp [Rep]) rfl P
theorem cr_int : CallR X (.type "int") (rBlt M .int) := by
  intro pins s σ H xs us Q I r h
  obtain ⟨G, φ, H0, v0, wx, w, S, rfl, hx, h, P⟩ := h
  cases wx <;> simp only [opBlt, reduceCtorEq, Option.some.injEq] at h
  case int i =>
    subst h
    rw [hx.int] at r
    exact call_int1 pins s σ H _ us Q I r (.inl ⟨i, rfl, post_val S (show Rep M G _ _ by simp [Rep]) rfl P⟩)
  case bl b =>
    subst h
    rw [hx.bl] at r
    refine call_int1 pins s σ H _ us Q I r (.inr ⟨b, rfl, ?_⟩)
    exact post_val S (show Rep M G _ _ by cases b <;> simp [Rep, b2i]) rfl P
theorem cr_tuple (hK : X.K = M.K) : CallR X (.type "tuple") (rBlt M .tuple) := by
  intro pins s σ H xs us Q I r h
  obtain ⟨G, φ, H0, v0, wx, w, S, rfl, hx, h, P⟩ := h
  cases wx <;> simp only [opBlt, reduceCtorEq, Option.some.injEq] at h
  case lst ws =>
    subst h
    obtain ⟨a, vs, rfl, q, r'⟩ := hx.lst S
    exact call_tuple_of pins s σ H _ us Q I r ⟨a, vs, rfl, .inl ⟨by rw [hK]; exact q.sq, fun l hl => post_tup S hl r' P⟩⟩
  case tup ws =>
    subst h
    obtain ⟨a, vs, rfl, q, r', f⟩ := hx.tup S
    exact call_tuple_of pins s σ H _ us Q I r ⟨a, vs, rfl, .inr ⟨by rw [hK]; exact q, post_val S (show Rep M G _ _ by simp only [Rep]; exact ⟨a, vs, rfl, f, r'⟩) rfl P⟩⟩
theorem cr_list (hK : X.K = M.K) : CallR X (.type "list") (rBlt M .list) := by
  intro pins s σ H xs us Q I r h
  obtain ⟨G, φ, H0, v0, wx, w, S, rfl, hx, h, P⟩ := h
  cases wx <;> simp only [opBlt, reduceCtorEq, Option.some.injEq] at h
  case lst ws =>
    subst h
    obtain ⟨a, vs, rfl, q, r'⟩ := hx.lst S
    exact call_list_of pins s σ H _ us Q I r ⟨a, vs, rfl, .inl (by rw [hK]; exact q.sq), fun l hl => post_lst S hl r' P⟩
  case tup ws =>
    subst h
    obtain ⟨a, vs, rfl, q, r', f⟩ := hx.tup S
    exact call_list_of pins s σ H _ us Q I r ⟨a, vs, rfl, .inr (by rw [hK]; exact q), fun l hl => post_lst S hl r' P⟩
theorem allB_rep {G : Fz} : ∀ {ws : List W} {vs : List V} {b : Bool}, allB ws = some b → Reps M G vs ws → ∃ bs : List Bool, vs = bs.map V.bl ∧ bs.all id = b
  | [], [], b, h, _ => by simp [allB] at h; exact ⟨[], rfl, by simp [h]⟩
  | [], _ :: _, _, _, r => r.elim
  | _ :: _, [], _, _, r => r.elim
  | w :: ws, v :: vs, b, h, r => by
    cases w <;> simp only [allB, reduceCtorEq, Option.map_eq_some_iff] at h
    rename_i k
    obtain ⟨c, hc, e⟩ := h
    obtain ⟨bs, e1, e2⟩ := allB_rep hc r.2
    have e3 : v = V.bl k := by simpa only [Rep] using r.1
    refine ⟨k :: bs, by rw [e3, e1]; rfl, ?_⟩
    rw [List.all_cons, e2]
    exact e
theorem anyB_rep {G : Fz} : ∀ {ws : List W} {vs : List V} {b : Bool}, anyB ws = some b → Reps M G vs ws → ∃ bs : List Bool, vs = bs.map V.bl ∧ bs.any id = b
  | [], [], b, h, _ => by simp [anyB] at h; exact ⟨[], rfl, by simp [h]⟩
  | [], _ :: _, _, _, r => r.elim
  | _ :: _, [], _, _, r => r.elim
  | w :: ws, v :: vs, b, h, r => by
    cases w <;> simp only [anyB, reduceCtorEq, Option.map_eq_some_iff] at h
    rename_i k
    obtain ⟨c, hc, e⟩ := h
    obtain ⟨bs, e1, e2⟩ := anyB_rep hc r.2
    have e3 : v = V.bl k := by simpa only [Rep] using r.1
    refine ⟨k :: bs, by rw [e3, e1]; rfl, ?_⟩
    rw [List.any_cons, e2]
    exact e
theorem cr_allW (hK : X.K = M.K) (hc : X.calm = true) : CallR X (.builtin "all") (rBlt M .all) := by
  intro pins s σ H xs us Q I r h
  obtain ⟨G, φ, H0, v0, wx, w, S, rfl, hx, h, P⟩ := h
  cases wx <;> simp only [opBlt, reduceCtorEq, Option.map_eq_some_iff] at h
  obtain ⟨b, hb, rfl⟩ := h
  obtain ⟨a, vs, rfl, q, r'⟩ := hx.lst S
  obtain ⟨bs, rfl, e⟩ := allB_rep hb r'
  exact cr_all hc pins s σ H _ us Q I r ⟨a, bs, rfl, by rw [hK]; exact q.sq, by rw [e]; exact post_val S (show Rep M G _ _ by simp [Rep]) rfl P⟩
theorem cr_anyW (hK : X.K = M.K) (hc : X.calm = true) : CallR X (.builtin "any") (rBlt M .any) := by
  intro pins s σ H xs us Q I r h
  obtain ⟨G, φ, H0, v0, wx, w, S, rfl, hx, h, P⟩ := h
  cases wx <;> simp only [opBlt, reduceCtorEq, Option.map_eq_some_iff] at h
  obtain ⟨b, hb, rfl⟩ := h
  obtain ⟨a, vs, rfl, q, r'⟩ := hx.lst S
  obtain ⟨bs, rfl, e⟩ := anyB_rep hb r'
  exact cr_any hc pins s σ H _ us Q I r ⟨a, bs, rfl, by rw [hK]; exact q.sq, by rw [e]; exact post_val S (show Rep M G _ _ by simp [Rep]) rfl P⟩
theorem strs_rep {G : Fz} : ∀ {ws : List W} {vs : List V} {xs : List (List Nat)}, strsOf ws = some xs → Reps M G vs ws → vs = (xs.map toS).map V.str
  | [], [], _, h, _ => by simp [strsOf] at h; subst h; rfl
  | [], _ :: _, _, _, r => r.elim
  | _ :: _, [], _, _, r => r.elim
  | w :: ws, v :: vs, b, h, r => by
    cases w <;> simp only [strsOf, reduceCtorEq, Option.map_eq_some_iff] at h
    rename_i z
    obtain ⟨c, hc, e⟩ := h
    subst e
    have e3 : v = V.str (toS z) := by simpa only [Rep] using r.1
    rw [e3, strs_rep hc r.2]
    rfl
def rJoin (M : Md) : V → List V → Hp → VK → Prop := fun x xs H Q => ∃ G φ H0 v0 wx wy w, StoOk M G φ H ∧ xs = [v0] ∧ RR M G H0 H x wx ∧ RR M G H0 H v0 wy ∧ opJoin wx wy = some w ∧ Post M (RV M) G H w φ Q
theorem mr_join (hK : X.K = M.K) : MtR X "str.join" (rJoin M) := by
  intro pins s σ H x xs v us Q I rx rs h
  obtain ⟨G, φ, H0, v0, wx, wy, w, S, rfl, hx, hy, h, P⟩ := h
  unfold opJoin at h
  split at h
  · rename_i S' ws
    obtain ⟨ys, hy1, hy2⟩ := Option.bind_eq_some_iff.mp h
    split at hy2
    · rename_i hl
      cases hy2
      rw [hx.str] at rx
      obtain ⟨a, vs, rfl, q, r'⟩ := hy.lst S
      have ev := strs_rep hy1 r'
      subst ev
      refine mt_join pins s σ H _ _ v us Q I rx rs ⟨_, a, ys.map toS, rfl, rfl, .inl (by rw [hK]; exact q.sq), ?_, ?_⟩
      · have e : (ys.map toS).map (·.length) = ys.map (·.length) := by rw [List.map_map]; exact List.map_congr_left fun z _ => lenS z
        rw [e, List.length_map, lenS]
        exact hl
      · rw [← joinS_str]
        exact P G H _ (.refl S) S (show Rep M G _ _ by simp [Rep])
    · cases hy2
  · cases h
/-! ### repr -/
mutual
theorem noDict : ∀ d : PyData, d.canLay0 = true → d.hasDict = false
  | .none, _ => by simp [PyData.hasDict]
  | .bool _, _ => by simp [PyData.hasDict]
  | .int _, _ => by simp [PyData.hasDict]
  | .str _, _ => by simp [PyData.hasDict]
  | .list xs, h => by simp only [PyData.hasDict]; exact noDicts xs (by simpa [PyData.canLay0] using h)
  | .tuple xs, h => by simp only [PyData.hasDict]; exact noDicts xs (by simpa [PyData.canLay0] using h)
  | .dict _, h => by simp [PyData.canLay0] at h
theorem noDicts : ∀ ds : List PyData, PyData.canLayAll0 ds = true → PyData.hasDictAll ds = false
  | [], _ => by simp [PyData.hasDictAll]
  | d :: ds, h => by
    have h' : d.canLay0 = true ∧ PyData.canLayAll0 ds = true := by simpa [PyData.canLayAll0] using h
    simp only [PyData.hasDictAll, noDict d h'.1, noDicts ds h'.2, Bool.or_self]
end
theorem cr_repr (hK : X.K = M.K) (hg : X.A.guards = some []) (hu : X.A.units + 70 < cLine) : CallR X (.builtin "repr") (rBlt M .repr) := by
  intro pins s σ H xs us Q I r h
  obtain ⟨G, φ, H0, v0, wx, w, S, rfl, hx, h, P⟩ := h
  have h' : (if bigOk wx = true then some (W.str wx.toD.shown.cps.toList) else none) = some w := by cases wx <;> exact h
  split at h'
  · rename_i hb
    cases h'
    unfold bigOk at hb
    rw [Bool.and_eq_true, Bool.and_eq_true] at hb
    obtain ⟨⟨h1, h2⟩, h3⟩ := hb
    replace h3 := of_decide_eq_true h3
    have hd := rr_Dp hK.symm S h1 hx
    obtain ⟨u, rfl, ru⟩ := vals1 r
    obtain ⟨as, rd⟩ := Dp.reads I wx.toD v0 u hd ru
    have hl := okD_lay 62 wx h1
    have fin : ∀ (h' : Heap) (t : Tok) (tk : Nat), (∀ b o, s.heap.get? b = some o → h'.get? b = some o) → EP X pins σ Q (.str wx.toD.shown t) { s with heap := h', toks := tk } := fun h' t tk k =>
      ⟨.str wx.toD.shown, H, I.kept k, ⟨t, rfl⟩, post_val S (show Rep M G _ _ by simp [Rep, toS_cps]) rfl P⟩
    have fin0 : ∀ (t : Tok) (tk : Nat), EP X pins σ Q (.str wx.toD.shown t) { s with toks := tk } := fun t tk => fin s.heap t tk fun _ _ q => q
    cases wx <;> simp only [W.toD] at rd hl h2 h3 fin0 fin
    case non => cases rd; exact PySem.P.repr_of_none (fin0 _ _)
    case bl k =>
      cases k <;> (cases rd; refine PySem.P.repr_of_bool ?_; exact fin0 _ _)
    case int i =>
      cases rd
      exact PySem.P.repr_of_int (by simpa [PyData.showable] using h2) (fin0 _ _)
    case str z => cases rd; exact PySem.P.repr_of_str (fin0 _ _) h3
    case tup ws =>
      obtain ⟨a, vs, rfl, _⟩ := hx.tup S
      cases ru
      exact repr_of_reads' rd h2 (fun z => by rw [noDict _ hl.1] at z; cases z) hg (by omega) (fun _ _ e => e) (fun h' u tk k => fin h' u tk k) h3
    case lst ws =>
      obtain ⟨a, vs, rfl, _⟩ := hx.lst S
      cases ru
      exact repr_of_reads' rd h2 (fun z => by rw [noDict _ hl.1] at z; cases z) hg (by omega) (fun _ _ e => e) (fun h' u tk k => fin h' u tk k) h3
    case dct => simp [W.okD] at h1
    case ins => simp [W.okD] at h1
    case obj => simp [W.okD] at h1
  · cases h'
end
end MP
/-! MP: expressions, construct by construct. -/
namespace MP
open PySem PySem.Spec PyProof.Rows L2 TL
theorem PEimp {X : Cx} {e : Expr} {t t' : TE} (h : PE X e t) (f : ∀ σ H Q, t' σ H Q → t σ H Q) : PE X e t' := ⟨fun pins s σ H Q I q => h.run pins s σ H Q I (f σ H Q q)⟩
theorem PTimp {X : Cx} {e : Expr} {t t' : TT} (h : PT X e t) (f : ∀ σ H Q, t' σ H Q → t σ H Q) : PT X e t' := ⟨fun pins s σ H Q I q => h.run pins s σ H Q I (f σ H Q q)⟩
theorem PWimp {X : Cx} {e : Expr} {t t' : TT} (h : PW X e t) (f : ∀ σ H Q, t' σ H Q → t σ H Q) : PW X e t' := ⟨fun wh pins s σ H Q I q => h.run wh pins s σ H Q I (f σ H Q q)⟩
theorem PAimp {X : Cx} {es : List Expr} {t t' : TA} (h : PA X es t) (f : ∀ σ H Q, t' σ H Q → t σ H Q) : PA X es t' := ⟨fun p pins s σ H Q I q => h.run p pins s σ H Q I (f σ H Q q)⟩
section
variable (M : Md)
/-- an exception's class and own dict -/
def RepX (G : Fz) (c : Value) (dd : Option Addr) : W → Prop
  | .ins k fs => c = .ref (M.cls k) ∧ ∃ a es, dd = some a ∧ G.F a = some (.xd es) ∧ es.map (·.1) = M.flds k ∧ Reps M G (es.map (·.2)) fs
  | _ => False
def PostX (G : Fz) (H : Hp) (φ' : Sto) (x : W) (E : XK) : Prop := ∀ G' H' c dd, Ext G H G' H' → StoOk M G' φ' H' → RepX M G' c dd x → E c dd H'
def PostA (G : Fz) (H : Hp) (ws : List W) (φ' : Sto) (Q : List V → Hp → Prop) : Prop := ∀ G' H' vs, Ext G H G' H' → StoOk M G' φ' H' → Reps M G' vs ws → Q vs H'
def PostB (G : Fz) (H : Hp) (φ' : Sto) (Q : Hp → Prop) : Prop := ∀ G' H', Ext G H G' H' → StoOk M G' φ' H' → Q H'
end
/-- where one stands -/
structure Sit where
  M : Md
  Z : Hp
  Wx : WX
/-- an expression's reading by its evaluation -/
def rd (S : Sit) (R : Rst) (f : Loc → Sto → Out W) : TE := fun σ H Q => ∃ G ρ φ, StoOk S.M G φ H ∧ LocOk S.M S.Z G ρ σ H ∧
  (f ρ φ).holds (fun w φ' => Post S.M R G H w φ' Q) (fun x φ' => PostX S.M G H φ' x fun c dd H' => S.Wx c dd σ H')
def rdA (S : Sit) (f : Loc → Sto → Out (List W)) : TA := fun σ H Q => ∃ G ρ φ, StoOk S.M G φ H ∧ LocOk S.M S.Z G ρ σ H ∧
  (f ρ φ).holds (fun ws φ' => PostA S.M G H ws φ' Q) (fun x φ' => PostX S.M G H φ' x fun c dd H' => S.Wx c dd σ H')
def rdT (S : Sit) (f : Loc → Sto → Out Bool) : TT := fun σ H Q => ∃ G ρ φ, StoOk S.M G φ H ∧ LocOk S.M S.Z G ρ σ H ∧
  (f ρ φ).holds (fun b φ' => PostB S.M G H φ' (Q b)) (fun x φ' => PostX S.M G H φ' x fun c dd H' => S.Wx c dd σ H')
section
variable {M : Md} {G G1 : Fz} {H H1 : Hp} {φ' : Sto} {x w : W}
theorem Ext.none (e : Ext G H G1 H1) {a : Addr} (h : H1 a = none) : H a = none := by
  cases q : H a with
  | none => rfl
  | some o =>
    by_cases hi : a ∈ G.ι
    · obtain ⟨l, r, _⟩ := e.ι
      exact absurd h (e.alive a (by rw [r]; exact List.mem_append_left _ hi))
    · rw [e.keep a o q hi] at h
      cases h
theorem PostX.ext {E : XK} (h : PostX M G H φ' x E) (e : Ext G H G1 H1) : PostX M G1 H1 φ' x E := fun G' H' c dd e' s r => h G' H' c dd (e.trans e') s r
theorem PostB.ext {Q : Hp → Prop} (h : PostB M G H φ' Q) (e : Ext G H G1 H1) : PostB M G1 H1 φ' Q := fun G' H' e' s => h G' H' (e.trans e') s
theorem PostA.ext {ws : List W} {Q : List V → Hp → Prop} (h : PostA M G H ws φ' Q) (e : Ext G H G1 H1) : PostA M G1 H1 ws φ' Q := fun G' H' vs e' s r => h G' H' vs (e.trans e') s r
theorem Post.extV {Q : VK} (h : Post M (RV M) G H w φ' Q) (e : Ext G H G1 H1) : Post M (RV M) G1 H1 w φ' Q := fun G' H' v e' s r => h G' H' v (e.trans e') s r
theorem Post.extR {Q : VK} (h : Post M (RR M) G H w φ' Q) (e : Ext G H G1 H1) : Post M (RR M) G1 H1 w φ' Q := fun G' H' v e' s r => h G' H' v (e.trans e') s r
theorem Post.extB {Q : VK} (h : Post M (RB M) G H w φ' Q) (e : Ext G H G1 H1) : Post M (RB M) G1 H1 w φ' Q := fun G' H' v e' s r => h G' H' v (e.trans e') s (by
  rcases r with ⟨z, a, e1, n, o⟩ | r
  · exact .inl ⟨z, a, e1, e.none n, o⟩
  · exact .inr r)
theorem holds_ofO {α : Type} {o : Option α} {φ : Sto} {Q : α → Sto → Prop} {E : W → Sto → Prop} (h : (Out.ofO o φ).holds Q E) : ∃ a, o = some a ∧ Q a φ := by
  cases o with
  | none => exact h.elim
  | some a => exact ⟨a, rfl, h⟩
end
section
variable {X : Cx} {S : Sit} {a b c e : Expr} {pos : Pos} {fa fb fc : Loc → Sto → Out W}
/-! ### from one result to a weaker one -/
theorem sV_R (h : PE X e (rd S (RV S.M) fa)) : PE X e (rd S (RR S.M) fa) := PEimp h fun σ H Q ⟨G, ρ, φ, s, l, q⟩ =>
  ⟨G, ρ, φ, s, l, Out.holds_mono q (fun w φ' p => p.ofR fun r => .inl r) fun _ _ z => z⟩
theorem sB_R (h : PE X e (rd S (RB S.M) fa)) : PE X e (rd S (RR S.M) fa) := PEimp h fun σ H Q ⟨G, ρ, φ, s, l, q⟩ =>
  ⟨G, ρ, φ, s, l, Out.holds_mono q (fun w φ' p => p.ofR fun r => r.toR) fun _ _ z => z⟩
theorem sB_V (h : PE X e (rd S (RB S.M) fa)) : PE X e (rd S (RV S.M) fa) := PEimp h fun σ H Q ⟨G, ρ, φ, s, l, q⟩ =>
  ⟨G, ρ, φ, s, l, Out.holds_mono q (fun w φ' p => p.frz s) fun _ _ z => z⟩
/-! ### names, constants -/
theorem s_var {i : Nat} {x : PySem.Str} (hN : X.N[i]? = some x) (hv : Vis X.env.scope x) (hd : (x == ("__debug__" : PySem.Str)) = false) (hcd : (x == ("__classdict__" : PySem.Str)) = false) (gv : Nat → Option W) (call : Calls) :
    PE X (.Name x pos) (rd S (RV S.M) (evalE gv call (.var i))) := PEimp (pe_var hN hv hd hcd) fun σ H Q ⟨G, ρ, φ, s, l, q⟩ => by
  have q' : (match ρ[i]? with | some (.val w) => Out.ok w φ | _ => .bad : Out W).holds (fun w φ' => Post S.M (RV S.M) G H w φ' Q) (fun x φ' => PostX S.M G H φ' x fun c dd H' => S.Wx c dd σ H') := q
  split at q'
  · rename_i w hw
    obtain ⟨x, e1, r⟩ := l.at_ i _ hw
    exact ⟨x, e1, q' G H x (.refl s) s r⟩
  · exact q'.elim
theorem s_own {i : Nat} {x : PySem.Str} (hN : X.N[i]? = some x) (hv : Vis X.env.scope x) (hd : (x == ("__debug__" : PySem.Str)) = false) (hcd : (x == ("__classdict__" : PySem.Str)) = false) (gv : Nat → Option W) (call : Calls) :
    PE X (.Name x pos) (rd S (RR S.M) (evalE gv call (.own i))) := PEimp (pe_var hN hv hd hcd) fun σ H Q ⟨G, ρ, φ, s, l, q⟩ => by
  have q' : (match ρ[i]? with | some (.own w) => Out.ok w φ | _ => .bad : Out W).holds (fun w φ' => Post S.M (RR S.M) G H w φ' Q) (fun x φ' => PostX S.M G H φ' x fun c dd H' => S.Wx c dd σ H') := q
  split at q'
  · rename_i w hw
    obtain ⟨x, e1, _, r⟩ := l.at_ i _ hw
    exact ⟨_, e1, q' G H _ (.refl s) s (.inr ⟨x, rfl, r⟩)⟩
  · exact q'.elim
theorem s_const {v : V} {w : W} (h : PE X e (tC v)) (r : ∀ G, Rep S.M G v w) (hw : ∀ ρ φ, fa ρ φ = .ok w φ) : PE X e (rd S (RV S.M) fa) := PEimp h fun σ H Q ⟨G, ρ, φ, s, l, q⟩ => by
  rw [hw] at q
  exact q G H v (.refl s) s (r G)
/-! ### displays -/
theorem s_nil {gv : Nat → Option W} {call : Calls} : PA X [] (rdA S (evalEs gv call .nil)) := PAimp pa_nil fun σ H Q ⟨G, ρ, φ, s, l, q⟩ => by
  have q' : PostA S.M G H [] φ Q := q
  exact q' G H [] (.refl s) s trivial
theorem s_cons {es : List Expr} {fr : Loc → Sto → Out (List W)} (ha : PE X e (rd S (RV S.M) fa)) (hr : PA X es (rdA S fr)) (hs : starEach (e :: es) X.env = (false, eval e X.env) :: starEach es X.env) :
    PA X (e :: es) (rdA S fun ρ φ => (fa ρ φ).bind fun x φ1 => (fr ρ φ1).bind fun xs φ2 => .ok (x :: xs) φ2) := PAimp (pa_cons ha hr hs) fun σ H Q ⟨G, ρ, φ, s, l, q⟩ => by
  rw [Out.holds_bind] at q
  refine ⟨G, ρ, φ, s, l, Out.holds_mono q (fun x φ1 q1 G1 H1 v1 e1 s1 r1 => ?_) fun _ _ z => z⟩
  rw [Out.holds_bind] at q1
  refine ⟨G1, ρ, φ1, s1, l.ext e1, Out.holds_mono q1 (fun xs φ2 q2 G2 H2 vs e2 s2 r2 => ?_) fun _ _ z => z.ext e1⟩
  have q2' : PostA S.M G H (x :: xs) φ2 Q := q2
  exact q2' G2 H2 _ (e1.trans e2) s2 ⟨Rep.mono e2.le _ _ r1, r2⟩
theorem s_tup {es : List Expr} {k : Nat} {fr : Loc → Sto → Out (List W)} (h : PA X es (rdA S fr)) :
    PE X (.Tuple es k pos) (rd S (RV S.M) fun ρ φ => (fr ρ φ).bind fun ws φ1 => if ws.length ≤ sizeLine then .ok (.tup ws) φ1 else .bad) := sB_V (PEimp (pe_tup h) fun σ H Q ⟨G, ρ, φ, s, l, q⟩ => by
  rw [Out.holds_bind] at q
  refine ⟨G, ρ, φ, s, l, Out.holds_mono q (fun ws φ1 q1 G1 H1 vs e1 s1 r1 => ?_) fun _ _ z => z⟩
  split at q1
  · rename_i hl
    refine ⟨by rw [r1.length]; exact hl, fun p hp => ?_⟩
    have q1' : Post S.M (RB S.M) G H (.tup ws) φ1 Q := q1
    exact post_tup s1 hp r1 (q1'.extB e1)
  · exact q1.elim)
theorem s_lst {es : List Expr} {fr : Loc → Sto → Out (List W)} (h : PA X es (rdA S fr)) :
    PE X (.List es pos) (rd S (RB S.M) fun ρ φ => (fr ρ φ).bind fun ws φ1 => if ws.length ≤ sizeLine then .ok (.lst ws) φ1 else .bad) := PEimp (pe_lst h) fun σ H Q ⟨G, ρ, φ, s, l, q⟩ => by
  rw [Out.holds_bind] at q
  refine ⟨G, ρ, φ, s, l, Out.holds_mono q (fun ws φ1 q1 G1 H1 vs e1 s1 r1 => ?_) fun _ _ z => z⟩
  split at q1
  · rename_i hl
    refine ⟨by rw [r1.length]; exact hl, fun p hp => ?_⟩
    have q1' : Post S.M (RB S.M) G H (.lst ws) φ1 Q := q1
    exact post_lst s1 hp r1 (q1'.extB e1)
  · exact q1.elim
/-! ### operators -/
theorem s_bin (hK : X.K = S.M.K) (op : Bop) (ha : PE X a (rd S (RR S.M) fa)) (hb : PE X b (rd S (RR S.M) fb)) :
    PE X (.BinOp a op.py b pos) (rd S (RB S.M) fun ρ φ => (fa ρ φ).bind fun x φ1 => (fb ρ φ1).bind fun y φ2 => .ofO (opBin op x y) φ2) := PEimp (pe_op (or_bin (M := S.M) hK op) ha hb) fun σ H Q ⟨G, ρ, φ, s, l, q⟩ => by
  rw [Out.holds_bind] at q
  refine ⟨G, ρ, φ, s, l, Out.holds_mono q (fun x φ1 q1 G1 H1 v1 e1 s1 r1 => ?_) fun _ _ z => z⟩
  rw [Out.holds_bind] at q1
  refine ⟨G1, ρ, φ1, s1, l.ext e1, Out.holds_mono q1 (fun y φ2 q2 G2 H2 v2 e2 s2 r2 => ?_) fun _ _ z => z.ext e1⟩
  obtain ⟨w, hw, p⟩ := holds_ofO q2
  exact ⟨G2, φ2, H1, x, y, w, s2, r1.ext e2, r2, hw, p.extB (e1.trans e2)⟩
theorem s_cmp (hK : X.K = S.M.K) (hu : X.A.units + 65 < cLine) (op : Cop) (ha : PE X a (rd S (RR S.M) fa)) (hb : PE X b (rd S (RR S.M) fb)) (hm : behindInMarks op.py b = false) :
    PE X (.Compare a [op.py] [b] pos) (rd S (RV S.M) fun ρ φ => (fa ρ φ).bind fun x φ1 => (fb ρ φ1).bind fun y φ2 => .ofO ((opCmp op x y).map .bl) φ2) := PEimp (pe_cmpR (or_cmp (M := S.M) hK hu op) ha hb hm) fun σ H Q ⟨G, ρ, φ, s, l, q⟩ => by
  rw [Out.holds_bind] at q
  refine ⟨G, ρ, φ, s, l, Out.holds_mono q (fun x φ1 q1 G1 H1 v1 e1 s1 r1 => ?_) fun _ _ z => z⟩
  rw [Out.holds_bind] at q1
  refine ⟨G1, ρ, φ1, s1, l.ext e1, Out.holds_mono q1 (fun y φ2 q2 G2 H2 v2 e2 s2 r2 => ?_) fun _ _ z => z.ext e1⟩
  obtain ⟨w, hw, p⟩ := holds_ofO q2
  obtain ⟨k, hk, rfl⟩ := Option.map_eq_some_iff.mp hw
  exact ⟨G2, φ2, H1, x, y, k, s2, r1.ext e2, r2, hk, p G2 H2 _ (e1.trans e2) s2 (show Rep S.M _ _ _ by simp [Rep])⟩
theorem s_cmpT (hK : X.K = S.M.K) (hu : X.A.units + 65 < cLine) (op : Cop) (ha : PE X a (rd S (RR S.M) fa)) (hb : PE X b (rd S (RR S.M) fb)) (hm : behindInMarks op.py b = false) :
    PT X (.Compare a [op.py] [b] pos) (rdT S fun ρ φ => ((fa ρ φ).bind fun x φ1 => (fb ρ φ1).bind fun y φ2 => Out.ofO ((opCmp op x y).map W.bl) φ2).bind fun z φ' => .ofO (truthy z) φ') := PTimp (pt_cmpR (or_cmp (M := S.M) hK hu op) ha hb hm) fun σ H Q ⟨G, ρ, φ, s, l, q⟩ => by
  rw [Out.holds_bind, Out.holds_bind] at q
  refine ⟨G, ρ, φ, s, l, Out.holds_mono q (fun x φ1 q1 G1 H1 v1 e1 s1 r1 => ?_) fun _ _ z => z⟩
  rw [Out.holds_bind] at q1
  refine ⟨G1, ρ, φ1, s1, l.ext e1, Out.holds_mono q1 (fun y φ2 q2 G2 H2 v2 e2 s2 r2 => ?_) fun _ _ z => z.ext e1⟩
  obtain ⟨w, hw, p⟩ := holds_ofO q2
  obtain ⟨k, hk, rfl⟩ := Option.map_eq_some_iff.mp hw
  obtain ⟨k', hk', p'⟩ := holds_ofO p
  cases hk'
  exact ⟨G2, φ2, H1, x, y, k, s2, r1.ext e2, r2, hk, k, rfl, p' G2 H2 (e1.trans e2) s2⟩
theorem s_chn (hK : X.K = S.M.K) (hu : X.A.units + 65 < cLine) (op op' : Cop) (ha : PE X a (rd S (RR S.M) fa)) (hb : PE X b (rd S (RR S.M) fb)) (hc : PE X c (rd S (RR S.M) fc)) (hm : lastMarks [op.py, op'.py] [b, c] = false) :
    PE X (.Compare a [op.py, op'.py] [b, c] pos) (rd S (RV S.M) fun ρ φ => (fa ρ φ).bind fun x φ1 => (fb ρ φ1).bind fun y φ2 => (Out.ofO (opCmp op x y) φ2).bind fun k φ3 =>
      if k then (fc ρ φ3).bind fun z φ4 => .ofO ((opCmp op' y z).map .bl) φ4 else .ok (.bl false) φ3) := PEimp (pe_chain (or_cmp (M := S.M) hK hu op) (or_cmp (M := S.M) hK hu op') ha hb hc hm) fun σ H Q ⟨G, ρ, φ, s, l, q⟩ => by
  rw [Out.holds_bind] at q
  refine ⟨G, ρ, φ, s, l, Out.holds_mono q (fun x φ1 q1 G1 H1 v1 e1 s1 r1 => ?_) fun _ _ z => z⟩
  rw [Out.holds_bind] at q1
  refine ⟨G1, ρ, φ1, s1, l.ext e1, Out.holds_mono q1 (fun y φ2 q2 G2 H2 v2 e2 s2 r2 => ?_) fun _ _ z => z.ext e1⟩
  rw [Out.holds_bind] at q2
  obtain ⟨k, hk, p⟩ := holds_ofO q2
  refine ⟨G2, φ2, H1, x, y, k, s2, r1.ext e2, r2, hk, k, rfl, ?_⟩
  cases k with
  | false => exact (show Post S.M (RV S.M) G H _ _ Q from p) G2 H2 _ (e1.trans e2) s2 (show Rep S.M _ _ _ by simp [Rep])
  | true =>
    have p' : ((fc ρ φ2).bind fun z φ4 => .ofO ((opCmp op' y z).map .bl) φ4).holds (fun w φ' => Post S.M (RV S.M) G H w φ' Q) (fun x φ' => PostX S.M G H φ' x fun c dd H' => S.Wx c dd σ H') := p
    rw [Out.holds_bind] at p'
    refine ⟨G2, ρ, φ2, s2, l.ext (e1.trans e2), Out.holds_mono p' (fun z φ4 q4 G4 H4 v4 e4 s4 r4 => ?_) fun _ _ z => z.ext (e1.trans e2)⟩
    obtain ⟨w, hw, p4⟩ := holds_ofO q4
    obtain ⟨k4, hk4, rfl⟩ := Option.map_eq_some_iff.mp hw
    exact ⟨G4, φ4, H2, y, z, k4, s4, r2.ext e4, r4, hk4, p4 G4 H4 _ ((e1.trans e2).trans e4) s4 (show Rep S.M _ _ _ by simp [Rep])⟩
/-- a bool-valued expression as a test -/
theorem s_neg (ha : PE X a (rd S (RV S.M) fa)) : PE X (.UnaryOp .USub a pos) (rd S (RV S.M) fun ρ φ => (fa ρ φ).bind fun x φ1 => match x with
    | .int i => .ok (.int (-i)) φ1
    | _ => .bad) := PEimp (pe_un un_neg ha) fun σ H Q ⟨G, ρ, φ, s, l, q⟩ => by
  rw [Out.holds_bind] at q
  refine ⟨G, ρ, φ, s, l, Out.holds_mono q (fun x φ1 q1 G1 H1 v1 e1 s1 r1 => ?_) fun _ _ z => z⟩
  split at q1
  · rename_i i
    have r1' : v1 = .int i := by simpa only [Rep] using (show Rep S.M G1 v1 (.int i) from r1)
    have q1' : Post S.M (RV S.M) G H (.int (-i)) φ1 Q := q1
    exact ⟨i, r1', q1' G1 H1 _ e1 s1 (show Rep S.M _ _ _ by simp [Rep])⟩
  · exact q1.elim
/-! ### subscripts -/
theorem s_idx (hK : X.K = S.M.K) (ha : PE X a (rd S (RR S.M) fa)) (hb : PE X b (rd S (RV S.M) fb)) (hs : PlainIx b) :
    PE X (.Subscript a b pos) (rd S (RV S.M) fun ρ φ => (fa ρ φ).bind fun x φ1 => (fb ρ φ1).bind fun y φ2 => .ofO (opIdx x y) φ2) := PEimp (pe_ix (ir_idx (M := S.M) hK) ha hb hs) fun σ H Q ⟨G, ρ, φ, s, l, q⟩ => by
  rw [Out.holds_bind] at q
  refine ⟨G, ρ, φ, s, l, Out.holds_mono q (fun x φ1 q1 G1 H1 v1 e1 s1 r1 => ?_) fun _ _ z => z⟩
  rw [Out.holds_bind] at q1
  refine ⟨G1, ρ, φ1, s1, l.ext e1, Out.holds_mono q1 (fun y φ2 q2 G2 H2 v2 e2 s2 r2 => ?_) fun _ _ z => z.ext e1⟩
  obtain ⟨w, hw, p⟩ := holds_ofO q2
  exact ⟨G2, φ2, H1, x, y, w, s2, r1.ext e2, .inl r2, hw, p.extV (e1.trans e2)⟩
/-- a part of a slice -/
def rdO (S : Sit) (f : Loc → Sto → Out (Option Int)) : TO := fun σ H Q => ∃ G ρ φ, StoOk S.M G φ H ∧ LocOk S.M S.Z G ρ σ H ∧
  (f ρ φ).holds (fun b φ' => PostB S.M G H φ' (Q b)) (fun x φ' => PostX S.M G H φ' x fun c dd H' => S.Wx c dd σ H')
theorem s_noPart {f : Loc → Sto → Out (Option Int)} (h : ∀ ρ φ, f ρ φ = .ok none φ) : PO X none (rdO S f) := ⟨fun pins s σ H Q I ⟨G, ρ, φ, st, l, q⟩ => by
  rw [h] at q
  exact po_none.run pins s σ H Q I ((show PostB S.M G H φ (Q none) from q) G H (.refl st) st)⟩
theorem s_part {f : Loc → Sto → Out (Option Int)} (ha : PE X a (rd S (RV S.M) fa)) (h : ∀ ρ φ, f ρ φ = (fa ρ φ).bind fun y φ' => .ofO (partOf y) φ') : PO X (some a) (rdO S f) := ⟨fun pins s σ H Q I ⟨G, ρ, φ, st, l, q⟩ => by
  rw [h, Out.holds_bind] at q
  refine (po_some ha).run pins s σ H Q I ⟨G, ρ, φ, st, l, Out.holds_mono q (fun x φ1 q1 G1 H1 v1 e1 s1 r1 => ?_) fun _ _ z => z⟩
  obtain ⟨o, ho, p⟩ := holds_ofO q1
  cases x <;> simp only [partOf, reduceCtorEq, Option.some.injEq] at ho
  subst ho
  rename_i i
  have r1' : v1 = .int i := by simpa only [Rep] using (show Rep S.M G1 v1 (.int i) from r1)
  exact ⟨i, r1', p G1 H1 e1 s1⟩⟩
theorem s_slc (hK : X.K = S.M.K) {lo hi : Option Expr} {p2 : Pos} {fl fh : Loc → Sto → Out (Option Int)} (ha : PE X a (rd S (RR S.M) fa)) (hl : PO X lo (rdO S fl)) (hh : PO X hi (rdO S fh)) :
    PE X (.Subscript a (.Slice lo hi none p2) pos) (rd S (RB S.M) fun ρ φ => (fa ρ φ).bind fun x φ1 => (fl ρ φ1).bind fun l φ2 => (fh ρ φ2).bind fun h φ3 => .ofO (opSlc l h x) φ3) := PEimp (pe_slice (sr_slc (M := S.M) hK) ha hl hh) fun σ H Q ⟨G, ρ, φ, s, l, q⟩ => by
  rw [Out.holds_bind] at q
  refine ⟨G, ρ, φ, s, l, Out.holds_mono q (fun x φ1 q1 G1 H1 v1 e1 s1 r1 => ?_) fun _ _ z => z⟩
  rw [Out.holds_bind] at q1
  refine ⟨G1, ρ, φ1, s1, l.ext e1, Out.holds_mono q1 (fun o φ2 q2 G2 H2 e2 s2 => ?_) fun _ _ z => z.ext e1⟩
  rw [Out.holds_bind] at q2
  refine ⟨G2, ρ, φ2, s2, l.ext (e1.trans e2), Out.holds_mono q2 (fun o' φ3 q3 G3 H3 e3 s3 => ?_) fun _ _ z => z.ext (e1.trans e2)⟩
  obtain ⟨w, hw, p⟩ := holds_ofO q3
  exact ⟨G3, φ3, H1, x, w, s3, (r1.ext (H0 := H1) e2).ext e3, hw, p.extB ((e1.trans e2).trans e3)⟩
/-! ### and, or, not, if -/
theorem s_not (hK : X.K = S.M.K) (ha : PE X a (rd S (RV S.M) fa)) : PE X (.UnaryOp .Not a pos) (rd S (RV S.M) fun ρ φ => (fa ρ φ).bind fun x φ1 => .ofO ((truthy x).map fun b => .bl (!b)) φ1) := PEimp (pe_notT ha) fun σ H Q ⟨G, ρ, φ, s, l, q⟩ => by
  rw [Out.holds_bind] at q
  refine ⟨G, ρ, φ, s, l, Out.holds_mono q (fun x φ1 q1 G1 H1 v1 e1 s1 r1 => ?_) fun _ _ z => z⟩
  obtain ⟨w, hw, p⟩ := holds_ofO q1
  obtain ⟨k, hk, rfl⟩ := Option.map_eq_some_iff.mp hw
  exact ⟨k, by rw [hK]; exact rr_tru (H0 := H) s1 (.inl r1) hk, p G1 H1 _ e1 s1 (show Rep S.M _ _ _ by simp [Rep])⟩
theorem s_and {rest : List Expr} (hK : X.K = S.M.K) (ha : PE X a (rd S (RV S.M) fa)) (hb : PE X (.BoolOp .And (b :: rest) pos) (rd S (RV S.M) fb)) :
    PE X (.BoolOp .And (a :: b :: rest) pos) (rd S (RV S.M) fun ρ φ => (fa ρ φ).bind fun x φ1 => (Out.ofO (truthy x) φ1).bind fun k φ2 => if k then fb ρ φ2 else .ok x φ2) := PEimp (pe_andT ha hb) fun σ H Q ⟨G, ρ, φ, s, l, q⟩ => by
  rw [Out.holds_bind] at q
  refine ⟨G, ρ, φ, s, l, Out.holds_mono q (fun x φ1 q1 G1 H1 v1 e1 s1 r1 => ?_) fun _ _ z => z⟩
  rw [Out.holds_bind] at q1
  obtain ⟨k, hk, p⟩ := holds_ofO q1
  refine ⟨k, by rw [hK]; exact rr_tru (H0 := H) s1 (.inl r1) hk, ?_⟩
  cases k with
  | true => exact ⟨G1, ρ, φ1, s1, l.ext e1, Out.holds_mono p (fun _ _ z => z.extV e1) fun _ _ z => z.ext e1⟩
  | false => exact (show Post S.M (RV S.M) G H x φ1 Q from p) G1 H1 v1 e1 s1 r1
theorem s_or {rest : List Expr} (hK : X.K = S.M.K) (ha : PE X a (rd S (RV S.M) fa)) (hb : PE X (.BoolOp .Or (b :: rest) pos) (rd S (RV S.M) fb)) :
    PE X (.BoolOp .Or (a :: b :: rest) pos) (rd S (RV S.M) fun ρ φ => (fa ρ φ).bind fun x φ1 => (Out.ofO (truthy x) φ1).bind fun k φ2 => if k then .ok x φ2 else fb ρ φ2) := PEimp (pe_orT ha hb) fun σ H Q ⟨G, ρ, φ, s, l, q⟩ => by
  rw [Out.holds_bind] at q
  refine ⟨G, ρ, φ, s, l, Out.holds_mono q (fun x φ1 q1 G1 H1 v1 e1 s1 r1 => ?_) fun _ _ z => z⟩
  rw [Out.holds_bind] at q1
  obtain ⟨k, hk, p⟩ := holds_ofO q1
  refine ⟨k, by rw [hK]; exact rr_tru (H0 := H) s1 (.inl r1) hk, ?_⟩
  cases k with
  | false => exact ⟨G1, ρ, φ1, s1, l.ext e1, Out.holds_mono p (fun _ _ z => z.extV e1) fun _ _ z => z.ext e1⟩
  | true => exact (show Post S.M (RV S.M) G H x φ1 Q from p) G1 H1 v1 e1 s1 r1
theorem s_ife {tc : Loc → Sto → Out Bool} (hc : PT X c (rdT S tc)) (ha : PE X a (rd S (RV S.M) fa)) (hb : PE X b (rd S (RV S.M) fb)) :
    PE X (.IfExp c a b pos) (rd S (RV S.M) fun ρ φ => (tc ρ φ).bind fun k φ2 => if k then fa ρ φ2 else fb ρ φ2) := PEimp (pe_ifExp hc ha hb) fun σ H Q ⟨G, ρ, φ, s, l, q⟩ => by
  rw [Out.holds_bind] at q
  refine ⟨G, ρ, φ, s, l, Out.holds_mono q (fun k φ1 q1 G1 H1 e1 s1 => ?_) fun _ _ z => z⟩
  cases k with
  | true => exact ⟨G1, ρ, φ1, s1, l.ext e1, Out.holds_mono q1 (fun _ _ z => z.extV e1) fun _ _ z => z.ext e1⟩
  | false => exact ⟨G1, ρ, φ1, s1, l.ext e1, Out.holds_mono q1 (fun _ _ z => z.extV e1) fun _ _ z => z.ext e1⟩
/-! ### tests -/
/-- what the test of a value tells -/
abbrev tst (f : Loc → Sto → Out W) : Loc → Sto → Out Bool := fun ρ φ => (f ρ φ).bind fun z φ' => .ofO (truthy z) φ'
theorem t_plain (hK : X.K = S.M.K) (ha : PE X a (rd S (RR S.M) fa)) (he : ∀ whole, isTrue a X.env whole = (do let v ← whole; standAt a.pos; holding [v] (PySem.truthy v))) : PT X a (rdT S (tst fa)) := PTimp (pt_truth ha he) fun σ H Q ⟨G, ρ, φ, s, l, q⟩ => by
  rw [Out.holds_bind] at q
  refine ⟨G, ρ, φ, s, l, Out.holds_mono q (fun x φ1 q1 G1 H1 v1 e1 s1 r1 => ?_) fun _ _ z => z⟩
  obtain ⟨k, hk, p⟩ := holds_ofO q1
  exact ⟨k, by rw [hK]; exact rr_tru s1 r1 hk, p G1 H1 e1 s1⟩
theorem t_chn (hK : X.K = S.M.K) (hu : X.A.units + 65 < cLine) (op op' : Cop) (ha : PE X a (rd S (RR S.M) fa)) (hb : PE X b (rd S (RR S.M) fb)) (hc : PE X c (rd S (RR S.M) fc)) (hm : lastMarks [op.py, op'.py] [b, c] = false) :
    PT X (.Compare a [op.py, op'.py] [b, c] pos) (rdT S (tst fun ρ φ => (fa ρ φ).bind fun x φ1 => (fb ρ φ1).bind fun y φ2 => (Out.ofO (opCmp op x y) φ2).bind fun k φ3 =>
      if k then (fc ρ φ3).bind fun z φ4 => .ofO ((opCmp op' y z).map .bl) φ4 else .ok (.bl false) φ3)) := PTimp (pt_chain (or_cmp (M := S.M) hK hu op) (or_cmp (M := S.M) hK hu op') ha hb hc hm) fun σ H Q ⟨G, ρ, φ, s, l, q⟩ => by
  rw [Out.holds_bind, Out.holds_bind] at q
  refine ⟨G, ρ, φ, s, l, Out.holds_mono q (fun x φ1 q1 G1 H1 v1 e1 s1 r1 => ?_) fun _ _ z => z⟩
  rw [Out.holds_bind] at q1
  refine ⟨G1, ρ, φ1, s1, l.ext e1, Out.holds_mono q1 (fun y φ2 q2 G2 H2 v2 e2 s2 r2 => ?_) fun _ _ z => z.ext e1⟩
  rw [Out.holds_bind] at q2
  obtain ⟨k, hk, p⟩ := holds_ofO q2
  refine ⟨G2, φ2, H1, x, y, k, s2, r1.ext e2, r2, hk, k, rfl, ?_⟩
  cases k with
  | false =>
    have p0 : (Out.ofO (truthy (W.bl false)) φ2).holds (fun b φ' => PostB S.M G H φ' (Q b)) (fun x φ' => PostX S.M G H φ' x fun c dd H' => S.Wx c dd σ H') := p
    obtain ⟨k', hk', p'⟩ := holds_ofO p0
    cases hk'
    exact ⟨false, rfl, p' G2 H2 (e1.trans e2) s2⟩
  | true =>
    have p' : ((fc ρ φ2).bind fun z φ4 => .ofO ((opCmp op' y z).map .bl) φ4).holds (fun w φ' => (Out.ofO (truthy w) φ').holds (fun b φ' => PostB S.M G H φ' (Q b)) (fun x φ' => PostX S.M G H φ' x fun c dd H' => S.Wx c dd σ H'))
        (fun x φ' => PostX S.M G H φ' x fun c dd H' => S.Wx c dd σ H') := p
    rw [Out.holds_bind] at p'
    refine ⟨G2, ρ, φ2, s2, l.ext (e1.trans e2), Out.holds_mono p' (fun z φ4 q4 G4 H4 v4 e4 s4 r4 => ?_) fun _ _ z => z.ext (e1.trans e2)⟩
    obtain ⟨w, hw, p4⟩ := holds_ofO q4
    obtain ⟨k4, hk4, rfl⟩ := Option.map_eq_some_iff.mp hw
    obtain ⟨k5, hk5, p5⟩ := holds_ofO p4
    cases hk5
    exact ⟨G4, φ4, H2, y, z, k4, s4, r2.ext e4, r4, hk4, k4, rfl, p5 G4 H4 ((e1.trans e2).trans e4) s4⟩
theorem t_not {ta : Loc → Sto → Out Bool} (ha : PT X a (rdT S (tst fa))) : PT X (.UnaryOp .Not a pos) (rdT S (tst fun ρ φ => (fa ρ φ).bind fun x φ1 => .ofO ((truthy x).map fun b => .bl (!b)) φ1)) := PTimp (pt_not ha) fun σ H Q ⟨G, ρ, φ, s, l, q⟩ => by
  rw [Out.holds_bind, Out.holds_bind] at q
  refine ⟨G, ρ, φ, s, l, ?_⟩
  rw [Out.holds_bind]
  refine Out.holds_mono q (fun x φ1 q1 => ?_) fun _ _ z => z
  obtain ⟨w, hw, p⟩ := holds_ofO q1
  obtain ⟨k, hk, rfl⟩ := Option.map_eq_some_iff.mp hw
  obtain ⟨k5, hk5, p5⟩ := holds_ofO p
  cases hk5
  rw [hk]
  exact p5
theorem t_and1 (ha : PT X a (rdT S (tst fa))) : PW X (.BoolOp .And [a] pos) (rdT S (tst fa)) := pw_and1 ha
theorem t_or1 (ha : PT X a (rdT S (tst fa))) : PW X (.BoolOp .Or [a] pos) (rdT S (tst fa)) := pw_or1 ha
theorem t_and {rest : List Expr} (ha : PT X a (rdT S (tst fa))) (hb : PW X (.BoolOp .And (b :: rest) pos) (rdT S (tst fb))) :
    PW X (.BoolOp .And (a :: b :: rest) pos) (rdT S (tst fun ρ φ => (fa ρ φ).bind fun x φ1 => (Out.ofO (truthy x) φ1).bind fun k φ2 => if k then fb ρ φ2 else .ok x φ2)) := PWimp (pw_and ha hb) fun σ H Q ⟨G, ρ, φ, s, l, q⟩ => by
  rw [Out.holds_bind, Out.holds_bind] at q
  refine ⟨G, ρ, φ, s, l, ?_⟩
  rw [Out.holds_bind]
  refine Out.holds_mono q (fun x φ1 q1 => ?_) fun _ _ z => z
  rw [Out.holds_bind] at q1
  obtain ⟨k, hk, p⟩ := holds_ofO q1
  rw [hk]
  intro G1 H1 e1 s1
  cases k with
  | true =>
    refine ⟨G1, ρ, φ1, s1, l.ext e1, ?_⟩
    rw [Out.holds_bind]
    refine Out.holds_mono (show (fb ρ φ1).holds _ _ from p) (fun w φ2 p2 => ?_) fun _ _ z => z.ext e1
    obtain ⟨k2, hk2, p3⟩ := holds_ofO p2
    rw [hk2]
    exact p3.ext e1
  | false =>
    obtain ⟨k2, hk2, p3⟩ := holds_ofO (show (Out.ofO (truthy x) φ1).holds _ _ from p)
    rw [hk] at hk2
    cases hk2
    exact p3 G1 H1 e1 s1
theorem t_or {rest : List Expr} (ha : PT X a (rdT S (tst fa))) (hb : PW X (.BoolOp .Or (b :: rest) pos) (rdT S (tst fb))) :
    PW X (.BoolOp .Or (a :: b :: rest) pos) (rdT S (tst fun ρ φ => (fa ρ φ).bind fun x φ1 => (Out.ofO (truthy x) φ1).bind fun k φ2 => if k then .ok x φ2 else fb ρ φ2)) := PWimp (pw_or ha hb) fun σ H Q ⟨G, ρ, φ, s, l, q⟩ => by
  rw [Out.holds_bind, Out.holds_bind] at q
  refine ⟨G, ρ, φ, s, l, ?_⟩
  rw [Out.holds_bind]
  refine Out.holds_mono q (fun x φ1 q1 => ?_) fun _ _ z => z
  rw [Out.holds_bind] at q1
  obtain ⟨k, hk, p⟩ := holds_ofO q1
  rw [hk]
  intro G1 H1 e1 s1
  cases k with
  | false =>
    refine ⟨G1, ρ, φ1, s1, l.ext e1, ?_⟩
    rw [Out.holds_bind]
    refine Out.holds_mono (show (fb ρ φ1).holds _ _ from p) (fun w φ2 p2 => ?_) fun _ _ z => z.ext e1
    obtain ⟨k2, hk2, p3⟩ := holds_ofO p2
    rw [hk2]
    exact p3.ext e1
  | true =>
    obtain ⟨k2, hk2, p3⟩ := holds_ofO (show (Out.ofO (truthy x) φ1).holds _ _ from p)
    rw [hk] at hk2
    cases hk2
    exact p3 G1 H1 e1 s1
end
end MP
/-! MP: dicts, built-ins, comprehensions, calls of defs. -/
namespace MP
open PySem PySem.Spec PyProof.Rows L2 TL
theorem toK_dec (a b : DK) : decide (toK a = toK b) = decide (a = b) := by
  by_cases h : a = b
  · subst h; simp
  · rw [decide_eq_false h, decide_eq_false fun e => h (toK_inj e)]
section
variable {M : Md} {G : Fz}
theorem repk_get : ∀ {kvs : List (DK × W)} {es : List (Key × V)} {k : DK} {w : W}, Repk M G es kvs → getK kvs k = some w → ∃ v, valV es (toK k) = some v ∧ Rep M G v w
  | [], [], _, _, _, h => by simp [getK] at h
  | [], _ :: _, _, _, r, _ => r.elim
  | _ :: _, [], _, _, r, _ => r.elim
  | (l, w) :: kvs, (k, v) :: es, k0, w0, r, h => by
    obtain ⟨e, r1, r2⟩ := r
    subst e
    by_cases hl : l = k0
    · subst hl
      simp [getK] at h
      subst h
      exact ⟨v, valV_pos rfl, r1⟩
    · have h' : getK kvs k0 = some w0 := by simpa [getK, List.find?_cons, hl] using h
      obtain ⟨v', e, q⟩ := repk_get r2 h'
      exact ⟨v', by rw [valV_neg (p := (toK l, v)) (fun e => hl (toK_inj e))]; exact e, q⟩
theorem repk_any : ∀ {kvs : List (DK × W)} {es : List (Key × V)} {k : DK}, Repk M G es kvs → (es.any fun kv => decide (kv.1 = toK k)) = kvs.any fun kv => decide (kv.1 = k)
  | [], [], _, _ => rfl
  | [], _ :: _, _, r => r.elim
  | _ :: _, [], _, r => r.elim
  | (l, w) :: kvs, (k, v) :: es, k0, r => by
    obtain ⟨e, r1, r2⟩ := r
    subst e
    simp only [List.any_cons, repk_any r2, toK_dec]
theorem repk_map : ∀ {kvs : List (DK × W)} {es : List (Key × V)} {k : DK} {v : V} {w : W}, Repk M G es kvs → Rep M G v w →
    Repk M G (es.map fun kv => if kv.1 = toK k then (kv.1, v) else kv) (kvs.map fun kv => if kv.1 = k then (k, w) else kv)
  | [], [], _, _, _, _, _ => trivial
  | [], _ :: _, _, _, _, r, _ => r.elim
  | _ :: _, [], _, _, _, r, _ => r.elim
  | (l, w) :: kvs, (k, v) :: es, k0, v0, w0, r, h => by
    obtain ⟨e, r1, r2⟩ := r
    subst e
    have ih := repk_map (k := k0) r2 h
    rw [List.map_cons, List.map_cons]
    by_cases hl : l = k0
    · subst hl
      simp only [if_true]
      exact ⟨rfl, h, ih⟩
    · rw [if_neg hl, if_neg (show ¬ (toK l = toK k0) from fun e => hl (toK_inj e))]
      exact ⟨rfl, r1, ih⟩
theorem repk_app : ∀ {kvs : List (DK × W)} {es : List (Key × V)} {k : DK} {v : V} {w : W}, Repk M G es kvs → Rep M G v w → Repk M G (es ++ [(toK k, v)]) (kvs ++ [(k, w)])
  | [], [], _, _, _, _, h => ⟨rfl, h, trivial⟩
  | [], _ :: _, _, _, _, r, _ => r.elim
  | _ :: _, [], _, _, _, r, _ => r.elim
  | (l, w) :: kvs, (k, v) :: es, k0, v0, w0, r, h => ⟨r.1, r.2.1, repk_app r.2.2 h⟩
theorem repk_put {kvs : List (DK × W)} {es : List (Key × V)} {k : DK} {v : V} {w : W} (r : Repk M G es kvs) (h : Rep M G v w) : Repk M G (putK es (toK k) v) (putK' kvs k w) := by
  unfold putK putK'
  rw [repk_any r]
  split
  · exact repk_map r h
  · exact repk_app r h
theorem repk_len : ∀ {kvs : List (DK × W)} {es : List (Key × V)}, Repk M G es kvs → es.length = kvs.length
  | [], [], _ => rfl
  | [], _ :: _, r => r.elim
  | _ :: _, [], r => r.elim
  | _ :: kvs, _ :: es, r => by simp only [List.length_cons, repk_len r.2.2]
theorem keyOf_kV {G : Fz} {y : V} {w : W} {k : DK} (r : Rep M G y w) (h : keyOf w = some k) : y = kV (toK k) := by
  cases w <;> simp only [keyOf, reduceCtorEq, Option.some.injEq] at h <;> subst h <;> simpa only [Rep, kV, toK] using r
end
/-- one cell changed -/
theorem sto_cell {M : Md} {G : Fz} {φ : Sto} {H : Hp} (s : StoOk M G φ H) {i : Nat} {a : Addr} {o : HO} {c : Cell} (ha : G.ι[i]? = some a) (hc : CellOk M G (upd H a o) a c) : StoOk M G (φ.set i c) (upd H a o) := by
  have hi : i < G.ι.length := (List.getElem?_eq_some_iff.mp ha).1
  have hi2 : i < φ.length := by rw [← s.len]; exact hi
  refine ⟨fun b u h => ?_, s.nd, by rw [List.length_set]; exact s.len, fun j c' b h1 h2 => ?_⟩
  · have ne : b ≠ a := fun e => by
      subst e
      have := s.noF b (List.mem_of_getElem? ha)
      rw [this] at h; cases h
    rw [upd_ne ne]
    exact s.le b u h
  · by_cases e : j = i
    · subst e
      rw [List.getElem?_set_self hi2] at h1
      cases h1
      rw [ha] at h2; cases h2
      exact ⟨s.noF a (List.mem_of_getElem? ha), hc⟩
    · rw [List.getElem?_set_ne (Ne.symm e)] at h1
      obtain ⟨h3, h4⟩ := s.cell j c' b h1 h2
      have ne : b ≠ a := fun z => by
        subst z
        have hj : j < G.ι.length := (List.getElem?_eq_some_iff.mp h2).1
        exact e ((List.getElem?_inj (l := G.ι) hj s.nd).mp (h2.trans ha.symm))
      exact ⟨h3, h4.mono ⟨Same.refl _, [], by simp⟩ (upd_ne ne)⟩
theorem ext_cell {M : Md} {G : Fz} {φ : Sto} {H : Hp} (s : StoOk M G φ H) {a : Addr} {o : HO} (ha : a ∈ G.ι) : Ext G H G (upd H a o) := by
  refine ⟨Same.refl _, fun b u h n => by rw [upd_ne (show b ≠ a from fun e => n (e ▸ ha))]; exact h, fun _ _ _ h => h, ⟨[], by simp, by simp⟩, fun b hb => ?_⟩
  by_cases e : b = a
  · subst e; rw [upd_same]; simp
  · rw [upd_ne e]; exact s.alive b hb
/-- a new shared object -/
def Fz.more (G : Fz) (p : Addr) : Fz := ⟨G.F, G.ι ++ [p]⟩
theorem more_le (G : Fz) (p : Addr) : G.Le (G.more p) := ⟨Same.refl _, [p], rfl⟩
theorem sto_more {M : Md} {G : Fz} {φ : Sto} {H : Hp} (s : StoOk M G φ H) {p : Addr} {o : HO} {c : Cell} (hF : G.F p = none) (hι : p ∉ G.ι) (hc : CellOk M G (upd H p o) p c) : StoOk M (G.more p) (φ ++ [c]) (upd H p o) := by
  refine ⟨fun b u h => ?_, ?_, ?_, fun j c' b h1 h2 => ?_⟩
  · have ne : b ≠ p := fun e => by
      subst e
      have h' : G.F b = some u := h
      rw [hF] at h'; cases h'
    rw [upd_ne ne]
    exact s.le b u h
  · show (G.ι ++ [p]).Nodup
    refine List.nodup_append.mpr ⟨s.nd, by simp, fun x hx y hy e => ?_⟩
    rw [List.mem_singleton] at hy
    exact hι (hy ▸ e ▸ hx)
  · show (G.ι ++ [p]).length = (φ ++ [c]).length
    rw [List.length_append, List.length_append, s.len]
    rfl
  · have h2' : (G.ι ++ [p])[j]? = some b := h2
    by_cases hj : j < G.ι.length
    · rw [List.getElem?_append_left hj] at h2'
      rw [List.getElem?_append_left (by rw [← s.len]; exact hj)] at h1
      obtain ⟨h3, h4⟩ := s.cell j c' b h1 h2'
      have ne : b ≠ p := fun z => hι (z ▸ List.mem_of_getElem? h2')
      exact ⟨h3, h4.mono (more_le G p) (upd_ne ne)⟩
    · rw [List.getElem?_append_right (by omega)] at h2'
      rw [List.getElem?_append_right (by rw [← s.len]; omega)] at h1
      have z1 : j - G.ι.length = 0 := by
        have := (List.getElem?_eq_some_iff.mp h2').1
        simp at this
        omega
      rw [z1] at h2'
      rw [← s.len, z1] at h1
      cases h1; cases h2'
      exact ⟨hF, hc.mono (more_le G p) rfl⟩
section
variable {X : Cx} {S : Sit} {a b c e : Expr} {pos : Pos} {fa fb fc : Loc → Sto → Out W}
/-! ### dicts -/
theorem s_dget (hu : X.A.units + 1 < cLine) (ha : PE X a (rd S (RR S.M) fa)) (hb : PE X b (rd S (RV S.M) fb)) (hs : NoSl b) :
    PE X (.Subscript a b pos) (rd S (RV S.M) fun ρ φ => (fa ρ φ).bind fun x φ1 => (fb ρ φ1).bind fun y φ2 => match x with
      | .obj i => match φ2[i]? with
        | some (.dct kvs) => .ofO ((keyOf y).bind (getK kvs)) φ2
        | _ => .bad
      | .dct kvs => .ofO ((keyOf y).bind (getK kvs)) φ2
      | _ => .bad) := PEimp (pe_dget hu ha hb hs) fun σ H Q ⟨G, ρ, φ, s, l, q⟩ => by
  rw [Out.holds_bind] at q
  refine ⟨G, ρ, φ, s, l, Out.holds_mono q (fun x φ1 q1 G1 H1 v1 e1 s1 r1 => ?_) fun _ _ z => z⟩
  rw [Out.holds_bind] at q1
  refine ⟨G1, ρ, φ1, s1, l.ext e1, Out.holds_mono q1 (fun y φ2 q2 G2 H2 v2 e2 s2 r2 => ?_) fun _ _ z => z.ext e1⟩
  split at q2
  · rename_i i
    split at q2
    · rename_i kvs hkv
      obtain ⟨w, hw, p⟩ := holds_ofO q2
      obtain ⟨k, hk, hw⟩ := Option.bind_eq_some_iff.mp hw
      obtain ⟨p1, rfl, hι⟩ := RR.obj r1
      obtain ⟨_, es, hes, rk⟩ := s2.cell i _ p1 hkv (e2.le.at hι)
      obtain ⟨v, hv, rv⟩ := repk_get rk hw
      exact ⟨p1, v, rfl, .inl ⟨es, toK k, .inl hes, keyOf_kV r2 hk, hv.symm⟩, p G2 H2 v (e1.trans e2) s2 rv⟩
    · exact q2.elim
  · rename_i kvs
    obtain ⟨w, hw, p⟩ := holds_ofO q2
    obtain ⟨k, hk, hw⟩ := Option.bind_eq_some_iff.mp hw
    have r1' := r1.ext (H0 := H) e2
    have z : ∃ p1 es, v1 = .ref p1 ∧ Rd H2 p1 (.dK es) ∧ Repk S.M G2 es kvs := by
      rcases r1' with r | ⟨p1, rfl, o⟩
      · simp only [Rep] at r
        obtain ⟨p1, es, e, h, rk⟩ := r
        exact ⟨p1, es, e, rd_mono s2.le h, rk⟩
      · obtain ⟨es, h, rk⟩ := (show ∃ es, H2 p1 = some (.dK es) ∧ Repk S.M G2 es kvs from o.rep)
        exact ⟨p1, es, rfl, .inl h, rk⟩
    obtain ⟨p1, es, rfl, hes, rk⟩ := z
    obtain ⟨v, hv, rv⟩ := repk_get rk hw
    exact ⟨p1, v, rfl, .inl ⟨es, toK k, hes, keyOf_kV r2 hk, hv.symm⟩, p G2 H2 v (e1.trans e2) s2 rv⟩
  · exact q2.elim
theorem s_dempty (gv : Nat → Option W) (call : Calls) : PE X (.Dict [] [] pos) (rd S (RB S.M) (evalE gv call .dempty)) := PEimp pe_dnewK fun σ H Q ⟨G, ρ, φ, s, l, q⟩ p hp => by
  have q' : Post S.M (RB S.M) G H (.dct []) φ Q := q
  exact q' G _ _ (ext_laid s hp) (sto_laid s hp) (.inl ⟨rfl, p, rfl, hp, own_laid s hp ⟨[], upd_same, trivial⟩⟩)
/-- the texts that a display's keys are -/
def txtKey : Option Expr → Option (List Nat)
  | some (.Constant (.str x) _ _) => some x.cps.toList
  | _ => none
/-- the values of a display, the keys written texts -/
inductive Disp (X : Cx) (S : Sit) (pos : Pos) : List (List Nat) → List (Option Expr) → List Expr → (Loc → Sto → Out (List W)) → List (TE × TE) → Prop
  | nil {f : Loc → Sto → Out (List W)} (h : ∀ ρ φ, f ρ φ = .ok [] φ) : Disp X S pos [] [] [] f []
  | cons {k : List Nat} {ks : List (List Nat)} {x : PySem.Str} {j : Nat} {kp : Pos} {keys : List (Option Expr)} {e : Expr} {es : List Expr} {fe : Loc → Sto → Out W} {fr f : Loc → Sto → Out (List W)} {trs : List (TE × TE)}
      (hx : x = toS k) (he : PE X e (rd S (RV S.M) fe)) (hr : Disp X S pos ks keys es fr trs) (h : ∀ ρ φ, f ρ φ = (fe ρ φ).bind fun x φ1 => (fr ρ φ1).bind fun xs φ2 => .ok (x :: xs) φ2) :
      Disp X S pos (k :: ks) (some (.Constant (.str x) j kp) :: keys) (e :: es) f ((tC (.str x), rd S (RV S.M) fe) :: trs)
theorem Disp.pps {ks : List (List Nat)} {keys : List (Option Expr)} {es : List Expr} {f : Loc → Sto → Out (List W)} {trs : List (TE × TE)} (h : Disp X S pos ks keys es f trs) : PPs X pos keys es trs := by
  induction h with
  | nil _ => exact pps_nil
  | cons hx he hr h ih => exact pps_cons pe_str he ih
theorem Disp.len {ks : List (List Nat)} {keys : List (Option Expr)} {es : List Expr} {f : Loc → Sto → Out (List W)} {trs : List (TE × TE)} (h : Disp X S pos ks keys es f trs) : keys.length = ks.length ∧ keys.length = es.length ∧ keys.all (·.isSome) = true := by
  induction h with
  | nil _ => exact ⟨rfl, rfl, rfl⟩
  | cons hx he hr h ih =>
    obtain ⟨h1, h2, h3⟩ := ih
    exact ⟨by simp [h1], by simp [h2], by simp [h3]⟩
theorem Disp.run {ks : List (List Nat)} {keys : List (Option Expr)} {es : List Expr} {f : Loc → Sto → Out (List W)} {trs : List (TE × TE)} (h : Disp X S pos ks keys es f trs) : ∀ {σ : L2.St} {H : Hp} {G : Fz} {ρ : Loc} {φ : Sto} {Q : List (V × V) → Hp → Prop},
    StoOk S.M G φ H → LocOk S.M S.Z G ρ σ H → (f ρ φ).holds (fun ws φ' => ∀ G' H' vs, Ext G H G' H' → StoOk S.M G' φ' H' → Reps S.M G' vs ws → Q ((ks.map fun k => V.str (toS k)).zip vs) H') (fun x φ' => PostX S.M G H φ' x fun c dd H' => S.Wx c dd σ H') →
    tPairs trs σ H Q := by
  induction h with
  | nil h0 =>
    intro σ H G ρ φ Q s l q
    rw [h0] at q
    have q' : ∀ G' H' vs, Ext G H G' H' → StoOk S.M G' φ H' → Reps S.M G' vs [] → Q (([] : List V).zip vs) H' := q
    exact q' G H [] (.refl s) s trivial
  | @cons k ks x j kp keys e es fe fr f trs hx he hr h0 ih =>
    intro σ H G ρ φ Q s l q
    rw [h0, Out.holds_bind] at q
    refine ⟨G, ρ, φ, s, l, Out.holds_mono q (fun y φ1 q1 G1 H1 v1 e1 s1 r1 => ?_) fun _ _ z => z⟩
    rw [Out.holds_bind] at q1
    refine ih s1 (l.ext e1) (Out.holds_mono q1 (fun ws φ2 q2 G2 H2 vs e2 s2 r2 => ?_) fun _ _ z => z.ext e1)
    rw [hx]
    have q2' : ∀ G' H' vs, Ext G H G' H' → StoOk S.M G' φ2 H' → Reps S.M G' vs (y :: ws) → Q ((((k :: ks).map fun k => V.str (toS k))).zip vs) H' := q2
    exact q2' G2 H2 (v1 :: vs) (e1.trans e2) s2 ⟨Rep.mono e2.le _ _ r1, r2⟩
theorem putK_new {es : List (Key × V)} {k : Key} {v : V} (h : k ∉ es.map (·.1)) : putK es k v = es ++ [(k, v)] := by
  unfold putK
  rw [if_neg]
  intro q
  obtain ⟨x, hx, e⟩ := List.any_eq_true.mp q
  exact h (List.mem_map.mpr ⟨x, hx, of_decide_eq_true e⟩)
theorem mergeK_nodup : ∀ {more es : List (Key × V)}, ((es ++ more).map (·.1)).Nodup → mergeK es more = es ++ more
  | [], es, _ => by simp [mergeK]
  | p :: r, es, h => by
    have h1 : p.1 ∉ es.map (·.1) := fun hm => by
      rw [List.map_append, List.map_cons] at h
      exact (List.nodup_append.mp h).2.2 p.1 hm p.1 List.mem_cons_self rfl
    show mergeK (putK es p.1 p.2) r = _
    rw [putK_new h1, mergeK_nodup (by simpa [List.append_assoc] using h)]
    simp
theorem repk_zip {M : Md} {G : Fz} : ∀ {ks : List (List Nat)} {vs : List V} {ws : List W}, Reps M G vs ws → ks.length = ws.length → Repk M G ((ks.map fun k => (Sum.inr (toS k) : Key)).zip vs) ((ks.map Sum.inr).zip ws)
  | [], [], [], _, _ => trivial
  | [], _, _ :: _, _, h => by simp at h
  | _ :: _, [], [], _, h => by simp at h
  | [], _ :: _, [], r, _ => r.elim
  | _ :: _, [], _ :: _, r, _ => r.elim
  | _ :: _, _ :: _, [], r, _ => r.elim
  | k :: ks, v :: vs, w :: ws, r, h => ⟨rfl, r.1, repk_zip r.2 (by simpa using h)⟩
theorem zip_kV : ∀ (ks : List (List Nat)) (vs : List V), (ks.map fun k => V.str (toS k)).zip vs = ((ks.map fun k => (Sum.inr (toS k) : Key)).zip vs).map fun kv => (kV kv.1, kv.2)
  | [], _ => rfl
  | _ :: _, [] => rfl
  | k :: ks, v :: vs => by simp only [List.map_cons, List.zip_cons_cons, zip_kV ks vs, kV]
theorem s_dnew {ks : List (List Nat)} {keys : List (Option Expr)} {es : List Expr} {f : Loc → Sto → Out (List W)} {trs : List (TE × TE)} (h : Disp X S pos ks keys es f trs) (h0 : keys ≠ []) (h15 : keys.length ≤ 15) :
    PE X (.Dict keys es pos) (rd S (RV S.M) fun ρ φ => (f ρ φ).bind fun ws φ1 => if ks.length = ws.length ∧ ks.length ≤ 15 ∧ ks.Nodup then .ok (.obj φ1.length) (φ1 ++ [.dct ((ks.map Sum.inr).zip ws)]) else .bad) :=
  PEimp (pe_disp h.pps h.len.2.2 h.len.2.1 h0 h15) fun σ H Q ⟨G, ρ, φ, s, l, q⟩ p hp => by
  rw [Out.holds_bind] at q
  have s0 := sto_laid (o := .dK []) s hp
  have e0 := ext_laid (o := .dK []) s hp
  have hF : G.F p = none := by
    cases e : G.F p with
    | none => rfl
    | some u => rw [s.le p u e] at hp; cases hp
  have hι : p ∉ G.ι := fun z => s.alive p z hp
  refine h.run s0 (l.ext e0) (Out.holds_mono q (fun ws φ1 q1 G1 H1 vs e1 s1 r1 => ?_) fun _ _ z => z.ext e0)
  have alive : (upd H p (.dK [])) p ≠ none := by rw [upd_same]; simp
  have hp1 : H1 p = some (.dK []) := e1.keep p _ upd_same hι
  have hF1 : G1.F p = none := e1.new p alive hι hF
  have hι1 : p ∉ G1.ι := e1.nin alive hι
  split at q1
  · rename_i hk
    obtain ⟨k1, k2, k3⟩ := hk
    refine ⟨hp1, (ks.map fun k => (Sum.inr (toS k) : Key)).zip vs, ?_, ?_, ?_⟩
    · exact zip_kV ks vs
    · rw [List.length_zip, List.length_map]; omega
    · have rk := repk_zip (ks := ks) r1 k1
      have hm : mergeK [] ((ks.map fun k => (Sum.inr (toS k) : Key)).zip vs) = (ks.map fun k => (Sum.inr (toS k) : Key)).zip vs := by
        refine mergeK_nodup ?_
        rw [List.nil_append, List.map_fst_zip (by rw [List.length_map, r1.length, k1]; exact Nat.le_refl _)]
        exact List.Pairwise.map _ (fun a b hab e => hab (toS_inj (Sum.inr.inj e))) k3
      rw [hm]
      have q1' : Post S.M (RV S.M) G H (.obj φ1.length) (φ1 ++ [.dct ((ks.map Sum.inr).zip ws)]) Q := q1
      refine q1' (G1.more p) _ _ ?_ (sto_more s1 hF1 hι1 ⟨_, upd_same, rk⟩) (show Rep S.M (G1.more p) _ _ from ?_)
      · obtain ⟨m, hm1, hm2⟩ := e1.ι
        refine ⟨e1.F, fun b o hb hn => ?_, fun b hb hn hf => ?_, ⟨m ++ [p], by show G1.ι ++ [p] = _; rw [hm1, List.append_assoc], fun b hb => ?_⟩, fun b hb => ?_⟩
        · have ne : b ≠ p := ne_of_none hb hp
          rw [upd_ne ne]
          exact e1.keep b o (by rw [upd_ne ne]; exact hb) hn
        · have ne : b ≠ p := fun z => hb (z ▸ hp)
          exact e1.new b (by rw [upd_ne ne]; exact hb) hn hf
        · rcases List.mem_append.mp hb with z | z
          · have := hm2 b z
            have ne : b ≠ p := fun w => by rw [w, upd_same] at this; cases this
            rw [upd_ne ne] at this
            exact this
          · rw [List.mem_singleton] at z; rw [z]; exact hp
        · rcases List.mem_append.mp (show b ∈ G1.ι ++ [p] from hb) with z | z
          · have ne : b ≠ p := fun w => hι1 (w ▸ z)
            rw [upd_ne ne]
            exact e1.alive b z
          · rw [List.mem_singleton] at z; rw [z, upd_same]; simp
      · simp only [Rep]
        refine ⟨p, rfl, ?_⟩
        show (G1.ι ++ [p])[φ1.length]? = some p
        rw [← s1.len]
        simp
  · exact q1.elim
end
end MP
/-! MP: built-ins called, what a for walks, comprehensions. -/
namespace MP
open PySem PySem.Spec PyProof.Rows L2 TL
section
variable {X : Cx} {S : Sit} {a b c e : Expr} {pos p : Pos} {fa fb fc : Loc → Sto → Out W} {x : PySem.Str} {id : String}
theorem blt_ev {bl : Blt} {σ : L2.St} {H : Hp} {Q : VK} {ta : TE} (h : rd S (RB S.M) (fun ρ φ => (fa ρ φ).bind fun x φ1 => .ofO (opBlt bl x) φ1) σ H Q) :
    tCB (rBlt S.M bl) (tCons (rd S (RR S.M) fa) tNil) σ H Q := by
  obtain ⟨G, ρ, φ, s, l, q⟩ := h
  rw [Out.holds_bind] at q
  refine ⟨G, ρ, φ, s, l, Out.holds_mono q (fun x φ1 q1 G1 H1 v1 e1 s1 r1 => ?_) fun _ _ z => z⟩
  obtain ⟨w, hw, p⟩ := holds_ofO q1
  exact ⟨G1, φ1, H, v1, x, w, s1, rfl, r1, hw, p.extB e1⟩
theorem s_bltB {bl : Blt} (hc : CallR X (.builtin id) (rBlt S.M bl)) (hg : Gl X x) (hm : X.mg x = none) (hv : bootBuiltins x = some (.builtin id)) (hn : x ≠ "__name__") (hdb : (x == ("__debug__" : PySem.Str)) = false)
    (ha : PE X a (rd S (RR S.M) fa)) (hs : starEach [a] X.env = (false, eval a X.env) :: starEach [] X.env) :
    PE X (.Call (.Name x p) [a] [] pos) (rd S (RB S.M) fun ρ φ => (fa ρ φ).bind fun x φ1 => .ofO (opBlt bl x) φ1) :=
  PEimp (pe_callB hc hg hm hv (pa_cons ha pa_nil hs) hn hdb hs) fun _ _ _ h => blt_ev (ta := rd S (RR S.M) fa) h
theorem s_bltT {bl : Blt} (hc : CallR X (.type id) (rBlt S.M bl)) (hg : Gl X x) (hm : X.mg x = none) (hv : bootBuiltins x = some (.type id)) (hn : x ≠ "__name__") (hdb : (x == ("__debug__" : PySem.Str)) = false)
    (ha : PE X a (rd S (RR S.M) fa)) (hs : starEach [a] X.env = (false, eval a X.env) :: starEach [] X.env) :
    PE X (.Call (.Name x p) [a] [] pos) (rd S (RB S.M) fun ρ φ => (fa ρ φ).bind fun x φ1 => .ofO (opBlt bl x) φ1) :=
  PEimp (pe_callTy hc hg hm hv (pa_cons ha pa_nil hs) hn hdb hs) fun _ _ _ h => blt_ev (ta := rd S (RR S.M) fa) h
theorem s_isi (hK : X.K = S.M.K) (t : Ty) {q : Pos} {y : PySem.Str} (hg : Gl X "isinstance") (hm : X.mg "isinstance" = none) (hg2 : Gl X y) (hm2 : X.mg y = none) (hv : bootBuiltins y = some (.type t.name)) (hn : y ≠ "__name__") (hdb : (y == ("__debug__" : PySem.Str)) = false)
    (ha : PE X a (rd S (RR S.M) fa)) (hs : starEach [a, .Name y q] X.env = (false, eval a X.env) :: starEach [.Name y q] X.env) :
    PE X (.Call (.Name "isinstance" p) [a, .Name y q] [] pos) (rd S (RV S.M) fun ρ φ => (fa ρ φ).bind fun x φ1 => .ofO ((isTy t x).map .bl) φ1) :=
  PEimp (pe_callB (cr_isi (M := S.M) hK t) hg hm (by decide +kernel) (pa_cons ha (pa_cons (pe_bltn (v := .ty t.name) hg2 hm2 hv rfl hn hdb) pa_nil) hs) (by decide) (by decide) hs) fun σ H Q ⟨G, ρ, φ, s, l, q⟩ => by
  rw [Out.holds_bind] at q
  refine ⟨G, ρ, φ, s, l, Out.holds_mono q (fun x φ1 q1 G1 H1 v1 e1 s1 r1 => ?_) fun _ _ z => z⟩
  obtain ⟨w, hw, p⟩ := holds_ofO q1
  obtain ⟨k, hk, rfl⟩ := Option.map_eq_some_iff.mp hw
  exact ⟨G1, φ1, H, v1, x, k, s1, rfl, r1, hk, p G1 H1 _ e1 s1 (show Rep S.M _ _ _ by simp [Rep])⟩
theorem s_join (hK : X.K = S.M.K) {ap : Pos} (ha : PE X a (rd S (RV S.M) fa)) (hb : PE X b (rd S (RR S.M) fb)) (hs : starEach [b] X.env = [(false, eval b X.env)]) (hbase : attributeBase a "join" X.env (eval a X.env) = eval a X.env) (hline : (ap.endLine == pos.line) = true) :
    PE X (.Call (.Attribute a "join" ap) [b] [] pos) (rd S (RV S.M) fun ρ φ => (fa ρ φ).bind fun x φ1 => if x.isStr then (fb ρ φ1).bind fun y φ2 => .ofO (opJoin x y) φ2 else .bad) :=
  PEimp (pe_m1 F.slot_str_join F.type_str_join (mr_join (M := S.M) hK) ha hb hs hbase hline) fun σ H Q ⟨G, ρ, φ, s, l, q⟩ => by
  rw [Out.holds_bind] at q
  refine ⟨G, ρ, φ, s, l, Out.holds_mono q (fun x φ1 q1 G1 H1 v1 e1 s1 r1 => ?_) fun _ _ z => z⟩
  split at q1
  rotate_left
  · exact q1.elim
  rename_i hi
  rw [Out.holds_bind] at q1
  have hx : ∃ z, v1 = V.str z := by
    cases x <;> simp only [W.isStr, reduceCtorEq] at hi
    rename_i z
    exact ⟨_, by simpa only [Rep] using (show Rep S.M G1 v1 (.str z) from r1)⟩
  refine ⟨hx, G1, ρ, φ1, s1, l.ext e1, Out.holds_mono q1 (fun y φ2 q2 G2 H2 v2 e2 s2 r2 => ?_) fun _ _ z => z.ext e1⟩
  obtain ⟨w, hw, p⟩ := holds_ofO q2
  exact ⟨G2, φ2, H1, v2, x, y, w, s2, rfl, (RV.toR (H := H) (H' := H1) r1).ext e2, r2, hw, p.extV (e1.trans e2)⟩
/-! ### what a for walks -/
end
/-- the turns J yield the items ws -/
structure Goes (M : Md) (G0 : Fz) (J : It) (ws : List W) : Prop where
  go : ∀ (i : Nat) (G : Fz) (H : Hp) (φ : Sto), G0.Le G → StoOk M G φ H → i < ws.length → J.go i H
  yld : ∀ (i : Nat) (G : Fz) (H : Hp) (φ : Sto) (x : V) (H' : Hp), G0.Le G → StoOk M G φ H → i < ws.length → J.yld i H x H' → ∃ G' w, ws[i]? = some w ∧ Ext G H G' H' ∧ StoOk M G' φ H' ∧ Rep M G' x w
  stop : ∀ (i : Nat) (G : Fz) (H : Hp) (φ : Sto), G0.Le G → StoOk M G φ H → ws.length ≤ i → J.stop i H
/-- the reading of an iterable -/
def wI (S : Sit) (f : Loc → Sto → Out (List W)) : TI := fun σ H R => ∃ G ρ φ, StoOk S.M G φ H ∧ LocOk S.M S.Z G ρ σ H ∧
  (f ρ φ).holds (fun ws φ' => ∀ G' H' J, Ext G H G' H' → StoOk S.M G' φ' H' → Goes S.M G' J ws → R J H') (fun x φ' => PostX S.M G H φ' x fun c dd H' => S.Wx c dd σ H')
theorem goes_list {M : Md} {G : Fz} {a : Addr} {vs : List V} {ws : List W} (h : LstR M.K G.F a vs) (r : Reps M G vs ws) : Goes M G (Itl M.K a) ws := by
  have rd : ∀ {G' : Fz} {H : Hp} {φ : Sto}, G.Le G' → StoOk M G' φ H → SqL M.K H a vs := fun le s => (lstR_mono (le.F.trans s.le) h).sq
  refine ⟨fun i G' H φ le s hi => ?_, fun i G' H φ x H' le s hi y => ?_, fun i G' H φ le s hi => ⟨vs, rd le s, by rw [r.length]; exact hi⟩⟩
  · have hv : i < vs.length := by rw [r.length]; exact hi
    exact ⟨vs, vs[i], rd le s, List.getElem?_eq_getElem hv⟩
  · obtain ⟨rfl, hx⟩ := y
    obtain ⟨w, hw, rw'⟩ := r.get (hx vs (rd le s))
    exact ⟨G', w, hw, .refl s, s, Rep.mono le _ _ rw'⟩
theorem goes_tup {M : Md} {G : Fz} {a : Addr} {vs : List V} {ws : List W} (h : SqT M.K G.F a vs) (r : Reps M G vs ws) : Goes M G (Itt M.K a) ws := by
  have rd : ∀ {G' : Fz} {H : Hp} {φ : Sto}, G.Le G' → StoOk M G' φ H → SqT M.K H a vs := fun le s => sqT_mono (le.F.trans s.le) h
  refine ⟨fun i G' H φ le s hi => ?_, fun i G' H φ x H' le s hi y => ?_, fun i G' H φ le s hi => ⟨vs, rd le s, by rw [r.length]; exact hi⟩⟩
  · have hv : i < vs.length := by rw [r.length]; exact hi
    exact ⟨vs, vs[i], rd le s, List.getElem?_eq_getElem hv⟩
  · obtain ⟨rfl, hx⟩ := y
    obtain ⟨w, hw, rw'⟩ := r.get (hx vs (rd le s))
    exact ⟨G', w, hw, .refl s, s, Rep.mono le _ _ rw'⟩
theorem goes_str {M : Md} {G : Fz} (z : List Nat) : Goes M G (Its (toS z)) (z.map fun c => .str [c]) := by
  refine ⟨fun i G' H φ le s hi => ?_, fun i G' H φ x H' le s hi y => ?_, fun i G' H φ le s hi => ?_⟩
  · show i < (z.toArray).size
    simpa using hi
  · obtain ⟨rfl, c, hc, rfl⟩ := y
    have hc' : z[i]? = some c := by simpa [toS] using hc
    refine ⟨G', .str [c], by rw [List.getElem?_map, hc']; rfl, .refl s, s, ?_⟩
    simp [Rep, toS]
  · show (z.toArray).size ≤ i
    simpa using hi
theorem upto_get : ∀ (lo : Int) (n i : Nat), i < n → (upto lo n)[i]? = some (.int (lo + i))
  | _, 0, _, h => by omega
  | lo, n + 1, 0, _ => by simp [upto]
  | lo, n + 1, i + 1, h => by
    have := upto_get (lo + 1) n i (by omega)
    simp only [upto, List.getElem?_cons_succ, this]
    congr 2
    omega
theorem upto_len : ∀ (lo : Int) (n : Nat), (upto lo n).length = n
  | _, 0 => rfl
  | lo, n + 1 => by simp [upto, upto_len (lo + 1) n]
theorem goes_rng {M : Md} {G : Fz} (lo : Int) (n : Nat) : Goes M G (Itr lo n) (upto lo n) := by
  refine ⟨fun i G' H φ le s hi => ?_, fun i G' H φ x H' le s hi y => ?_, fun i G' H φ le s hi => ?_⟩
  · rw [upto_len] at hi; exact hi
  · obtain ⟨rfl, rfl⟩ := y
    rw [upto_len] at hi
    exact ⟨G', _, upto_get lo n i hi, .refl s, s, by simp [Rep]⟩
  · rw [upto_len] at hi; exact hi
section
variable {X : Cx} {S : Sit} {a b c e tg : Expr} {pos p : Pos} {fa fb fc : Loc → Sto → Out W}
theorem PIor {it : Expr} {w1 w2 : TI} (h1 : PI X tg it w1) (h2 : PI X tg it w2) : PI X tg it (fun σ H R => w1 σ H R ∨ w2 σ H R) := ⟨fun pins s σ H R I q => by
  rcases q with q | q
  · exact h1.run pins s σ H R I q
  · exact h2.run pins s σ H R I q⟩
theorem PIimp {it : Expr} {w1 w2 : TI} (h : PI X tg it w1) (f : ∀ σ H R, w2 σ H R → w1 σ H R) : PI X tg it w2 := ⟨fun pins s σ H R I q => h.run pins s σ H R I (f σ H R q)⟩
/-- a list, a tuple, a text -/
theorem i_seq (hK : X.K = S.M.K) (ha : PE X a (rd S (RV S.M) fa)) : PI X tg a (wI S fun ρ φ => (fa ρ φ).bind fun x φ1 => .ofO (items x) φ1) :=
  PIimp (PIor (pi_list ha) (PIor (pi_tup ha) (pi_str ha))) fun σ H R ⟨G, ρ, φ, s, l, q⟩ => by
  rw [Out.holds_bind] at q
  cases hf : fa ρ φ with
  | bad => rw [hf] at q; exact q.elim
  | exc x φ1 =>
    rw [hf] at q
    exact .inl ⟨G, ρ, φ, s, l, by rw [hf]; exact q⟩
  | ok x φ1 =>
    rw [hf] at q
    obtain ⟨ws, hw, p⟩ := holds_ofO (show (Out.ofO (items x) φ1).holds _ _ from q)
    cases x <;> simp only [items, reduceCtorEq, Option.some.injEq] at hw
    case lst zs =>
      subst hw
      refine .inl ⟨G, ρ, φ, s, l, ?_⟩
      rw [hf]
      show Post S.M (RV S.M) G H (.lst zs) φ1 _
      intro G1 H1 v1 e1 s1 r1
      have r1' : ∃ a vs, v1 = .ref a ∧ LstR S.M.K G1.F a vs ∧ Reps S.M G1 vs zs := by simpa only [Rep] using (show Rep S.M G1 v1 (.lst zs) from r1)
      obtain ⟨a, vs, rfl, q1, q2⟩ := r1'
      refine ⟨a, rfl, ⟨vs, by rw [hK]; exact (lstR_mono s1.le q1).sq⟩, ?_⟩
      rw [hK]
      exact p G1 H1 _ e1 s1 (goes_list q1 q2)
    case tup zs =>
      subst hw
      refine .inr (.inl ⟨G, ρ, φ, s, l, ?_⟩)
      rw [hf]
      show Post S.M (RV S.M) G H (.tup zs) φ1 _
      intro G1 H1 v1 e1 s1 r1
      have r1' : ∃ a vs, v1 = .ref a ∧ SqT S.M.K G1.F a vs ∧ Reps S.M G1 vs zs := by simpa only [Rep] using (show Rep S.M G1 v1 (.tup zs) from r1)
      obtain ⟨a, vs, rfl, q1, q2⟩ := r1'
      refine ⟨a, rfl, ⟨vs, by rw [hK]; exact sqT_mono s1.le q1⟩, ?_⟩
      rw [hK]
      exact p G1 H1 _ e1 s1 (goes_tup q1 q2)
    case str z =>
      subst hw
      refine .inr (.inr ⟨G, ρ, φ, s, l, ?_⟩)
      rw [hf]
      show Post S.M (RV S.M) G H (.str z) φ1 _
      intro G1 H1 v1 e1 s1 r1
      have r1' : v1 = .str (toS z) := by simpa only [Rep] using (show Rep S.M G1 v1 (.str z) from r1)
      exact ⟨_, r1', p G1 H1 _ e1 s1 (goes_str z)⟩
/-- range(n) -/
theorem i_rng1 (hg : Gl X "range") (hm : X.mg "range" = none) (ha : PE X a (rd S (RV S.M) fa)) (hs : starEach [a] X.env = [(false, eval a X.env)]) :
    PI X tg (.Call (.Name "range" p) [a] [] pos) (wI S fun ρ φ => ((fa ρ φ).bind fun x φ1 => .ofO (opRng1 x) φ1).bind fun x φ1 => .ofO (items x) φ1) :=
  PIimp (pi_range1 hg hm (pa_cons ha pa_nil hs) hs) fun σ H R ⟨G, ρ, φ, s, l, q⟩ => by
  rw [Out.holds_bind, Out.holds_bind] at q
  refine ⟨G, ρ, φ, s, l, Out.holds_mono q (fun x φ1 q1 G1 H1 v1 e1 s1 r1 => ?_) fun _ _ z => z⟩
  obtain ⟨w, hw, p0⟩ := holds_ofO q1
  obtain ⟨ws, hws, p⟩ := holds_ofO p0
  clear p0 q1
  cases x <;> simp only [opRng1, reduceCtorEq, Option.ite_none_right_eq_some, Option.some.injEq] at hw
  obtain ⟨hb, rfl⟩ := hw
  simp only [items, Option.some.injEq] at hws
  subst hws
  rename_i j
  have r1' : v1 = .int j := by simpa only [Rep] using (show Rep S.M G1 v1 (.int j) from r1)
  exact ⟨j, by rw [r1'], hb.1, hb.2, p G1 H1 _ e1 s1 (goes_rng 0 j.toNat)⟩
/-- range(a, b) -/
theorem i_rng2 (hg : Gl X "range") (hm : X.mg "range" = none) (ha : PE X a (rd S (RV S.M) fa)) (hb : PE X b (rd S (RV S.M) fb)) (hs : starEach [a, b] X.env = [(false, eval a X.env), (false, eval b X.env)]) (hs2 : starEach [b] X.env = [(false, eval b X.env)]) :
    PI X tg (.Call (.Name "range" p) [a, b] [] pos) (wI S fun ρ φ => ((fa ρ φ).bind fun x φ1 => (fb ρ φ1).bind fun y φ2 => .ofO (opRng2 x y) φ2).bind fun x φ1 => .ofO (items x) φ1) :=
  PIimp (pi_range2 hg hm (pa_cons ha (pa_cons hb pa_nil hs2) (by rw [hs, hs2])) hs hs2) fun σ H R ⟨G, ρ, φ, s, l, q⟩ => by
  rw [Out.holds_bind, Out.holds_bind] at q
  refine ⟨G, ρ, φ, s, l, Out.holds_mono q (fun x φ1 q1 G1 H1 v1 e1 s1 r1 => ?_) fun _ _ z => z⟩
  rw [Out.holds_bind] at q1
  refine ⟨G1, ρ, φ1, s1, l.ext e1, Out.holds_mono q1 (fun y φ2 q2 G2 H2 v2 e2 s2 r2 => ?_) fun _ _ z => z.ext e1⟩
  obtain ⟨w, hw, p0⟩ := holds_ofO q2
  obtain ⟨ws, hws, p⟩ := holds_ofO p0
  clear p0 q2
  cases x <;> cases y <;> simp only [opRng2, reduceCtorEq, Option.ite_none_right_eq_some, Option.some.injEq] at hw
  obtain ⟨hb, rfl⟩ := hw
  simp only [items, Option.some.injEq] at hws
  subst hws
  rename_i i j
  have r1' : v1 = .int i := by simpa only [Rep] using (show Rep S.M G1 v1 (.int i) from r1)
  have r2' : v2 = .int j := by simpa only [Rep] using (show Rep S.M G2 v2 (.int j) from r2)
  exact ⟨i, j, by rw [r1', r2'], ⟨hb.1.1, hb.1.2, hb.2.1, hb.2.2⟩, p G2 H2 _ (e1.trans e2) s2 (goes_rng i (j - i).toNat)⟩
end
/-! ### comprehensions -/
theorem LocOk.set {M : Md} {Z : Hp} {G : Fz} {ρ : Loc} {σ : L2.St} {H : Hp} (l : LocOk M Z G ρ σ H) (i : Nat) {w : W} {v : V} (r : Rep M G v w) : LocOk M Z G (ρ.set i (.val w)) (σ.set i (some v)) H := by
  refine ⟨by rw [List.length_set, List.length_set]; exact l.len, fun j s h => ?_, fun j k w1 w2 a h1 h2 h3 h4 => ?_⟩
  · by_cases e : j = i
    · subst e
      by_cases hj : j < ρ.length
      · rw [List.getElem?_set_self hj] at h
        cases h
        exact ⟨v, by rw [List.getElem?_set_self (by rw [l.len]; exact hj)], r⟩
      · rw [List.getElem?_eq_none (by rw [List.length_set]; omega)] at h
        cases h
    · rw [List.getElem?_set_ne (Ne.symm e)] at h
      have q := l.at_ j s h
      rw [List.getElem?_set_ne (Ne.symm e)]
      exact q
  · have n1 : j ≠ i := fun e => by
      subst e
      have hj : j < ρ.length := by have := (List.getElem?_eq_some_iff.mp h1).1; rw [List.length_set] at this; exact this
      rw [List.getElem?_set_self hj] at h1
      cases h1
    have n2 : k ≠ i := fun e => by
      subst e
      have hj : k < ρ.length := by have := (List.getElem?_eq_some_iff.mp h2).1; rw [List.length_set] at this; exact this
      rw [List.getElem?_set_self hj] at h2
      cases h2
    rw [List.getElem?_set_ne (Ne.symm n1)] at h1 h3
    rw [List.getElem?_set_ne (Ne.symm n2)] at h2 h4
    exact l.apart j k w1 w2 a h1 h2 h3 h4
theorem set_none_set {α : Type} (l : List α) (i : Nat) (x y : α) : (l.set i x).set i y = l.set i y := List.set_set ..
section
variable {M : Md}
/-- where a comprehension's turns stand: the frozen part and the heap at its start, the new list at D -/
structure Cmp (G0 : Fz) (H0 : Hp) (D : Addr) (G : Fz) (φ : Sto) (H : Hp) (zs : List W) : Prop where
  ext : Ext G0 H0 G H
  sto : StoOk M G φ H
  F : G.F D = none
  ι : D ∉ G.ι
  lst : ∃ acc, H D = some (.lst acc) ∧ Reps M G acc zs
end
section
variable {X : Cx} {S : Sit} {elt it : Expr} {ifs : List Expr} {pos tp : Pos} {scope : Scope} {fi : Loc → Sto → Out (List W)} {fe fc : Loc → Sto → Out W}
abbrev Sit.nox (S : Sit) : Sit := ⟨S.M, S.Z, fun _ _ _ _ => False⟩
/-- the test of a clause -/
def clauseT (noIf : Bool) (S : Sit) (fc : Loc → Sto → Out W) : TT := if noIf then tYes else rdT S (tst fc)
abbrev compF (noIf : Bool) (i : Nat) (fi : Loc → Sto → Out (List W)) (fc fe : Loc → Sto → Out W) : Loc → Sto → Out W := fun ρ φ => (fi ρ φ).bind fun ws φ1 =>
      noExc ((compL (fun w φ' => if noIf then .ok true φ' else (fc (ρ.set i (.val w)) φ').bind fun z φ'' => .ofO (truthy z) φ'')
        (fun w φ' => fe (ρ.set i (.val w)) φ') ws φ1).bind fun zs φ2 => if zs.length ≤ sizeLine then .ok (.lst zs) φ2 else .bad)
theorem comp_read {i : Nat} (noIf : Bool) {σ : L2.St} {H : Hp} {Q : VK} (h : rd S (RB S.M) (compF noIf i fi fc fe) σ H Q) : tLc (wI S fi) (gName i) (clauseT noIf S.nox fc) (rd S.nox (RV S.M) fe) [i] σ H Q := by
  obtain ⟨G, ρ, φ, s, l, q⟩ := h
  rw [Out.holds_bind] at q
  refine ⟨G, ρ, φ, s, l, Out.holds_mono q (fun ws φ1 q1 G1 H1 J e1 s1 g1 D hD => ?_) fun _ _ z => z⟩
  generalize hcf : (fun (w : W) (φ' : Sto) => (if noIf then Out.ok true φ' else (fc (ρ.set i (.val w)) φ').bind fun z φ'' => .ofO (truthy z) φ'' : Out Bool)) = cf at q1
  generalize hef : (fun (w : W) (φ' : Sto) => fe (ρ.set i (.val w)) φ') = ef at q1
  -- the whole runs through
  have hrun : ∃ zs φ2, compL cf ef ws φ1 = .ok zs φ2 ∧ zs.length ≤ sizeLine ∧ Post S.M (RB S.M) G H (.lst zs) φ2 Q := by
    cases hr : compL cf ef ws φ1 with
    | bad => rw [hr] at q1; exact q1.elim
    | exc x φ2 => rw [hr] at q1; exact q1.elim
    | ok zs φ2 =>
      rw [hr] at q1
      by_cases hz : zs.length ≤ sizeLine
      · simp only [Out.bind_ok, hz, if_true] at q1
        exact ⟨zs, φ2, rfl, hz, q1⟩
      · simp only [Out.bind_ok, hz, if_false] at q1
        exact q1.elim
  obtain ⟨zs, φ2, hr, hz, P⟩ := hrun
  have hF : G1.F D = none := by
    cases e : G1.F D with
    | none => rfl
    | some u => rw [s1.le D u e] at hD; cases hD
  have hι : D ∉ G1.ι := fun z => s1.alive D z hD
  have sD := sto_laid (o := .lst []) s1 hD
  have eD := ext_laid (o := .lst []) s1 hD
  refine ⟨fun k m H2 => ∃ G2 φk zk, Cmp (M := S.M) G1 H1 D G2 φk H2 zk ∧ m = ws.length - k ∧ k ≤ ws.length ∧ ∃ zr, compL cf ef (ws.drop k) φk = .ok zr φ2 ∧ zk ++ zr = zs, ⟨ws.length, G1, φ1, [], ?_, by simp, Nat.zero_le _, zs, by simpa using hr, rfl⟩, ?_⟩
  · exact ⟨eD, sD, hF, hι, [], upd_same, trivial⟩
  · rintro k m H2 ⟨G2, φk, zk, C, rfl, hk, zr, hzr, hcat⟩
    have eT : Ext G H G2 H2 := e1.trans C.ext
    by_cases hlt : k < ws.length
    · refine .inr ⟨g1.go k G2 H2 φk C.ext.le C.sto hlt, _, fun H' p' => p', fun v H3 y => ?_⟩
      · obtain ⟨G3, w, hw, e3, s3, r3⟩ := g1.yld k G2 H2 φk v H3 C.ext.le C.sto hlt y
        have hdrop : ws.drop k = w :: ws.drop (k + 1) := by
          rw [List.drop_eq_getElem_cons hlt]
          congr 1
          rw [List.getElem?_eq_getElem hlt] at hw
          exact Option.some.inj hw
        rw [hdrop] at hzr
        have l3 : LocOk S.M S.Z G3 (ρ.set i (.val w)) ((σ.set i none).set i (some v)) H3 := by
          rw [set_none_set]
          exact LocOk.set (l.ext (eT.trans e3)) i r3
        refine ⟨by show ((σ.set i none).set i (some v)).set i none = σ.set i none; simp, ?_⟩
        -- the test, then the element
        have aD : H2 D ≠ none := by obtain ⟨acc, h, _⟩ := C.lst; rw [h]; simp
        have step : ∀ (b : Bool) (φ4 : Sto) (G4 : Fz) (H4 : Hp), cf w φk = .ok b φ4 → Ext G3 H3 G4 H4 → StoOk S.M G4 φ4 H4 →
            (if b = true then rd S.nox (RV S.M) fe ((σ.set i none).set i (some v)) H4 fun y H5 => ∃ acc, H5 D = some (.lst acc) ∧ acc.length < sizeLine ∧
              (∃ m', m' < ws.length - k ∧ ∃ G2 φk zk, Cmp (M := S.M) G1 H1 D G2 φk (upd H5 D (.lst (acc ++ [y]))) zk ∧ m' = ws.length - (k + 1) ∧ k + 1 ≤ ws.length ∧ ∃ zr, compL cf ef (ws.drop (k + 1)) φk = .ok zr φ2 ∧ zk ++ zr = zs)
             else ∃ m', m' < ws.length - k ∧ ∃ G2 φk zk, Cmp (M := S.M) G1 H1 D G2 φk H4 zk ∧ m' = ws.length - (k + 1) ∧ k + 1 ≤ ws.length ∧ ∃ zr, compL cf ef (ws.drop (k + 1)) φk = .ok zr φ2 ∧ zk ++ zr = zs) := by
          intro b φ4 G4 H4 hb e4 s4
          have e24 := e3.trans e4
          unfold compL at hzr
          rw [hb] at hzr
          cases b with
          | false =>
            have hzr' : compL cf ef (ws.drop (k + 1)) φ4 = .ok zr φ2 := by simpa using hzr
            refine ⟨ws.length - (k + 1), by omega, G4, φ4, zk, ⟨C.ext.trans e24, s4, e24.new D aD C.ι C.F, e24.nin aD C.ι, ?_⟩, rfl, hlt, zr, hzr', hcat⟩
            obtain ⟨acc, h1, h2⟩ := C.lst
            exact ⟨acc, e24.keep D _ h1 C.ι, Reps.mono e24.le _ _ h2⟩
          | true =>
            have hzr2 : ((ef w φ4).bind fun z φ2' => (compL cf ef (ws.drop (k + 1)) φ2').bind fun zs' φ3 => .ok (z :: zs') φ3) = .ok zr φ2 := by simpa using hzr
            cases hev : ef w φ4 with
            | bad => rw [hev] at hzr2; simp at hzr2
            | exc x φ5 => rw [hev] at hzr2; simp at hzr2
            | ok z φ5 =>
              rw [hev, Out.bind_ok] at hzr2
              cases hrest : compL cf ef (ws.drop (k + 1)) φ5 with
              | bad => rw [hrest] at hzr2; simp at hzr2
              | exc x φ6 => rw [hrest] at hzr2; simp at hzr2
              | ok zs' φ6 =>
                rw [hrest, Out.bind_ok] at hzr2
                simp only [Out.ok.injEq] at hzr2
                obtain ⟨rfl, rfl⟩ := hzr2
                refine ⟨G4, ρ.set i (.val w), φ4, s4, l3.ext e4, ?_⟩
                have hev' : fe (ρ.set i (.val w)) φ4 = .ok z φ5 := by rw [← hef] at hev; exact hev
                rw [hev']
                show Post S.M (RV S.M) G4 H4 z φ5 _
                intro G5 H5 y5 e5 s5 r5
                have e25 := e24.trans e5
                obtain ⟨acc, h1, h2⟩ := C.lst
                have hD5 : H5 D = some (.lst acc) := e25.keep D _ h1 C.ι
                have hF5 : G5.F D = none := e25.new D aD C.ι C.F
                have hι5 : D ∉ G5.ι := e25.nin aD C.ι
                refine ⟨acc, hD5, ?_, ws.length - (k + 1), by omega, G5, φ5, zk ++ [z], ⟨?_, ?_, hF5, hι5, acc ++ [y5], upd_same, (Reps.mono e25.le _ _ h2).append ⟨r5, trivial⟩⟩, rfl, hlt, zs', hrest, by rw [← hcat]; simp⟩
                · have h3 := congrArg List.length hcat
                  rw [List.length_append, List.length_cons] at h3
                  rw [h2.length]
                  omega
                · have eA := C.ext.trans e25
                  refine ⟨eA.F, fun b o hb hn => ?_, eA.new, eA.ι, fun b hb => ?_⟩
                  · rw [upd_ne (ne_of_none hb hD)]
                    exact eA.keep b o hb hn
                  · by_cases hbD : b = D
                    · rw [hbD, upd_same]; simp
                    · rw [upd_ne hbD]; exact eA.alive b hb
                · refine ⟨fun b u h => ?_, s5.nd, s5.len, fun j c b h3 h4 => ?_⟩
                  · have ne : b ≠ D := fun z => by rw [z, hF5] at h; cases h
                    rw [upd_ne ne]; exact s5.le b u h
                  · obtain ⟨h5, h6⟩ := s5.cell j c b h3 h4
                    exact ⟨h5, h6.mono ⟨Same.refl _, [], by simp⟩ (upd_ne fun z => hι5 (z ▸ List.mem_of_getElem? h4))⟩
        cases hcb : cf w φk with
        | bad => unfold compL at hzr; rw [hcb] at hzr; simp at hzr
        | exc x φ5 => unfold compL at hzr; rw [hcb] at hzr; simp at hzr
        | ok b φ4 =>
          cases noIf with
          | true =>
            have h1 : Out.ok true φk = .ok b φ4 := by rw [← hcf] at hcb; simpa using hcb
            simp only [Out.ok.injEq] at h1
            obtain ⟨rfl, rfl⟩ := h1
            exact step true φk G3 H3 hcb (.refl s3) s3
          | false =>
            have h1 : ((fc (ρ.set i (.val w)) φk).bind fun z φ'' => .ofO (truthy z) φ'') = .ok b φ4 := by rw [← hcf] at hcb; simpa using hcb
            refine ⟨G3, ρ.set i (.val w), φk, s3, l3, ?_⟩
            rw [show tst fc (ρ.set i (.val w)) φk = .ok b φ4 from h1]
            show PostB S.M G3 H3 φ4 _
            intro G4 H4 e4 s4
            exact step b φ4 G4 H4 hcb e4 s4
    · have hkk : k = ws.length := by omega
      subst hkk
      refine .inl ⟨g1.stop _ G2 H2 φk C.ext.le C.sto (Nat.le_refl _), ?_⟩
      rw [List.drop_length] at hzr
      simp only [compL, Out.ok.injEq] at hzr
      obtain ⟨rfl, rfl⟩ := hzr
      rw [List.append_nil] at hcat
      subst hcat
      refine P G2 H2 _ eT C.sto (.inl ⟨rfl, D, rfl, e1.none hD, C.F, C.ι, C.lst⟩)
theorem s_comp (hc : X.calm = true) (hN : X.N.Nodup) {i : Nat} {x : PySem.Str} (noIf : Bool) (ok : BlkOk X.N X.env.scope scope [(x, i)]) (hi : PI X (.Name x tp) it (wI S fi))
    (hg : ∀ (s : Shared) (H : Hp) (C : Addr) (cl : List (PySem.Str × Addr)) (fp : List Addr), PG (X.blk s H scope (compEnvC scope cl C X.env) fp) (.Name x tp) (gName i))
    (ht : ∀ (s : Shared) (H : Hp) (C : Addr) (cl : List (PySem.Str × Addr)) (fp : List Addr), PTs (X.blk s H scope (compEnvC scope cl C X.env) fp) ifs (clauseT noIf S.nox fc))
    (he : ∀ (s : Shared) (H : Hp) (C : Addr) (cl : List (PySem.Str × Addr)) (fp : List Addr), PE (X.blk s H scope (compEnvC scope cl C X.env) fp) elt (rd S.nox (RV S.M) fe)) (hs : ∀ x, foldedSetIterable it X.env x = pure x) :
    PE X (.ListComp elt [⟨.Name x tp, it, ifs, 0⟩] scope pos) (rd S (RB S.M) (compF noIf i fi fc fe)) :=
  PEimp (pe_lc hc hN hi ok hg ht he hs) fun _ _ _ h => comp_read noIf h
end
end MP
/-! MP: sets of texts: made of a list or a tuple, counted, sorted. -/
namespace MP
open PySem PySem.Spec PyProof.Rows L2 TL
/-- the text of an entry -/
def txtOf (e : Int × Value) : PySem.Str := match e.2 with
  | .str k _ => k
  | _ => PySem.Str.empty
def TxtE (w : World) (e : Int × Value) : Prop := ∃ k tk, e.2 = Value.str k tk ∧ e.1 = hashStr w k
/-- at a stands the set of the texts L -/
def TxtSet (w : World) (h : Heap) (a : Addr) (L : List PySem.Str) : Prop :=
  ∃ o es ep t, h.get? a = some o ∧ o.ExactSet ∧ o.data = .set es ep t ∧ (∀ e ∈ es.toList, TxtE w e) ∧ (es.toList.map txtOf).Perm L ∧ L.Nodup ∧
    es.size < scanBound ∧ t.fits es.size = true ∧ Ris t.place.toList ∧ (w.params.followText "set-order" = true ∨ t.led = true)
section
variable {P : Program} {w : World} {A : Around} {E : Value → Shared → Prop} {s : Shared} {h h' : Heap} {a : Addr} {L : List PySem.Str}
theorem TxtSet.at (R : TxtSet w h a L) (k : ∀ o, h.get? a = some o → h'.get? a = some o) : TxtSet w h' a L := by
  obtain ⟨o, es, ep, t, ho, r⟩ := R
  exact ⟨o, es, ep, t, k o ho, r⟩
theorem TxtSet.lt (R : TxtSet w h a L) : a < h.objs.size := by
  obtain ⟨o, es, ep, t, ho, r⟩ := R
  exact Heap.lt_size ho
theorem txt_elems {l : List (Int × Value)} (g : ∀ e ∈ l, TxtE w e) : ElemsOf (PySem.strKind P w) l := fun e he => by
  obtain ⟨k, tk, h1, h2⟩ := g e he
  exact ⟨⟨k, by rw [h1]; exact strKind_is P w k tk, h2⟩, by rw [h1] <;> rfl⟩
theorem txt_is {e : Int × Value} (g : TxtE w e) (k : PySem.Str) : (PySem.strKind P w).is k e.2 = true ↔ txtOf e = k := by
  obtain ⟨k0, tk, h1, _⟩ := g
  unfold txtOf
  rw [h1]
  show ((k0 == k) = true) ↔ k0 = k
  exact beq_iff_eq
theorem txt_mem {l : List (Int × Value)} (g : ∀ e ∈ l, TxtE w e) (k : PySem.Str) : k ∈ l.map txtOf ↔ ∃ e ∈ l, (PySem.strKind P w).is k e.2 = true := by
  rw [List.mem_map]
  exact ⟨fun ⟨e, he, q⟩ => ⟨e, he, (txt_is (g e he) k).2 q⟩, fun ⟨e, he, q⟩ => ⟨e, he, (txt_is (g e he) k).1 q⟩⟩
theorem TxtSet.len (R : TxtSet w h a L) : ∃ o es ep t, h.get? a = some o ∧ o.ExactSet ∧ o.data = .set es ep t ∧ t.fits es.size = true ∧ es.size = L.length ∧ es.size < scanBound := by
  obtain ⟨o, es, ep, t, ho, hx, hd, _, pm, _, hb, hf, _⟩ := R
  exact ⟨o, es, ep, t, ho, hx, hd, hf, by rw [← pm.length_eq, List.length_map, Array.length_toList], hb⟩
def addL (L : List PySem.Str) (k : PySem.Str) : List PySem.Str := if k ∈ L then L else L ++ [k]
theorem addL_len (L : List PySem.Str) (k : PySem.Str) : (addL L k).length ≤ L.length + 1 := by
  unfold addL
  split
  · omega
  · simp
/-- the table is stored, and laid anew where it is too full -/
theorem txt_tail {g : Bool → Sem Unit} (hg : ∀ (b : Bool) (s₁ : Shared) (Q' : Unit → Shared → Prop), Q' () s₁ → wpAny (model P w) A (g b) Q' E s₁)
    {o : Obj} {es : Array (Int × Value)} {ep : Nat} {t : SetTable} (ho : s.heap.get? a = some o) (hex : o.ExactSet) (hd : o.data = .set es ep t)
    {es1 : Array (Int × Value)} {t2 : SetTable} {L1 : List PySem.Str} (g1 : ∀ e ∈ es1.toList, TxtE w e) (p1 : (es1.toList.map txtOf).Perm L1) (nd1 : L1.Nodup)
    (hb1 : es1.size < scanBound) (hf2 : t2.fits es1.size = true) (hr : Ris t2.place.toList) (hl : w.params.followText "set-order" = true ∨ t2.led = true) {wasDummy : Bool} {R : Option Bool → Shared → Prop}
    (hR : ∀ hp, Heap.SameBut a s.heap hp → TxtSet w hp a L1 → R (some true) { s with heap := hp }) :
    wpAny (model P w) A (do
        storeSet a es1 t2
        if (!wasDummy && t2.tooFull) = true then do
            g (relayAll t2 es1 (SetTable.grown es1.size)).2.2
            storeSet a (relayAll t2 es1 (SetTable.grown es1.size)).1 (relayAll t2 es1 (SetTable.grown es1.size)).2.1
            pure (some true)
          else pure (some true)) R E s := by
  refine wpAny_bind (wpAny_storeSet_of ho hd ?_ (fits_of_scanBound hb1))
  have ho1 := store_at (es' := es1) (t' := t2) ho hd
  have sb1 := Heap.SameBut.update s.heap a (Obj.putSet es1 t2)
  split
  · have q1 := relayAll_perm t2 es1 (SetTable.grown es1.size)
    have q2 := relayAll_fits t2 es1 (SetTable.grown es1.size)
    have q3 := relayAll_ris t2 es1 (SetTable.grown es1.size)
    have q4 := relayAll_led t2 es1 (SetTable.grown es1.size)
    generalize relayAll t2 es1 (SetTable.grown es1.size) = Z at q1 q2 q3 q4 ⊢
    obtain ⟨es2, t3, gave⟩ := Z
    dsimp only at q1 q2 q3 q4 ⊢
    have hz : es2.size < scanBound := by rw [← Array.length_toList, q1.length_eq, Array.length_toList]; exact hb1
    refine wpAny_bind (hg _ _ _ (wpAny_bind (wpAny_storeSet_of ho1 rfl ?_ (fits_of_scanBound hz))))
    have ho2 := store_at (es' := es2) (t' := t3) ho1 rfl
    exact wpAny_pure (hR _ (sb1.trans (Heap.SameBut.update _ a _)) ⟨_, es2, _, t3, ho2, hex, rfl, fun e he => g1 e (q1.mem_iff.mp he), (q1.map txtOf).trans p1, nd1, hz, q2, q3, hl.imp id fun z => by rw [q4]; exact z⟩)
  · exact wpAny_pure (hR _ sb1 ⟨_, es1, _, t2, ho1, hex, rfl, g1, p1, nd1, hb1, hf2, hr, hl⟩)
theorem txt_add {k : PySem.Str} {tk : Tok} {Q : Bool → Shared → Prop} (R : TxtSet w s.heap a L) (room : L.length + 1 < scanBound)
    (hQ : ∀ hp b, Heap.SameBut a s.heap hp → TxtSet w hp a (addL L k) → Q b { s with heap := hp }) :
    wpAny (model P w) A (setAddHashed a (.str k tk) ((PySem.strKind P w).hash k)) Q E s := by
  obtain ⟨o, es, ep, t, ho, hex, hd, g, pm, nd, hb, hf, hr, hl⟩ := R
  have hlen : es.size = L.length := by rw [← pm.length_eq, List.length_map, Array.length_toList]
  have hkey : (PySem.strKind P w).is k (.str k tk) = true := strKind_is P w k tk
  have hsc : (Value.str k tk).scannable = true := rfl
  have hel : ElemsOf (PySem.strKind P w) es.toList := txt_elems g
  unfold setAddHashed setAddHashedIn
  refine wpAny_holding (wpAny_bind (wpAny_setState_of ho hd hf ?_))
  dsimp only
  rw [byScan_of hsc hb hel]
  simp only [↓reduceIte]
  unfold setAddByScan
  refine wpAny_bind (wpAny_bind (wpAny_rule (wpAny_bind (wpAny_setScan_of hkey ho hd hf hel ?_))))
  cases hfi : List.findIdx? (fun e => (PySem.strKind P w).is k e.2) es.toList with
  | some j =>
    dsimp only
    obtain ⟨hj, pj, _⟩ := List.findIdx?_eq_some_iff_getElem.mp hfi
    have hk : k ∈ L := pm.mem_iff.mp ((txt_mem (P := P) g k).2 ⟨es.toList[j], List.getElem_mem hj, pj⟩)
    refine wpAny_pure (wpAny_pure ?_)
    exact hQ s.heap _ (Heap.SameBut.refl a s.heap) ⟨o, es, ep, t, ho, hex, hd, g, by unfold addL; rw [if_pos hk]; exact pm, by unfold addL; rw [if_pos hk]; exact nd, hb, hf, hr, hl⟩
  | none =>
    dsimp only
    have hnk : k ∉ L := fun z => by
      obtain ⟨e, he, q⟩ := (txt_mem (P := P) g k).1 (pm.mem_iff.mpr z)
      have c := List.findIdx?_eq_none_iff.mp hfi e he
      rw [q] at c
      cases c
    have hgw : ∀ (b : Bool) {s₁ : Shared} {Q' : Unit → Shared → Prop}, Q' () s₁ → wpAny (model P w) A (match b with | true => rule "set.scan.the-table-gave-way" | false => pure ()) Q' E s₁ :=
      fun b s₁ Q' q => by cases b <;> first | exact wpAny_pure q | exact wpAny_rule q
    have q1 := layNew_perm t es ((PySem.strKind P w).hash k) (.str k tk)
    have q2 := layNew_fits t es ((PySem.strKind P w).hash k) (.str k tk)
    have q3 := layNew_ris t es ((PySem.strKind P w).hash k) (.str k tk) hr
    have q4 := layNew_led t es ((PySem.strKind P w).hash k) (.str k tk)
    generalize layNew t es ((PySem.strKind P w).hash k) (.str k tk) = Z at q1 q2 q3 q4 ⊢
    obtain ⟨es1, t1, wasDummy, gave⟩ := Z
    dsimp only at q1 q2 q3 q4 ⊢
    rw [Array.toList_push] at q1
    have pc : es1.toList.Perm (((PySem.strKind P w).hash k, Value.str k tk) :: es.toList) := q1.trans (List.perm_append_singleton _ _)
    have g1 : ∀ e ∈ es1.toList, TxtE w e := fun e he => by
      rcases List.mem_cons.mp (pc.mem_iff.mp he) with z | z
      · rw [z]; exact ⟨k, tk, rfl, rfl⟩
      · exact g e z
    have p1 : (es1.toList.map txtOf).Perm (addL L k) := by
      unfold addL
      rw [if_neg hnk]
      exact (pc.map txtOf).trans (((show (txtOf ((PySem.strKind P w).hash k, Value.str k tk) :: es.toList.map txtOf).Perm (k :: L) from pm.cons k)).trans (List.perm_append_singleton k L).symm)
    have nd1 : (addL L k).Nodup := by
      unfold addL
      rw [if_neg hnk]
      exact (List.perm_append_singleton k L).nodup_iff.mpr (List.nodup_cons.mpr ⟨hnk, nd⟩)
    have hb1 : es1.size < scanBound := by
      rw [← Array.length_toList, pc.length_eq, List.length_cons, Array.length_toList, hlen]
      exact room
    have hled : w.params.followText "set-order" = true ∨ t1.led = true := hl.imp id fun z => by rw [q4]; exact z
    refine wpAny_bind (hgw _ ?_)
    split
    · refine wpAny_bind ?_
      rw [hashByValue_scannable 8 hsc]
      refine wpAny_pure ?_
      refine txt_tail ?_ ho hex hd g1 p1 nd1 hb1 ?_ ?_ ?_ ?_
      · intro b s₁ Q' q; cases b <;> first | exact wpAny_pure q | exact wpAny_rule q
      · first | (split <;> first | exact q2 | exact SetTable.fits_plain_off q2) | exact q2
      · first | (split <;> exact q3) | exact q3
      · first | (split <;> exact hled) | exact hled
      · intro hp sb r; dsimp only; exact wpAny_pure (hQ hp _ sb r)
    · refine wpAny_bind (wpAny_pure ?_)
      simp only [↓reduceIte]
      refine txt_tail ?_ ho hex hd g1 p1 nd1 hb1 q2 q3 hled ?_
      · intro b s₁ Q' q; cases b <;> first | exact wpAny_pure q | exact wpAny_rule q
      · intro hp sb r; dsimp only; exact wpAny_pure (hQ hp _ sb r)
theorem txt_fresh {hp : Heap} {b : Addr} (e : hp.get? b = some { cls := .type "set", dict := none, data := .set #[] 0 (.fresh 0 0 (!w.params.followText "set-order")) }) : TxtSet w hp b [] := by
  refine ⟨_, #[], 0, _, e, ⟨rfl, rfl, rfl⟩, rfl, fun e he => by simp at he, by simp, List.nodup_nil, by decide, rfl, List.Pairwise.nil, ?_⟩
  show _ ∨ (!w.params.followText "set-order") = true
  cases w.params.followText "set-order"
  · exact .inr rfl
  · exact .inl rfl
/-- the first n texts of xs, gathered -/
def foldL (xs : List PySem.Str) (n : Nat) : List PySem.Str := (xs.take n).foldl addL []
theorem foldL_succ {xs : List PySem.Str} {n : Nat} {y : PySem.Str} (h : xs[n]? = some y) : foldL xs (n + 1) = addL (foldL xs n) y := by
  unfold foldL
  rw [List.take_add_one, h, List.foldl_append]
  rfl
theorem foldL_len (xs : List PySem.Str) : ∀ n, (foldL xs n).length ≤ n
  | 0 => by simp [foldL]
  | n + 1 => by
    cases h : xs[n]? with
    | none =>
      have e : foldL xs (n + 1) = foldL xs n := by unfold foldL; rw [List.take_add_one, h]; simp
      rw [e]
      have := foldL_len xs n
      omega
    | some y =>
      rw [foldL_succ h]
      have := foldL_len xs n
      have := addL_len (foldL xs n) y
      omega
theorem txt_loop {I : Addr} {fp wr : List Addr} {G : Array GenState → Array GenState → Prop} {n : Nat} {Pv : Nat → Value → Prop} {St : Nat → Shared → Prop} {R : Result → Shared → Prop} (W : WalksS P w A.in1 I fp wr G n Pv St) (D : Addr) (hD : D ∉ fp)
    (xs : List PySem.Str) (hn : n = xs.length) (hval : ∀ i v, Pv i v → ∃ y t, xs[i]? = some y ∧ v = .str y t) (hb : xs.length + 1 < scanBound) :
    ∀ (k i : Nat) (s : Shared), n - i = k → i ≤ n → St i s → TxtSet w s.heap D (foldL xs i) →
      (∀ s', Moved (D :: wr) G s s' → TxtSet w s'.heap D (foldL xs xs.length) → R (.ok (.ret .none)) s') →
      codeAny (model P w) A (.builtin "set.update.loop" ⟨[.ref D, .ref I], []⟩) R s := by
  have hDw : D ∉ wr := fun h => hD (W.sub _ h)
  have up : ∀ b ∈ wr, b ∈ D :: wr := fun b hb => List.mem_cons_of_mem _ hb
  intro k
  induction k with
  | zero =>
    intro i s hk hi hst hS hR
    have hin : i = xs.length := by omega
    subst hin
    refine codeAny_builtin PyProof.Rows.F.entry_set_update_loop ?_
    rw [Around.under_plainId PyProof.Rows.F.plain_set_update_loop _]
    show wpAny _ A.in1 (pyNext (.ref I) >>= _) _ _ s
    refine wpAny_bind (W.done s _ _ (by rw [hn]; exact hst) fun s' hm => ?_)
    show wpAny _ A.in1 (ret Value.none) _ _ s'
    exact wpAny_pure (hR s' (hm.mono up) (hS.at fun o e => hm.heap D o hDw e))
  | succ k ih =>
    intro i s hk hi hst hS hR
    have hlt : i < n := by omega
    refine codeAny_builtin PyProof.Rows.F.entry_set_update_loop ?_
    rw [Around.under_plainId PyProof.Rows.F.plain_set_update_loop _]
    show wpAny _ A.in1 (pyNext (.ref I) >>= _) _ _ s
    refine wpAny_bind (W.item i s _ _ hlt hst fun v s' hP hst' hm => ?_)
    obtain ⟨y, t, hy, rfl⟩ := hval i v hP
    have hS' : TxtSet w s'.heap D (foldL xs i) := hS.at fun o e => hm.heap D o hDw e
    show wpAny _ A.in1 (holding [Value.str y t] (setAdd D (.str y t)) >>= _) _ _ s'
    refine wpAny_bind (wpAny_holding ?_)
    unfold setAdd
    refine wpAny_holding ?_
    refine wpAny_bind ((PySem.strKind P w).pyHash (k := y) (strKind_is _ _ _ _) ?_)
    refine txt_add (s := { s' with toks := s'.toks + 1 }) hS' (by have := foldL_len xs i; omega) fun hp b sb R2 => ?_
    rw [← foldL_succ hy] at R2
    refine wpAny_pure ⟨plainId_quiet PyProof.Rows.F.plain_set_update_loop _, ih (i + 1) _ (by omega) hlt (W.frame _ s' _ _ hst' (Nat.le_succ _) fun b hb o e => ?_) R2 fun s'' hm'' hS'' => ?_⟩
    · rw [sb.2 b (fun h : b = D => hD (by rw [← h]; exact hb))]; exact e
    · refine hR s'' (Moved.trans W.gtrans ((hm.mono up).then_heap (Nat.le_succ _) fun b o hb e => ?_) hm'') hS''
      rw [sb.2 b (fun h : b = D => hb (by rw [h]; exact List.mem_cons_self))]; exact e
set_option maxHeartbeats 3200000 in
theorem set_of_list {l : Addr} {items : Array Value} {xs : List PySem.Str} {Q : Value → Shared → Prop} (hh : A.handled = none) (hl : s.heap.IsList l items) (hi : PyProof.Rows.StrsAre items.toList xs) (hb : xs.length + 1 < scanBound)
    (q : ∀ (hp : Heap) (tk : Nat), TxtSet w hp s.heap.objs.size (foldL xs xs.length) → (∀ b o, b < s.heap.objs.size → s.heap.get? b = some o → hp.get? b = some o) → Q (.ref s.heap.objs.size) { s with heap := hp, toks := tk }) :
    wpAny (model P w) A (call (.type "set") [.ref l]) Q E s := by
  have sz : xs.length = items.size := by rw [← StrsAre.len_eq hi, Array.length_toList]
  obtain ⟨c, tl, hmro⟩ := PySem.F.called_set.mro
  have m1 := PySem.F.called_set.made
  have m2 := PySem.F.called_set.sub
  have m3 := PySem.F.called_set.notType
  have m4 := PySem.F.called_set.canCreate
  have m5 := PySem.F.typeCall_set_1 (.ref l)
  refine wpAny_call (codeAny_of_tree ?_)
  show wpAny _ _ (callAny (.type "set") _) _ _ _
  refine wpAny_pure ⟨Code.quiet_builtin _ (by decide +kernel), codeAny_builtin PySem.F.entry_type_call ?_⟩
  rw [Around.under_plain (weight_type_call_type "set" [.ref l] []) rfl]
  repeat (any_goals (first | assumption | wp_step))
  refine codeAny_mono (code_set_led1 (.ref l) (E := E) (Q₁ := fun obj s₁ => obj = .ref s.heap.objs.size ∧ s₁ = { s with heap := s.heap.push { cls := .type "set", dict := none, data := .set #[] 0 (.fresh 0 0 (!w.params.followText "set-order")) } }) ⟨rfl, rfl⟩) fun r s₁ hr => ?_
  cases r with
  | error e => exact hr
  | ok fl =>
    cases fl with
    | ret obj =>
      obtain ⟨rfl, rfl⟩ := hr
      have hS : (s.heap.push { cls := .type "set", dict := none, data := .set #[] 0 (.fresh 0 0 (!w.params.followText "set-order")) }).get? s.heap.objs.size = some { cls := .type "set", dict := none, data := .set #[] 0 (.fresh 0 0 (!w.params.followText "set-order")) } := Heap.get?_push_size _ rfl
      have hT : Shared.TypeIs { s with heap := s.heap.push { cls := .type "set", dict := none, data := .set #[] 0 (.fresh 0 0 (!w.params.followText "set-order")) } } (.ref s.heap.objs.size) "set" := ⟨_, hS, rfl⟩
      have n1 := PySem.F.called_set.init.lookup
      have n2 := PySem.F.called_set.init.bind (.ref s.heap.objs.size)
      repeat (any_goals (first | assumption | wp_step))
      refine codeAny_mono (codeAny_call_builtin (R := wants (fun r s₂ => r = .none ∧ ∃ hp tk, s₂ = { s with heap := hp, toks := tk } ∧
          TxtSet w hp s.heap.objs.size (foldL xs xs.length) ∧ (∀ b o, b < s.heap.objs.size → s.heap.get? b = some o → hp.get? b = some o)) E) PySem.F.called_set.init.plain PySem.F.entry_set_init (check_set_init_1 hT ?_)) fun r₂ s₂ hr₂ => ?_
      · obtain ⟨ol, hol, hcl, nl, hdl⟩ := hl
        obtain ⟨ocls, odict, odata, oslots⟩ := ol
        simp only at hcl hdl
        subst hcl; subst hdl
        have hol' : (s.heap.push { cls := .type "set", dict := none, data := .set #[] 0 (.fresh 0 0 (!w.params.followText "set-order")) }).get? l = some { cls := .type "list", dict := odict, data := .seq items nl, slots := oslots } := Heap.get?_push_of_some _ hol
        have k1 := PySem.F.sub_list_set
        have k2 := PySem.F.sub_list_frozenset
        have k3 : (Value.type "list" == Value.type "dict") = false := by decide
        have hl1 : (s.heap.push { cls := .type "set", dict := none, data := .set #[] 0 (.fresh 0 0 (!w.params.followText "set-order")) }).IsList l items := ⟨_, hol', rfl, nl, rfl⟩
        unfold Builtin.«set.__init__» noKeywords Builtin.Frozenset.updateFrom
        generalize hPI : pyIter = PI
        wp_walk
        subst hPI
        refine wpAny_pyIter_list (s := { s with heap := s.heap.push { cls := .type "set", dict := none, data := .set #[] 0 (.fresh 0 0 (!w.params.followText "set-order")) } }) hl1 ?_
        refine wpAny_bind (wpAny_runValue ?_)
        have hlS : l < s.heap.objs.size := Heap.lt_size hol
        have hh3 : A.in1.in1.in1.handled = none := by simp [hh]
        have hz1 : (s.heap.push { cls := .type "set", dict := none, data := .set #[] 0 (.fresh 0 0 (!w.params.followText "set-order")) }).objs.size = s.heap.objs.size + 1 := Heap.size_push ..
        have hneI : l ≠ (s.heap.push { cls := .type "set", dict := none, data := .set #[] 0 (.fresh 0 0 (!w.params.followText "set-order")) }).objs.size := by rw [hz1]; exact Nat.ne_of_lt (Nat.lt_succ_of_lt hlS)
        have hSf : s.heap.objs.size ∉ [(s.heap.push { cls := .type "set", dict := none, data := .set #[] 0 (.fresh 0 0 (!w.params.followText "set-order")) }).objs.size, l] := by
          rw [hz1]
          simp only [List.mem_cons, List.not_mem_nil, or_false, not_or]
          exact ⟨Nat.ne_of_lt (Nat.lt_succ_self _), Nat.ne_of_gt hlS⟩
        have hval : ∀ (i : Nat) (v : Value), items[i]? = some v → ∃ y t, xs[i]? = some y ∧ v = .str y t := fun i v hv => by
          obtain ⟨y, t, e1, e2⟩ := hi.item i v (by rw [Array.getElem?_toList]; exact hv)
          exact ⟨y, t, e2, e1⟩
        refine txt_loop ((Walks.list hh3 _ l hneI items).toS) s.heap.objs.size hSf xs sz.symm hval hb (items.size - 0) 0 _ (by omega) (Nat.zero_le _)
          ⟨⟨_, Heap.get?_push_size _ rfl, rfl, rfl⟩, (hl1.push _)⟩ (txt_fresh (Heap.get?_push_of_some _ hS)) fun s' hm hS' => ?_
        obtain ⟨hp, g', d', tk', os'⟩ := s'
        have eg : g' = s.gens := hm.gens
        have ed : d' = s.drawn := hm.drawn
        have eo : os' = s.os := hm.os
        subst eg; subst ed; subst eo
        show wpAny _ _ _ _ _ _
        refine wpAny_pure ?_
        show wpAny _ _ (ret Value.none) _ _ _
        refine wpAny_pure ⟨rfl, hp, tk', rfl, hS', fun b o hlt e => ?_⟩
        refine hm.heap b o ?_ (Heap.get?_push_of_some _ (Heap.get?_push_of_some _ e))
        rw [hz1]
        simp only [List.mem_cons, List.not_mem_nil, or_false, not_or]
        exact ⟨Nat.ne_of_lt hlt, Nat.ne_of_lt (Nat.lt_succ_of_lt hlt)⟩
      · cases r₂ with
        | error e => exact hr₂
        | ok fl₂ =>
          cases fl₂ with
          | ret r =>
            obtain ⟨rfl, hp, tk, rfl, hS', hk'⟩ := hr₂
            repeat (any_goals (first | assumption | wp_step))
            exact q _ _ hS' hk'
          | _ => exact hr₂.elim
    | _ => exact hr.elim
set_option maxHeartbeats 3200000 in
theorem set_of_tuple {l : Addr} {items : Array Value} {xs : List PySem.Str} {Q : Value → Shared → Prop} (hh : A.handled = none) (hl : s.heap.IsTuple l items) (hi : PyProof.Rows.StrsAre items.toList xs) (hb : xs.length + 1 < scanBound)
    (q : ∀ (hp : Heap) (tk : Nat), TxtSet w hp s.heap.objs.size (foldL xs xs.length) → (∀ b o, b < s.heap.objs.size → s.heap.get? b = some o → hp.get? b = some o) → Q (.ref s.heap.objs.size) { s with heap := hp, toks := tk }) :
    wpAny (model P w) A (call (.type "set") [.ref l]) Q E s := by
  have sz : xs.length = items.size := by rw [← StrsAre.len_eq hi, Array.length_toList]
  obtain ⟨c, tl, hmro⟩ := PySem.F.called_set.mro
  have m1 := PySem.F.called_set.made
  have m2 := PySem.F.called_set.sub
  have m3 := PySem.F.called_set.notType
  have m4 := PySem.F.called_set.canCreate
  have m5 := PySem.F.typeCall_set_1 (.ref l)
  refine wpAny_call (codeAny_of_tree ?_)
  show wpAny _ _ (callAny (.type "set") _) _ _ _
  refine wpAny_pure ⟨Code.quiet_builtin _ (by decide +kernel), codeAny_builtin PySem.F.entry_type_call ?_⟩
  rw [Around.under_plain (weight_type_call_type "set" [.ref l] []) rfl]
  repeat (any_goals (first | assumption | wp_step))
  refine codeAny_mono (code_set_led1 (.ref l) (E := E) (Q₁ := fun obj s₁ => obj = .ref s.heap.objs.size ∧ s₁ = { s with heap := s.heap.push { cls := .type "set", dict := none, data := .set #[] 0 (.fresh 0 0 (!w.params.followText "set-order")) } }) ⟨rfl, rfl⟩) fun r s₁ hr => ?_
  cases r with
  | error e => exact hr
  | ok fl =>
    cases fl with
    | ret obj =>
      obtain ⟨rfl, rfl⟩ := hr
      have hS : (s.heap.push { cls := .type "set", dict := none, data := .set #[] 0 (.fresh 0 0 (!w.params.followText "set-order")) }).get? s.heap.objs.size = some { cls := .type "set", dict := none, data := .set #[] 0 (.fresh 0 0 (!w.params.followText "set-order")) } := Heap.get?_push_size _ rfl
      have hT : Shared.TypeIs { s with heap := s.heap.push { cls := .type "set", dict := none, data := .set #[] 0 (.fresh 0 0 (!w.params.followText "set-order")) } } (.ref s.heap.objs.size) "set" := ⟨_, hS, rfl⟩
      have n1 := PySem.F.called_set.init.lookup
      have n2 := PySem.F.called_set.init.bind (.ref s.heap.objs.size)
      repeat (any_goals (first | assumption | wp_step))
      refine codeAny_mono (codeAny_call_builtin (R := wants (fun r s₂ => r = .none ∧ ∃ hp tk, s₂ = { s with heap := hp, toks := tk } ∧
          TxtSet w hp s.heap.objs.size (foldL xs xs.length) ∧ (∀ b o, b < s.heap.objs.size → s.heap.get? b = some o → hp.get? b = some o)) E) PySem.F.called_set.init.plain PySem.F.entry_set_init (check_set_init_1 hT ?_)) fun r₂ s₂ hr₂ => ?_
      · obtain ⟨ol, hol, hcl, nl, hdl⟩ := hl
        obtain ⟨ocls, odict, odata, oslots⟩ := ol
        simp only at hcl hdl
        subst hcl; subst hdl
        have hol' : (s.heap.push { cls := .type "set", dict := none, data := .set #[] 0 (.fresh 0 0 (!w.params.followText "set-order")) }).get? l = some { cls := .type "tuple", dict := odict, data := .seq items nl, slots := oslots } := Heap.get?_push_of_some _ hol
        have k1 := PySem.F.sub_tuple_set
        have k2 := PySem.F.sub_tuple_frozenset
        have k3 : (Value.type "tuple" == Value.type "dict") = false := by decide
        have hl1 : (s.heap.push { cls := .type "set", dict := none, data := .set #[] 0 (.fresh 0 0 (!w.params.followText "set-order")) }).IsTuple l items := ⟨_, hol', rfl, nl, rfl⟩
        unfold Builtin.«set.__init__» noKeywords Builtin.Frozenset.updateFrom
        generalize hPI : pyIter = PI
        wp_walk
        subst hPI
        refine wpAny_pyIter_tuple (s := { s with heap := s.heap.push { cls := .type "set", dict := none, data := .set #[] 0 (.fresh 0 0 (!w.params.followText "set-order")) } }) hl1 ?_
        refine wpAny_bind (wpAny_runValue ?_)
        have hlS : l < s.heap.objs.size := Heap.lt_size hol
        have hh3 : A.in1.in1.in1.handled = none := by simp [hh]
        have hz1 : (s.heap.push { cls := .type "set", dict := none, data := .set #[] 0 (.fresh 0 0 (!w.params.followText "set-order")) }).objs.size = s.heap.objs.size + 1 := Heap.size_push ..
        have hneI : l ≠ (s.heap.push { cls := .type "set", dict := none, data := .set #[] 0 (.fresh 0 0 (!w.params.followText "set-order")) }).objs.size := by rw [hz1]; exact Nat.ne_of_lt (Nat.lt_succ_of_lt hlS)
        have hSf : s.heap.objs.size ∉ [(s.heap.push { cls := .type "set", dict := none, data := .set #[] 0 (.fresh 0 0 (!w.params.followText "set-order")) }).objs.size, l] := by
          rw [hz1]
          simp only [List.mem_cons, List.not_mem_nil, or_false, not_or]
          exact ⟨Nat.ne_of_lt (Nat.lt_succ_self _), Nat.ne_of_gt hlS⟩
        have hval : ∀ (i : Nat) (v : Value), items[i]? = some v → ∃ y t, xs[i]? = some y ∧ v = .str y t := fun i v hv => by
          obtain ⟨y, t, e1, e2⟩ := hi.item i v (by rw [Array.getElem?_toList]; exact hv)
          exact ⟨y, t, e2, e1⟩
        refine txt_loop ((Walks.tuple hh3 _ l hneI items).toS) s.heap.objs.size hSf xs sz.symm hval hb (items.size - 0) 0 _ (by omega) (Nat.zero_le _)
          ⟨⟨_, Heap.get?_push_size _ rfl, rfl, rfl⟩, (hl1.push _)⟩ (txt_fresh (Heap.get?_push_of_some _ hS)) fun s' hm hS' => ?_
        obtain ⟨hp, g', d', tk', os'⟩ := s'
        have eg : g' = s.gens := hm.gens
        have ed : d' = s.drawn := hm.drawn
        have eo : os' = s.os := hm.os
        subst eg; subst ed; subst eo
        show wpAny _ _ _ _ _ _
        refine wpAny_pure ?_
        show wpAny _ _ (ret Value.none) _ _ _
        refine wpAny_pure ⟨rfl, hp, tk', rfl, hS', fun b o hlt e => ?_⟩
        refine hm.heap b o ?_ (Heap.get?_push_of_some _ (Heap.get?_push_of_some _ e))
        rw [hz1]
        simp only [List.mem_cons, List.not_mem_nil, or_false, not_or]
        exact ⟨Nat.ne_of_lt hlt, Nat.ne_of_lt (Nat.lt_succ_of_lt hlt)⟩
      · cases r₂ with
        | error e => exact hr₂
        | ok fl₂ =>
          cases fl₂ with
          | ret r =>
            obtain ⟨rfl, hp, tk, rfl, hS', hk'⟩ := hr₂
            repeat (any_goals (first | assumption | wp_step))
            exact q _ _ hS' hk'
          | _ => exact hr₂.elim
    | _ => exact hr.elim
end
end MP
/-! MP: a set of texts, counted, sorted. -/
namespace MP
open PySem PySem.Spec PyProof.Rows L2 TL
section
variable {P : Program} {w : World} {A : Around} {E : Value → Shared → Prop} {s : Shared} {a : Addr} {L : List PySem.Str}
theorem strs_of_vals : ∀ (l : List Value), (∀ v ∈ l, ∃ k tk, v = Value.str k tk) → StrsAre l (l.map fun v => txtOf (0, v))
  | [], _ => .nil
  | v :: l, h => by
    obtain ⟨k, tk, rfl⟩ := h v List.mem_cons_self
    exact .cons k tk (strs_of_vals l fun u hu => h u (List.mem_cons_of_mem _ hu))
theorem sorted_txt {Q : Value → Shared → Prop} (R : TxtSet w s.heap a L) (hh : A.handled = none)
    (hQ : ∀ s' p (out : Array Value) (c : Nat) (ss : List PySem.Str), (∀ b o, s.heap.get? b = some o → s'.heap.get? b = some o) → s'.gens = s.gens → s'.os = s.os → s.heap.objs.size ≤ p →
      s'.heap.get? p = some (seqObj "list" out c) → StrsAre out.toList ss → ss.Perm L → sortedS ss = true → Q (.ref p) s') :
    wpAny (model P w) A (call (.builtin "sorted") [.ref a]) Q E s := by
  obtain ⟨o, es, ep, t, ho, hex, hd, g, pm, nd, hb, hf, hr, hl⟩ := R
  have hlen : es.toList.length = L.length := by rw [← pm.length_eq, List.length_map]
  refine Calls.call_function_entry kind_sorted plain_sorted entry_sorted (args_sorted1 _) ?_
  unfold Builtin.«sorted»
  refine wpAny_bind (m := checkCount "sorted" 1 1 _) (wpAny_pure ?_)
  refine wpAny_bind (collect_set (A := A.in1) hh ⟨o, ho, hex.1, hd⟩ hf hb hr hl fun s1 vs k1 hz g1 o1 pv => ?_)
  have hvl : vs.length ≤ sizeLine := by
    rw [pv.length_eq, List.length_map, Array.length_toList]
    exact fits_of_scanBound hb
  have hS : StrsAre vs (vs.map fun v => txtOf (0, v)) := strs_of_vals vs fun v hv => by
    obtain ⟨e, he, q⟩ := List.mem_map.mp (pv.mem_iff.mp hv)
    obtain ⟨k, tk, h1, _⟩ := g e he
    exact ⟨k, tk, by rw [← q]; exact h1⟩
  have pk : (vs.map fun v => txtOf (0, v)).Perm L := by
    have q := pv.map fun v => txtOf (0, v)
    rw [List.map_map] at q
    exact q.trans pm
  refine wpAny_bind (wpAny_newList ?_ hvl)
  have hoL : (s1.heap.push (seqObj "list" vs.toArray 0)).get? s1.heap.objs.size = some (seqObj "list" vs.toArray 0) := Heap.get?_push_size _ rfl
  refine wpAny_bind (wpAny_holding (wpAny_call_entry slot_list_sort ⟨_, hoL, rfl⟩ entry_list_sort
    (list_sort_treeKAny strKind_oneLt hoL hS.keysOf (fun v₁ v₂ rest e => keyKind_strs (by rw [← e]; exact hS)) hvl fun st' a1 a2 => ⟨_, rfl, ?_⟩) (args_list_sort _)))
  obtain ⟨ss, b1, b2, b3⟩ := sorted_out_str hS a1 a2
  obtain ⟨c, hc⟩ := sortedHeap_at (vs := vs) (out := (arrOf st').map (·.2)) hoL
  refine wpAny_pure ⟨_, rfl, hQ _ s1.heap.objs.size _ c ss (fun b u e => ?_) g1 o1 hz hc b1 (b2.trans pk) b3⟩
  have q := k1 b u e
  have hlt := Heap.lt_size q
  show (sortedHeap (s1.heap.push (seqObj "list" vs.toArray 0)) s1.heap.objs.size vs _).get? b = some u
  rw [sortedHeap_old (Nat.ne_of_lt hlt) (by rw [size_push']; exact Nat.lt_succ_of_lt hlt)]
  exact Heap.get?_push_of_some _ q
end
/-! ### ascending lists of texts -/
theorem ltL_irrefl (a : List Nat) : ¬ a < a := List.lt_irrefl a
theorem insS_mem {x y : List Nat} : ∀ {l : List (List Nat)}, y ∈ insS x l ↔ y = x ∨ y ∈ l
  | [] => by simp [insS]
  | z :: r => by
    unfold insS
    split
    · simp
    · split
      · rw [List.mem_cons, insS_mem (l := r), List.mem_cons]
        exact ⟨fun h => by rcases h with h | h | h <;> simp [h], fun h => by rcases h with h | h | h <;> simp [h]⟩
      · rename_i h1 h2
        have e : x = z := List.le_antisymm (List.not_lt.mp h2) (List.not_lt.mp h1)
        subst e
        simp
theorem insS_asc {x : List Nat} : ∀ {l : List (List Nat)}, l.Pairwise (· < ·) → (insS x l).Pairwise (· < ·)
  | [], _ => by simp [insS]
  | z :: r, h => by
    rw [List.pairwise_cons] at h
    unfold insS
    split
    · rename_i hx
      rw [List.pairwise_cons, List.pairwise_cons]
      exact ⟨fun y hy => by
        rcases List.mem_cons.mp hy with e | e
        · rw [e]; exact hx
        · exact List.lt_trans hx (h.1 y e), h⟩
    · split
      · rename_i hz
        rw [List.pairwise_cons]
        exact ⟨fun y hy => by
          rcases insS_mem.mp hy with e | e
          · rw [e]; exact hz
          · exact h.1 y e, insS_asc h.2⟩
      · rw [List.pairwise_cons]; exact h
theorem setS_asc : ∀ (l : List (List Nat)), (setS l).Pairwise (· < ·)
  | [] => List.Pairwise.nil
  | x :: l => insS_asc (setS_asc l)
theorem setS_mem {y : List Nat} : ∀ {l : List (List Nat)}, y ∈ setS l ↔ y ∈ l
  | [] => by simp [setS]
  | x :: l => by
    show y ∈ insS x (setS l) ↔ _
    rw [insS_mem, setS_mem (l := l), List.mem_cons]
theorem asc_uniq : ∀ {l m : List (List Nat)}, l.Pairwise (· < ·) → m.Pairwise (· < ·) → (∀ y, y ∈ l ↔ y ∈ m) → l = m
  | [], [], _, _, _ => rfl
  | [], y :: m, _, _, h => absurd ((h y).mpr List.mem_cons_self) (by simp)
  | x :: l, [], _, _, h => absurd ((h x).mp List.mem_cons_self) (by simp)
  | x :: l, y :: m, hl, hm, h => by
    rw [List.pairwise_cons] at hl hm
    have e : x = y := by
      rcases List.mem_cons.mp ((h x).mp List.mem_cons_self) with e | e
      · exact e
      · rcases List.mem_cons.mp ((h y).mpr List.mem_cons_self) with f | f
        · exact f.symm
        · exact absurd (List.lt_trans (hm.1 x e) (hl.1 y f)) (ltL_irrefl y)
    subst e
    congr 1
    refine asc_uniq hl.2 hm.2 fun z => ⟨fun hz => ?_, fun hz => ?_⟩
    · rcases List.mem_cons.mp ((h z).mp (List.mem_cons_of_mem _ hz)) with e | e
      · subst e; exact absurd (hl.1 z hz) (ltL_irrefl z)
      · exact e
    · rcases List.mem_cons.mp ((h z).mpr (List.mem_cons_of_mem _ hz)) with e | e
      · subst e; exact absurd (hm.1 z hz) (ltL_irrefl z)
      · exact e
end MP
/-! MP: sorted of pairs of texts. -/
namespace MP
open PySem PySem.Spec PyProof.Rows L2 TL
abbrev P2 := List Nat × List Nat
theorem triL (a b : List Nat) : a < b ∨ a = b ∨ b < a := by
  by_cases h1 : a < b
  · exact .inl h1
  · by_cases h2 : b < a
    · exact .inr (.inr h2)
    · exact .inr (.inl (List.le_antisymm (List.not_lt.mp h2) (List.not_lt.mp h1)))
theorem ltPr_iff {p q : P2} : ltPr p q = true ↔ p.1 < q.1 ∨ (p.1 = q.1 ∧ p.2 < q.2) := by
  unfold ltPr
  rw [Bool.or_eq_true, Bool.and_eq_true, decide_eq_true_eq, decide_eq_true_eq, decide_eq_true_eq]
theorem ltPr_asym {p q : P2} (h : ltPr p q = true) : ltPr q p = false := by
  cases hq : ltPr q p with
  | false => rfl
  | true =>
    exfalso
    rcases ltPr_iff.mp h with a | ⟨a, b⟩
    · rcases ltPr_iff.mp hq with c | ⟨c, _⟩
      · exact ltL_irrefl _ (List.lt_trans a c)
      · rw [c] at a; exact ltL_irrefl _ a
    · rcases ltPr_iff.mp hq with c | ⟨_, d⟩
      · rw [a] at c; exact ltL_irrefl _ c
      · exact ltL_irrefl _ (List.lt_trans b d)
theorem ltPr_tri (p q : P2) : ltPr p q = true ∨ p = q ∨ ltPr q p = true := by
  rcases triL p.1 q.1 with h | h | h
  · exact .inl (ltPr_iff.mpr (.inl h))
  · rcases triL p.2 q.2 with g | g | g
    · exact .inl (ltPr_iff.mpr (.inr ⟨h, g⟩))
    · exact .inr (.inl (Prod.ext h g))
    · exact .inr (.inr (ltPr_iff.mpr (.inr ⟨h.symm, g⟩)))
  · exact .inr (.inr (ltPr_iff.mpr (.inl h)))
theorem ltPr_trans {p q r : P2} (h1 : ltPr p q = true) (h2 : ltPr q r = true) : ltPr p r = true := by
  rcases ltPr_iff.mp h1 with a | ⟨a, b⟩
  · rcases ltPr_iff.mp h2 with c | ⟨c, _⟩
    · exact ltPr_iff.mpr (.inl (List.lt_trans a c))
    · exact ltPr_iff.mpr (.inl (c ▸ a))
  · rcases ltPr_iff.mp h2 with c | ⟨c, d⟩
    · exact ltPr_iff.mpr (.inl (a ▸ c))
    · exact ltPr_iff.mpr (.inr ⟨a.trans c, List.lt_trans b d⟩)
theorem ltPr_neg {p q r : P2} (h1 : ltPr q p = false) (h2 : ltPr r q = false) : ltPr r p = false := by
  cases h : ltPr r p with
  | false => rfl
  | true =>
    exfalso
    rcases ltPr_tri p q with a | a | a
    · rw [ltPr_trans h a] at h2; cases h2
    · subst a; rw [h] at h2; cases h2
    · rw [a] at h1; cases h1
theorem swo_pr {α : Type} (k : α → P2) : SrtO.Swo fun v u => ltPr (k v) (k u) := ⟨fun _ _ h => ltPr_asym h, fun _ _ _ h1 h2 => ltPr_neg h1 h2⟩
/-- ascending, equal ones beside one another -/
def ascP (l : List P2) : Prop := l.Pairwise fun p q => ltPr q p = false
theorem insP_perm (p : P2) : ∀ l : List P2, (insP p l).Perm (p :: l)
  | [] => List.Perm.refl _
  | q :: r => by
    unfold insP
    split
    · exact ((insP_perm p r).cons q).trans (List.Perm.swap p q r)
    · exact List.Perm.refl _
theorem insP_asc {p : P2} : ∀ {l : List P2}, ascP l → ascP (insP p l)
  | [], _ => by unfold insP ascP; simp
  | q :: r, h => by
    unfold ascP at h ⊢
    rw [List.pairwise_cons] at h
    unfold insP
    split
    · rename_i hq
      rw [List.pairwise_cons]
      refine ⟨fun y hy => ?_, insP_asc h.2⟩
      rcases List.mem_cons.mp ((insP_perm p r).mem_iff.mp hy) with e | e
      · rw [e]; exact ltPr_asym hq
      · exact h.1 y e
    · rename_i hq
      have hq' : ltPr q p = false := by simpa using hq
      rw [List.pairwise_cons, List.pairwise_cons]
      refine ⟨fun y hy => ?_, h⟩
      rcases List.mem_cons.mp hy with e | e
      · rw [e]; exact hq'
      · exact ltPr_neg hq' (h.1 y e)
theorem sortP_perm : ∀ l : List P2, (sortP l).Perm l
  | [] => List.Perm.refl _
  | p :: l => (insP_perm p (sortP l)).trans ((sortP_perm l).cons p)
theorem sortP_asc : ∀ l : List P2, ascP (sortP l)
  | [] => List.Pairwise.nil
  | p :: l => insP_asc (sortP_asc l)
theorem ascP_uniq : ∀ {l m : List P2}, ascP l → ascP m → l.Perm m → l = m
  | [], m, _, _, h => (List.Perm.nil_eq h)
  | p :: l, [], _, _, h => absurd h.length_eq (by simp)
  | p :: l, q :: m, hl, hm, h => by
    unfold ascP at hl hm
    rw [List.pairwise_cons] at hl hm
    have e : p = q := by
      rcases List.mem_cons.mp (h.mem_iff.mp List.mem_cons_self) with e | e
      · exact e
      · rcases List.mem_cons.mp (h.mem_iff.mpr List.mem_cons_self) with f | f
        · exact f.symm
        · have a := hm.1 p e
          have b := hl.1 q f
          rcases ltPr_tri p q with c | c | c
          · rw [c] at a; cases a
          · exact c
          · rw [c] at b; cases b
    subst e
    rw [ascP_uniq hl.2 hm.2 h.cons_inv]
/-! ### pairs in the heap -/
def PairS (h : Heap) (v : Value) (k : PySem.Str × PySem.Str) : Prop := ∃ a o t u n, v = .ref a ∧ h.get? a = some o ∧ o.cls = .type "tuple" ∧ o.data = .seq #[.str k.1 t, .str k.2 u] n
theorem PairS.keeps {h h' : Heap} {v : Value} {k : PySem.Str × PySem.Str} (p : PairS h v k) (f : ∀ b o, h.get? b = some o → o.cls = .type "tuple" → h'.get? b = some o) : PairS h' v k := by
  obtain ⟨a, o, t, u, n, e, ho, hc, hd⟩ := p
  exact ⟨a, o, t, u, n, e, f _ _ ho hc, hc, hd⟩
def keyP (k : PySem.Str × PySem.Str) : P2 := (k.1.cps.toList, k.2.cps.toList)
section
variable {prog : Program} {w : World} {A : Around} {E : Value → Shared → Prop} {s : Shared}
theorem firstsS {h : Heap} : ∀ {vs : List Value}, (∀ v ∈ vs, ∃ k, PairS h v k) → ∃ fs : List Value, PySem.W.KatTups h vs fs ∧ fs.length = vs.length ∧ ∀ f ∈ fs, ∃ x t, f = Value.str x t
  | [], _ => ⟨[], PySem.W.KatTups.nil, rfl, fun _ hm => by simp at hm⟩
  | v :: vs, hp => by
    obtain ⟨fs, h1, h2, h3⟩ := firstsS (vs := vs) fun v' hm => hp v' (List.mem_cons_of_mem _ hm)
    obtain ⟨k, a, o, t, u, n, e, ho, hc, hd⟩ := hp v List.mem_cons_self
    subst e
    refine ⟨.str k.1 t :: fs, PySem.W.KatTups.cons ho hc hd rfl h1, by rw [List.length_cons, List.length_cons, h2], fun f hm => ?_⟩
    rcases List.mem_cons.mp hm with e | hm
    · exact ⟨k.1, t, e⟩
    · exact h3 f hm
theorem cmpS {vs : List Value} {k : Value → PySem.Str × PySem.Str} (hp : ∀ v ∈ vs, PairS s.heap v (k v)) : SrtO.Cmp prog w A s (tuples' true) (fun p => p.1 ∈ vs) (SrtO.lt2 fun v u => ltPr (keyP (k v)) (keyP (k u))) := by
  intro p q hm hm'
  have h1 := hp _ hm
  have h2 := hp _ hm'
  show wpAny (model prog w) A (keyLt' (tuples' true) p.1 q.1) (fun r s' => s' = s ∧ r = ltPr (keyP (k p.1)) (keyP (k q.1))) (fun _ _ => False) s
  generalize k p.1 = x at h1 ⊢
  generalize k q.1 = y at h2 ⊢
  obtain ⟨x1, x2⟩ := x
  obtain ⟨y1, y2⟩ := y
  obtain ⟨a, o, t, u, n, e, ho, hc, hd⟩ := h1
  obtain ⟨b, o', t', u', n', e', ho', hc', hd'⟩ := h2
  rw [e, e']
  refine PySem.W.kat_lt ho hd ho' hd' ?_
  show PySem.W.KatLex prog w A true (decide (2 < 2)) _ [(.str x1 t, .str y1 t'), (.str x2 u, .str y2 u')] 0 s
  refine PySem.W.kat_cons (SeqAt.EqAt.str_str x1 t y1 t' prog w _ _ (PySem.W.kat_go (fun e1 => ?_) (fun e1 => ?_)))
  · have ex : x1 = y1 := by simpa using e1
    subst ex
    refine PySem.W.kat_yes (PySem.W.kat_cons (SeqAt.EqAt.str_str x2 u y2 u' prog w _ _ (PySem.W.kat_go (fun e2 => ?_) (fun e2 => ?_))))
    · have ey : x2 = y2 := by simpa using e2
      subst ey
      refine PySem.W.kat_yes (PySem.W.kat_nil ⟨rfl, ?_⟩)
      cases hh : ltPr (keyP (x1, x2)) (keyP (x1, x2)) with
      | false => rfl
      | true => have := ltPr_asym hh; rw [hh] at this; cases this
    · refine PySem.W.kat_no (PySem.W.kat_one _ _ (PyProof.Rows.lt_str ?_))
      refine (show s = s ∧ decide (x2.cps.toList < y2.cps.toList) = ltPr (keyP (x1, x2)) (keyP (x1, y2)) from ⟨rfl, ?_⟩)
      have z : decide (x1.cps.toList < x1.cps.toList) = false := decide_eq_false (ltL_irrefl _)
      show decide (x2.cps.toList < y2.cps.toList) = (decide (x1.cps.toList < x1.cps.toList) || (decide (x1.cps.toList = x1.cps.toList) && decide (x2.cps.toList < y2.cps.toList)))
      rw [z, decide_eq_true rfl, Bool.true_and, Bool.false_or]
  · have ex : ¬ x1 = y1 := by simpa using e1
    refine PySem.W.kat_no (oneLt_str ⟨rfl, ?_⟩)
    have ne : ¬ x1.cps.toList = y1.cps.toList := fun z => ex (by rw [← toS_cps x1, ← toS_cps y1, z])
    unfold ltPr keyP
    simp [ne]
theorem sorted_pairsS {l : Addr} {vs : List Value} {k : Value → PySem.Str × PySem.Str} {Q : Value → Shared → Prop} (hl : s.heap.IsList l vs.toArray) (hz : vs.length ≤ sizeLine) (hp : ∀ v ∈ vs, PairS s.heap v (k v))
    (h : ∀ (h' : Heap) (d : Addr) (out : List Value), out.Perm vs → ascP (out.map fun v => keyP (k v)) → (∀ b o, s.heap.get? b = some o → h'.get? b = some o) → s.heap.objs.size ≤ d → (∃ n, h'.get? d = some (seqObj "list" out.toArray n)) → Q (.ref d) { s with heap := h' }) :
    wpAny (model prog w) A (call (.builtin "sorted") [.ref l]) Q E s := by
  refine SrtO.sorted_ord (swo_pr fun v => keyP (k v)) hl hz (fun h2 h₁ a ha kk => ?_) fun out hs hb => ?_
  · intro h' keep
    have hp' : ∀ v ∈ vs, PairS h' v (k v) := fun v hm => (hp v hm).keeps fun b o e _ => keep b o (kk b o e).1 (kk b o e).2
    obtain ⟨fs, f1, f2, f3⟩ := firstsS fun v hm => ⟨_, hp' v hm⟩
    refine ⟨tuples' true, fun Q E hq => ?_, cmpS hp'⟩
    refine PySem.W.kat_kind (T := .type "str") f1 (by omega) (fun f hm => ?_) (by rfl) ?_
    · obtain ⟨x, t, rfl⟩ := f3 f hm
      exact PySem.W.Looks.now
    · have e : (Value.type "str" != Value.type "tuple") = true := by first | decide +kernel | rfl | decide
      rw [e]
      exact hq
  · refine h _ _ out hb.perm ?_ (fun b o e => sortedAll_old e) (Nat.le_succ _) (sortedAll_at s.heap vs out.toArray)
    unfold ascP
    rw [List.pairwise_map]
    exact hs
end
end MP
/-! MP: sets of texts, sorted, slices that turn a list round. -/
namespace MP
open PySem PySem.Spec PyProof.Rows L2 TL
section
variable {X : Cx} {S : Sit} {a b c e : Expr} {pos p : Pos} {fa fb fc : Loc → Sto → Out W} {x : PySem.Str} {id : String}
theorem s_rev (hK : X.K = S.M.K) {k : Nat} {p1 p2 p3 : Pos} (ha : PE X a (rd S (RR S.M) fa)) :
    PE X (.Subscript a (.Slice none none (some (.UnaryOp .USub (.Constant (.int 1) k p1) p2)) p3) pos) (rd S (RB S.M) fun ρ φ => (fa ρ φ).bind fun x φ1 => .ofO (opRev x) φ1) := PEimp (pe_revL ha) fun σ H Q ⟨G, ρ, φ, s, l, q⟩ => by
  rw [Out.holds_bind] at q
  refine ⟨G, ρ, φ, s, l, Out.holds_mono q (fun x φ1 q1 G1 H1 v1 e1 s1 r1 => ?_) fun _ _ z => z⟩
  obtain ⟨w, hw, p⟩ := holds_ofO q1
  cases x <;> simp only [opRev, reduceCtorEq, Option.some.injEq] at hw
  subst hw
  obtain ⟨adr, vs, rfl, hq, r⟩ := RR.lst s1 r1
  exact ⟨adr, vs, rfl, by rw [hK]; exact hq.sq, fun p' hp => post_lst s1 hp r.reverse (p.extB e1)⟩
/-! ### sets -/
theorem seq_str {M : Md} {G : Fz} {H0 H : Hp} {φ : Sto} {v : V} {w : W} {ws : List W} {xs : List (List Nat)} (s : StoOk M G φ H) (r : RR M G H0 H v w) (h1 : seqOf w = some ws) (h2 : strsOf ws = some xs) :
    ∃ l, v = .ref l ∧ (SqL M.K H l ((xs.map toS).map V.str) ∨ SqT M.K H l ((xs.map toS).map V.str)) := by
  cases w <;> simp only [seqOf, reduceCtorEq, Option.some.injEq] at h1
  · subst h1
    obtain ⟨adr, vs, rfl, hq, rr, _⟩ := r.tup s
    have e := strs_rep h2 rr
    subst e
    exact ⟨adr, rfl, .inr hq⟩
  · subst h1
    obtain ⟨adr, vs, rfl, hq, rr⟩ := r.lst s
    have e := strs_rep h2 rr
    subst e
    exact ⟨adr, rfl, .inl hq.sq⟩
theorem strsAreV : ∀ {ys : List PySem.Str} {us : List Value}, Vals (ys.map V.str) us → StrsAre us ys
  | [], _, .nil => .nil
  | y :: ys, _, .cons r t => by
    obtain ⟨k, rfl⟩ := r
    exact .cons y k (strsAreV t)
/-- set(xs) at a state -/
theorem set_made {pins : List (Addr × Obj)} {σ : L2.St} {H : Hp} {s : Shared} {l : Addr} {xs : List PySem.Str} {Q : Value → Shared → Prop} (hc : X.calm = true) (I : Inv X pins σ H s) (hq : SqL X.K H l (xs.map V.str) ∨ SqT X.K H l (xs.map V.str)) (hb : xs.length + 1 < scanBound)
    (q : ∀ (hp : Heap) (tk : Nat), TxtSet X.w hp s.heap.objs.size (foldL xs xs.length) → Inv X pins σ H { s with heap := hp, toks := tk } → Q (.ref s.heap.objs.size) { s with heap := hp, toks := tk }) :
    wpAny (model X.prog X.w) X.A (call (.type "set") [.ref l]) Q X.xe s := by
  rcases hq with hq | hq
  · obtain ⟨its, r, pl, hz⟩ := I.list hq
    exact set_of_list (I.ok.hd hc) pl.isList (by simpa using strsAreV r) hb fun hp tk R hk => q hp tk R (I.kept fun b o e => hk b o (Heap.lt_size e) e)
  · obtain ⟨its, r, pl, hz⟩ := I.tuple hq
    exact set_of_tuple (I.ok.hd hc) pl (by simpa using strsAreV r) hb fun hp tk R hk => q hp tk R (I.kept fun b o e => hk b o (Heap.lt_size e) e)
theorem foldl_mem {y : PySem.Str} : ∀ {xs acc : List PySem.Str}, y ∈ xs.foldl addL acc ↔ y ∈ acc ∨ y ∈ xs
  | [], acc => by simp
  | x :: xs, acc => by
    rw [List.foldl_cons, foldl_mem (xs := xs)]
    unfold addL
    split
    · rename_i h
      rw [List.mem_cons]
      exact ⟨fun q => by rcases q with q | q <;> simp [q], fun q => by rcases q with q | q | q <;> simp [q, h]⟩
    · rw [List.mem_append, List.mem_singleton, List.mem_cons]
      exact ⟨fun q => by rcases q with (q | q) | q <;> simp [q], fun q => by rcases q with q | q | q <;> simp [q]⟩
theorem foldl_nodup : ∀ {xs acc : List PySem.Str}, acc.Nodup → (xs.foldl addL acc).Nodup
  | [], acc, h => h
  | x :: xs, acc, h => by
    rw [List.foldl_cons]
    refine foldl_nodup ?_
    unfold addL
    split
    · exact h
    · rename_i hx
      exact (List.perm_append_singleton x acc).nodup_iff.mpr (List.nodup_cons.mpr ⟨hx, h⟩)
theorem foldL_all (xs : List PySem.Str) : foldL xs xs.length = xs.foldl addL [] := by unfold foldL; rw [List.take_length]
def cpl (x : PySem.Str) : List Nat := x.cps.toList
theorem cpl_toS (s : List Nat) : cpl (toS s) = s := by simp [cpl, toS]
theorem toS_cpl (x : PySem.Str) : toS (cpl x) = x := toS_cps x
theorem cpl_nodup {L : List PySem.Str} (h : L.Nodup) : (L.map cpl).Nodup := by
  unfold List.Nodup at h ⊢
  rw [List.pairwise_map]
  exact h.imp fun {x y} hn e => hn (by rw [← toS_cpl x, ← toS_cpl y, e])
/-- a permutation of the set's texts, ascending, is setS -/
theorem sorted_is {xs : List (List Nat)} {ss : List PySem.Str} (hp : ss.Perm (foldL (xs.map toS) (xs.map toS).length)) (hs : sortedS ss = true) : ss = (setS xs).map toS := by
  rw [foldL_all] at hp
  have nd : (ss.map cpl).Nodup := cpl_nodup (hp.nodup_iff.mpr (foldl_nodup List.nodup_nil))
  have asc : (ss.map cpl).Pairwise (· < ·) := by
    have key : ∀ (l : List PySem.Str), sortedS l = true → (l.map cpl).Nodup → (l.map cpl).Pairwise (· < ·) := by
      intro l
      have rise : ∀ (l : List PySem.Str) (p : PySem.Str), risingS p l = true → ((p :: l).map cpl).Nodup → ((p :: l).map cpl).Pairwise (· < ·) := by
        intro l
        induction l with
        | nil => intro p _ _; simp
        | cons x r ih =>
          intro p h1 h2
          have h1' : (!ltCps x.cps.toList p.cps.toList && risingS x r) = true := h1
          rw [Bool.and_eq_true, Bool.not_eq_true', ltCps_eq] at h1'
          have hxp : ¬ cpl x < cpl p := of_decide_eq_false h1'.1
          rw [List.map_cons, List.nodup_cons] at h2
          have a := ih x h1'.2 h2.2
          have hne : cpl p ≠ cpl x := fun e => h2.1 (by rw [e]; simp)
          have hpx : cpl p < cpl x := Decidable.byContradiction fun hn => hne (List.le_antisymm (List.not_lt.mp hxp) (List.not_lt.mp hn))
          rw [List.map_cons, List.pairwise_cons]
          refine ⟨fun y hy => ?_, a⟩
          rw [List.map_cons] at hy
          rcases List.mem_cons.mp hy with e | e
          · rw [e]; exact hpx
          · rw [List.map_cons, List.pairwise_cons] at a
            exact List.lt_trans hpx (a.1 y e)
      cases l with
      | nil => intro _ _; simp
      | cons x r => exact rise r x
    exact key ss hs nd
  have e : ss.map cpl = setS xs := asc_uniq asc (setS_asc xs) fun y => by
    rw [setS_mem, List.mem_map]
    constructor
    · rintro ⟨z, hz, rfl⟩
      have := foldl_mem.mp (hp.mem_iff.mp hz)
      rcases this with q | q
      · cases q
      · obtain ⟨w, hw, rfl⟩ := List.mem_map.mp q
        rw [cpl_toS]; exact hw
    · intro hy
      exact ⟨toS y, hp.mem_iff.mpr (foldl_mem.mpr (.inr (List.mem_map_of_mem hy))), cpl_toS y⟩
  rw [← e, List.map_map]
  conv => lhs; rw [← List.map_id ss]
  exact List.map_congr_left fun x _ => (toS_cpl x).symm
theorem set_len (xs : List (List Nat)) : (foldL (xs.map toS) (xs.map toS).length).length = (setS xs).length := by
  rw [foldL_all]
  have nd := cpl_nodup (foldl_nodup (xs := xs.map toS) (acc := []) List.nodup_nil)
  have nd2 : (setS xs).Nodup := (setS_asc xs).imp fun {a b} (h : a < b) (e : a = b) => ltL_irrefl b (by rw [e] at h; exact h)
  have sub1 : ∀ y, y ∈ ((xs.map toS).foldl addL []).map cpl ↔ y ∈ setS xs := fun y => by
    rw [setS_mem, List.mem_map]
    constructor
    · rintro ⟨z, hz, rfl⟩
      rcases foldl_mem.mp hz with q | q
      · cases q
      · obtain ⟨w, hw, rfl⟩ := List.mem_map.mp q
        rw [cpl_toS]; exact hw
    · intro hy
      exact ⟨toS y, foldl_mem.mpr (.inr (List.mem_map_of_mem hy)), cpl_toS y⟩
  have := (List.perm_ext_iff_of_nodup nd nd2).mpr sub1
  rw [← this.length_eq, List.length_map]
theorem s_lset (hK : X.K = S.M.K) (hc : X.calm = true) {p2 q : Pos} (hg : Gl X "len") (hm : X.mg "len" = none) (hg2 : Gl X "set") (hm2 : X.mg "set" = none) (ha : PE X a (rd S (RR S.M) fa)) (na : starEach [a] X.env = (false, eval a X.env) :: starEach [] X.env) :
    PE X (.Call (.Name "len" p) [.Call (.Name "set" p2) [a] [] q] [] pos) (rd S (RV S.M) fun ρ φ => (fa ρ φ).bind fun x φ1 => .ofO (opLset x) φ1) := by
  refine ⟨fun pins s σ H Q I ⟨G, ρ, φ, st, l, h⟩ => ?_⟩
  rw [Out.holds_bind] at h
  refine Call_ (ld_blt I hg hm boot_len ?_)
  refine PyProof.Rows.callWith_builtin1 (PyProof.Rows.args_cons ?_ rfl) rfl rfl
  refine Call_ (ld_blt I hg2 hm2 boot_set ?_)
  refine PyProof.Rows.callWith_type1 (PyProof.Rows.args_cons (thn (ha.run pins s σ H (fun v1 H1 => ∃ ad xs, v1 = .ref ad ∧ (SqL X.K H1 ad ((xs.map toS).map V.str) ∨ SqT X.K H1 ad ((xs.map toS).map V.str)) ∧ xs.length < 4000 ∧ Q (.int (setS xs).length) H1) I
    ⟨G, ρ, φ, st, l, Out.holds_mono h (fun x φ1 q1 G1 H1 v1 e1 s1 r1 => ?_) fun _ _ z => z⟩) fun v s1 ⟨x, H1, I1, r1, q1⟩ => PyProof.Rows.args_nil ?_) na) na rfl
  · obtain ⟨w, hw, pp⟩ := holds_ofO q1
    unfold opLset at hw
    obtain ⟨xs, hxs, hw⟩ := Option.bind_eq_some_iff.mp hw
    obtain ⟨ws, hws, hxs⟩ := Option.bind_eq_some_iff.mp hxs
    split at hw
    · rename_i hlt
      cases hw
      obtain ⟨ad, rfl, hq⟩ := seq_str s1 r1 hws hxs
      exact ⟨ad, xs, rfl, by rw [hK]; exact hq, hlt, pp G1 H1 _ e1 s1 (by show Rep S.M G1 _ (.int _); simp only [Rep])⟩
    · cases hw
  · obtain ⟨ad, xs, rfl, hq, hlt, q1⟩ := q1
    cases r1
    refine set_made hc I1 hq (by rw [List.length_map]; unfold scanBound; omega) fun hp tk R I2 => PyProof.Rows.args_nil ?_
    obtain ⟨o, es, ep, t, ho, hex, hd, hf, hn, hb⟩ := R.len
    rw [set_len] at hn
    exact call_len_set ho hex hd hf (by unfold scanBound at hb; omega) ⟨.int (setS xs).length, H1, I2.tok _, ⟨_, by rw [hn]⟩, q1⟩
theorem s_sortS (hK : X.K = S.M.K) (hc : X.calm = true) {p2 q : Pos} (hg : Gl X "sorted") (hm : X.mg "sorted" = none) (hg2 : Gl X "set") (hm2 : X.mg "set" = none) (ha : PE X a (rd S (RR S.M) fa)) (na : starEach [a] X.env = (false, eval a X.env) :: starEach [] X.env) :
    PE X (.Call (.Name "sorted" p) [.Call (.Name "set" p2) [a] [] q] [] pos) (rd S (RB S.M) fun ρ φ => (fa ρ φ).bind fun x φ1 => .ofO (opSortS x) φ1) := by
  refine ⟨fun pins s σ H Q I ⟨G, ρ, φ, st, l, h⟩ => ?_⟩
  rw [Out.holds_bind] at h
  refine Call_ (ld_blt I hg hm (show bootBuiltins "sorted" = some (.builtin "sorted") by decide +kernel) ?_)
  refine PyProof.Rows.callWith_builtin1 (PyProof.Rows.args_cons ?_ rfl) rfl rfl
  refine Call_ (ld_blt I hg2 hm2 boot_set ?_)
  refine PyProof.Rows.callWith_type1 (PyProof.Rows.args_cons (thn (ha.run pins s σ H (fun v1 H1 => ∃ ad xs, v1 = .ref ad ∧ (SqL X.K H1 ad ((xs.map toS).map V.str) ∨ SqT X.K H1 ad ((xs.map toS).map V.str)) ∧ xs.length < 64 ∧ ∀ p, H1 p = none → Q (.ref p) (upd H1 p (.lst (((setS xs).map toS).map V.str)))) I
    ⟨G, ρ, φ, st, l, Out.holds_mono h (fun x φ1 q1 G1 H1 v1 e1 s1 r1 => ?_) fun _ _ z => z⟩) fun v s1 ⟨x, H1, I1, r1, q1⟩ => PyProof.Rows.args_nil ?_) na) na rfl
  · obtain ⟨w, hw, pp⟩ := holds_ofO q1
    unfold opSortS at hw
    obtain ⟨xs, hxs, hw⟩ := Option.bind_eq_some_iff.mp hw
    obtain ⟨ws, hws, hxs⟩ := Option.bind_eq_some_iff.mp hxs
    split at hw
    · rename_i hlt
      cases hw
      obtain ⟨ad, rfl, hq⟩ := seq_str s1 r1 hws hxs
      refine ⟨ad, xs, rfl, by rw [hK]; exact hq, hlt, fun p hp => post_lst s1 hp ?_ (pp.extB e1)⟩
      clear hws hxs hlt pp hq
      induction setS xs with
      | nil => trivial
      | cons y ys ih => exact ⟨by show Rep S.M G1 (.str (toS y)) (.str y); simp only [Rep], ih⟩
    · cases hw
  · obtain ⟨ad, xs, rfl, hq, hlt, q1⟩ := q1
    cases r1
    refine set_made hc I1 hq (by rw [List.length_map]; unfold scanBound; omega) fun hp tk R I2 => PyProof.Rows.args_nil ?_
    refine sorted_txt R (I1.ok.hd hc) fun s' p out c ss k g o hp2 hgp hi pm hs => ?_
    have e := sorted_is pm hs
    subst e
    have hn : H1 p = none := I2.hok.fresh hp2
    have hlen : (((setS xs).map toS).map V.str).length ≤ sizeLine := by
      rw [List.length_map, pm.length_eq]
      have := foldL_len (xs.map toS) (xs.map toS).length
      rw [List.length_map] at this
      have : (64 : Nat) ≤ sizeLine := by decide
      rw [List.length_map]
      omega
    have J := I2.call (h' := s'.heap) (g' := s'.gens) (d' := s'.drawn) (t' := s'.toks) (ch := []) (Un.laid k hp2 hn) (I2.hok.laid k hp2 (show ObjOk X.prog X.w _ _ _ (.lst (((setS xs).map toS).map V.str)) from ⟨hlen, out.toList, c, vals_of_strs hi, hgp⟩)) (by rw [g]; exact I2.bare) (fun _ z => nomatch z)
    have e2 : s' = { s1 with heap := s'.heap, gens := s'.gens, drawn := s'.drawn, toks := s'.toks } := by
      cases s'
      cases s1
      cases o
      rfl
    rw [e2]
    exact ⟨.ref p, _, J, rfl, q1 p hn⟩
/-! ### sorted of pairs of texts -/
def txtV : Value → PySem.Str
  | .str x _ => x
  | _ => PySem.Str.empty
/-- the two texts of the tuple -/
def pairAt (h : Heap) : Value → PySem.Str × PySem.Str
  | .ref a => match h.get? a with
    | some o => match o.data with
      | .seq its _ => (txtV (its.getD 0 .none), txtV (its.getD 1 .none))
      | _ => (PySem.Str.empty, PySem.Str.empty)
    | none => (PySem.Str.empty, PySem.Str.empty)
  | _ => (PySem.Str.empty, PySem.Str.empty)
theorem pairAt_of {h : Heap} {v : Value} {k : PySem.Str × PySem.Str} (p : PairS h v k) : pairAt h v = k := by
  obtain ⟨a, o, t, u, n, rfl, ho, hc, hd⟩ := p
  show (match h.get? a with
    | some o => match o.data with
      | .seq its _ => (txtV (its.getD 0 .none), txtV (its.getD 1 .none))
      | _ => (PySem.Str.empty, PySem.Str.empty)
    | none => (PySem.Str.empty, PySem.Str.empty)) = k
  rw [ho]
  show (match o.data with
      | .seq its _ => (txtV (its.getD 0 .none), txtV (its.getD 1 .none))
      | _ => (PySem.Str.empty, PySem.Str.empty)) = k
  rw [hd]
  rfl
def pairW (p : P2) : W := .tup [.str p.1, .str p.2]
theorem pairOf_some {w : W} {p : P2} (h : pairOf w = some p) : w = pairW p := by
  unfold pairOf at h
  split at h
  · cases h; rfl
  · cases h
theorem pairsOf_some : ∀ {ws : List W} {ps : List P2}, pairsOf ws = some ps → ws = ps.map pairW
  | [], ps, h => by simp only [pairsOf, Option.some.injEq] at h; subst h; rfl
  | w :: ws, ps, h => by
    unfold pairsOf at h
    obtain ⟨p, hp, h⟩ := Option.bind_eq_some_iff.mp h
    obtain ⟨qs, hq, rfl⟩ := Option.map_eq_some_iff.mp h
    rw [List.map_cons, ← pairOf_some hp, ← pairsOf_some hq]
/-- what a list of such refs is in the heap -/
theorem pairs_at {M : Md} {G : Fz} {φ : Sto} {pins : List (Addr × Obj)} {σ : L2.St} {H : Hp} {s : Shared} (hK : X.K = M.K) (I : Inv X pins σ H s) (S : StoOk M G φ H) : ∀ {vs : List V} {its : List Value} {ps : List P2}, Vals vs its → Reps M G vs (ps.map pairW) →
    vs = its.map backV ∧ its.map (fun u => keyP (pairAt s.heap u)) = ps ∧ ∀ u ∈ its, PairS s.heap u (pairAt s.heap u) ∧ Rep M G (backV u) (pairW (keyP (pairAt s.heap u)))
  | [], _, [], .nil, _ => ⟨rfl, rfl, fun _ h => by cases h⟩
  | [], _, _ :: _, .nil, h => h.elim
  | _ :: _, _, [], _, h => h.elim
  | v :: vs, u :: us, p :: ps, .cons r t, h => by
    obtain ⟨h1, h2, h3⟩ := pairs_at hK I S t h.2
    have hr : ∃ a ys, v = .ref a ∧ SqT M.K G.F a ys ∧ Reps M G ys [.str p.1, .str p.2] := by simpa only [pairW, Rep] using h.1
    obtain ⟨a, ys, rfl, hq, hy⟩ := hr
    obtain rfl : u = Value.ref a := r
    have hys : ys = [.str (toS p.1), .str (toS p.2)] := by
      match ys, hy with
      | [y1, y2], hy =>
        have e1 : y1 = .str (toS p.1) := by simpa only [Rep] using hy.1
        have e2 : y2 = .str (toS p.2) := by simpa only [Rep] using hy.2.1
        rw [e1, e2]
    subst hys
    obtain ⟨its2, rv, ⟨o, ho, hc, n, hd⟩, _⟩ := I.tuple (by rw [hK]; exact sqT_mono S.le hq)
    obtain ⟨u1, u2, rfl, ⟨t1, rfl⟩, ⟨t2, rfl⟩⟩ := vals2 rv
    have ps1 : PairS s.heap (.ref a) (toS p.1, toS p.2) := ⟨a, o, t1, t2, n, rfl, ho, hc, hd⟩
    have ek := pairAt_of ps1
    have ep : keyP (toS p.1, toS p.2) = p := by
      unfold keyP
      exact Prod.ext (cpl_toS p.1) (cpl_toS p.2)
    refine ⟨by rw [List.map_cons, ← h1]; rfl, by rw [List.map_cons, ek, ep, h2], fun w hw => ?_⟩
    rcases List.mem_cons.mp hw with e | e
    · subst e
      rw [ek, ep]
      exact ⟨ps1, h.1⟩
    · exact h3 w e
theorem reps_map {M : Md} {G : Fz} {f : Value → V} {g : Value → W} : ∀ {l : List Value}, (∀ u ∈ l, Rep M G (f u) (g u)) → Reps M G (l.map f) (l.map g)
  | [], _ => trivial
  | u :: l, h => ⟨h u List.mem_cons_self, reps_map fun v hv => h v (List.mem_cons_of_mem _ hv)⟩
theorem cr_sortedW {M : Md} (hK : X.K = M.K) (hc : X.calm = true) : CallR X (.builtin "sorted") (rBlt M .sorted) := by
  intro pins s σ H xs us Q I r h
  obtain ⟨G, φ, H0, v0, wx, w, S, rfl, hx, h, P⟩ := h
  cases wx <;> simp only [opBlt, reduceCtorEq] at h
  rename_i ws
  obtain ⟨ps, hps, h⟩ := Option.bind_eq_some_iff.mp h
  split at h
  rotate_left
  · cases h
  rename_i hlt
  cases h
  have e := pairsOf_some hps
  subst e
  obtain ⟨a, vs, rfl, hq, rr⟩ := hx.lst S
  obtain ⟨its, rv, hl, hz⟩ := I.list (show SqL X.K H a vs by rw [hK]; exact hq.sq)
  obtain ⟨u, rfl, ru⟩ := vals1 r
  obtain rfl : u = Value.ref a := ru
  obtain ⟨e1, e2, e3⟩ := pairs_at hK I S rv rr
  refine sorted_pairsS (k := pairAt s.heap) hl.isList (by rw [← rv.length]; exact hz) (fun v hv => (e3 v hv).1) fun h' d out h1 h2 kp hd hn => ?_
  obtain ⟨n, hn⟩ := hn
  have h3 : ∀ u ∈ out, ∃ a, u = Value.ref a := fun u hu => by
    obtain ⟨⟨b, _, _, _, _, e, _⟩, _⟩ := e3 u (h1.mem_iff.mp hu)
    exact ⟨b, e⟩
  have e4 : out.map (fun u => keyP (pairAt s.heap u)) = sortP ps := ascP_uniq h2 (sortP_asc ps) (by
    rw [← e2]
    exact (h1.map _).trans (sortP_perm _).symm)
  have rout : Reps M G (out.map backV) ((sortP ps).map pairW) := by
    rw [← e4, List.map_map]
    exact reps_map fun u hu => (e3 u (h1.mem_iff.mp hu)).2
  have hdn : H d = none := I.hok.fresh hd
  refine ⟨.ref d, upd H d (.lst (out.map backV)), I.laid (t' := s.toks) kp hd ⟨?_, out, n, vals_back h3, hn⟩, rfl, post_lst S hdn rout P⟩
  rw [List.length_map, h1.length_eq, ← rv.length]
  exact hz
end
end MP
/-! MP: own exceptions: an __init__ that says super().__init__(..) and stores its arguments. -/
namespace MP
open PySem PySem.Spec PyProof.Rows L2 TL NdefX
section
variable {M : Model} {A : Around} {E : Value → Shared → Prop} {s : Shared} {env : Env}
theorem ld_par {m : PySem.Str → Option Value} {x : PySem.Str} {pos : Pos} {v : Value} {Q : Value → Shared → Prop} (hn : s.heap.Ns env.locals m) (hv : m x = some v) (h : Q v s)
    (hk : env.scope.kind = .function) (hl : env.kindOf x = some .local) (hd : (x == ("__debug__" : PySem.Str)) = false) : wpAny M A (eval (.Name x pos) env) Q E s := wpAny_Name (wpAny_loadName_local hk hl hn hv h) hd
/-- names of parameters as arguments -/
theorem spl_names {m : PySem.Str → Option Value} (hn : s.heap.Ns env.locals m) (hk : env.scope.kind = .function) (pos : Pos) : ∀ (es : List Expr) (us : List Value), 
    (∃ l : List (PySem.Str × Pos), es = l.map (fun p => Expr.Name p.1 p.2) ∧ (∀ p ∈ l, env.kindOf p.1 = some .local ∧ (p.1 == ("__debug__" : PySem.Str)) = false) ∧ l.map (fun p => m p.1) = us.map some) →
    ∀ Q : List Value → Shared → Prop, Q us s → wpAny M A (spliced (backTo pos (starEach es env))) Q E s
  | [], us, ⟨l, hl, _, hm⟩, Q, hq => by
    cases l with
    | nil =>
      cases us with
      | nil => exact Calls.spliced_nil hq
      | cons => cases hm
    | cons => cases hl
  | e :: es, us, ⟨l, hl, hk2, hm⟩, Q, hq => by
    cases l with
    | nil => cases hl
    | cons p l =>
      cases us with
      | nil => cases hm
      | cons u us =>
        rw [List.map_cons, List.cons.injEq] at hl
        rw [List.map_cons, List.map_cons, List.cons.injEq] at hm
        obtain ⟨rfl, hl⟩ := hl
        show wpAny M A (spliced ((false, eval (.Name p.1 p.2) env) :: backTo pos (starEach es env))) Q E s
        refine Calls.spliced_cons (ld_par hn hm.1 ?_ hk (hk2 p List.mem_cons_self).1 (hk2 p List.mem_cons_self).2)
        exact spl_names hn hk pos es us ⟨l, hl, fun q hq => hk2 q (List.mem_cons_of_mem _ hq), hm.2⟩ (fun us => Q (u :: us)) hq
end
/-- what the written part says of an exception class with an __init__ of its own -/
structure InitC (K : PySem.W.Frag) (P : Program) (C fI cc : Addr) (F : NF) : Prop where
  ox : OexC K C
  fn : ∃ od doc pm ctv osl, K.lookup fI = some ⟨.type "function", od, .func (F.fd doc pm ctv), osl⟩
  cl : F.cl = [(("__class__" : PySem.Str), cc)]
  code : PySem.W.codeIn K (.ref F.c) F.qual = true
  file : ∃ ccl cdd vs ccs file tf, K.lookup F.c = some ⟨ccl, cdd, .fields vs, ccs⟩ ∧ vs[2]? = some (.str file tf) ∧ ((P.main.file : PySem.Str) == file) = true
  cell : ∃ cls cld csl, K.lookup cc = some ⟨cls, cld, .cell (some (.ref C)), csl⟩
  sub : PySem.W.mroIn K C (.ref C) = some true
  sup : PySem.W.nsIn K mainGlobals "super" = some none
  init : PySem.W.ks_superIn K C C "__init__" = some (some (.builtin "ValueError.__init__"))
  ve : PySem.W.subIn K (.ref C) (.type "ValueError") = some true
  third : PySem.W.nsIn K cStatics "thirdparty.any" = some none
  top : (P.main.scope.names.lookup ("super" : PySem.Str)).isSome = false
  iC : PySem.W.findIn K (.ref C) "__init__" = some (some (.ref fI))
  tI : PySem.W.typeIn K (.ref fI) = some (.type "function")
section
variable {P : Program} {w : World} {K : PySem.W.Frag} {mg : PySem.Str → Option Value} {base : Heap} {N ps : List PySem.Str} {F : NF} {fI C cc : Addr} {k : Nat}
/-- the promise of an __init__ whose rest is read by t -/
def spInit (C : Addr) (N ps : List PySem.Str) (t : TS) : Sp := fun vs H Q _ => ∃ (a : Addr) (vs' : List V), vs = .ref a :: vs' ∧ vs.length = ps.length ∧ vs'.length ≤ 1000 ∧ H a = some (exo a C none) ∧
  t { nx := fun _ H' => Q .non H', rt := Q } (startF N vs [some (.ref C)]) H
set_option maxHeartbeats 1000000 in
theorem init_fn (D : InitC K P C fI cc F) (S : NScope N ps ["__class__"] F.scope) {self : PySem.Str} {names : List PySem.Str} (hps : ps = self :: names) {l : List (PySem.Str × Pos)} (hlN : l.map (·.1) = names)
    {p0 p1 p2 p3 p4 : Pos} {rest : List Stmt} (hbody : F.body = .Expr (.Call (.Attribute (.Call (.Name "super" p0) [] [] p1) "__init__" p2) (l.map fun p => Expr.Name p.1 p.2) [] p3) p4 :: rest)
    (har : ∃ ar, (F.params.posonlyargs ++ F.params.args).head? = some ar ∧ ar.arg = self) (hsup : F.scope.names.lookup ("super" : PySem.Str) = some .globalImplicit) (hdb : ∀ n ∈ names, (n == ("__debug__" : PySem.Str)) = false) (hne : l ≠ [])
    (hev : ∀ env : Env, ∃ pl : Sem Bool, eval (.Call (.Attribute (.Call (.Name "super" p0) [] [] p1) "__init__" p2) (l.map fun p => Expr.Name p.1 p.2) [] p3) env = (do
      let ov ← attributeBase (.Call (.Name "super" p0) [] [] p1) "__init__" env (eval (.Call (.Name "super" p0) [] [] p1) env)
      standAt p2.atName
      let (f, first) ← holding [ov] (getMethod ov "__init__" pl)
      callWith p3 f first (backTo p3 (starEach (l.map fun p => Expr.Name p.1 p.2) env)) []))
    {t : TS} (ht : ∀ (A : Around) (outer : List Env) (s : Shared) (H : Hp) (E : XK), PSs (ncx (L2.CX P w) P w K mg base N F fI A outer s H E) rest t) {fd : FuncData} (hfd : ∃ doc pm ctv, fd = F.fd doc pm ctv ∧ ∃ od osl, K.lookup fI = some ⟨.type "function", od, .func (F.fd doc pm ctv), osl⟩) :
    FnOk P w K mg base (L2.CX P w) (k + 1) fI fd ps (spInit C N ps t) := by
  obtain ⟨doc, pm, ctv, rfl, od, osl, lk⟩ := hfd
  refine ⟨fun vs H Q E ⟨_, _, _, h, _⟩ => h, fun A outer s H args us vs Q₀ E hr e0 hb r hsp => ?_⟩
  obtain ⟨a, vs', rfl, hl, hl1000, hexo, hq⟩ := hsp
  have KX : K.In s.heap := e0.mod.kin.keeps fun b o e => (e0.bs b o e).1
  have lim : s.heap.NoLimit := e0.mod.nolimit.keeps fun b o e => (e0.bs b o e).1
  obtain ⟨ccl, cdd, cvs, ccs, file, tf, hco1, hco2, hco3⟩ := D.file
  obtain ⟨cls, cld, csl, hcell⟩ := D.cell
  have inK : ∀ {b : Addr} {o : Obj}, K.lookup b = some o → base.get? b = some o := fun {b o} e => e0.mod.kin b o e
  have CA : CellsAt F.cl ["__class__"] [some (V.ref C)] s.heap H := by
    rw [D.cl]
    have one : ∀ {y : PySem.Str} {c : Addr}, ([(("__class__" : PySem.Str), cc)] : List (PySem.Str × Addr)).lookup y = some c → y = "__class__" ∧ c = cc := fun {y c} h => by
      have hm := PySem.mem_of_lookup h
      have := List.mem_singleton.mp hm
      exact ⟨congrArg Prod.fst this, congrArg Prod.snd this⟩
    refine ⟨rfl, fun y c h => ?_, fun x y c h1 h2 => by rw [(one h1).1, (one h2).1], fun i y h => ?_⟩
    · obtain ⟨_, rfl⟩ := one h
      exact ⟨(e0.bs _ _ (inK hcell)).2, _, _, KX _ _ hcell, rfl⟩
    · cases i with
      | zero =>
        simp only [List.getElem?_cons_zero, Option.some.injEq] at h
        subst h
        refine ⟨cc, by simp [List.lookup], fun v hv => ?_⟩
        simp only [List.getElem?_cons_zero, Option.some.injEq] at hv
        subst hv
        exact ⟨.ref C, rfl, _, KX _ _ hcell, rfl⟩
      | succ i => simp at h
  have hus : us.length = ps.length := by rw [← r.length]; exact hl
  refine PySem.ks_codeAny_call_defAt (fd := F.fd doc pm ctv) (body := F.body) (binds := ps.zip us) hr.depth (KX _ _ lk) rfl lim (PySem.W.codeRec_of KX D.code) rfl hb S.nocell (fun ⟨n, _⟩ hy => S.par n (List.of_mem_zip hy).1) (fun h₁ hns kp => ?_) S.co S.gen S.kind
  have I : Inv (ncx (L2.CX P w) P w K mg base N F fI A outer s H E) [] (startF N (.ref a :: vs') [some (.ref C)]) H { s with heap := h₁, toks := s.toks + (ps.zip us).length } := inv_startN S hr.hd e0 hl r CA hns kp
  obtain ⟨nm, q, NN, bs, bm, sn, subc, ab, col, dd, k0, k1, k2, k3, k5, hC, hbm⟩ := D.ox.cls
  have hclC : PySem.W.clsIn K C = some { name := nm, bases := bs, mro := .ref C :: bm, ns := NN, qualname := q, hasDict := true, slotNames := sn, subclasses := subc, abstract := ab, collection := col, hasDel := false } := by unfold PySem.W.clsIn; rw [hC] <;> rfl
  obtain ⟨ar, har1, har2⟩ := har
  have ndP : ps.Nodup := by
    have q := S.nd.sublist (List.take_sublist (ps.length + 1) N)
    rw [show N.take (ps.length + 1) = ps ++ [("__class__" : PySem.Str)] from S.pre] at q
    exact (List.nodup_append.mp q).1
  have hself : (ps.zip us).reverse.lookup self = some (.ref a) := by
    refine zip_look (i := 0) ndP (by rw [hps]; rfl) ?_
    cases r with
    | cons ra r' => cases ra; rfl
  have hkself : F.scope.names.lookup self = some .local := S.par self (by rw [hps]; exact List.mem_cons_self)
  have key : execs F.body (envF F fI s.heap.objs.size) = execs (.Expr (.Call (.Attribute (.Call (.Name "super" p0) [] [] p1) "__init__" p2) (l.map fun p => Expr.Name p.1 p.2) [] p3) p4 :: rest) (envF F fI s.heap.objs.size) := by rw [hbody]
  show PySem.wpAt _ (A.deeper (envF F fI s.heap.objs.size)) (.func F.body (envF F fI s.heap.objs.size)) (execs F.body (envF F fI s.heap.objs.size)) _ _ _
  rw [key]
  refine PySem.ks_wpAt_execs_cons ?_
  refine PySem.ks_wpAt_Expr_any ?_ (by unfold interactive; show (F.scope.kind == .module && _) = false; rw [S.kind]; rfl)
  obtain ⟨pl, hpl⟩ := hev (envF F fI s.heap.objs.size)
  refine PySem.ks_wpAt_MethodCall (pl := pl) ?_ hpl
  have hK1 : K.In h₁ := KX.keeps kp
  obtain ⟨mb, hmb, hbt⟩ := e0.mod.blt
  have bk1 : ∀ b o, base.get? b = some o → h₁.get? b = some o := fun b o e => kp _ _ (e0.bs b o e).1
  refine PySem.ks_wpAt_super_base (env := envF F fI s.heap.objs.size) hsup (S.frk "__class__" (by simp)) (by decide) rfl (kp _ _ (KX _ _ lk)) rfl har1 rfl (kp _ _ (KX _ _ hco1)) rfl hco2 hco3 D.top ?_
  refine PySem.W.ks_loadName_global S.kind hsup (PySem.Calls.loadGlobal_builtin (e0.mod.glob.keeps bk1) (PySem.W.mg_none_of e0.mod.kin e0.mod.glob D.sup) (hmb.keeps bk1) ((hbt "super" (by decide)).trans PyProof.Rows.Boot.«super») ⟨rfl, ?_⟩)
  refine wpAny_loadName_free S.kind (S.frk "__class__" (by simp)) (show F.cl.lookup ("__class__" : PySem.Str) = some cc by rw [D.cl]; simp [List.lookup]) ⟨_, kp _ _ (KX _ _ hcell), rfl⟩ ?_
  rw [har2]
  refine wpAny_loadName_local S.kind hkself hns hself ?_
  obtain ⟨t1, hexa⟩ := exo_at I.hok hexo
  refine PySem.ks_wpAny_isType_cls (kp _ _ (KX _ _ hC)) rfl ⟨rfl, ?_⟩
  refine PySem.ks_wpAny_call_super (kp _ _ (KX _ _ hC)) rfl hexa rfl (fun c z => by cases z) (PySem.W.looks_mroIn hK1 D.sub) (fun h₂ hso k2 => ?_)
  have J2 : Inv (ncx (L2.CX P w) P w K mg base N F fI A outer s H E) [] (startF N (.ref a :: vs') [some (.ref C)]) H ⟨h₂, s.gens, s.drawn, s.toks + (ps.zip us).length, s.os⟩ := I.kept k2
  have hexa2 := k2 _ _ hexa
  have IA : PySem.W.InstAt h₂ a { cls := .ref C, dict := none, data := .fields #[.ref t1, .none, .none, .none, .bool false, .none] } C none := ⟨hexa2, rfl, rfl, trivial⟩
  have hK2 : K.In h₂ := hK1.keeps k2
  have hsupC := D.init
  unfold PySem.W.ks_superIn at hsupC
  rw [hclC] at hsupC
  refine PySem.W.kxs_getMethod PySem.W.kxs_ValueError hso (PySem.W.looks_opaque hK2 D.third) (l₀ := .ref C :: bm) ?_ rfl hK2 hsupC (IA.type.andThen (PySem.W.looks_subIn hK2 D.ve)) (PySem.W.ks_ne hK2 IA hclC) (by decide) ?_
  · exact fun A Q E s k q => wpAny_bind ((PySem.W.looks_clsIn hK2 hclC) A _ E s k (wpAny_pure q))
  generalize hu : h₂.objs.size = u
  have hmw : (h₂.push (PySem.W.kxs_mw "ValueError.__init__" a)).get? u = some (PySem.W.kxs_mw "ValueError.__init__" a) := by rw [← hu]; exact Heap.get?_push_at rfl rfl
  have k3 : ∀ b o, h₂.get? b = some o → (h₂.push (PySem.W.kxs_mw "ValueError.__init__" a)).get? b = some o := fun b o e => Heap.get?_push_of_some _ e
  have J3 : Inv (ncx (L2.CX P w) P w K mg base N F fI A outer s H E) [] (startF N (.ref a :: vs') [some (.ref C)]) H ⟨h₂.push (PySem.W.kxs_mw "ValueError.__init__" a), s.gens, s.drawn, s.toks + (ps.zip us).length + 1, s.os⟩ := J2.kept k3
  have hexa3 := k3 _ _ hexa2
  generalize h₂.push (PySem.W.kxs_mw "ValueError.__init__" a) = h₃ at hmw k3 J3 hexa3 ⊢
  have hns3 : h₃.Ns s.heap.objs.size fun x => (ps.zip us).reverse.lookup x := hns.keeps fun b o e => k3 _ _ (k2 _ _ e)
  obtain ⟨us', rfl, r'⟩ : ∃ us', us = .ref a :: us' ∧ Vals vs' us' := by
    cases r with
    | @cons _ u0 _ ur ra r' =>
      obtain rfl : u0 = Value.ref a := ra
      exact ⟨ur, rfl, r'⟩
  have hmap : l.map (fun p => (ps.zip (Value.ref a :: us')).reverse.lookup p.1) = us'.map some := by
    refine List.ext_getElem? fun i => ?_
    rw [List.getElem?_map, List.getElem?_map]
    have hll : names.length = us'.length := by rw [hps] at hus; simpa using hus.symm
    have hll2 : l.length = us'.length := by rw [← hlN, List.length_map] at hll; exact hll
    by_cases hi : i < us'.length
    · have hi2 : i < l.length := by omega
      rw [List.getElem?_eq_getElem hi, List.getElem?_eq_getElem hi2]
      refine congrArg some (zip_look (i := i + 1) ndP ?_ (by rw [List.getElem?_cons_succ]; exact List.getElem?_eq_getElem hi))
      rw [hps, List.getElem?_cons_succ, ← hlN, List.getElem?_map, List.getElem?_eq_getElem hi2]; rfl
    · rw [List.getElem?_eq_none (by omega), List.getElem?_eq_none (by omega)]; rfl
  have hlk : ∀ p ∈ l, (envF F fI s.heap.objs.size).kindOf p.1 = some .local ∧ (p.1 == ("__debug__" : PySem.Str)) = false := fun p hp => by
    have : p.1 ∈ names := by rw [← hlN]; exact List.mem_map_of_mem hp
    exact ⟨S.par _ (by rw [hps]; exact List.mem_cons_of_mem _ this), hdb _ this⟩
  have hun : us'.length ≤ sizeLine := by rw [← r'.length, sizeLine_eq]; omega
  have hplain : ∀ (l : List (PySem.Str × Pos)) env, (backTo p3 (starEach (l.map fun p => Expr.Name p.1 p.2) env)).any (·.1) = false := fun l env => by
    induction l with
    | nil => rfl
    | cons p l ih => exact ih
  refine PySem.W.kxs_callWith (i := "ValueError.__init__") (x := a) (hplain l _) ?_
  obtain ⟨pq, l2, rfl⟩ : ∃ pq l2, l = pq :: l2 := by
    cases l with
    | nil => exact absurd rfl hne
    | cons a b => exact ⟨a, b, rfl⟩
  have e1 : backTo p3 (starEach ((pq :: l2).map fun p => Expr.Name p.1 p.2) (envF F fI s.heap.objs.size)) = (false, eval (.Name pq.1 pq.2) (envF F fI s.heap.objs.size)) :: backTo p3 (starEach (l2.map fun p => Expr.Name p.1 p.2) (envF F fI s.heap.objs.size)) := rfl
  have sp := fun Q q => spl_names (M := model P w) (A := A.deeper (envF F fI s.heap.objs.size)) (E := fun e s' => wpAny (model P w) (A.deeper (envF F fI s.heap.objs.size)) (leaving (envF F fI s.heap.objs.size) e) (fun _ s'' => CR (L2.CX P w) outer P w H s Q₀ E (.error e) s'') (fun e' s'' => CR (L2.CX P w) outer P w H s Q₀ E (.error e') s'') s') (s := ⟨h₃, s.gens, s.drawn, s.toks + (ps.zip (Value.ref a :: us')).length + 1, s.os⟩) (env := envF F fI s.heap.objs.size) hns3 S.kind p3 ((pq :: l2).map fun p => Expr.Name p.1 p.2) us' ⟨_, rfl, hlk, hmap⟩ Q q
  rw [e1] at sp ⊢
  refine PySem.Calls.evalArgs_plain (sp _ ⟨hmw, ?_⟩)
  refine wpAny_call (codeAny_of_tree ?_)
  show wpAny _ (A.deeper (envF F fI s.heap.objs.size)).in1 (callAny (.ref u) ⟨us', []⟩) _ _ _
  simp only [callAny]
  refine wpAny_bind (wpAny_load hmw ?_)
  simp only [PySem.W.kxs_mw, show (Value.type "method-wrapper" == Value.type "method" || Value.type "method-wrapper" == Value.type "builtin_function_or_method" || Value.type "method-wrapper" == Value.type "method-wrapper") = true by decide, if_true]
  refine PySem.W.KFB.if_so (by decide) ?_
  have hC3 : h₃.get? C = _ := k3 _ _ (k2 _ _ (kp _ _ (KX _ _ hC)))
  refine wpAny_bind (PySem.W.check_bound_init PySem.F.excBase_ValueError.toExcCallFacts hC3 hexa3 rfl ?_)
  refine wpAny_bind (wpAny_pure (wpAny_pure ?_))
  refine ⟨PySem.plainId_quiet PySem.F.excBase_ValueError.init.plain _, codeAny_builtin PySem.F.excBase_ValueError.initEntry ?_⟩
  refine PySem.W.exc_init_tree (cls := .ref C) (t0 := t1) (dv := none) (c2 := .none) (c3 := .none) (b4 := .bool false) hexa3 hun fun h₄ k4 hx4 _ => ?_
  have J4 := J3.write (t' := s.toks + (ps.zip (Value.ref a :: us')).length + 1) (x := a) (e := a) (o := exo a C none) (by rw [hexo]; exact True.intro) (.inl rfl) k4 ⟨_, hx4⟩ (exo_ok hx4)
  have eu : upd H a (exo a C none) = H := by
    funext b
    by_cases hb : b = a
    · rw [hb, upd_same, hexo]
    · rw [upd_ne hb]
  rw [eu] at J4
  have fin : ∀ {σ' : L2.St} {H' : Hp} {v : V} {x : Value} {s' : Shared}, Inv (ncx (L2.CX P w) P w K mg base N F fI A outer s H E) [] σ' H' s' → L2.RelV v x → Q₀ v H' → CE outer P w H s Q₀ x s' :=
    fun {σ' H' v x s'} J rv q => ⟨v, H', J.os, J.bare, J.base, J.hok, rv, q⟩
  refine PySem.wpAt_of_wpAny (wpAny_mono ((ht A outer s H E).run [] _ _ H _ J4 hq) (fun fl s' hs => ?_) fun e s' hs => hs)
  cases fl with
  | ret x =>
    obtain ⟨v, σ', H', J, rv, q⟩ := hs
    exact fin J rv q
  | next =>
    obtain ⟨σ', H', J, q⟩ := hs
    exact fin (v := V.non) (x := Value.none) J rfl q
  | brk =>
    obtain ⟨_, _, _, q⟩ := hs
    exact False.elim q
  | cont =>
    obtain ⟨_, _, _, q⟩ := hs
    exact False.elim q
end
end MP
/-! MP: own exceptions made and raised. -/
namespace MP
open PySem PySem.Spec PyProof.Rows L2 TL NdefX
/-- the promise of an __init__: its arguments are the fields of a new dict -/
def spE (C : Addr) (flds : List PySem.Str) : Sp := fun vs H Q _ => ∃ (a : Addr) (vs' : List V), vs = .ref a :: vs' ∧ vs'.length = flds.length ∧ H a = some (exo a C none) ∧
  ∀ d, H d = none → d ≠ a → Q .non (upd (upd H d (exd d (flds.zip vs').reverse)) a (exo a C (some d)))
/-- how an error of the class at C is made -/
structure ErrOk (P : Program) (K : PySem.W.Frag) (C : Addr) (flds : List PySem.Str) : Prop where
  ox : OexC K C
  xf : XfC K C
  no : ∀ f ∈ flds, PySem.W.findIn K (.ref C) f = some none
  make : ∃ fI fd ps, PySem.W.findIn K (.ref C) "__init__" = some (some (.ref fI)) ∧ PySem.W.typeIn K (.ref fI) = some (.type "function") ∧ Binds K fd ps [] ∧
    ∀ (w : World) (mg : PySem.Str → Option Value) (base : Heap) (k : Nat), FnOk P w K mg base (L2.CX P w) (k + 1) fI fd ps (spE C flds)
section
variable {P : Program} {K : PySem.W.Frag} {F : NF} {fI C cc : Addr}
theorem upd_two {H : Hp} {a d : Addr} {o1 o2 : HO} {u : HO} (h : d ≠ a) : upd (upd (upd H d o1) a u) d o2 = upd (upd H d o2) a u := by
  funext b
  by_cases h1 : b = d
  · subst h1
    rw [upd_same, upd_ne h, upd_same]
  · by_cases h2 : b = a
    · subst h2
      rw [upd_ne h1, upd_same, upd_same]
    · rw [upd_ne h1, upd_ne h2, upd_ne h1, upd_ne h2, upd_ne h1]
/-- an __init__ of two arguments -/
theorem err_two {self n1 n2 f1 f2 : PySem.Str} {p0 p1 p2 p3 p4 q1 q2 a1 a2 a3 a4 b1 b2 b3 b4 : Pos} (D : InitC K P C fI cc F) (S : NScope [self, n1, n2, "__class__"] [self, n1, n2] ["__class__"] F.scope)
    (hbody : F.body = [.Expr (.Call (.Attribute (.Call (.Name "super" p0) [] [] p1) "__init__" p2) [.Name n1 q1, .Name n2 q2] [] p3) p4, .Assign [.Attribute (.Name self a1) f1 a2] (.Name n1 a3) a4, .Assign [.Attribute (.Name self b1) f2 b2] (.Name n2 b3) b4])
    (har : ∃ ar, (F.params.posonlyargs ++ F.params.args).head? = some ar ∧ ar.arg = self) (hsup : F.scope.names.lookup ("super" : PySem.Str) = some .globalImplicit)
    (hd : plainName self = true ∧ plainName n1 = true ∧ plainName n2 = true) (hb : ∀ (doc pm ctv : Value) (us : List Value), us.length = 3 → bindArgs (F.fd doc pm ctv) ⟨us, []⟩ = pure ([self, n1, n2].zip us))
    (hev : ∀ env : Env, ∃ pl : Sem Bool, eval (.Call (.Attribute (.Call (.Name "super" p0) [] [] p1) "__init__" p2) (([(n1, q1), (n2, q2)] : List (PySem.Str × Pos)).map fun p => Expr.Name p.1 p.2) [] p3) env = (do
      let ov ← attributeBase (.Call (.Name "super" p0) [] [] p1) "__init__" env (eval (.Call (.Name "super" p0) [] [] p1) env)
      standAt p2.atName
      let (f, first) ← holding [ov] (getMethod ov "__init__" pl)
      callWith p3 f first (backTo p3 (starEach (([(n1, q1), (n2, q2)] : List (PySem.Str × Pos)).map fun p => Expr.Name p.1 p.2) env)) []))
    (h1 : PySem.W.findIn K (.ref C) f1 = some none) (h2 : PySem.W.findIn K (.ref C) f2 = some none) (hx : XfC K C) : ErrOk P K C [f1, f2] := by
  obtain ⟨od, doc, pm, ctv, osl, lk⟩ := D.fn
  refine ⟨D.ox, hx, fun f hf => ?_, fI, F.fd doc pm ctv, [self, n1, n2], D.iC, D.tI, .all fun us hl => hb doc pm ctv us hl, fun w mg base k => ?_⟩
  · simp only [List.mem_cons, List.not_mem_nil, or_false] at hf
    rcases hf with rfl | rfl
    · exact h1
    · exact h2
  · have ht : ∀ (A : Around) (outer : List Env) (s : Shared) (H : Hp) (E : XK), PSs (ncx (L2.CX P w) P w K mg base [self, n1, n2, "__class__"] F fI A outer s H E) [.Assign [.Attribute (.Name self a1) f1 a2] (.Name n1 a3) a4, .Assign [.Attribute (.Name self b1) f2 b2] (.Name n2 b3) b4]
        (tSeq (tOst K f1 (tVar 0) (tVar 1)) (tOst K f2 (tVar 0) (tVar 2))) := fun A outer s H E => by
      have v0 : ∀ p, PE (ncx (L2.CX P w) P w K mg base [self, n1, n2, "__class__"] F fI A outer s H E) (.Name self p) (tVar 0) := fun p => pe_var rfl (.inl (S.par _ (by simp))) (plain1 hd.1) (plain2 hd.1)
      have v1 : ∀ p, PE (ncx (L2.CX P w) P w K mg base [self, n1, n2, "__class__"] F fI A outer s H E) (.Name n1 p) (tVar 1) := fun p => pe_var rfl (.inl (S.par _ (by simp))) (plain1 hd.2.1) (plain2 hd.2.1)
      have v2 : ∀ p, PE (ncx (L2.CX P w) P w K mg base [self, n1, n2, "__class__"] F fI A outer s H E) (.Name n2 p) (tVar 2) := fun p => pe_var rfl (.inl (S.par _ (by simp))) (plain1 hd.2.2) (plain2 hd.2.2)
      exact pss_cons (ps_ost (v0 _) (v1 _)) (pss_one (ps_ost (v0 _) (v2 _)))
    refine (init_fn (k := k) D S (self := self) (names := [n1, n2]) rfl (l := [(n1, q1), (n2, q2)]) rfl hbody har hsup (fun n hn => ?_) (by simp) hev ht ⟨doc, pm, ctv, rfl, od, osl, lk⟩).imp ?_
    · simp only [List.mem_cons, List.not_mem_nil, or_false] at hn
      rcases hn with rfl | rfl
      · exact plain1 hd.2.1
      · exact plain1 hd.2.2
    · rintro vs H Q E ⟨a, vs', rfl, hl, ha, hq⟩
      match vs', hl with
      | [v1, v2], _ =>
        refine ⟨a, [v1, v2], rfl, rfl, by simp, ha, ?_⟩
        refine ⟨v1, rfl, .ref a, rfl, a, C, rfl, D.ox, h1, .inl ⟨ha, fun d hd1 hd2 => ?_⟩⟩
        refine ⟨v2, rfl, .ref a, rfl, a, C, rfl, D.ox, h2, .inr ⟨d, [(f1, v1)], upd_same, by rw [upd_ne hd2, upd_same], by simp, ?_⟩⟩
        have := hq d hd1 hd2
        rw [← upd_two (o1 := exd d [(f1, v1)]) hd2] at this
        exact this
/-- an __init__ of one argument -/
theorem err_one {self n1 f1 : PySem.Str} {p0 p1 p2 p3 p4 q1 a1 a2 a3 a4 : Pos} (D : InitC K P C fI cc F) (S : NScope [self, n1, "__class__"] [self, n1] ["__class__"] F.scope)
    (hbody : F.body = [.Expr (.Call (.Attribute (.Call (.Name "super" p0) [] [] p1) "__init__" p2) [.Name n1 q1] [] p3) p4, .Assign [.Attribute (.Name self a1) f1 a2] (.Name n1 a3) a4])
    (har : ∃ ar, (F.params.posonlyargs ++ F.params.args).head? = some ar ∧ ar.arg = self) (hsup : F.scope.names.lookup ("super" : PySem.Str) = some .globalImplicit)
    (hd : plainName self = true ∧ plainName n1 = true) (hb : ∀ (doc pm ctv : Value) (us : List Value), us.length = 2 → bindArgs (F.fd doc pm ctv) ⟨us, []⟩ = pure ([self, n1].zip us))
    (hev : ∀ env : Env, ∃ pl : Sem Bool, eval (.Call (.Attribute (.Call (.Name "super" p0) [] [] p1) "__init__" p2) (([(n1, q1)] : List (PySem.Str × Pos)).map fun p => Expr.Name p.1 p.2) [] p3) env = (do
      let ov ← attributeBase (.Call (.Name "super" p0) [] [] p1) "__init__" env (eval (.Call (.Name "super" p0) [] [] p1) env)
      standAt p2.atName
      let (f, first) ← holding [ov] (getMethod ov "__init__" pl)
      callWith p3 f first (backTo p3 (starEach (([(n1, q1)] : List (PySem.Str × Pos)).map fun p => Expr.Name p.1 p.2) env)) []))
    (h1 : PySem.W.findIn K (.ref C) f1 = some none) (hx : XfC K C) : ErrOk P K C [f1] := by
  obtain ⟨od, doc, pm, ctv, osl, lk⟩ := D.fn
  refine ⟨D.ox, hx, fun f hf => ?_, fI, F.fd doc pm ctv, [self, n1], D.iC, D.tI, .all fun us hl => hb doc pm ctv us hl, fun w mg base k => ?_⟩
  · rw [List.mem_singleton.mp hf]; exact h1
  · have ht : ∀ (A : Around) (outer : List Env) (s : Shared) (H : Hp) (E : XK), PSs (ncx (L2.CX P w) P w K mg base [self, n1, "__class__"] F fI A outer s H E) [.Assign [.Attribute (.Name self a1) f1 a2] (.Name n1 a3) a4]
        (tOst K f1 (tVar 0) (tVar 1)) := fun A outer s H E => by
      have v0 : ∀ p, PE (ncx (L2.CX P w) P w K mg base [self, n1, "__class__"] F fI A outer s H E) (.Name self p) (tVar 0) := fun p => pe_var rfl (.inl (S.par _ (by simp))) (plain1 hd.1) (plain2 hd.1)
      have v1 : ∀ p, PE (ncx (L2.CX P w) P w K mg base [self, n1, "__class__"] F fI A outer s H E) (.Name n1 p) (tVar 1) := fun p => pe_var rfl (.inl (S.par _ (by simp))) (plain1 hd.2) (plain2 hd.2)
      exact pss_one (ps_ost (v0 _) (v1 _))
    refine (init_fn (k := k) D S (self := self) (names := [n1]) rfl (l := [(n1, q1)]) rfl hbody har hsup (fun n hn => by rw [List.mem_singleton.mp hn]; exact plain1 hd.2) (by simp) hev ht ⟨doc, pm, ctv, rfl, od, osl, lk⟩).imp ?_
    rintro vs H Q E ⟨a, vs', rfl, hl, ha, hq⟩
    match vs', hl with
    | [v1], _ =>
      refine ⟨a, [v1], rfl, rfl, by simp, ha, ?_⟩
      exact ⟨v1, rfl, .ref a, rfl, a, C, rfl, D.ox, h1, .inl ⟨ha, fun d hd1 hd2 => hq d hd1 hd2⟩⟩
end
end MP
/-! MP: calls of defs; the checker of expressions and its theorem. -/
namespace MP
open PySem PySem.Spec PyProof.Rows L2 TL
/-- a def keeps a promise, at most k deep, where no repr is under way -/
structure FnG (P : Program) (w : World) (K : PySem.W.Frag) (mg : PySem.Str → Option Value) (base : Heap) (k : Nat) (f : Addr) (fd : FuncData) (ps : List PySem.Str) (sp : Sp) : Prop where
  run : ∀ (A : Around) (outer : List Env) (s : Shared) (H : Hp) (args : Args) (us : List Value) (vs : List V) (Q : VK) (E : XK), Room k A → A.guards = some [] → Env0 P w K mg base A outer s H →
    BindsTo s fd args (ps.zip us) → Vals vs us → vs.length = ps.length → sp vs H Q E → codeAny (model P w) A (.call (.ref f) args) (CR (L2.CX P w) outer P w H s Q E) s
/-- what the evaluator tells of a def -/
def spF (M : Md) (P : Prg) (d f : Nat) : Sp := fun vs H Q E => ∃ G φ ws, StoOk M G φ H ∧ Reps M G vs ws ∧
  (P.call d f ws φ).holds (fun w φ' => Post M (if P.fr f then RB M else RV M) G H w φ' Q) (fun x φ' => PostX M G H φ' x E)
section
variable {X : Cx} {S : Sit} {k : Nat} {f : Addr} {fd : FuncData} {ps : List PySem.Str} {sp : Sp}
theorem run_fnG {pins : List (Addr × Obj)} {σ : L2.St} {H : Hp} {s : Shared} {Q : VK} {us : List Value} {vs : List V} {args : Args} {W : WX} (F : FnG X.prog X.w X.K X.mg X.base k f fd ps sp) (hr : Room k X.A) (hg : X.A.guards = some [])
    (tk : Takes X W) (I : Inv X pins σ H s) (hb : BindsTo s fd args (ps.zip us)) (r : Vals vs us) (hl : vs.length = ps.length) (h : sp vs H Q fun c dd H' => W c dd σ H') :
    codeAny (model X.prog X.w) X.A (.call (.ref f) args) (fun r s' => match r with
      | .ok (.ret u) => EP X pins σ Q u s'
      | .ok _ => False
      | .error e => X.xe e s') s := by
  refine codeAny_mono (F.run X.A X.stack s H args us vs Q _ hr hg I.env0 hb r hl h) fun r s' hq => ?_
  cases r with
  | error e => exact tk e s' (XE.of_call I (fun _ _ _ z => z) hq)
  | ok fl =>
    cases fl with
    | ret u => exact I.after hq
    | next => exact False.elim hq
    | brk => exact False.elim hq
    | cont => exact False.elim hq
end
/-- what is static: the defs by number (name, parameters), the constants of the module, the built-ins that are asked for -/
structure Stx where
  fns : List (PySem.Str × List PySem.Str)
  globs : List PySem.Str
  blts : List PySem.Str
  kws : List (Nat × List Nat)
  errs : List (PySem.Str × List PySem.Str)
  trs : List (PySem.Str × List Nat × List Nat)
/-- how keywords alone bind -/
def KwB (K : PySem.W.Frag) (fd : FuncData) (ps : List PySem.Str) (ks : List Nat) : Prop :=
  ∀ (s : Shared) (us : List Value), K.In s.heap → us.length = ps.length → BindsTo s fd ⟨[], (ks.map fun i => ps.getD i "").zip us⟩ (ps.zip (permL ks us))
structure Ctx (Γ : Stx) (M : Md) (P : Prg) (d : Nat) (X : Cx) : Prop where
  K : X.K = M.K
  calm : X.calm = true
  nd : X.N.Nodup
  room : Room (d + 2) X.A
  guards : X.A.guards = some []
  blt : ∀ x ∈ Γ.blts, X.mg x = none
  glob : ∀ (g : Nat) (x : PySem.Str), Γ.globs[g]? = some x → ∃ u v w, X.mg x = some u ∧ RelV v u ∧ P.gv g = some w ∧ ∀ G, Rep M G v w
  fn : ∀ (f : Nat) (x : PySem.Str) (ps : List PySem.Str), Γ.fns[f]? = some (x, ps) → ∃ a fd, X.mg x = some (.ref a) ∧ PySem.W.keepIn X.K (.ref a) = true ∧ Binds X.K fd ps [] ∧ (∀ ks, (f, ks) ∈ Γ.kws → KwB X.K fd ps ks) ∧ FnG X.prog X.w X.K X.mg X.base (d + 2) a fd ps (spF M P d f)
  err : ∀ (k : Nat) (x : PySem.Str) (flds : List PySem.Str), Γ.errs[k]? = some (x, flds) → ErrOk X.prog X.K (M.cls k) flds ∧ M.flds k = flds.reverse ∧ X.mg x = some (.ref (M.cls k))
  exm : ∀ (x : PySem.Str) (yes no : List Nat), (x, yes, no) ∈ Γ.trs → ∃ c, X.mg x = some c ∧ (∀ k ∈ yes, PySem.W.exmOne X.K (.ref (M.cls k)) c = some true) ∧ (∀ k ∈ no, PySem.W.exmOne X.K (.ref (M.cls k)) c = some false)
theorem Ctx.u {Γ : Stx} {M : Md} {P : Prg} {d : Nat} {X : Cx} (C : Ctx Γ M P d X) : X.A.units + 200 < cLine := by have := C.room.un; omega
theorem Ctx.blk {Γ : Stx} {M : Md} {P : Prg} {d : Nat} {X : Cx} (C : Ctx Γ M P d X) (s : Shared) (H : Hp) (scope : Scope) (cenv : Env) (fp : List Addr) : Ctx Γ M P d (X.blk s H scope cenv fp) :=
  ⟨C.K, C.calm, C.nd, C.room, C.guards, C.blt, C.glob, C.fn, C.err, C.exm⟩
section
variable {X : Cx} {S : Sit} {Γ : Stx} {P : Prg} {d : Nat} {a b c e : Expr} {es : List Expr} {pos p : Pos} {fa fb fc : Loc → Sto → Out W} {fr : Loc → Sto → Out (List W)}
theorem s_call (C : Ctx Γ S.M P d X) (tk : Takes X S.Wx) {f : Nat} {x : PySem.Str} {ps : List PySem.Str} (hf : Γ.fns[f]? = some (x, ps)) (hg : Gl X x) (hdb : (x == ("__debug__" : PySem.Str)) = false)
    (ha : PA X (e :: es) (rdA S fr)) (hn : ∀ ρ φ ws φ', fr ρ φ = .ok ws φ' → ws.length = ps.length) (he : starEach (e :: es) X.env = (false, eval e X.env) :: starEach es X.env) (hpl : (backTo pos (starEach es X.env)).any (·.1) = false) :
    PE X (.Call (.Name x p) (e :: es) [] pos) (rd S (if P.fr f then RB S.M else RV S.M) fun ρ φ => (fr ρ φ).bind fun ws φ1 => P.call d f ws φ1) := by
  obtain ⟨adr, fd, hm, hk, hb, _, F⟩ := C.fn f x ps hf
  refine ⟨fun pins s σ H Q I ⟨G, ρ, φ, st, l, q⟩ => ?_⟩
  refine wpAny_Call_Name_kw (ld_glob I hg hm ?_ hdb)
  refine PySem.W.callWith_K (h₀ := X.base) I.ok.mod.kin hk ?_ he hpl
  rw [Out.holds_bind] at q
  cases hfr : fr ρ φ with
  | bad => rw [hfr] at q; exact q.elim
  | exc x φ1 =>
    refine thn (ha.run pos pins s σ H (fun vs H1 => False) I ⟨G, ρ, φ, st, l, by rw [hfr] at q ⊢; exact q⟩) fun us s1 ⟨vs, H1, I1, r, z⟩ => z.elim
  | ok ws φ1 =>
    have hws := hn ρ φ ws φ1 hfr
    rw [hfr] at q
    refine thn (ha.run pos pins s σ H (fun vs H1 => vs.length = ps.length ∧ spF S.M P d f vs H1 Q fun c dd H' => S.Wx c dd σ H') I ⟨G, ρ, φ, st, l, ?_⟩) fun us s1 ⟨vs, H1, I1, r, hl, z⟩ => ⟨I1.kIn, ?_⟩
    · rw [hfr]
      show PostA S.M G H ws φ1 _
      intro G1 H1 vs e1 s1 r1
      refine ⟨by rw [r1.length, hws], G1, φ1, ws, s1, r1, ?_⟩
      refine Out.holds_mono (show (P.call d f ws φ1).holds _ _ from q) (fun w φ' pp => ?_) fun _ _ z => z.ext e1
      cases hfr2 : P.fr f <;> rw [hfr2] at pp <;> simp only [Bool.false_eq_true, if_true, if_false] at pp ⊢
      · exact pp.extV e1
      · exact pp.extB e1
    · refine wpAny_call (codeAny_mono (run_fnG F C.room C.guards tk I1 (args := ⟨us, []⟩) (us := us) ?_ r hl z) fun r s' hq => ?_)
      · have h2 := hb s1 us I1.kIn (by rw [List.append_nil, ← r.length]; exact hl)
        rw [List.append_nil] at h2
        exact h2
      · cases r with
        | error e => exact hq
        | ok fl => cases fl <;> exact hq
/-! ### a call by keywords alone -/
theorem Reps.perm {M : Md} {G : Fz} (ks : List Nat) {vs : List V} {ws : List W} (r : Reps M G vs ws) : Reps M G (permL ks vs) (permL ks ws) := by
  unfold permL
  generalize List.range ks.length = js
  induction js with
  | nil => trivial
  | cons j js ih =>
    rw [List.filterMap_cons, List.filterMap_cons]
    cases h : ks.findIdx? (· == j) with
    | none => simpa [h] using ih
    | some i =>
      cases hv : vs[i]? with
      | none =>
        have hw : ws[i]? = none := by
          have := r.length
          rw [List.getElem?_eq_none_iff] at hv ⊢
          omega
        simpa [h, hv, hw] using ih
      | some v =>
        obtain ⟨w, hw, q⟩ := r.get hv
        simp only [h, Option.bind_some, hv, hw]
        exact ⟨q, ih⟩
theorem Vals.perm (ks : List Nat) {vs : List V} {us : List Value} (r : Vals vs us) : Vals (permL ks vs) (permL ks us) := by
  unfold permL
  generalize List.range ks.length = js
  induction js with
  | nil => exact .nil
  | cons j js ih =>
    rw [List.filterMap_cons, List.filterMap_cons]
    cases h : ks.findIdx? (· == j) with
    | none => simpa [h] using ih
    | some i =>
      cases hv : vs[i]? with
      | none =>
        have hw : us[i]? = none := by
          have := r.length
          rw [List.getElem?_eq_none_iff] at hv ⊢
          omega
        simpa [h, hv, hw] using ih
      | some v =>
        obtain ⟨u, hu, q⟩ := r.get hv
        simp only [h, Option.bind_some, hv, hu]
        exact .cons q ih
theorem kw_all : ∀ (kws : List Keyword) (env : Env), kws.all (·.arg.isSome) = true → (backToKw pos (keywordEach kws env)).all (·.1.isSome) = true
  | [], _, _ => rfl
  | ⟨nm, e, kp⟩ :: kws, env, h => by
    rw [List.all_cons, Bool.and_eq_true] at h
    show (nm.isSome && (backToKw pos (keywordEach kws env)).all (·.1.isSome)) = true
    rw [Bool.and_eq_true]
    exact ⟨h.1, kw_all kws env h.2⟩
theorem kw_names : ∀ (kws : List Keyword) (env : Env), (backToKw pos (keywordEach kws env)).filterMap (·.1) = kws.filterMap (·.arg)
  | [], _ => rfl
  | ⟨nm, e, kp⟩ :: kws, env => by
    show List.filterMap (·.1) ((nm, _) :: backToKw pos (keywordEach kws env)) = _
    rw [List.filterMap_cons, List.filterMap_cons, kw_names kws env]
theorem kw_plain : ∀ (kws : List Keyword) (env : Env), kws.all (·.arg.isSome) = true → ((backTo pos (starEach [] env)).any (·.1) || (backToKw pos (keywordEach kws env)).any (·.1.isNone)) = false
  | [], _, _ => rfl
  | ⟨nm, e, kp⟩ :: kws, env, h => by
    rw [List.all_cons, Bool.and_eq_true] at h
    show (false || (nm.isNone || (backToKw pos (keywordEach kws env)).any (·.1.isNone))) = false
    have h2 := kw_plain kws env h.2
    have h3 : (backToKw pos (keywordEach kws env)).any (·.1.isNone) = false := (Bool.or_eq_false_iff.mp h2).2
    rw [h3]
    cases nm with
    | none => exact absurd h.1 (by simp)
    | some _ => rfl
theorem s_callk (C : Ctx Γ S.M P d X) (tk : Takes X S.Wx) {f : Nat} {ks : List Nat} {x : PySem.Str} {ps : List PySem.Str} {kws : List Keyword} (hf : Γ.fns[f]? = some (x, ps)) (hkw : (f, ks) ∈ Γ.kws) (hg : Gl X x) (hdb : (x == ("__debug__" : PySem.Str)) = false)
    (ha : PK X kws (rdA S fr)) (hn : ∀ ρ φ ws φ', fr ρ φ = .ok ws φ' → ws.length = ps.length) (hlk : ks.length = ps.length) (hp : ∀ {α : Type} (xs : List α), xs.length = ps.length → (permL ks xs).length = ps.length) (hall : kws.all (·.arg.isSome) = true) (hnm : kws.filterMap (·.arg) = ks.map fun i => ps.getD i "") :
    PE X (.Call (.Name x p) [] kws pos) (rd S (if P.fr f then RB S.M else RV S.M) fun ρ φ => (fr ρ φ).bind fun ws φ1 => P.call d f (permL ks ws) φ1) := by
  obtain ⟨adr, fd, hm, hk, _, hb, F⟩ := C.fn f x ps hf
  refine ⟨fun pins s σ H Q I ⟨G, ρ, φ, st, l, q⟩ => ?_⟩
  refine wpAny_Call_Name_kw (ld_glob I hg hm ?_ hdb)
  refine PySem.W.callWith_KW0 (h₀ := X.base) I.ok.mod.kin hk (kw_all kws X.env hall) ?_ (kw_plain kws X.env hall)
  rw [Out.holds_bind] at q
  cases hfr : fr ρ φ with
  | bad => rw [hfr] at q; exact q.elim
  | exc x φ1 =>
    refine thn (ha.run pos pins s σ H (fun vs H1 => False) I ⟨G, ρ, φ, st, l, by rw [hfr] at q ⊢; exact q⟩) fun us s1 ⟨vs, H1, I1, r, z⟩ => z.elim
  | ok ws φ1 =>
    have hws := hn ρ φ ws φ1 hfr
    rw [hfr] at q
    refine thn (ha.run pos pins s σ H (fun vs H1 => vs.length = ps.length ∧ spF S.M P d f (permL ks vs) H1 Q fun c dd H' => S.Wx c dd σ H') I ⟨G, ρ, φ, st, l, ?_⟩) fun us s1 ⟨vs, H1, I1, r, hl, z⟩ => ⟨I1.kIn, ?_⟩
    · rw [hfr]
      show PostA S.M G H ws φ1 _
      intro G1 H1 vs e1 s1 r1
      refine ⟨by rw [r1.length, hws], G1, φ1, permL ks ws, s1, r1.perm ks, ?_⟩
      refine Out.holds_mono (show (P.call d f (permL ks ws) φ1).holds _ _ from q) (fun w φ' pp => ?_) fun _ _ z => z.ext e1
      cases hfr2 : P.fr f <;> rw [hfr2] at pp <;> simp only [Bool.false_eq_true, if_true, if_false] at pp ⊢
      · exact pp.extV e1
      · exact pp.extB e1
    · rw [kw_names, hnm, List.nil_append]
      have hu : us.length = ps.length := by rw [← r.length]; exact hl
      refine wpAny_call (codeAny_mono (run_fnG F C.room C.guards tk I1 (args := ⟨[], (ks.map fun i => ps.getD i "").zip us⟩) (us := permL ks us) (hb ks hkw s1 us I1.kIn hu) (Vals.perm ks r) (hp vs hl) z) fun r s' hq => ?_)
      cases r with
      | error e => exact hq
      | ok fl => cases fl <;> exact hq
end
end MP
/-! MP: the checker of expressions and its theorem. -/
namespace MP
open PySem PySem.Spec PyProof.Rows L2 TL
def isNice : Expr → Bool
  | .Starred _ _ => false
  | .Slice _ _ _ _ => false
  | .Set _ _ _ => false
  | _ => true
theorem nice_star {e : Expr} (h : isNice e = true) (es : List Expr) (env : Env) : starEach (e :: es) env = (false, eval e env) :: starEach es env := by
  cases e <;> first | rfl | (simp [isNice] at h)
theorem nice_ix {e : Expr} (h : isNice e = true) : PlainIx e := by
  intro o i
  cases e <;> first | rfl | (simp [isNice] at h)
theorem nice_marks {e : Expr} (h : isNice e = true) (op : CmpOp) : behindInMarks op e = false := by
  cases e <;> first | rfl | (simp [isNice] at h)
theorem nice_fold {e : Expr} (h : isNice e = true) (env : Env) (x : Value) : foldedSetIterable e env x = pure x := by
  cases e <;> first | rfl | (simp [isNice] at h)
def isBase : Expr → Bool
  | .Name _ _ => true
  | .Constant _ _ _ => true
  | .Attribute _ _ _ => true
  | .Subscript _ _ _ => true
  | _ => false
theorem base_ok {o : Expr} (h : isBase o = true) (name : PySem.Str) (env : Env) : attributeBase o name env (eval o env) = eval o env := by
  cases o <;> first | rfl | (simp [isBase] at h)
def isVis (sc : Scope) (x : PySem.Str) : Bool := match sc.names.lookup x with
  | some .local => true
  | some .cell => true
  | some .free => true
  | _ => false
theorem vis_of {sc : Scope} {x : PySem.Str} (h : isVis sc x = true) : Vis sc x := by
  unfold isVis at h
  split at h
  · exact .inl ‹_›
  · exact .inr (.inl ‹_›)
  · exact .inr (.inr ‹_›)
  · cases h
def isGl (sc : Scope) (x : PySem.Str) : Bool := decide (sc.names.lookup x = some .globalImplicit)
theorem gl_of {X : Cx} {x : PySem.Str} (h : isGl X.env.scope x = true) : Gl X x := by
  unfold isGl at h
  have q := of_decide_eq_true h
  exact q
/-- the built-in's name; whether it is a class -/
def Blt.fun? : Blt → Option (PySem.Str × String)
  | .len => some ("len", "len") | .repr => some ("repr", "repr") | .all => some ("all", "all") | .any => some ("any", "any") | .sorted => some ("sorted", "sorted") | _ => none
def Blt.cls? : Blt → Option (PySem.Str × String)
  | .int => some ("int", "int") | .tuple => some ("tuple", "tuple") | .list => some ("list", "list") | _ => none
theorem blt_fun_boot {b : Blt} {x : PySem.Str} {id : String} (h : b.fun? = some (x, id)) : bootBuiltins x = some (.builtin id) := by
  cases b <;> simp only [Blt.fun?, Option.some.injEq, Prod.mk.injEq, reduceCtorEq] at h <;> obtain ⟨rfl, rfl⟩ := h <;> decide +kernel
theorem blt_cls_boot {b : Blt} {x : PySem.Str} {id : String} (h : b.cls? = some (x, id)) : bootBuiltins x = some (.type id) := by
  cases b <;> simp only [Blt.cls?, Option.some.injEq, Prod.mk.injEq, reduceCtorEq] at h <;> obtain ⟨rfl, rfl⟩ := h <;> decide +kernel
theorem ty_boot (t : Ty) : bootBuiltins (t.name : PySem.Str) = some (.type t.name) := by cases t <;> decide +kernel
theorem ty_plain (t : Ty) : plainName (t.name : PySem.Str) = true := by cases t <;> decide +kernel
section
variable {X : Cx} {M : Md} {Γ : Stx} {P : Prg} {d : Nat}
theorem cr_fun (C : Ctx Γ M P d X) {b : Blt} {x : PySem.Str} {id : String} (h : b.fun? = some (x, id)) : CallR X (.builtin id) (rBlt M b) := by
  have hu := C.u
  cases b <;> simp only [Blt.fun?, Option.some.injEq, Prod.mk.injEq, reduceCtorEq] at h <;> obtain ⟨rfl, rfl⟩ := h
  · exact cr_len C.K
  · exact cr_repr C.K C.guards (by omega)
  · exact cr_allW C.K C.calm
  · exact cr_anyW C.K C.calm
  · exact cr_sortedW C.K C.calm
theorem cr_cls (C : Ctx Γ M P d X) {b : Blt} {x : PySem.Str} {id : String} (h : b.cls? = some (x, id)) : CallR X (.type id) (rBlt M b) := by
  cases b <;> simp only [Blt.cls?, Option.some.injEq, Prod.mk.injEq, reduceCtorEq] at h <;> obtain ⟨rfl, rfl⟩ := h
  · exact cr_int
  · exact cr_tuple C.K
  · exact cr_list C.K
end
/-- a keyword's values, as expressions -/
def kwVals : List Keyword → List Expr
  | [] => []
  | k :: r => k.value :: kwVals r
def permOk (ks : List Nat) (n : Nat) : Bool := decide (ks.length = n) && (List.range n).all fun j => match ks.findIdx? (· == j) with
  | some i => decide (i < n)
  | none => false
theorem permOk_len {ks : List Nat} {n : Nat} (h : permOk ks n = true) : ks.length = n ∧ ∀ {α : Type} (xs : List α), xs.length = n → (permL ks xs).length = n := by
  unfold permOk at h
  rw [Bool.and_eq_true] at h
  have hn := of_decide_eq_true h.1
  refine ⟨hn, fun {α} xs hx => ?_⟩
  have h2 := h.2
  unfold permL
  rw [hn]
  clear h hn
  have key : ∀ js : List Nat, (js.all fun j => match ks.findIdx? (· == j) with | some i => decide (i < n) | none => false) = true → (js.filterMap fun j => (ks.findIdx? (· == j)).bind fun i => xs[i]?).length = js.length := by
    intro js
    induction js with
    | nil => intro _; rfl
    | cons j js ih =>
      intro hj
      rw [List.all_cons, Bool.and_eq_true] at hj
      have h1 := hj.1
      split at h1
      · rename_i i hi
        have hlt : i < xs.length := by have := of_decide_eq_true h1; omega
        rw [List.filterMap_cons]
        simp only [hi, Option.bind_some, List.getElem?_eq_getElem hlt, List.length_cons, ih hj.2]
      · cases h1
  have := key _ h2
  rw [List.length_range] at this
  exact this
/-- an own name -/
def chkO (N : List PySem.Str) (sc : Scope) : T → Expr → Bool
  | .own i, e => match e with
    | .Name x _ => decide (N[i]? = some x) && isVis sc x && plainName x
    | _ => false
  | _, _ => false
mutual
def chkE (Γ : Stx) (N : List PySem.Str) (sc : Scope) : T → Expr → Bool
  | .var i, e => match e with
    | .Name x _ => decide (N[i]? = some x) && isVis sc x && plainName x
    | _ => false
  | .glob g, e => match e with
    | .Name x _ => decide (Γ.globs[g]? = some x) && isGl sc x && plainName x
    | _ => false
  | .int i, e => match e with
    | .Constant (.int j) _ _ => decide (i = j)
    | _ => false
  | .str s, e => match e with
    | .Constant (.str x) _ _ => decide (x = toS s)
    | _ => false
  | .bl b, e => match e with
    | .Constant (.bool c) _ _ => b == c
    | _ => false
  | .non, e => match e with
    | .Constant .none _ _ => true
    | _ => false
  | .tup es, e => match e with
    | .Tuple xs _ _ => chkEs Γ N sc es xs
    | _ => false
  | .lst es, e => match e with
    | .List xs _ => chkEs Γ N sc es xs
    | _ => false
  | .dnew ks es, e => match e with
    | .Dict keys xs _ => decide (keys.map txtKey = ks.map some) && !keys.isEmpty && decide (keys.length ≤ 15) && decide (keys.length = xs.length) && chkEs Γ N sc es xs
    | _ => false
  | .dempty, e => match e with
    | .Dict [] [] _ => true
    | _ => false
  | .bin op a b, e => match e with
    | .BinOp x o y _ => decide (o = op.py) && (chkO N sc a x || chkE Γ N sc a x) && (chkO N sc b y || chkE Γ N sc b y)
    | _ => false
  | .neg a, e => match e with
    | .UnaryOp .USub x _ => chkE Γ N sc a x
    | _ => false
  | .cmp op a b, e => match e with
    | .Compare x [o] [y] _ => decide (o = op.py) && (chkO N sc a x || chkE Γ N sc a x) && (chkO N sc b y || chkE Γ N sc b y) && isNice y
    | _ => false
  | .chn op op' a b c, e => match e with
    | .Compare x [o, o'] [y, z] _ => decide (o = op.py) && decide (o' = op'.py) && (chkO N sc a x || chkE Γ N sc a x) && (chkO N sc b y || chkE Γ N sc b y) && (chkO N sc c z || chkE Γ N sc c z) && isNice z
    | _ => false
  | .andN es, e => match e with
    | .BoolOp .And xs _ => !es.isNil && chkEs Γ N sc es xs
    | _ => false
  | .orN es, e => match e with
    | .BoolOp .Or xs _ => !es.isNil && chkEs Γ N sc es xs
    | _ => false
  | .not a, e => match e with
    | .UnaryOp .Not x _ => chkE Γ N sc a x
    | _ => false
  | .ife c a b, e => match e with
    | .IfExp z x y _ => chkE Γ N sc c z && chkE Γ N sc a x && chkE Γ N sc b y
    | _ => false
  | .idx a i, e => match e with
    | .Subscript x y _ => (chkO N sc a x || chkE Γ N sc a x) && chkE Γ N sc i y && isNice y
    | _ => false
  | .dget a i, e => match e with
    | .Subscript x y _ => (chkO N sc a x || chkE Γ N sc a x) && chkE Γ N sc i y && isNice y
    | _ => false
  | .slc a lo hi, e => match e with
    | .Subscript x (.Slice l h none _) _ => (chkO N sc a x || chkE Γ N sc a x) && (match l with | none => lo.isNil | some y => !lo.isNil && chkE Γ N sc lo y) && (match h with | none => hi.isNil | some y => !hi.isNil && chkE Γ N sc hi y)
    | _ => false
  | .call f es, e => match e with
    | .Call (.Name x _) (y :: ys) [] _ => (match Γ.fns[f]? with
        | some (z, ps) => decide (x = z) && decide ((y :: ys).length = ps.length)
        | none => false) && isGl sc x && plainName x && chkEs Γ N sc es (y :: ys)
    | _ => false
  | .callk f ks es, e => match e with
    | .Call (.Name x _) [] kws _ => (match Γ.fns[f]? with
        | some (z, ps) => decide (x = z) && permOk ks ps.length && decide ((kwVals kws).length = ps.length) && decide (kws.filterMap (·.arg) = ks.map fun i => ps.getD i "")
        | none => false) && Γ.kws.contains (f, ks) && kws.all (·.arg.isSome) && isGl sc x && plainName x && chkEs Γ N sc es (kwVals kws)
    | _ => false
  | .isi a t, e => match e with
    | .Call (.Name x _) [y, .Name z _] [] _ => decide (x = "isinstance") && decide (z = (t.name : PySem.Str)) && isGl sc x && isGl sc z && Γ.blts.contains x && Γ.blts.contains z && (chkO N sc a y || chkE Γ N sc a y) && isNice y
    | _ => false
  | .blt b a, e => match e with
    | .Call (.Name x _) [y] [] _ => isGl sc x && Γ.blts.contains x && plainName x && (chkO N sc a y || chkE Γ N sc a y) && isNice y && (decide ((b.fun?.map (·.1)) = some x) || decide ((b.cls?.map (·.1)) = some x))
    | _ => false
  | .rev a, e => match e with
    | .Subscript x (.Slice none none (some (.UnaryOp .USub (.Constant (.int j) _ _) _)) _) _ => decide (j = 1) && (chkO N sc a x || chkE Γ N sc a x)
    | _ => false
  | .lset a, e => match e with
    | .Call (.Name x _) [.Call (.Name z _) [y] [] _] [] _ => decide (x = "len") && decide (z = "set") && isGl sc x && isGl sc z && Γ.blts.contains x && Γ.blts.contains z && (chkO N sc a y || chkE Γ N sc a y) && isNice y
    | _ => false
  | .sortS a, e => match e with
    | .Call (.Name x _) [.Call (.Name z _) [y] [] _] [] _ => decide (x = "sorted") && decide (z = "set") && isGl sc x && isGl sc z && Γ.blts.contains x && Γ.blts.contains z && (chkO N sc a y || chkE Γ N sc a y) && isNice y
    | _ => false
  | .sortI i, e => match e with
    | .Call (.Name x _) [.Call (.Attribute (.Name y _) m ap) [] [] cp] [] _ => decide (x = "sorted") && decide (m = "items") && isGl sc x && Γ.blts.contains x && decide (N[i]? = some y) && isVis sc y && plainName y && (ap.endLine == cp.line)
    | _ => false
  | .revT a, e => match e with
    | .Subscript x (.Slice none none (some (.UnaryOp .USub (.Constant (.int j) _ _) _)) _) _ => decide (j = 1) && chkE Γ N sc a x
    | _ => false
  | .join s a, e => match e with
    | .Call (.Attribute x n ap) [y] [] p => decide (n = "join") && chkE Γ N sc s x && isBase x && (chkO N sc a y || chkE Γ N sc a y) && isNice y && (ap.endLine == p.line)
    | _ => false
  | .comp i it c el, e => match e with
    | .ListComp elt [⟨.Name x _, iter, ifs, g⟩] scope _ => decide (g = 0) && decide (N[i]? = some x) && blkC N sc scope [(x, i)] && decide ((relS scope sc).names.lookup x = some .local) && decide (scope.names.lookup x = some .local) && isNice iter && (chkI Γ N sc it iter || chkE Γ N sc it iter) &&
        (match ifs with
          | [] => c.isNil
          | [z] => !c.isNil && chkE Γ N (relS scope sc) c z
          | _ => false) && chkE Γ N (relS scope sc) el elt
    | _ => false
  | _, _ => false
def chkEs (Γ : Stx) (N : List PySem.Str) (sc : Scope) : T → List Expr → Bool
  | .nil, es => match es with
    | [] => true
    | _ => false
  | .cons a b, es => match es with
    | e :: r => chkE Γ N sc a e && isNice e && chkEs Γ N sc b r
    | _ => false
  | _, _ => false
/-- what a for walks -/
def chkI (Γ : Stx) (N : List PySem.Str) (sc : Scope) : T → Expr → Bool
  | .rng1 a, e => match e with
    | .Call (.Name x _) [y] [] _ => decide (x = "range") && isGl sc x && Γ.blts.contains x && chkE Γ N sc a y && isNice y
    | _ => false
  | .rng2 a b, e => match e with
    | .Call (.Name x _) [y, z] [] _ => decide (x = "range") && isGl sc x && Γ.blts.contains x && chkE Γ N sc a y && isNice y && chkE Γ N sc b z && isNice z
    | _ => false
  | _, _ => false
end
end MP
/-! MP: enumerate. -/
namespace PySem
open Sem (wp)
open AutoSeq1 (wpAny_loadPart')
set_option maxHeartbeats 1000000 in
theorem mx_enumerate_new {v : Value} {o : Obj} {H : Heap → Prop} (B : Begins v o H) :
    Meets (Builtin.«enumerate.__new__» ⟨[.type "enumerate", v], []⟩) (fun _ R s => H s.heap ∧
      R (.ok (.ret (.ref (s.heap.push o).objs.size))) { s with heap := (s.heap.push o).push { cls := .type "enumerate", data := .fields #[.none, .bool false, .ref s.heap.objs.size, rawInt 0, .none, .none] } }) :=
  .of_wp fun prog w A R s h => by
    obtain ⟨hp, g, d, tk, os⟩ := s; obtain ⟨h1, h⟩ := h
    have hsub := sub_enumerate
    have q1 : ∀ {A' : Around} {E : Value → Shared → Prop} {Q : Value → Shared → Prop}, Q (.ref hp.objs.size) ⟨hp.push o, g, d, tk, os⟩ → wpAny (model prog w) A' (pyIter v) Q E ⟨hp, g, d, tk, os⟩ :=
      fun q => B.iter prog w _ _ ⟨hp, g, d, tk, os⟩ _ h1 q
    wp_walk using q1
    refine wpAny_stack_any fun st => wpAny_pure ?_
    split
    · rename_i c _ _ _ _ _
      cases (c == Value.type "enumerate")
      · wp_walk using q1
        exact ⟨_, rfl, h⟩
      · wp_walk using q1
        exact ⟨_, rfl, h⟩
    · wp_walk using q1
      exact ⟨_, rfl, h⟩
section
variable {prog : Program} {w : World} {A : Around} {E : Value → Shared → Prop} {s : Shared}
theorem mx_call_enumerate {v : Value} {o : Obj} {H : Heap → Prop} {Q : Value → Shared → Prop} (B : Begins v o H) (h1 : H s.heap)
    (h : ∀ h', IsEnum h' (s.heap.objs.size + 1) s.heap.objs.size 0 .none → h'.get? s.heap.objs.size = some o → h'.objs.size = s.heap.objs.size + 2 →
      (∀ b o, s.heap.get? b = some o → h'.get? b = some o) → Q (.ref (s.heap.objs.size + 1)) { s with heap := h' }) :
    wpAny (model prog w) A (call (.type "enumerate") [v]) Q E s := by
  refine callType_new F.called_enumerate (by decide) (F.typeCall_enumerate_1 _) (F.newCall_enumerate_1 _) (fun obj => F.args_object_init_2 obj _) F.entry_enumerate_new
    (mx_enumerate_new B) ⟨h1, ?_⟩
  have hz : (s.heap.push o).objs.size = s.heap.objs.size + 1 := Heap.size_push ..
  show _ ∧ _
  rw [hz]
  have he : IsEnum ((s.heap.push o).push { cls := .type "enumerate", data := .fields #[.none, .bool false, .ref s.heap.objs.size, rawInt 0, .none, .none] }) (s.heap.objs.size + 1) s.heap.objs.size 0 .none := by
    have := Heap.get?_push_size (s.heap.push o) (o := { cls := .type "enumerate", data := .fields #[.none, .bool false, .ref s.heap.objs.size, rawInt 0, .none, .none] }) rfl
    rw [hz] at this; exact this
  refine ⟨⟨_, he, rfl⟩, h _ he (Heap.get?_push_of_some _ (Heap.get?_push_size _ B.free)) (by rw [Heap.size_push, hz]) fun b o x => Heap.get?_push_of_some _ (Heap.get?_push_of_some _ x)⟩
end
end PySem
namespace MP
open PySem PySem.Spec PyProof.Rows L2 TL NdefX
section
variable {M : Md} {G G0 : Fz} {H Z : Hp} {φ : Sto} {a : Addr} {o : HO}
theorem fresh_F (s : StoOk M G φ H) (h : H a = none) : G.F a = none := by
  cases q : G.F a with
  | none => rfl
  | some u => rw [s.le a u q] at h; cases h
theorem fresh_ι (s : StoOk M G φ H) (h : H a = none) : a ∉ G.ι := fun z => by
  obtain ⟨i, hi⟩ := List.mem_iff_getElem?.mp z
  have hlt : i < φ.length := by rw [← s.len]; exact (List.getElem?_eq_some_iff.mp hi).1
  exact (s.cell i φ[i] a (List.getElem?_eq_getElem hlt) hi).2.alive h
/-- a new object is laid and frozen -/
theorem laid_frz (s : StoOk M G φ H) (h : H a = none) : StoOk M (G.frz a o) φ (upd H a o) ∧ Ext G H (G.frz a o) (upd H a o) := by
  have s1 := sto_laid s (o := o) h
  have e1 := ext_laid s (o := o) h
  have hF := fresh_F s h
  have hι := fresh_ι s h
  refine ⟨sto_frz s1 hF hι upd_same, ?_⟩
  refine ⟨fun b u q => ?_, e1.keep, fun b h1 h2 h3 => ?_, e1.ι, e1.alive⟩
  · show upd G.F a o b = _
    rw [upd_ne (ne_of_none q hF)]; exact q
  · show upd G.F a o b = none
    rw [upd_ne (fun z => h1 (by rw [z]; exact h))]; exact h3
end
/-- the tuple at a, each item in a new pair -/
def Iet (K : PySem.W.Frag) (a : Addr) : It :=
  ⟨fun i H => ∃ (xs : List V) (x : V), SqT K H a xs ∧ xs[i]? = some x, fun i H v H' => ∃ T x, v = .ref T ∧ H T = none ∧ H' = upd H T (.tup [.int (i : Nat), x]) ∧ ∀ xs, SqT K H a xs → xs[i]? = some x, fun i H => ∃ xs : List V, SqT K H a xs ∧ xs.length ≤ i⟩
theorem turn_enumT {P : Program} {w : World} {K : PySem.W.Frag} {elts : List Expr} {kk : Nat} {tpos : Pos} (a e it : Addr) :
    Turn P w K (.Tuple elts kk tpos) (Iet K a) [e, it] e (fun i h => (∃ old, IsEnum h e it ((i : Nat) : Int) old) ∧ h.IsTupleIter it a i ∧ e ≠ it ∧ a ≠ it ∧ a ≠ e) where
  mem := by simp
  obj := fun i h st b hb => by
    obtain ⟨⟨old, he⟩, ⟨o, ho, hc, hd⟩, _⟩ := st
    have e' : b = e ∨ b = it := by simpa using hb
    rcases e' with z | z
    · rw [z]; exact ⟨_, he, fun v q => nomatch q⟩
    · rw [z]; exact ⟨o, ho, fun v q => by rw [hd] at q; cases q⟩
  keep := fun i h h' st k => let ⟨⟨old, he⟩, hi, hne⟩ := st; ⟨⟨old, k e (by simp) _ he⟩, hi.at fun o q => k it (by simp) o q, hne⟩
  item := by
    intro X hP hw hK hc i pins s σ H E I hf st hg
    subst hP hw hK
    obtain ⟨⟨old, he⟩, hit, hne, hai, hae⟩ := st
    obtain ⟨xs, x, hq, hx⟩ := hg
    obtain ⟨its, rv, p, hz⟩ := I.tuple hq
    have pt : s.heap.IsTuple a its.toArray := p
    obtain ⟨u, hu, ru⟩ := rv.get hx
    have hel : e < s.heap.objs.size := Heap.lt_size he
    have hil : it < s.heap.objs.size := by obtain ⟨_, q, _⟩ := hit; exact Heap.lt_size q
    have hlt : i < its.toArray.size := by
      have : i < its.length := (List.getElem?_eq_some_iff.mp hu).1
      simpa using this
    refine wpAny_pyNext_enum_itemD (Draws.tuple (A := X.A.in1) (by exact I.ok.hd hc) it a hai its.toArray) he ⟨hit, pt⟩ hlt hne (by simp; exact ⟨hne, fun z => hae z.symm⟩) fun x' h' tk' hP ho hst' hT hsz hk => ?_
    have ex : x' = u := by
      have hP' : its[i]? = some x' := by simpa using hP
      rw [hu] at hP'
      exact (Option.some.inj hP').symm
    subst ex
    obtain ⟨hit', _⟩ := hst'
    refine ⟨_, rfl, wpAny_letOwnedTupleGo_enum (s := { s with heap := h', toks := tk' + 1 }) ho fun h'' he' sb => ?_⟩
    have hT2 : h''.get? s.heap.objs.size = some { cls := .type "tuple", data := .seq #[.int i tk', x'] } := (sb.2 _ (Nat.ne_of_gt hel)).trans hT
    have new : ObjOk X.prog X.w (upd H s.heap.objs.size (.tup [.int (i : Nat), x])) h'' s.heap.objs.size (.tup [.int (i : Nat), x]) :=
      ⟨by show 2 ≤ sizeLine; decide, [.int i tk', x'], .cons ⟨_, rfl⟩ (.cons ru .nil), ⟨_, hT2, rfl, _, rfl⟩⟩
    have I1 : Inv X pins σ (upd H s.heap.objs.size (.tup [.int (i : Nat), x])) { s with heap := h'', toks := tk' + 1 } :=
      I.turnedNew (ch := [e, it]) (fun b ob hb q => (sb.2 b (fun z => hb (by simp [z]))).trans (hk b ob (fun z => hb (by simp [z])) (fun z => hb (by simp [z])) q)) hf (Nat.le_refl _) new
    refine ⟨.ref s.heap.objs.size, _, I1, rfl, ⟨_, x, rfl, I.hok.fresh (Nat.le_refl _), rfl, fun ys hy => by rw [I.tuple_inj hy hq]; exact hx⟩, ⟨⟨x', ?_⟩, hit'.at fun o q => (sb.2 it (Ne.symm hne)).trans q, hne, hai, hae⟩, fun b hb => ?_⟩
    · have e1 : ((i + 1 : Nat) : Int) = (i : Int) + 1 := by omega
      rw [e1]; exact he'
    · have hb' : b < s.heap.objs.size := by
        have e' : b = e ∨ b = it := by simpa using hb
        rcases e' with z | z
        · rw [z]; exact hel
        · rw [z]; exact hil
      rw [upd_ne (Nat.ne_of_lt hb')]
      exact (hf b hb).1
  done := by
    intro X hP hw hK hc i pins s σ H E I hf st hg
    subst hP hw hK
    obtain ⟨⟨old, he⟩, hit, hne, hai, hae⟩ := st
    obtain ⟨xs, hq, hx⟩ := hg
    obtain ⟨its, rv, p, hz⟩ := I.tuple hq
    have pt : s.heap.IsTuple a its.toArray := p
    obtain ⟨f0, f1, f2, f3, f4, f5⟩ := hf it (by simp)
    have hl := rv.length
    have hnone : its.toArray[i]? = none := by simp; omega
    have hT : s.TypeIs (.ref e) "enumerate" := ⟨_, he, rfl⟩
    unfold pyNext
    refine wpAny_bind (wpAny_attempt (wpAny_callSpecial?_slot (name := PySem.Str.ofString "__next__") hT PySem.F.slot_enumerate_next
      (wpAny_call_entry PySem.F.slot_enumerate_next hT PySem.F.entry_enumerate_next ?_ (PySem.F.args_enumerate_next_1 _))))
    show wpAny _ _ (field (.ref e) 2 >>= _) _ _ _
    refine wpAny_bind (wpAny_field he rfl (x := .ref it) rfl ?_)
    refine wpAny_bind (wpAny_nextOf_tuple_end (A := X.A.in1) (by exact I.ok.hd hc) hit pt hnone fun h' x eb hx' => ?_)
    obtain ⟨o, ho, hco⟩ := hx'
    refine wpAny_bind (wpAny_isInstance (T := "StopIteration") (b := true) ⟨o, ho, hco⟩ isSubtype_stop ?_)
    exact wpAny_pure ⟨rfl, I.turned (t' := s.toks) (fun b o hb q => eb b o hb q) f0 f1 f3 f4 f5⟩
  self := fun A i s Q E st h => let ⟨⟨_, he⟩, _⟩ := st; wpAny_pyIter_enum he h
def iEnumT (K : PySem.W.Frag) (ta : TA) : TI := fun σ H R => ta σ H fun vs H1 => ∃ a xs, vs = [.ref a] ∧ SqT K H1 a xs ∧ R (Iet K a) H1
theorem pi_enumT {X : Cx} {e : Expr} {ta : TA} {p pos tpos : Pos} {elts : List Expr} {kk : Nat} (hg : Gl X "enumerate") (hm : X.mg "enumerate" = none) (ha : PA X [e] ta) (hs : starEach [e] X.env = [(false, eval e X.env)] := by rfl) :
    PI X (.Tuple elts kk tpos) (.Call (.Name "enumerate" p) [e] [] pos) (iEnumT X.K ta) := by
  refine ⟨fun pins s σ H R I h => ?_⟩
  refine Call_ (ld_blt I hg hm PyProof.Rows.Boot.«enumerate» (PyProof.Rows.callWith_type1 (thn (ha.run pos pins s σ H _ I h) fun us s1 ⟨vs, H1, I1, r1, q1⟩ => ?_) hs rfl) (by decide) (by decide))
  obtain ⟨a, xs, ex, hq, q⟩ := q1
  subst ex
  cases r1 with
  | cons r rr =>
    cases rr
    cases r
    obtain ⟨its, rv, p', hz⟩ := I1.tuple hq
    have pt : s1.heap.IsTuple a its.toArray := p'
    have hal : a < s1.heap.objs.size := by obtain ⟨o, ho, _⟩ := pt; exact Heap.lt_size ho
    refine mx_call_enumerate (begins_tuple a its.toArray) pt fun h' he hit hsz hk => wpAny_pyIter_enum he ?_
    have I2 : Inv X pins σ H1 { s1 with heap := h' } := I1.kept (t' := s1.toks) hk
    refine ⟨s1.heap.objs.size + 1, [s1.heap.objs.size + 1, s1.heap.objs.size], _, _, H1, rfl, I2, turn_enumT a (s1.heap.objs.size + 1) s1.heap.objs.size, ⟨⟨.none, he⟩, ⟨_, hit, rfl, rfl⟩, Nat.succ_ne_self _, Nat.ne_of_lt hal, Nat.ne_of_lt (Nat.lt_succ_of_lt hal)⟩, fun b hb => ?_, q⟩
    have e' : b = s1.heap.objs.size + 1 ∨ b = s1.heap.objs.size := by simpa using hb
    have hle : s1.heap.objs.size ≤ b := by
      rcases e' with z | z
      · rw [z]; exact Nat.le_add_right _ _
      · rw [z]; exact Nat.le_refl _
    exact I1.fpOk hle (I1.hok.fresh hle)
/-! ### in the evaluator's words -/
theorem enumW_get : ∀ {ws : List W} {k i : Nat} {w : W}, ws[i]? = some w → (enumW k ws)[i]? = some (.tup [.int ((k + i : Nat) : Int), w])
  | [], _, _, _, h => by simp at h
  | w :: ws, k, 0, v, h => by
    simp only [List.getElem?_cons_zero, Option.some.injEq] at h
    subst h
    rfl
  | w :: ws, k, i + 1, v, h => by
    rw [List.getElem?_cons_succ] at h
    show (enumW (k + 1) ws)[i]? = _
    rw [enumW_get h, show k + 1 + i = k + (i + 1) by omega]
theorem enumW_len : ∀ {ws : List W} {k : Nat}, (enumW k ws).length = ws.length
  | [], _ => rfl
  | w :: ws, k => by
    show (enumW (k + 1) ws).length + 1 = _
    rw [enumW_len]; rfl
section
variable {M : Md} {G : Fz} {a : Addr} {vs : List V} {ws : List W}
theorem enum_yld {G' : Fz} {H H' : Hp} {φ : Sto} {x : V} {T : Addr} {i : Nat} {v : V} {w : W} (le : G.Le G') (s : StoOk M G' φ H) (hT : H T = none) (ex : x = .ref T) (eH : H' = upd H T (.tup [.int (i : Nat), v])) (hw : ws[i]? = some w) (r : Rep M G v w) :
    ∃ G2 u, (enumW 0 ws)[i]? = some u ∧ Ext G' H G2 H' ∧ StoOk M G2 φ H' ∧ Rep M G2 x u := by
  subst ex eH
  obtain ⟨s2, e2⟩ := laid_frz (o := HO.tup [.int (i : Nat), v]) s hT
  refine ⟨_, _, enumW_get hw, e2, s2, ?_⟩
  rw [Nat.zero_add]
  simp only [Rep]
  refine ⟨T, [.int (i : Nat), v], rfl, .inl (.inl upd_same), ?_, ?_, trivial⟩
  · simp only [Rep]
  · exact Rep.mono (le.trans e2.le) _ _ r
theorem goes_enumL (h : LstR M.K G.F a vs) (r : Reps M G vs ws) : Goes M G (Ite M.K a) (enumW 0 ws) := by
  have rd : ∀ {G' : Fz} {H : Hp} {φ : Sto}, G.Le G' → StoOk M G' φ H → SqL M.K H a vs := fun le s => (lstR_mono (le.F.trans s.le) h).sq
  refine ⟨fun i G' H φ le s hi => ?_, fun i G' H φ x H' le s hi y => ?_, fun i G' H φ le s hi => ⟨vs, rd le s, by rw [r.length]; rw [enumW_len] at hi; exact hi⟩⟩
  · have hv : i < vs.length := by rw [r.length]; rw [enumW_len] at hi; exact hi
    exact ⟨vs, vs[i], rd le s, List.getElem?_eq_getElem hv⟩
  · obtain ⟨T, v, ex, hT, eH, hx⟩ := y
    obtain ⟨w, hw, rw'⟩ := r.get (hx vs (rd le s))
    exact enum_yld le s hT ex eH hw rw'
theorem goes_enumT (h : SqT M.K G.F a vs) (r : Reps M G vs ws) : Goes M G (Iet M.K a) (enumW 0 ws) := by
  have rd : ∀ {G' : Fz} {H : Hp} {φ : Sto}, G.Le G' → StoOk M G' φ H → SqT M.K H a vs := fun le s => sqT_mono (le.F.trans s.le) h
  refine ⟨fun i G' H φ le s hi => ?_, fun i G' H φ x H' le s hi y => ?_, fun i G' H φ le s hi => ⟨vs, rd le s, by rw [r.length]; rw [enumW_len] at hi; exact hi⟩⟩
  · have hv : i < vs.length := by rw [r.length]; rw [enumW_len] at hi; exact hi
    exact ⟨vs, vs[i], rd le s, List.getElem?_eq_getElem hv⟩
  · obtain ⟨T, v, ex, hT, eH, hx⟩ := y
    obtain ⟨w, hw, rw'⟩ := r.get (hx vs (rd le s))
    exact enum_yld le s hT ex eH hw rw'
end
section
variable {X : Cx} {S : Sit} {a : Expr} {pos tpos p : Pos} {elts : List Expr} {kk : Nat} {fa : Loc → Sto → Out W}
theorem i_enum (hK : X.K = S.M.K) (hg : Gl X "enumerate") (hm : X.mg "enumerate" = none) (ha : PE X a (rd S (RV S.M) fa)) (hs : starEach [a] X.env = [(false, eval a X.env)]) :
    PI X (.Tuple elts kk tpos) (.Call (.Name "enumerate" p) [a] [] pos) (wI S fun ρ φ => (fa ρ φ).bind fun x φ1 => .ofO (opEnum x) φ1) :=
  PIimp (PIor (pi_enum hg hm (pa_cons ha pa_nil (by rw [hs]; rfl)) hs) (pi_enumT hg hm (pa_cons ha pa_nil (by rw [hs]; rfl)) hs)) fun σ H R ⟨G, ρ, φ, s, l, q⟩ => by
  rw [Out.holds_bind] at q
  cases hf : fa ρ φ with
  | bad => rw [hf] at q; exact q.elim
  | exc x φ1 =>
    rw [hf] at q
    exact .inl ⟨G, ρ, φ, s, l, by rw [hf]; exact q⟩
  | ok x φ1 =>
    rw [hf] at q
    obtain ⟨ws, hw, pp⟩ := holds_ofO (show (Out.ofO (opEnum x) φ1).holds _ _ from q)
    cases x <;> simp only [opEnum, reduceCtorEq, Option.some.injEq] at hw
    case lst zs =>
      subst hw
      refine .inl ⟨G, ρ, φ, s, l, ?_⟩
      rw [hf]
      intro G1 H1 v e1 s1 r1
      have r1' : Rep S.M G1 v (.lst zs) := r1
      simp only [Rep] at r1'
      obtain ⟨b, vs, rfl, hb, rs⟩ := r1'
      rw [hK]
      exact ⟨b, vs, rfl, (lstR_mono s1.le hb).sq, pp G1 H1 _ e1 s1 (goes_enumL hb rs)⟩
    case tup zs =>
      subst hw
      refine .inr ⟨G, ρ, φ, s, l, ?_⟩
      rw [hf]
      intro G1 H1 v e1 s1 r1
      have r1' : Rep S.M G1 v (.tup zs) := r1
      simp only [Rep] at r1'
      obtain ⟨b, vs, rfl, hb, rs⟩ := r1'
      rw [hK]
      exact ⟨b, vs, rfl, sqT_mono s1.le hb, pp G1 H1 _ e1 s1 (goes_enumT hb rs)⟩
end
end MP
/-! MP: sorted(d.items()) of an own dict of texts. -/
namespace MP
open PySem PySem.Spec PyProof.Rows L2 TL
section
variable {prog : Program} {w : World} {A : Around} {E : Value → Shared → Prop} {s : Shared}
theorem srt_pairs {vs : List Value} {k : Value → PySem.Str × PySem.Str} {a : Addr} {n : Nat} {Q : Value → Shared → Prop} (ho : s.heap.get? a = some (seqObj "list" vs.toArray n)) (hz : vs.length ≤ sizeLine) (hp : ∀ v ∈ vs, PairS s.heap v (k v))
    (h : ∀ (out : List Value), out.Perm vs → ascP (out.map fun v => keyP (k v)) → Q .none { s with heap := sortedHeap s.heap a vs out.toArray }) :
    wpAny (model prog w) A (call (.builtin "list.sort") [.ref a]) Q E s := by
  refine wpAny_call_entry slot_list_sort ⟨_, ho, rfl⟩ entry_list_sort (SrtO.list_sort_ord (swo_pr fun v => keyP (k v)) ho hz (fun h2 => ?_) fun out hs hb => ⟨_, rfl, ?_⟩) (args_list_sort _)
  · intro h' keep
    have hp' : ∀ v ∈ vs, PairS h' v (k v) := fun v hm => (hp v hm).keeps fun b o e hcl => keep b o (fun z => by
      subst z
      rw [ho] at e
      cases e
      have hcl' : Value.type "list" = Value.type "tuple" := hcl
      simp at hcl') e
    obtain ⟨fs, f1, f2, f3⟩ := firstsS fun v hm => ⟨_, hp' v hm⟩
    refine ⟨tuples' true, fun Q E hq => ?_, cmpS hp'⟩
    refine PySem.W.kat_kind (T := .type "str") f1 (by omega) (fun f hm => ?_) (by rfl) ?_
    · obtain ⟨x, t, rfl⟩ := f3 f hm
      exact PySem.W.Looks.now
    · have e : (Value.type "str" != Value.type "tuple") = true := by first | decide +kernel | rfl | decide
      rw [e]
      exact hq
  · refine h out hb.perm ?_
    unfold ascP
    rw [List.pairwise_map]
    exact hs
theorem sorted_its {r d : Addr} {kvs : List (Key × Value)} {ep : Nat} {ks : List (PySem.Str × PySem.Str)} {Q : Value → Shared → Prop} (hh : A.handled = none) (hv : s.heap.IsItemsView r d) (hm : s.heap.DictAt (mixKind prog w) d kvs ep) (hn : kvs.length ≤ sizeLine)
    (hk : ∀ (j : Nat) (q : Key × Value), kvs[j]? = some q → ∃ p t, ks[j]? = some p ∧ q.1 = .inr p.1 ∧ q.2 = .str p.2 t)
    (h : ∀ (h' : Heap) (tk : Nat) (as : List Addr) (L : Addr) (out : List Value) (n : Nat), (∀ b o, s.heap.get? b = some o → h'.get? b = some o) → as.length = kvs.length → PySem.W.KdxG (mixKind prog w) kvs s.heap.objs.size h' as → (∀ H : Hp, HOk prog w H s.heap → H L = none) ∧ s.heap.get? L = none → L ∉ as → out.Perm (as.map Value.ref) →
      ascP (out.map fun v => keyP (pairAt h' v)) → (∀ (j : Nat) (a : Addr), as[j]? = some a → ∃ p, ks[j]? = some p ∧ PairS h' (.ref a) p ∧ pairAt h' (.ref a) = p) → h'.get? L = some (seqObj "list" out.toArray n) → Q (.ref L) { s with heap := h', toks := tk }) :
    wpAny (model prog w) A (call (.builtin "sorted") [.ref r]) Q E s := by
  refine Calls.call_function_entry kind_sorted plain_sorted entry_sorted (args_sorted1 _) ?_
  unfold Builtin.«sorted»
  refine wpAny_bind (m := checkCount "sorted" 1 1 _) (wpAny_pure ?_)
  refine wpAny_bind (PySem.W.kdx_collect (A := A.in1) (knd := mixKind prog w) (kvs := kvs) (ep := ep) hh hv hm hn fun h1 tk as k1 hl hG => ?_)
  refine wpAny_bind (wpAny_newList ?_ (by rw [List.length_map, hl]; exact hn))
  have hoL : (h1.push (seqObj "list" (as.map Value.ref).toArray 0)).get? h1.objs.size = some (seqObj "list" (as.map Value.ref).toArray 0) := Heap.get?_push_size _ rfl
  have k2 : ∀ b o, h1.get? b = some o → (h1.push (seqObj "list" (as.map Value.ref).toArray 0)).get? b = some o := fun b o e => Heap.get?_push_of_some _ e
  have ps : ∀ (j : Nat) (a : Addr), as[j]? = some a → ∃ p, ks[j]? = some p ∧ PairS h1 (.ref a) p := fun j a ha => by
    obtain ⟨key, k, x, e1, e2, e3⟩ := hG.pairs j a ha
    obtain ⟨p, t, f1, f2, f3⟩ := hk j _ e1
    have rk : RelV (kV k) key := relV_key (show keyIs k key = true from e2)
    have f2' : k = .inr p.1 := f2
    have f3' : x = .str p.2 t := f3
    subst f2' f3'
    obtain ⟨u, hu⟩ : ∃ u, key = .str p.1 u := rk
    subst hu
    exact ⟨p, f1, a, _, u, t, 0, rfl, e3, rfl, rfl⟩
  have asz : ∀ a ∈ as, a < h1.objs.size := fun a ha => hG.there ha
  generalize hL : h1.objs.size = L at hoL asz ⊢
  have hsz : (h1.push (seqObj "list" (as.map Value.ref).toArray 0)).objs.size = L + 1 := by rw [size_push', hL]
  generalize h1.push (seqObj "list" (as.map Value.ref).toArray 0) = h2 at hoL k2 hsz ⊢
  have mem : ∀ v ∈ as.map Value.ref, PairS h2 v (pairAt h2 v) := fun v hv => by
    obtain ⟨a, ha, rfl⟩ := List.mem_map.mp hv
    obtain ⟨j, hj⟩ := List.mem_iff_getElem?.mp ha
    obtain ⟨p, _, hp⟩ := ps j a hj
    have hp2 : PairS h2 (.ref a) p := hp.keeps fun b o e _ => k2 b o e
    rw [pairAt_of hp2]
    exact hp2
  refine wpAny_bind (wpAny_holding (srt_pairs (s := { s with heap := h2, toks := tk }) (k := pairAt h2) hoL (by rw [List.length_map, hl]; exact hn) mem fun out perm asc => ?_))
  obtain ⟨n, hn2⟩ := sortedHeap_at (vs := as.map Value.ref) (out := out.toArray) hoL
  have old : ∀ b o, h1.get? b = some o → (sortedHeap h2 L (as.map Value.ref) out.toArray).get? b = some o := fun b o e => by
    have hb : b < L := by rw [← hL]; exact Heap.lt_size e
    rw [sortedHeap_old (Nat.ne_of_lt hb) (by rw [hsz]; exact Nat.lt_succ_of_lt hb)]
    exact k2 b o e
  have pf : ∀ (j : Nat) (a : Addr), as[j]? = some a → ∃ p, ks[j]? = some p ∧ PairS (sortedHeap h2 L (as.map Value.ref) out.toArray) (.ref a) p ∧ pairAt (sortedHeap h2 L (as.map Value.ref) out.toArray) (.ref a) = p := fun j a hj => by
    obtain ⟨p, f1, hp⟩ := ps j a hj
    have hp2 := hp.keeps (h' := sortedHeap h2 L (as.map Value.ref) out.toArray) fun b o e _ => old b o e
    exact ⟨p, f1, hp2, pairAt_of hp2⟩
  refine wpAny_pure ⟨_, rfl, h _ _ as L out n (fun b o e => old b o (k1 b o e)) hl ⟨hG.rise, hG.above, fun j a hj => ?_⟩ ?_ (fun z => Nat.lt_irrefl _ (asz L z)) perm ?_ pf hn2⟩
  · obtain ⟨key, k, x, e1, e2, e3⟩ := hG.pairs j a hj
    exact ⟨key, k, x, e1, e2, old _ _ e3⟩
  · refine ⟨fun H ok => ?_, ?_⟩
    rotate_left
    · cases q : s.heap.get? L with
      | none => rfl
      | some u => exact absurd (Heap.lt_size (k1 _ _ q)) (by rw [hL]; exact Nat.lt_irrefl _)
    have ok1 := ok.kept (h' := h1) k1
    cases q : H L with
    | none => rfl
    | some u => exact absurd (ok1.lt q) (by rw [hL]; exact Nat.lt_irrefl _)
  · rw [show (out.map fun v => keyP (pairAt (sortedHeap h2 L (as.map Value.ref) out.toArray) v)) = out.map fun v => keyP (pairAt h2 v) from List.map_congr_left fun v hv => ?_]
    · exact asc
    · obtain ⟨a, ha, rfl⟩ := List.mem_map.mp (perm.mem_iff.mp hv)
      obtain ⟨j, hj⟩ := List.mem_iff_getElem?.mp ha
      obtain ⟨p, _, hp, e1⟩ := pf j a hj
      obtain ⟨p', _, hp'⟩ := ps j a hj
      have hp2 : PairS h2 (.ref a) p' := hp'.keeps fun b o e _ => k2 b o e
      have hp3 := hp'.keeps (h' := sortedHeap h2 L (as.map Value.ref) out.toArray) fun b o e _ => old b o e
      rw [pairAt_of hp2, pairAt_of hp3]
end
theorem strKV_cons {kv : DK × W} {r : List (DK × W)} {ps : List P2} (h : strKV (kv :: r) = some ps) : ∃ k v qs, kv = (.inr k, .str v) ∧ strKV r = some qs ∧ ps = (k, v) :: qs := by
  obtain ⟨k, v⟩ := kv
  cases k with
  | inl i => cases v <;> simp [strKV] at h
  | inr k =>
    cases v <;> simp [strKV] at h
    obtain ⟨qs, h1, rfl⟩ := h
    exact ⟨k, _, qs, rfl, h1, rfl⟩
section
variable {M : Md} {G : Fz} {φ : Sto}
/-- what the dict's entries are -/
theorem kv_texts : ∀ {es : List (Key × V)} {kvs : List (DK × W)} {ps : List P2}, Repk M G es kvs → strKV kvs = some ps → es = ps.map fun p => (Sum.inr (toS p.1), V.str (toS p.2))
  | [], [], ps, _, h => by
    simp only [strKV, Option.some.injEq] at h
    subst h; rfl
  | [], _ :: _, _, h, _ => h.elim
  | _ :: _, [], _, h, _ => h.elim
  | (k, v) :: es, kv :: kvs, ps, h, h2 => by
    obtain ⟨k', v', qs, rfl, h3, rfl⟩ := strKV_cons h2
    obtain ⟨e1, e2, e3⟩ := h
    have e2' : v = .str (toS v') := by simpa only [Rep] using e2
    rw [List.map_cons, ← kv_texts e3 h3, e1, e2']
    rfl
/-- new pairs, laid and frozen -/
theorem laid_pairs : ∀ (as : List Addr) (ps : List P2) (G : Fz) (H : Hp), as.length = ps.length → as.Nodup → StoOk M G φ H → (∀ a ∈ as, H a = none) →
    ∃ G', StoOk M G' φ (LiI.putT H as (ps.map fun p => (Sum.inr (toS p.1), V.str (toS p.2)))) ∧ Ext G H G' (LiI.putT H as (ps.map fun p => (Sum.inr (toS p.1), V.str (toS p.2)))) ∧ ∀ (j : Nat) (a : Addr) (p : P2), as[j]? = some a → ps[j]? = some p → Rep M G' (.ref a) (pairW p)
  | [], [], G, H, _, _, s, _ => ⟨G, s, .refl s, fun j a p h _ => by simp at h⟩
  | [], _ :: _, _, _, h, _, _, _ => by simp at h
  | _ :: _, [], _, _, h, _, _, _ => by simp at h
  | a :: as, p :: ps, G, H, hl, nd, s, hn => by
    rw [List.nodup_cons] at nd
    obtain ⟨s1, e1⟩ := laid_frz (o := HO.tup [kV (.inr (toS p.1)), V.str (toS p.2)]) s (hn a List.mem_cons_self)
    obtain ⟨G', s2, e2, h2⟩ := laid_pairs as ps _ _ (by simpa using hl) nd.2 s1 (fun b hb => by rw [upd_ne (show b ≠ a from fun z => nd.1 (by rw [← z]; exact hb))]; exact hn b (List.mem_cons_of_mem _ hb))
    refine ⟨G', s2, e1.trans e2, fun j b q h1 h3 => ?_⟩
    cases j with
    | zero =>
      simp only [List.getElem?_cons_zero, Option.some.injEq] at h1 h3
      subst h1 h3
      simp only [pairW, Rep]
      refine ⟨a, [V.str (toS p.1), V.str (toS p.2)], rfl, sqT_mono e2.F (.inl (.inl upd_same)), ?_, ?_, trivial⟩
      · simp only [Rep]
      · simp only [Rep]
    | succ j => exact h2 j b q (by simpa using h1) (by simpa using h3)
end
section
variable {X : Cx} {S : Sit} {i : Nat} {x : PySem.Str} {p apos cpos pos xp : Pos}
theorem s_sortI (gv : Nat → Option W) (call : Calls) (hc : X.calm = true) (hg : Gl X "sorted") (hm : X.mg "sorted" = none) (hN : X.N[i]? = some x) (hv : Vis X.env.scope x) (hd : plainName x = true) (hbase : attributeBase (.Name x xp) "items" X.env (eval (.Name x xp) X.env) = eval (.Name x xp) X.env) (hline : (apos.endLine == cpos.line) = true)
    (hs : starEach [.Call (.Attribute (.Name x xp) "items" apos) [] [] cpos] X.env = (false, eval (.Call (.Attribute (.Name x xp) "items" apos) [] [] cpos) X.env) :: starEach [] X.env) :
    PE X (.Call (.Name "sorted" p) [.Call (.Attribute (.Name x xp) "items" apos) [] [] cpos] [] pos) (rd S (RB S.M) (evalE gv call (.sortI i))) := by
  refine ⟨fun pins s σ H Q I ⟨G, ρ, φ, st, l, q⟩ => ?_⟩
  refine wpAny_Call_Name_kw (ld_blt I hg hm PyProof.Rows.Boot.«sorted» ?_ (by decide) (by decide))
  refine PyProof.Rows.callWith_builtin1 ?_ hs rfl
  rw [hs]
  show wpAny _ _ (spliced ((false, eval (.Call (.Attribute (.Name x xp) "items" apos) [] [] cpos) X.env) :: backTo pos (starEach [] X.env))) _ _ s
  refine Calls.spliced_cons ?_
  have q' : (match ρ[i]? with
    | some (.own (.dct kvs)) => .ofO ((strKV kvs).map fun ps => .lst ((sortP ps).map pairW)) φ
    | _ => .bad : Out W).holds (fun w φ' => Post S.M (RB S.M) G H w φ' Q) (fun x φ' => PostX S.M G H φ' x fun c dd H' => S.Wx c dd σ H') := q
  split at q'
  rotate_left
  · exact q'.elim
  rename_i kvs hρ
  obtain ⟨w, hw, pq⟩ := holds_ofO q'
  obtain ⟨ps, hps, rfl⟩ := Option.map_eq_some_iff.mp hw
  obtain ⟨a, hσ, hZ, hown⟩ := l.at_ i _ hρ
  obtain ⟨es, hHa, rk⟩ := (show ∃ es, H a = some (.dK es) ∧ Repk S.M G es kvs from hown.rep)
  have ees := kv_texts rk hps
  refine wpAny_Call_method (T := "dict") (id := "dict.items") hbase rfl hline PySem.F.plainAttrs_dict PySem.F.slot_dict_items PySem.F.type_dict_items (thn ((pe_var (pos := xp) hN hv (plain1 hd) (plain2 hd)).run pins s σ H (fun v H1 => v = .ref a ∧ H1 = H) I ⟨.ref a, hσ, rfl, rfl⟩) fun u s1 ⟨y, H1, I1, rx, ey, eH⟩ => ?_)
  subst ey eH
  obtain rfl : u = Value.ref a := rx
  obtain ⟨hz, hs0, vs, kv, hdo⟩ := I1.hok a _ hHa
  obtain ⟨ep, hat⟩ := hdo.dictAt
  have lk : es.length = vs.length := Paired.length kv
  have I2 : Inv X pins σ H1 { s1 with heap := s1.heap.push { cls := .type "dict_items", data := .fields #[.ref a] } } := I1.kept (t' := s1.toks) fun b ob q => Heap.get?_push_of_some _ q
  refine ⟨hdo.typeIs, hdo.mapOf.noDict, ?_⟩
  show wpAny _ _ (callWith cpos (.builtin "dict.items") [.ref a] [] []) _ X.xe s1
  refine method_meetsIn PySem.F.slot_dict_items PySem.F.entry_dict_items rfl (PySem.evalArgs_none ⟨rfl, hdo.typeIs, PySem.F.args_dict_items_1 _, _, meets_dict_items (mixKind X.prog X.w) a hs0, ⟨vs, hdo⟩, ?_⟩)
  refine Calls.spliced_nil ?_
  have hk : ∀ (j : Nat) (q : Key × Value), vs[j]? = some q → ∃ (p : PySem.Str × PySem.Str) (t : Tok), (ps.map fun p => (toS p.1, toS p.2))[j]? = some p ∧ q.1 = .inr p.1 ∧ q.2 = .str p.2 t := fun j q hq => by
    have hj : j < ps.length := by
      have h1 := (List.getElem?_eq_some_iff.mp hq).1
      have h2 : es.length = ps.length := by rw [ees, List.length_map]
      omega
    have he : es[j]? = some (Sum.inr (toS ps[j].1), V.str (toS ps[j].2)) := by rw [ees, List.getElem?_map, List.getElem?_eq_getElem hj]; rfl
    obtain ⟨q2, hq2, e1, t, e2⟩ := LiI.paired_get kv he
    rw [hq] at hq2
    cases hq2
    exact ⟨_, t, by rw [List.getElem?_map, List.getElem?_eq_getElem hj]; rfl, e1.symm, e2⟩
  refine sorted_its (s := { s1 with heap := s1.heap.push { cls := .type "dict_items", data := .fields #[.ref a] } }) (kvs := vs) (ep := ep) (ks := ps.map fun p => (toS p.1, toS p.2)) (I1.ok.hd hc) ⟨_, Heap.get?_push_size _ rfl, rfl, rfl⟩ (hat.push _) (by omega) hk fun h' tk as L out n k1 hl hG hL hLas perm asc pf hget => ?_
  have nd : as.Nodup := List.Pairwise.imp (fun {a b} (h : a < b) => Nat.ne_of_lt h) hG.rise
  have new : ∀ t ∈ as, H1 t = none := fun t ht => I2.hok.fresh (Nat.le_of_lt (hG.above t ht))
  have newL : H1 L = none := hL.1 _ I2.hok
  have low : ∀ b o, (s1.heap.push { cls := .type "dict_items", data := .fields #[.ref a] }).get? b = some o → b ∉ as ∧ b ≠ L := fun b o e => ⟨fun z => absurd (Heap.lt_size e) (Nat.not_lt.mpr (Nat.le_of_lt (hG.above b z))), fun z => by
    rw [z, hL.2] at e; cases e⟩
  have off : ∀ b, b ∉ as → b ≠ L → upd (LiI.putT H1 as es) L (.lst (out.map backV)) b = H1 b := fun b h1 h2 => by rw [upd_ne h2, LiI.putT_off as es _ h1]
  have kp : ∀ b u, H1 b = some u → upd (LiI.putT H1 as es) L (.lst (out.map backV)) b = some u := fun b u e => by
    rw [off b (fun z => by rw [new b z] at e; cases e) (fun z => by rw [z, newL] at e; cases e)]
    exact e
  have atP := LiI.putT_at as es H1 (by omega) nd
  have refs : ∀ u ∈ out, ∃ b, u = Value.ref b := fun u hu => by
    obtain ⟨b, _, rfl⟩ := List.mem_map.mp (perm.mem_iff.mp hu)
    exact ⟨b, rfl⟩
  have olen : out.length = as.length := by rw [perm.length_eq, List.length_map]
  have J : Inv X pins σ (upd (LiI.putT H1 as es) L (.lst (out.map backV))) { s1 with heap := h', toks := tk } := by
    refine I2.call' (s' := { s1 with heap := h', toks := tk }) (ch := []) rfl ⟨fun b o q _ _ _ => k1 b o q, fun b o q _ _ _ => ⟨o.slots, k1 b o q⟩, fun b o q n _ => ?_, fun b o q _ => ⟨o, k1 b o q⟩, fun b xs q => kp b _ q, fun b o u q => kp b _ q, fun b ps q => ⟨#[], by rw [kp b _ q]; simp⟩⟩ (fun b u q => ?_) I2.bare fun b z => by simp at z
    · obtain ⟨z1, z2⟩ := low b o q
      rw [off b z1 z2]
      exact n
    · by_cases hb2 : b = L
      · subst hb2
        rw [upd_same] at q
        cases q
        refine ⟨by rw [List.length_map, olen, hl]; omega, out, n, vals_back refs, hget⟩
      · rw [upd_ne hb2] at q
        by_cases hb : b ∈ as
        · obtain ⟨j, pk, e1, e2, e3⟩ := LiI.paired_ix atP hb
          rw [e3] at q
          cases q
          obtain ⟨key, k, x, f1, f2, f3⟩ := hG.pairs j b e1
          obtain ⟨qv, g1, g2, g3⟩ := LiI.paired_get kv e2
          rw [f1] at g1
          cases g1
          have rkk : RelV (kV pk.1) key := by
            rw [g2]
            exact relV_key (show keyIs k key = true from f2)
          exact ⟨by show 2 ≤ sizeLine; decide, [key, x], .cons rkk (.cons g3 .nil), ⟨_, f3, rfl, _, rfl⟩⟩
        · rw [LiI.putT_off as es _ hb] at q
          exact (I2.hok b u q).stay (fun d v _ y => k1 d v y) (fun d y => kp d _ y) fun d xs y => kp d _ y
  obtain ⟨G', s2, e2, hrep⟩ := laid_pairs (M := S.M) (φ := φ) as ps G H1 (by rw [hl, ← lk, ees, List.length_map]) nd st new
  rw [← ees] at s2 e2
  refine ⟨.ref L, _, J, rfl, ?_⟩
  have memr : ∀ u ∈ out, Rep S.M G' (backV u) (pairW (keyP (pairAt h' u))) := fun u hu => by
    obtain ⟨b, hb, rfl⟩ := List.mem_map.mp (perm.mem_iff.mp hu)
    obtain ⟨j, hj⟩ := List.mem_iff_getElem?.mp hb
    obtain ⟨q, f1, f2, f3⟩ := pf j b hj
    rw [List.getElem?_map] at f1
    obtain ⟨q0, f4, rfl⟩ := Option.map_eq_some_iff.mp f1
    have := hrep j b q0 hj f4
    rw [f3, show keyP (toS q0.1, toS q0.2) = q0 from Prod.ext (cpl_toS q0.1) (cpl_toS q0.2)]
    exact this
  have e4 : out.map (fun u => keyP (pairAt h' u)) = sortP ps := ascP_uniq asc (sortP_asc ps) (by
    refine (perm.map _).trans (List.Perm.trans ?_ (sortP_perm ps).symm)
    rw [List.map_map]
    refine List.Perm.of_eq (List.ext_getElem? fun j => ?_)
    rw [List.getElem?_map]
    cases hj : as[j]? with
    | none =>
      rw [List.getElem?_eq_none_iff] at hj
      have : es.length = ps.length := by rw [ees, List.length_map]
      rw [List.getElem?_eq_none (by omega)]; rfl
    | some b =>
      obtain ⟨q, f1, f2, f3⟩ := pf j b hj
      rw [List.getElem?_map] at f1
      obtain ⟨q0, f4, rfl⟩ := Option.map_eq_some_iff.mp f1
      rw [f4]
      show some (keyP (pairAt h' (.ref b))) = some q0
      rw [f3, show keyP (toS q0.1, toS q0.2) = q0 from Prod.ext (cpl_toS q0.1) (cpl_toS q0.2)])
  have rr : Reps S.M G' (out.map backV) ((sortP ps).map pairW) := by
    rw [← e4, List.map_map]
    exact reps_map fun u hu => memr u hu
  exact post_lst s2 (by rw [LiI.putT_off as es _ hLas]; exact newL) rr (pq.extB e2)
end
end MP
/-! MP: t[::-1] of a tuple. -/
namespace HT
open PySem PyProof.Rows
open PySem.SeqAt
open PySem.AutoSeq1 (wpAny_loadPart')
open PySem.MeetsSeq PySem.MeetsSeq2 PySem.MeetsSeq3
section
variable {prog : Program} {w : World} {A : Around} {E : Value → Shared → Prop} {s : Shared}
theorem places_back (n : Nat) : Builtin.Slice.slicePlaces ((n : Int) - 1) (-1) (-1) = n := by
  unfold Builtin.Slice.slicePlaces
  rw [if_neg (by decide)]
  by_cases h : n = 0
  · subst h; rfl
  · rw [if_pos (by omega)]
    have e : ((n : Int) - 1 - -1 - 1) / (- -1) + 1 = n := by
      show ((n : Int) - 1 - -1 - 1) / 1 + 1 = n
      rw [Int.ediv_one]; omega
    rw [e]; rfl
theorem sliceApplied_back {sl : Addr} {vl vu vs : Value} {n : Nat} {Q : Int × Int × Nat → Shared → Prop} (hs : s.heap.IsSliceOf sl vl vu vs) (pl : IsPart vl none) (pu : IsPart vu none) (ps : IsPart vs (some (-1)))
    (h : Q ((n : Int) - 1, -1, n) s) : wpAny (model prog w) A (Builtin.Slice.sliceApplied (.ref sl) (pure (n : Int))) Q E s := by
  obtain ⟨os, hos, hcs, hds⟩ := id hs
  unfold Builtin.Slice.sliceApplied Builtin.Slice.sliceFields
  refine wpAny_bind (wpAny_bind (wpAny_field hos hds (x := vl) rfl (wpAny_bind (wpAny_field hos hds (x := vu) rfl (wpAny_bind (wpAny_field hos hds (x := vs) rfl (wpAny_pure ?_)))))))
  refine wpAny_bind (slicePart_ ps ?_)
  show wpAny _ _ (if ((-1 : Int) == 0) = true then _ else _) _ _ s
  rw [if_neg (by decide)]
  refine wpAny_bind (slicePart_ pl (wpAny_bind (slicePart_ pu (wpAny_bind (wpAny_pure ?_)))))
  show wpAny _ _ (pure ((n : Int) - 1, (-1 : Int), Builtin.Slice.slicePlaces ((n : Int) - 1) (-1) (-1))) _ _ s
  rw [places_back]
  exact wpAny_pure h
theorem fm_map {α β : Type} {f : α → Option β} {g : α → β} : ∀ {l : List α}, (∀ x ∈ l, f x = some (g x)) → l.filterMap f = l.map g
  | [], _ => rfl
  | x :: l, h => by
    rw [List.filterMap_cons_some (h x List.mem_cons_self), List.map_cons, fm_map fun y hy => h y (List.mem_cons_of_mem _ hy)]
theorem pick_back (xs : Array Value) : ((List.range xs.size).filterMap fun (m : Nat) => xs[((xs.size : Int) - 1 + (m : Int) * (-1)).toNat]?).toArray = xs.toList.reverse.toArray := by
  congr 1
  have key : (List.range xs.size).filterMap (fun (m : Nat) => xs[((xs.size : Int) - 1 + (m : Int) * (-1)).toNat]?) = (List.range xs.size).map fun m => xs.toList.reverse.getD m .none := by
    refine fm_map fun m hm => ?_
    have hm' : m < xs.size := List.mem_range.mp hm
    have e : ((xs.size : Int) - 1 + (m : Int) * (-1)).toNat = xs.size - 1 - m := by omega
    have h2 : xs.size - 1 - m < xs.size := by omega
    rw [e, Array.getElem?_eq_getElem h2]
    show _ = some (xs.toList.reverse.getD m .none)
    rw [List.getD_eq_getElem?_getD, List.getElem?_reverse (by simpa using hm'), Array.length_toList, List.getElem?_eq_getElem (by simpa using h2)]
    simp
  rw [key]
  refine List.ext_getElem? fun i => ?_
  rw [List.getElem?_map]
  by_cases hi : i < xs.size
  · rw [List.getElem?_range hi]
    show some (xs.toList.reverse.getD i .none) = _
    rw [List.getD_eq_getElem?_getD, List.getElem?_eq_getElem (by simpa using hi)]
    rfl
  · rw [List.getElem?_eq_none (by simp; omega), List.getElem?_eq_none (by simp; omega)]
    rfl
theorem getItem_tuple_back {t sl : Addr} {items : Array Value} {vl vu vs : Value} {Q : Value → Shared → Prop} (ht : IsTup s.heap t items) (hs : s.heap.IsSliceOf sl vl vu vs) (pl : IsPart vl none) (pu : IsPart vu none) (ps : IsPart vs (some (-1)))
    (h : Q (.ref s.heap.objs.size) { s with heap := s.heap.push { cls := .type "tuple", data := .seq items.toList.reverse.toArray } })
    (hsz : items.size ≤ sizeLine) : wpAny (model prog w) A (getItem (.ref t) (.ref sl)) Q E s := by
  have htake : sizeOk (.seq items.toList.reverse.toArray) := by
    show items.toList.reverse.toArray.size ≤ sizeLine
    rw [List.size_toArray, List.length_reverse, Array.length_toList]
    omega
  obtain ⟨os, hos, hcs, hds⟩ := id hs
  have hTs : s.TypeIs (.ref sl) "slice" := ⟨os, hos, hcs⟩
  unfold getItem
  try with_reducible refine wpAny_holding ?_
  first | refine wpAny_bind (wpAny_pure ?_) | skip
  refine wpAny_bind (wpAny_sequenceKey ht.typeIs (by decide) ?_)
  refine wpAny_bind (wpAny_callSpecial?_slot (name := Str.ofString "__getitem__") ht.typeIs PyProof.Rows.slot_tuple_getitem
    (wpAny_call_entry PyProof.Rows.slot_tuple_getitem ht.typeIs entry_tuple_getitem ?_ (args_tuple_getitem _ _)))
  show wpAny _ _ (Builtin.Tuple.tupleItemsOf (.ref t) >>= _) _ _ s
  refine wpAny_bind (tupleItemsOf_ ht ?_)
  refine wpAny_bind (wpAny_typeOf hTs ?_)
  rw [if_pos (by decide)]
  refine wpAny_bind (sliceApplied_back hs pl pu ps ?_)
  have hno : ¬ ((((items.size : Int) - 1) == 0 && (-1 : Int) == 1 && items.size == items.size) = true) := by
    intro q
    rw [Bool.and_eq_true, Bool.and_eq_true] at q
    exact absurd q.1.2 (by decide)
  show wpAny _ _ (if (((items.size : Int) - 1) == 0 && (-1 : Int) == 1 && items.size == items.size) = true then _ else _) _ _ s
  rw [if_neg hno, pick_back]
  first
    | exact wpAny_bind (m := Builtin.Tuple.tupleExact _) (wpAny_newObj_type (wpAny_pure ⟨_, rfl, wpAny_pure h⟩) htake)
    | exact wpAny_bind (m := Builtin.Tuple.tupleExact _) (wpAny_newObj_type (wpAny_bind (wpAny_pure (wpAny_pure ⟨_, rfl, wpAny_pure h⟩))) htake)
    | exact wpAny_bind (wpAny_bind (m := Builtin.Tuple.tupleExact _) (wpAny_newObj_type (wpAny_pure (wpAny_pure ⟨_, rfl, wpAny_pure h⟩)) htake))
    | exact wpAny_bind (wpAny_bind (m := Builtin.Tuple.tupleExact _) (wpAny_newObj_type (wpAny_pure ⟨_, rfl, wpAny_pure h⟩) htake))
end
end HT
namespace L2
open PySem PySem.Spec PyProof.Rows
section
variable {X : Cx}
def tRevT (K : PySem.W.Frag) (te : TE) : TE := fun σ H Q => te σ H fun x H1 => ∃ a xs, x = .ref a ∧ SqT K H1 a xs ∧ ∀ p, H1 p = none → Q (.ref p) (upd H1 p (.tup xs.reverse))
theorem pe_revT {e : Expr} {te : TE} {k : Nat} {p1 p2 p3 pos : Pos} (he : PE X e te) : PE X (.Subscript e (.Slice none none (some (.UnaryOp .USub (.Constant (.int 1) k p1) p2)) p3) pos) (tRevT X.K te) := by
  refine ⟨fun pins s σ H Q I h => ?_⟩
  refine Subscript_ (thn (he.run pins s σ H _ I h) fun v s1 ⟨x, H1, I1, r1, q1⟩ => ?_)
  obtain ⟨a, xs, ex, hx, q⟩ := q1
  subst ex
  cases r1
  have hst : PO X (some (.UnaryOp .USub (.Constant (.int 1) k p1) p2)) (tPart (tUn (rU fun i => .int (-i)) (tC (.int 1)))) := po_some (pe_un un_neg pe_int)
  refine wpAny_Slice (thn (po_none.run pins s1 σ H1 (fun o H2 => o = none ∧ H2 = H1) I1 ⟨rfl, rfl⟩) fun vl s2 ⟨l, H2, I2, pl, el, e2⟩ => ?_)
  subst el e2
  refine thn (po_none.run pins s2 σ H2 (fun o H3 => o = none ∧ H3 = H2) I2 ⟨rfl, rfl⟩) fun vu s3 ⟨u, H3, I3, pu, eu, e3⟩ => ?_
  subst eu e3
  refine thn (hst.run pins s3 σ H3 (fun o H4 => o = some (-1) ∧ H4 = H3) I3 ⟨1, rfl, -1, rfl, rfl, rfl⟩) fun vs s4 ⟨o, H4, I4, ps, eo, e4⟩ => ?_
  subst eo e4
  have I5 : Inv X pins σ H4 { s4 with heap := s4.heap.push { cls := .type "slice", data := .fields #[vl, vu, vs] } } := I4.kept (t' := s4.toks) fun b ob q => Heap.get?_push_of_some _ q
  obtain ⟨its, r, ht, hz⟩ := I5.tuple hx
  have hlen := r.length
  show wpAny (model X.prog X.w) X.A (subscriptTail e (.Slice none none (some (.UnaryOp .USub (.Constant (.int 1) k p1) p2)) p3) (.ref a) (.ref s4.heap.objs.size)) (EP X pins σ Q) X.xe { s4 with heap := s4.heap.push { cls := .type "slice", data := .fields #[vl, vu, vs] } }
  refine tail_any (ops := [.ref a, .ref s4.heap.objs.size]) ht.typeIs (PyProof.Rows.slot_tuple_getitem.lookup) ?_ (by with_unfolding_all rfl)
  refine HT.getItem_tuple_back ht (Heap.IsSliceOf.new _ vl vu vs) pl pu ps ?_ (by rw [List.size_toArray]; omega)
  refine ⟨.ref _, _, I5.laid (t' := s4.toks) (o := .tup xs.reverse) (fun b ob q => Heap.get?_push_of_some _ q) (Nat.le_refl _) ?_, rfl, q _ (I5.hok.fresh (Nat.le_refl _))⟩
  exact ⟨by rw [List.length_reverse]; exact hz, _, r.reverse, IsTup.new _ _⟩
end
end L2
namespace MP
open PySem PySem.Spec PyProof.Rows L2 TL
section
variable {X : Cx} {S : Sit} {a : Expr} {pos : Pos} {fa : Loc → Sto → Out W}
theorem s_revT (hK : X.K = S.M.K) {k : Nat} {p1 p2 p3 : Pos} (ha : PE X a (rd S (RV S.M) fa)) :
    PE X (.Subscript a (.Slice none none (some (.UnaryOp .USub (.Constant (.int 1) k p1) p2)) p3) pos) (rd S (RV S.M) fun ρ φ => (fa ρ φ).bind fun x φ1 => .ofO (opRevT x) φ1) := sB_V (PEimp (pe_revT ha) fun σ H Q ⟨G, ρ, φ, s, l, q⟩ => by
  rw [Out.holds_bind] at q
  refine ⟨G, ρ, φ, s, l, Out.holds_mono q (fun x φ1 q1 G1 H1 v1 e1 s1 r1 => ?_) fun _ _ z => z⟩
  obtain ⟨w, hw, p⟩ := holds_ofO q1
  cases x <;> simp only [opRevT, reduceCtorEq, Option.some.injEq] at hw
  subst hw
  obtain ⟨adr, vs, rfl, hq, r, _⟩ := RR.tup s1 (RV.toR (H := H) (H' := H1) r1)
  exact ⟨adr, vs, rfl, by rw [hK]; exact hq, fun p' hp => post_tup s1 hp r.reverse (p.extB e1)⟩)
end
end MP
/-! MP: what the checker of expressions lets by is what the evaluator tells. -/
namespace MP
open PySem PySem.Spec PyProof.Rows L2 TL
def lv (M : Md) (P : Prg) (t : T) : Rst := if t.fresh P.fr then RB M else RV M
section
variable {X : Cx} {S : Sit} {P : Prg} {e c a b : Expr} {pos : Pos} {f fa fb : Loc → Sto → Out W}
theorem lvB (t : T) (h : PE X e (rd S (RB S.M) f)) : PE X e (rd S (lv S.M P t) f) := by
  unfold lv
  split
  · exact h
  · exact sB_V h
theorem lvV {t : T} (h : PE X e (rd S (lv S.M P t) f)) : PE X e (rd S (RV S.M) f) := by
  unfold lv at h
  split at h
  · exact sB_V h
  · exact h
theorem lvR {t : T} (h : PE X e (rd S (lv S.M P t) f)) : PE X e (rd S (RR S.M) f) := sV_R (lvV h)
theorem lvOf (t : T) (ht : t.fresh P.fr = false) (h : PE X e (rd S (RV S.M) f)) : PE X e (rd S (lv S.M P t) f) := by
  unfold lv
  rw [ht]
  exact h
/-- the test of a conditional expression -/
theorem t_ife {tc : Loc → Sto → Out Bool} (hc : PT X c (rdT S tc)) (ha : PT X a (rdT S (tst fa))) (hb : PT X b (rdT S (tst fb))) :
    PT X (.IfExp c a b pos) (rdT S (tst fun ρ φ => (tc ρ φ).bind fun k φ2 => if k then fa ρ φ2 else fb ρ φ2)) := ⟨fun pins s σ H Q I ⟨G, ρ, φ, st, l, q⟩ => by
  rw [Out.holds_bind, Out.holds_bind] at q
  show wpAny (model X.prog X.w) X.A (do if ← isTrue c X.env (eval c X.env) then isTrue a X.env (eval a X.env) else isTrue b X.env (eval b X.env)) _ _ s
  refine wpAny_bind (thn (hc.run pins s σ H (fun k H1 => ∃ G1 φ1, StoOk S.M G1 φ1 H1 ∧ LocOk S.M S.Z G1 ρ σ H1 ∧
      ((if k then fa ρ φ1 else fb ρ φ1).bind fun z φ' => .ofO (truthy z) φ').holds (fun b φ' => PostB S.M G1 H1 φ' (Q b)) (fun x φ' => PostX S.M G1 H1 φ' x fun c dd H' => S.Wx c dd σ H')) I ⟨G, ρ, φ, st, l, ?_⟩) fun k s1 ⟨H1, I1, G1, φ1, st1, l1, q1⟩ => ?_)
  · refine Out.holds_mono q (fun k φ1 q1 G1 H1 e1 s1 => ⟨G1, φ1, s1, l.ext e1, ?_⟩) fun _ _ z => z
    rw [Out.holds_bind]
    exact Out.holds_mono q1 (fun w φ2 q2 => Out.holds_mono q2 (fun _ _ z => z.ext e1) fun _ _ z => z.ext e1) fun _ _ z => z.ext e1
  · cases k with
    | true => exact ha.run pins s1 σ H1 Q I1 ⟨G1, ρ, φ1, st1, l1, q1⟩
    | false => exact hb.run pins s1 σ H1 Q I1 ⟨G1, ρ, φ1, st1, l1, q1⟩⟩
end
section
variable (Γ : Stx) (P : Prg) (d : Nat)
structure Snd (t : T) : Prop where
  ee : ∀ (X : Cx) (S : Sit), Ctx Γ S.M P d X → Takes X S.Wx → ∀ e, chkE Γ X.N X.env.scope t e = true → PE X e (rd S (lv S.M P t) (evalE P.gv (P.call d) t))
  te : ∀ (X : Cx) (S : Sit), Ctx Γ S.M P d X → Takes X S.Wx → ∀ e, chkE Γ X.N X.env.scope t e = true → PT X e (rdT S (tst (evalE P.gv (P.call d) t)))
  es : ∀ (X : Cx) (S : Sit), Ctx Γ S.M P d X → Takes X S.Wx → ∀ es, chkEs Γ X.N X.env.scope t es = true → PA X es (rdA S (evalEs P.gv (P.call d) t))
  kw : ∀ (X : Cx) (S : Sit), Ctx Γ S.M P d X → Takes X S.Wx → ∀ kws, chkEs Γ X.N X.env.scope t (kwVals kws) = true → PK X kws (rdA S (evalEs P.gv (P.call d) t))
  dp : ∀ (X : Cx) (S : Sit), Ctx Γ S.M P d X → Takes X S.Wx → ∀ (pos : Pos) ks keys es, keys.map txtKey = ks.map some → keys.length = es.length → chkEs Γ X.N X.env.scope t es = true → ∃ trs, Disp X S pos ks keys es (evalEs P.gv (P.call d) t) trs
  an : ∀ (X : Cx) (S : Sit), Ctx Γ S.M P d X → Takes X S.Wx → ∀ es (pos : Pos), chkEs Γ X.N X.env.scope t es = true → t.isNil = false → PE X (.BoolOp .And es pos) (rd S (RV S.M) (evalAnd P.gv (P.call d) t)) ∧ PW X (.BoolOp .And es pos) (rdT S (tst (evalAnd P.gv (P.call d) t)))
  or : ∀ (X : Cx) (S : Sit), Ctx Γ S.M P d X → Takes X S.Wx → ∀ es (pos : Pos), chkEs Γ X.N X.env.scope t es = true → t.isNil = false → PE X (.BoolOp .Or es pos) (rd S (RV S.M) (evalOr P.gv (P.call d) t)) ∧ PW X (.BoolOp .Or es pos) (rdT S (tst (evalOr P.gv (P.call d) t)))
  i : ∀ (X : Cx) (S : Sit), Ctx Γ S.M P d X → Takes X S.Wx → ∀ tg e, chkI Γ X.N X.env.scope t e = true → PI X tg e (wI S fun ρ φ => (evalE P.gv (P.call d) t ρ φ).bind fun x φ1 => .ofO (items x) φ1)
end
section
variable {Γ : Stx} {P : Prg} {d : Nat}
/-- a test of plain form -/
def plainT : Expr → Bool
  | .UnaryOp .Not _ _ => false
  | .BoolOp _ _ _ => false
  | .IfExp _ _ _ _ => false
  | .Compare _ _ _ _ => false
  | _ => true
theorem plainT_ok {e : Expr} (h : plainT e = true) (env : Env) (whole : Sem Value) : isTrue e env whole = (do let v ← whole; standAt e.pos; holding [v] (PySem.truthy v)) := by
  cases e <;> first | rfl | (simp [plainT] at h; done) | skip
  rename_i op x p
  cases op <;> first | rfl | (simp [plainT] at h)
/-- a term that stands for an expression alone -/
theorem Snd.ofE {t : T} (h1 : ∀ N sc es, chkEs Γ N sc t es = false) (h2 : ∀ N sc e, chkI Γ N sc t e = false)
    (he : ∀ (X : Cx) (S : Sit), Ctx Γ S.M P d X → Takes X S.Wx → ∀ e, chkE Γ X.N X.env.scope t e = true → PE X e (rd S (lv S.M P t) (evalE P.gv (P.call d) t)))
    (ht : ∀ (X : Cx) (S : Sit), Ctx Γ S.M P d X → Takes X S.Wx → ∀ e, chkE Γ X.N X.env.scope t e = true → PT X e (rdT S (tst (evalE P.gv (P.call d) t)))) : Snd Γ P d t :=
  ⟨he, ht, fun X S _ _ es h => by rw [h1] at h; (cases h), fun X S _ _ es h => by rw [h1] at h; (cases h), fun X S _ _ _ _ _ es _ _ h => by rw [h1] at h; (cases h), fun X S _ _ es _ h => by rw [h1] at h; (cases h), fun X S _ _ es _ h => by rw [h1] at h; (cases h), fun X S _ _ _ e h => by rw [h2] at h; (cases h)⟩
theorem Snd.ofP {t : T} (h1 : ∀ N sc es, chkEs Γ N sc t es = false) (h2 : ∀ N sc e, chkI Γ N sc t e = false) (hp : ∀ N sc e, chkE Γ N sc t e = true → plainT e = true)
    (he : ∀ (X : Cx) (S : Sit), Ctx Γ S.M P d X → Takes X S.Wx → ∀ e, chkE Γ X.N X.env.scope t e = true → PE X e (rd S (lv S.M P t) (evalE P.gv (P.call d) t))) : Snd Γ P d t :=
  .ofE h1 h2 he fun X S C tk e h => t_plain C.K (lvR (he X S C tk e h)) (plainT_ok (hp _ _ _ h) _)
/-- a term that is no expression -/
theorem Snd.no {t : T} (h0 : ∀ N sc e, chkE Γ N sc t e = false) (h1 : ∀ N sc es, chkEs Γ N sc t es = false) (h2 : ∀ N sc e, chkI Γ N sc t e = false) : Snd Γ P d t :=
  .ofE h1 h2 (fun X S _ _ e h => by rw [h0] at h; cases h) fun X S _ _ e h => by rw [h0] at h; cases h
theorem Snd.r {t : T} (s : Snd Γ P d t) {X : Cx} {S : Sit} (C : Ctx Γ S.M P d X) (tk : Takes X S.Wx) {e : Expr} (h : (chkO X.N X.env.scope t e || chkE Γ X.N X.env.scope t e) = true) : PE X e (rd S (RR S.M) (evalE P.gv (P.call d) t)) := by
  rcases Bool.or_eq_true_iff.mp h with h | h
  · unfold chkO at h
    split at h
    · split at h
      · rw [Bool.and_eq_true, Bool.and_eq_true] at h
        exact s_own (of_decide_eq_true h.1.1) (vis_of h.1.2) (plain1 h.2) (plain2 h.2) _ _
      · cases h
    · cases h
  · exact lvR (s.ee X S C tk e h)
theorem evalEs_len : ∀ (t : T) (N : List PySem.Str) (sc : Scope) (es : List Expr), chkEs Γ N sc t es = true → ∀ (ρ : Loc) (φ : Sto) (ws : List W) (φ' : Sto), evalEs P.gv (P.call d) t ρ φ = .ok ws φ' → ws.length = es.length := by
  intro t
  induction t with
  | nil =>
    intro N sc es h ρ φ ws φ' q
    cases es with
    | nil =>
      have q' : Out.ok ([] : List W) φ = .ok ws φ' := q
      cases q'
      rfl
    | cons e es => cases h
  | cons a b _ ih =>
    intro N sc es h ρ φ ws φ' q
    cases es with
    | nil => cases h
    | cons e es =>
      have h' : (chkE Γ N sc a e && isNice e && chkEs Γ N sc b es) = true := h
      rw [Bool.and_eq_true] at h'
      have q' : ((evalE P.gv (P.call d) a ρ φ).bind fun x φ1 => (evalEs P.gv (P.call d) b ρ φ1).bind fun xs φ2 => .ok (x :: xs) φ2) = .ok ws φ' := q
      cases ha : evalE P.gv (P.call d) a ρ φ with
      | bad => rw [ha] at q'; simp at q'
      | exc x φ1 => rw [ha] at q'; simp at q'
      | ok x φ1 =>
        rw [ha, Out.bind_ok] at q'
        cases hb : evalEs P.gv (P.call d) b ρ φ1 with
        | bad => rw [hb] at q'; simp at q'
        | exc x φ1 => rw [hb] at q'; simp at q'
        | ok xs φ2 =>
          rw [hb, Out.bind_ok] at q'
          simp only [Out.ok.injEq] at q'
          obtain ⟨rfl, rfl⟩ := q'
          rw [List.length_cons, List.length_cons, ih N sc es h'.2 ρ φ1 xs _ hb]
  | _ => intro N sc es h; cases h
theorem chkEs_nil {N : List PySem.Str} {sc : Scope} {b : T} (h : chkEs Γ N sc b [] = true) : b = .nil := by
  cases b <;> first | rfl | cases h
theorem chkEs_cons {N : List PySem.Str} {sc : Scope} {b : T} {e : Expr} {es : List Expr} (h : chkEs Γ N sc b (e :: es) = true) : ∃ x y, b = .cons x y := by
  cases b <;> first | exact ⟨_, _, rfl⟩ | cases h
theorem chkEs_plain {N : List PySem.Str} {sc : Scope} {env : Env} {p : Pos} : ∀ {b : T} {e : Expr} {es : List Expr}, chkEs Γ N sc b (e :: es) = true → (backTo p (starEach es env)).any (·.1) = false := by
  intro b
  have key : ∀ (es : List Expr) (b : T), chkEs Γ N sc b es = true → (backTo p (starEach es env)).any (·.1) = false := by
    intro es
    induction es with
    | nil => intro b _; rfl
    | cons e es ih =>
      intro b h
      obtain ⟨x, y, rfl⟩ := chkEs_cons h
      have h' : (chkE Γ N sc x e && isNice e && chkEs Γ N sc y es) = true := h
      rw [Bool.and_eq_true, Bool.and_eq_true] at h'
      rw [nice_star h'.1.2]
      exact ih y h'.2
  intro e es h
  obtain ⟨x, y, rfl⟩ := chkEs_cons h
  have h' : (chkE Γ N sc x e && isNice e && chkEs Γ N sc y es) = true := h
  rw [Bool.and_eq_true, Bool.and_eq_true] at h'
  exact key es y h'.2
theorem comp_ev (i : Nat) (it c el : T) : compF c.isNil i (fun ρ φ => (evalE P.gv (P.call d) it ρ φ).bind fun x φ1 => .ofO (items x) φ1) (evalE P.gv (P.call d) c) (evalE P.gv (P.call d) el) = evalE P.gv (P.call d) (.comp i it c el) := by
  funext ρ φ
  exact Out.bind_assoc _ _ _
theorem comp_parts {i : Nat} {it c el : T} (ihi : Snd Γ P d it) (ihc : Snd Γ P d c) (ihe : Snd Γ P d el) {X : Cx} {S : Sit} (C : Ctx Γ S.M P d X) (tk : Takes X S.Wx) {e : Expr} (h : chkE Γ X.N X.env.scope (.comp i it c el) e = true) :
    ∃ elt x tp iter ifs scope p, e = .ListComp elt [⟨.Name x tp, iter, ifs, 0⟩] scope p ∧ X.N[i]? = some x ∧ BlkOk X.N X.env.scope scope [(x, i)] ∧
      PI X (.Name x tp) iter (wI S fun ρ φ => (evalE P.gv (P.call d) it ρ φ).bind fun x φ1 => .ofO (items x) φ1) ∧
      (∀ (s : Shared) (H : Hp) (D : Addr) (cl : List (PySem.Str × Addr)) (fp : List Addr), PG (X.blk s H scope (compEnvC scope cl D X.env) fp) (.Name x tp) (gName i)) ∧
      (∀ (s : Shared) (H : Hp) (D : Addr) (cl : List (PySem.Str × Addr)) (fp : List Addr), PTs (X.blk s H scope (compEnvC scope cl D X.env) fp) ifs (clauseT c.isNil S.nox (evalE P.gv (P.call d) c))) ∧
      (∀ (s : Shared) (H : Hp) (D : Addr) (cl : List (PySem.Str × Addr)) (fp : List Addr), PE (X.blk s H scope (compEnvC scope cl D X.env) fp) elt (rd S.nox (RV S.M) (evalE P.gv (P.call d) el))) ∧
      (∀ x, foldedSetIterable iter X.env x = pure x) := by
  simp only [chkE] at h
  split at h
  · rename_i elt x tp iter ifs g scope p
    rw [Bool.and_eq_true, Bool.and_eq_true, Bool.and_eq_true, Bool.and_eq_true, Bool.and_eq_true, Bool.and_eq_true, Bool.and_eq_true, Bool.and_eq_true] at h
    obtain ⟨⟨⟨⟨⟨⟨⟨⟨h1, h2⟩, h3⟩, h4⟩, h4'⟩, h5⟩, h6⟩, h7⟩, h8⟩ := h
    have e1 := of_decide_eq_true h1
    subst e1
    have hN := of_decide_eq_true h2
    have hl := of_decide_eq_true h4
    refine ⟨elt, x, tp, iter, ifs, scope, p, rfl, hN, blkOk_by h3, ?_, fun s H D cl fp => pg_name C.nd hN (.inl hl) (.inr hl), fun s H D cl fp => ?_, fun s H D cl fp => lvV (ihe.ee _ S.nox (C.blk s H scope _ fp) takes0 elt h8), nice_fold h5 _⟩
    · rcases Bool.or_eq_true_iff.mp h6 with h6 | h6
      · exact ihi.i X S C tk _ _ h6
      · exact i_seq C.K (lvV (ihi.ee X S C tk _ h6))
    · split at h7
      · rw [h7]
        exact pts_nil
      · rw [Bool.and_eq_true, Bool.not_eq_true'] at h7
        rw [h7.1]
        exact pts_one (ihc.te _ S.nox (C.blk s H scope _ fp) takes0 _ h7.2)
      · cases h7
  · cases h
theorem snd_all : ∀ t : T, Snd Γ P d t := by
  intro t
  induction t with
  | nil =>
    refine ⟨fun X S _ _ e h => (by cases h), fun X S _ _ e h => (by cases h), fun X S C tk es h => ?_, fun X S C tk kws h => ?_, fun X S C tk pos ks keys es h1 h2 h => ?_, fun X S _ _ es _ h z => (by cases z), fun X S _ _ es _ h z => (by cases z), fun X S _ _ _ e h => (by cases h)⟩
    · cases es with
      | nil => exact s_nil
      | cons e es => cases h
    · cases kws with
      | nil => exact ⟨fun pos pins s σ H Q I q => pk_nil.run pos pins s σ H Q I (by
          obtain ⟨G, ρ, φ, st, l, q⟩ := q
          exact (show PostA S.M G H [] φ Q from q) G H [] (.refl st) st trivial)⟩
      | cons k kws => cases h
    · cases es with
      | nil =>
        have hk : keys = [] := List.eq_nil_of_length_eq_zero h2
        subst hk
        have hks : ks = [] := by cases ks with | nil => rfl | cons _ _ => simp at h1
        subst hks
        exact ⟨[], .nil fun _ _ => rfl⟩
      | cons e es => cases h
  | cons a b iha ihb =>
    refine ⟨fun X S _ _ e h => (by cases h), fun X S _ _ e h => (by cases h), fun X S C tk es h => ?_, fun X S C tk kws h => ?_, fun X S C tk pos ks keys es h1 h2 h => ?_, fun X S C tk es pos h z => ?_, fun X S C tk es pos h z => ?_, fun X S _ _ _ e h => (by cases h)⟩
    · cases es with
      | nil => cases h
      | cons e es =>
        have h' : (chkE Γ X.N X.env.scope a e && isNice e && chkEs Γ X.N X.env.scope b es) = true := h
        simp only [Bool.and_eq_true] at h'
        exact s_cons (lvV (iha.ee X S C tk e h'.1.1)) (ihb.es X S C tk es h'.2) (nice_star h'.1.2 _ _)
    · cases kws with
      | nil => cases h
      | cons k kws =>
        obtain ⟨nm, e, kp⟩ := k
        have h' : (chkE Γ X.N X.env.scope a e && isNice e && chkEs Γ X.N X.env.scope b (kwVals kws)) = true := h
        simp only [Bool.and_eq_true] at h'
        have ha := lvV (iha.ee X S C tk e h'.1.1)
        have hb := ihb.kw X S C tk kws h'.2
        refine ⟨fun pos pins s σ H Q I q => (pk_cons (nm := nm) (kpos := kp) ha hb).run pos pins s σ H Q I ?_⟩
        obtain ⟨G, ρ, φ, st, l, q⟩ := q
        have q' : ((evalE P.gv (P.call d) a ρ φ).bind fun x φ1 => (evalEs P.gv (P.call d) b ρ φ1).bind fun xs φ2 => .ok (x :: xs) φ2).holds (fun ws φ' => PostA S.M G H ws φ' Q) (fun x φ' => PostX S.M G H φ' x fun c dd H' => S.Wx c dd σ H') := q
        rw [Out.holds_bind] at q'
        refine ⟨G, ρ, φ, st, l, Out.holds_mono q' (fun x φ1 q1 G1 H1 v1 e1 s1 r1 => ?_) fun _ _ z => z⟩
        rw [Out.holds_bind] at q1
        refine ⟨G1, ρ, φ1, s1, l.ext e1, Out.holds_mono q1 (fun xs φ2 q2 G2 H2 vs e2 s2 r2 => ?_) fun _ _ z => z.ext e1⟩
        exact (show PostA S.M G H (x :: xs) φ2 Q from q2) G2 H2 _ (e1.trans e2) s2 ⟨Rep.mono e2.le _ _ r1, r2⟩
    · cases es with
      | nil => cases h
      | cons e es =>
        have h' : (chkE Γ X.N X.env.scope a e && isNice e && chkEs Γ X.N X.env.scope b es) = true := h
        simp only [Bool.and_eq_true] at h'
        cases keys with
        | nil => simp at h2
        | cons k keys =>
          cases ks with
          | nil => simp at h1
          | cons kt ks =>
            simp only [List.map_cons, List.cons.injEq] at h1
            obtain ⟨hk, h1⟩ := h1
            obtain ⟨trs, D⟩ := ihb.dp X S C tk pos ks keys es h1 (by simpa using h2) h'.2
            unfold txtKey at hk
            split at hk
            · rename_i x j kp
              simp only [Option.some.injEq] at hk
              exact ⟨_, .cons (by rw [← hk, toS_cps]) (lvV (iha.ee X S C tk e h'.1.1)) D fun _ _ => rfl⟩
            · cases hk
    · cases es with
      | nil => cases h
      | cons e es =>
        have h' : (chkE Γ X.N X.env.scope a e && isNice e && chkEs Γ X.N X.env.scope b es) = true := h
        simp only [Bool.and_eq_true] at h'
        have ha := lvV (iha.ee X S C tk e h'.1.1)
        have hat := iha.te X S C tk e h'.1.1
        cases es with
        | nil =>
          have hb : b = .nil := chkEs_nil h'.2
          subst hb
          exact ⟨pe_one ha, t_and1 hat⟩
        | cons e2 es =>
          obtain ⟨b1, b2, rfl⟩ := chkEs_cons h'.2
          obtain ⟨h1, h2⟩ := ihb.an X S C tk (e2 :: es) pos h'.2 rfl
          exact ⟨s_and C.K ha h1, t_and hat h2⟩
    · cases es with
      | nil => cases h
      | cons e es =>
        have h' : (chkE Γ X.N X.env.scope a e && isNice e && chkEs Γ X.N X.env.scope b es) = true := h
        simp only [Bool.and_eq_true] at h'
        have ha := lvV (iha.ee X S C tk e h'.1.1)
        have hat := iha.te X S C tk e h'.1.1
        cases es with
        | nil =>
          have hb : b = .nil := chkEs_nil h'.2
          subst hb
          exact ⟨pe_one ha, t_or1 hat⟩
        | cons e2 es =>
          obtain ⟨b1, b2, rfl⟩ := chkEs_cons h'.2
          obtain ⟨h1, h2⟩ := ihb.or X S C tk (e2 :: es) pos h'.2 rfl
          exact ⟨s_or C.K ha h1, t_or hat h2⟩
  | var i =>
    refine .ofP (fun _ _ _ => rfl) (fun _ _ _ => rfl) (fun N sc e h => ?_) fun X S C tk e h => ?_
    · simp only [chkE] at h
      split at h <;> first | rfl | cases h
    · simp only [chkE] at h
      split at h
      · simp only [Bool.and_eq_true, decide_eq_true_eq] at h
        exact lvOf _ rfl (s_var h.1.1 (vis_of h.1.2) (plain1 h.2) (plain2 h.2) _ _)
      · cases h
  | glob g =>
    refine .ofP (fun _ _ _ => rfl) (fun _ _ _ => rfl) (fun N sc e h => ?_) fun X S C tk e h => ?_
    · simp only [chkE] at h
      split at h <;> first | rfl | cases h
    · simp only [chkE] at h
      split at h
      · simp only [Bool.and_eq_true, decide_eq_true_eq] at h
        obtain ⟨u, v, w, h1, h2, h3, h4⟩ := C.glob g _ h.1.1
        refine lvOf _ rfl (s_const (v := v) (w := w) (pe_glob (gl_of h.1.2) h1 h2 (plain1 h.2)) h4 fun ρ φ => ?_)
        show Out.ofO (P.gv g) φ = _
        rw [h3]
        rfl
      · cases h
  | int i =>
    refine .ofP (fun _ _ _ => rfl) (fun _ _ _ => rfl) (fun N sc e h => ?_) fun X S C tk e h => ?_
    · simp only [chkE] at h
      split at h <;> first | rfl | cases h
    · simp only [chkE] at h
      split at h
      · have e := of_decide_eq_true h
        subst e
        exact lvOf _ rfl (s_const pe_int (fun _ => by simp [Rep]) fun _ _ => rfl)
      · cases h
  | str z =>
    refine .ofP (fun _ _ _ => rfl) (fun _ _ _ => rfl) (fun N sc e h => ?_) fun X S C tk e h => ?_
    · simp only [chkE] at h
      split at h <;> first | rfl | cases h
    · simp only [chkE] at h
      split at h
      · have e := of_decide_eq_true h
        subst e
        exact lvOf _ rfl (s_const pe_str (fun _ => by simp [Rep]) fun _ _ => rfl)
      · cases h
  | bl k =>
    refine .ofP (fun _ _ _ => rfl) (fun _ _ _ => rfl) (fun N sc e h => ?_) fun X S C tk e h => ?_
    · simp only [chkE] at h
      split at h <;> first | rfl | cases h
    · simp only [chkE] at h
      split at h
      · have e := eq_of_beq h
        subst e
        exact lvOf _ rfl (s_const pe_bl (fun _ => by simp [Rep]) fun _ _ => rfl)
      · cases h
  | non =>
    refine .ofP (fun _ _ _ => rfl) (fun _ _ _ => rfl) (fun N sc e h => ?_) fun X S C tk e h => ?_
    · simp only [chkE] at h
      split at h <;> first | rfl | cases h
    · simp only [chkE] at h
      split at h
      · exact lvOf _ rfl (s_const pe_non (fun _ => by simp [Rep]) fun _ _ => rfl)
      · cases h
  | tup es ih =>
    refine .ofP (fun _ _ _ => rfl) (fun _ _ _ => rfl) (fun N sc e h => ?_) fun X S C tk e h => ?_
    · simp only [chkE] at h
      split at h <;> first | rfl | cases h
    · simp only [chkE] at h
      split at h
      · exact lvOf _ rfl (s_tup (ih.es X S C tk _ h))
      · cases h
  | lst es ih =>
    refine .ofP (fun _ _ _ => rfl) (fun _ _ _ => rfl) (fun N sc e h => ?_) fun X S C tk e h => ?_
    · simp only [chkE] at h
      split at h <;> first | rfl | cases h
    · simp only [chkE] at h
      split at h
      · exact lvB _ (s_lst (ih.es X S C tk _ h))
      · cases h
  | dnew ks es ih =>
    refine .ofP (fun _ _ _ => rfl) (fun _ _ _ => rfl) (fun N sc e h => ?_) fun X S C tk e h => ?_
    · simp only [chkE] at h
      split at h <;> first | rfl | (exact absurd h (by decide))
    · simp only [chkE] at h
      split at h
      · simp only [Bool.and_eq_true, decide_eq_true_eq, Bool.not_eq_true'] at h
        obtain ⟨⟨⟨⟨h1, h2⟩, h3⟩, hl⟩, h4⟩ := h
        rename_i keys xs p
        obtain ⟨trs, D⟩ := ih.dp X S C tk p ks keys xs h1 hl h4
        exact lvOf _ rfl (s_dnew D (by intro z; rw [z] at h2; cases h2) h3)
      · cases h
  | dempty =>
    refine .ofP (fun _ _ _ => rfl) (fun _ _ _ => rfl) (fun N sc e h => ?_) fun X S C tk e h => ?_
    · simp only [chkE] at h
      split at h <;> first | rfl | cases h
    · simp only [chkE] at h
      split at h
      · exact lvB _ (s_dempty _ _)
      · cases h
  | bin op a b iha ihb =>
    refine .ofP (fun _ _ _ => rfl) (fun _ _ _ => rfl) (fun N sc e h => ?_) fun X S C tk e h => ?_
    · simp only [chkE] at h
      split at h <;> first | rfl | cases h
    · simp only [chkE] at h
      split at h
      · rw [Bool.and_eq_true, Bool.and_eq_true] at h
        have e := of_decide_eq_true h.1.1
        subst e
        exact lvB _ (s_bin C.K op (iha.r C tk h.1.2) (ihb.r C tk h.2))
      · cases h
  | neg a iha =>
    refine .ofP (fun _ _ _ => rfl) (fun _ _ _ => rfl) (fun N sc e h => ?_) fun X S C tk e h => ?_
    · simp only [chkE] at h
      split at h <;> first | rfl | cases h
    · simp only [chkE] at h
      split at h
      · exact lvOf _ rfl (s_neg (lvV (iha.ee X S C tk _ h)))
      · cases h
  | cmp op a b iha ihb =>
    refine .ofE (fun _ _ _ => rfl) (fun _ _ _ => rfl) (fun X S C tk e h => ?_) fun X S C tk e h => ?_
    · simp only [chkE] at h
      split at h
      · rw [Bool.and_eq_true, Bool.and_eq_true, Bool.and_eq_true] at h
        have e := of_decide_eq_true h.1.1.1
        subst e
        exact lvOf _ rfl (s_cmp C.K (by have := C.u; omega) op (iha.r C tk h.1.1.2) (ihb.r C tk h.1.2) (nice_marks h.2 _))
      · cases h
    · simp only [chkE] at h
      split at h
      · rw [Bool.and_eq_true, Bool.and_eq_true, Bool.and_eq_true] at h
        have e := of_decide_eq_true h.1.1.1
        subst e
        exact s_cmpT C.K (by have := C.u; omega) op (iha.r C tk h.1.1.2) (ihb.r C tk h.1.2) (nice_marks h.2 _)
      · cases h
  | chn op op' a b c iha ihb ihc =>
    refine .ofE (fun _ _ _ => rfl) (fun _ _ _ => rfl) (fun X S C tk e h => ?_) fun X S C tk e h => ?_
    · simp only [chkE] at h
      split at h
      · rw [Bool.and_eq_true, Bool.and_eq_true, Bool.and_eq_true, Bool.and_eq_true, Bool.and_eq_true] at h
        obtain ⟨⟨⟨⟨⟨h1, h2⟩, h3⟩, h4⟩, h5⟩, h6⟩ := h
        have e := of_decide_eq_true h1
        subst e
        have e := of_decide_eq_true h2
        subst e
        exact lvOf _ rfl (s_chn C.K (by have := C.u; omega) op op' (iha.r C tk h3) (ihb.r C tk h4) (ihc.r C tk h5) (nice_marks h6 _))
      · cases h
    · simp only [chkE] at h
      split at h
      · rw [Bool.and_eq_true, Bool.and_eq_true, Bool.and_eq_true, Bool.and_eq_true, Bool.and_eq_true] at h
        obtain ⟨⟨⟨⟨⟨h1, h2⟩, h3⟩, h4⟩, h5⟩, h6⟩ := h
        have e := of_decide_eq_true h1
        subst e
        have e := of_decide_eq_true h2
        subst e
        exact t_chn C.K (by have := C.u; omega) op op' (iha.r C tk h3) (ihb.r C tk h4) (ihc.r C tk h5) (nice_marks h6 _)
      · cases h
  | andN es ih =>
    refine .ofE (fun _ _ _ => rfl) (fun _ _ _ => rfl) (fun X S C tk e h => ?_) fun X S C tk e h => ?_
    · simp only [chkE] at h
      split at h
      · rw [Bool.and_eq_true, Bool.not_eq_true'] at h
        exact lvOf _ rfl (ih.an X S C tk _ _ h.2 h.1).1
      · cases h
    · simp only [chkE] at h
      split at h
      · rw [Bool.and_eq_true, Bool.not_eq_true'] at h
        exact (ih.an X S C tk _ _ h.2 h.1).2.pt
      · cases h
  | orN es ih =>
    refine .ofE (fun _ _ _ => rfl) (fun _ _ _ => rfl) (fun X S C tk e h => ?_) fun X S C tk e h => ?_
    · simp only [chkE] at h
      split at h
      · rw [Bool.and_eq_true, Bool.not_eq_true'] at h
        exact lvOf _ rfl (ih.or X S C tk _ _ h.2 h.1).1
      · cases h
    · simp only [chkE] at h
      split at h
      · rw [Bool.and_eq_true, Bool.not_eq_true'] at h
        exact (ih.or X S C tk _ _ h.2 h.1).2.pt
      · cases h
  | not a iha =>
    refine .ofE (fun _ _ _ => rfl) (fun _ _ _ => rfl) (fun X S C tk e h => ?_) fun X S C tk e h => ?_
    · simp only [chkE] at h
      split at h
      · exact lvOf _ rfl (s_not C.K (lvV (iha.ee X S C tk _ h)))
      · cases h
    · simp only [chkE] at h
      split at h
      · exact t_not (ta := fun _ _ => .bad) (iha.te X S C tk _ h)
      · cases h
  | ife c a b ihc iha ihb =>
    refine .ofE (fun _ _ _ => rfl) (fun _ _ _ => rfl) (fun X S C tk e h => ?_) fun X S C tk e h => ?_
    · simp only [chkE] at h
      split at h
      · rw [Bool.and_eq_true, Bool.and_eq_true] at h
        have q := s_ife (S := S) (pos := by assumption) (ihc.te X S C tk _ h.1.1) (lvV (iha.ee X S C tk _ h.1.2)) (lvV (ihb.ee X S C tk _ h.2))
        refine lvOf _ rfl ?_
        have e : (fun ρ φ => (tst (evalE P.gv (P.call d) c) ρ φ).bind fun k φ2 => if k then evalE P.gv (P.call d) a ρ φ2 else evalE P.gv (P.call d) b ρ φ2) = evalE P.gv (P.call d) (.ife c a b) := by
          funext ρ φ
          exact Out.bind_assoc _ _ _
        rw [e] at q
        exact q
      · cases h
    · simp only [chkE] at h
      split at h
      · rw [Bool.and_eq_true, Bool.and_eq_true] at h
        have q := t_ife (S := S) (pos := by assumption) (ihc.te X S C tk _ h.1.1) (iha.te X S C tk _ h.1.2) (ihb.te X S C tk _ h.2)
        have e : (fun ρ φ => (tst (evalE P.gv (P.call d) c) ρ φ).bind fun k φ2 => if k then evalE P.gv (P.call d) a ρ φ2 else evalE P.gv (P.call d) b ρ φ2) = evalE P.gv (P.call d) (.ife c a b) := by
          funext ρ φ
          exact Out.bind_assoc _ _ _
        rw [e] at q
        exact q
      · cases h
  | idx a i iha ihi =>
    refine .ofP (fun _ _ _ => rfl) (fun _ _ _ => rfl) (fun N sc e h => ?_) fun X S C tk e h => ?_
    · simp only [chkE] at h
      split at h <;> first | rfl | cases h
    · simp only [chkE] at h
      split at h
      · rw [Bool.and_eq_true, Bool.and_eq_true] at h
        exact lvOf _ rfl (s_idx C.K (iha.r C tk h.1.1) (lvV (ihi.ee X S C tk _ h.1.2)) (nice_ix h.2))
      · cases h
  | dget a i iha ihi =>
    refine .ofP (fun _ _ _ => rfl) (fun _ _ _ => rfl) (fun N sc e h => ?_) fun X S C tk e h => ?_
    · simp only [chkE] at h
      split at h <;> first | rfl | cases h
    · simp only [chkE] at h
      split at h
      · rw [Bool.and_eq_true, Bool.and_eq_true] at h
        exact lvOf _ rfl (s_dget (by have := C.u; omega) (iha.r C tk h.1.1) (lvV (ihi.ee X S C tk _ h.1.2)) (nice_ix h.2))
      · cases h
  | slc a lo hi iha ihl ihh =>
    refine .ofP (fun _ _ _ => rfl) (fun _ _ _ => rfl) (fun N sc e h => ?_) fun X S C tk e h => ?_
    · simp only [chkE] at h
      split at h <;> first | rfl | cases h
    · simp only [chkE] at h
      split at h
      · rw [Bool.and_eq_true, Bool.and_eq_true] at h
        obtain ⟨⟨h1, h2⟩, h3⟩ := h
        refine lvB _ (s_slc C.K (fl := fun ρ φ1 => if lo.isNil then .ok none φ1 else (evalE P.gv (P.call d) lo ρ φ1).bind fun y φ' => .ofO (partOf y) φ')
          (fh := fun ρ φ1 => if hi.isNil then .ok none φ1 else (evalE P.gv (P.call d) hi ρ φ1).bind fun y φ' => .ofO (partOf y) φ') (iha.r C tk h1) ?_ ?_)
        · split at h2
          · exact s_noPart fun ρ φ => by rw [h2]; rfl
          · rw [Bool.and_eq_true, Bool.not_eq_true'] at h2
            exact s_part (lvV (ihl.ee X S C tk _ h2.2)) fun ρ φ => by rw [h2.1]; rfl
        · split at h3
          · exact s_noPart fun ρ φ => by rw [h3]; rfl
          · rw [Bool.and_eq_true, Bool.not_eq_true'] at h3
            exact s_part (lvV (ihh.ee X S C tk _ h3.2)) fun ρ φ => by rw [h3.1]; rfl
      · cases h
  | call f es ih =>
    refine .ofP (fun _ _ _ => rfl) (fun _ _ _ => rfl) (fun N sc e h => ?_) fun X S C tk e h => ?_
    · simp only [chkE] at h
      split at h <;> first | rfl | cases h
    · simp only [chkE] at h
      split at h
      · rw [Bool.and_eq_true, Bool.and_eq_true, Bool.and_eq_true] at h
        obtain ⟨⟨⟨h1, h2⟩, h3⟩, h4⟩ := h
        split at h1
        · rename_i x p y ys p2 _ z ps hf
          rw [Bool.and_eq_true] at h1
          have e1 := of_decide_eq_true h1.1
          subst e1
          have e2 := of_decide_eq_true h1.2
          have hn : isNice y = true := by
            obtain ⟨b1, b2, rfl⟩ := chkEs_cons h4
            have h5 : (chkE Γ X.N X.env.scope b1 y && isNice y && chkEs Γ X.N X.env.scope b2 ys) = true := h4
            rw [Bool.and_eq_true, Bool.and_eq_true] at h5
            exact h5.1.2
          have hpl : (backTo p2 (starEach ys X.env)).any (·.1) = false := chkEs_plain h4
          exact s_call C tk hf (gl_of h2) (plain1 h3) (ih.es X S C tk _ h4) (fun ρ φ ws φ' q => by rw [evalEs_len es _ _ _ h4 ρ φ ws φ' q]; exact e2) (nice_star hn _ _) hpl
        · cases h1
      · cases h
  | callk f ks es ih =>
    refine .ofP (fun _ _ _ => rfl) (fun _ _ _ => rfl) (fun N sc e h => ?_) fun X S C tk e h => ?_
    · simp only [chkE] at h
      split at h <;> first | rfl | cases h
    · simp only [chkE] at h
      split at h
      · rw [Bool.and_eq_true, Bool.and_eq_true, Bool.and_eq_true, Bool.and_eq_true, Bool.and_eq_true] at h
        obtain ⟨⟨⟨⟨⟨h1, h2⟩, h3⟩, h4⟩, h5⟩, h6⟩ := h
        split at h1
        · rename_i x p kws p2 z ps hf
          rw [Bool.and_eq_true, Bool.and_eq_true, Bool.and_eq_true] at h1
          obtain ⟨⟨⟨g1, g2⟩, g3⟩, g4⟩ := h1
          have e1 := of_decide_eq_true g1
          subst e1
          obtain ⟨q1, q2⟩ := permOk_len g2
          exact s_callk C tk hf (by simpa using h2) (gl_of h4) (plain1 h5) (ih.kw X S C tk _ h6) (fun ρ φ ws φ' q => by rw [evalEs_len es _ _ _ h6 ρ φ ws φ' q]; exact of_decide_eq_true g3) q1 q2 h3 (of_decide_eq_true g4)
        · cases h1
      · cases h
  | isi a t iha =>
    refine .ofP (fun _ _ _ => rfl) (fun _ _ _ => rfl) (fun N sc e h => ?_) fun X S C tk e h => ?_
    · simp only [chkE] at h
      split at h <;> first | rfl | cases h
    · simp only [chkE] at h
      split at h
      · simp only [Bool.and_eq_true] at h
        obtain ⟨⟨⟨⟨⟨⟨⟨h1, h2⟩, h3⟩, h4⟩, h5⟩, h6⟩, h7⟩, h8⟩ := h
        have e1 := of_decide_eq_true h1
        subst e1
        have e2 := of_decide_eq_true h2
        subst e2
        exact lvOf _ rfl (s_isi C.K t (gl_of h3) (C.blt _ (by simpa using h5)) (gl_of h4) (C.blt _ (by simpa using h6)) (ty_boot t) (plain3 (ty_plain t)) (plain1 (ty_plain t)) (iha.r C tk h7) (nice_star h8 _ _))
      · cases h
  | blt b a iha =>
    refine .ofP (fun _ _ _ => rfl) (fun _ _ _ => rfl) (fun N sc e h => ?_) fun X S C tk e h => ?_
    · simp only [chkE] at h
      split at h <;> first | rfl | cases h
    · simp only [chkE] at h
      split at h
      · rw [Bool.and_eq_true, Bool.and_eq_true, Bool.and_eq_true, Bool.and_eq_true, Bool.and_eq_true] at h
        obtain ⟨⟨⟨⟨⟨h1, h2⟩, h3⟩, h4⟩, h5⟩, h6⟩ := h
        have hb := C.blt _ (by simpa using h2)
        rcases Bool.or_eq_true_iff.mp h6 with h6 | h6
        · obtain ⟨⟨x, id⟩, hx, e⟩ := Option.map_eq_some_iff.mp (of_decide_eq_true h6)
          simp only at e
          subst e
          exact lvB _ (s_bltB (cr_fun C hx) (gl_of h1) hb (blt_fun_boot hx) (plain3 h3) (plain1 h3) (iha.r C tk h4) (nice_star h5 _ _))
        · obtain ⟨⟨x, id⟩, hx, e⟩ := Option.map_eq_some_iff.mp (of_decide_eq_true h6)
          simp only at e
          subst e
          exact lvB _ (s_bltT (cr_cls C hx) (gl_of h1) hb (blt_cls_boot hx) (plain3 h3) (plain1 h3) (iha.r C tk h4) (nice_star h5 _ _))
      · cases h
  | rev a iha =>
    refine .ofP (fun _ _ _ => rfl) (fun _ _ _ => rfl) (fun N sc e h => ?_) fun X S C tk e h => ?_
    · simp only [chkE] at h
      split at h <;> first | rfl | cases h
    · simp only [chkE] at h
      split at h
      · rw [Bool.and_eq_true] at h
        have e1 := of_decide_eq_true h.1
        subst e1
        exact lvB _ (s_rev C.K (iha.r C tk h.2))
      · cases h
  | sortI i =>
    refine .ofP (fun _ _ _ => rfl) (fun _ _ _ => rfl) (fun N sc e h => ?_) fun X S C tk e h => ?_
    · simp only [chkE] at h
      split at h <;> first | rfl | cases h
    · simp only [chkE] at h
      split at h
      · simp only [Bool.and_eq_true] at h
        obtain ⟨⟨⟨⟨⟨⟨⟨h1, h2⟩, h3⟩, h4⟩, h5⟩, h6⟩, h7⟩, h8⟩ := h
        have e1 := of_decide_eq_true h1
        subst e1
        have e2 := of_decide_eq_true h2
        subst e2
        exact lvB _ (s_sortI _ _ C.calm (gl_of h3) (C.blt _ (by simpa using h4)) (of_decide_eq_true h5) (vis_of h6) h7 rfl h8 rfl)
      · cases h
  | revT a iha =>
    refine .ofP (fun _ _ _ => rfl) (fun _ _ _ => rfl) (fun N sc e h => ?_) fun X S C tk e h => ?_
    · simp only [chkE] at h
      split at h <;> first | rfl | cases h
    · simp only [chkE] at h
      split at h
      · rw [Bool.and_eq_true] at h
        have e1 := of_decide_eq_true h.1
        subst e1
        exact lvOf _ rfl (s_revT C.K (lvV (iha.ee X S C tk _ h.2)))
      · cases h
  | lset a iha =>
    refine .ofP (fun _ _ _ => rfl) (fun _ _ _ => rfl) (fun N sc e h => ?_) fun X S C tk e h => ?_
    · simp only [chkE] at h
      split at h <;> first | rfl | cases h
    · simp only [chkE] at h
      split at h
      · simp only [Bool.and_eq_true] at h
        obtain ⟨⟨⟨⟨⟨⟨⟨h1, h2⟩, h3⟩, h4⟩, h5⟩, h6⟩, h7⟩, h8⟩ := h
        have e1 := of_decide_eq_true h1
        subst e1
        have e2 := of_decide_eq_true h2
        subst e2
        exact lvOf _ rfl (s_lset C.K C.calm (gl_of h3) (C.blt _ (by simpa using h5)) (gl_of h4) (C.blt _ (by simpa using h6)) (iha.r C tk h7) (nice_star h8 _ _))
      · cases h
  | sortS a iha =>
    refine .ofP (fun _ _ _ => rfl) (fun _ _ _ => rfl) (fun N sc e h => ?_) fun X S C tk e h => ?_
    · simp only [chkE] at h
      split at h <;> first | rfl | cases h
    · simp only [chkE] at h
      split at h
      · simp only [Bool.and_eq_true] at h
        obtain ⟨⟨⟨⟨⟨⟨⟨h1, h2⟩, h3⟩, h4⟩, h5⟩, h6⟩, h7⟩, h8⟩ := h
        have e1 := of_decide_eq_true h1
        subst e1
        have e2 := of_decide_eq_true h2
        subst e2
        exact lvB _ (s_sortS C.K C.calm (gl_of h3) (C.blt _ (by simpa using h5)) (gl_of h4) (C.blt _ (by simpa using h6)) (iha.r C tk h7) (nice_star h8 _ _))
      · cases h
  | join z a ihz iha =>
    refine .ofP (fun _ _ _ => rfl) (fun _ _ _ => rfl) (fun N sc e h => ?_) fun X S C tk e h => ?_
    · simp only [chkE] at h
      split at h <;> first | rfl | cases h
    · simp only [chkE] at h
      split at h
      · rw [Bool.and_eq_true, Bool.and_eq_true, Bool.and_eq_true, Bool.and_eq_true, Bool.and_eq_true] at h
        obtain ⟨⟨⟨⟨⟨h1, h2⟩, h3⟩, h4⟩, h5⟩, h6⟩ := h
        have e1 := of_decide_eq_true h1
        subst e1
        exact lvOf _ rfl (s_join C.K (lvV (ihz.ee X S C tk _ h2)) (iha.r C tk h4) (nice_star h5 _ _) (base_ok h3 _ _) h6)
      · cases h
  | comp i it c el ihi ihc ihe =>
    refine .ofP (fun _ _ _ => rfl) (fun _ _ _ => rfl) (fun N sc e h => ?_) fun X S C tk e h => ?_
    · simp only [chkE] at h
      split at h <;> first | rfl | cases h
    · obtain ⟨elt, x, tp, iter, ifs, scope, p, rfl, q1, q2, q3, q4, q5, q6, q7⟩ := comp_parts ihi ihc ihe C tk h
      have q := s_comp (S := S) (pos := p) C.calm C.nd c.isNil q2 q3 q4 q5 q6 q7
      rw [comp_ev] at q
      exact lvB _ q
  | rng1 a iha =>
    refine ⟨fun X S _ _ e h => (by cases h), fun X S _ _ e h => (by cases h), fun X S C tk es h => (by cases h), fun X S C tk kws h => (by cases h), fun X S C tk pos ks keys es h1 h2 h => (by cases h), fun X S C tk es pos h z => (by cases h), fun X S C tk es pos h z => (by cases h), fun X S C tk tg e h => ?_⟩
    simp only [chkI] at h
    split at h
    · simp only [Bool.and_eq_true] at h
      obtain ⟨⟨⟨⟨h1, h2⟩, h3⟩, h4⟩, h5⟩ := h
      have e1 := of_decide_eq_true h1
      subst e1
      exact i_rng1 (gl_of h2) (C.blt _ (by simpa using h3)) (lvV (iha.ee X S C tk _ h4)) (nice_star h5 _ _)
    · cases h
  | rng2 a b iha ihb =>
    refine ⟨fun X S _ _ e h => (by cases h), fun X S _ _ e h => (by cases h), fun X S C tk es h => (by cases h), fun X S C tk kws h => (by cases h), fun X S C tk pos ks keys es h1 h2 h => (by cases h), fun X S C tk es pos h z => (by cases h), fun X S C tk es pos h z => (by cases h), fun X S C tk tg e h => ?_⟩
    simp only [chkI] at h
    split at h
    · simp only [Bool.and_eq_true] at h
      obtain ⟨⟨⟨⟨⟨⟨h1, h2⟩, h3⟩, h4⟩, h5⟩, h6⟩, h7⟩ := h
      have e1 := of_decide_eq_true h1
      subst e1
      exact i_rng2 (gl_of h2) (C.blt _ (by simpa using h3)) (lvV (iha.ee X S C tk _ h4)) (lvV (ihb.ee X S C tk _ h6)) (by rw [nice_star h5, nice_star h7]; rfl) (nice_star h7 _ _)
    · cases h
  | _ => exact .no (fun _ _ _ => rfl) (fun _ _ _ => rfl) (fun _ _ _ => rfl)
end
end MP
/-! MP: statements, construct by construct. -/
namespace MP
open PySem PySem.Spec PyProof.Rows L2 TL
theorem PSimp {X : Cx} {st : Stmt} {t t' : TS} (h : PS X st t) (f : ∀ D σ H, t' D σ H → t D σ H) : PS X st t' := ⟨fun pins s σ H D I q => h.run pins s σ H D I (f D σ H q)⟩
theorem PSsimp {X : Cx} {sts : List Stmt} {t t' : TS} (h : PSs X sts t) (f : ∀ D σ H, t' D σ H → t D σ H) : PSs X sts t' := ⟨fun pins s σ H D I q => h.run pins s σ H D I (f D σ H q)⟩
section
variable (S : Sit) (G0 : Fz)
/-- a state behind a statement -/
def At (φ : Sto) (ρ : Loc) (N : L2.St → Hp → Prop) : Prop := ∀ G σ H, Ext G0 S.Z G H → StoOk S.M G φ H → LocOk S.M S.Z G ρ σ H → N σ H
/-- where the statement's outcome leads -/
def lands (frn : Bool) (r : Res) (D : Ends) : Prop := match r with
  | .nx ρ φ => At S G0 φ ρ D.nx
  | .bk ρ φ => At S G0 φ ρ D.bk
  | .ct ρ φ => At S G0 φ ρ D.ct
  | .rt w φ => ∀ G H v, Ext G0 S.Z G H → StoOk S.M G φ H → (if frn then RB S.M G S.Z H v w else Rep S.M G v w) → D.rt v H
  | .ex x ρ φ => ∀ G σ H c dd, Ext G0 S.Z G H → StoOk S.M G φ H → LocOk S.M S.Z G ρ σ H → RepX S.M G c dd x → S.Wx c dd σ H
  | .bad => False
def rdS (frn : Bool) (f : Loc → Sto → Res) : TS := fun D σ H => ∃ G ρ φ, Ext G0 S.Z G H ∧ StoOk S.M G φ H ∧ LocOk S.M S.Z G ρ σ H ∧ lands S G0 frn (f ρ φ) D
end
section
variable {S : Sit} {G0 G : Fz} {frn : Bool} {D D' : Ends} {r : Res} {f g : Loc → Sto → Res} {σ : L2.St} {H : Hp} {ρ : Loc} {φ : Sto}
theorem lands_nx (h : lands S G0 frn r D) (e : D.rt = D'.rt) (hb : r.turn (fun _ _ => .bad) ≠ .bad → D.bk = D'.bk) : True := trivial
theorem lands_andThen (h : lands S G0 frn (r.andThen f) D) : lands S G0 frn r { D with nx := rdS S G0 frn f D } := by
  cases r with
  | nx ρ φ => exact fun G σ H e s l => ⟨G, ρ, φ, e, s, l, h⟩
  | bk ρ φ => exact h
  | ct ρ φ => exact h
  | rt w φ => exact h
  | ex x ρ φ => exact h
  | bad => exact h
/-- an expression, then what follows -/
theorem lands_toR {α : Type} {o : Out α} {k : α → Sto → Res} (e0 : Ext G0 S.Z G H) (l : LocOk S.M S.Z G ρ σ H) (h : lands S G0 frn (o.toR ρ k) D) :
    o.holds (fun a φ' => lands S G0 frn (k a φ') D) (fun x φ' => PostX S.M G H φ' x fun c dd H' => S.Wx c dd σ H') := by
  cases o with
  | ok a φ' => exact h
  | exc x φ' => exact fun G' H' c dd e s r => h G' σ H' c dd (e0.trans e) s (l.ext e) r
  | bad => exact h
end
section
variable {M : Md} {Z : Hp} {G G0 : Fz} {φ : Sto} {ρ : Loc} {σ : L2.St} {H : Hp}
/-- an own object at slot i is changed -/
theorem sto_own {a : Addr} {o : HO} (s : StoOk M G φ H) (hF : G.F a = none) (hι : a ∉ G.ι) : StoOk M G φ (upd H a o) := by
  refine ⟨fun b u h => ?_, s.nd, s.len, fun j c b h3 h4 => ?_⟩
  · have ne : b ≠ a := fun z => by rw [z, hF] at h; cases h
    rw [upd_ne ne]; exact s.le b u h
  · obtain ⟨h5, h6⟩ := s.cell j c b h3 h4
    exact ⟨h5, h6.mono ⟨Same.refl _, [], by simp⟩ (upd_ne fun z => hι (z ▸ List.mem_of_getElem? h4))⟩
theorem ext_own {a : Addr} {o : HO} (e : Ext G0 Z G H) (hZ : Z a = none) : Ext G0 Z G (upd H a o) := by
  refine ⟨e.F, fun b u hb hn => ?_, e.new, e.ι, fun b hb => ?_⟩
  · rw [upd_ne (ne_of_none hb hZ)]; exact e.keep b u hb hn
  · by_cases h : b = a
    · rw [h, upd_same]; simp
    · rw [upd_ne h]; exact e.alive b hb
theorem loc_own {i : Nat} {a : Addr} {o : HO} {w w' : W} (l : LocOk M Z G ρ σ H) (hi : ρ[i]? = some (.own w)) (ha : σ[i]? = some (some (.ref a))) (hZ : Z a = none) (hF : G.F a = none) (hι : a ∉ G.ι) (r : RepO M G (upd H a o) a w') :
    LocOk M Z G (ρ.set i (.own w')) σ (upd H a o) := by
  have hlt : i < ρ.length := (List.getElem?_eq_some_iff.mp hi).1
  have old : ∀ {j : Nat} {w1 : W}, (ρ.set i (.own w'))[j]? = some (.own w1) → ∃ w2, ρ[j]? = some (.own w2) := fun {j w1} h => by
    by_cases e : j = i
    · subst e; exact ⟨w, hi⟩
    · rw [List.getElem?_set_ne (Ne.symm e)] at h; exact ⟨w1, h⟩
  refine ⟨by rw [List.length_set]; exact l.len, fun j s h => ?_, fun j k w1 w2 b h1 h2 h3 h4 => ?_⟩
  · by_cases e : j = i
    · subst e
      rw [List.getElem?_set_self hlt] at h
      cases h
      exact ⟨a, ha, hZ, hF, hι, r⟩
    · rw [List.getElem?_set_ne (Ne.symm e)] at h
      have q := l.at_ j s h
      cases s with
      | none => trivial
      | val w => exact q
      | own w1 =>
        obtain ⟨b, h1, h2, h3⟩ := q
        have ne : b ≠ a := fun z => by subst z; exact e (l.apart j i w1 w b h hi h1 ha)
        exact ⟨b, h1, h2, h3.F, h3.ι, h3.rep.mono ⟨Same.refl _, [], by simp⟩ (upd_ne ne)⟩
  · obtain ⟨w3, q1⟩ := old h1
    obtain ⟨w4, q2⟩ := old h2
    exact l.apart j k w3 w4 b q1 q2 h3 h4
/-- a new own object comes to slot i -/
theorem loc_setOwn {i : Nat} {a : Addr} {w : W} (l : LocOk M Z G ρ σ H) (hZ : Z a = none) (o : Own M G H a w) (hn : ∀ j w1, j ≠ i → ρ[j]? = some (.own w1) → σ[j]? ≠ some (some (.ref a))) : LocOk M Z G (ρ.set i (.own w)) (σ.set i (some (.ref a))) H := by
  refine ⟨by rw [List.length_set, List.length_set]; exact l.len, fun j s h => ?_, fun j k w1 w2 b h1 h2 h3 h4 => ?_⟩
  · by_cases e : j = i
    · subst e
      by_cases hj : j < ρ.length
      · rw [List.getElem?_set_self hj] at h
        cases h
        exact ⟨a, by rw [List.getElem?_set_self (by rw [l.len]; exact hj)], hZ, o⟩
      · rw [List.getElem?_eq_none (by rw [List.length_set]; omega)] at h
        cases h
    · rw [List.getElem?_set_ne (Ne.symm e)] at h
      have q := l.at_ j s h
      rw [List.getElem?_set_ne (Ne.symm e)]
      exact q
  · by_cases ej : j = i
    · by_cases ek : k = i
      · rw [ej, ek]
      · exfalso
        subst ej
        have hj : j < σ.length := by have := (List.getElem?_eq_some_iff.mp h3).1; rw [List.length_set] at this; exact this
        rw [List.getElem?_set_self hj] at h3
        rw [List.getElem?_set_ne (Ne.symm ek)] at h2 h4
        cases h3
        exact hn k w2 ek h2 h4
    · by_cases ek : k = i
      · exfalso
        subst ek
        have hj : k < σ.length := by have := (List.getElem?_eq_some_iff.mp h4).1; rw [List.length_set] at this; exact this
        rw [List.getElem?_set_self hj] at h4
        rw [List.getElem?_set_ne (Ne.symm ej)] at h1 h3
        cases h4
        exact hn j w1 ej h1 h3
      · rw [List.getElem?_set_ne (Ne.symm ej)] at h1 h3
        rw [List.getElem?_set_ne (Ne.symm ek)] at h2 h4
        exact l.apart j k w1 w2 b h1 h2 h3 h4
theorem loc_new {H1 : Hp} {G1 : Fz} {i : Nat} {a : Addr} {w : W} (l : LocOk M Z G1 ρ σ H1) (hn : H1 a = none) (l2 : LocOk M Z G ρ σ H) (hZ : Z a = none) (o : Own M G H a w) : LocOk M Z G (ρ.set i (.own w)) (σ.set i (some (.ref a))) H :=
  loc_setOwn l2 hZ o fun j w1 _ h1 h2 => by
    obtain ⟨b, h3, _, h4⟩ := l.at_ j _ h1
    rw [h2] at h3
    cases h3
    exact h4.rep.alive hn
/-- an own object is frozen where it stands -/
theorem loc_frz {i : Nat} {a : Addr} {o : HO} {w : W} (l : LocOk M Z G ρ σ H) (hi : ρ[i]? = some (.own w)) (ha : σ[i]? = some (some (.ref a))) (ow : Own M G H a w) (hH : H a = some o) : LocOk M Z (G.frz a o) (ρ.set i (.val w)) σ H := by
  have hlt : i < ρ.length := (List.getElem?_eq_some_iff.mp hi).1
  refine ⟨by rw [List.length_set]; exact l.len, fun j s h => ?_, fun j k w1 w2 b h1 h2 h3 h4 => ?_⟩
  · by_cases e : j = i
    · subst e
      rw [List.getElem?_set_self hlt] at h
      cases h
      exact ⟨_, ha, rep_frz ow hH⟩
    · rw [List.getElem?_set_ne (Ne.symm e)] at h
      have q := l.at_ j s h
      cases s with
      | none => trivial
      | val w =>
        obtain ⟨x, h1, h2⟩ := q
        exact ⟨x, h1, Rep.mono (frz_le ow.F) _ _ h2⟩
      | own w1 =>
        obtain ⟨b, h1, h2, h3⟩ := q
        have ne : b ≠ a := fun z => by subst z; exact e (l.apart j i w1 w b h hi h1 ha)
        exact ⟨b, h1, h2, by show upd G.F a o b = none; rw [upd_ne ne]; exact h3.F, h3.ι, h3.rep.mono (frz_le ow.F) rfl⟩
  · have n1 : j ≠ i := fun e => by subst e; rw [List.getElem?_set_self hlt] at h1; cases h1
    have n2 : k ≠ i := fun e => by subst e; rw [List.getElem?_set_self hlt] at h2; cases h2
    rw [List.getElem?_set_ne (Ne.symm n1)] at h1
    rw [List.getElem?_set_ne (Ne.symm n2)] at h2
    exact l.apart j k w1 w2 b h1 h2 h3 h4
theorem ext_frz {a : Addr} {o : HO} (e : Ext G0 Z G H) (hZ : Z a = none) (hF : G.F a = none) : Ext G0 Z (G.frz a o) H := by
  refine ⟨fun b u q => ?_, e.keep, fun b h1 h2 h3 => ?_, e.ι, e.alive⟩
  · have q' := e.F b u q
    show upd G.F a o b = _
    rw [upd_ne (ne_of_none q' hF)]
    exact q'
  · show upd G.F a o b = none
    rw [upd_ne (show b ≠ a from fun z => h1 (by rw [z]; exact hZ))]
    exact e.new b h1 h2 h3
end
section
variable {X : Cx} {S : Sit} {G0 : Fz} {frn : Bool} {fr : Nat → Bool} {e a b c : Expr} {st : Stmt} {sts : List Stmt} {pos p : Pos} {fa fb fc : Loc → Sto → Out W} {f g : Loc → Sto → Res}
/-! ### blocks -/
theorem b_nil : PSs X [] (rdS S G0 frn fun ρ φ => .nx ρ φ) := PSsimp pss_nil fun D σ H ⟨G, ρ, φ, e, s, l, h⟩ => (show At S G0 φ ρ D.nx from h) G σ H e s l
theorem b_cons (h1 : PS X st (rdS S G0 frn f)) (h2 : PSs X sts (rdS S G0 frn g)) : PSs X (st :: sts) (rdS S G0 frn fun ρ φ => (f ρ φ).andThen g) := PSsimp (pss_cons h1 h2) fun D σ H ⟨G, ρ, φ, e, s, l, h⟩ =>
  ⟨G, ρ, φ, e, s, l, lands_andThen h⟩
/-- what is own is frozen: no statement of the text -/
def frzF (i : Nat) : Loc → Sto → Res := fun ρ φ => match ρ[i]? with
    | some (.own w) => Res.nx (ρ.set i (.val w)) φ
    | _ => .bad
theorem b_frz {i : Nat} (h : PSs X sts (rdS S G0 frn g)) : PSs X sts (rdS S G0 frn fun ρ φ => (frzF i ρ φ).andThen g) := PSsimp h fun D σ H ⟨G, ρ, φ, e, s, l, q⟩ => by
  have q' : lands S G0 frn ((frzF i ρ φ).andThen g) D := q
  unfold frzF at q'
  split at q'
  · rename_i w hw
    obtain ⟨a, ha, hZ, ow⟩ := l.at_ i _ hw
    cases hH : H a with
    | none => exact absurd hH ow.rep.alive
    | some o => exact ⟨G.frz a o, _, φ, ext_frz e hZ ow.F, sto_frz s ow.F ow.ι hH, loc_frz l hw ha ow hH, q'⟩
  · exact q'.elim
/-! ### names stored -/
/-- what a plain store does -/
def stF (fr : Nat → Bool) (i : Nat) (t : T) (fa : Loc → Sto → Out W) : Loc → Sto → Res := fun ρ φ => (fa ρ φ).toR ρ fun w φ1 =>
  if t.fresh fr then (if w.isObj then .nx (ρ.set i (.own w)) φ1 else .bad) else .nx (ρ.set i (.val w)) φ1
theorem set_read {i : Nat} {t : T} {D : Ends} {σ : L2.St} {H : Hp} (h : rdS S G0 frn (stF fr i t fa) D σ H) :
    rd S (if t.fresh fr then RB S.M else RV S.M) fa σ H fun x H1 => gName i x σ H1 D.nx := by
  obtain ⟨G, ρ, φ, e, s, l, h⟩ := h
  refine ⟨G, ρ, φ, s, l, Out.holds_mono (lands_toR e l h) (fun w φ1 q G1 H1 v e1 s1 r1 => ?_) fun _ _ z => z⟩
  cases hf : t.fresh fr with
  | false =>
    rw [hf] at q r1
    exact (show At S G0 φ1 (ρ.set i (.val w)) D.nx from q) G1 _ H1 (e.trans e1) s1 ((l.ext e1).set i r1)
  | true =>
    rw [hf] at q r1
    simp only [if_true] at q r1
    split at q
    · rename_i ho
      rcases r1 with ⟨_, a, rfl, hn, ow⟩ | ⟨z, _⟩
      · exact (show At S G0 φ1 (ρ.set i (.own w)) D.nx from q) G1 _ H1 (e.trans e1) s1 (loc_new l hn (l.ext e1) (e.none hn) ow)
      · rw [ho] at z; cases z
    · exact q.elim
theorem s_set {i : Nat} {t : T} {x : PySem.Str} (hN : X.N.Nodup) (hi : X.N[i]? = some x) (hx : L2.Loc X.env.scope x) (hf : X.fn x = true ∨ X.env.scope.names.lookup x = some .local) (ha : PE X a (rd S (if t.fresh fr then RB S.M else RV S.M) fa)) (hs : swapsWith a (some (.Name x p)) pos.line X.env = pure false) :
    PS X (.Assign [.Name x p] a pos) (rdS S G0 frn (stF fr i t fa)) := PSimp (ps_set hN hi hx ha hs hf) fun D σ H h => set_read h
/-! ### own lists -/
theorem mt_extendG : MtM X "list.extend" (fun x vs H Q => ∃ l b xs zs, x = .ref l ∧ vs = [.ref b] ∧ H l = some (.lst xs) ∧ LstR X.K H b zs ∧ xs.length + zs.length ≤ sizeLine ∧ Q .non (upd H l (.lst (xs ++ zs)))) := by
  intro pins s σ H x vs v us Q I rx rv h
  obtain ⟨l, b, xs, zs, rfl, rfl, hH, hB, hz, q⟩ := h
  cases rx
  obtain ⟨u, rfl, ru⟩ := rv.one
  cases ru
  obtain ⟨z, its, n, r, hl, e⟩ := I.lstM hH
  obtain ⟨z2, its2, n2, r2, hl2, e2⟩ := LstR.get I hB
  have hsz : its.toArray.size + its2.toArray.size ≤ sizeLine := by rw [List.size_toArray, List.size_toArray]; omega
  have hlong : ¬ (!its.toArray.isEmpty && Builtin.List.listTooLong (its.toArray.size + its2.toArray.size)) = true := by
    rw [notLongL hsz, Bool.and_false]
    exact Bool.false_ne_true
  refine call_meets F.slot_list_extend ⟨_, e, rfl⟩ F.entry_list_extend (F.args_list_extend_2 _ _)
    (AutoSeq1.list_extend_list_list_0 l its.toArray n b its2.toArray n2 hlong (by rw [List.size_toArray]; omega) (by omega)) ⟨e, e2, ?_⟩
  refine ⟨.non, _, I.lset (its' := its ++ its2) hH e (by simp) (r.append r2) ?_, rfl, q⟩
  rw [List.length_append]
  omega
def appF (i : Nat) (fa : Loc → Sto → Out W) : Loc → Sto → Res := fun ρ φ => match ρ[i]? with
    | some (.own (.lst ws)) => (fa ρ φ).toR ρ fun z φ1 => if ws.length < sizeLine then .nx (ρ.set i (.own (.lst (ws ++ [z])))) φ1 else .bad
    | _ => .bad
theorem s_app {i : Nat} {x : PySem.Str} {ap xp cp : Pos} (hN : X.N[i]? = some x) (hv : Vis X.env.scope x) (hd : (x == ("__debug__" : PySem.Str)) = false) (hcd : (x == ("__classdict__" : PySem.Str)) = false)
    (ha : PE X a (rd S (RV S.M) fa)) (hs : starEach [a] X.env = (false, eval a X.env) :: starEach [] X.env) (hline : (ap.endLine == cp.line) = true) :
    PS X (.Expr (.Call (.Attribute (.Name x xp) "append" ap) [a] [] cp) pos) (rdS S G0 frn (appF i fa)) :=
  PSimp (ps_expr (pe_bm F.plainAttrs_list F.slot_list_append F.type_list_append mt_append (pe_var hN hv hd hcd) (pa_cons ha pa_nil hs) (by rfl) (by rw [hs]; rfl) hline hs (by rfl)) (by rfl)) fun D σ H ⟨G, ρ, φ, e, s, l, h⟩ => by
  have h' : lands S G0 frn (appF i fa ρ φ) D := h
  unfold appF at h'
  split at h'
  · rename_i ws hw
    obtain ⟨adr, hadr, hZ, ow⟩ := l.at_ i _ hw
    obtain ⟨vs, hvs, _⟩ := (show ∃ vs, H adr = some (.lst vs) ∧ Reps S.M G vs ws from ow.rep)
    refine ⟨_, hadr, .inl ⟨rfl, vs, .inl (.inl hvs)⟩, G, ρ, φ, s, l, Out.holds_mono (lands_toR e l h') (fun z φ1 q G1 H1 v e1 s1 r1 => ?_) fun _ _ z => z⟩
    have ow1 := ow.ext e1
    obtain ⟨vs1, hvs1, rs1⟩ := (show ∃ vs, H1 adr = some (.lst vs) ∧ Reps S.M G1 vs ws from ow1.rep)
    split at q
    · rename_i hlt
      refine ⟨adr, vs1, v, rfl, rfl, hvs1, by rw [rs1.length]; exact hlt, ?_⟩
      exact (show At S G0 φ1 _ D.nx from q) G1 σ _ (ext_own (e.trans e1) hZ) (sto_own s1 ow1.F ow1.ι) (loc_own (l.ext e1) hw hadr hZ ow1.F ow1.ι ⟨_, upd_same, rs1.append ⟨r1, trivial⟩⟩)
    · exact q.elim
  · exact h'.elim
end
end MP
/-! MP: raise. -/
namespace MP
open PySem PySem.Spec PyProof.Rows L2 TL NdefX
section
variable {X : Cx} {S : Sit} {G0 : Fz} {frn : Bool} {e : Expr} {es : List Expr} {pos pos' p : Pos} {fl : Loc → Sto → Out (List W)} {k : Nat} {flds : List PySem.Str} {x : PySem.Str}
theorem zip_rev : ∀ {fs : List PySem.Str} {vs : List V}, vs.length = fs.length → (fs.zip vs).reverse.map (·.1) = fs.reverse ∧ (fs.zip vs).reverse.map (·.2) = vs.reverse := fun {fs vs} h => by
  rw [List.map_reverse, List.map_reverse, ← List.unzip_fst, ← List.unzip_snd, List.unzip_zip h.symm]
  exact ⟨rfl, rfl⟩
theorem s_raise (hK : X.K = S.M.K) (hc : X.calm = true) (tk : Takes X S.Wx) (hr : Room 2 X.A) (D : ErrOk X.prog X.K (S.M.cls k) flds) (hfl : S.M.flds k = flds.reverse) (hlen : flds.length ≤ 10) (hg : Gl X x) (hm : X.mg x = some (.ref (S.M.cls k)))
    (hdb : (x == ("__debug__" : PySem.Str)) = false) (ha : PA X (e :: es) (rdA S fl)) (hn : ∀ ρ φ ws φ', fl ρ φ = .ok ws φ' → ws.length = flds.length)
    (he : starEach (e :: es) X.env = (false, eval e X.env) :: starEach es X.env) (hpl : (backTo pos (starEach es X.env)).any (·.1) = false) :
    PS X (.Raise (some (.Call (.Name x p) (e :: es) [] pos)) none pos') (rdS S G0 frn fun ρ φ => (fl ρ φ).toR ρ fun ws φ1 => .ex (.ins k ws.reverse) ρ φ1) := by
  obtain ⟨fI, fd, ps, iC, tI, hb, F1⟩ := D.make
  refine PSimp (ps_raise hc tk (pmk_oex D.ox iC tI (F1 X.w X.mg X.base 0) hr hb .nil (fun pins σ H s e s' I c => tk e s' (XE.of_call I (fun _ _ _ z => z.elim) c)) hg hm ha hdb he hpl)) fun Dn σ H ⟨G, ρ, φ, e0, s, l, h⟩ => ?_
  show (rdA S fl) σ H _
  have hh := lands_toR e0 l h
  refine ⟨G, ρ, φ, s, l, ?_⟩
  cases hfl2 : fl ρ φ with
  | bad => rw [hfl2] at hh; exact hh
  | exc x φ1 => rw [hfl2] at hh; exact hh
  | ok ws φ1 =>
    rw [hfl2] at hh
    have hws := hn ρ φ ws φ1 hfl2
    intro G1 H1 vs e1 s1 r1
    have hvl : vs.length = flds.length := by rw [r1.length, hws]
    refine ⟨by omega, fun a hna => ?_⟩
    refine ⟨a, vs, by rw [List.append_nil], hvl, upd_same, fun d hd hda => ?_⟩
    have hd1 : H1 d = none := by rw [upd_ne hda] at hd; exact hd
    refine ⟨rfl, d, (flds.zip vs).reverse, upd_same, by rw [upd_ne hda, upd_same], hd1, ?_⟩
    have eH : upd (del (upd (upd (upd H1 a (exo a (S.M.cls k) none)) d (exd d (flds.zip vs).reverse)) a (exo a (S.M.cls k) (some d))) a) d (.xd (flds.zip vs).reverse) = upd H1 d (.xd (flds.zip vs).reverse) := by
      funext b
      by_cases h1 : b = d
      · subst h1; rw [upd_same, upd_same]
      · rw [upd_ne h1, upd_ne h1]
        by_cases h2 : b = a
        · subst h2; rw [del_same, hna]
        · rw [del_ne h2, upd_ne h2, upd_ne h1, upd_ne h2]
    rw [eH]
    obtain ⟨s2, e2⟩ := laid_frz (o := HO.xd (flds.zip vs).reverse) s1 hd1
    obtain ⟨z1, z2⟩ := zip_rev hvl
    refine hh _ σ _ _ _ ((e0.trans e1).trans e2) s2 ((l.ext e1).ext e2) ⟨rfl, d, (flds.zip vs).reverse, rfl, upd_same, by rw [z1, hfl], ?_⟩
    rw [z2]
    exact (Reps.mono e2.le _ _ r1).reverse
end
end MP
/-! MP: try: .. except X as e: return (a text | a field of e, ..). -/
namespace MP
open PySem PySem.Spec PyProof.Rows L2 TL NdefX
def tryF (yes no : List Nat) (i : Nat) (hs : List HIt) (fb : Loc → Sto → Res) : Loc → Sto → Res := fun ρ φ => match fb ρ φ with
  | .ex (.ins k fs) ρ' φ' => if i < ρ'.length ∧ k ∈ yes then (match hItems fs hs with
      | some ws => if ws.length ≤ 1000 then .rt (.tup ws) φ' else .bad
      | none => .bad)
    else if k ∈ no ∧ k ∉ yes then .ex (.ins k fs) ρ' φ' else .bad
  | .ex _ _ _ => .bad
  | r => r
/-- the handler's elements -/
inductive HEls : PySem.Str → List HIt → List PySem.Str → List Expr → Prop where
  | nil {n : PySem.Str} : HEls n [] [] []
  | str {n : PySem.Str} {s : List Nat} {hs fs es} {k : Nat} {p : Pos} {x : PySem.Str} (hx : x = toS s) (h : HEls n hs fs es) : HEls n (.inl s :: hs) fs (.Constant (.str x) k p :: es)
  | fld {n f : PySem.Str} {j : Nat} {hs fs es} {p q : Pos} (h : HEls n hs fs es) : HEls n (.inr j :: hs) (f :: fs) (.Attribute (.Name n p) f q :: es)
/-- the same, as a value list -/
inductive HVals (a : Addr) (fs : List (PySem.Str × V)) : List HIt → List PySem.Str → List V → Prop where
  | nil : HVals a fs [] [] []
  | str {s : List Nat} {hs ns vs} (h : HVals a fs hs ns vs) : HVals a fs (.inl s :: hs) ns (.str (toS s) :: vs)
  | fld {f : PySem.Str} {j : Nat} {hs ns vs} {v : V} (hv : fs.lookup f = some v) (h : HVals a fs hs ns vs) : HVals a fs (.inr j :: hs) (f :: ns) (v :: vs)
/-- the caught exception is at slot i, of a class whose fields f are plain -/
structure HSit (K : PySem.W.Frag) (a : Addr) (cls : Value) (d : Option Addr) (i : Nat) (names : List PySem.Str) (fs : List (PySem.Str × V)) (σ : L2.St) (H : Hp) : Prop where
  slot : σ[i]? = some (some (.ref a))
  cl : ∃ C, cls = .ref C ∧ XfC K C ∧ ∀ f ∈ names, PySem.W.findIn K (.ref C) f = some none
  dd : ∃ dd, d = some dd ∧ H dd = some (.xd fs)
section
variable {X : Cx} {a : Addr} {oe : Obj} {cls : Value} {d : Option Addr} {pn : List (Addr × Obj)} {i : Nat} {n : PySem.Str}
def tIts (K : PySem.W.Frag) (a : Addr) (cls : Value) (d : Option Addr) (i : Nat) (hs : List HIt) (names : List PySem.Str) : TA := fun σ H Q => ∃ fs vs, HSit K a cls d i names fs σ H ∧ HVals a fs hs names vs ∧ Q vs H
theorem HSit.less {K : PySem.W.Frag} {names names' : List PySem.Str} {fs : List (PySem.Str × V)} {σ : L2.St} {H : Hp} (h : HSit K a cls d i names fs σ H) (k : ∀ f ∈ names', f ∈ names) : HSit K a cls d i names' fs σ H :=
  ⟨h.slot, let ⟨C, h1, h2, h3⟩ := h.cl; ⟨C, h1, h2, fun f hf => h3 f (k f hf)⟩, h.dd⟩
theorem pa_its (hz : Zc cls d oe) (hf : ∃ vs, oe.data = .fields vs) (hN : X.N[i]? = some n) (hv : Vis X.env.scope n) (hd : plainName n = true) : ∀ (hs : List HIt) (names : List PySem.Str) (es : List Expr), HEls n hs names es →
    PA (X.suite a ((a, oe) :: pn)) es (tIts X.K a cls d i hs names)
  | _, _, _, .nil => PAimp pa_nil fun σ H Q ⟨fs, vs, _, hvs, q⟩ => by
    cases hvs
    exact q
  | _, _, _, .str (s := s) (hs := hs) (fs := names) (es := es) (x := x) hx h => by
    subst hx
    refine PAimp (pa_cons pe_str (pa_its hz hf hN hv hd hs names es h) (by rfl)) fun σ H Q ⟨fs, vs, hS, hvs, q⟩ => ?_
    cases hvs with
    | str hvs => exact ⟨fs, _, hS, hvs, q⟩
  | _, _, _, .fld (f := f) (j := j) (hs := hs) (fs := names) (es := es) (p := p) (q := qp) h => by
    have pv : PE (X.suite a ((a, oe) :: pn)) (.Name n p) (tVar i) := pe_var hN hv (plain1 hd) (plain2 hd)
    have px : PE (X.suite a ((a, oe) :: pn)) (.Attribute (.Name n p) f qp) (fun σ H Q => ∃ fs v, HSit X.K a cls d i [f] fs σ H ∧ fs.lookup f = some v ∧ Q v H) := by
      refine ⟨fun pins s σ H Q I ⟨fs, v, ⟨h1, ⟨C, h2, h3, h4⟩, dd, h5, h6⟩, h7, q⟩ => ?_⟩
      exact (pe_xf (pos := qp) h3 (h4 f List.mem_cons_self) hz hf pv (by rfl)).run pins s σ H Q I ⟨.ref a, h1, rfl, h2, dd, fs, v, h5, h6, h7, q⟩
    refine PAimp (pa_cons px (pa_its hz hf hN hv hd hs names es h) (by rfl)) fun σ H Q ⟨fs, vs, hS, hvs, q⟩ => ?_
    cases hvs with
    | fld hv' hvs => exact ⟨fs, _, hS.less fun g hg => by rw [List.mem_singleton.mp hg]; exact List.mem_cons_self, hv', fs, _, hS.less fun g hg => List.mem_cons_of_mem _ hg, hvs, q⟩
end
theorem look_idx : ∀ {es : List (PySem.Str × V)} {f : PySem.Str} {j : Nat}, (es.map (·.1)).findIdx? (· == f) = some j → es.lookup f = (es.map (·.2))[j]?
  | [], f, j, h => by simp at h
  | (g, v) :: es, f, j, h => by
    rw [List.map_cons, List.findIdx?_cons] at h
    show (match f == g with | true => some v | false => es.lookup f) = _
    by_cases e : g = f
    · subst e
      simp only [beq_self_eq_true, if_true, Option.some.injEq] at h
      subst h
      simp
    · have e1 : (g == f) = false := by simpa using e
      have e2 : (f == g) = false := by simpa using fun z : f = g => e z.symm
      simp only [e1, Bool.false_eq_true, if_false, Option.map_eq_some_iff] at h
      obtain ⟨m, hm, rfl⟩ := h
      rw [e2, List.map_cons, List.getElem?_cons_succ]
      exact look_idx hm
/-- the fields stand where the handler reads them -/
inductive HIdx (flds : List PySem.Str) : List HIt → List PySem.Str → Prop where
  | nil : HIdx flds [] []
  | str {s hs ns} (h : HIdx flds hs ns) : HIdx flds (.inl s :: hs) ns
  | fld {f j hs ns} (hj : flds.findIdx? (· == f) = some j) (h : HIdx flds hs ns) : HIdx flds (.inr j :: hs) (f :: ns)
theorem hvals_of {M : Md} {G : Fz} {a : Addr} {es : List (PySem.Str × V)} {fs : List W} {flds : List PySem.Str} (he : es.map (·.1) = flds) (r : Reps M G (es.map (·.2)) fs) : ∀ {hs : List HIt} {names : List PySem.Str} {ws : List W}, HIdx flds hs names → hItems fs hs = some ws →
    ∃ vs, HVals a es hs names vs ∧ Reps M G vs ws
  | _, _, ws, .nil, h => by
    cases h
    exact ⟨[], .nil, trivial⟩
  | _, _, ws, .str (s := s) (hs := hs) h, hw => by
    simp only [hItems, hItem, Option.bind_some, Option.map_eq_some_iff] at hw
    obtain ⟨ws', h1, rfl⟩ := hw
    obtain ⟨vs, h2, h3⟩ := hvals_of he r h h1
    exact ⟨_, .str h2, by show Rep M G (.str (toS s)) (.str s); simp only [Rep], h3⟩
  | _, _, ws, .fld (f := f) (j := j) hj h, hw => by
    simp only [hItems, hItem, Option.bind_eq_some_iff, Option.map_eq_some_iff] at hw
    obtain ⟨x, hx, ws', h1, rfl⟩ := hw
    obtain ⟨vs, h2, h3⟩ := hvals_of he r h h1
    obtain ⟨v, hv, rv⟩ := r.getW hx
    refine ⟨v :: vs, .fld ?_ h2, rv, h3⟩
    rw [look_idx (by rw [he]; exact hj), hv]
section
variable {X : Cx} {S : Sit} {G0 : Fz} {frn : Bool} {fb : Loc → Sto → Res} {yes no : List Nat} {i k1 : Nat} {hs : List HIt} {names : List PySem.Str} {x n : PySem.Str} {c : Value} {body : List Stmt} {es : List Expr} {np tp rp pos pos' : Pos}
theorem s_try (hK : X.K = S.M.K) (hst : X.stack = X.env :: X.outer) (hfr : X.env.frame = some X.env.locals) (hnd : X.N.Nodup) (hi : X.N[i]? = some n) (hln : X.env.kindOf n = some .local) (hpn : plainName n = true) (hc : Names X x c) (tk : Takes X S.Wx)
    (hy : ∀ k ∈ yes, PySem.W.exmOne X.K (.ref (S.M.cls k)) c = some true ∧ XfC X.K (S.M.cls k) ∧ (∀ f ∈ names, PySem.W.findIn X.K (.ref (S.M.cls k)) f = some none) ∧ HIdx (S.M.flds k) hs names)
    (hno : ∀ k ∈ no, PySem.W.exmOne X.K (.ref (S.M.cls k)) c = some false) (hel : HEls n hs names es)
    (hb : ∀ (Wx : WX) (pn : List (Addr × Obj)) (xe : Value → Shared → Prop), Takes (X.tr pn xe) Wx → PassesOwn (model X.prog X.w) X.A X.env xe → PSs (X.tr pn xe) body (rdS ⟨S.M, S.Z, Wx⟩ G0 frn fb)) :
    PS X (.Try body [.ExceptHandler (some (.Name x np)) (some n) [.Return (some (.Tuple es k1 tp)) rp] pos'] [] [] pos) (rdS S G0 frn (tryF yes no i hs fb)) := by
  refine PSimp (ps_try_as (i := i) (c := c) (ts := fun a cls d D σ H => tIts X.K a cls d i hs names σ H fun vs H1 => vs.length ≤ sizeLine ∧ ∀ p, H1 p = none → D.rt (.ref p) (upd H1 p (.tup vs))) hst hfr hnd hi hln hc tk hb (fun a oe cls d pn hz hf => ?_)) fun D σ H ⟨G, ρ, φ, e0, s, l, h⟩ => ?_
  · exact PSsimp (pss_one (ps_ret (pe_tup (pa_its (X := X) (pn := pn) hz hf hi (.inl hln) hpn hs names es hel)))) fun D σ H q => q
  · refine ⟨G, ρ, φ, e0, s, l, ?_⟩
    have h' : lands S G0 frn (match fb ρ φ with
      | .ex (.ins k fs) ρ' φ' => if i < ρ'.length ∧ k ∈ yes then (match hItems fs hs with
          | some ws => if ws.length ≤ 1000 then .rt (.tup ws) φ' else .bad
          | none => .bad)
        else if k ∈ no ∧ k ∉ yes then .ex (.ins k fs) ρ' φ' else .bad
      | .ex _ _ _ => .bad
      | r => r) D := h
    cases hfb : fb ρ φ with
    | nx ρ1 φ1 => rw [hfb] at h'; exact h'
    | bk ρ1 φ1 => rw [hfb] at h'; exact h'
    | ct ρ1 φ1 => rw [hfb] at h'; exact h'
    | rt w φ1 => rw [hfb] at h'; exact h'
    | bad => rw [hfb] at h'; exact h'
    | ex y ρ1 φ1 =>
      rw [hfb] at h'
      cases y with
      | ins k fs =>
        dsimp only at h'
        intro G1 σ1 H1 c1 dd e1 s1 l1 r1
        obtain ⟨hc1, a1, es1, hdd, hF, hm, hr⟩ := r1
        subst hc1
        by_cases hk : i < ρ1.length ∧ k ∈ yes
        · rw [if_pos hk] at h'
          obtain ⟨y1, y2, y3, y4⟩ := hy k hk.2
          refine ⟨true, y1, fun _ a ha => ?_, fun z => (by cases z)⟩
          cases hw : hItems fs hs with
          | none => rw [hw] at h'; exact h'.elim
          | some ws =>
            rw [hw] at h'
            dsimp only at h'
            split at h'
            · rename_i hwl
              obtain ⟨vs, hv1, hv2⟩ := hvals_of (a := a) hm hr y4 hw
              refine ⟨es1, vs, ⟨List.getElem?_set_self (by rw [l1.len]; exact hk.1), ⟨_, rfl, y2, y3⟩, a1, hdd, s1.le _ _ hF⟩, hv1, by rw [hv2.length, sizeLine_eq]; omega, fun p hp => ?_⟩
              refine post_tup s1 hp hv2 (Q := D.rt) fun G2 H2 v e2 s2 r2 => ?_
              refine h' G2 H2 v (e1.trans e2) s2 ?_
              rcases r2 with ⟨z, _⟩ | ⟨_, r2⟩
              · cases z
              · cases frn with
                | true => exact .inr ⟨rfl, r2⟩
                | false => exact r2
            · exact h'.elim
        · rw [if_neg hk] at h'
          by_cases hk2 : k ∈ no ∧ k ∉ yes
          · rw [if_pos hk2] at h'
            exact ⟨false, hno k hk2.1, fun z => (by cases z), fun _ => h' G1 σ1 H1 _ dd e1 s1 l1 ⟨rfl, a1, es1, hdd, hF, hm, hr⟩⟩
          · rw [if_neg hk2] at h'
            exact h'.elim
      | _ => exact h'.elim
end
end MP
/-! MP: statements, construct by construct (2). -/
namespace MP
open PySem PySem.Spec PyProof.Rows L2 TL
section
variable {M : Md} {Z : Hp} {G : Fz} {ρ ρ' : Loc} {σ σ' : L2.St} {H : Hp}
/-- places moved about -/
theorem LocOk.sub (l : LocOk M Z G ρ σ H) (f : Nat → Nat) (hl : σ'.length = ρ'.length) (inj : ∀ i j, i < ρ'.length → j < ρ'.length → f i = f j → i = j) (hρ : ∀ i s, ρ'[i]? = some s → ρ[f i]? = some s ∧ σ'[i]? = σ[f i]?) : LocOk M Z G ρ' σ' H := by
  refine ⟨hl, fun i s h => ?_, fun i j w w' a h1 h2 h3 h4 => ?_⟩
  · obtain ⟨q1, q2⟩ := hρ i s h
    rw [q2]
    exact l.at_ _ _ q1
  · obtain ⟨p1, p2⟩ := hρ i _ h1
    obtain ⟨q1, q2⟩ := hρ j _ h2
    rw [p2] at h3
    rw [q2] at h4
    exact inj i j (List.getElem?_eq_some_iff.mp h1).1 (List.getElem?_eq_some_iff.mp h2).1 (l.apart _ _ _ _ a p1 q1 h3 h4)
theorem LocOk.front {π : Loc} {τ : L2.St} (l : LocOk M Z G (ρ ++ π) (σ ++ τ) H) (hl : σ.length = ρ.length) : LocOk M Z G ρ σ H :=
  l.sub id hl (fun _ _ _ _ h => h) fun i s h => by
    have hlt := (List.getElem?_eq_some_iff.mp h).1
    exact ⟨by rw [id, List.getElem?_append_left hlt]; exact h, by rw [id, List.getElem?_append_left (by omega)]⟩
/-- the first of what stands ready comes to place i -/
theorem LocOk.move {π : Loc} {τ : L2.St} {s : Sl} {v : Option V} {i : Nat} (l : LocOk M Z G (ρ ++ s :: π) (σ ++ v :: τ) H) (hl : σ.length = ρ.length) : LocOk M Z G (ρ.set i s ++ π) (σ.set i v ++ τ) H := by
  have hl2 := l.len
  simp only [List.length_append, List.length_cons] at hl2
  refine l.sub (fun j => if j < ρ.length then (if j = i then ρ.length else j) else j + 1) (by simp only [List.length_append, List.length_set]; omega) (fun j k hj hk e => ?_) fun j u h => ?_
  · simp only [List.length_append, List.length_set] at hj hk
    split at e <;> split at e <;> (try split at e) <;> (try split at e) <;> omega
  · skip
    by_cases h1 : j < ρ.length
    · have hj1 : j < (ρ.set i s).length := by rw [List.length_set]; exact h1
      have hj2 : j < (σ.set i v).length := by rw [List.length_set]; omega
      rw [List.getElem?_append_left hj1] at h
      rw [if_pos h1, List.getElem?_append_left hj2]
      by_cases h3 : j = i
      · subst h3
        rw [List.getElem?_set_self h1] at h
        rw [if_pos rfl, List.getElem?_set_self (by omega)]
        refine ⟨?_, ?_⟩
        · rw [List.getElem?_append_right (Nat.le_refl _), Nat.sub_self]; exact h
        · rw [List.getElem?_append_right (by omega), hl, Nat.sub_self]; rfl
      · rw [List.getElem?_set_ne (Ne.symm h3)] at h
        rw [if_neg h3, List.getElem?_set_ne (Ne.symm h3)]
        exact ⟨by rw [List.getElem?_append_left h1]; exact h, by rw [List.getElem?_append_left (by omega)]⟩
    · have hj1 : (ρ.set i s).length ≤ j := by rw [List.length_set]; omega
      have hj2 : (σ.set i v).length ≤ j := by rw [List.length_set]; omega
      rw [List.getElem?_append_right hj1, List.length_set] at h
      rw [if_neg h1, List.getElem?_append_right hj2, List.length_set]
      refine ⟨?_, ?_⟩
      · rw [List.getElem?_append_right (by omega), show j + 1 - ρ.length = (j - ρ.length) + 1 by omega]; exact h
      · rw [List.getElem?_append_right (by omega), show j + 1 - σ.length = (j - σ.length) + 1 by omega]; rfl
/-- one more stands ready -/
theorem LocOk.ready {π : Loc} {τ : L2.St} {v : V} {w : W} (l : LocOk M Z G (ρ ++ π) (σ ++ τ) H) (r : Rep M G v w) : LocOk M Z G (ρ ++ (π ++ [.val w])) (σ ++ (τ ++ [some v])) H := by
  have e1 : ρ ++ (π ++ [Sl.val w]) = (ρ ++ π) ++ [Sl.val w] := (List.append_assoc ..).symm
  have e2 : σ ++ (τ ++ [some v]) = (σ ++ τ) ++ [some v] := (List.append_assoc ..).symm
  rw [e1, e2]
  generalize ρ ++ π = ρ at l
  generalize σ ++ τ = σ at l
  have hl := l.len
  have cases_ : ∀ {j : Nat} {s : Sl}, (ρ ++ [Sl.val w])[j]? = some s → (ρ[j]? = some s ∧ j < ρ.length) ∨ (s = .val w ∧ j = ρ.length) := fun {j s} h => by
    by_cases hj : j < ρ.length
    · rw [List.getElem?_append_left hj] at h; exact .inl ⟨h, hj⟩
    · rw [List.getElem?_append_right (by omega)] at h
      have hlt := (List.getElem?_eq_some_iff.mp h).1
      simp only [List.length_cons, List.length_nil] at hlt
      have : j - ρ.length = 0 := by omega
      rw [this] at h
      cases h
      exact .inr ⟨rfl, by omega⟩
  refine ⟨by simp [hl], fun j s h => ?_, fun j k w1 w2 a h1 h2 h3 h4 => ?_⟩
  · rcases cases_ h with ⟨q, hj⟩ | ⟨rfl, rfl⟩
    · rw [List.getElem?_append_left (by omega)]; exact l.at_ _ _ q
    · rw [List.getElem?_append_right (by omega), hl, Nat.sub_self]
      exact ⟨v, rfl, r⟩
  · rcases cases_ h1 with ⟨p1, hj⟩ | ⟨z, _⟩
    · rcases cases_ h2 with ⟨p2, hk⟩ | ⟨z, _⟩
      · rw [List.getElem?_append_left (by omega)] at h3 h4
        exact l.apart j k w1 w2 a p1 p2 h3 h4
      · cases z
    · cases z
theorem LocOk.readyOwn {H1 : Hp} {G1 : Fz} {π : Loc} {τ : L2.St} {a : Addr} {w : W} (l0 : LocOk M Z G1 (ρ ++ π) (σ ++ τ) H1) (hn : H1 a = none) (l : LocOk M Z G (ρ ++ π) (σ ++ τ) H) (hZ : Z a = none) (o : Own M G H a w) : LocOk M Z G (ρ ++ (π ++ [.own w])) (σ ++ (τ ++ [some (.ref a)])) H := by
  have e1 : ρ ++ (π ++ [Sl.own w]) = (ρ ++ π) ++ [Sl.own w] := (List.append_assoc ..).symm
  have e2 : σ ++ (τ ++ [some (.ref a)]) = (σ ++ τ) ++ [some (.ref a)] := (List.append_assoc ..).symm
  rw [e1, e2]
  generalize ρ ++ π = ρ at l l0
  generalize σ ++ τ = σ at l l0
  have hl := l.len
  have cases_ : ∀ {j : Nat} {s : Sl}, (ρ ++ [Sl.own w])[j]? = some s → (ρ[j]? = some s ∧ j < ρ.length) ∨ (s = .own w ∧ j = ρ.length) := fun {j s} h => by
    by_cases hj : j < ρ.length
    · rw [List.getElem?_append_left hj] at h; exact .inl ⟨h, hj⟩
    · rw [List.getElem?_append_right (by omega)] at h
      have hlt := (List.getElem?_eq_some_iff.mp h).1
      simp only [List.length_cons, List.length_nil] at hlt
      have : j - ρ.length = 0 := by omega
      rw [this] at h
      cases h
      exact .inr ⟨rfl, by omega⟩
  have last : (σ ++ [some (V.ref a)])[ρ.length]? = some (some (.ref a)) := by rw [List.getElem?_append_right (by omega), hl, Nat.sub_self]; rfl
  have no : ∀ {j : Nat} {w1 : W}, ρ[j]? = some (.own w1) → σ[j]? ≠ some (some (.ref a)) := fun {j w1} h h2 => by
    obtain ⟨b, h3, _, h4⟩ := l0.at_ j _ h
    rw [h2] at h3
    cases h3
    exact h4.rep.alive hn
  refine ⟨by simp [hl], fun j s h => ?_, fun j k w1 w2 b h1 h2 h3 h4 => ?_⟩
  · rcases cases_ h with ⟨q, hj⟩ | ⟨rfl, rfl⟩
    · rw [List.getElem?_append_left (by omega)]; exact l.at_ _ _ q
    · rw [last]; exact ⟨a, rfl, hZ, o⟩
  · rcases cases_ h1 with ⟨p1, hj⟩ | ⟨z1, rfl⟩
    · rw [List.getElem?_append_left (by omega)] at h3
      rcases cases_ h2 with ⟨p2, hk⟩ | ⟨z, rfl⟩
      · rw [List.getElem?_append_left (by omega)] at h4
        exact l.apart j k w1 w2 b p1 p2 h3 h4
      · rw [last] at h4
        cases h4
        exact absurd h3 (no p1)
    · rw [last] at h3
      cases h3
      rcases cases_ h2 with ⟨p2, hk⟩ | ⟨z, rfl⟩
      · rw [List.getElem?_append_left (by omega)] at h4
        exact absurd h4 (no p2)
      · rfl
end
/-! ### values that stand ready for several names -/
/-- a list of expressions for a store of several names -/
def rdL (S : Sit) (fs : List Bool) (f : Loc → Sto → Out (List W)) : TA := fun σ H Q => ∃ G0 G ρ φ π τ, Ext G0 S.Z G H ∧ StoOk S.M G φ H ∧ σ.length = ρ.length ∧ LocOk S.M S.Z G (ρ ++ π) (σ ++ τ) H ∧
  (f ρ φ).holds (fun ws φ' => ∃ ss, slots fs ws = some ss ∧ ∀ G' H' vs, Ext G H G' H' → StoOk S.M G' φ' H' → vs.length = ws.length → LocOk S.M S.Z G' (ρ ++ (π ++ ss)) (σ ++ (τ ++ vs.map some)) H' → Q vs H') (fun x φ' => PostX S.M G H φ' x fun c dd H' => S.Wx c dd σ H')
section
variable {X : Cx} {S : Sit} {e : Expr} {es : List Expr} {fa : Loc → Sto → Out W} {fr : Loc → Sto → Out (List W)}
theorem l_nil {gv : Nat → Option W} {call : Calls} : PA X [] (rdL S [] (evalEs gv call .nil)) := PAimp pa_nil fun σ H Q ⟨G0, G, ρ, φ, π, τ, e0, s, hl, l, q⟩ => by
  obtain ⟨ss, hss, q'⟩ := (show ∃ ss, slots [] ([] : List W) = some ss ∧ _ from q)
  cases hss
  exact q' G H [] (.refl s) s rfl (by simpa using l)
theorem l_cons {f : Bool} {fs : List Bool} (ha : PE X e (rd S (if f then RB S.M else RV S.M) fa)) (hr : PA X es (rdL S fs fr)) (hs : starEach (e :: es) X.env = (false, eval e X.env) :: starEach es X.env) :
    PA X (e :: es) (rdL S (f :: fs) fun ρ φ => (fa ρ φ).bind fun x φ1 => (fr ρ φ1).bind fun xs φ2 => .ok (x :: xs) φ2) := PAimp (pa_cons ha hr hs) fun σ H Q ⟨G0, G, ρ, φ, π, τ, e0, s, hl, l, q⟩ => by
  rw [Out.holds_bind] at q
  refine ⟨G, ρ, φ, s, l.front hl, Out.holds_mono q (fun x φ1 q1 G1 H1 v1 e1 s1 r1 => ?_) fun _ _ z => z⟩
  rw [Out.holds_bind] at q1
  -- x stands ready
  cases hfr : fr ρ φ1 with
  | bad => rw [hfr] at q1; exact q1.elim
  | exc y φ2 =>
    rw [hfr] at q1
    refine ⟨G0, G1, ρ, φ1, π, τ, e0.trans e1, s1, hl, l.ext e1, ?_⟩
    rw [hfr]
    exact PostX.ext q1 e1
  | ok xs φ2 =>
    rw [hfr] at q1
    obtain ⟨ss, hss, q2⟩ := (show ∃ ss, slots (f :: fs) (x :: xs) = some ss ∧ _ from q1)
    unfold slots at hss
    split at hss
    · cases hss
    rename_i hf
    obtain ⟨ss', hss', rfl⟩ := Option.map_eq_some_iff.mp hss
    have l1 : LocOk S.M S.Z G1 (ρ ++ (π ++ [slOf f x])) (σ ++ (τ ++ [some v1])) H1 := by
      cases f with
      | false => exact (l.ext e1).ready r1
      | true =>
        have hx : x.isObj = true := by simpa using hf
        rcases (show RB S.M G1 H H1 v1 x from r1) with ⟨_, a, rfl, hn, ow⟩ | ⟨z, _⟩
        · exact l.readyOwn hn (l.ext e1) (e0.none hn) ow
        · rw [hx] at z; cases z
    refine ⟨G0, G1, ρ, φ1, π ++ [slOf f x], τ ++ [some v1], e0.trans e1, s1, hl, l1, ?_⟩
    rw [hfr]
    refine ⟨ss', hss', fun G2 H2 vs e2 s2 hv l2 => q2 G2 H2 (v1 :: vs) (e1.trans e2) s2 (by simp [hv]) ?_⟩
    have e3 : π ++ slOf f x :: ss' = π ++ [slOf f x] ++ ss' := by simp
    have e4 : τ ++ (v1 :: vs).map some = τ ++ [some v1] ++ vs.map some := by simp
    rw [e3, e4]
    exact l2
end
end MP
/-! MP: statements, construct by construct (3). -/
namespace MP
open PySem PySem.Spec PyProof.Rows L2 TL
def setV : List Nat → List V → L2.St → L2.St
  | i :: is, v :: vs, σ => setV is vs (σ.set i (some v))
  | _, _, σ => σ
theorem setV_len : ∀ (is : List Nat) (vs : List V) (σ : L2.St), (setV is vs σ).length = σ.length
  | [], _, _ => rfl
  | _ :: _, [], _ => rfl
  | i :: is, v :: vs, σ => by show (setV is vs (σ.set i (some v))).length = _; rw [setV_len]; simp
theorem loc_moves {M : Md} {Z : Hp} {G : Fz} {H : Hp} : ∀ {is : List Nat} {ss : List Sl} {vs : List V} {ρ ρ' : Loc} {σ : L2.St}, σ.length = ρ.length → ss.length = vs.length → LocOk M Z G (ρ ++ ss) (σ ++ vs.map some) H → setSl is ss ρ = some ρ' → LocOk M Z G ρ' (setV is vs σ) H
  | [], [], [], ρ, ρ', σ, _, _, l, h => by
    simp only [setSl, Option.some.injEq] at h
    subst h
    simpa [setV] using l
  | [], _ :: _, _, _, _, _, _, _, _, h => by simp [setSl] at h
  | _ :: _, [], _, _, _, _, _, _, _, h => by simp [setSl] at h
  | i :: is, s :: ss, v :: vs, ρ, ρ', σ, hl, hv, l, h => by
    have l' : LocOk M Z G (ρ.set i s ++ ss) (σ.set i (some v) ++ vs.map some) H := LocOk.move l hl
    exact loc_moves (is := is) (by simp [hl]) (by simpa using hv) l' h
  | [], [], _ :: _, _, _, _, _, hv, _, _ => by simp at hv
  | _ :: _, _ :: _, [], _, _, _, _, hv, _, _ => by simp at hv
theorem slots_len : ∀ {fs : List Bool} {ws : List W} {ss : List Sl}, slots fs ws = some ss → ss.length = ws.length
  | [], [], _, h => by simp only [slots, Option.some.injEq] at h; subst h; rfl
  | [], _ :: _, _, h => by simp [slots] at h
  | _ :: _, [], _, h => by simp [slots] at h
  | f :: fs, w :: ws, ss, h => by
    unfold slots at h
    split at h
    · cases h
    · obtain ⟨t, ht, rfl⟩ := Option.map_eq_some_iff.mp h
      rw [List.length_cons, List.length_cons, slots_len ht]
theorem setSl_len : ∀ {is : List Nat} {ss : List Sl} {ρ ρ' : Loc}, setSl is ss ρ = some ρ' → is.length = ss.length
  | [], [], _, _, _ => rfl
  | [], _ :: _, _, _, h => by simp [setSl] at h
  | _ :: _, [], _, _, h => by simp [setSl] at h
  | i :: is, s :: ss, ρ, ρ', h => by rw [List.length_cons, List.length_cons, setSl_len (is := is) (ss := ss) h]
section
variable {X : Cx} {S : Sit} {G0 : Fz} {frn : Bool} {e a b c : Expr} {st : Stmt} {sts : List Stmt} {pos p : Pos} {fa fb fc : Loc → Sto → Out W} {fl : Loc → Sto → Out (List W)} {f g : Loc → Sto → Res}
def parF (is : List Nat) (fs : List Bool) (fl : Loc → Sto → Out (List W)) : Loc → Sto → Res := fun ρ φ => (fl ρ φ).toR ρ fun ws φ1 => match (slots fs ws).bind fun ss => setSl is ss ρ with
    | some ρ' => .nx ρ' φ1
    | none => .bad
theorem par_read {is : List Nat} {fs : List Bool} {D : Ends} {σ : L2.St} {H : Hp} (h : rdS S G0 frn (parF is fs fl) D σ H) :
    rdL S fs fl σ H fun vs H1 => vs.length = is.length ∧ D.nx (setV is vs σ) H1 ∧ ∀ p, H1 p = none → D.nx (setV is vs σ) (upd H1 p (.tup vs)) := by
  obtain ⟨G, ρ, φ, e, s, l, h⟩ := h
  refine ⟨G0, G, ρ, φ, [], [], e, s, l.len, by simpa using l, Out.holds_mono (lands_toR e l h) (fun ws φ1 q => ?_) fun _ _ z => z⟩
  split at q
  rotate_left
  · exact q.elim
  rename_i ρ' hρ
  obtain ⟨ss, hss, hset⟩ := Option.bind_eq_some_iff.mp hρ
  refine ⟨ss, hss, fun G1 H1 vs e1 s1 hv l1 => ?_⟩
  have q' : At S G0 φ1 ρ' D.nx := q
  have l2 : LocOk S.M S.Z G1 ρ' (setV is vs σ) H1 := loc_moves l.len (by rw [slots_len hss, hv]) (by simpa using l1) hset
  refine ⟨by rw [hv, setSl_len hset, slots_len hss], q' G1 _ H1 (e.trans e1) s1 l2, fun p hp => ?_⟩
  have e2 := ext_laid (o := .tup vs) s1 hp
  exact q' G1 _ _ ((e.trans e1).trans e2) (sto_laid s1 hp) (l2.ext e2)
theorem kind_block {env : Env} (h : env.scope.kind = .function) : env.blockKind = .function := by unfold Env.blockKind; rw [h]; rfl
theorem sw_len {ts vs : List Expr} {k1 k2 : Nat} {p1 p2 : Pos} {env : Env} (h : (ts.length == 2 || ts.length == 3) = false) : swappedStores [.Tuple ts k1 p1] (.Tuple vs k2 p2) env = pure none := by
  unfold swappedStores
  simp [h]
def isStar : Expr → Bool
  | .Starred _ _ => true
  | _ => false
theorem star_fun : (fun e : Expr => match e with | .Starred .. => true | _ => false) = isStar := by
  funext e
  cases e <;> rfl
theorem nice_noStar {e : Expr} (h : isNice e = true) : isStar e = false := by cases e <;> first | rfl | (simp [isNice] at h)
def nmF (env : Env) (line : Nat) : Expr → Option PySem.Str
  | .Name id pos => if env.kindOf id == some .local && pos.line == line then some id else none
  | _ => none
theorem swE {ts vs : List Expr} {k1 k2 : Nat} {p1 p2 : Pos} {env : Env} (ns : List PySem.Str) (hk : env.scope.kind = .function) (hn : (ts.length == 2 || ts.length == 3) = true) (hl : vs.length = ts.length)
    (hs : vs.all isNice = true) (hf : ts.filterMap (nmF env ((ts.head?.map (·.pos.line)).getD 0)) = ns) (hns : ns.length = ts.length) (hd : ns.eraseDups.length = ns.length) (hc : (vs.all (foldedForSure 8) || !vs.all (constantsAlone 8)) = true) :
    swappedStores [.Tuple ts k1 p1] (.Tuple vs k2 p2) env = pure (if vs.all (foldedForSure 8) then none else some ns) := by
  have hb := kind_block hk
  have h1 : vs.any isStar = false := by
    rw [List.any_eq_false]
    intro e he
    rw [nice_noStar (List.all_eq_true.mp hs e he)]
    exact Bool.false_ne_true
  unfold swappedStores
  show (if (!(ts.length == 2 || ts.length == 3) || vs.length != ts.length || env.blockKind != .function) = true then pure none else if vs.any isStar = true then pure none else
    if ((ts.filterMap (nmF env ((ts.head?.map (·.pos.line)).getD 0))).length != ts.length || (ts.filterMap (nmF env ((ts.head?.map (·.pos.line)).getD 0))).eraseDups.length != (ts.filterMap (nmF env ((ts.head?.map (·.pos.line)).getD 0))).length) = true then pure none
    else if vs.all (foldedForSure 8) = true then pure none
    else if vs.all (constantsAlone 8) = true then (do (unsupported "assign.tuple-of-constant-expressions:order-of-the-stores" : Sem Unit); pure (some (ts.filterMap (nmF env ((ts.head?.map (·.pos.line)).getD 0)))))
    else pure (some (ts.filterMap (nmF env ((ts.head?.map (·.pos.line)).getD 0)))) : Sem (Option (List PySem.Str))) = _
  rw [hb, h1, hf, hn, hl, hns, hd, hns]
  by_cases h : vs.all (foldedForSure 8) = true
  · simp [h]
  · have h2 : vs.all (constantsAlone 8) = false := by
      simp only [Bool.not_eq_true] at h
      rw [h] at hc
      simpa using hc
    simp [h, h2]
/-- the targets of a store of several names -/
def tgOk (N : List PySem.Str) (sc : Scope) : List Nat → List Expr → Bool
  | [], [] => true
  | i :: is, .Name x _ :: r => decide (N[i]? = some x) && decide (sc.names.lookup x = some .local) && tgOk N sc is r
  | _, _ => false
theorem tgOk_len {N : List PySem.Str} {sc : Scope} : ∀ {is : List Nat} {ts : List Expr}, tgOk N sc is ts = true → is.length = ts.length
  | [], [], _ => rfl
  | [], _ :: _, h => by simp [tgOk] at h
  | _ :: _, [], h => by simp [tgOk] at h
  | i :: is, t :: r, h => by
    cases t with
    | Name x p =>
      have h' : (decide (N[i]? = some x) && decide (sc.names.lookup x = some .local) && tgOk N sc is r) = true := h
      rw [Bool.and_eq_true, Bool.and_eq_true] at h'
      rw [List.length_cons, List.length_cons, tgOk_len h'.2]
    | _ => simp [tgOk] at h
def gNames : List Nat → TGs := fun is vs σ H Q => vs.length = is.length ∧ Q (setV is vs σ) H
theorem pgs_names (hN : X.N.Nodup) : ∀ {is : List Nat} {ts : List Expr}, tgOk X.N X.env.scope is ts = true → PGs X ts (gNames is) ∧ (assignEach ts X.env).length = ts.length ∧ (assignEach ts X.env).findIdx? (·.1) = none
  | [], [], _ => ⟨⟨fun pins s σ H vs us Q I r ⟨hl, q⟩ => by
      cases vs with
      | nil => exact pgs_nil.run pins s σ H [] us Q I r ⟨rfl, q⟩
      | cons _ _ => simp at hl⟩, rfl, rfl⟩
  | [], _ :: _, h => by simp [tgOk] at h
  | _ :: _, [], h => by simp [tgOk] at h
  | i :: is, t :: r, h => by
    cases t with
    | Name x p =>
      have h' : (decide (X.N[i]? = some x) && decide (X.env.scope.names.lookup x = some .local) && tgOk X.N X.env.scope is r) = true := h
      rw [Bool.and_eq_true, Bool.and_eq_true] at h'
      have hx := of_decide_eq_true h'.1.2
      obtain ⟨g, h1, h2⟩ := pgs_names hN h'.2
      refine ⟨⟨fun pins s σ H vs us Q I rr ⟨hl, q⟩ => ?_⟩, ?_, ?_⟩
      · cases vs with
        | nil => simp at hl
        | cons v vs => exact (pgs_cons (pg_name (pos := p) hN (of_decide_eq_true h'.1.1) (.inl hx) (.inr hx)) g (by rfl)).run pins s σ H (v :: vs) us Q I rr ⟨v, vs, rfl, by simpa using hl, q⟩
      · show (assignEach r X.env).length + 1 = _
        rw [h1]; rfl
      · have e : (assignEach (.Name x p :: r) X.env).map (·.1) = false :: (assignEach r X.env).map (·.1) := rfl
        rw [List.findIdx?_eq_none_iff] at h2 ⊢
        intro z hz
        have hz' : z.1 ∈ (assignEach (.Name x p :: r) X.env).map (·.1) := List.mem_map_of_mem hz
        rw [e] at hz'
        rcases List.mem_cons.mp hz' with q | q
        · exact q
        · obtain ⟨w, hw, e2⟩ := List.mem_map.mp q
          rw [← e2]
          exact h2 w hw
    | _ => simp [tgOk] at h
end
end MP
/-! MP: statements, construct by construct (4). -/
namespace MP
open PySem PySem.Spec PyProof.Rows L2 TL
section
variable {X : Cx} {S : Sit} {G0 : Fz} {frn : Bool} {e a b c : Expr} {es ts : List Expr} {st : Stmt} {sts : List Stmt} {pos p : Pos} {fa fb fc : Loc → Sto → Out W} {fl : Loc → Sto → Out (List W)} {f g : Loc → Sto → Res}
theorem nd_inj {α : Type} : ∀ {l : List α} {i j : Nat} {x : α}, l.Nodup → l[i]? = some x → l[j]? = some x → i = j
  | [], i, j, x, _, h, _ => by simp at h
  | y :: l, 0, 0, x, _, _, _ => rfl
  | y :: l, i + 1, j + 1, x, hn, h1, h2 => by
    rw [List.nodup_cons] at hn
    have e : i = j := nd_inj hn.2 (x := x) (by simpa using h1) (by simpa using h2)
    rw [e]
  | y :: l, 0, j + 1, x, hn, h1, h2 => by
    rw [List.nodup_cons] at hn
    have e : y = x := by simpa using h1
    subst e
    exact absurd (List.mem_of_getElem? (by simpa using h2)) hn.1
  | y :: l, i + 1, 0, x, hn, h1, h2 => by
    rw [List.nodup_cons] at hn
    have e : y = x := by simpa using h2
    subst e
    exact absurd (List.mem_of_getElem? (by simpa using h1)) hn.1
theorem rdL_mono {fs : List Bool} {σ : L2.St} {H : Hp} {Q Q' : List V → Hp → Prop} (h : rdL S fs fl σ H Q) (f : ∀ vs H', Q vs H' → Q' vs H') : rdL S fs fl σ H Q' := by
  obtain ⟨G0, G, ρ, φ, π, τ, e, s, hl, l, q⟩ := h
  exact ⟨G0, G, ρ, φ, π, τ, e, s, hl, l, Out.holds_mono q (fun ws φ' ⟨ss, h1, h2⟩ => ⟨ss, h1, fun G' H' vs e s hv l => f vs H' (h2 G' H' vs e s hv l)⟩) fun _ _ z => z⟩
/-- are the values put on the stack, not in a tuple? -/
def swB (sc : Scope) (is : List Nat) (ts vs : List Expr) : Bool := (ts.length == 2 || ts.length == 3) && !vs.all (foldedForSure 8)
def swOk (is : List Nat) (ts vs : List Expr) : Bool := decide (vs.length = ts.length) && (!(ts.length == 2 || ts.length == 3) || (vs.all isNice && decide is.Nodup && ts.all (fun t => t.pos.line == (ts.head?.map (·.pos.line)).getD 0) && (vs.all (foldedForSure 8) || !vs.all (constantsAlone 8))))
def tgName : Expr → PySem.Str
  | .Name x _ => x
  | _ => ""
theorem tg_names {N : List PySem.Str} {env : Env} {line : Nat} : ∀ {is : List Nat} {ts : List Expr}, tgOk N env.scope is ts = true → ts.all (fun t => t.pos.line == line) = true → ts.filterMap (nmF env line) = ts.map tgName ∧ (∀ x ∈ ts.map tgName, ∃ i ∈ is, N[i]? = some x) ∧ (is.Nodup → N.Nodup → (ts.map tgName).Nodup)
  | [], [], _, _ => ⟨rfl, fun _ h => (by cases h), fun _ _ => List.nodup_nil⟩
  | [], _ :: _, h, _ => by simp [tgOk] at h
  | _ :: _, [], h, _ => by simp [tgOk] at h
  | i :: is, t :: r, h, hl => by
    cases t with
    | Name x p =>
      have h' : (decide (N[i]? = some x) && decide (env.scope.names.lookup x = some .local) && tgOk N env.scope is r) = true := h
      rw [Bool.and_eq_true, Bool.and_eq_true] at h'
      have hx : env.kindOf x = some .local := of_decide_eq_true h'.1.2
      have hi := of_decide_eq_true h'.1.1
      rw [List.all_cons, Bool.and_eq_true] at hl
      obtain ⟨h1, h2, h3⟩ := tg_names h'.2 hl.2
      have h4 : nmF env line (.Name x p) = some x := by
        show (if env.kindOf x == some .local && p.line == line then some x else none) = some x
        have : (p.line == line) = true := hl.1
        rw [hx, this]; rfl
      refine ⟨by rw [List.filterMap_cons_some h4, h1]; rfl, fun y hy => ?_, fun hnd hN => ?_⟩
      · rcases List.mem_cons.mp hy with q | q
        · subst q; exact ⟨i, List.mem_cons_self, hi⟩
        · obtain ⟨j, hj, q⟩ := h2 y q
          exact ⟨j, List.mem_cons_of_mem _ hj, q⟩
      · rw [List.nodup_cons] at hnd
        show (x :: r.map tgName).Nodup
        rw [List.nodup_cons]
        refine ⟨fun hm => ?_, h3 hnd.2 hN⟩
        obtain ⟨j, hj, q⟩ := h2 x hm
        have e : i = j := nd_inj hN hi q
        subst e
        exact hnd.1 hj
    | _ => simp [tgOk] at h
theorem tg_one {N : List PySem.Str} {sc : Scope} {i : Nat} {is : List Nat} {ts : List Expr} (h : tgOk N sc (i :: is) ts = true) : ∃ x p r, ts = .Name x p :: r ∧ N[i]? = some x ∧ sc.names.lookup x = some .local ∧ tgOk N sc is r = true := by
  cases ts with
  | nil => simp [tgOk] at h
  | cons t r =>
    cases t with
    | Name x p =>
      have h' : (decide (N[i]? = some x) && decide (sc.names.lookup x = some .local) && tgOk N sc is r) = true := h
      rw [Bool.and_eq_true, Bool.and_eq_true] at h'
      exact ⟨x, p, r, rfl, of_decide_eq_true h'.1.1, of_decide_eq_true h'.1.2, h'.2⟩
    | _ => simp [tgOk] at h
theorem tg_nil {N : List PySem.Str} {sc : Scope} {ts : List Expr} (h : tgOk N sc [] ts = true) : ts = [] := by
  cases ts with
  | nil => rfl
  | cons t r => simp [tgOk] at h
theorem dup_len {α : Type} [BEq α] [LawfulBEq α] : ∀ {l : List α}, l.Nodup → l.eraseDups.length = l.length := by
  intro l h
  induction l with
  | nil => rfl
  | cons x l ih =>
    rw [List.nodup_cons] at h
    rw [List.eraseDups_cons, List.length_cons, List.length_cons]
    have : l.filter (fun b => !b == x) = l := by
      rw [List.filter_eq_self]
      intro y hy
      have : y ≠ x := fun z => h.1 (z ▸ hy)
      simp [this]
    rw [this, ih h.2]
theorem sz_par {is : List Nat} {ts es : List Expr} {n : Nat} (h : is.length = ts.length) (h2 : es.length = ts.length) : es.length = is.length := by omega
theorem s_par {is : List Nat} {fs : List Bool} {k1 k2 : Nat} {p1 p2 : Pos} (hc : X.calm = true) (hN : X.N.Nodup) (hk : X.env.scope.kind = .function) (hn : is.length ≤ sizeLine) (ht : tgOk X.N X.env.scope is ts = true) (hw : swOk is ts es = true) (ha : PA X es (rdL S fs fl)) :
    PS X (.Assign [.Tuple ts k1 p1] (.Tuple es k2 p2) pos) (rdS S G0 frn (parF is fs fl)) := by
  unfold swOk at hw
  rw [Bool.and_eq_true] at hw
  have hlen := of_decide_eq_true hw.1
  have hti := tgOk_len ht
  -- through the tuple
  have slow : swappedStores [.Tuple ts k1 p1] (.Tuple es k2 p2) X.env = pure none → PS X (.Assign [.Tuple ts k1 p1] (.Tuple es k2 p2) pos) (rdS S G0 frn (parF is fs fl)) := fun hsw => by
    obtain ⟨g, h1, h2⟩ := pgs_names (X := X) hN ht
    refine PSimp (ps_asg (pe_tup ha) (pg_tup (pos := p1) (k := k1) hc g h1 h2) (by rfl) hsw (by rfl)) fun D σ H h => ?_
    refine rdL_mono (par_read h) fun vs H1 ⟨q1, q2, q3⟩ => ⟨by omega, fun p hp => ⟨p, vs, rfl, .inl (.inl upd_same), by omega, q1, q3 p hp⟩⟩
  rcases Bool.or_eq_true_iff.mp hw.2 with h | h
  · exact slow (sw_len (by simpa using h))
  rw [Bool.and_eq_true, Bool.and_eq_true, Bool.and_eq_true] at h
  obtain ⟨⟨⟨h1, h2⟩, h3⟩, h4⟩ := h
  by_cases h5 : (ts.length == 2 || ts.length == 3) = true
  rotate_left
  · exact slow (sw_len (by simpa using h5))
  obtain ⟨g1, g2, g3⟩ := tg_names ht h3
  have hnd := g3 (of_decide_eq_true h2) hN
  have hsw := swE (vs := es) (k1 := k1) (k2 := k2) (p1 := p1) (p2 := p2) (ts.map tgName) hk h5 hlen h1 g1 (by simp) (dup_len hnd) h4
  by_cases h6 : es.all (foldedForSure 8) = true
  · rw [h6, if_pos rfl] at hsw
    exact slow hsw
  rw [if_neg h6] at hsw
  -- through the stack
  have hisn := of_decide_eq_true h2
  rw [← hti] at h5 hlen
  match is, h5 with
  | [i, j], _ =>
    obtain ⟨x, px, r, rfl, hi, hx, ht⟩ := tg_one ht
    obtain ⟨y, py, r, rfl, hj, hy, ht⟩ := tg_one ht
    cases tg_nil ht
    match es, hlen, ha, hsw with
    | [a, b], _, ha, hsw =>
      have hij : i ≠ j := by simpa using hisn
      refine PSimp (ps_par hc hN hi hj hij hx hy ha hsw (by rfl)) fun D σ H h => rdL_mono (par_read h) fun vs H1 ⟨q1, q2, _⟩ => ?_
      match vs, q1, q2 with
      | [v, w], _, q2 => exact ⟨v, w, rfl, q2⟩
  | [i, j, l], _ =>
    obtain ⟨x, px, r, rfl, hi, hx, ht⟩ := tg_one ht
    obtain ⟨y, py, r, rfl, hj, hy, ht⟩ := tg_one ht
    obtain ⟨z, pz, r, rfl, hl, hz, ht⟩ := tg_one ht
    cases tg_nil ht
    match es, hlen, ha, hsw with
    | [a, b, c], _, ha, hsw =>
      have hd : (i ≠ j ∧ i ≠ l) ∧ j ≠ l := by simpa using hisn
      refine PSimp (ps_par3 hc hN hi hj hl hd.1.1 hd.1.2 hd.2 hx hy hz ha hsw (by rfl)) fun D σ H h => rdL_mono (par_read h) fun vs H1 ⟨q1, q2, _⟩ => ?_
      match vs, q1, q2 with
      | [u, v, w], _, q2 => exact ⟨u, v, w, rfl, q2⟩
end
end MP
/-! MP: statements, construct by construct (5). -/
namespace MP
open PySem PySem.Spec PyProof.Rows L2 TL
section
variable {X : Cx} {S : Sit} {G0 : Fz} {frn : Bool} {e a b c : Expr} {es ts : List Expr} {st : Stmt} {sts : List Stmt} {pos p : Pos} {fa fb fc : Loc → Sto → Out W} {fl : Loc → Sto → Out (List W)} {f g : Loc → Sto → Res}
theorem setAll_sl : ∀ {is : List Nat} {ws : List W} {ρ ρ' : Loc}, setAll is ws ρ = some ρ' → is.length = ws.length
  | [], [], _, _, _ => rfl
  | [], _ :: _, _, _, h => by simp [setAll] at h
  | _ :: _, [], _, _, h => by simp [setAll] at h
  | i :: is, w :: ws, ρ, ρ', h => by rw [List.length_cons, List.length_cons, setAll_sl (is := is) (ws := ws) h]
theorem loc_setAll {M : Md} {Z : Hp} {G : Fz} {H : Hp} : ∀ {is : List Nat} {ws : List W} {vs : List V} {ρ ρ' : Loc} {σ : L2.St}, LocOk M Z G ρ σ H → Reps M G vs ws → setAll is ws ρ = some ρ' → LocOk M Z G ρ' (setV is vs σ) H
  | [], [], vs, ρ, ρ', σ, l, _, h => by
    simp only [setAll, Option.some.injEq] at h
    subst h
    simpa [setV] using l
  | [], _ :: _, _, _, _, _, _, _, h => by simp [setAll] at h
  | _ :: _, [], _, _, _, _, _, _, h => by simp [setAll] at h
  | i :: is, w :: ws, [], ρ, ρ', σ, l, r, h => r.elim
  | i :: is, w :: ws, v :: vs, ρ, ρ', σ, l, r, h => loc_setAll (is := is) (l.set i r.1) r.2 h
def unpF (is : List Nat) (fa : Loc → Sto → Out W) : Loc → Sto → Res := fun ρ φ => (fa ρ φ).toR ρ fun w φ1 => match (elems w).bind fun ws => setAll is ws ρ with
    | some ρ' => .nx ρ' φ1
    | none => .bad
theorem elems_some {w : W} {ws : List W} (h : elems w = some ws) : w = .tup ws := by
  cases w <;> simp only [elems, reduceCtorEq, Option.some.injEq] at h
  rw [h]
theorem s_unp {is : List Nat} {k1 : Nat} {p1 : Pos} (hK : X.K = S.M.K) (hc : X.calm = true) (hN : X.N.Nodup) (ht : tgOk X.N X.env.scope is ts = true) (ha : PE X a (rd S (RV S.M) fa))
    (hs : swapsWithSole [.Tuple ts k1 p1] a pos.line X.env = pure false) (hw : swappedStores [.Tuple ts k1 p1] a X.env = pure none) :
    PS X (.Assign [.Tuple ts k1 p1] a pos) (rdS S G0 frn (unpF is fa)) := by
  obtain ⟨g, h1, h2⟩ := pgs_names (X := X) hN ht
  have hti := tgOk_len ht
  refine PSimp (ps_asg ha (pg_tup (pos := p1) (k := k1) hc g h1 h2) hs hw (by rfl)) fun D σ H ⟨G, ρ, φ, e, s, l, h⟩ => ?_
  refine ⟨G, ρ, φ, s, l, Out.holds_mono (lands_toR e l h) (fun w φ1 q G1 H1 v e1 s1 r1 => ?_) fun _ _ z => z⟩
  split at q
  rotate_left
  · exact q.elim
  rename_i ρ' hρ
  obtain ⟨ws, hws, hset⟩ := Option.bind_eq_some_iff.mp hρ
  have hw := elems_some hws
  subst hw
  obtain ⟨adr, vs, rfl, hq, hr, _⟩ := RR.tup (H := H) s1 (RV.toR (H := H) (H' := H1) r1)
  refine ⟨adr, vs, rfl, by rw [hK]; exact hq, ?_, ?_, ?_⟩
  · have := setAll_sl hset; have := hr.length; omega
  · have := setAll_sl hset; have := hr.length; omega
  · exact (show At S G0 φ1 ρ' D.nx from q) G1 _ H1 (e.trans e1) s1 (loc_setAll (l.ext e1) hr hset)
/-! ### own lists, own dicts -/
def extF (i : Nat) (fa : Loc → Sto → Out W) : Loc → Sto → Res := fun ρ φ => match ρ[i]? with
    | some (.own (.lst ws)) => (fa ρ φ).toR ρ fun z φ1 => match z with
      | .lst zs => if ws.length + zs.length ≤ sizeLine then .nx (ρ.set i (.own (.lst (ws ++ zs)))) φ1 else .bad
      | _ => .bad
    | _ => .bad
theorem s_ext {i : Nat} {x : PySem.Str} {ap xp cp : Pos} (hK : X.K = S.M.K) (hN : X.N[i]? = some x) (hv : Vis X.env.scope x) (hd : (x == ("__debug__" : PySem.Str)) = false) (hcd : (x == ("__classdict__" : PySem.Str)) = false)
    (ha : PE X a (rd S (RR S.M) fa)) (hs : starEach [a] X.env = (false, eval a X.env) :: starEach [] X.env) (hline : (ap.endLine == cp.line) = true) :
    PS X (.Expr (.Call (.Attribute (.Name x xp) "extend" ap) [a] [] cp) pos) (rdS S G0 frn (extF i fa)) :=
  PSimp (ps_expr (pe_bm F.plainAttrs_list F.slot_list_extend F.type_list_extend mt_extendG (pe_var hN hv hd hcd) (pa_cons ha pa_nil hs) (by rfl) (by rw [hs]; rfl) hline hs (by rfl)) (by rfl)) fun D σ H ⟨G, ρ, φ, e, s, l, h⟩ => by
  have h' : lands S G0 frn (extF i fa ρ φ) D := h
  unfold extF at h'
  split at h'
  · rename_i ws hw
    obtain ⟨adr, hadr, hZ, ow⟩ := l.at_ i _ hw
    obtain ⟨vs, hvs, _⟩ := (show ∃ vs, H adr = some (.lst vs) ∧ Reps S.M G vs ws from ow.rep)
    refine ⟨_, hadr, .inl ⟨rfl, vs, .inl (.inl hvs)⟩, G, ρ, φ, s, l, Out.holds_mono (lands_toR e l h') (fun z φ1 q G1 H1 v e1 s1 r1 => ?_) fun _ _ z => z⟩
    have ow1 := ow.ext e1
    obtain ⟨vs1, hvs1, rs1⟩ := (show ∃ vs, H1 adr = some (.lst vs) ∧ Reps S.M G1 vs ws from ow1.rep)
    split at q
    · rename_i zs
      split at q
      · rename_i hlt
        obtain ⟨b, ys, rfl, hb, rb⟩ := RR.lst s1 r1
        refine ⟨adr, b, vs1, ys, rfl, rfl, hvs1, by rw [hK]; exact hb, by rw [rs1.length, rb.length]; exact hlt, ?_⟩
        exact (show At S G0 φ1 _ D.nx from q) G1 σ _ (ext_own (e.trans e1) hZ) (sto_own s1 ow1.F ow1.ι) (loc_own (l.ext e1) hw hadr hZ ow1.F ow1.ι ⟨_, upd_same, rs1.append rb⟩)
      · exact q.elim
    · exact q.elim
  · exact h'.elim
def popF (j i : Nat) : Loc → Sto → Res := fun ρ φ => match ρ[i]? with
    | some (.own (.lst ws)) => match ws.getLast? with
      | some z => .nx ((ρ.set i (.own (.lst ws.dropLast))).set j (.val z)) φ
      | none => .bad
    | _ => .bad
theorem Reps.dropLast {M : Md} {G : Fz} : ∀ {vs : List V} {ws : List W}, Reps M G vs ws → Reps M G vs.dropLast ws.dropLast
  | [], [], _ => trivial
  | [], _ :: _, h => h.elim
  | _ :: _, [], h => h.elim
  | [_], [_], _ => trivial
  | [_], _ :: _ :: _, h => h.2.elim
  | _ :: _ :: _, [_], h => h.2.elim
  | v :: v' :: vs, w :: w' :: ws, h => ⟨h.1, Reps.dropLast h.2⟩
theorem s_pop {i j : Nat} {x y : PySem.Str} {yp ap xp cp : Pos} (hNd : X.N.Nodup) (hN : X.N[i]? = some x) (hv : Vis X.env.scope x) (hd : (x == ("__debug__" : PySem.Str)) = false) (hcd : (x == ("__classdict__" : PySem.Str)) = false)
    (hj : X.N[j]? = some y) (hy : X.env.scope.names.lookup y = some .local) (hline : (ap.endLine == cp.line) = true) :
    PS X (.Assign [.Name y yp] (.Call (.Attribute (.Name x xp) "pop" ap) [] [] cp) pos) (rdS S G0 frn (popF j i)) :=
  PSimp (ps_set hNd hj (.inl hy) (pe_bm0 F.plainAttrs_list F.slot_list_pop F.type_list_pop mt_pop (pe_var hN hv hd hcd) (by rfl) hline) (by rfl) (.inr hy)) fun D σ H ⟨G, ρ, φ, e, s, l, h⟩ => by
  have h' : lands S G0 frn (popF j i ρ φ) D := h
  unfold popF at h'
  split at h'
  · rename_i ws hw
    obtain ⟨adr, hadr, hZ, ow⟩ := l.at_ i _ hw
    obtain ⟨vs, hvs, rs⟩ := (show ∃ vs, H adr = some (.lst vs) ∧ Reps S.M G vs ws from ow.rep)
    split at h'
    · rename_i z hz
      have hz' : ws[ws.length - 1]? = some z := by rw [← List.getLast?_eq_getElem?]; exact hz
      have hlt := (List.getElem?_eq_some_iff.mp hz').1
      have hlv : vs.length - 1 < vs.length := by have := rs.length; omega
      obtain ⟨v, hv1⟩ : ∃ v, vs[vs.length - 1]? = some v := ⟨_, List.getElem?_eq_getElem hlv⟩
      obtain ⟨w, hw1, rw1⟩ := rs.get hv1
      rw [rs.length, hz'] at hw1
      cases hw1
      refine ⟨_, hadr, .inl ⟨rfl, vs, .inl (.inl hvs)⟩, adr, vs, v, rfl, rfl, hvs, hv1, ?_⟩
      exact (show At S G0 φ _ D.nx from h') G _ _ (ext_own e hZ) (sto_own s ow.F ow.ι) (LocOk.set (loc_own (w' := .lst ws.dropLast) (o := .lst vs.dropLast) l hw hadr hZ ow.F ow.ι ⟨_, upd_same, rs.dropLast⟩) j rw1)
    · exact h'.elim
  · exact h'.elim
theorem xput {z : Out W} : True := trivial
def dputF (fe fd fk : Loc → Sto → Out W) : Loc → Sto → Res := fun ρ φ => (fe ρ φ).toR ρ fun z φ1 => (fd ρ φ1).toR ρ fun x φ2 => (fk ρ φ2).toR ρ fun y φ3 => match x, keyOf y with
    | .obj i, some l => match φ3[i]? with
      | some (.dct kvs) => if kvs.length < sizeLine then .nx ρ (φ3.set i (.dct (putK' kvs l z))) else .bad
      | _ => .bad
    | _, _ => .bad
theorem s_dput {pos' : Pos} (hu : X.A.units + 1 < cLine) (he : PE X e (rd S (RV S.M) fa)) (hd : PE X a (rd S (RV S.M) fb)) (hk : PE X b (rd S (RV S.M) fc)) (hs : swapsWith e (some (.Subscript a b pos')) pos.line X.env = pure false) :
    PS X (.Assign [.Subscript a b pos'] e pos) (rdS S G0 frn (dputF fa fb fc)) := PSimp (ps_dput hu hd hk he hs) fun D σ H ⟨G, ρ, φ, e0, s, l, h⟩ => by
  refine ⟨G, ρ, φ, s, l, Out.holds_mono (lands_toR e0 l h) (fun z φ1 q G1 H1 v1 e1 s1 r1 => ?_) fun _ _ z => z⟩
  have e01 := e0.trans e1
  have l1 := l.ext e1
  refine ⟨G1, ρ, φ1, s1, l1, Out.holds_mono (lands_toR e01 l1 q) (fun x φ2 q G2 H2 v2 e2 s2 r2 => ?_) fun _ _ z => z⟩
  have e02 := e01.trans e2
  have l2 := l1.ext e2
  refine ⟨G2, ρ, φ2, s2, l2, Out.holds_mono (lands_toR e02 l2 q) (fun y φ3 q G3 H3 v3 e3 s3 r3 => ?_) fun _ _ z => z⟩
  have q0 : ∃ i k, x = .obj i ∧ keyOf y = some k ∧ lands S G0 frn (match φ3[i]? with
      | some (.dct kvs) => if kvs.length < sizeLine then .nx ρ (φ3.set i (.dct (putK' kvs k z))) else .bad
      | _ => .bad) D := by
    cases x with
    | obj i =>
      cases hk : keyOf y with
      | none => rw [hk] at q; exact q.elim
      | some k => rw [hk] at q; exact ⟨i, k, rfl, rfl, q⟩
    | _ => exact q.elim
  obtain ⟨i, k, rfl, hk, q⟩ := q0
  split at q
  rotate_left
  · exact q.elim
  rename_i kvs hkv
  split at q
  rotate_left
  · exact q.elim
  rename_i hlt
  obtain ⟨p1, rfl, hι⟩ := RR.obj (RV.toR (H := H) (H' := H2) r2)
  have hι3 := e3.le.at hι
  obtain ⟨_, es, hes, rk⟩ := s3.cell i _ p1 hkv hι3
  refine ⟨p1, _, rfl, .inl ⟨es, toK k, hes, keyOf_kV r3 hk, by rw [repk_len rk]; exact hlt, rfl⟩, ?_⟩
  have r1' := Rep.mono (e2.trans e3).le _ _ r1
  have hm : p1 ∈ G3.ι := List.mem_of_getElem? hι3
  have e4 : Ext G3 H3 G3 (upd H3 p1 (.dK (putK es (toK k) v1))) := ext_cell s3 hm
  exact (show At S G0 _ ρ D.nx from q) G3 σ _ ((e02.trans e3).trans e4) (sto_cell s3 hι3 ⟨_, upd_same, repk_put rk r1'⟩) ((l2.ext e3).ext e4)
def downF (i : Nat) (fe fk : Loc → Sto → Out W) : Loc → Sto → Res := fun ρ φ => match ρ[i]? with
    | some (.own (.dct kvs)) => (fe ρ φ).toR ρ fun z φ1 => (fk ρ φ1).toR ρ fun y φ2 => match keyOf y with
      | some l => if kvs.length < sizeLine then .nx (ρ.set i (.own (.dct (putK' kvs l z)))) φ2 else .bad
      | none => .bad
    | _ => .bad
theorem s_down {pos' xp : Pos} {i : Nat} {x : PySem.Str} (hu : X.A.units + 1 < cLine) (hN : X.N[i]? = some x) (hv : Vis X.env.scope x) (hdb : (x == ("__debug__" : PySem.Str)) = false) (hcd : (x == ("__classdict__" : PySem.Str)) = false)
    (he : PE X e (rd S (RV S.M) fa)) (hk : PE X b (rd S (RV S.M) fc)) (hs : swapsWith e (some (.Subscript (.Name x xp) b pos')) pos.line X.env = pure false) :
    PS X (.Assign [.Subscript (.Name x xp) b pos'] e pos) (rdS S G0 frn (downF i fa fc)) := PSimp (ps_dput hu (pe_var hN hv hdb hcd) hk he hs) fun D σ H ⟨G, ρ, φ, e0, s, l, h⟩ => by
  have h' : lands S G0 frn (downF i fa fc ρ φ) D := h
  unfold downF at h'
  split at h'
  rotate_left
  · exact h'.elim
  rename_i kvs hw
  obtain ⟨adr, hadr, hZ, ow⟩ := l.at_ i _ hw
  refine ⟨G, ρ, φ, s, l, Out.holds_mono (lands_toR e0 l h') (fun z φ1 q G1 H1 v1 e1 s1 r1 => ?_) fun _ _ z => z⟩
  refine ⟨_, hadr, ?_⟩
  have e01 := e0.trans e1
  have l1 := l.ext e1
  refine ⟨G1, ρ, φ1, s1, l1, Out.holds_mono (lands_toR e01 l1 q) (fun y φ2 q G2 H2 v2 e2 s2 r2 => ?_) fun _ _ z => z⟩
  split at q
  rotate_left
  · exact q.elim
  rename_i k hk
  split at q
  rotate_left
  · exact q.elim
  rename_i hlt
  have ow2 := (ow.ext e1).ext e2
  obtain ⟨es, hes, rk⟩ := (show ∃ es, H2 adr = some (.dK es) ∧ Repk S.M G2 es kvs from ow2.rep)
  refine ⟨adr, _, rfl, .inl ⟨es, toK k, hes, keyOf_kV r2 hk, by rw [repk_len rk]; exact hlt, rfl⟩, ?_⟩
  exact (show At S G0 _ _ D.nx from q) G2 σ _ (ext_own (e01.trans e2) hZ) (sto_own s2 ow2.F ow2.ι) (loc_own (l1.ext e2) hw hadr hZ ow2.F ow2.ι ⟨_, upd_same, repk_put rk (Rep.mono e2.le _ _ r1)⟩)
/-! ### small statements -/
theorem s_pass : PS X (.Pass pos) (rdS S G0 frn fun ρ φ => .nx ρ φ) := PSimp ps_pass fun D σ H ⟨G, ρ, φ, e, s, l, h⟩ => (show At S G0 φ ρ D.nx from h) G σ H e s l
theorem s_brk : PS X (.Break pos) (rdS S G0 frn fun ρ φ => .bk ρ φ) := PSimp ps_break fun D σ H ⟨G, ρ, φ, e, s, l, h⟩ => (show At S G0 φ ρ D.bk from h) G σ H e s l
theorem s_cnt : PS X (.Continue pos) (rdS S G0 frn fun ρ φ => .ct ρ φ) := PSimp ps_continue fun D σ H ⟨G, ρ, φ, e, s, l, h⟩ => (show At S G0 φ ρ D.ct from h) G σ H e s l
theorem s_expS (ha : PE X a (rd S (RR S.M) fa)) (hs : swapsWith a none pos.line X.env = pure false) : PS X (.Expr a pos) (rdS S G0 frn fun ρ φ => (fa ρ φ).toR ρ fun _ φ1 => .nx ρ φ1) := PSimp (ps_expr ha hs) fun D σ H ⟨G, ρ, φ, e, s, l, h⟩ =>
  ⟨G, ρ, φ, s, l, Out.holds_mono (lands_toR e l h) (fun w φ1 q G1 H1 v e1 s1 r1 => (show At S G0 φ1 ρ D.nx from q) G1 σ H1 (e.trans e1) s1 (l.ext e1)) fun _ _ z => z⟩
theorem s_retN : PS X (.Return none pos) (rdS S G0 false fun ρ φ => .rt .non φ) := PSimp ps_retN fun D σ H ⟨G, ρ, φ, e, s, l, h⟩ =>
  (show ∀ G H v, Ext G0 S.Z G H → StoOk S.M G φ H → Rep S.M G v .non → D.rt v H from h) G H .non e s (by simp only [Rep])
theorem s_retV (ha : PE X a (rd S (RV S.M) fa)) : PS X (.Return (some a) pos) (rdS S G0 false fun ρ φ => (fa ρ φ).toR ρ fun w φ1 => .rt w φ1) := PSimp (ps_ret ha) fun D σ H ⟨G, ρ, φ, e, s, l, h⟩ =>
  ⟨G, ρ, φ, s, l, Out.holds_mono (lands_toR e l h) (fun w φ1 q G1 H1 v e1 s1 r1 => (show ∀ G H v, Ext G0 S.Z G H → StoOk S.M G φ1 H → Rep S.M G v w → D.rt v H from q) G1 H1 v (e.trans e1) s1 r1) fun _ _ z => z⟩
theorem s_retB (ha : PE X a (rd S (RB S.M) fa)) : PS X (.Return (some a) pos) (rdS S G0 true fun ρ φ => (fa ρ φ).toR ρ fun w φ1 => .rt w φ1) := PSimp (ps_ret ha) fun D σ H ⟨G, ρ, φ, e, s, l, h⟩ =>
  ⟨G, ρ, φ, s, l, Out.holds_mono (lands_toR e l h) (fun w φ1 q G1 H1 v e1 s1 r1 => (show ∀ G H v, Ext G0 S.Z G H → StoOk S.M G φ1 H → RB S.M G S.Z H v w → D.rt v H from q) G1 H1 v (e.trans e1) s1 (by
    rcases r1 with ⟨q1, a, q2, q3, q4⟩ | q1
    · exact .inl ⟨q1, a, q2, e.none q3, q4⟩
    · exact .inr q1)) fun _ _ z => z⟩
theorem s_retO {i : Nat} {x : PySem.Str} (hN : X.N[i]? = some x) (hv : Vis X.env.scope x) (hd : (x == ("__debug__" : PySem.Str)) = false) (hcd : (x == ("__classdict__" : PySem.Str)) = false) (gv : Nat → Option W) (call : Calls) :
    PS X (.Return (some (.Name x p)) pos) (rdS S G0 true fun ρ φ => (evalE gv call (.own i) ρ φ).toR ρ fun w φ1 => .rt w φ1) := PSimp (ps_ret (pe_var hN hv hd hcd)) fun D σ H ⟨G, ρ, φ, e, s, l, h⟩ => by
  have h' : lands S G0 true ((match ρ[i]? with | some (.own w) => Out.ok w φ | _ => .bad : Out W).toR ρ fun w φ1 => .rt w φ1) D := h
  split at h'
  · rename_i w hw
    obtain ⟨adr, hadr, hZ, ow⟩ := l.at_ i _ hw
    refine ⟨_, hadr, ?_⟩
    have h2 : ∀ G H v, Ext G0 S.Z G H → StoOk S.M G φ H → RB S.M G S.Z H v w → D.rt v H := h'
    have ho : w.isObj = true := by
      have := ow.rep
      cases w <;> first | rfl | exact this.elim
    exact h2 G H _ e s (.inl ⟨ho, adr, rfl, hZ, ow⟩)
  · exact h'.elim
/-! ### if, while, for -/
def ifF (fc : Loc → Sto → Out W) (f g : Loc → Sto → Res) : Loc → Sto → Res := fun ρ φ => (fc ρ φ).toR ρ fun x φ1 => match truthy x with
    | some true => f ρ φ1
    | some false => g ρ φ1
    | none => .bad
theorem s_if {ss ts : List Stmt} (hc : PT X c (rdT S (tst fc))) (ha : PSs X ss (rdS S G0 frn f)) (hb : PSs X ts (rdS S G0 frn g)) : PS X (.If c ss ts pos) (rdS S G0 frn (ifF fc f g)) := PSimp (ps_if hc ha hb) fun D σ H ⟨G, ρ, φ, e, s, l, h⟩ => by
  refine ⟨G, ρ, φ, s, l, ?_⟩
  rw [Out.holds_bind]
  refine Out.holds_mono (lands_toR e l h) (fun w φ1 q => ?_) fun _ _ z => z
  cases ht : truthy w with
  | none => rw [ht] at q; exact q.elim
  | some k =>
    rw [ht] at q
    show PostB S.M G H φ1 _
    intro G1 H1 e1 s1
    cases k with
    | true => exact ⟨G1, ρ, φ1, e.trans e1, s1, l.ext e1, q⟩
    | false => exact ⟨G1, ρ, φ1, e.trans e1, s1, l.ext e1, q⟩
/-- a loop's body has run -/
theorem lands_turn {r : Res} {go : Loc → Sto → Res} {D : Ends} (h : lands S G0 frn (r.turn go) D) : lands S G0 frn r { D with nx := rdS S G0 frn go D, ct := rdS S G0 frn go D, bk := D.nx } := by
  cases r with
  | nx ρ φ => exact fun G σ H e s l => ⟨G, ρ, φ, e, s, l, h⟩
  | ct ρ φ => exact fun G σ H e s l => ⟨G, ρ, φ, e, s, l, h⟩
  | bk ρ φ => exact h
  | rt w φ => exact h
  | ex x ρ φ => exact h
  | bad => exact h
theorem lands_at {r : Res} {D D' : Ends} (h : lands S G0 frn r D) (hn : ∀ ρ φ, r = .nx ρ φ → At S G0 φ ρ D'.nx) (hb : ∀ ρ φ, r = .bk ρ φ → At S G0 φ ρ D'.bk) (hc : ∀ ρ φ, r = .ct ρ φ → At S G0 φ ρ D'.ct) (hr : D.rt = D'.rt) : lands S G0 frn r D' := by
  cases r with
  | nx ρ φ => exact hn ρ φ rfl
  | ct ρ φ => exact hc ρ φ rfl
  | bk ρ φ => exact hb ρ φ rfl
  | rt w φ =>
    have h' : ∀ G H v, Ext G0 S.Z G H → StoOk S.M G φ H → (if frn then RB S.M G S.Z H v w else Rep S.M G v w) → D.rt v H := h
    rw [hr] at h'
    exact h'
  | ex x ρ φ => exact h
  | bad => exact h
theorem s_while {ss : List Stmt} (hp : PassesOwn (model X.prog X.w) X.A X.env X.xe) (hc : PT X c (rdT S (tst fc))) (hb : PSs X ss (rdS S G0 frn f)) : PS X (.While c ss [] pos) (rdS S G0 frn fun ρ φ => wloop (tst fc) f ρ φ) := PSimp (ps_while hp hc hb) fun D σ H ⟨G, ρ, φ, e, s, l, h⟩ => by
  have h0 : wloop (tst fc) f ρ φ ≠ .bad := fun z => by
    have h' : lands S G0 frn (wloop (tst fc) f ρ φ) D := h
    rw [z] at h'
    exact h'.elim
  obtain ⟨n, hn⟩ := wloop_ends (tst fc) f h0
  refine ⟨fun m σ H => ∃ G ρ φ r, Ext G0 S.Z G H ∧ StoOk S.M G φ H ∧ LocOk S.M S.Z G ρ σ H ∧ wfuel (tst fc) f m ρ φ = some r ∧ lands S G0 frn r D, ⟨n, G, ρ, φ, _, e, s, l, hn, h⟩, ?_⟩
  rintro m σ1 H1 ⟨G1, ρ1, φ1, r, e1, s1, l1, hr, hl⟩
  refine ⟨G1, ρ1, φ1, s1, l1, ?_⟩
  cases m with
  | zero => simp [wfuel] at hr
  | succ m =>
    unfold wfuel at hr
    cases hcv : tst fc ρ1 φ1 with
    | bad =>
      rw [hcv] at hr
      simp only [Option.some.injEq] at hr
      subst hr
      exact hl.elim
    | exc x φ2 =>
      rw [hcv] at hr
      simp only [Option.some.injEq] at hr
      subst hr
      exact fun G2 H2 cc dd e2 s2 r2 => (show ∀ G σ H c dd, Ext G0 S.Z G H → StoOk S.M G φ2 H → LocOk S.M S.Z G ρ1 σ H → RepX S.M G c dd x → S.Wx c dd σ H from hl) G2 σ1 H2 cc dd (e1.trans e2) s2 (l1.ext e2) r2
    | ok k φ2 =>
      rw [hcv] at hr
      show PostB S.M G1 H1 φ2 _
      intro G2 H2 e2 s2
      cases k with
      | false =>
        simp only [Option.some.injEq] at hr
        subst hr
        exact (show At S G0 φ2 ρ1 D.nx from hl) G2 σ1 H2 (e1.trans e2) s2 (l1.ext e2)
      | true =>
        dsimp only at hr
        refine ⟨fun σ' H' => ∃ m', m' < m + 1 ∧ ∃ G ρ φ r, Ext G0 S.Z G H' ∧ StoOk S.M G φ H' ∧ LocOk S.M S.Z G ρ σ' H' ∧ wfuel (tst fc) f m' ρ φ = some r ∧ lands S G0 frn r D, fun _ _ z => z, G2, ρ1, φ2, e1.trans e2, s2, l1.ext e2, ?_⟩
        cases hb : f ρ1 φ2 with
        | bad =>
          rw [hb] at hr
          dsimp only at hr
          simp only [Option.some.injEq] at hr
          subst hr
          exact hl.elim
        | nx ρ3 φ3 =>
          rw [hb] at hr
          dsimp only at hr
          exact fun G σ H e s l => ⟨m, Nat.lt_succ_self m, G, ρ3, φ3, r, e, s, l, hr, hl⟩
        | ct ρ3 φ3 =>
          rw [hb] at hr
          dsimp only at hr
          exact fun G σ H e s l => ⟨m, Nat.lt_succ_self m, G, ρ3, φ3, r, e, s, l, hr, hl⟩
        | bk ρ3 φ3 =>
          rw [hb] at hr
          dsimp only at hr
          simp only [Option.some.injEq] at hr
          subst hr
          exact hl
        | rt w φ3 =>
          rw [hb] at hr
          dsimp only at hr
          simp only [Option.some.injEq] at hr
          subst hr
          exact hl
        | ex x ρ3 φ3 =>
          rw [hb] at hr
          dsimp only at hr
          simp only [Option.some.injEq] at hr
          subst hr
          exact hl
theorem ext_rebase {G0 G1 : Fz} {Z H1 : Hp} (e : Ext G0 Z G1 H1) : Ext G1 Z G1 H1 := by
  obtain ⟨l, hl, _⟩ := e.ι
  exact ⟨Same.refl _, fun b o h n => e.keep b o h fun z => n (by rw [hl]; exact List.mem_append_left _ z), fun _ _ _ h => h, ⟨[], by simp, by simp⟩, e.alive⟩
theorem ext_over {G0 G1 G : Fz} {Z H1 H : Hp} (e : Ext G0 Z G1 H1) (f : Ext G1 Z G H) : Ext G0 Z G H := by
  obtain ⟨l, hl, hn⟩ := e.ι
  obtain ⟨l2, hl2, hn2⟩ := f.ι
  have nin : ∀ b, Z b ≠ none → b ∉ G0.ι → b ∉ G1.ι := fun b h n z => by
    rw [hl] at z
    rcases List.mem_append.mp z with q | q
    · exact n q
    · exact h (hn b q)
  refine ⟨fun b u h => f.F b u (e.F b u h), fun b o h n => f.keep b o h (nin b (by rw [h]; simp) n), fun b h n q => f.new b h (nin b h n) (e.new b h n q), ⟨l ++ l2, by rw [hl2, hl, List.append_assoc], fun b hb => ?_⟩, f.alive⟩
  rcases List.mem_append.mp hb with q | q
  · exact hn b q
  · exact hn2 b q
theorem lands_base {G1 : Fz} {H1 : Hp} {r : Res} {D : Ends} (h : lands S G0 frn r D) (e : Ext G0 S.Z G1 H1) : lands S G1 frn r D := by
  cases r with
  | nx ρ φ => exact fun G σ H e' s l => (show At S G0 φ ρ D.nx from h) G σ H (ext_over e e') s l
  | bk ρ φ => exact fun G σ H e' s l => (show At S G0 φ ρ D.bk from h) G σ H (ext_over e e') s l
  | ct ρ φ => exact fun G σ H e' s l => (show At S G0 φ ρ D.ct from h) G σ H (ext_over e e') s l
  | rt w φ => exact fun G H v e' => (show ∀ G H v, Ext G0 S.Z G H → _ from h) G H v (ext_over e e')
  | ex x ρ φ => exact fun G σ H c dd e' => (show ∀ G σ H c dd, Ext G0 S.Z G H → _ from h) G σ H c dd (ext_over e e')
  | bad => exact h
theorem lands_mono {r : Res} {D D' : Ends} (h : lands S G0 frn r D) (h1 : ∀ σ H, D.nx σ H → D'.nx σ H) (h2 : ∀ σ H, D.bk σ H → D'.bk σ H) (h3 : ∀ σ H, D.ct σ H → D'.ct σ H) (h4 : D.rt = D'.rt) : lands S G0 frn r D' :=
  lands_at h (fun ρ φ e => by subst e; exact fun G σ H a b c => h1 _ _ ((show At S G0 φ ρ D.nx from h) G σ H a b c)) (fun ρ φ e => by subst e; exact fun G σ H a b c => h2 _ _ ((show At S G0 φ ρ D.bk from h) G σ H a b c))
    (fun ρ φ e => by subst e; exact fun G σ H a b c => h3 _ _ ((show At S G0 φ ρ D.ct from h) G σ H a b c)) h4
/-- a for, whatever its target -/
theorem s_forG {ss : List Stmt} {tg it : Expr} {g : TG} {fi : Loc → Sto → Out (List W)} (stp : W → Loc → Option Loc) (hp : PassesOwn (model X.prog X.w) X.A X.env X.xe) (hc : X.calm = true) (hi : PI X tg it (wI S fi)) (hg : PG X tg g)
    (hgs : ∀ {G : Fz} {ρ ρ' : Loc} {σ : L2.St} {H : Hp} {φ : Sto} {v : V} {w : W} {Q : L2.St → Hp → Prop}, StoOk S.M G φ H → LocOk S.M S.Z G ρ σ H → Rep S.M G v w → stp w ρ = some ρ' → (∀ σ', LocOk S.M S.Z G ρ' σ' H → Q σ' H) → g v σ H Q)
    (hb : ∀ G0, PSs X ss (rdS S G0 frn f)) (hs : ∀ x, foldedSetIterable it X.env x = pure x) :
    PS X (.For tg it ss [] pos) (rdS S G0 frn fun ρ φ => (fi ρ φ).toR ρ fun ws φ1 => floop (fun w ρ φ => match stp w ρ with
      | some ρ' => f ρ' φ
      | none => .bad) ws ρ φ1) := PSimp (ps_for hp hc hi hg (tb := fun D σ H => ∃ G0, rdS S G0 frn f D σ H) ⟨fun pins s σ H D I ⟨G0, q⟩ => (hb G0).run pins s σ H D I q⟩ hs) fun D σ H ⟨G, ρ, φ, e, s, l, h⟩ => by
  refine ⟨G, ρ, φ, s, l, Out.holds_mono (lands_toR e l h) (fun ws φ1 q G1 H1 J e1 s1 gs => ?_) fun _ _ z => z⟩
  generalize hbd : (fun (w : W) (ρ : Loc) (φ : Sto) => (match stp w ρ with | some ρ' => f ρ' φ | none => Res.bad : Res)) = bd at q
  have e01 := e.trans e1
  have q := lands_base q e01
  refine ⟨fun i m σ H => m = ws.length - i ∧ i ≤ ws.length ∧ ∃ G ρ φ, Ext G1 S.Z G H ∧ StoOk S.M G φ H ∧ LocOk S.M S.Z G ρ σ H ∧ lands S G1 frn (floop bd (ws.drop i) ρ φ) D,
    ⟨ws.length, by simp, Nat.zero_le _, G1, ρ, φ1, ext_rebase e01, s1, l.ext e1, by simpa using q⟩, ?_⟩
  rintro i m σ2 H2 ⟨rfl, hi, G2, ρ2, φ2, e2, s2, l2, hl⟩
  by_cases hlt : i < ws.length
  · have hdrop : ws.drop i = ws[i] :: ws.drop (i + 1) := List.drop_eq_getElem_cons hlt
    rw [hdrop] at hl
    have hl' : lands S G1 frn ((bd ws[i] ρ2 φ2).turn (floop bd (ws.drop (i + 1)))) D := hl
    refine .inr ⟨gs.go i G2 H2 φ2 e2.le s2 hlt, _, fun σ' H' z => z, fun x H3 y => ?_⟩
    obtain ⟨G3, w, hw, e3, s3, r3⟩ := gs.yld i G2 H2 φ2 x H3 e2.le s2 hlt y
    have hw' : ws[i] = w := by rw [List.getElem?_eq_getElem hlt] at hw; exact Option.some.inj hw
    rw [hw'] at hl'
    have hlb := lands_turn hl'
    rw [← hbd] at hlb
    cases hst : stp w ρ2 with
    | none =>
      simp only [hst] at hlb
      exact hlb.elim
    | some ρ3 =>
      simp only [hst] at hlb
      refine hgs s3 (l2.ext e3) r3 hst fun σ' l3 => ⟨G1, G3, ρ3, φ2, e2.trans e3, s3, l3, ?_⟩
      have go : ∀ σ' H', rdS S G1 frn (floop bd (ws.drop (i + 1))) D σ' H' → ∃ m', m' < ws.length - i ∧ m' = ws.length - (i + 1) ∧ i + 1 ≤ ws.length ∧ ∃ G ρ φ, Ext G1 S.Z G H' ∧ StoOk S.M G φ H' ∧ LocOk S.M S.Z G ρ σ' H' ∧ lands S G1 frn (floop bd (ws.drop (i + 1)) ρ φ) D :=
        fun σ' H' ⟨G, ρ, φ, q1, q2, q3, q4⟩ => ⟨ws.length - (i + 1), by omega, rfl, hlt, G, ρ, φ, q1, q2, q3, q4⟩
      rw [hbd] at hlb
      exact lands_mono hlb go (fun _ _ z => z) go rfl
  · have hkk : i = ws.length := by omega
    subst hkk
    refine .inl ⟨gs.stop _ G2 H2 φ2 e2.le s2 (Nat.le_refl _), ?_⟩
    rw [List.drop_length] at hl
    exact (show At S G1 φ2 ρ2 D.nx from hl) G2 σ2 H2 e2 s2 l2
end
end MP
/-! MP: the checker of statements and its theorem. -/
namespace MP
open PySem PySem.Spec PyProof.Rows L2 TL
def isComp : Expr → Bool
  | .ListComp _ _ _ _ => true
  | .SetComp _ _ _ _ => true
  | .DictComp _ _ _ _ _ => true
  | _ => false
theorem sw_offS {e : Expr} (h : isComp e = false) (t : Expr) (line : Nat) (env : Env) : swapsWithSole [t] e line env = pure false := by
  show swapsWith e (some t) line env = pure false
  cases e <;> first | rfl | (simp [isComp] at h)
theorem sw_off {e : Expr} (h : isComp e = false) (tg : Option Expr) (line : Nat) (env : Env) : swapsWith e tg line env = pure false := by
  cases e <;> first | rfl | (simp [isComp] at h)
def isTupE : Expr → Bool
  | .Tuple _ _ _ => true
  | _ => false
theorem sw_none {e : Expr} (h : isTupE e = false) {ts : List Expr} {k : Nat} {p : Pos} {env : Env} : swappedStores [.Tuple ts k p] e env = pure none := by
  cases e <;> first | rfl | (simp [isTupE] at h)
/-- x = [..] of one line -/
def swTrue (sc : Scope) (x : PySem.Str) (p : Pos) : Expr → Bool
  | .ListComp _ _ s vp => decide (sc.kind = .function) && (p.line == vp.line) && !(s.names.any fun (n, k) => n == x && (k == .local || k == .cell))
  | _ => false
theorem sw_true {env : Env} {x : PySem.Str} {p : Pos} {e : Expr} {line : Nat} (hx : env.scope.names.lookup x = some .local) (h : swTrue env.scope x p e = true) : swapsWith e (some (.Name x p)) line env = pure true := by
  cases e <;> first | (simp only [swTrue, Bool.false_eq_true] at h; done) | skip
  rename_i a b s vp
  have h' : (decide (env.scope.kind = .function) && (p.line == vp.line) && !(s.names.any fun (n, k) => n == x && (k == .local || k == .cell))) = true := h
  rw [Bool.and_eq_true, Bool.and_eq_true] at h'
  obtain ⟨⟨h1, h2⟩, h3⟩ := h'
  have hb := kind_block (of_decide_eq_true h1)
  have hk : env.kindOf x = some .local := hx
  show (pure (env.blockKind == .function && env.kindOf x == some .local && p.line == vp.line && !(s.names.any fun (n, k) => n == x && (k == .local || k == .cell))) : Sem Bool) = pure true
  rw [hb, hk, h2, h3]
  rfl
def isLoc (sc : Scope) (x : PySem.Str) : Bool := decide (sc.names.lookup x = some .local) || decide (sc.names.lookup x = some .cell)
theorem loc_of {sc : Scope} {x : PySem.Str} (h : isLoc sc x = true) : L2.Loc sc x := by
  rcases Bool.or_eq_true_iff.mp h with h | h
  · exact .inl (of_decide_eq_true h)
  · exact .inr (of_decide_eq_true h)
/-- the names of the fields that a handler reads -/
def helN (n : PySem.Str) : List HIt → List Expr → Option (List PySem.Str)
  | [], [] => some []
  | .inl s :: hs, .Constant (.str x) _ _ :: es => if x = toS s then helN n hs es else none
  | .inr _ :: hs, .Attribute (.Name m _) f _ :: es => if m = n then (helN n hs es).map (f :: ·) else none
  | _, _ => none
theorem helN_ok {n : PySem.Str} : ∀ {hs : List HIt} {es : List Expr} {names : List PySem.Str}, helN n hs es = some names → HEls n hs names es := by
  intro hs
  induction hs with
  | nil =>
    intro es names h
    cases es with
    | nil => simp only [helN, Option.some.injEq] at h; subst h; exact .nil
    | cons => simp [helN] at h
  | cons a hs ih =>
    intro es names h
    cases a with
    | inl s =>
      unfold helN at h
      split at h
      · exact absurd ‹_ :: _ = []› (by simp)
      · rename_i s' hs' x _ _ es' heq
        cases heq
        split at h
        · exact .str ‹_› (ih h)
        · cases h
      · rename_i heq; cases heq
      · cases h
    | inr j =>
      unfold helN at h
      split at h
      · exact absurd ‹_ :: _ = []› (by simp)
      · rename_i heq; cases heq
      · rename_i j' hs' m _ f _ es' heq
        cases heq
        split at h
        · rename_i hm
          subst hm
          obtain ⟨ns, h1, rfl⟩ := Option.map_eq_some_iff.mp h
          exact .fld (ih h1)
        · cases h
      · cases h
def hixB (flds : List PySem.Str) : List HIt → List PySem.Str → Bool
  | [], [] => true
  | .inl _ :: hs, ns => hixB flds hs ns
  | .inr j :: hs, f :: ns => decide (flds.findIdx? (· == f) = some j) && hixB flds hs ns
  | _, _ => false
theorem hixB_ok {flds : List PySem.Str} : ∀ {hs : List HIt} {ns : List PySem.Str}, hixB flds hs ns = true → HIdx flds hs ns ∧ ∀ f ∈ ns, f ∈ flds
  | [], [], _ => ⟨.nil, fun f hf => by cases hf⟩
  | [], _ :: _, h => by simp [hixB] at h
  | .inl s :: hs, ns, h => by
    have h' : hixB flds hs ns = true := by simpa [hixB] using h
    obtain ⟨h1, h2⟩ := hixB_ok h'
    exact ⟨.str h1, h2⟩
  | .inr j :: hs, [], h => by simp [hixB] at h
  | .inr j :: hs, f :: ns, h => by
    have h' : (decide (flds.findIdx? (· == f) = some j) && hixB flds hs ns) = true := by simpa [hixB] using h
    rw [Bool.and_eq_true] at h'
    have hj := of_decide_eq_true h'.1
    obtain ⟨h1, h2⟩ := hixB_ok h'.2
    refine ⟨.fld hj h1, fun g hg => ?_⟩
    rcases List.mem_cons.mp hg with rfl | hg
    · obtain ⟨hlt, e, _⟩ := List.findIdx?_eq_some_iff_getElem.mp hj
      have : flds[j] = g := by simpa using e
      rw [← this]
      exact List.getElem_mem hlt
    · exact h2 g hg
/-- a def's body -/
structure Bdy (X : Cx) : Prop where
  fn : ∀ x, X.fn x = true
  stk : X.stack = X.env :: X.outer
  frm : X.env.frame = some X.env.locals
mutual
def chkS (Γ : Stx) (N : List PySem.Str) (sc : Scope) (fr : Nat → Bool) (frn : Bool) : T → Stmt → Bool
  | .sset i e, s => match s with
    | .Assign [.Name x p] v _ => decide (N[i]? = some x) && isLoc sc x && (if isComp v then decide (sc.names.lookup x = some .local) && swTrue sc x p v && (match e with | .comp _ _ _ _ => true | _ => false) else true) && chkE Γ N sc e v
    | _ => false
  | .spar is es, s => match s with
    | .Assign [.Tuple ts _ _] (.Tuple vs _ _) _ => decide (sc.kind = .function) && decide (is.length ≤ sizeLine) && tgOk N sc is ts && swOk is ts vs && chkEs Γ N sc es vs
    | _ => false
  | .sunp is e, s => match s with
    | .Assign [.Tuple ts _ _] v _ => tgOk N sc is ts && !isTupE v && !isComp v && chkE Γ N sc e v
    | _ => false
  | .sdput d k e, s => match s with
    | .Assign [.Subscript o i _] v _ => chkE Γ N sc d o && chkE Γ N sc k i && chkE Γ N sc e v && !isComp v
    | _ => false
  | .sdown j k e, s => match s with
    | .Assign [.Subscript (.Name x _) i _] v _ => decide (N[j]? = some x) && isVis sc x && plainName x && chkE Γ N sc k i && chkE Γ N sc e v && !isComp v
    | _ => false
  | .sapp i e, s => match s with
    | .Expr (.Call (.Attribute (.Name x _) n ap) [v] [] cp) _ => decide (n = "append") && decide (N[i]? = some x) && isVis sc x && plainName x && isNice v && (ap.endLine == cp.line) && chkE Γ N sc e v
    | _ => false
  | .sext i e, s => match s with
    | .Expr (.Call (.Attribute (.Name x _) n ap) [v] [] cp) _ => decide (n = "extend") && decide (N[i]? = some x) && isVis sc x && plainName x && isNice v && (ap.endLine == cp.line) && (chkO N sc e v || chkE Γ N sc e v)
    | _ => false
  | .spop j i, s => match s with
    | .Assign [.Name y _] (.Call (.Attribute (.Name x _) n ap) [] [] cp) _ => decide (n = "pop") && decide (N[i]? = some x) && decide (N[j]? = some y) && decide (sc.names.lookup y = some .local) && isVis sc x && plainName x && (ap.endLine == cp.line)
    | _ => false
  | .sif c a b, s => match s with
    | .If v ss ts _ => chkE Γ N sc c v && chkSs Γ N sc fr frn a ss && chkSs Γ N sc fr frn b ts
    | _ => false
  | .swhile c b, s => match s with
    | .While v ss [] _ => chkE Γ N sc c v && chkSs Γ N sc fr frn b ss
    | _ => false
  | .sfor i it b, s => match s with
    | .For (.Name x _) v ss [] _ => decide (N[i]? = some x) && isLoc sc x && isNice v && (chkI Γ N sc it v || chkE Γ N sc it v) && chkSs Γ N sc fr frn b ss
    | _ => false
  | .sforT is it b, s => match s with
    | .For (.Tuple ts _ _) v ss [] _ => tgOk N sc is ts && isNice v && (chkI Γ N sc it v || chkE Γ N sc it v) && chkSs Γ N sc fr frn b ss
    | _ => false
  | .sforE is a b, s => match s with
    | .For (.Tuple ts _ _) (.Call (.Name x _) [v] [] _) ss [] _ => decide (x = "enumerate") && isGl sc x && Γ.blts.contains x && tgOk N sc is ts && isNice v && chkE Γ N sc a v && chkSs Γ N sc fr frn b ss
    | _ => false
  | .srais k es, s => match s with
    | .Raise (some (.Call (.Name x _) (y :: ys) [] _)) none _ => (match Γ.errs[k]? with
        | some (z, flds) => decide (x = z) && decide ((y :: ys).length = flds.length) && decide (flds.length ≤ 10)
        | none => false) && isGl sc x && plainName x && chkEs Γ N sc es (y :: ys)
    | _ => false
  | .stry yes no i b hs, s => match s with
    | .Try body [.ExceptHandler (some (.Name x _)) (some n) [.Return (some (.Tuple els _ _)) _] _] [] [] _ => decide (N[i]? = some n) && decide (sc.names.lookup n = some .local) && plainName n && isGl sc x && plainName x && Γ.trs.contains (x, yes, no) &&
        (match helN n hs els with
          | some names => yes.all fun k => match Γ.errs[k]? with
            | some (_, flds) => hixB flds.reverse hs names
            | none => false
          | none => false) && chkSs Γ N sc fr frn b body
    | _ => false
  | .sret e, s => match s with
    | .Return (some v) _ => if frn then (chkO N sc e v || (e.fresh fr && chkE Γ N sc e v)) else chkE Γ N sc e v
    | _ => false
  | .sretN, s => match s with
    | .Return none _ => !frn
    | _ => false
  | .spass, s => match s with
    | .Pass _ => true
    | _ => false
  | .sbrk, s => match s with
    | .Break _ => true
    | _ => false
  | .scnt, s => match s with
    | .Continue _ => true
    | _ => false
  | .sexp e, s => match s with
    | .Expr v _ => !isComp v && chkE Γ N sc e v
    | _ => false
  | _, _ => false
def chkSs (Γ : Stx) (N : List PySem.Str) (sc : Scope) (fr : Nat → Bool) (frn : Bool) : T → List Stmt → Bool
  | .nil, ss => match ss with
    | [] => true
    | _ => false
  | .cons a b, ss => match a with
    | .sfrz _ => chkSs Γ N sc fr frn b ss
    | _ => match ss with
      | s :: r => chkS Γ N sc fr frn a s && chkSs Γ N sc fr frn b r
      | [] => false
  | _, _ => false
end
section
variable {Γ : Stx} {P : Prg} {d : Nat}
theorem es_L : ∀ (t : T) (X : Cx) (S : Sit), Ctx Γ S.M P d X → Takes X S.Wx → ∀ es, chkEs Γ X.N X.env.scope t es = true → PA X es (rdL S (t.frs P.fr) (evalEs P.gv (P.call d) t)) := by
  intro t
  induction t with
  | nil =>
    intro X S C tk es h
    cases es with
    | nil => exact l_nil
    | cons _ _ => cases h
  | cons a b _ ih =>
    intro X S C tk es h
    cases es with
    | nil => cases h
    | cons e es =>
      have h' : (chkE Γ X.N X.env.scope a e && isNice e && chkEs Γ X.N X.env.scope b es) = true := h
      rw [Bool.and_eq_true, Bool.and_eq_true] at h'
      exact l_cons ((snd_all a).ee X S C tk e h'.1.1) (ih X S C tk es h'.2) (nice_star h'.1.2 _ _)
  | _ => intro X S C tk es h; cases h
theorem toR_bind {α β : Type} (o : Out α) (k : α → Sto → Out β) (ρ : Loc) (f : β → Sto → Res) : (o.bind k).toR ρ f = o.toR ρ fun a φ => (k a φ).toR ρ f := by cases o <;> rfl
theorem toR_ofO {α : Type} (o : Option α) (φ : Sto) (ρ : Loc) (f : α → Sto → Res) : (Out.ofO o φ).toR ρ f = match o with | some a => f a φ | none => .bad := by cases o <;> rfl
theorem for_ev (o : Out W) (ρ : Loc) (f : List W → Sto → Res) : ((o.bind fun x φ1 => Out.ofO (items x) φ1).toR ρ f) = o.toR ρ fun a φ => match items a with | some ws => f ws φ | none => .bad := by
  cases o with
  | ok a φ => show (Out.ofO (items a) φ).toR ρ f = match items a with | some ws => f ws φ | none => .bad; cases items a <;> rfl
  | exc x φ => rfl
  | bad => rfl
/-- what a for or a comprehension walks -/
theorem pi_of {t : T} {X : Cx} {S : Sit} (C : Ctx Γ S.M P d X) (tk : Takes X S.Wx) {tg e : Expr} (h : (chkI Γ X.N X.env.scope t e || chkE Γ X.N X.env.scope t e) = true) : PI X tg e (wI S fun ρ φ => (evalE P.gv (P.call d) t ρ φ).bind fun x φ1 => .ofO (items x) φ1) := by
  rcases Bool.or_eq_true_iff.mp h with h | h
  · exact (snd_all t).i X S C tk tg e h
  · exact i_seq C.K (lvV ((snd_all t).ee X S C tk e h))
variable (Γ P d)
structure SndS (t : T) : Prop where
  s : ∀ (X : Cx) (S : Sit) (frn : Bool), Ctx Γ S.M P d X → Takes X S.Wx → PassesOwn (model X.prog X.w) X.A X.env X.xe → Bdy X → ∀ st, chkS Γ X.N X.env.scope P.fr frn t st = true → ∀ G0, PS X st (rdS S G0 frn (evalS P.gv P.fr (P.call d) t))
  ss : ∀ (X : Cx) (S : Sit) (frn : Bool), Ctx Γ S.M P d X → Takes X S.Wx → PassesOwn (model X.prog X.w) X.A X.env X.xe → Bdy X → ∀ sts, chkSs Γ X.N X.env.scope P.fr frn t sts = true → ∀ G0, PSs X sts (rdS S G0 frn (evalS P.gv P.fr (P.call d) t))
variable {Γ P d}
theorem SndS.of {t : T} (h : ∀ sc N frn sts, chkSs Γ N sc P.fr frn t sts = false) (hs : ∀ (X : Cx) (S : Sit) (frn : Bool), Ctx Γ S.M P d X → Takes X S.Wx → PassesOwn (model X.prog X.w) X.A X.env X.xe → Bdy X → ∀ st, chkS Γ X.N X.env.scope P.fr frn t st = true → ∀ G0, PS X st (rdS S G0 frn (evalS P.gv P.fr (P.call d) t))) : SndS Γ P d t :=
  ⟨hs, fun X S frn C tk pa hfn sts q => by rw [h] at q; cases q⟩
theorem SndS.no {t : T} (h : ∀ sc N frn sts, chkSs Γ N sc P.fr frn t sts = false) (hs : ∀ sc N frn st, chkS Γ N sc P.fr frn t st = false) : SndS Γ P d t :=
  .of h fun X S frn C tk pa hfn st q => by rw [hs] at q; cases q
theorem for_en (o : Out W) (ρ : Loc) (f : List W → Sto → Res) : ((o.bind fun x φ1 => Out.ofO (opEnum x) φ1).toR ρ f) = o.toR ρ fun a φ => match opEnum a with | some ws => f ws φ | none => .bad := by
  cases o with
  | ok a φ => show (Out.ofO (opEnum a) φ).toR ρ f = match opEnum a with | some ws => f ws φ | none => .bad; cases opEnum a <;> rfl
  | exc x φ => rfl
  | bad => rfl
theorem Ctx.tr {X : Cx} {M : Md} (C : Ctx Γ M P d X) (pn : List (Addr × Obj)) (xe : Value → Shared → Prop) : Ctx Γ M P d (X.tr pn xe) :=
  ⟨C.K, C.calm, C.nd, C.room, C.guards, C.blt, C.glob, C.fn, C.err, C.exm⟩
theorem sndS_all : ∀ t : T, SndS Γ P d t := by
  intro t
  induction t with
  | nil =>
    refine ⟨fun X S frn C tk pa hfn st h => (by cases h), fun X S frn C tk pa hfn sts h G0 => ?_⟩
    cases sts with
    | nil => exact b_nil
    | cons _ _ => cases h
  | cons a b iha ihb =>
    refine ⟨fun X S frn C tk pa hfn st h => (by cases h), fun X S frn C tk pa hfn sts h G0 => ?_⟩
    by_cases hz : ∃ i, a = .sfrz i
    · obtain ⟨i, rfl⟩ := hz
      exact b_frz (ihb.ss X S frn C tk pa hfn sts h G0)
    · cases sts with
      | nil => exfalso; cases a <;> first | (cases h; done) | exact hz ⟨_, rfl⟩
      | cons s r =>
        have h' : (chkS Γ X.N X.env.scope P.fr frn a s && chkSs Γ X.N X.env.scope P.fr frn b r) = true := by
          cases a <;> first | exact h | exact absurd ⟨_, rfl⟩ hz
        rw [Bool.and_eq_true] at h'
        exact b_cons (iha.s X S frn C tk pa hfn s h'.1 G0) (ihb.ss X S frn C tk pa hfn r h'.2 G0)
  | sset i e =>
    refine .of (fun _ _ _ _ => rfl) fun X S frn C tk pa hfn st h G0 => ?_
    simp only [chkS] at h
    split at h
    · rename_i x p v pos
      rw [Bool.and_eq_true, Bool.and_eq_true, Bool.and_eq_true] at h
      obtain ⟨⟨⟨h1, h2⟩, h3⟩, h4⟩ := h
      have hi := of_decide_eq_true h1
      have hxl := loc_of h2
      by_cases hc : isComp v = true
      · rw [if_pos hc, Bool.and_eq_true, Bool.and_eq_true] at h3
        have hx := of_decide_eq_true h3.1.1
        have hsw := h3.1.2
        have hce := h3.2
        split at hce
        · rename_i j it c el _
          obtain ⟨elt, y, tp, iter, ifs, scope, vp, rfl, q1, q2, q3, q4, q5, q6, q7⟩ := comp_parts (snd_all it) (snd_all c) (snd_all el) C tk h4
          refine PSimp (ps_setLc C.calm C.nd hi hx (sw_true hx hsw) q3 q2 q4 q5 q6 q7) fun D σ H h => ?_
          have q := set_read (fr := P.fr) (t := .comp j it c el) (fa := evalE P.gv (P.call d) (.comp j it c el)) (i := i) h
          rw [show (T.comp j it c el).fresh P.fr = true from rfl, if_pos rfl, ← comp_ev] at q
          exact comp_read c.isNil q
        · cases hce
      · exact s_set C.nd hi hxl (.inl (hfn.fn x)) ((snd_all e).ee X S C tk v h4) (sw_off (by simpa using hc) _ _ _)
    · cases h
  | spar is es =>
    refine .of (fun _ _ _ _ => rfl) fun X S frn C tk pa hfn st h G0 => ?_
    simp only [chkS] at h
    split at h
    · simp only [Bool.and_eq_true] at h
      obtain ⟨⟨⟨⟨h1, h2⟩, h3⟩, h4⟩, h5⟩ := h
      exact s_par C.calm C.nd (of_decide_eq_true h1) (of_decide_eq_true h2) h3 h4 (es_L es X S C tk _ h5)
    · cases h
  | sunp is e =>
    refine .of (fun _ _ _ _ => rfl) fun X S frn C tk pa hfn st h G0 => ?_
    simp only [chkS] at h
    split at h
    · simp only [Bool.and_eq_true, Bool.not_eq_true'] at h
      obtain ⟨⟨⟨h1, h2⟩, h3⟩, h4⟩ := h
      exact s_unp C.K C.calm C.nd h1 (lvV ((snd_all e).ee X S C tk _ h4)) (sw_offS h3 _ _ _) (sw_none h2)
    · cases h
  | sdput a k e =>
    refine .of (fun _ _ _ _ => rfl) fun X S frn C tk pa hfn st h G0 => ?_
    simp only [chkS] at h
    split at h
    · simp only [Bool.and_eq_true, Bool.not_eq_true'] at h
      obtain ⟨⟨⟨h1, h2⟩, h3⟩, h4⟩ := h
      exact s_dput (by have := C.u; omega) (lvV ((snd_all e).ee X S C tk _ h3)) (lvV ((snd_all a).ee X S C tk _ h1)) (lvV ((snd_all k).ee X S C tk _ h2)) (sw_off h4 _ _ _)
    · cases h
  | sdown j k e =>
    refine .of (fun _ _ _ _ => rfl) fun X S frn C tk pa hfn st h G0 => ?_
    simp only [chkS] at h
    split at h
    · simp only [Bool.and_eq_true, Bool.not_eq_true'] at h
      obtain ⟨⟨⟨⟨⟨h0, h1⟩, h1'⟩, h2⟩, h3⟩, h4⟩ := h
      exact s_down (by have := C.u; omega) (of_decide_eq_true h0) (vis_of h1) (plain1 h1') (plain2 h1') (lvV ((snd_all e).ee X S C tk _ h3)) (lvV ((snd_all k).ee X S C tk _ h2)) (sw_off h4 _ _ _)
    · cases h
  | sapp i e =>
    refine .of (fun _ _ _ _ => rfl) fun X S frn C tk pa hfn st h G0 => ?_
    simp only [chkS] at h
    split at h
    · simp only [Bool.and_eq_true] at h
      obtain ⟨⟨⟨⟨⟨⟨h0, h1⟩, h2⟩, h3⟩, h4⟩, h5⟩, h6⟩ := h
      have e1 := of_decide_eq_true h0
      subst e1
      exact s_app (of_decide_eq_true h1) (vis_of h2) (plain1 h3) (plain2 h3) (lvV ((snd_all e).ee X S C tk _ h6)) (nice_star h4 _ _) h5
    · cases h
  | sext i e =>
    refine .of (fun _ _ _ _ => rfl) fun X S frn C tk pa hfn st h G0 => ?_
    simp only [chkS] at h
    split at h
    · simp only [Bool.and_eq_true] at h
      obtain ⟨⟨⟨⟨⟨⟨h0, h1⟩, h2⟩, h3⟩, h4⟩, h5⟩, h6⟩ := h
      have e1 := of_decide_eq_true h0
      subst e1
      exact s_ext C.K (of_decide_eq_true h1) (vis_of h2) (plain1 h3) (plain2 h3) ((snd_all e).r C tk h6) (nice_star h4 _ _) h5
    · cases h
  | spop j i =>
    refine .of (fun _ _ _ _ => rfl) fun X S frn C tk pa hfn st h G0 => ?_
    simp only [chkS] at h
    split at h
    · simp only [Bool.and_eq_true] at h
      obtain ⟨⟨⟨⟨⟨⟨h0, h1⟩, h2⟩, h3⟩, h4⟩, h5⟩, h6⟩ := h
      have e1 := of_decide_eq_true h0
      subst e1
      exact s_pop C.nd (of_decide_eq_true h1) (vis_of h4) (plain1 h5) (plain2 h5) (of_decide_eq_true h2) (of_decide_eq_true h3) h6
    · cases h
  | sif c a b _ iha ihb =>
    refine .of (fun _ _ _ _ => rfl) fun X S frn C tk pa hfn st h G0 => ?_
    simp only [chkS] at h
    split at h
    · simp only [Bool.and_eq_true] at h
      obtain ⟨⟨h1, h2⟩, h3⟩ := h
      exact s_if ((snd_all c).te X S C tk _ h1) (iha.ss X S frn C tk pa hfn _ h2 G0) (ihb.ss X S frn C tk pa hfn _ h3 G0)
    · cases h
  | swhile c b _ ihb =>
    refine .of (fun _ _ _ _ => rfl) fun X S frn C tk pa hfn st h G0 => ?_
    simp only [chkS] at h
    split at h
    · simp only [Bool.and_eq_true] at h
      exact s_while pa ((snd_all c).te X S C tk _ h.1) (ihb.ss X S frn C tk pa hfn _ h.2 G0)
    · cases h
  | sfor i it b _ ihb =>
    refine .of (fun _ _ _ _ => rfl) fun X S frn C tk pa hfn st h G0 => ?_
    simp only [chkS] at h
    split at h
    · simp only [Bool.and_eq_true] at h
      obtain ⟨⟨⟨⟨h1, h2⟩, h3⟩, h4⟩, h5⟩ := h
      have hx := loc_of h2
      rename_i x xp v ss pos
      have q := s_forG (pos := pos) (S := S) (G0 := G0) (frn := frn) (f := evalS P.gv P.fr (P.call d) b) (fun w ρ => some (ρ.set i (.val w))) pa C.calm (pi_of C tk h4) (pg_name (pos := xp) C.nd (of_decide_eq_true h1) hx (.inl (hfn.fn x)))
        (fun {G ρ ρ' σ H φ v w Q} s l r e k => by
          simp only [Option.some.injEq] at e
          subst e
          exact k _ (l.set i r)) (fun G0 => ihb.ss X S frn C tk pa hfn _ h5 G0) (nice_fold h3 _)
      refine PSimp q fun D σ H ⟨G, ρ, φ, e, s, l, h⟩ => ⟨G, ρ, φ, e, s, l, ?_⟩
      refine (congrArg (fun r => lands S G0 frn r D) (for_ev (evalE P.gv (P.call d) it ρ φ) ρ _)).mpr ?_
      exact h
    · cases h
  | sforT is it b _ ihb =>
    refine .of (fun _ _ _ _ => rfl) fun X S frn C tk pa hfn st h G0 => ?_
    simp only [chkS] at h
    split at h
    · simp only [Bool.and_eq_true] at h
      obtain ⟨⟨⟨h1, h3⟩, h4⟩, h5⟩ := h
      obtain ⟨g, g1, g2⟩ := pgs_names (X := X) C.nd h1
      have hti := tgOk_len h1
      rename_i ts kt tp v ss pos
      have q := s_forG (pos := pos) (S := S) (G0 := G0) (frn := frn) (f := evalS P.gv P.fr (P.call d) b) (fun w ρ => (elems w).bind fun us => setAll is us ρ) pa C.calm (pi_of C tk h4) (pg_tup (pos := tp) (k := kt) C.calm g g1 g2)
        (fun {G ρ ρ' σ H φ v w Q} s l r e k => by
          obtain ⟨ws, hws, hset⟩ := Option.bind_eq_some_iff.mp e
          have hw := elems_some hws
          subst hw
          obtain ⟨adr, vs, rfl, hq, hr, _⟩ := RR.tup (H := H) s (RV.toR (H := H) (H' := H) r)
          refine ⟨adr, vs, rfl, by rw [C.K]; exact hq, ?_, ?_, k _ (loc_setAll l hr hset)⟩
          · have := setAll_sl hset; have := hr.length; omega
          · have := setAll_sl hset; have := hr.length; omega) (fun G0 => ihb.ss X S frn C tk pa hfn _ h5 G0) (nice_fold h3 _)
      refine PSimp q fun D σ H ⟨G, ρ, φ, e, s, l, h⟩ => ⟨G, ρ, φ, e, s, l, ?_⟩
      refine (congrArg (fun r => lands S G0 frn r D) (for_ev (evalE P.gv (P.call d) it ρ φ) ρ _)).mpr ?_
      exact h
    · cases h
  | sforE is a b iha ihb =>
    refine .of (fun _ _ _ _ => rfl) fun X S frn C tk pa hfn st h G0 => ?_
    simp only [chkS] at h
    split at h
    · rename_i ts kt tp x xp v cp ss pos
      simp only [Bool.and_eq_true] at h
      obtain ⟨⟨⟨⟨⟨⟨h1, h2⟩, h2'⟩, hT⟩, h3⟩, h4⟩, h5⟩ := h
      have e1 := of_decide_eq_true h1
      subst e1
      obtain ⟨g, g1, g2⟩ := pgs_names (X := X) C.nd hT
      have hti := tgOk_len hT
      have qq := s_forG (pos := pos) (S := S) (G0 := G0) (frn := frn) (f := evalS P.gv P.fr (P.call d) b) (fun w ρ => (elems w).bind fun us => setAll is us ρ) pa C.calm (i_enum (pos := cp) (tpos := tp) (p := xp) (elts := ts) (kk := kt) C.K (gl_of h2) (C.blt _ (by simpa using h2')) (lvV ((snd_all a).ee X S C tk _ h4)) (nice_star h3 _ _)) (pg_tup (pos := tp) (k := kt) C.calm g g1 g2)
        (fun {G ρ ρ' σ H φ v w Q} s l r e k => by
          obtain ⟨ws, hws, hset⟩ := Option.bind_eq_some_iff.mp e
          have hw := elems_some hws
          subst hw
          obtain ⟨adr, vs, rfl, hq, hr, _⟩ := RR.tup (H := H) s (RV.toR (H := H) (H' := H) r)
          refine ⟨adr, vs, rfl, by rw [C.K]; exact hq, ?_, ?_, k _ (loc_setAll l hr hset)⟩
          · have := setAll_sl hset; have := hr.length; omega
          · have := setAll_sl hset; have := hr.length; omega) (fun G0 => ihb.ss X S frn C tk pa hfn _ h5 G0) (nice_fold (e := .Call (.Name "enumerate" xp) [v] [] cp) rfl _)
      refine PSimp qq fun D σ H ⟨G, ρ, φ, e, s, l, h⟩ => ⟨G, ρ, φ, e, s, l, ?_⟩
      refine (congrArg (fun r => lands S G0 frn r D) (for_en (evalE P.gv (P.call d) a ρ φ) ρ _)).mpr ?_
      exact h
    · cases h
  | srais k es ih =>
    refine .of (fun _ _ _ _ => rfl) fun X S frn C tk pa hfn st h G0 => ?_
    simp only [chkS] at h
    split at h
    · rename_i x xp y ys cp pos
      simp only [Bool.and_eq_true] at h
      obtain ⟨⟨⟨h1, h2⟩, h3⟩, h4⟩ := h
      split at h1
      · rename_i z flds hz
        simp only [Bool.and_eq_true] at h1
        obtain ⟨⟨g1, g2⟩, g3⟩ := h1
        have e1 := of_decide_eq_true g1
        subst e1
        obtain ⟨D, hfl, hm⟩ := C.err k x flds hz
        have hny : isNice y = true := by
          obtain ⟨b1, b2, rfl⟩ := chkEs_cons h4
          have h5 : (chkE Γ X.N X.env.scope b1 y && isNice y && chkEs Γ X.N X.env.scope b2 ys) = true := h4
          rw [Bool.and_eq_true, Bool.and_eq_true] at h5
          exact h5.1.2
        have hnys : (backTo cp (starEach ys X.env)).any (·.1) = false := chkEs_plain h4
        exact s_raise C.K C.calm tk (C.room.mono (by omega)) D hfl (of_decide_eq_true g3) (gl_of h2) hm (plain1 h3) ((snd_all es).es X S C tk _ h4) (fun ρ φ ws φ' hw => by
          rw [evalEs_len es _ _ _ h4 ρ φ ws φ' hw]; exact of_decide_eq_true g2) (nice_star hny _ _) hnys
      · cases h1
    · cases h
  | stry yes no i b hs ihb =>
    refine .of (fun _ _ _ _ => rfl) fun X S frn C tk pa hfn st h G0 => ?_
    simp only [chkS] at h
    split at h
    · rename_i body x np n els kk tp rp pos' pos
      simp only [Bool.and_eq_true] at h
      obtain ⟨⟨⟨⟨⟨⟨⟨h1, h2⟩, h3⟩, h4⟩, h5⟩, h6⟩, h7⟩, h8⟩ := h
      split at h7
      · rename_i names hnm
        obtain ⟨c, hm, hy, hno⟩ := C.exm x yes no (by simpa using h6)
        refine s_try (names := names) C.K hfn.stk hfn.frm C.nd (of_decide_eq_true h1) (of_decide_eq_true h2) h3 ⟨gl_of h4, plain1 h5, .inl hm⟩ tk (fun k hk => ?_) hno (helN_ok hnm) (fun Wx pn xe tk' pa' => ?_)
        · have h7' := List.all_eq_true.mp h7 k hk
          split at h7'
          · rename_i z flds hz
            obtain ⟨D, hfl, _⟩ := C.err k z flds hz
            obtain ⟨g1, g2⟩ := hixB_ok h7'
            refine ⟨hy k hk, D.xf, fun f hf => D.no f (by simpa using g2 f hf), by rw [hfl]; exact g1⟩
          · cases h7'
        · exact ihb.ss (X.tr pn xe) ⟨S.M, S.Z, Wx⟩ frn (C.tr pn xe) tk' pa' ⟨hfn.fn, hfn.stk, hfn.frm⟩ body h8 G0
      · cases h7
    · cases h
  | sret e =>
    refine .of (fun _ _ _ _ => rfl) fun X S frn C tk pa hfn st h G0 => ?_
    simp only [chkS] at h
    split at h
    · cases frn with
      | false => exact s_retV (lvV ((snd_all e).ee X S C tk _ h))
      | true =>
        rw [if_pos rfl] at h
        rcases Bool.or_eq_true_iff.mp h with h | h
        · unfold chkO at h
          split at h
          · split at h
            · rw [Bool.and_eq_true, Bool.and_eq_true] at h
              exact s_retO (of_decide_eq_true h.1.1) (vis_of h.1.2) (plain1 h.2) (plain2 h.2) _ _
            · cases h
          · cases h
        · rw [Bool.and_eq_true] at h
          have q := (snd_all e).ee X S C tk _ h.2
          unfold lv at q
          rw [h.1] at q
          exact s_retB q
    · cases h
  | sretN =>
    refine .of (fun _ _ _ _ => rfl) fun X S frn C tk pa hfn st h G0 => ?_
    simp only [chkS] at h
    split at h
    · cases frn with
      | false => exact s_retN
      | true => cases h
    · cases h
  | spass =>
    refine .of (fun _ _ _ _ => rfl) fun X S frn C tk pa hfn st h G0 => ?_
    simp only [chkS] at h
    split at h
    · exact s_pass
    · cases h
  | sbrk =>
    refine .of (fun _ _ _ _ => rfl) fun X S frn C tk pa hfn st h G0 => ?_
    simp only [chkS] at h
    split at h
    · exact s_brk
    · cases h
  | scnt =>
    refine .of (fun _ _ _ _ => rfl) fun X S frn C tk pa hfn st h G0 => ?_
    simp only [chkS] at h
    split at h
    · exact s_cnt
    · cases h
  | sexp e =>
    refine .of (fun _ _ _ _ => rfl) fun X S frn C tk pa hfn st h G0 => ?_
    simp only [chkS] at h
    split at h
    · simp only [Bool.and_eq_true, Bool.not_eq_true'] at h
      exact s_expS (lvR ((snd_all e).ee X S C tk _ h.2)) (sw_off h.1 _ _ _)
    · cases h
  | _ => exact .no (fun _ _ _ _ => rfl) (fun _ _ _ _ => rfl)
end
end MP
/-! MP: defs. -/
namespace MP
open PySem PySem.Spec PyProof.Rows L2 TL
theorem deeper_guards (A : Around) (env : Env) : (A.deeper env).guards = A.guards := by
  first | rfl | simp [Around.deeper, Around.under]
section
variable {P : Program} {w : World} {K : PySem.W.Frag} {mg : PySem.Str → Option Value} {base : Heap}
/-- a def by its body -/
theorem fnG_of {k : Nat} {f : Addr} {name qual : PySem.Str} {params : Arguments} {body : List Stmt} {scope : Scope} {dV kV doc pm cdv ct oc : Value} {an od : Option Addr}
    {osl : Array (Option Value)} {N ps : List PySem.Str} {sp : Sp} (lk : K.lookup f = some ⟨oc, od, .func (PySem.W.fnOf name qual params body scope dV kV doc pm an cdv ct), osl⟩) (hcd : PySem.W.codeIn K cdv qual = true) (S : FnScope N ps scope)
    (hbody : ∀ (A : Around) (outer : List Env) (s : Shared) (H : Hp) (vs : List V) (Q : VK) (E : XK), Room k (A.deeper (envOfC qual scope s.heap.objs.size f cdv)) → A.guards = some [] → vs.length = ps.length → sp vs H Q E →
      ∃ t, PSs (cxOf (L2.CX P w) P w K mg base N qual scope f cdv A outer s H E) body t ∧ t { nx := fun _ H' => Q .non H', rt := Q } (L2.start N vs) H) :
    FnG P w K mg base (k + 1) f (PySem.W.fnOf name qual params body scope dV kV doc pm an cdv ct) ps sp := by
  refine ⟨fun A outer s H args us vs Q E hr hg e0 hb r hl hsp => ?_⟩
  have KX : K.In s.heap := e0.mod.kin.keeps fun b o e => (e0.bs b o e).1
  have lim : s.heap.NoLimit := e0.mod.nolimit.keeps fun b o e => (e0.bs b o e).1
  have hkind : ∀ y ∈ ps.zip us, scope.names.lookup y.1 = some .local ∨ (scope.names.lookup y.1 = some .cell ∧ ((cellsFrom (s.heap.objs.size + 1) scope.names []).lookup y.1).isSome = true) := fun ⟨n, v⟩ hy => by
    rcases S.par n (List.of_mem_zip hy).1 with q | q
    · exact .inl q
    · exact .inr ⟨q, PySem.W.cellsFrom_some _ _ _ (.inl q)⟩
  refine codeAny_call_function hr.depth (KX _ _ lk) rfl S.co S.gen rfl (PySem.W.codeRec_of KX hcd) (hb _ _ _ _ ?_)
  refine wpAny_newFunctionEnv_cells S.kind hkind fun env he s1 x => ?_
  subst he
  refine ⟨lim.keeps x.toInCall.keep, codeAny_func ?_⟩
  obtain ⟨t, ht, hq⟩ := hbody A outer s H vs Q E (hr.deeper _) hg hl hsp
  have I : Inv (cxOf (L2.CX P w) P w K mg base N qual scope f cdv A outer s H E) [] (L2.start N vs) H s1 := inv_start S hr.hd e0 hl r x
  refine wpAny_mono (ht.run [] s1 (L2.start N vs) H _ I hq) (fun fl s' hs => ?_) fun e s' hs => hs
  have fin : ∀ {σ' : L2.St} {H' : Hp} {v : V} {u : Value}, Inv (cxOf (L2.CX P w) P w K mg base N qual scope f cdv A outer s H E) [] σ' H' s' → RelV v u → Q v H' → CE outer P w H s Q u s' :=
    fun {σ' H' v u} J rv q => ⟨v, H', J.os, J.bare, J.base, J.hok, rv, q⟩
  cases fl with
  | ret u =>
    obtain ⟨v, σ', H', J, rv, q⟩ := hs
    exact fin J rv q
  | next =>
    obtain ⟨σ', H', J, q⟩ := hs
    exact fin (v := V.non) (u := Value.none) J rfl q
  | brk =>
    obtain ⟨_, _, _, q⟩ := hs
    exact False.elim q
  | cont =>
    obtain ⟨_, _, _, q⟩ := hs
    exact False.elim q
/-- what a module holds for the program p, def by def -/
structure DefAt (Γ : Stx) (Pr : Prg) (K : PySem.W.Frag) (mg : PySem.Str → Option Value) (f : Nat) (x : PySem.Str) (ps : List PySem.Str) (fn : Fn) : Prop where
  ex : ∃ (a : Addr) (fd : FuncData) (st : Stmt) (N : List PySem.Str), C8.Def K mg x st a fd ∧ Binds K fd ps [] ∧ (∀ ks, (f, ks) ∈ Γ.kws → KwB K fd ps ks) ∧ FnScope N ps (C8.fnScope st) ∧
    fn.n = ps.length ∧ fn.m = N.length ∧ chkSs Γ N (C8.fnScope st) Pr.fr fn.fr fn.body (C8.fnBody st) = true
structure Mdl (Γ : Stx) (M : Md) (Pr : Prg) (Pg : Program) (mg : PySem.Str → Option Value) : Prop where
  blt : ∀ x ∈ Γ.blts, mg x = none
  glob : ∀ (g : Nat) (x : PySem.Str), Γ.globs[g]? = some x → ∃ u v w, mg x = some u ∧ RelV v u ∧ Pr.gv g = some w ∧ ∀ G, Rep M G v w
  fn : ∀ (f : Nat) (x : PySem.Str) (ps : List PySem.Str), Γ.fns[f]? = some (x, ps) → ∃ fn, Pr.fns[f]? = some fn ∧ DefAt Γ Pr M.K mg f x ps fn
  err : ∀ (k : Nat) (x : PySem.Str) (flds : List PySem.Str), Γ.errs[k]? = some (x, flds) → ErrOk Pg M.K (M.cls k) flds ∧ M.flds k = flds.reverse ∧ mg x = some (.ref (M.cls k))
  exm : ∀ (x : PySem.Str) (yes no : List Nat), (x, yes, no) ∈ Γ.trs → ∃ c, mg x = some c ∧ (∀ k ∈ yes, PySem.W.exmOne M.K (.ref (M.cls k)) c = some true) ∧ (∀ k ∈ no, PySem.W.exmOne M.K (.ref (M.cls k)) c = some false)
theorem locOk_start {M : Md} {G : Fz} {H : Hp} {ws : List W} {vs : List V} (r : Reps M G vs ws) (N : List PySem.Str) : LocOk M H G (start N.length ws) (L2.start N vs) H := by
  have hl := r.length
  refine ⟨?_, fun i s h => ?_, fun i j w w' a h1 h2 _ _ => ?_⟩
  · unfold start L2.start
    simp [hl]
  · unfold start at h
    unfold L2.start
    by_cases hi : i < ws.length
    · rw [List.getElem?_append_left (by simpa using hi)] at h
      rw [List.getElem?_append_left (by simp; omega)]
      rw [List.getElem?_map] at h ⊢
      obtain ⟨w, hw, rfl⟩ := Option.map_eq_some_iff.mp h
      have hv : vs[i]? = some vs[i] := List.getElem?_eq_getElem (by omega)
      obtain ⟨w2, hw2, rw2⟩ := r.get hv
      rw [hw] at hw2
      cases hw2
      exact ⟨_, by rw [hv]; rfl, rw2⟩
    · rw [List.getElem?_append_right (by simp; omega), List.getElem?_replicate] at h
      split at h
      · cases h; trivial
      · cases h
  · unfold start at h1
    by_cases hi : i < ws.length
    · rw [List.getElem?_append_left (by simpa using hi), List.getElem?_map] at h1
      obtain ⟨w, _, z⟩ := Option.map_eq_some_iff.mp h1
      cases z
    · rw [List.getElem?_append_right (by simp; omega), List.getElem?_replicate] at h1
      split at h1 <;> cases h1
/-- every def keeps what the evaluator tells, at every depth -/
theorem all_fn {Γ : Stx} {M : Md} {Pr : Prg} (D : Mdl Γ M Pr P mg) : ∀ (d f : Nat) (x : PySem.Str) (ps : List PySem.Str), Γ.fns[f]? = some (x, ps) →
    ∃ a fd, mg x = some (.ref a) ∧ PySem.W.keepIn M.K (.ref a) = true ∧ Binds M.K fd ps [] ∧ (∀ ks, (f, ks) ∈ Γ.kws → KwB M.K fd ps ks) ∧ FnG P w M.K mg base (d + 2) a fd ps (spF M Pr d f) := by
  intro d
  induction d with
  | zero =>
    intro f x ps hf
    obtain ⟨fn, hfn, a, fd, st, N, dd, b, kb, S, _⟩ := D.fn f x ps hf
    refine ⟨a, fd, dd.mgf, dd.kp, b, kb, ⟨fun A outer s H args us vs Q E hr hg e0 hb r hl ⟨G, φ, ws, _, _, q⟩ => ?_⟩⟩
    exact False.elim q
  | succ d ih =>
    intro f x ps hf
    obtain ⟨fn, hfn, a, fd, st, N, dd, b, kb, S, hn, hm, hc⟩ := D.fn f x ps hf
    refine ⟨a, fd, dd.mgf, dd.kp, b, kb, ?_⟩
    obtain ⟨oc, od, dV, kV, doc, pm, an, cdv, ct, osl, rfl, lk, hcd⟩ := dd.fn.ex
    refine fnG_of lk hcd S fun A outer s H vs Q E hr hg hl ⟨G, φ, ws, st0, rs, q⟩ => ?_
    have hfr : Pr.fr f = fn.fr := by unfold Prg.fr; rw [hfn]; rfl
    have hcall : Pr.call (d + 1) f ws φ = (evalS Pr.gv Pr.fr (Pr.call d) fn.body (start fn.m ws) φ).out fn.fr := by
      show (match Pr.fns[f]? with | some fn => if ws.length = fn.n then (evalS Pr.gv Pr.fr (Pr.call d) fn.body (start fn.m ws) φ).out fn.fr else .bad | none => .bad) = _
      rw [hfn]
      show (if ws.length = fn.n then _ else _) = _
      rw [if_pos (by rw [hn, ← hl, rs.length])]
    rw [hcall, hfr] at q
    generalize hX : cxOf (L2.CX P w) P w M.K mg base N x (C8.fnScope st) a cdv A outer s H E = X
    have hXs : X.env.scope = C8.fnScope st := by rw [← hX]; rfl
    have hXN : X.N = N := by rw [← hX]; rfl
    have C : Ctx Γ M Pr d X := by
      rw [← hX]
      exact ⟨rfl, rfl, S.nd, hr, hg, D.blt, D.glob, fun f x ps h => ih f x ps h, D.err, D.exm⟩
    have tk : Takes X (fun cls dd _ H' => E cls dd H') := by
      rw [← hX]
      exact takes_of rfl rfl rfl rfl
    have pa : PassesOwn (model X.prog X.w) X.A X.env X.xe := by
      rw [← hX]
      exact passes_of rfl
    have T := (sndS_all fn.body).ss X ⟨M, H, fun cls dd _ H' => E cls dd H'⟩ fn.fr C tk pa (by rw [← hX]; exact ⟨fun _ => rfl, rfl, rfl⟩) (C8.fnBody st) (by rw [hXs, hXN]; exact hc) G
    refine ⟨_, T, ⟨G, start fn.m ws, φ, .refl st0, st0, by rw [hm]; exact locOk_start rs N, ?_⟩⟩
    cases he : evalS Pr.gv Pr.fr (Pr.call d) fn.body (start fn.m ws) φ with
    | bad => rw [he] at q; exact q.elim
    | bk ρ φ' => rw [he] at q; exact q.elim
    | ct ρ φ' => rw [he] at q; exact q.elim
    | ex x φ' ρ =>
      rw [he] at q
      intro G' σ' H' c dd e s l r
      exact q G' H' c dd e s r
    | nx ρ φ' =>
      rw [he] at q
      intro G' σ' H' e s l
      cases hff : fn.fr with
      | true => rw [hff] at q; exact q.elim
      | false =>
        rw [hff] at q
        exact (show Post M (RV M) G H .non φ' Q from q) G' H' .non e s (by show Rep M G' .non .non; simp only [Rep])
    | rt w φ' =>
      rw [he] at q
      intro G' H' v e s r
      cases hff : fn.fr with
      | true =>
        rw [hff] at q r
        have q' : (if (true && !w.isObj) = true then (Out.bad : Out W) else .ok w φ').holds (fun w φ' => Post M (RB M) G H w φ' Q) (fun x φ' => PostX M G H φ' x E) := q
        split at q'
        · exact q'.elim
        · exact q' G' H' v e s r
      | false =>
        rw [hff] at q r
        exact (show Post M (RV M) G H w φ' Q from q) G' H' v e s r
end
end MP
/-! MP: the law's end. -/
namespace MP
open PySem PySem.Spec PyProof.Rows L2 TL
/-- what the script's heap is told as -/
def scr (K : PySem.W.Frag) (a : Addr) (o : Obj) (xs : List V) : Hp := fun b => if b = a ∧ K.lookup a = none then some (.frz o (.lst xs)) else none
theorem scr_some {K : PySem.W.Frag} {a b : Addr} {o : Obj} {xs : List V} {u : HO} (h : scr K a o xs b = some u) : b = a ∧ K.lookup a = none ∧ u = .frz o (.lst xs) := by
  unfold scr at h
  split at h
  · rename_i q
    cases h
    exact ⟨q.1, q.2, rfl⟩
  · cases h
theorem end_MP {Pg : Program} {w : World} {M : Md} {mg mb : PySem.Str → Option Value} {a : Addr} {x nm : PySem.Str} {t : Shared} {us : List Value} {ns : List Int} {Γ : Stx} {Pr : Prg} {f k : Nat} {fa : Addr}
    (hK : M.K.In t.heap) (h1 : t.heap.Ns mainGlobals mg) (h2 : t.heap.Ns builtinsNs mb) (h3 : ∀ x : PySem.Str, x ≠ "__name__" → mb x = bootBuiltins x) (h4 : t.heap.NoLimit) (h5 : t.gens = #[])
    (ha : t.heap.get? a = some { cls := .type "list", data := .seq us.toArray }) (hi : IntsAre us ns) (hl : ns.length ≤ sizeLine) (hr : Room (k + 2) callerA)
    (D : Mdl Γ M Pr Pg mg) (hf : Γ.fns[f]? = some (nm, [x])) (hfa : mg nm = some (.ref fa)) (hfr : Pr.fr f = false) (law : ∃ φ, Pr.call k f [.lst (ns.map .int)] [] = .ok (.bl true) φ) :
    codeAny (model Pg w) callerA (.call (.ref fa) ⟨[.ref a], []⟩) (fun r t' => r = .ok (.ret (.bool true)) ∧ OldK t.heap t'.heap ∧ t'.os = t.os ∧ AllBare t'.gens) t := by
  have rv := vals_ints hi
  have lv := hi.length
  have hxl : (ns.map V.int).length ≤ sizeLine := by rw [List.length_map]; exact hl
  generalize hH : scr M.K a { cls := .type "list", data := .seq us.toArray } (ns.map V.int) = H
  have tell : ∀ {b : Addr} {u : HO}, H b = some u → b = a ∧ M.K.lookup a = none ∧ u = .frz { cls := .type "list", data := .seq us.toArray } (.lst (ns.map V.int)) := fun {b u} h => by
    rw [← hH] at h
    exact scr_some h
  have hok : HOk Pg w H t.heap := fun b u h => by
    obtain ⟨rfl, _, rfl⟩ := tell h
    exact ⟨ha, hxl, us, _, rv, ha⟩
  have lst : LstR M.K H a (ns.map V.int) := by
    cases hk : M.K.lookup a with
    | some o =>
      have e := hK a o hk
      rw [ha] at e
      cases e
      exact .inr ⟨us, _, hk, hxl, rv⟩
    | none =>
      refine .inl (.inr ⟨{ cls := .type "list", data := .seq us.toArray }, ?_⟩)
      rw [← hH]
      exact if_pos ⟨rfl, hk⟩
  have plain : ∀ {b : Addr} {o : Obj} {es : Array DictEntry} {ep : Nat}, t.heap.get? b = some o → o.data = .dict es ep → H b = none := fun {b o es ep} e d => by
    cases q : H b with
    | none => rfl
    | some u =>
      obtain ⟨rfl, _, _⟩ := tell q
      rw [ha] at e
      cases e
      cases d
  have ns_ : ∀ {b : Addr} {m : PySem.Str → Option Value}, t.heap.Ns b m → (hidT t.heap H).Ns b m := fun {b m} ⟨o, es, ep, e, d, r⟩ => ⟨o, es, ep, hidT_get e (plain e d), d, r⟩
  have kin : M.K.In (hidT t.heap H) := fun b o e => hidT_get (hK b o e) (by
    cases q : H b with
    | none => rfl
    | some u =>
      obtain ⟨rfl, z, _⟩ := tell q
      rw [z] at e
      cases e)
  have mod : Mod M.K mg (hidT t.heap H) := by
    obtain ⟨mc, q1, q2⟩ := h4
    exact ⟨kin, ns_ h1, ⟨mb, ns_ h2, h3⟩, mc, ns_ q1, q2⟩
  have env : Env0 Pg w M.K mg (hidT t.heap H) callerA [] t H := ⟨rfl, mod, fun b o e => of_hidT e, Nat.le_of_eq (hidT_size _ _), trivial, fun b hb => (by cases hb), hok, .of_eq h5⟩
  obtain ⟨a', fd, m1, _, bd, _, F⟩ := all_fn (P := Pg) (w := w) (base := hidT t.heap H) D k f nm [x] hf
  rw [hfa] at m1
  cases m1
  obtain ⟨φ, hφ⟩ := law
  have bnd : BindsTo t fd ⟨[.ref a], []⟩ ([x].zip [.ref a]) := bd t [.ref a] hK rfl
  refine codeAny_mono (F.run callerA [] t H ⟨[.ref a], []⟩ [.ref a] [.ref a] (fun v _ => v = .bl true) (fun _ _ _ => False) hr rfl env bnd (.cons rfl .nil) rfl ⟨⟨H, []⟩, [], [.lst (ns.map .int)], ⟨Same.refl _, List.nodup_nil, rfl, fun _ _ _ h => by simp at h⟩, ⟨?_, trivial⟩, ?_⟩) fun r t' h => ?_
  · show Rep M ⟨H, []⟩ (.ref a) (.lst (ns.map .int))
    simp only [Rep]
    refine ⟨a, ns.map V.int, rfl, lst, ?_⟩
    clear hφ lst rv lv hxl hH hi hl tell hok plain ns_ kin mod env bnd F
    induction ns with
    | nil => trivial
    | cons n ns ih => exact ⟨by show Rep M ⟨H, []⟩ (.int n) (.int n); simp only [Rep], ih⟩
  · rw [hφ, hfr]
    intro G' H' v _ _ r
    simpa only [Rep] using (show Rep M G' v (.bl true) from r)
  · cases r with
    | error e =>
      obtain ⟨_, _, _, _, _, _, _, _, _, _, _, _, z⟩ := h
      exact z.elim
    | ok fl =>
      cases fl with
      | next => exact h.elim
      | brk => exact h.elim
      | cont => exact h.elim
      | ret u =>
        obtain ⟨v, H', os, bare, un, hok', r', q⟩ := h
        have q' : v = .bl true := q
        subst q'
        obtain rfl : u = Value.bool true := r'
        refine ⟨rfl, OldK.of_keep fun b o e => ?_, os, bare⟩
        cases q : H b with
        | none => exact un.keep b o e q (fun z => by cases z) (by simp)
        | some u =>
          obtain ⟨rfl, _, rfl⟩ := tell q
          obtain ⟨e1, _⟩ := hok b _ q
          obtain ⟨e2, _⟩ := hok' b _ (un.frzs b _ _ q)
          rw [e] at e1
          cases e1
          exact e2
theorem walk_MP {l : PySem.W.OpenLaw} {n k f : Nat} {q : Program} {loose : List PySem.Str} {XP : (PySem.Str → Option Value) → Heap → Prop} {YP : World → Heap → Prop} {d : DefRec} {K : Params → PySem.W.Frag} {x : PySem.Str} {Γ : Stx} {Pr : Prg}
    (hn : l.most = some n) (hn2 : n ≤ sizeLine) (hdf : d.params.defaults = []) (hr : Room (k + 2) callerA) (hY : ∀ (w : World) (h : Heap), YP w h → (K w.params).In h)
    (hf : Γ.fns[f]? = some (d.name, [x])) (hfr : Pr.fr f = false)
    (law : ∀ ns : List Int, ns.length ≤ n → (∀ z ∈ ns, Builtin.Int.intBits z ≤ 1048576) → ∃ φ, Pr.call k f [.lst (ns.map .int)] [] = .ok (.bl true) φ)
    (D : ∀ (w : World) (mg : PySem.Str → Option Value) (h : Heap), (K w.params).In h → h.Ns mainGlobals mg → ∃ cls flds, Mdl Γ ⟨K w.params, cls, flds⟩ Pr l.prog mg) :
    PySem.W.WalkO q loose XP YP l.row.toRowW d [] (fun f vs => PySem.call f vs) := by
  refine Att.attach_callB hn hdf fun w s0 t mg mb fa o pm cd doc a us ns G Y ho hd hcd hmg hobj hints hlen hbits hg => ?_
  have KX := hY w _ Y
  obtain ⟨cls, flds, DD⟩ := D w mg _ KX G.T.g
  exact end_MP KX G.T.g G.T.b G.T.builtins G.T.nolimit hg hobj hints (Nat.le_trans hlen hn2) hr DD hf hmg hfr (law ns hlen hbits)
end MP
/-! MP: from what the top wrote to what the module holds. -/
namespace MP
open PySem PySem.Spec PyProof.Rows L2 TL
/-- a def of the module, told by the written part -/
structure FA (K : PySem.W.Frag) (x : PySem.Str) (st : Stmt) : Prop where
  ex : ∃ (f : Addr) (oc : Value) (od : Option Addr) (kV doc pm : Value) (an : Option Addr) (cdv ct : Value) (osl : Array (Option Value)), PySem.W.nsIn K mainGlobals x = some (some (.ref f)) ∧
    K.lookup f = some ⟨oc, od, .func (PySem.W.fnOf x x (C8.fnArgs st) (C8.fnBody st) (C8.fnScope st) .none kV doc pm an cdv ct), osl⟩ ∧ PySem.W.codeIn K cdv x = true ∧ PySem.W.keepIn K (.ref f) = true
theorem FA.of {K : PySem.W.Frag} {x : PySem.Str} {st : Stmt} {f : Addr} {oc : Value} {od : Option Addr} {kV doc pm : Value} {an : Option Addr} {cdv ct : Value} {osl : Array (Option Value)} (h1 : PySem.W.nsIn K mainGlobals x = some (some (.ref f)))
    (h2 : K.lookup f = some ⟨oc, od, .func (PySem.W.fnOf x x (C8.fnArgs st) (C8.fnBody st) (C8.fnScope st) .none kV doc pm an cdv ct), osl⟩) (h3 : PySem.W.codeIn K cdv x = true) (h4 : PySem.W.keepIn K (.ref f) = true) : FA K x st := ⟨⟨f, oc, od, kV, doc, pm, an, cdv, ct, osl, h1, h2, h3, h4⟩⟩
section
variable {K : PySem.W.Frag} {mg : PySem.Str → Option Value} {h : Heap}
theorem FA.at {Γ : Stx} {Pr : Prg} {f : Nat} {x : PySem.Str} {ps : List PySem.Str} {fn : Fn} {st : Stmt} {N : List PySem.Str} (F : FA K x st) (X : K.In h) (G : h.Ns mainGlobals mg)
    (sc : C8.scC N ps (C8.fnScope st) = true) (hn : fn.n = ps.length) (hm : fn.m = N.length) (ck : chkSs Γ N (C8.fnScope st) Pr.fr fn.fr fn.body (C8.fnBody st) = true)
    (hb : ∀ (kV doc pm : Value) (an : Option Addr) (cdv ct : Value) (us : List Value), us.length = ps.length → bindArgs (PySem.W.fnOf x x (C8.fnArgs st) (C8.fnBody st) (C8.fnScope st) .none kV doc pm an cdv ct) ⟨us, []⟩ = pure (ps.zip us))
    (hk : ∀ ks, (f, ks) ∈ Γ.kws → ∀ (kV doc pm : Value) (an : Option Addr) (cdv ct : Value) (us : List Value), us.length = ps.length → bindArgs (PySem.W.fnOf x x (C8.fnArgs st) (C8.fnBody st) (C8.fnScope st) .none kV doc pm an cdv ct) ⟨[], (ks.map fun i => ps.getD i "").zip us⟩ = pure (ps.zip (permL ks us))) :
    DefAt Γ Pr K mg f x ps fn := by
  obtain ⟨a, oc, od, kV, doc, pm, an, cdv, ct, osl, h1, h2, h3, h4⟩ := F.ex
  exact ⟨a, _, st, N, ⟨⟨⟨oc, od, .none, kV, doc, pm, an, cdv, ct, osl, rfl, h2, h3⟩⟩, PySem.W.mg_of X G h1, h4⟩, .all (hb kV doc pm an cdv ct), fun ks q s us _ hl => .of_eq (hk ks q kV doc pm an cdv ct us hl), C8.fnScope_by sc, hn, hm, ck⟩
end
theorem bl_nil {mg : PySem.Str → Option Value} : ∀ x ∈ ([] : List PySem.Str), mg x = none := fun _ h => by cases h
theorem bl_cons {mg : PySem.Str → Option Value} {x : PySem.Str} {xs : List PySem.Str} (h : mg x = none) (t : ∀ y ∈ xs, mg y = none) : ∀ y ∈ x :: xs, mg y = none := fun y hy => by
  rcases List.mem_cons.mp hy with e | e
  · rw [e]; exact h
  · exact t y e
theorem gl_str {M : Md} {Pr : Prg} {mg : PySem.Str → Option Value} {x : PySem.Str} {g : Nat} {s : List Nat} {t : Tok} (h : mg x = some (.str (toS s) t)) (hg : Pr.gv g = some (.str s)) : ∃ u v w, mg x = some u ∧ RelV v u ∧ Pr.gv g = some w ∧ ∀ G, Rep M G v w :=
  ⟨_, .str (toS s), _, h, ⟨t, rfl⟩, hg, fun G => by simp only [Rep]⟩
theorem kw_in {Γ : Stx} {f : Nat} {ks : List Nat} (q : (f, ks) ∈ Γ.kws) : ks ∈ (Γ.kws.filter (·.1 == f)).map (·.2) := List.mem_map.mpr ⟨(f, ks), List.mem_filter.mpr ⟨q, by simp⟩, rfl⟩
end MP
/-! MP: an own exception of the module, told by the written part. -/
namespace MP
open PySem PySem.Spec PyProof.Rows L2 TL NdefX
/-- the __init__ ahead in the body of a class -/
def initS : Stmt → Stmt
  | .ClassDef _ _ _ (f :: _) _ _ _ _ _ _ _ => f
  | s => s
structure EA (P : Program) (K : PySem.W.Frag) (x : PySem.Str) (C : Addr) (fs : List PySem.Str) : Prop where
  ok : ErrOk P K C fs
  at_ : PySem.W.nsIn K mainGlobals x = some (some (.ref C))
section
variable {P : Program} {K : PySem.W.Frag} {x : PySem.Str} {C fI cc c : Addr} {st : Stmt}
  {nm q : PySem.Str} {NN : Addr} {bs bm : List Value} {od : Option Addr} {doc pm ctv : Value} {osl : Array (Option Value)} {qual : PySem.Str}
  {cls : Value} {cld : Option Addr} {csl : Array (Option Value)} {ccl : Value} {cdd : Option Addr} {vs : Array Value} {ccs : Array (Option Value)} {file : PySem.Str} {tf : Tok}
theorem EA.init (ox : OexC K C)
    (li : K.lookup fI = some ⟨.type "function", od, .func (PySem.W.fnX "__init__" qual (C8.fnArgs st) (C8.fnBody st) (C8.fnScope st) [("__class__", cc)] .none .none doc pm none (.ref c) ctv), osl⟩)
    (co : PySem.W.codeIn K (.ref c) qual = true)
    (lc : K.lookup c = some ⟨ccl, cdd, .fields vs, ccs⟩) (hv : vs[2]? = some (.str file tf)) (hfile : ((P.main.file : PySem.Str) == file) = true)
    (ce : K.lookup cc = some ⟨cls, cld, .cell (some (.ref C)), csl⟩)
    (sub : PySem.W.mroIn K C (.ref C) = some true) (sup : PySem.W.nsIn K mainGlobals "super" = some none) (ini : PySem.W.ks_superIn K C C "__init__" = some (some (.builtin "ValueError.__init__")))
    (ve : PySem.W.subIn K (.ref C) (.type "ValueError") = some true) (th : PySem.W.nsIn K cStatics "thirdparty.any" = some none)
    (fi : PySem.W.findIn K (.ref C) "__init__" = some (some (.ref fI))) (ti : PySem.W.typeIn K (.ref fI) = some (.type "function"))
    (top : (P.main.scope.names.lookup ("super" : PySem.Str)).isSome = false) :
    InitC K P C fI cc ⟨"__init__", qual, C8.fnArgs st, C8.fnBody st, C8.fnScope st, [("__class__", cc)], c⟩ :=
  ⟨ox, ⟨od, doc, pm, ctv, osl, li⟩, rfl, co, ⟨ccl, cdd, vs, ccs, file, tf, lc, hv, hfile⟩, ⟨cls, cld, csl, ce⟩, sub, sup, ini, ve, th, top, fi, ti⟩
/-- what the text of an __init__ of two says -/
structure ES2 (P : Program) (st : Stmt) (f1 f2 : PySem.Str) : Prop where
  ex : ∃ (self n1 n2 : PySem.Str) (p0 p1 p2 p3 p4 q1 q2 a1 a2 a3 a4 b1 b2 b3 b4 : Pos), nscB [self, n1, n2, "__class__"] [self, n1, n2] ["__class__"] (C8.fnScope st) = true ∧
    C8.fnBody st = [.Expr (.Call (.Attribute (.Call (.Name "super" p0) [] [] p1) "__init__" p2) [.Name n1 q1, .Name n2 q2] [] p3) p4, .Assign [.Attribute (.Name self a1) f1 a2] (.Name n1 a3) a4, .Assign [.Attribute (.Name self b1) f2 b2] (.Name n2 b3) b4] ∧
    (∃ ar, ((C8.fnArgs st).posonlyargs ++ (C8.fnArgs st).args).head? = some ar ∧ ar.arg = self) ∧ (C8.fnScope st).names.lookup ("super" : PySem.Str) = some .globalImplicit ∧ (plainName self = true ∧ plainName n1 = true ∧ plainName n2 = true) ∧
    (∀ (ql : PySem.Str) (b c : Addr) (doc pm ctv : Value) (us : List Value), us.length = 3 → bindArgs (PySem.W.fnX "__init__" ql (C8.fnArgs st) (C8.fnBody st) (C8.fnScope st) [("__class__", b)] .none .none doc pm none (.ref c) ctv) ⟨us, []⟩ = pure ([self, n1, n2].zip us)) ∧
    ∀ env : Env, ∃ pl : Sem Bool, eval (.Call (.Attribute (.Call (.Name "super" p0) [] [] p1) "__init__" p2) (([(n1, q1), (n2, q2)] : List (PySem.Str × Pos)).map fun p => Expr.Name p.1 p.2) [] p3) env = (do
      let ov ← attributeBase (.Call (.Name "super" p0) [] [] p1) "__init__" env (eval (.Call (.Name "super" p0) [] [] p1) env)
      standAt p2.atName
      let (f, first) ← holding [ov] (getMethod ov "__init__" pl)
      callWith p3 f first (backTo p3 (starEach (([(n1, q1), (n2, q2)] : List (PySem.Str × Pos)).map fun p => Expr.Name p.1 p.2) env)) [])
  top : (P.main.scope.names.lookup ("super" : PySem.Str)).isSome = false
theorem EA.two {f1 f2 : PySem.Str} {sn : List PySem.Str} {sb : List Value} {ab : Bool} {col : Option Bool} {dd : Option Addr} {k0 k1 k2 k3 k5 : Option Value} (S : ES2 P st f1 f2)
    (at_ : PySem.W.nsIn K mainGlobals x = some (some (.ref C))) (l : K.lookup C = some (excClassObj nm q C NN bs bm true sn sb ab col dd k0 k1 k2 k3 k5 "ValueError.__new__")) (rv : PySem.HandSPX.refsVE bm = true)
    (sa : PySem.W.findIn K (.ref C) "__setattr__" = some (some (.builtin "object.__setattr__"))) (ex : PySem.W.subIn K (.ref C) (.type "BaseException") = some true) (ty : PySem.W.typeIn K (.ref C) = some (.type "type")) (kp : PySem.W.keepIn K (.ref C) = true)
    (fi : PySem.W.findIn K (.ref C) "__init__" = some (some (.ref fI))) (ti : PySem.W.typeIn K (.ref fI) = some (.type "function"))
    (li : K.lookup fI = some ⟨.type "function", od, .func (PySem.W.fnX "__init__" qual (C8.fnArgs st) (C8.fnBody st) (C8.fnScope st) [("__class__", cc)] .none .none doc pm none (.ref c) ctv), osl⟩)
    (co : PySem.W.codeIn K (.ref c) qual = true)
    (lc : K.lookup c = some ⟨ccl, cdd, .fields vs, ccs⟩) (hv : vs[2]? = some (.str file tf)) (hfile : ((P.main.file : PySem.Str) == file) = true)
    (ce : K.lookup cc = some ⟨cls, cld, .cell (some (.ref C)), csl⟩)
    (sub : PySem.W.mroIn K C (.ref C) = some true) (sup : PySem.W.nsIn K mainGlobals "super" = some none) (ini : PySem.W.ks_superIn K C C "__init__" = some (some (.builtin "ValueError.__init__")))
    (ve : PySem.W.subIn K (.ref C) (.type "ValueError") = some true) (th : PySem.W.nsIn K cStatics "thirdparty.any" = some none)
    (xf : xfB K C = true) (h1 : PySem.W.findIn K (.ref C) f1 = some none) (h2 : PySem.W.findIn K (.ref C) f2 = some none) : EA P K x C [f1, f2] := by
  obtain ⟨self, n1, n2, p0, p1, p2, p3, p4, q1, q2, a1, a2, a3, a4, b1, b2, b3, b4, S1, hbody, har, hsup, hd, hb, hev⟩ := S.ex
  have ox : OexC K C := ⟨⟨nm, q, NN, bs, bm, sn, sb, ab, col, dd, k0, k1, k2, k3, k5, l, rv⟩, sa, ex, ty, kp⟩
  exact ⟨err_two (EA.init ox li co lc hv hfile ce sub sup ini ve th fi ti S.top) (nscope_by S1) hbody har hsup hd (fun doc pm ctv us hl => hb qual cc c doc pm ctv us hl) hev h1 h2 (xfB_ok xf), at_⟩
/-- what the text of an __init__ of one says -/
structure ES1 (P : Program) (st : Stmt) (f1 : PySem.Str) : Prop where
  ex : ∃ (self n1 : PySem.Str) (p0 p1 p2 p3 p4 q1 a1 a2 a3 a4 : Pos), nscB [self, n1, "__class__"] [self, n1] ["__class__"] (C8.fnScope st) = true ∧
    C8.fnBody st = [.Expr (.Call (.Attribute (.Call (.Name "super" p0) [] [] p1) "__init__" p2) [.Name n1 q1] [] p3) p4, .Assign [.Attribute (.Name self a1) f1 a2] (.Name n1 a3) a4] ∧
    (∃ ar, ((C8.fnArgs st).posonlyargs ++ (C8.fnArgs st).args).head? = some ar ∧ ar.arg = self) ∧ (C8.fnScope st).names.lookup ("super" : PySem.Str) = some .globalImplicit ∧ (plainName self = true ∧ plainName n1 = true) ∧
    (∀ (ql : PySem.Str) (b c : Addr) (doc pm ctv : Value) (us : List Value), us.length = 2 → bindArgs (PySem.W.fnX "__init__" ql (C8.fnArgs st) (C8.fnBody st) (C8.fnScope st) [("__class__", b)] .none .none doc pm none (.ref c) ctv) ⟨us, []⟩ = pure ([self, n1].zip us)) ∧
    ∀ env : Env, ∃ pl : Sem Bool, eval (.Call (.Attribute (.Call (.Name "super" p0) [] [] p1) "__init__" p2) (([(n1, q1)] : List (PySem.Str × Pos)).map fun p => Expr.Name p.1 p.2) [] p3) env = (do
      let ov ← attributeBase (.Call (.Name "super" p0) [] [] p1) "__init__" env (eval (.Call (.Name "super" p0) [] [] p1) env)
      standAt p2.atName
      let (f, first) ← holding [ov] (getMethod ov "__init__" pl)
      callWith p3 f first (backTo p3 (starEach (([(n1, q1)] : List (PySem.Str × Pos)).map fun p => Expr.Name p.1 p.2) env)) [])
  top : (P.main.scope.names.lookup ("super" : PySem.Str)).isSome = false
theorem EA.one {f1 : PySem.Str} {sn : List PySem.Str} {sb : List Value} {ab : Bool} {col : Option Bool} {dd : Option Addr} {k0 k1 k2 k3 k5 : Option Value} (S : ES1 P st f1)
    (at_ : PySem.W.nsIn K mainGlobals x = some (some (.ref C))) (l : K.lookup C = some (excClassObj nm q C NN bs bm true sn sb ab col dd k0 k1 k2 k3 k5 "ValueError.__new__")) (rv : PySem.HandSPX.refsVE bm = true)
    (sa : PySem.W.findIn K (.ref C) "__setattr__" = some (some (.builtin "object.__setattr__"))) (ex : PySem.W.subIn K (.ref C) (.type "BaseException") = some true) (ty : PySem.W.typeIn K (.ref C) = some (.type "type")) (kp : PySem.W.keepIn K (.ref C) = true)
    (fi : PySem.W.findIn K (.ref C) "__init__" = some (some (.ref fI))) (ti : PySem.W.typeIn K (.ref fI) = some (.type "function"))
    (li : K.lookup fI = some ⟨.type "function", od, .func (PySem.W.fnX "__init__" qual (C8.fnArgs st) (C8.fnBody st) (C8.fnScope st) [("__class__", cc)] .none .none doc pm none (.ref c) ctv), osl⟩)
    (co : PySem.W.codeIn K (.ref c) qual = true)
    (lc : K.lookup c = some ⟨ccl, cdd, .fields vs, ccs⟩) (hv : vs[2]? = some (.str file tf)) (hfile : ((P.main.file : PySem.Str) == file) = true)
    (ce : K.lookup cc = some ⟨cls, cld, .cell (some (.ref C)), csl⟩)
    (sub : PySem.W.mroIn K C (.ref C) = some true) (sup : PySem.W.nsIn K mainGlobals "super" = some none) (ini : PySem.W.ks_superIn K C C "__init__" = some (some (.builtin "ValueError.__init__")))
    (ve : PySem.W.subIn K (.ref C) (.type "ValueError") = some true) (th : PySem.W.nsIn K cStatics "thirdparty.any" = some none)
    (xf : xfB K C = true) (h1 : PySem.W.findIn K (.ref C) f1 = some none) : EA P K x C [f1] := by
  obtain ⟨self, n1, p0, p1, p2, p3, p4, q1, a1, a2, a3, a4, S1, hbody, har, hsup, hd, hb, hev⟩ := S.ex
  have ox : OexC K C := ⟨⟨nm, q, NN, bs, bm, sn, sb, ab, col, dd, k0, k1, k2, k3, k5, l, rv⟩, sa, ex, ty, kp⟩
  exact ⟨err_one (EA.init ox li co lc hv hfile ce sub sup ini ve th fi ti S.top) (nscope_by S1) hbody har hsup hd (fun doc pm ctv us hl => hb qual cc c doc pm ctv us hl) hev h1 (xfB_ok xf), at_⟩
end
/-- what a handler of the class x takes -/
def ExmAt (M : Md) (mg : PySem.Str → Option Value) (x : PySem.Str) (yes no : List Nat) : Prop := ∃ c, mg x = some c ∧ (∀ k ∈ yes, PySem.W.exmOne M.K (.ref (M.cls k)) c = some true) ∧ (∀ k ∈ no, PySem.W.exmOne M.K (.ref (M.cls k)) c = some false)
theorem tr_nil {M : Md} {mg : PySem.Str → Option Value} : ∀ (x : PySem.Str) (yes no : List Nat), (x, yes, no) ∈ ([] : List (PySem.Str × List Nat × List Nat)) → ExmAt M mg x yes no := fun _ _ _ h => by cases h
theorem tr_cons {M : Md} {mg : PySem.Str → Option Value} {y : PySem.Str} {a b : List Nat} {l : List (PySem.Str × List Nat × List Nat)} (h : ExmAt M mg y a b) (t : ∀ (x : PySem.Str) (yes no : List Nat), (x, yes, no) ∈ l → ExmAt M mg x yes no) :
    ∀ (x : PySem.Str) (yes no : List Nat), (x, yes, no) ∈ (y, a, b) :: l → ExmAt M mg x yes no := fun x yes no hm => by
  rcases List.mem_cons.mp hm with e | e
  · cases e; exact h
  · exact t x yes no e
theorem al_nil {p : Nat → Prop} : ∀ k ∈ ([] : List Nat), p k := fun _ h => by cases h
theorem al_cons {p : Nat → Prop} {a : Nat} {l : List Nat} (h : p a) (t : ∀ k ∈ l, p k) : ∀ k ∈ a :: l, p k := fun k hk => by
  rcases List.mem_cons.mp hk with e | e
  · rw [e]; exact h
  · exact t k e
end MP
/-! MP: the evaluator, row by row, for simp. -/
namespace MP
open PySem
theorem call_eq {P : Prg} {d f : Nat} {ws : List W} {φ : Sto} {fn : Fn} (h : P.fns[f]? = some fn) (hl : ws.length = fn.n) :
    P.call (d + 1) f ws φ = (evalS P.gv P.fr (P.call d) fn.body (start fn.m ws) φ).out fn.fr := by
  show (match P.fns[f]? with | some fn => if ws.length = fn.n then (evalS P.gv P.fr (P.call d) fn.body (start fn.m ws) φ).out fn.fr else .bad | none => .bad) = _
  rw [h]
  exact if_pos hl
section
variable (gv : Nat → Option W) (fr : Nat → Bool) (call : Calls) (ρ : Loc) (φ : Sto)
@[simp] theorem ev_var (i : Nat) : evalE gv call (.var i) ρ φ = match ρ[i]? with | some (.val w) => .ok w φ | _ => .bad := rfl
@[simp] theorem ev_own (i : Nat) : evalE gv call (.own i) ρ φ = match ρ[i]? with | some (.own w) => .ok w φ | _ => .bad := rfl
@[simp] theorem ev_glob (g : Nat) : evalE gv call (.glob g) ρ φ = .ofO (gv g) φ := rfl
@[simp] theorem ev_int (i : Int) : evalE gv call (.int i) ρ φ = .ok (.int i) φ := rfl
@[simp] theorem ev_str (s : List Nat) : evalE gv call (.str s) ρ φ = .ok (.str s) φ := rfl
@[simp] theorem ev_bl (b : Bool) : evalE gv call (.bl b) ρ φ = .ok (.bl b) φ := rfl
@[simp] theorem ev_non : evalE gv call .non ρ φ = .ok .non φ := rfl
@[simp] theorem ev_tup (es : T) : evalE gv call (.tup es) ρ φ = (evalEs gv call es ρ φ).bind fun ws φ1 => if ws.length ≤ sizeLine then .ok (.tup ws) φ1 else .bad := rfl
@[simp] theorem ev_lst (es : T) : evalE gv call (.lst es) ρ φ = (evalEs gv call es ρ φ).bind fun ws φ1 => if ws.length ≤ sizeLine then .ok (.lst ws) φ1 else .bad := rfl
@[simp] theorem ev_bin (op : Bop) (a b : T) : evalE gv call (.bin op a b) ρ φ = (evalE gv call a ρ φ).bind fun x φ1 => (evalE gv call b ρ φ1).bind fun y φ2 => .ofO (opBin op x y) φ2 := rfl
@[simp] theorem ev_neg (a : T) : evalE gv call (.neg a) ρ φ = (evalE gv call a ρ φ).bind fun x φ1 => match x with | .int i => .ok (.int (-i)) φ1 | _ => .bad := rfl
@[simp] theorem ev_cmp (op : Cop) (a b : T) : evalE gv call (.cmp op a b) ρ φ = (evalE gv call a ρ φ).bind fun x φ1 => (evalE gv call b ρ φ1).bind fun y φ2 => .ofO ((opCmp op x y).map .bl) φ2 := rfl
@[simp] theorem ev_chn (op op' : Cop) (a b c : T) : evalE gv call (.chn op op' a b c) ρ φ = (evalE gv call a ρ φ).bind fun x φ1 => (evalE gv call b ρ φ1).bind fun y φ2 => (Out.ofO (opCmp op x y) φ2).bind fun k φ3 =>
      if k then (evalE gv call c ρ φ3).bind fun z φ4 => .ofO ((opCmp op' y z).map .bl) φ4 else .ok (.bl false) φ3 := rfl
@[simp] theorem ev_and (es : T) : evalE gv call (.andN es) ρ φ = evalAnd gv call es ρ φ := rfl
@[simp] theorem ev_or (es : T) : evalE gv call (.orN es) ρ φ = evalOr gv call es ρ φ := rfl
@[simp] theorem ev_not (a : T) : evalE gv call (.not a) ρ φ = (evalE gv call a ρ φ).bind fun x φ1 => .ofO ((truthy x).map fun b => .bl (!b)) φ1 := rfl
@[simp] theorem ev_ife (c a b : T) : evalE gv call (.ife c a b) ρ φ = (evalE gv call c ρ φ).bind fun x φ1 => (Out.ofO (truthy x) φ1).bind fun k φ2 => if k then evalE gv call a ρ φ2 else evalE gv call b ρ φ2 := rfl
@[simp] theorem ev_idx (a i : T) : evalE gv call (.idx a i) ρ φ = (evalE gv call a ρ φ).bind fun x φ1 => (evalE gv call i ρ φ1).bind fun y φ2 => .ofO (opIdx x y) φ2 := rfl
@[simp] theorem ev_dget (a i : T) : evalE gv call (.dget a i) ρ φ = (evalE gv call a ρ φ).bind fun x φ1 => (evalE gv call i ρ φ1).bind fun y φ2 => match x with
    | .obj i => match φ2[i]? with
      | some (.dct kvs) => .ofO ((keyOf y).bind (getK kvs)) φ2
      | _ => .bad
    | .dct kvs => .ofO ((keyOf y).bind (getK kvs)) φ2
    | _ => .bad := rfl
@[simp] theorem ev_slc (a lo hi : T) : evalE gv call (.slc a lo hi) ρ φ = (evalE gv call a ρ φ).bind fun x φ1 =>
      (if lo.isNil then .ok none φ1 else (evalE gv call lo ρ φ1).bind fun y φ' => .ofO (partOf y) φ').bind fun l φ2 =>
      (if hi.isNil then .ok none φ2 else (evalE gv call hi ρ φ2).bind fun y φ' => .ofO (partOf y) φ').bind fun h φ3 => .ofO (opSlc l h x) φ3 := rfl
@[simp] theorem ev_call (f : Nat) (es : T) : evalE gv call (.call f es) ρ φ = (evalEs gv call es ρ φ).bind fun ws φ1 => call f ws φ1 := rfl
@[simp] theorem ev_callk (f : Nat) (ks : List Nat) (es : T) : evalE gv call (.callk f ks es) ρ φ = (evalEs gv call es ρ φ).bind fun ws φ1 => call f (permL ks ws) φ1 := rfl
@[simp] theorem ev_isi (a : T) (t : Ty) : evalE gv call (.isi a t) ρ φ = (evalE gv call a ρ φ).bind fun x φ1 => .ofO ((isTy t x).map .bl) φ1 := rfl
@[simp] theorem ev_blt (b : Blt) (a : T) : evalE gv call (.blt b a) ρ φ = (evalE gv call a ρ φ).bind fun x φ1 => .ofO (opBlt b x) φ1 := rfl
@[simp] theorem ev_join (s a : T) : evalE gv call (.join s a) ρ φ = (evalE gv call s ρ φ).bind fun x φ1 => if x.isStr then (evalE gv call a ρ φ1).bind fun y φ2 => .ofO (opJoin x y) φ2 else .bad := rfl
@[simp] theorem ev_rng1 (a : T) : evalE gv call (.rng1 a) ρ φ = (evalE gv call a ρ φ).bind fun x φ1 => .ofO (opRng1 x) φ1 := rfl
@[simp] theorem ev_rng2 (a b : T) : evalE gv call (.rng2 a b) ρ φ = (evalE gv call a ρ φ).bind fun x φ1 => (evalE gv call b ρ φ1).bind fun y φ2 => .ofO (opRng2 x y) φ2 := rfl
@[simp] theorem ev_rev (a : T) : evalE gv call (.rev a) ρ φ = (evalE gv call a ρ φ).bind fun x φ1 => .ofO (opRev x) φ1 := rfl
@[simp] theorem ev_lset (a : T) : evalE gv call (.lset a) ρ φ = (evalE gv call a ρ φ).bind fun x φ1 => .ofO (opLset x) φ1 := rfl
@[simp] theorem ev_sortS (a : T) : evalE gv call (.sortS a) ρ φ = (evalE gv call a ρ φ).bind fun x φ1 => .ofO (opSortS x) φ1 := rfl
@[simp] theorem ev_revT (a : T) : evalE gv call (.revT a) ρ φ = (evalE gv call a ρ φ).bind fun x φ1 => .ofO (opRevT x) φ1 := rfl
@[simp] theorem es_nil : evalEs gv call .nil ρ φ = .ok [] φ := rfl
@[simp] theorem es_cons (a b : T) : evalEs gv call (.cons a b) ρ φ = (evalE gv call a ρ φ).bind fun x φ1 => (evalEs gv call b ρ φ1).bind fun xs φ2 => .ok (x :: xs) φ2 := rfl
@[simp] theorem and_one (a : T) : evalAnd gv call (.cons a .nil) ρ φ = evalE gv call a ρ φ := rfl
@[simp] theorem and_cons (a b c : T) : evalAnd gv call (.cons a (.cons b c)) ρ φ = (evalE gv call a ρ φ).bind fun x φ1 => (Out.ofO (truthy x) φ1).bind fun k φ2 => if k then evalAnd gv call (.cons b c) ρ φ2 else .ok x φ2 := rfl
@[simp] theorem or_one (a : T) : evalOr gv call (.cons a .nil) ρ φ = evalE gv call a ρ φ := rfl
@[simp] theorem or_cons (a b c : T) : evalOr gv call (.cons a (.cons b c)) ρ φ = (evalE gv call a ρ φ).bind fun x φ1 => (Out.ofO (truthy x) φ1).bind fun k φ2 => if k then .ok x φ2 else evalOr gv call (.cons b c) ρ φ2 := rfl
@[simp] theorem st_nil : evalS gv fr call .nil ρ φ = .nx ρ φ := rfl
@[simp] theorem st_cons (a b : T) : evalS gv fr call (.cons a b) ρ φ = (evalS gv fr call a ρ φ).andThen fun ρ1 φ1 => evalS gv fr call b ρ1 φ1 := rfl
@[simp] theorem st_set (i : Nat) (e : T) : evalS gv fr call (.sset i e) ρ φ = (evalE gv call e ρ φ).toR ρ fun w φ1 => if e.fresh fr then (if w.isObj then .nx (ρ.set i (.own w)) φ1 else .bad) else .nx (ρ.set i (.val w)) φ1 := rfl
@[simp] theorem st_par (is : List Nat) (es : T) : evalS gv fr call (.spar is es) ρ φ = (evalEs gv call es ρ φ).toR ρ fun ws φ1 => match (slots (es.frs fr) ws).bind fun ss => setSl is ss ρ with
    | some ρ' => .nx ρ' φ1
    | none => .bad := rfl
@[simp] theorem st_dput (d k e : T) : evalS gv fr call (.sdput d k e) ρ φ = (evalE gv call e ρ φ).toR ρ fun z φ1 => (evalE gv call d ρ φ1).toR ρ fun x φ2 => (evalE gv call k ρ φ2).toR ρ fun y φ3 => match x, keyOf y with
    | .obj i, some l => match φ3[i]? with
      | some (.dct kvs) => if kvs.length < sizeLine then .nx ρ (φ3.set i (.dct (putK' kvs l z))) else .bad
      | _ => .bad
    | _, _ => .bad := rfl
@[simp] theorem st_app (i : Nat) (e : T) : evalS gv fr call (.sapp i e) ρ φ = match ρ[i]? with
    | some (.own (.lst ws)) => (evalE gv call e ρ φ).toR ρ fun z φ1 => if ws.length < sizeLine then .nx (ρ.set i (.own (.lst (ws ++ [z])))) φ1 else .bad
    | _ => .bad := rfl
@[simp] theorem st_ext (i : Nat) (e : T) : evalS gv fr call (.sext i e) ρ φ = match ρ[i]? with
    | some (.own (.lst ws)) => (evalE gv call e ρ φ).toR ρ fun z φ1 => match z with
      | .lst zs => if ws.length + zs.length ≤ sizeLine then .nx (ρ.set i (.own (.lst (ws ++ zs)))) φ1 else .bad
      | _ => .bad
    | _ => .bad := rfl
@[simp] theorem st_pop (j i : Nat) : evalS gv fr call (.spop j i) ρ φ = match ρ[i]? with
    | some (.own (.lst ws)) => match ws.getLast? with
      | some z => .nx ((ρ.set i (.own (.lst ws.dropLast))).set j (.val z)) φ
      | none => .bad
    | _ => .bad := rfl
@[simp] theorem st_if (c a b : T) : evalS gv fr call (.sif c a b) ρ φ = (evalE gv call c ρ φ).toR ρ fun x φ1 => match truthy x with
    | some true => evalS gv fr call a ρ φ1
    | some false => evalS gv fr call b ρ φ1
    | none => .bad := rfl
@[simp] theorem st_while (c b : T) : evalS gv fr call (.swhile c b) ρ φ = wloop (fun ρ φ => (evalE gv call c ρ φ).bind fun x φ1 => .ofO (truthy x) φ1) (fun ρ φ => evalS gv fr call b ρ φ) ρ φ := rfl
@[simp] theorem st_for (i : Nat) (it b : T) : evalS gv fr call (.sfor i it b) ρ φ = (evalE gv call it ρ φ).toR ρ fun x φ1 => match items x with
    | some ws => floop (fun w ρ φ => evalS gv fr call b (ρ.set i (.val w)) φ) ws ρ φ1
    | none => .bad := rfl
@[simp] theorem st_ret (e : T) : evalS gv fr call (.sret e) ρ φ = (evalE gv call e ρ φ).toR ρ fun w φ1 => .rt w φ1 := rfl
@[simp] theorem st_frz (i : Nat) : evalS gv fr call (.sfrz i) ρ φ = match ρ[i]? with
    | some (.own w) => .nx (ρ.set i (.val w)) φ
    | _ => .bad := rfl
end
@[simp] theorem out_rtF (w : W) (φ : Sto) : (Res.rt w φ).out false = .ok w φ := rfl
@[simp] theorem tru_bl (b : Bool) : truthy (.bl b) = some b := rfl
@[simp] theorem add_int (i j : Int) : opBin .add (.int i) (.int j) = some (.int (i + j)) := rfl
@[simp] theorem sub_int (i j : Int) : opBin .sub (.int i) (.int j) = some (.int (i - j)) := rfl
@[simp] theorem lt_int (i j : Int) : opCmp .lt (.int i) (.int j) = some (decide (i < j)) := rfl
@[simp] theorem le_int (i j : Int) : opCmp .le (.int i) (.int j) = some (decide (i ≤ j)) := rfl
@[simp] theorem gt_int (i j : Int) : opCmp .gt (.int i) (.int j) = some (decide (j < i)) := rfl
@[simp] theorem ge_int (i j : Int) : opCmp .ge (.int i) (.int j) = some (decide (j ≤ i)) := rfl
@[simp] theorem eq_int (i j : Int) : opCmp .eq (.int i) (.int j) = some (decide (i = j)) := by
  show (if true && true then some (eqW (.int i) (.int j)) else none) = _
  simp only [eqW, W.toD, PyData.eqv, Bool.and_self, if_true, Option.some.injEq]
  by_cases h : i = j <;> simp [h]
theorem len_str {s : List Nat} (h : s.length ≤ sizeLine) : opBlt .len (.str s) = some (.int s.length) := if_pos h
@[simp] theorem len_lst (ws : List W) : opBlt .len (.lst ws) = some (.int ws.length) := rfl
@[simp] theorem len_tup (ws : List W) : opBlt .len (.tup ws) = some (.int ws.length) := rfl
theorem idx_str {s : List Nat} {i : Nat} {c : Nat} (h : s.length ≤ sizeLine) (hc : s[i]? = some c) : opIdx (.str s) (.int i) = some (.str [c]) := by
  have hlt : i < s.length := (List.getElem?_eq_some_iff.mp hc).1
  show (if s.length ≤ sizeLine then (ixW s i).map fun c => W.str [c] else none) = _
  rw [if_pos h]
  have e : ixW s (i : Int) = some c := by
    unfold ixW
    rw [if_pos (Int.natCast_nonneg i), if_pos (by omega), Int.toNat_natCast]
    exact hc
  rw [e]
  rfl
theorem in_str (c : Nat) (t : List Nat) : opCmp .isin (.str [c]) (.str t) = some (decide (c ∈ t)) := rfl
theorem nin_str (c : Nat) (t : List Nat) : opCmp .notin (.str [c]) (.str t) = some (!decide (c ∈ t)) := rfl
section
variable {c : Loc → Sto → Out Bool} {b : Loc → Sto → Res} {ρ ρ2 : Loc} {φ φ1 φ2 : Sto} {w : W}
theorem wloop_step (hc : c ρ φ = .ok true φ1) (hb : b ρ φ1 = .nx ρ2 φ2) : wloop c b ρ φ = wloop c b ρ2 φ2 := by
  rw [wloop_eq, hc]
  show (b ρ φ1).turn (wloop c b) = _
  rw [hb]
  rfl
theorem wloop_done (hc : c ρ φ = .ok false φ1) : wloop c b ρ φ = .nx ρ φ1 := by
  rw [wloop_eq, hc]
  rfl
theorem wloop_rt (hc : c ρ φ = .ok true φ1) (hb : b ρ φ1 = .rt w φ2) : wloop c b ρ φ = .rt w φ2 := by
  rw [wloop_eq, hc]
  show (b ρ φ1).turn (wloop c b) = _
  rw [hb]
  rfl
end
/-- lists of whole length -/
theorem szl : sizeLine = 16777216 := by decide
end MP
/-! MP: rules for runs: an expression's outcome, a statement ahead of others. -/
namespace MP
open PySem
section
variable {gv : Nat → Option W} {fr : Nat → Bool} {call : Calls} {ρ ρ' : Loc} {φ φ1 φ2 φ3 : Sto} {a b c e k es : T} {i j : Nat} {u v w : W} {ws us : List W}
/-! expressions -/
theorem r_var (h : ρ[i]? = some (.val w)) : evalE gv call (.var i) ρ φ = .ok w φ := by rw [ev_var, h]
theorem r_own (h : ρ[i]? = some (.own w)) : evalE gv call (.own i) ρ φ = .ok w φ := by rw [ev_own, h]
theorem r_glob (h : gv i = some w) : evalE gv call (.glob i) ρ φ = .ok w φ := by rw [ev_glob, h]; rfl
theorem r_int {n : Int} : evalE gv call (.int n) ρ φ = .ok (.int n) φ := rfl
theorem r_str {s : List Nat} : evalE gv call (.str s) ρ φ = .ok (.str s) φ := rfl
theorem r_bl {x : Bool} : evalE gv call (.bl x) ρ φ = .ok (.bl x) φ := rfl
theorem r_non : evalE gv call .non ρ φ = .ok .non φ := rfl
theorem rs_nil : evalEs gv call .nil ρ φ = .ok [] φ := rfl
theorem rs_cons (h : evalE gv call a ρ φ = .ok w φ1) (h2 : evalEs gv call b ρ φ1 = .ok ws φ2) : evalEs gv call (.cons a b) ρ φ = .ok (w :: ws) φ2 := by
  rw [es_cons, h, Out.bind_ok, h2]; rfl
theorem r_tup (h : evalEs gv call es ρ φ = .ok ws φ1) (hl : ws.length ≤ 1000000 := by simp) : evalE gv call (.tup es) ρ φ = .ok (.tup ws) φ1 := by
  rw [ev_tup, h, Out.bind_ok, if_pos (by rw [szl]; omega)]
theorem r_lst (h : evalEs gv call es ρ φ = .ok ws φ1) (hl : ws.length ≤ 1000000 := by simp) : evalE gv call (.lst es) ρ φ = .ok (.lst ws) φ1 := by
  rw [ev_lst, h, Out.bind_ok, if_pos (by rw [szl]; omega)]
theorem r_bin {op : Bop} (h : evalE gv call a ρ φ = .ok u φ1) (h2 : evalE gv call b ρ φ1 = .ok v φ2) (ho : opBin op u v = some w) : evalE gv call (.bin op a b) ρ φ = .ok w φ2 := by
  rw [ev_bin, h, Out.bind_ok, h2, Out.bind_ok, ho]; rfl
theorem r_neg {n : Int} (h : evalE gv call a ρ φ = .ok (.int n) φ1) : evalE gv call (.neg a) ρ φ = .ok (.int (-n)) φ1 := by
  rw [ev_neg, h]; rfl
theorem r_cmp {op : Cop} {x : Bool} (h : evalE gv call a ρ φ = .ok u φ1) (h2 : evalE gv call b ρ φ1 = .ok v φ2) (ho : opCmp op u v = some x) : evalE gv call (.cmp op a b) ρ φ = .ok (.bl x) φ2 := by
  rw [ev_cmp, h, Out.bind_ok, h2, Out.bind_ok, ho]; rfl
theorem r_not {x : Bool} (h : evalE gv call a ρ φ = .ok u φ1) (ht : truthy u = some x) : evalE gv call (.not a) ρ φ = .ok (.bl (!x)) φ1 := by
  rw [ev_not, h, Out.bind_ok, ht]; rfl
theorem r_ife_t (h : evalE gv call c ρ φ = .ok u φ1) (ht : truthy u = some true) (h2 : evalE gv call a ρ φ1 = .ok w φ2) : evalE gv call (.ife c a b) ρ φ = .ok w φ2 := by
  rw [ev_ife, h, Out.bind_ok, ht]; exact h2
theorem r_ife_f (h : evalE gv call c ρ φ = .ok u φ1) (ht : truthy u = some false) (h2 : evalE gv call b ρ φ1 = .ok w φ2) : evalE gv call (.ife c a b) ρ φ = .ok w φ2 := by
  rw [ev_ife, h, Out.bind_ok, ht]; exact h2
theorem r_idx (h : evalE gv call a ρ φ = .ok u φ1) (h2 : evalE gv call b ρ φ1 = .ok v φ2) (ho : opIdx u v = some w) : evalE gv call (.idx a b) ρ φ = .ok w φ2 := by
  rw [ev_idx, h, Out.bind_ok, h2, Out.bind_ok, ho]; rfl
theorem r_slc00 (h : evalE gv call a ρ φ = .ok u φ1) (ho : opSlc none none u = some w) : evalE gv call (.slc a .nil .nil) ρ φ = .ok w φ1 := by
  rw [ev_slc, h, Out.bind_ok]
  show Out.ofO (opSlc none none u) φ1 = _
  rw [ho]; rfl
theorem r_slc10 {n : Int} (h : evalE gv call a ρ φ = .ok u φ1) (hn : b.isNil = false) (h2 : evalE gv call b ρ φ1 = .ok (.int n) φ2) (ho : opSlc (some n) none u = some w) : evalE gv call (.slc a b .nil) ρ φ = .ok w φ2 := by
  rw [ev_slc, h, Out.bind_ok, hn, h2]
  show Out.ofO (opSlc (some n) none u) φ2 = _
  rw [ho]; rfl
theorem r_slc01 {n : Int} (h : evalE gv call a ρ φ = .ok u φ1) (hn : b.isNil = false) (h2 : evalE gv call b ρ φ1 = .ok (.int n) φ2) (ho : opSlc none (some n) u = some w) : evalE gv call (.slc a .nil b) ρ φ = .ok w φ2 := by
  rw [ev_slc, h, Out.bind_ok, hn]
  show (if false = true then Out.ok none φ1 else (evalE gv call b ρ φ1).bind fun y φ' => .ofO (partOf y) φ').bind (fun h φ3 => Out.ofO (opSlc none h u) φ3) = _
  rw [h2]
  show Out.ofO (opSlc none (some n) u) φ2 = _
  rw [ho]; rfl
theorem r_slc11 {n m : Int} (h : evalE gv call a ρ φ = .ok u φ1) (hn : b.isNil = false) (h2 : evalE gv call b ρ φ1 = .ok (.int n) φ2) (hn2 : c.isNil = false) (h3 : evalE gv call c ρ φ2 = .ok (.int m) φ3) (ho : opSlc (some n) (some m) u = some w) : evalE gv call (.slc a b c) ρ φ = .ok w φ3 := by
  rw [ev_slc, h, Out.bind_ok, hn, h2, hn2]
  show (if false = true then Out.ok none φ2 else (evalE gv call c ρ φ2).bind fun y φ' => .ofO (partOf y) φ').bind (fun h φ3 => Out.ofO (opSlc (some n) h u) φ3) = _
  rw [h3]
  show Out.ofO (opSlc (some n) (some m) u) φ3 = _
  rw [ho]; rfl
theorem r_rev (h : evalE gv call a ρ φ = .ok u φ1) (ho : opRev u = some w) : evalE gv call (.rev a) ρ φ = .ok w φ1 := by
  rw [ev_rev, h, Out.bind_ok, ho]; rfl
theorem r_call {f : Nat} (h : evalEs gv call es ρ φ = .ok ws φ1) (h2 : call f ws φ1 = .ok w φ2) : evalE gv call (.call f es) ρ φ = .ok w φ2 := by
  rw [ev_call, h, Out.bind_ok, h2]
theorem r_callk {f : Nat} {ks : List Nat} (h : evalEs gv call es ρ φ = .ok ws φ1) (h2 : call f (permL ks ws) φ1 = .ok w φ2) : evalE gv call (.callk f ks es) ρ φ = .ok w φ2 := by
  rw [ev_callk, h, Out.bind_ok, h2]
theorem r_isi {t : Ty} {x : Bool} (h : evalE gv call a ρ φ = .ok u φ1) (ho : isTy t u = some x) : evalE gv call (.isi a t) ρ φ = .ok (.bl x) φ1 := by
  rw [ev_isi, h, Out.bind_ok, ho]; rfl
theorem r_blt {t : Blt} (h : evalE gv call a ρ φ = .ok u φ1) (ho : opBlt t u = some w) : evalE gv call (.blt t a) ρ φ = .ok w φ1 := by
  rw [ev_blt, h, Out.bind_ok, ho]; rfl
theorem r_join {s : List Nat} (h : evalE gv call a ρ φ = .ok (.str s) φ1) (h2 : evalE gv call b ρ φ1 = .ok v φ2) (ho : opJoin (.str s) v = some w) : evalE gv call (.join a b) ρ φ = .ok w φ2 := by
  rw [ev_join, h, Out.bind_ok]
  show (evalE gv call b ρ φ1).bind _ = _
  rw [h2, Out.bind_ok, ho]; rfl
theorem r_rng1 (h : evalE gv call a ρ φ = .ok u φ1) (ho : opRng1 u = some w) : evalE gv call (.rng1 a) ρ φ = .ok w φ1 := by
  rw [ev_rng1, h, Out.bind_ok, ho]; rfl
theorem r_rng2 (h : evalE gv call a ρ φ = .ok u φ1) (h2 : evalE gv call b ρ φ1 = .ok v φ2) (ho : opRng2 u v = some w) : evalE gv call (.rng2 a b) ρ φ = .ok w φ2 := by
  rw [ev_rng2, h, Out.bind_ok, h2, Out.bind_ok, ho]; rfl
theorem r_lset (h : evalE gv call a ρ φ = .ok u φ1) (ho : opLset u = some w) : evalE gv call (.lset a) ρ φ = .ok w φ1 := by
  rw [ev_lset, h, Out.bind_ok, ho]; rfl
theorem r_sortS (h : evalE gv call a ρ φ = .ok u φ1) (ho : opSortS u = some w) : evalE gv call (.sortS a) ρ φ = .ok w φ1 := by
  rw [ev_sortS, h, Out.bind_ok, ho]; rfl
theorem r_and1 (h : evalE gv call a ρ φ = .ok w φ1) : evalAnd gv call (.cons a .nil) ρ φ = .ok w φ1 := h
theorem r_and_t (h : evalE gv call a ρ φ = .ok u φ1) (ht : truthy u = some true) (h2 : evalAnd gv call (.cons b c) ρ φ1 = .ok w φ2) : evalAnd gv call (.cons a (.cons b c)) ρ φ = .ok w φ2 := by
  rw [and_cons, h, Out.bind_ok, ht]; exact h2
theorem r_and_f (h : evalE gv call a ρ φ = .ok u φ1) (ht : truthy u = some false) : evalAnd gv call (.cons a (.cons b c)) ρ φ = .ok u φ1 := by
  rw [and_cons, h, Out.bind_ok, ht]; rfl
theorem r_or1 (h : evalE gv call a ρ φ = .ok w φ1) : evalOr gv call (.cons a .nil) ρ φ = .ok w φ1 := h
theorem r_or_f (h : evalE gv call a ρ φ = .ok u φ1) (ht : truthy u = some false) (h2 : evalOr gv call (.cons b c) ρ φ1 = .ok w φ2) : evalOr gv call (.cons a (.cons b c)) ρ φ = .ok w φ2 := by
  rw [or_cons, h, Out.bind_ok, ht]; exact h2
theorem r_or_t (h : evalE gv call a ρ φ = .ok u φ1) (ht : truthy u = some true) : evalOr gv call (.cons a (.cons b c)) ρ φ = .ok u φ1 := by
  rw [or_cons, h, Out.bind_ok, ht]; rfl
theorem r_and (h : evalAnd gv call es ρ φ = .ok w φ1) : evalE gv call (.andN es) ρ φ = .ok w φ1 := h
theorem r_or (h : evalOr gv call es ρ φ = .ok w φ1) : evalE gv call (.orN es) ρ φ = .ok w φ1 := h
/-! statements -/
theorem q_nil : evalS gv fr call .nil ρ φ = .nx ρ φ := rfl
theorem q_set (h : evalE gv call e ρ φ = .ok w φ1) (hf : e.fresh fr = false) : evalS gv fr call (.cons (.sset i e) k) ρ φ = evalS gv fr call k (ρ.set i (.val w)) φ1 := by
  rw [st_cons, st_set, h, Out.toR_ok, hf]; rfl
theorem q_setO (h : evalE gv call e ρ φ = .ok w φ1) (hf : e.fresh fr = true) (hw : w.isObj = true) : evalS gv fr call (.cons (.sset i e) k) ρ φ = evalS gv fr call k (ρ.set i (.own w)) φ1 := by
  rw [st_cons, st_set, h, Out.toR_ok, hf, hw]; rfl
theorem q_par {is : List Nat} (h : evalEs gv call es ρ φ = .ok ws φ1) (hs : ((slots (es.frs fr) ws).bind fun ss => setSl is ss ρ) = some ρ') : evalS gv fr call (.cons (.spar is es) k) ρ φ = evalS gv fr call k ρ' φ1 := by
  rw [st_cons, st_par, h, Out.toR_ok, hs]; rfl
theorem q_app (h0 : ρ[i]? = some (.own (.lst ws))) (h : evalE gv call e ρ φ = .ok w φ1) (hl : ws.length < 1000000) : evalS gv fr call (.cons (.sapp i e) k) ρ φ = evalS gv fr call k (ρ.set i (.own (.lst (ws ++ [w])))) φ1 := by
  rw [st_cons, st_app, h0]
  show ((evalE gv call e ρ φ).toR ρ _).andThen _ = _
  rw [h, Out.toR_ok, if_pos (by rw [szl]; omega)]; rfl
theorem q_ext (h0 : ρ[i]? = some (.own (.lst ws))) (h : evalE gv call e ρ φ = .ok (.lst us) φ1) (hl : ws.length + us.length ≤ 1000000) : evalS gv fr call (.cons (.sext i e) k) ρ φ = evalS gv fr call k (ρ.set i (.own (.lst (ws ++ us)))) φ1 := by
  rw [st_cons, st_ext, h0]
  show ((evalE gv call e ρ φ).toR ρ _).andThen _ = _
  rw [h, Out.toR_ok]
  show (if ws.length + us.length ≤ sizeLine then _ else _ : Res).andThen _ = _
  rw [if_pos (by rw [szl]; omega)]; rfl
theorem q_if_t (h : evalE gv call c ρ φ = .ok u φ1) (ht : truthy u = some true) : evalS gv fr call (.cons (.sif c a b) k) ρ φ = (evalS gv fr call a ρ φ1).andThen fun ρ1 φ1 => evalS gv fr call k ρ1 φ1 := by
  rw [st_cons, st_if, h, Out.toR_ok, ht]
theorem q_if_f (h : evalE gv call c ρ φ = .ok u φ1) (ht : truthy u = some false) : evalS gv fr call (.cons (.sif c a b) k) ρ φ = (evalS gv fr call b ρ φ1).andThen fun ρ1 φ1 => evalS gv fr call k ρ1 φ1 := by
  rw [st_cons, st_if, h, Out.toR_ok, ht]
/-- an if whose other part is nothing -/
theorem q_skip (h : evalE gv call c ρ φ = .ok u φ1) (ht : truthy u = some false) : evalS gv fr call (.cons (.sif c a .nil) k) ρ φ = evalS gv fr call k ρ φ1 := q_if_f h ht
theorem q_ret (h : evalE gv call e ρ φ = .ok w φ1) : evalS gv fr call (.cons (.sret e) k) ρ φ = .rt w φ1 := by
  rw [st_cons, st_ret, h]; rfl
theorem q_retN : evalS gv fr call (.cons .sretN k) ρ φ = .rt .non φ := rfl
theorem q_for {is : List W} (h : evalE gv call e ρ φ = .ok u φ1) (hi : items u = some is) (hb : floop (fun w ρ φ => evalS gv fr call b (ρ.set i (.val w)) φ) is ρ φ1 = .nx ρ' φ2) : evalS gv fr call (.cons (.sfor i e b) k) ρ φ = evalS gv fr call k ρ' φ2 := by
  rw [st_cons, st_for, h, Out.toR_ok, hi]
  show (floop _ is ρ φ1).andThen _ = _
  rw [hb]; rfl
theorem q_frz (h : ρ[i]? = some (.own w)) : evalS gv fr call (.cons (.sfrz i) k) ρ φ = evalS gv fr call k (ρ.set i (.val w)) φ := by
  rw [st_cons, st_frz, h]; rfl
theorem q_out {r : Res} (h : r = .rt w φ) : r.out false = .ok w φ := by rw [h]; rfl
/-- a loop over items with an invariant: what is left, the names, the store -/
theorem floop_inv {b : W → Loc → Sto → Res} (I : Nat → Loc → Sto → Prop) : ∀ (is : List W) (n : Nat) (ρ : Loc) (φ : Sto), I n ρ φ →
    (∀ (m : Nat) (w : W) ρ φ, n ≤ m → is[m - n]? = some w → I m ρ φ → ∃ ρ' φ', (b w ρ φ = .nx ρ' φ' ∨ b w ρ φ = .ct ρ' φ') ∧ I (m + 1) ρ' φ') → ∃ ρ' φ', floop b is ρ φ = .nx ρ' φ' ∧ I (n + is.length) ρ' φ'
  | [], n, ρ, φ, h, _ => ⟨ρ, φ, rfl, h⟩
  | w :: is, n, ρ, φ, h, hs => by
    obtain ⟨ρ1, φ1, e, h1⟩ := hs n w ρ φ (Nat.le_refl _) (by rw [Nat.sub_self]; rfl) h
    obtain ⟨ρ2, φ2, e2, h2⟩ := floop_inv I is (n + 1) ρ1 φ1 h1 fun m v ρ φ hm hv => hs m v ρ φ (by omega) (by rw [show m - n = (m - (n + 1)) + 1 by omega, List.getElem?_cons_succ]; exact hv)
    refine ⟨ρ2, φ2, ?_, by rw [List.length_cons, show n + (is.length + 1) = n + 1 + is.length by omega]; exact h2⟩
    show (b w ρ φ).turn (floop b is) = _
    rcases e with e | e <;> (rw [e]; exact e2)
/-- a comprehension without a test: each element's outcome, the store -/
theorem compL_inv {c : W → Sto → Out Bool} {e : W → Sto → Out W} (F : Sto → Prop) (Q : W → Prop) (hc : ∀ w φ, c w φ = .ok true φ) : ∀ (is : List W) (φ : Sto), F φ →
    (∀ w ∈ is, ∀ φ, F φ → ∃ z φ', e w φ = .ok z φ' ∧ Q z ∧ F φ') → ∃ zs φ', compL c e is φ = .ok zs φ' ∧ (∀ z ∈ zs, Q z) ∧ zs.length = is.length ∧ F φ'
  | [], φ, h, _ => ⟨[], φ, rfl, fun z hz => (by cases hz), rfl, h⟩
  | w :: is, φ, h, hs => by
    obtain ⟨z, φ1, e1, q, h1⟩ := hs w List.mem_cons_self φ h
    obtain ⟨zs, φ2, e2, q2, l2, h2⟩ := compL_inv F Q hc is φ1 h1 fun v hv => hs v (List.mem_cons_of_mem _ hv)
    refine ⟨z :: zs, φ2, ?_, ?_, by simp [l2], h2⟩
    · show (c w φ).bind _ = _
      rw [hc]
      show (e w φ).bind _ = _
      rw [e1, Out.bind_ok, e2]; rfl
    · intro y hy
      rcases List.mem_cons.mp hy with rfl | hy
      · exact q
      · exact q2 y hy
theorem r_comp {x : Nat} {is zs : List W} (h : evalE gv call a ρ φ = .ok u φ1) (hi : items u = some is)
    (hc : compL (fun w φ' => .ok true φ') (fun w φ' => evalE gv call e (ρ.set x (.val w)) φ') is φ1 = .ok zs φ2) (hz : zs.length ≤ 1000000) : evalE gv call (.comp x a .nil e) ρ φ = .ok (.lst zs) φ2 := by
  show (evalE gv call a ρ φ).bind _ = _
  rw [h, Out.bind_ok, hi]
  show noExc ((compL (fun w φ' => .ok true φ') (fun w φ' => evalE gv call e (ρ.set x (.val w)) φ') is φ1).bind _) = _
  rw [hc, Out.bind_ok, if_pos (by rw [szl]; omega)]; rfl
end
end MP
/-! ### literals -/
namespace MP
open PySem
mutual
/-- the value of a literal -/
def constE : T → Option W
  | .int i => some (.int i)
  | .str s => some (.str s)
  | .bl b => some (.bl b)
  | .non => some .non
  | .neg a => (constE a).bind fun x => match x with
    | .int i => some (.int (-i))
    | _ => none
  | .bin op a b => (constE a).bind fun x => (constE b).bind fun y => opBin op x y
  | .tup es => (constEs es).bind fun ws => if ws.length ≤ 1000000 then some (.tup ws) else none
  | .lst es => (constEs es).bind fun ws => if ws.length ≤ 1000000 then some (.lst ws) else none
  | _ => none
def constEs : T → Option (List W)
  | .nil => some []
  | .cons a b => (constE a).bind fun x => (constEs b).map (x :: ·)
  | _ => none
end
section
variable {gv : Nat → Option W} {call : Calls} {ρ : Loc} {φ : Sto}
theorem const_both (t : T) : (∀ w, constE t = some w → evalE gv call t ρ φ = .ok w φ) ∧ (∀ ws, constEs t = some ws → evalEs gv call t ρ φ = .ok ws φ) := by
  induction t with
  | nil => exact ⟨fun w h => by simp [constE] at h, fun ws h => by simp [constEs] at h; subst h; rfl⟩
  | cons a b iha ihb =>
    refine ⟨fun w h => by simp [constE] at h, fun ws h => ?_⟩
    simp only [constEs, Option.bind_eq_some_iff, Option.map_eq_some_iff] at h
    obtain ⟨x, h1, xs, h2, rfl⟩ := h
    exact rs_cons (iha.1 x h1) (ihb.2 xs h2)
  | int i => exact ⟨fun w h => by simp [constE] at h; subst h; rfl, fun ws h => by simp [constEs] at h⟩
  | str i => exact ⟨fun w h => by simp [constE] at h; subst h; rfl, fun ws h => by simp [constEs] at h⟩
  | bl i => exact ⟨fun w h => by simp [constE] at h; subst h; rfl, fun ws h => by simp [constEs] at h⟩
  | non => exact ⟨fun w h => by simp [constE] at h; subst h; rfl, fun ws h => by simp [constEs] at h⟩
  | neg a iha =>
    refine ⟨fun w h => ?_, fun ws h => by simp [constEs] at h⟩
    simp only [constE, Option.bind_eq_some_iff] at h
    obtain ⟨x, h1, h2⟩ := h
    cases x <;> simp at h2
    subst h2
    exact r_neg (iha.1 _ h1)
  | bin op a b iha ihb =>
    refine ⟨fun w h => ?_, fun ws h => by simp [constEs] at h⟩
    simp only [constE, Option.bind_eq_some_iff] at h
    obtain ⟨x, h1, y, h2, h3⟩ := h
    exact r_bin (iha.1 _ h1) (ihb.1 _ h2) h3
  | tup es ih =>
    refine ⟨fun w h => ?_, fun ws h => by simp [constEs] at h⟩
    simp only [constE, Option.bind_eq_some_iff] at h
    obtain ⟨x, h1, h2⟩ := h
    split at h2
    · rename_i hl
      cases h2
      exact r_tup (ih.2 _ h1) hl
    · cases h2
  | lst es ih =>
    refine ⟨fun w h => ?_, fun ws h => by simp [constEs] at h⟩
    simp only [constE, Option.bind_eq_some_iff] at h
    obtain ⟨x, h1, h2⟩ := h
    split at h2
    · rename_i hl
      cases h2
      exact r_lst (ih.2 _ h1) hl
    · cases h2
  | _ => exact ⟨fun w h => by simp [constE] at h, fun ws h => by simp [constEs] at h⟩
theorem r_const {t : T} {w : W} (h : constE t = some w) : evalE gv call t ρ φ = .ok w φ := (const_both t).1 w h
theorem rs_const {t : T} {ws : List W} (h : constEs t = some ws) : evalEs gv call t ρ φ = .ok ws φ := (const_both t).2 ws h
end
end MP
/-! MP: repr of plain data is told, and is a text. -/
namespace MP
open PySem PySem.Builtin PySem.Builtin.Str
def okS (x : Str) : Prop := ∀ c ∈ x.cps.toList, c < 0x110000
theorem okS_app {x y : Str} (hx : okS x) (hy : okS y) : okS (x ++ y) := fun c hc => by
  have e : (x ++ y).cps.toList = x.cps.toList ++ y.cps.toList := by show (x.cps ++ y.cps).toList = _; exact Array.toList_append
  rw [e] at hc
  exact (List.mem_append.mp hc).elim (hx c) (hy c)
theorem char_lt (c : Char) : c.toNat < 0x110000 := by
  have h := c.valid
  have h2 : c.val.toNat < 0xD800 ∨ (0xDFFF < c.val.toNat ∧ c.val.toNat < 0x110000) := h
  show c.val.toNat < 0x110000
  omega
theorem okS_of (s : String) : okS (Str.ofString s) := fun c hc => by
  rw [Str.ofString_eq_toList] at hc
  simp only [List.mem_map] at hc
  obtain ⟨a, _, rfl⟩ := hc
  exact char_lt a
theorem okS_lit (s : String) : okS (s : Str) := okS_of s
theorem okS_join {sep : Str} (hs : okS sep) : ∀ ts : List Str, (∀ t ∈ ts, okS t) → okS (Str.join sep ts)
  | [], _ => fun c hc => by simp [Str.join, Str.empty] at hc
  | [x], h => h x List.mem_cons_self
  | x :: y :: r, h => okS_app (okS_app (h x List.mem_cons_self) hs) (okS_join hs (y :: r) fun t ht => h t (List.mem_cons_of_mem _ ht))
theorem okS_from : ∀ (ts : List Str) (k : Nat) (acc : Str), okS acc → (∀ t ∈ ts, okS t) → okS (textFrom k acc ts)
  | [], _, acc, h, _ => h
  | t :: r, k, acc, h, hr => okS_from r (k + 1) _ (okS_app (okS_app h (okS_of _)) (hr t List.mem_cons_self)) fun t ht => hr t (List.mem_cons_of_mem _ ht)
theorem reprChar_ok {q c d : Nat} (hc : c < 0x110000) (h : d ∈ reprChar q c) : d < 0x110000 := by
  have hx : ∀ w, ∀ e ∈ List.replicate (w - ((Nat.toDigits 16 c).map Char.toNat).length) 48 ++ (Nat.toDigits 16 c).map Char.toNat, e < 0x110000 := fun w e he => by
    rcases List.mem_append.mp he with he | he
    · rw [(List.mem_replicate.mp he).2]; decide
    · obtain ⟨a, _, rfl⟩ := List.mem_map.mp he
      exact char_lt a
  unfold reprChar at h
  dsimp only at h
  repeat' split at h
  all_goals simp only [List.mem_append, List.mem_cons, List.not_mem_nil, or_false] at h
  all_goals first
    | omega
    | (rcases h with h | h
       · omega
       · exact hx _ d (List.mem_append.mpr h))
theorem okS_repr {x : Str} (hx : okS x) : okS (reprText x) := by
  have key : ∀ (q : Nat) (l : List Nat) (acc : Array Nat), (∀ c ∈ l, c < 0x110000) → (∀ c ∈ acc.toList, c < 0x110000) → ∀ c ∈ (l.foldl (fun out c => out ++ (reprChar q c).toArray) acc).toList, c < 0x110000 := by
    intro q l
    induction l with
    | nil => intro acc _ h; exact h
    | cons a r ih =>
      intro acc h1 h2
      refine ih _ (fun c hc => h1 c (List.mem_cons_of_mem _ hc)) fun c hc => ?_
      rw [Array.toList_append] at hc
      rcases List.mem_append.mp hc with hc | hc
      · exact h2 c hc
      · exact reprChar_ok (h1 a List.mem_cons_self) hc
  intro c hc
  unfold reprText at hc
  have hc' : c ∈ ((x.cps.foldl (fun out c => out ++ (reprChar (reprQuote x) c).toArray) #[reprQuote x]).push (reprQuote x)).toList := hc
  have hq : reprQuote x < 0x110000 := by unfold reprQuote; split <;> decide
  rw [Array.toList_push, ← Array.foldl_toList] at hc'
  rcases List.mem_append.mp hc' with hc | hc
  · exact key _ _ _ hx (fun c hc => by simp at hc; omega) c hc
  · rw [List.mem_singleton.mp hc]; exact hq
mutual
/-- leaves: texts are good, numbers short -/
def lfOk : W → Bool
  | .non => true
  | .bl _ => true
  | .int i => decide (i.natAbs < 10 ^ 60)
  | .str s => s.all (· < 0x110000)
  | .tup ws => lfOks ws
  | .lst ws => lfOks ws
  | _ => false
def lfOks : List W → Bool
  | [] => true
  | w :: ws => lfOk w && lfOks ws
/-- a measure of the text of a value -/
def wsz : W → Nat
  | .str s => s.length + 1
  | .int _ => 201
  | .tup ws => wszs ws + 1
  | .lst ws => wszs ws + 1
  | _ => 1
def wszs : List W → Nat
  | [] => 0
  | w :: ws => wsz w + wszs ws
end
theorem int_len {i : Int} (h : i.natAbs < 10 ^ 60) : (PyData.shown (.int i)).length ≤ 64 := by
  have e := int_text_length_le10 (k := 60) (by decide) h
  show (Str.ofString (toString i)).length ≤ 64
  rw [ofString_length]; omega
theorem log_lt {n : Nat} (h : n < 10 ^ 60) : n.log2 < 200 := by
  by_cases h0 : n = 0
  · rw [h0]; decide
  · exact (Nat.log2_lt h0).mpr (Nat.lt_trans h (by decide))
mutual
theorem lf_facts : ∀ w : W, lfOk w = true → w.toD.showable = true ∧ w.toD.leavesShort 64 = true ∧ w.toD.weight + 1 ≤ wsz w ∧ okS w.toD.shown
  | .non, _ => ⟨rfl, rfl, by simp [W.toD, PyData.weight, wsz], okS_lit "None"⟩
  | .bl b, _ => ⟨rfl, rfl, by simp [W.toD, PyData.weight, wsz], by cases b <;> exact okS_of _⟩
  | .int i, h => by
    have h' : i.natAbs < 10 ^ 60 := by simpa [lfOk] using h
    have hl := log_lt h'
    refine ⟨by simp only [W.toD, PyData.showable, decide_eq_true_eq]; omega, by simp only [W.toD, PyData.leavesShort, decide_eq_true_eq]; exact int_len h', ?_, okS_of _⟩
    simp only [W.toD, PyData.weight, wsz]
    split <;> omega
  | .str s, h => by
    have h' : ∀ c ∈ s, c < 0x110000 := by simpa [lfOk] using h
    have hs : okS (toS s) := fun c hc => h' c (by simpa using hc)
    refine ⟨rfl, ?_, by simp [W.toD, PyData.weight, wsz], okS_repr hs⟩
    simp only [W.toD, PyData.leavesShort, List.all_eq_true, decide_eq_true_eq]
    intro c hc
    have := hs c hc
    have e : (16 : Nat) ^ 8 = 4294967296 := by decide
    omega
  | .tup ws, h => by
    obtain ⟨h1, h2, h3, h4⟩ := lfs_facts ws (by simpa [lfOk] using h)
    refine ⟨by simpa [W.toD, PyData.showable] using h1, by simpa [W.toD, PyData.leavesShort] using h2, by simp only [W.toD, PyData.weight, wsz]; omega, ?_⟩
    show okS (tupleText (PyData.shownAll (toDs ws)))
    unfold tupleText
    refine okS_app (okS_app (okS_of _) (okS_join (okS_of _) _ h4)) (okS_of _)
  | .lst ws, h => by
    obtain ⟨h1, h2, h3, h4⟩ := lfs_facts ws (by simpa [lfOk] using h)
    refine ⟨by simpa [W.toD, PyData.showable] using h1, by simpa [W.toD, PyData.leavesShort] using h2, by simp only [W.toD, PyData.weight, wsz]; omega, ?_⟩
    show okS (listText (PyData.shownAll (toDs ws)))
    unfold listText
    exact okS_app (okS_from _ _ _ (okS_of _) h4) (okS_of _)
  | .dct _, h => by simp [lfOk] at h
  | .ins _ _, h => by simp [lfOk] at h
  | .obj _, h => by simp [lfOk] at h
theorem lfs_facts : ∀ ws : List W, lfOks ws = true → PyData.showableAll (toDs ws) = true ∧ PyData.leavesShortAll 64 (toDs ws) = true ∧ PyData.weightAll (toDs ws) ≤ wszs ws ∧ ∀ t ∈ PyData.shownAll (toDs ws), okS t
  | [], _ => ⟨rfl, rfl, by simp [toDs, PyData.weightAll], fun t ht => by simp [toDs, PyData.shownAll] at ht⟩
  | w :: ws, h => by
    have h' : lfOk w = true ∧ lfOks ws = true := by simpa [lfOks] using h
    obtain ⟨a1, a2, a3, a4⟩ := lf_facts w h'.1
    obtain ⟨b1, b2, b3, b4⟩ := lfs_facts ws h'.2
    refine ⟨by simp [toDs, PyData.showableAll, a1, b1], by simp [toDs, PyData.leavesShortAll, a2, b2], by simp only [toDs, PyData.weightAll, wszs]; omega, fun t ht => ?_⟩
    have ht' : t = w.toD.shown ∨ t ∈ PyData.shownAll (toDs ws) := by simpa [toDs, PyData.shownAll] using ht
    rcases ht' with rfl | ht
    · exact a4
    · exact b4 t ht
end
/-- repr of plain data -/
theorem repr_told {w : W} (hd : w.okD 62 = true) (hl : lfOk w = true) (hw : wsz w ≤ 200000) : ∃ s, opBlt .repr w = some (.str s) ∧ s.all (· < 0x110000) = true := by
  obtain ⟨h1, h2, h3, h4⟩ := lf_facts w hl
  have hs := PyData.shown_le 64 (by decide) w.toD h2
  have hb : bigOk w = true := by
    unfold bigOk
    rw [hd, h1, Bool.and_self, Bool.true_and, decide_eq_true_eq, szl]
    have : (64 + 2) * w.toD.weight ≤ 66 * 200000 := Nat.mul_le_mul (Nat.le_refl _) (by omega)
    omega
  refine ⟨w.toD.shown.cps.toList, ?_, ?_⟩
  · have e : opBlt .repr w = if bigOk w then some (.str w.toD.shown.cps.toList) else none := by cases w <;> rfl
    rw [e, if_pos hb]
  · rw [List.all_eq_true]
    exact fun c hc => by simpa using h4 c hc
end MP
/-! MP: rules for runs with enumerate, raise, try, sorted items. -/
namespace MP
open PySem
section
variable {gv : Nat → Option W} {fr : Nat → Bool} {call : Calls} {ρ ρ' : Loc} {φ φ1 φ2 φ3 : Sto} {a b c e k es : T} {i j : Nat} {u v w : W} {ws us : List W}
theorem r_revT {xs : List W} (h : evalE gv call a ρ φ = .ok (.tup xs) φ1) : evalE gv call (.revT a) ρ φ = .ok (.tup xs.reverse) φ1 := by
  show (evalE gv call a ρ φ).bind _ = _
  rw [h]; rfl
theorem r_sortI {kvs : List (DK × W)} {ps : List (List Nat × List Nat)} (h : ρ[i]? = some (.own (.dct kvs))) (hp : strKV kvs = some ps) : evalE gv call (.sortI i) ρ φ = .ok (.lst ((sortP ps).map fun p => .tup [.str p.1, .str p.2])) φ := by
  show (match ρ[i]? with
    | some (.own (.dct kvs)) => Out.ofO ((strKV kvs).map fun ps => W.lst ((sortP ps).map fun (p : List Nat × List Nat) => W.tup [.str p.1, .str p.2])) φ
    | _ => .bad) = _
  rw [h]
  show Out.ofO ((strKV kvs).map _) φ = _
  rw [hp]; rfl
/-- the turns of a for over enumerate -/
noncomputable def enF (gv : Nat → Option W) (fr : Nat → Bool) (call : Calls) (is : List Nat) (b : T) : W → Loc → Sto → Res := fun w ρ φ => match (elems w).bind fun us => setAll is us ρ with
  | some ρ' => evalS gv fr call b ρ' φ
  | none => .bad
theorem st_forE {is : List Nat} {xs : List W} (h : evalE gv call a ρ φ = .ok u φ1) (hi : opEnum u = some xs) : evalS gv fr call (.sforE is a b) ρ φ = floop (enF gv fr call is b) xs ρ φ1 := by
  show (evalE gv call a ρ φ).toR ρ _ = _
  rw [h]
  show (match opEnum u with
    | some ws => floop (enF gv fr call is b) ws ρ φ1
    | none => .bad) = _
  rw [hi]
theorem q_rais {r : Nat} (h : evalEs gv call es ρ φ = .ok ws φ1) : evalS gv fr call (.cons (.srais r es) k) ρ φ = .ex (.ins r ws.reverse) ρ φ1 := by
  rw [st_cons]
  show ((evalEs gv call es ρ φ).toR ρ _).andThen _ = _
  rw [h]; rfl
theorem q_stop {x : W} (h : evalS gv fr call a ρ φ = .ex x ρ' φ1) : evalS gv fr call (.cons a k) ρ φ = .ex x ρ' φ1 := by rw [st_cons, h]; rfl
theorem q_rt (h : evalS gv fr call a ρ φ = .rt w φ1) : evalS gv fr call (.cons a k) ρ φ = .rt w φ1 := by rw [st_cons, h]; rfl
theorem q_nx (h : evalS gv fr call a ρ φ = .nx ρ' φ1) : evalS gv fr call (.cons a k) ρ φ = evalS gv fr call k ρ' φ1 := by rw [st_cons, h]; rfl
theorem st_try_rt {yes no : List Nat} {hs : List HIt} (h : evalS gv fr call b ρ φ = .rt w φ1) : evalS gv fr call (.stry yes no i b hs) ρ φ = .rt w φ1 := by
  show (match evalS gv fr call b ρ φ with
    | .ex (.ins k fs) ρ' φ' => _
    | .ex _ _ _ => _
    | r => r) = _
  rw [h]
theorem st_try_yes {yes no : List Nat} {hs : List HIt} {r : Nat} {fs : List W} (h : evalS gv fr call b ρ φ = .ex (.ins r fs) ρ' φ1) (hi : i < ρ'.length) (hk : r ∈ yes) (hx : hItems fs hs = some ws) (hl : ws.length ≤ 1000) : evalS gv fr call (.stry yes no i b hs) ρ φ = .rt (.tup ws) φ1 := by
  show (match evalS gv fr call b ρ φ with
    | .ex (.ins k fs) ρ' φ' => if i < ρ'.length ∧ k ∈ yes then (match hItems fs hs with
        | some ws => if ws.length ≤ 1000 then Res.rt (.tup ws) φ' else .bad
        | none => .bad)
      else if k ∈ no ∧ k ∉ yes then .ex (.ins k fs) ρ' φ' else .bad
    | .ex _ _ _ => .bad
    | r => r) = _
  rw [h]
  show (if i < ρ'.length ∧ r ∈ yes then _ else _) = _
  rw [if_pos ⟨hi, hk⟩, hx]
  exact if_pos hl
theorem q_down {kvs : List (DK × W)} {l : DK} {z y : W} (h0 : ρ[i]? = some (.own (.dct kvs))) (h : evalE gv call e ρ φ = .ok z φ1) (h2 : evalE gv call b ρ φ1 = .ok y φ2) (hk : keyOf y = some l) (hl : kvs.length < 1000000) :
    evalS gv fr call (.cons (.sdown i b e) k) ρ φ = evalS gv fr call k (ρ.set i (.own (.dct (putK' kvs l z)))) φ2 := by
  refine q_nx ?_
  show (match ρ[i]? with
    | some (.own (.dct kvs)) => (evalE gv call e ρ φ).toR ρ fun z φ1 => (evalE gv call b ρ φ1).toR ρ fun y φ2 => match keyOf y with
      | some l => if kvs.length < sizeLine then .nx (ρ.set i (.own (.dct (putK' kvs l z)))) φ2 else .bad
      | none => .bad
    | _ => .bad) = _
  rw [h0]
  show (evalE gv call e ρ φ).toR ρ _ = _
  rw [h]
  show (evalE gv call b ρ φ1).toR ρ _ = _
  rw [h2]
  show (match keyOf y with
      | some l => if kvs.length < sizeLine then Res.nx (ρ.set i (.own (.dct (putK' kvs l z)))) φ2 else .bad
      | none => .bad) = _
  rw [hk]
  exact if_pos (by rw [show sizeLine = 16777216 by decide]; omega)
theorem q_sorti {ρ2 : Loc} {is : List W} (h : evalE gv call a ρ φ = .ok u φ1) (hi : items u = some is) (hb : floop (fun w ρ φ => evalS gv fr call b (ρ.set i (.val w)) φ) is ρ φ1 = .rt w φ2) : evalS gv fr call (.cons (.sfor i a b) k) ρ φ = .rt w φ2 := by
  refine q_rt ?_
  rw [st_for, h, Out.toR_ok, hi]
  exact hb
/-- an expression that raises -/
theorem r_exc_tup {x : W} (h : evalEs gv call es ρ φ = .exc x φ1) : evalE gv call (.tup es) ρ φ = .exc x φ1 := by
  rw [ev_tup, h]; rfl
theorem rs_exc1 {x : W} (h : evalE gv call a ρ φ = .exc x φ1) : evalEs gv call (.cons a b) ρ φ = .exc x φ1 := by
  rw [es_cons, h]; rfl
theorem rs_exc2 {x : W} (h : evalE gv call a ρ φ = .ok w φ1) (h2 : evalEs gv call b ρ φ1 = .exc x φ2) : evalEs gv call (.cons a b) ρ φ = .exc x φ2 := by
  rw [es_cons, h, Out.bind_ok, h2]; rfl
theorem r_exc_call {x : W} {f : Nat} (h : evalEs gv call es ρ φ = .ok ws φ1) (h2 : call f ws φ1 = .exc x φ2) : evalE gv call (.call f es) ρ φ = .exc x φ2 := by
  rw [ev_call, h, Out.bind_ok, h2]
theorem q_exc_ret {x : W} (h : evalE gv call e ρ φ = .exc x φ1) : evalS gv fr call (.cons (.sret e) k) ρ φ = .ex x ρ φ1 := by
  rw [st_cons, st_ret, h]; rfl
theorem q_set_exc {x : W} (h : evalE gv call e ρ φ = .exc x φ1) : evalS gv fr call (.cons (.sset i e) k) ρ φ = .ex x ρ φ1 := by
  rw [st_cons, st_set, h]; rfl
/-- a loop that walks until one turn stops: the turns before pass on -/
theorem floop_stop {b : W → Loc → Sto → Res} {w : W} {r : Res} {ws : List W} (h : b w ρ φ = r) (hs : (∃ x ρ1 φ1, r = .ex x ρ1 φ1) ∨ ∃ x φ1, r = .rt x φ1) : floop b (w :: ws) ρ φ = r := by
  show (b w ρ φ).turn _ = _
  rw [h]
  rcases hs with ⟨_, _, _, rfl⟩ | ⟨_, _, rfl⟩ <;> rfl
theorem floop_go {b : W → Loc → Sto → Res} {w : W} {ws : List W} (h : b w ρ φ = .nx ρ' φ1) : floop b (w :: ws) ρ φ = floop b ws ρ' φ1 := by
  show (b w ρ φ).turn _ = _
  rw [h]; rfl
end
end MP
/-! the IR of K02 (printed by gen.py) -/
namespace K02
open MP PySem PySem.Spec PyProof.Rows
def b_name_end : T := (.cons (.sset 2 (.var 1)) (.cons (.swhile (.andN (.cons (.cmp .lt (.var 2) (.blt .len (.var 0))) (.cons (.cmp .lt (.var 2) (.bin .add (.var 1) (.int 8))) (.cons (.cmp .isin (.idx (.var 0) (.var 2)) (.glob 0)) .nil))))
      (.cons (.sset 2 (.bin .add (.var 2) (.int 1))) .nil)) (.cons (.sret (.var 2)) .nil)))
def b_arrow_end : T := (.cons (.sset 2 (.int 0)) (.cons (.swhile (.andN (.cons (.cmp .lt (.var 2) (.blt .len (.glob 1))) (.cons (.cmp .eq (.slc (.var 0) (.bin .add (.var 1) (.var 2)) (.bin .add (.bin .add (.var 1) (.var 2)) (.int 1))) (.idx (.glob 1) (.var 2))) .nil)))
      (.cons (.sset 2 (.bin .add (.var 2) (.int 1))) .nil)) (.cons (.sret (.bin .add (.var 1) (.var 2))) .nil)))
def b_kind_end : T := (.cons (.sset 2 (.str [46])) (.cons (.swhile (.bl true)
      (.cons (.swhile (.cmp .eq (.slc (.var 0) (.var 1) (.bin .add (.var 1) (.int 1))) (.str [40]))
      (.cons (.sset 2 (.bin .add (.var 2) (.str [46]))) (.cons (.sset 1 (.bin .add (.var 1) (.int 1))) .nil))) (.cons (.sset 3 (.call 0 (.cons (.var 0) (.cons (.var 1) .nil)))) (.cons (.sif (.cmp .eq (.var 3) (.var 1))
      (.cons (.sret (.tup (.cons (.var 1) (.cons (.bl false) .nil)))) .nil)
      .nil) (.cons (.sset 1 (.var 3)) (.cons (.sif (.cmp .eq (.var 1) (.blt .len (.var 0)))
      (.cons (.sret (.tup (.cons (.var 1) (.cons (.cmp .eq (.blt .len (.var 2)) (.int 1)) .nil)))) .nil)
      .nil) (.cons (.sif (.andN (.cons (.cmp .eq (.idx (.var 0) (.var 1)) (.str [41])) (.cons (.cmp .gt (.blt .len (.var 2)) (.int 1)) (.cons (.cmp .eq (.idx (.var 2) (.neg (.int 1))) (.str [43])) .nil))))
      (.cons (.sset 2 (.slc (.var 2) .nil (.neg (.int 1)))) (.cons (.sset 1 (.bin .add (.var 1) (.int 1))) .nil))
      .nil) (.cons (.sset 3 (.call 1 (.cons (.var 0) (.cons (.var 1) .nil)))) (.cons (.sif (.cmp .lt (.var 3) (.bin .add (.var 1) (.blt .len (.glob 1))))
      (.cons (.sret (.tup (.cons (.var 3) (.cons (.bl false) .nil)))) .nil)
      .nil) (.cons (.sset 2 (.bin .add (.slc (.var 2) .nil (.neg (.int 1))) (.str [43]))) (.cons (.sset 1 (.var 3)) .nil))))))))))) .nil))
def b_is_name : T := (.cons (.sret (.andN (.cons (.isi (.var 0) .str) (.cons (.cmp .gt (.blt .len (.var 0)) (.int 0)) (.cons (.cmp .eq (.call 0 (.cons (.var 0) (.cons (.int 0) .nil))) (.blt .len (.var 0))) .nil))))) .nil)
def b_is_kind : T := (.cons (.sret (.andN (.cons (.isi (.var 0) .str) (.cons (.idx (.call 2 (.cons (.var 0) (.cons (.int 0) .nil))) (.int 1)) .nil)))) .nil)
def b_is_entry : T := (.cons (.sret (.andN (.cons (.isi (.var 0) .tuple) (.cons (.cmp .eq (.blt .len (.var 0)) (.int 2)) (.cons (.call 3 (.cons (.idx (.var 0) (.int 0)) .nil)) (.cons (.call 4 (.cons (.idx (.var 0) (.int 1)) .nil)) .nil)))))) .nil)
def b_lets_book : T := (.cons (.sif (.not (.isi (.var 0) .tuple))
      (.cons (.srais 0 (.cons (.str [115, 104, 97, 112, 101]) (.cons (.neg (.int 1)) .nil))) .nil)
      .nil) (.cons (.sforE [1, 2] (.var 0)
      (.cons (.sif (.not (.call 5 (.cons (.var 2) .nil)))
      (.cons (.srais 0 (.cons (.str [101, 110, 116, 114, 121]) (.cons (.var 1) .nil))) .nil)
      .nil) (.cons (.sif (.andN (.cons (.cmp .gt (.var 1) (.int 0)) (.cons (.not (.cmp .gt (.idx (.var 2) (.int 0)) (.idx (.idx (.var 0) (.bin .sub (.var 1) (.int 1))) (.int 0)))) .nil)))
      (.cons (.srais 0 (.cons (.str [111, 114, 100, 101, 114]) (.cons (.var 1) .nil))) .nil)
      .nil) .nil))) (.cons (.sret (.blt .len (.var 0))) .nil)))
def b__law_begun : T := (.cons (.sret (.dnew [[99, 101, 108, 108, 115], [110, 101, 120, 116], [108, 101, 102, 116], [99, 111, 117, 110, 116]] (.cons (.comp 1 (.slc (.var 0) .nil (.int 63)) .nil (.blt .int (.var 1))) (.cons (.int 0) (.cons (.int 0) (.cons (.int 0) .nil)))))) .nil)
def b__law_draw : T := (.cons (.sdput (.var 0) (.str [99, 111, 117, 110, 116]) (.bin .add (.dget (.var 0) (.str [99, 111, 117, 110, 116])) (.int 1))) (.cons (.sif (.cmp .gt (.dget (.var 0) (.str [108, 101, 102, 116])) (.int 0))
      (.cons (.sset 5 (.bin .mod (.blt .int (.dget (.var 0) (.str [108, 101, 102, 116]))) (.var 1))) (.cons (.sdput (.var 0) (.str [108, 101, 102, 116]) (.bin .fdiv (.dget (.var 0) (.str [108, 101, 102, 116])) (.var 1))) (.cons (.sret (.var 5)) .nil)))
      .nil) (.cons (.sset 2 (.dget (.var 0) (.str [110, 101, 120, 116]))) (.cons (.sdput (.var 0) (.str [110, 101, 120, 116]) (.bin .add (.var 2) (.int 1))) (.cons (.sset 3 (.ife (.cmp .ne (.dget (.var 0) (.str [99, 101, 108, 108, 115])) (.lst .nil)) (.idx (.dget (.var 0) (.str [99, 101, 108, 108, 115])) (.bin .mod (.blt .int (.var 2)) (.blt .len (.dget (.var 0) (.str [99, 101, 108, 108, 115]))))) (.int 424243))) (.cons (.sif (.andN (.cons (.cmp .ge (.var 3) (.bin .pow (.int 10) (.int 18))) (.cons (.cmp .lt (.var 2) (.blt .len (.dget (.var 0) (.str [99, 101, 108, 108, 115])))) .nil)))
      (.cons (.sdput (.var 0) (.str [108, 101, 102, 116]) (.bin .fdiv (.var 3) (.var 1))) (.cons (.sret (.bin .mod (.blt .int (.var 3)) (.var 1))) .nil))
      .nil) (.cons (.sset 4 (.bin .mod (.blt .int (.bin .add (.bin .add (.bin .mod (.blt .int (.var 3)) (.int 982451653)) (.bin .mul (.int 6700417) (.dget (.var 0) (.str [99, 111, 117, 110, 116])))) (.int 29))) (.int 2147483647))) (.cons (.sset 4 (.bin .mod (.blt .int (.bin .add (.bin .add (.bin .mul (.var 4) (.var 4)) (.bin .mul (.int 15487469) (.dget (.var 0) (.str [99, 111, 117, 110, 116])))) (.int 211))) (.int 2147483629))) (.cons (.sret (.bin .mod (.blt .int (.bin .fdiv (.bin .mod (.blt .int (.bin .add (.bin .mul (.var 4) (.var 4)) (.bin .mul (.int 577) (.var 4)))) (.int 2147483587)) (.int 32))) (.var 1))) .nil)))))))))
def b__law_pick : T := (.cons (.sret (.idx (.var 1) (.call 8 (.cons (.var 0) (.cons (.blt .len (.var 1)) .nil))))) .nil)
def b__law_title : T := (.cons (.sif (.cmp .eq (.call 8 (.cons (.var 0) (.cons (.int 2) .nil))) (.int 0))
      (.cons (.sret (.call 9 (.cons (.var 0) (.cons (.lst (.cons (.str [97]) (.cons (.str [98]) (.cons (.str [102]) (.cons (.str [103]) (.cons (.str [102, 97]) (.cons (.str [102, 97, 97]) (.cons (.str [122]) (.cons (.str [122, 122, 122, 122, 122, 122, 122, 122]) (.cons (.str [97, 98, 99, 100, 101, 102, 103, 104]) (.cons (.str [112]) (.cons (.str [99, 97, 108, 108]) (.cons (.str [102, 117, 110]) .nil))))))))))))) .nil)))) .nil)
      .nil) (.cons (.sret (.join (.str []) (.comp 1 (.rng1 (.bin .add (.int 1) (.call 8 (.cons (.var 0) (.cons (.idx (.lst (.cons (.int 1) (.cons (.int 2) (.cons (.int 3) (.cons (.int 8) .nil))))) (.call 8 (.cons (.var 0) (.cons (.int 4) .nil)))) .nil))))) .nil (.call 9 (.cons (.var 0) (.cons (.str [97, 98, 102, 103, 122]) .nil)))))) .nil))
def b__law_tree : T := (.cons (.spar [3, 4] (.cons (.lst .nil) (.cons (.bin .sub (.var 1) (.int 1)) .nil))) (.cons (.sfor 2 (.rng1 (.var 1))
      (.cons (.sif (.cmp .gt (.var 4) (.int 0))
      (.cons (.sset 5 (.bin .add (.int 1) (.call 8 (.cons (.var 0) (.cons (.var 4) .nil))))) (.cons (.sapp 3 (.call 11 (.cons (.var 0) (.cons (.var 5) .nil)))) (.cons (.sset 4 (.bin .sub (.var 4) (.var 5))) .nil)))
      .nil) .nil)) (.cons (.sret (.tup (.cons (.blt .tuple (.own 3)) (.cons (.call 9 (.cons (.var 0) (.cons (.lst (.cons (.str [112]) (.cons (.str [113]) (.cons (.str [112]) (.cons (.str [113]) (.cons (.str [114]) (.cons (.str [115]) (.cons (.str [112, 112]) (.cons (.str [97, 98, 99, 100, 101, 102, 103, 104]) .nil))))))))) .nil))) .nil)))) .nil)))
def b__law_spelled : T := (.cons (.sset 1 (.lst .nil)) (.cons (.sfor 2 (.idx (.var 0) (.int 0))
      (.cons (.sapp 1 (.ife (.cmp .ne (.idx (.var 2) (.int 0)) (.tup .nil)) (.bin .add (.bin .add (.str [40]) (.call 12 (.cons (.var 2) .nil))) (.str [41])) (.idx (.var 2) (.int 1)))) .nil)) (.cons (.sret (.join (.str [32, 45, 62, 32]) (.bin .add (.own 1) (.lst (.cons (.idx (.var 0) (.int 1)) .nil))))) .nil)))
def b__law_is_title : T := (.cons (.sif (.orN (.cons (.not (.isi (.var 0) .str)) (.cons (.not (.chn .le .le (.int 1) (.blt .len (.var 0)) (.int 8))) .nil)))
      (.cons (.sret (.bl false)) .nil)
      .nil) (.cons (.sret (.cmp .eq (.comp 1 (.var 0) (.cmp .notin (.var 1) (.str [97, 98, 99, 100, 101, 102, 103, 104, 105, 106, 107, 108, 109, 110, 111, 112, 113, 114, 115, 116, 117, 118, 119, 120, 121, 122])) (.var 1)) (.lst .nil))) .nil))
def b__law_pieces : T := (.cons (.spar [2, 3, 4, 5] (.cons (.lst .nil) (.cons (.int 0) (.cons (.int 0) (.cons (.int 0) .nil))))) (.cons (.sfor 1 (.rng1 (.blt .len (.var 0)))
      (.cons (.sif (.cmp .gt (.var 5) (.int 0))
      (.cons (.sset 5 (.bin .sub (.var 5) (.int 1))) .nil)
      (.cons (.sif (.andN (.cons (.cmp .eq (.var 4) (.int 0)) (.cons (.cmp .eq (.slc (.var 0) (.var 1) (.bin .add (.var 1) (.int 4))) (.str [32, 45, 62, 32])) .nil)))
      (.cons (.sapp 2 (.slc (.var 0) (.var 3) (.var 1))) (.cons (.spar [3, 5] (.cons (.bin .add (.var 1) (.int 4)) (.cons (.int 3) .nil))) .nil))
      (.cons (.sif (.cmp .isin (.idx (.var 0) (.var 1)) (.str [40, 41]))
      (.cons (.sset 4 (.bin .add (.var 4) (.ife (.cmp .eq (.idx (.var 0) (.var 1)) (.str [40])) (.int 1) (.neg (.int 1))))) .nil)
      .nil) .nil)) .nil)) .nil)) (.cons (.sret (.bin .add (.own 2) (.lst (.cons (.slc (.var 0) (.var 3) .nil) .nil)))) .nil)))
def b__law_parsed : T := (.cons (.sif (.not (.isi (.var 0) .str))
      (.cons (.sret .non) .nil)
      .nil) (.cons (.spar [2, 3] (.cons (.lst .nil) (.cons (.call 14 (.cons (.var 0) .nil)) .nil))) (.cons (.sif (.not (.call 13 (.cons (.idx (.own 3) (.neg (.int 1))) .nil)))
      (.cons (.sret .non) .nil)
      .nil) (.cons (.sfor 1 (.slc (.own 3) .nil (.neg (.int 1)))
      (.cons (.sset 4 (.tup (.cons (.tup .nil) (.cons (.var 1) .nil)))) (.cons (.sif (.not (.call 13 (.cons (.var 1) .nil)))
      (.cons (.sset 4 (.ife (.andN (.cons (.cmp .eq (.slc (.var 1) .nil (.int 1)) (.str [40])) (.cons (.cmp .eq (.slc (.var 1) (.neg (.int 1)) .nil) (.str [41])) .nil))) (.call 15 (.cons (.slc (.var 1) (.int 1) (.neg (.int 1))) .nil)) .non)) (.cons (.sif (.orN (.cons (.cmp .isnone (.var 4) .non) (.cons (.cmp .eq (.idx (.var 4) (.int 0)) (.tup .nil)) .nil)))
      (.cons (.sret .non) .nil)
      .nil) .nil))
      .nil) (.cons (.sapp 2 (.var 4)) .nil)))) (.cons (.sret (.tup (.cons (.blt .tuple (.own 2)) (.cons (.idx (.own 3) (.neg (.int 1))) .nil)))) .nil)))))
def b__law_strange : T := (.cons (.sset 1 (.lst (.cons (.int 0) (.cons (.int 1) (.cons (.neg (.int 1)) (.cons (.bl true) (.cons (.bl false) (.cons .non (.cons (.str []) (.cons (.str [97]) (.cons (.str [65]) (.cons (.str [112, 32, 45, 62, 32, 113]) (.cons (.str [112, 45, 62, 113]) (.cons (.str [40, 112, 41]) (.cons (.str [40, 112, 32, 45, 62, 32, 113, 41]) (.cons (.str [112, 32, 45, 62, 32, 40, 112, 32, 45, 62, 32, 113, 41]) (.cons (.tup .nil) .nil))))))))))))))))) (.cons (.sext 1 (.lst (.cons (.lst .nil) (.cons (.tup (.cons (.str [97]) .nil)) (.cons (.lst (.cons (.str [97]) (.cons (.str [112]) .nil))) (.cons (.tup (.cons (.str [97]) (.cons (.str [112]) .nil))) (.cons (.tup (.cons (.str [97]) (.cons (.str [80]) .nil))) (.cons (.tup (.cons (.str [97]) (.cons (.str [112]) (.cons (.str [113]) .nil)))) (.cons (.tup (.cons (.tup (.cons (.str [97]) (.cons (.str [112]) .nil))) .nil)) (.cons (.lst (.cons (.tup (.cons (.str [97]) (.cons (.str [112]) .nil))) .nil)) (.cons (.str [112, 32]) .nil))))))))))) (.cons (.sext 1 (.lst (.cons (.str [32, 112]) (.cons (.str [112, 32, 45, 62, 32]) (.cons (.str [32, 45, 62, 32, 112]) (.cons (.str [112, 32, 32, 45, 62, 32, 113]) (.cons (.str [97, 98, 99, 100, 101, 102, 103, 104, 105]) (.cons (.str [112, 32, 45, 62, 32, 113, 32, 45, 62, 32, 114]) (.cons (.bin .pow (.int 10) (.int 59)) (.cons (.str [40, 112, 32, 45, 62, 32, 113, 41, 32, 45, 62, 32, 114]) (.cons (.tup (.cons (.str [112]) (.cons (.str [112]) .nil))) .nil))))))))))) (.cons (.sext 1 (.lst (.cons (.tup (.cons (.str [99, 97, 108, 108]) (.cons (.str [97]) (.cons (.tup (.cons (.str [97]) .nil)) .nil)))) (.cons (.tup (.cons (.str [99, 97, 108, 108]) (.cons (.str [97]) (.cons (.tup .nil) .nil)))) (.cons (.tup (.cons (.str [102, 117, 110]) (.cons (.tup (.cons (.tup (.cons (.str [120]) (.cons (.str [112]) .nil))) .nil)) (.cons (.str [120]) .nil)))) (.cons (.tup (.cons (.str [102, 117, 110]) (.cons (.tup .nil) (.cons (.str [120]) .nil)))) (.cons (.str [99, 97, 108, 108]) .nil))))))) (.cons (.sext 1 (.lst (.cons (.tup (.cons (.int 0) (.cons (.tup .nil) .nil))) (.cons (.tup (.cons (.str [102]) (.cons (.tup (.cons (.tup (.cons (.int 0) (.cons (.tup .nil) .nil))) .nil)) .nil))) (.cons (.tup (.cons (.bl true) (.cons (.tup .nil) .nil))) (.cons (.tup (.cons (.neg (.int 1)) (.cons (.tup .nil) .nil))) (.cons (.tup (.cons (.str [102]) (.cons (.lst .nil) .nil))) .nil))))))) (.cons (.sext 1 (.lst (.cons (.tup (.cons (.tup (.cons (.str [112]) (.cons (.str [113]) .nil))) (.cons (.str [112]) .nil))) (.cons (.tup (.cons (.tup (.cons (.str [113]) (.cons (.str [112]) .nil))) (.cons (.str [112]) .nil))) (.cons (.tup (.cons (.tup .nil) (.cons (.str [112]) .nil))) (.cons (.tup (.cons (.tup (.cons (.str [112]) .nil)) (.cons (.str [112, 32, 45, 62, 32, 113]) .nil))) (.cons (.str [112, 32, 45, 62, 32, 113, 10]) (.cons (.str [40, 41]) (.cons (.str [97, 49]) .nil))))))))) (.cons (.sapp 1 (.str [40, 40, 112, 32, 45, 62, 32, 113, 41, 32, 45, 62, 32, 114, 41])) (.cons (.sfrz 1) (.cons (.sret (.call 9 (.cons (.var 0) (.cons (.var 1) .nil)))) .nil)))))))))
def b__law_spoilt : T := (.cons (.sif (.andN (.cons (.isi (.var 1) .tuple) (.cons (.cmp .ne (.var 1) (.tup .nil)) (.cons (.cmp .gt (.call 8 (.cons (.var 0) (.cons (.int 6) .nil))) (.int 0)) .nil))))
      (.cons (.sset 3 (.call 8 (.cons (.var 0) (.cons (.blt .len (.var 1)) .nil)))) (.cons (.sret (.bin .add (.bin .add (.slc (.var 1) .nil (.var 3)) (.tup (.cons (.call 17 (.cons (.var 0) (.cons (.idx (.var 1) (.var 3)) .nil))) .nil))) (.slc (.var 1) (.bin .add (.var 3) (.int 1)) .nil))) .nil))
      .nil) (.cons (.sset 2 (.call 8 (.cons (.var 0) (.cons (.int 8) .nil)))) (.cons (.sif (.andN (.cons (.isi (.var 1) .tuple) (.cons (.cmp .lt (.var 2) (.int 6)) .nil)))
      (.cons (.sset 3 (.call 8 (.cons (.var 0) (.cons (.bin .add (.blt .len (.var 1)) (.int 1)) .nil)))) (.cons (.sif (.cmp .eq (.var 2) (.int 0))
      (.cons (.sret (.blt .list (.var 1))) .nil)
      .nil) (.cons (.sif (.cmp .eq (.var 2) (.int 1))
      (.cons (.sret (.bin .add (.slc (.var 1) .nil (.var 3)) (.slc (.var 1) (.bin .add (.var 3) (.int 1)) .nil))) .nil)
      .nil) (.cons (.sif (.cmp .eq (.var 2) (.int 2))
      (.cons (.sret (.bin .add (.bin .add (.slc (.var 1) .nil (.var 3)) (.slc (.var 1) (.var 3) (.bin .add (.var 3) (.int 1)))) (.slc (.var 1) (.var 3) .nil))) .nil)
      .nil) (.cons (.sret (.ife (.cmp .eq (.var 2) (.int 3)) (.bin .add (.slc (.var 1) (.var 3) .nil) (.slc (.var 1) .nil (.var 3))) (.bin .add (.var 1) (.tup (.cons (.call 16 (.cons (.var 0) .nil)) .nil))))) .nil)))))
      .nil) (.cons (.sif (.andN (.cons (.isi (.var 1) .str) (.cons (.cmp .lt (.var 2) (.int 6)) .nil)))
      (.cons (.sset 3 (.call 8 (.cons (.var 0) (.cons (.bin .add (.blt .len (.var 1)) (.int 1)) .nil)))) (.cons (.sset 4 (.call 9 (.cons (.var 0) (.cons (.lst (.cons (.str [97]) (.cons (.str [122]) (.cons (.str [40]) (.cons (.str [41]) (.cons (.str [32]) (.cons (.str [45]) (.cons (.str [62]) (.cons (.str [32, 45, 62, 32]) (.cons (.str []) (.cons (.str [65]) (.cons (.str [58]) (.cons (.str [10]) (.cons (.str [112, 32, 45, 62, 32]) .nil)))))))))))))) .nil)))) (.cons (.sret (.bin .add (.bin .add (.slc (.var 1) .nil (.var 3)) (.var 4)) (.slc (.var 1) (.bin .add (.var 3) (.bin .fdiv (.var 2) (.int 3))) .nil))) .nil)))
      .nil) (.cons (.sret (.call 16 (.cons (.var 0) .nil))) .nil)))))
def b__law_entries : T := (.cons (.sset 2 .dempty) (.cons (.sfor 3 (.rng1 (.var 1))
      (.cons (.sdown 2 (.call 10 (.cons (.var 0) .nil)) (.call 12 (.cons (.call 11 (.cons (.var 0) (.cons (.call 9 (.cons (.var 0) (.cons (.lst (.cons (.int 1) (.cons (.int 1) (.cons (.int 2) (.cons (.int 3) (.cons (.int 5) .nil)))))) .nil))) .nil))) .nil))) .nil)) (.cons (.sret (.blt .tuple (.sortI 2))) .nil)))
def b__law_due : T := (.cons (.sif (.not (.isi (.var 0) .tuple))
      (.cons (.sret (.tup (.cons (.str [110, 111]) (.cons (.str [115, 104, 97, 112, 101]) (.cons (.neg (.int 1)) .nil))))) .nil)
      .nil) (.cons (.sforE [1, 2] (.var 0)
      (.cons (.sif (.orN (.cons (.not (.isi (.var 2) .tuple)) (.cons (.cmp .ne (.blt .len (.var 2)) (.int 2)) (.cons (.not (.call 13 (.cons (.idx (.var 2) (.int 0)) .nil))) (.cons (.cmp .isnone (.call 15 (.cons (.idx (.var 2) (.int 1)) .nil)) .non) .nil)))))
      (.cons (.sret (.tup (.cons (.str [110, 111]) (.cons (.str [101, 110, 116, 114, 121]) (.cons (.var 1) .nil))))) .nil)
      .nil) (.cons (.sif (.andN (.cons (.cmp .gt (.var 1) (.int 0)) (.cons (.not (.cmp .lt (.idx (.idx (.var 0) (.bin .sub (.var 1) (.int 1))) (.int 0)) (.idx (.var 2) (.int 0)))) .nil)))
      (.cons (.sret (.tup (.cons (.str [110, 111]) (.cons (.str [111, 114, 100, 101, 114]) (.cons (.var 1) .nil))))) .nil)
      .nil) .nil))) (.cons (.sret (.tup (.cons (.str [103, 97, 118, 101]) (.cons (.blt .len (.var 0)) .nil)))) .nil)))
def b__law_judged : T := (.cons (.stry [0] [] 1
      (.cons (.sret (.tup (.cons (.str [103, 97, 118, 101]) (.cons (.call 6 (.cons (.var 0) .nil)) .nil)))) .nil)
      [.inl [110, 111], .inr 1, .inr 0]) .nil)
def b__law_bad : T := (.cons (.spar [2, 3] (.cons (.call 8 (.cons (.var 0) (.cons (.bin .add (.blt .len (.var 1)) (.int 1)) .nil))) (.cons (.call 8 (.cons (.var 0) (.cons (.int 6) .nil))) .nil))) (.cons (.sif (.cmp .eq (.var 3) (.int 0))
      (.cons (.sret (.bin .add (.bin .add (.slc (.var 1) .nil (.var 2)) (.tup (.cons (.call 16 (.cons (.var 0) .nil)) .nil))) (.slc (.var 1) (.var 2) .nil))) .nil)
      .nil) (.cons (.sif (.andN (.cons (.cmp .eq (.var 3) (.int 1)) (.cons (.cmp .gt (.blt .len (.var 1)) (.int 0)) .nil)))
      (.cons (.sret (.bin .add (.bin .add (.slc (.var 1) .nil (.var 2)) (.tup (.cons (.call 9 (.cons (.var 0) (.cons (.var 1) .nil))) .nil))) (.slc (.var 1) (.var 2) .nil))) .nil)
      .nil) (.cons (.sif (.cmp .eq (.var 3) (.int 2))
      (.cons (.sret (.bin .add (.slc (.var 1) (.var 2) .nil) (.slc (.var 1) .nil (.var 2)))) .nil)
      .nil) (.cons (.sif (.cmp .eq (.var 3) (.int 3))
      (.cons (.sret (.bin .add (.bin .add (.slc (.var 1) .nil (.var 2)) (.tup (.cons (.tup (.cons (.call 10 (.cons (.var 0) .nil)) (.cons (.str [112]) .nil))) .nil))) (.slc (.var 1) (.var 2) .nil))) .nil)
      .nil) (.cons (.sret (.ife (.cmp .eq (.var 3) (.int 4)) (.revT (.var 1)) (.call 17 (.cons (.var 0) (.cons (.var 1) .nil))))) .nil))))))
def b_law : T := (.cons (.sset 1 (.call 7 (.cons (.var 0) .nil))) (.cons (.sset 2 (.bin .add (.comp 3 (.rng1 (.int 8)) .nil (.call 16 (.cons (.var 1) .nil))) (.lst (.cons (.tup .nil) (.cons (.lst .nil) (.cons (.tup (.cons (.tup (.cons (.str [97]) (.cons (.str [112]) .nil))) (.cons (.tup (.cons (.str [97]) (.cons (.str [113]) .nil))) .nil))) (.cons (.tup (.cons (.tup (.cons (.str [98]) (.cons (.str [112]) .nil))) (.cons (.tup (.cons (.str [97]) (.cons (.str [65]) .nil))) .nil))) .nil))))))) (.cons (.sext 2 (.lst (.cons (.tup (.cons (.tup (.cons (.str [98]) (.cons (.str [112]) .nil))) (.cons (.tup (.cons (.str [97]) (.cons (.str [112]) .nil))) (.cons (.int 7) .nil)))) (.cons (.tup (.cons (.tup (.cons (.str [97]) (.cons (.str [80]) .nil))) (.cons (.tup (.cons (.str [97]) (.cons (.str [112]) .nil))) .nil))) (.cons (.tup (.cons (.tup (.cons (.str [65]) (.cons (.str [112]) .nil))) .nil)) (.cons (.tup (.cons (.tup (.cons (.str []) (.cons (.str [112]) .nil))) .nil)) (.cons (.tup (.cons (.lst (.cons (.str [97]) (.cons (.str [112]) .nil))) .nil)) .nil))))))) (.cons (.sfor 3 (.rng1 (.int 4))
      (.cons (.sset 5 (.call 18 (.cons (.var 1) (.cons (.call 9 (.cons (.var 1) (.cons (.lst (.cons (.int 0) (.cons (.int 2) (.cons (.int 4) (.cons (.int 8) (.cons (.int 40) .nil)))))) .nil))) .nil)))) (.cons (.sext 2 (.lst (.cons (.var 5) (.cons (.blt .list (.var 5)) (.cons (.revT (.var 5)) (.cons (.bin .add (.var 5) (.slc (.var 5) .nil (.int 1))) (.cons (.bin .add (.slc (.var 5) .nil (.int 1)) (.var 5)) .nil))))))) (.cons (.sfor 6 (.rng1 (.int 5))
      (.cons (.sset 8 (.call 21 (.cons (.var 1) (.cons (.var 5) .nil)))) (.cons (.sapp 2 (.var 8)) (.cons (.sapp 2 (.ife (.isi (.var 8) .tuple) (.call 21 (.cons (.var 1) (.cons (.var 8) .nil))) (.var 8))) .nil)))) .nil)))) (.cons (.sfrz 2) (.cons (.sfor 4 (.var 2)
      (.cons (.sset 7 (.blt .repr (.var 4))) (.cons (.sif (.orN (.cons (.cmp .ne (.blt .repr (.call 20 (.cons (.var 4) .nil))) (.blt .repr (.call 19 (.cons (.var 4) .nil)))) (.cons (.cmp .ne (.blt .repr (.var 4)) (.var 7)) .nil)))
      (.cons (.sret (.bl false)) .nil)
      .nil) .nil))) (.cons (.sret (.cmp .eq (.callk 6 [0] (.cons (.tup (.cons (.tup (.cons (.str [97]) (.cons (.str [112]) .nil))) .nil)) .nil)) (.int 1))) .nil)))))))
def gvs : List W := [.str [97, 98, 99, 100, 101, 102, 103, 104, 105, 106, 107, 108, 109, 110, 111, 112, 113, 114, 115, 116, 117, 118, 119, 120, 121, 122], .str [32, 45, 62, 32]]
def P : Prg := ⟨fun g => gvs[g]?, [⟨2, 3, false, b_name_end⟩,
  ⟨2, 3, false, b_arrow_end⟩,
  ⟨2, 4, false, b_kind_end⟩,
  ⟨1, 1, false, b_is_name⟩,
  ⟨1, 1, false, b_is_kind⟩,
  ⟨1, 1, false, b_is_entry⟩,
  ⟨1, 3, false, b_lets_book⟩,
  ⟨1, 2, false, b__law_begun⟩,
  ⟨2, 6, false, b__law_draw⟩,
  ⟨2, 2, false, b__law_pick⟩,
  ⟨1, 2, false, b__law_title⟩,
  ⟨2, 6, false, b__law_tree⟩,
  ⟨1, 3, false, b__law_spelled⟩,
  ⟨1, 2, false, b__law_is_title⟩,
  ⟨1, 6, true, b__law_pieces⟩,
  ⟨1, 5, false, b__law_parsed⟩,
  ⟨1, 2, false, b__law_strange⟩,
  ⟨2, 5, false, b__law_spoilt⟩,
  ⟨2, 4, false, b__law_entries⟩,
  ⟨1, 3, false, b__law_due⟩,
  ⟨1, 2, false, b__law_judged⟩,
  ⟨2, 4, false, b__law_bad⟩,
  ⟨1, 9, false, b_law⟩]⟩
def Γ : Stx := ⟨[(("name_end" : PySem.Str), ([("text" : PySem.Str), ("at" : PySem.Str)] : List PySem.Str)),
  (("arrow_end" : PySem.Str), ([("text" : PySem.Str), ("at" : PySem.Str)] : List PySem.Str)),
  (("kind_end" : PySem.Str), ([("text" : PySem.Str), ("at" : PySem.Str)] : List PySem.Str)),
  (("is_name" : PySem.Str), ([("thing" : PySem.Str)] : List PySem.Str)),
  (("is_kind" : PySem.Str), ([("thing" : PySem.Str)] : List PySem.Str)),
  (("is_entry" : PySem.Str), ([("thing" : PySem.Str)] : List PySem.Str)),
  (("lets_book" : PySem.Str), ([("thing" : PySem.Str)] : List PySem.Str)),
  (("_law_begun" : PySem.Str), ([("script" : PySem.Str)] : List PySem.Str)),
  (("_law_draw" : PySem.Str), ([("feed" : PySem.Str), ("many" : PySem.Str)] : List PySem.Str)),
  (("_law_pick" : PySem.Str), ([("feed" : PySem.Str), ("things" : PySem.Str)] : List PySem.Str)),
  (("_law_title" : PySem.Str), ([("feed" : PySem.Str)] : List PySem.Str)),
  (("_law_tree" : PySem.Str), ([("feed" : PySem.Str), ("size" : PySem.Str)] : List PySem.Str)),
  (("_law_spelled" : PySem.Str), ([("tree" : PySem.Str)] : List PySem.Str)),
  (("_law_is_title" : PySem.Str), ([("item" : PySem.Str)] : List PySem.Str)),
  (("_law_pieces" : PySem.Str), ([("word" : PySem.Str)] : List PySem.Str)),
  (("_law_parsed" : PySem.Str), ([("item" : PySem.Str)] : List PySem.Str)),
  (("_law_strange" : PySem.Str), ([("feed" : PySem.Str)] : List PySem.Str)),
  (("_law_spoilt" : PySem.Str), ([("feed" : PySem.Str), ("item" : PySem.Str)] : List PySem.Str)),
  (("_law_entries" : PySem.Str), ([("feed" : PySem.Str), ("many" : PySem.Str)] : List PySem.Str)),
  (("_law_due" : PySem.Str), ([("item" : PySem.Str)] : List PySem.Str)),
  (("_law_judged" : PySem.Str), ([("item" : PySem.Str)] : List PySem.Str)),
  (("_law_bad" : PySem.Str), ([("feed" : PySem.Str), ("given" : PySem.Str)] : List PySem.Str)),
  (("law" : PySem.Str), ([("script" : PySem.Str)] : List PySem.Str))],
  ([("LETTERS" : PySem.Str), ("ARROW" : PySem.Str)] : List PySem.Str),
  ([("len" : PySem.Str), ("isinstance" : PySem.Str), ("str" : PySem.Str), ("tuple" : PySem.Str), ("enumerate" : PySem.Str), ("int" : PySem.Str), ("range" : PySem.Str), ("list" : PySem.Str), ("sorted" : PySem.Str), ("repr" : PySem.Str)] : List PySem.Str),
  [(6, [0])],
  [("InvalidPaper", ([("word" : PySem.Str), ("at" : PySem.Str)] : List PySem.Str))],
  [("InvalidPaper", [0], [])]⟩
@[simp] theorem fr0 : P.fr 0 = false := rfl
@[simp] theorem fr1 : P.fr 1 = false := rfl
@[simp] theorem fr2 : P.fr 2 = false := rfl
@[simp] theorem fr3 : P.fr 3 = false := rfl
@[simp] theorem fr4 : P.fr 4 = false := rfl
@[simp] theorem fr5 : P.fr 5 = false := rfl
@[simp] theorem fr6 : P.fr 6 = false := rfl
@[simp] theorem fr7 : P.fr 7 = false := rfl
@[simp] theorem fr8 : P.fr 8 = false := rfl
@[simp] theorem fr9 : P.fr 9 = false := rfl
@[simp] theorem fr10 : P.fr 10 = false := rfl
@[simp] theorem fr11 : P.fr 11 = false := rfl
@[simp] theorem fr12 : P.fr 12 = false := rfl
@[simp] theorem fr13 : P.fr 13 = false := rfl
@[simp] theorem fr14 : P.fr 14 = true := rfl
@[simp] theorem fr15 : P.fr 15 = false := rfl
@[simp] theorem fr16 : P.fr 16 = false := rfl
@[simp] theorem fr17 : P.fr 17 = false := rfl
@[simp] theorem fr18 : P.fr 18 = false := rfl
@[simp] theorem fr19 : P.fr 19 = false := rfl
@[simp] theorem fr20 : P.fr 20 = false := rfl
@[simp] theorem fr21 : P.fr 21 = false := rfl
@[simp] theorem fr22 : P.fr 22 = false := rfl
def N_name_end : List PySem.Str := ([("text" : PySem.Str), ("at" : PySem.Str), ("end" : PySem.Str)] : List PySem.Str)
def N_arrow_end : List PySem.Str := ([("text" : PySem.Str), ("at" : PySem.Str), ("many" : PySem.Str)] : List PySem.Str)
def N_kind_end : List PySem.Str := ([("text" : PySem.Str), ("at" : PySem.Str), ("levels" : PySem.Str), ("end" : PySem.Str)] : List PySem.Str)
def N_is_name : List PySem.Str := ([("thing" : PySem.Str)] : List PySem.Str)
def N_is_kind : List PySem.Str := ([("thing" : PySem.Str)] : List PySem.Str)
def N_is_entry : List PySem.Str := ([("thing" : PySem.Str)] : List PySem.Str)
def N_lets_book : List PySem.Str := ([("thing" : PySem.Str), ("k" : PySem.Str), ("entry" : PySem.Str)] : List PySem.Str)
def N__law_begun : List PySem.Str := ([("script" : PySem.Str), ("cell" : PySem.Str)] : List PySem.Str)
def N__law_draw : List PySem.Str := ([("feed" : PySem.Str), ("many" : PySem.Str), ("spot" : PySem.Str), ("cell" : PySem.Str), ("mixed" : PySem.Str), ("figure" : PySem.Str)] : List PySem.Str)
def N__law_pick : List PySem.Str := ([("feed" : PySem.Str), ("things" : PySem.Str)] : List PySem.Str)
def N__law_title : List PySem.Str := ([("feed" : PySem.Str), ("lap" : PySem.Str)] : List PySem.Str)
def N__law_tree : List PySem.Str := ([("feed" : PySem.Str), ("size" : PySem.Str), ("lap" : PySem.Str), ("parts_now" : PySem.Str), ("left" : PySem.Str), ("many" : PySem.Str)] : List PySem.Str)
def N__law_spelled : List PySem.Str := ([("tree" : PySem.Str), ("words" : PySem.Str), ("one" : PySem.Str)] : List PySem.Str)
def N__law_is_title : List PySem.Str := ([("item" : PySem.Str), ("sign" : PySem.Str)] : List PySem.Str)
def N__law_pieces : List PySem.Str := ([("word" : PySem.Str), ("at_now" : PySem.Str), ("found" : PySem.Str), ("start" : PySem.Str), ("depth" : PySem.Str), ("skip" : PySem.Str)] : List PySem.Str)
def N__law_parsed : List PySem.Str := ([("item" : PySem.Str), ("word" : PySem.Str), ("found" : PySem.Str), ("words" : PySem.Str), ("one" : PySem.Str)] : List PySem.Str)
def N__law_strange : List PySem.Str := ([("feed" : PySem.Str), ("some" : PySem.Str)] : List PySem.Str)
def N__law_spoilt : List PySem.Str := ([("feed" : PySem.Str), ("item" : PySem.Str), ("way" : PySem.Str), ("spot" : PySem.Str), ("sign" : PySem.Str)] : List PySem.Str)
def N__law_entries : List PySem.Str := ([("feed" : PySem.Str), ("many" : PySem.Str), ("found" : PySem.Str), ("lap" : PySem.Str)] : List PySem.Str)
def N__law_due : List PySem.Str := ([("item" : PySem.Str), ("spot" : PySem.Str), ("one" : PySem.Str)] : List PySem.Str)
def N__law_judged : List PySem.Str := ([("item" : PySem.Str), ("e" : PySem.Str)] : List PySem.Str)
def N__law_bad : List PySem.Str := ([("feed" : PySem.Str), ("given" : PySem.Str), ("spot" : PySem.Str), ("way" : PySem.Str)] : List PySem.Str)
def N_law : List PySem.Str := ([("script" : PySem.Str), ("feed" : PySem.Str), ("items" : PySem.Str), ("lap" : PySem.Str), ("item" : PySem.Str), ("given" : PySem.Str), ("turn" : PySem.Str), ("kept" : PySem.Str), ("late" : PySem.Str)] : List PySem.Str)
def topS (i : Nat) : Stmt := PySem.Challenge.pw_onlygiven_k02_books_checked.main.body.getD i (.Pass ⟨0, 0, 0, 0⟩)
theorem ck_name_end : chkSs Γ N_name_end (C8.fnScope (topS 7)) P.fr (P.fr 0) b_name_end (C8.fnBody (topS 7)) = true := by decide +kernel
theorem ck_arrow_end : chkSs Γ N_arrow_end (C8.fnScope (topS 8)) P.fr (P.fr 1) b_arrow_end (C8.fnBody (topS 8)) = true := by decide +kernel
theorem ck_kind_end : chkSs Γ N_kind_end (C8.fnScope (topS 9)) P.fr (P.fr 2) b_kind_end (C8.fnBody (topS 9)) = true := by decide +kernel
theorem ck_is_name : chkSs Γ N_is_name (C8.fnScope (topS 11)) P.fr (P.fr 3) b_is_name (C8.fnBody (topS 11)) = true := by decide +kernel
theorem ck_is_kind : chkSs Γ N_is_kind (C8.fnScope (topS 12)) P.fr (P.fr 4) b_is_kind (C8.fnBody (topS 12)) = true := by decide +kernel
theorem ck_is_entry : chkSs Γ N_is_entry (C8.fnScope (topS 13)) P.fr (P.fr 5) b_is_entry (C8.fnBody (topS 13)) = true := by decide +kernel
theorem ck_lets_book : chkSs Γ N_lets_book (C8.fnScope (topS 15)) P.fr (P.fr 6) b_lets_book (C8.fnBody (topS 15)) = true := by decide +kernel
theorem ck__law_begun : chkSs Γ N__law_begun (C8.fnScope (topS 17)) P.fr (P.fr 7) b__law_begun (C8.fnBody (topS 17)) = true := by decide +kernel
theorem ck__law_draw : chkSs Γ N__law_draw (C8.fnScope (topS 18)) P.fr (P.fr 8) b__law_draw (C8.fnBody (topS 18)) = true := by decide +kernel
theorem ck__law_pick : chkSs Γ N__law_pick (C8.fnScope (topS 19)) P.fr (P.fr 9) b__law_pick (C8.fnBody (topS 19)) = true := by decide +kernel
theorem ck__law_title : chkSs Γ N__law_title (C8.fnScope (topS 20)) P.fr (P.fr 10) b__law_title (C8.fnBody (topS 20)) = true := by decide +kernel
theorem ck__law_tree : chkSs Γ N__law_tree (C8.fnScope (topS 21)) P.fr (P.fr 11) b__law_tree (C8.fnBody (topS 21)) = true := by decide +kernel
theorem ck__law_spelled : chkSs Γ N__law_spelled (C8.fnScope (topS 22)) P.fr (P.fr 12) b__law_spelled (C8.fnBody (topS 22)) = true := by decide +kernel
theorem ck__law_is_title : chkSs Γ N__law_is_title (C8.fnScope (topS 23)) P.fr (P.fr 13) b__law_is_title (C8.fnBody (topS 23)) = true := by decide +kernel
theorem ck__law_pieces : chkSs Γ N__law_pieces (C8.fnScope (topS 24)) P.fr (P.fr 14) b__law_pieces (C8.fnBody (topS 24)) = true := by decide +kernel
theorem ck__law_parsed : chkSs Γ N__law_parsed (C8.fnScope (topS 25)) P.fr (P.fr 15) b__law_parsed (C8.fnBody (topS 25)) = true := by decide +kernel
theorem ck__law_strange : chkSs Γ N__law_strange (C8.fnScope (topS 26)) P.fr (P.fr 16) b__law_strange (C8.fnBody (topS 26)) = true := by decide +kernel
theorem ck__law_spoilt : chkSs Γ N__law_spoilt (C8.fnScope (topS 27)) P.fr (P.fr 17) b__law_spoilt (C8.fnBody (topS 27)) = true := by decide +kernel
theorem ck__law_entries : chkSs Γ N__law_entries (C8.fnScope (topS 28)) P.fr (P.fr 18) b__law_entries (C8.fnBody (topS 28)) = true := by decide +kernel
theorem ck__law_due : chkSs Γ N__law_due (C8.fnScope (topS 29)) P.fr (P.fr 19) b__law_due (C8.fnBody (topS 29)) = true := by decide +kernel
theorem ck__law_judged : chkSs Γ N__law_judged (C8.fnScope (topS 30)) P.fr (P.fr 20) b__law_judged (C8.fnBody (topS 30)) = true := by decide +kernel
theorem ck__law_bad : chkSs Γ N__law_bad (C8.fnScope (topS 31)) P.fr (P.fr 21) b__law_bad (C8.fnBody (topS 31)) = true := by decide +kernel
theorem ck_law : chkSs Γ N_law (C8.fnScope (topS 32)) P.fr (P.fr 22) b_law (C8.fnBody (topS 32)) = true := by decide +kernel
theorem es_InvalidPaper : ES2 PySem.Challenge.pw_onlygiven_k02_books_checked (initS (topS 3)) "word" "at" :=
  ⟨⟨"self", "word", "at", _, _, _, _, _, _, _, _, _, _, _, _, _, _, _, by decide +kernel, rfl, ⟨_, rfl, rfl⟩, by decide +kernel, by decide, (fun _ _ _ _ _ _ us hl => match us, hl with | [_, _, _], _ => rfl), fun env => ⟨_, rfl⟩⟩, by decide +kernel⟩
theorem at_name_end {K : PySem.W.Frag} {mg : PySem.Str → Option Value} {h : Heap} (X : K.In h) (G : h.Ns mainGlobals mg) (F : FA K "name_end" (topS 7)) : DefAt Γ P K mg 0 "name_end" ([("text" : PySem.Str), ("at" : PySem.Str)] : List PySem.Str) ⟨2, 3, false, b_name_end⟩ :=
  F.at (N := N_name_end) X G (by decide +kernel) rfl rfl ck_name_end (fun _ _ _ _ _ _ us hl => match us, hl with | [_, _], _ => rfl) (fun ks q => absurd (kw_in q) (by show ¬ ks ∈ []; simp))
theorem at_arrow_end {K : PySem.W.Frag} {mg : PySem.Str → Option Value} {h : Heap} (X : K.In h) (G : h.Ns mainGlobals mg) (F : FA K "arrow_end" (topS 8)) : DefAt Γ P K mg 1 "arrow_end" ([("text" : PySem.Str), ("at" : PySem.Str)] : List PySem.Str) ⟨2, 3, false, b_arrow_end⟩ :=
  F.at (N := N_arrow_end) X G (by decide +kernel) rfl rfl ck_arrow_end (fun _ _ _ _ _ _ us hl => match us, hl with | [_, _], _ => rfl) (fun ks q => absurd (kw_in q) (by show ¬ ks ∈ []; simp))
theorem at_kind_end {K : PySem.W.Frag} {mg : PySem.Str → Option Value} {h : Heap} (X : K.In h) (G : h.Ns mainGlobals mg) (F : FA K "kind_end" (topS 9)) : DefAt Γ P K mg 2 "kind_end" ([("text" : PySem.Str), ("at" : PySem.Str)] : List PySem.Str) ⟨2, 4, false, b_kind_end⟩ :=
  F.at (N := N_kind_end) X G (by decide +kernel) rfl rfl ck_kind_end (fun _ _ _ _ _ _ us hl => match us, hl with | [_, _], _ => rfl) (fun ks q => absurd (kw_in q) (by show ¬ ks ∈ []; simp))
theorem at_is_name {K : PySem.W.Frag} {mg : PySem.Str → Option Value} {h : Heap} (X : K.In h) (G : h.Ns mainGlobals mg) (F : FA K "is_name" (topS 11)) : DefAt Γ P K mg 3 "is_name" ([("thing" : PySem.Str)] : List PySem.Str) ⟨1, 1, false, b_is_name⟩ :=
  F.at (N := N_is_name) X G (by decide +kernel) rfl rfl ck_is_name (fun _ _ _ _ _ _ us hl => match us, hl with | [_], _ => rfl) (fun ks q => absurd (kw_in q) (by show ¬ ks ∈ []; simp))
theorem at_is_kind {K : PySem.W.Frag} {mg : PySem.Str → Option Value} {h : Heap} (X : K.In h) (G : h.Ns mainGlobals mg) (F : FA K "is_kind" (topS 12)) : DefAt Γ P K mg 4 "is_kind" ([("thing" : PySem.Str)] : List PySem.Str) ⟨1, 1, false, b_is_kind⟩ :=
  F.at (N := N_is_kind) X G (by decide +kernel) rfl rfl ck_is_kind (fun _ _ _ _ _ _ us hl => match us, hl with | [_], _ => rfl) (fun ks q => absurd (kw_in q) (by show ¬ ks ∈ []; simp))
theorem at_is_entry {K : PySem.W.Frag} {mg : PySem.Str → Option Value} {h : Heap} (X : K.In h) (G : h.Ns mainGlobals mg) (F : FA K "is_entry" (topS 13)) : DefAt Γ P K mg 5 "is_entry" ([("thing" : PySem.Str)] : List PySem.Str) ⟨1, 1, false, b_is_entry⟩ :=
  F.at (N := N_is_entry) X G (by decide +kernel) rfl rfl ck_is_entry (fun _ _ _ _ _ _ us hl => match us, hl with | [_], _ => rfl) (fun ks q => absurd (kw_in q) (by show ¬ ks ∈ []; simp))
theorem at_lets_book {K : PySem.W.Frag} {mg : PySem.Str → Option Value} {h : Heap} (X : K.In h) (G : h.Ns mainGlobals mg) (F : FA K "lets_book" (topS 15)) : DefAt Γ P K mg 6 "lets_book" ([("thing" : PySem.Str)] : List PySem.Str) ⟨1, 3, false, b_lets_book⟩ :=
  F.at (N := N_lets_book) X G (by decide +kernel) rfl rfl ck_lets_book (fun _ _ _ _ _ _ us hl => match us, hl with | [_], _ => rfl) (fun ks q => by
    have e : ks = [0] := List.mem_singleton.mp (show ks ∈ [[0]] from kw_in q)
    subst e
    exact fun _ _ _ _ _ _ us hl => match us, hl with | [_], _ => rfl)
theorem at__law_begun {K : PySem.W.Frag} {mg : PySem.Str → Option Value} {h : Heap} (X : K.In h) (G : h.Ns mainGlobals mg) (F : FA K "_law_begun" (topS 17)) : DefAt Γ P K mg 7 "_law_begun" ([("script" : PySem.Str)] : List PySem.Str) ⟨1, 2, false, b__law_begun⟩ :=
  F.at (N := N__law_begun) X G (by decide +kernel) rfl rfl ck__law_begun (fun _ _ _ _ _ _ us hl => match us, hl with | [_], _ => rfl) (fun ks q => absurd (kw_in q) (by show ¬ ks ∈ []; simp))
theorem at__law_draw {K : PySem.W.Frag} {mg : PySem.Str → Option Value} {h : Heap} (X : K.In h) (G : h.Ns mainGlobals mg) (F : FA K "_law_draw" (topS 18)) : DefAt Γ P K mg 8 "_law_draw" ([("feed" : PySem.Str), ("many" : PySem.Str)] : List PySem.Str) ⟨2, 6, false, b__law_draw⟩ :=
  F.at (N := N__law_draw) X G (by decide +kernel) rfl rfl ck__law_draw (fun _ _ _ _ _ _ us hl => match us, hl with | [_, _], _ => rfl) (fun ks q => absurd (kw_in q) (by show ¬ ks ∈ []; simp))
theorem at__law_pick {K : PySem.W.Frag} {mg : PySem.Str → Option Value} {h : Heap} (X : K.In h) (G : h.Ns mainGlobals mg) (F : FA K "_law_pick" (topS 19)) : DefAt Γ P K mg 9 "_law_pick" ([("feed" : PySem.Str), ("things" : PySem.Str)] : List PySem.Str) ⟨2, 2, false, b__law_pick⟩ :=
  F.at (N := N__law_pick) X G (by decide +kernel) rfl rfl ck__law_pick (fun _ _ _ _ _ _ us hl => match us, hl with | [_, _], _ => rfl) (fun ks q => absurd (kw_in q) (by show ¬ ks ∈ []; simp))
theorem at__law_title {K : PySem.W.Frag} {mg : PySem.Str → Option Value} {h : Heap} (X : K.In h) (G : h.Ns mainGlobals mg) (F : FA K "_law_title" (topS 20)) : DefAt Γ P K mg 10 "_law_title" ([("feed" : PySem.Str)] : List PySem.Str) ⟨1, 2, false, b__law_title⟩ :=
  F.at (N := N__law_title) X G (by decide +kernel) rfl rfl ck__law_title (fun _ _ _ _ _ _ us hl => match us, hl with | [_], _ => rfl) (fun ks q => absurd (kw_in q) (by show ¬ ks ∈ []; simp))
theorem at__law_tree {K : PySem.W.Frag} {mg : PySem.Str → Option Value} {h : Heap} (X : K.In h) (G : h.Ns mainGlobals mg) (F : FA K "_law_tree" (topS 21)) : DefAt Γ P K mg 11 "_law_tree" ([("feed" : PySem.Str), ("size" : PySem.Str)] : List PySem.Str) ⟨2, 6, false, b__law_tree⟩ :=
  F.at (N := N__law_tree) X G (by decide +kernel) rfl rfl ck__law_tree (fun _ _ _ _ _ _ us hl => match us, hl with | [_, _], _ => rfl) (fun ks q => absurd (kw_in q) (by show ¬ ks ∈ []; simp))
theorem at__law_spelled {K : PySem.W.Frag} {mg : PySem.Str → Option Value} {h : Heap} (X : K.In h) (G : h.Ns mainGlobals mg) (F : FA K "_law_spelled" (topS 22)) : DefAt Γ P K mg 12 "_law_spelled" ([("tree" : PySem.Str)] : List PySem.Str) ⟨1, 3, false, b__law_spelled⟩ :=
  F.at (N := N__law_spelled) X G (by decide +kernel) rfl rfl ck__law_spelled (fun _ _ _ _ _ _ us hl => match us, hl with | [_], _ => rfl) (fun ks q => absurd (kw_in q) (by show ¬ ks ∈ []; simp))
theorem at__law_is_title {K : PySem.W.Frag} {mg : PySem.Str → Option Value} {h : Heap} (X : K.In h) (G : h.Ns mainGlobals mg) (F : FA K "_law_is_title" (topS 23)) : DefAt Γ P K mg 13 "_law_is_title" ([("item" : PySem.Str)] : List PySem.Str) ⟨1, 2, false, b__law_is_title⟩ :=
  F.at (N := N__law_is_title) X G (by decide +kernel) rfl rfl ck__law_is_title (fun _ _ _ _ _ _ us hl => match us, hl with | [_], _ => rfl) (fun ks q => absurd (kw_in q) (by show ¬ ks ∈ []; simp))
theorem at__law_pieces {K : PySem.W.Frag} {mg : PySem.Str → Option Value} {h : Heap} (X : K.In h) (G : h.Ns mainGlobals mg) (F : FA K "_law_pieces" (topS 24)) : DefAt Γ P K mg 14 "_law_pieces" ([("word" : PySem.Str)] : List PySem.Str) ⟨1, 6, true, b__law_pieces⟩ :=
  F.at (N := N__law_pieces) X G (by decide +kernel) rfl rfl ck__law_pieces (fun _ _ _ _ _ _ us hl => match us, hl with | [_], _ => rfl) (fun ks q => absurd (kw_in q) (by show ¬ ks ∈ []; simp))
theorem at__law_parsed {K : PySem.W.Frag} {mg : PySem.Str → Option Value} {h : Heap} (X : K.In h) (G : h.Ns mainGlobals mg) (F : FA K "_law_parsed" (topS 25)) : DefAt Γ P K mg 15 "_law_parsed" ([("item" : PySem.Str)] : List PySem.Str) ⟨1, 5, false, b__law_parsed⟩ :=
  F.at (N := N__law_parsed) X G (by decide +kernel) rfl rfl ck__law_parsed (fun _ _ _ _ _ _ us hl => match us, hl with | [_], _ => rfl) (fun ks q => absurd (kw_in q) (by show ¬ ks ∈ []; simp))
theorem at__law_strange {K : PySem.W.Frag} {mg : PySem.Str → Option Value} {h : Heap} (X : K.In h) (G : h.Ns mainGlobals mg) (F : FA K "_law_strange" (topS 26)) : DefAt Γ P K mg 16 "_law_strange" ([("feed" : PySem.Str)] : List PySem.Str) ⟨1, 2, false, b__law_strange⟩ :=
  F.at (N := N__law_strange) X G (by decide +kernel) rfl rfl ck__law_strange (fun _ _ _ _ _ _ us hl => match us, hl with | [_], _ => rfl) (fun ks q => absurd (kw_in q) (by show ¬ ks ∈ []; simp))
theorem at__law_spoilt {K : PySem.W.Frag} {mg : PySem.Str → Option Value} {h : Heap} (X : K.In h) (G : h.Ns mainGlobals mg) (F : FA K "_law_spoilt" (topS 27)) : DefAt Γ P K mg 17 "_law_spoilt" ([("feed" : PySem.Str), ("item" : PySem.Str)] : List PySem.Str) ⟨2, 5, false, b__law_spoilt⟩ :=
  F.at (N := N__law_spoilt) X G (by decide +kernel) rfl rfl ck__law_spoilt (fun _ _ _ _ _ _ us hl => match us, hl with | [_, _], _ => rfl) (fun ks q => absurd (kw_in q) (by show ¬ ks ∈ []; simp))
theorem at__law_entries {K : PySem.W.Frag} {mg : PySem.Str → Option Value} {h : Heap} (X : K.In h) (G : h.Ns mainGlobals mg) (F : FA K "_law_entries" (topS 28)) : DefAt Γ P K mg 18 "_law_entries" ([("feed" : PySem.Str), ("many" : PySem.Str)] : List PySem.Str) ⟨2, 4, false, b__law_entries⟩ :=
  F.at (N := N__law_entries) X G (by decide +kernel) rfl rfl ck__law_entries (fun _ _ _ _ _ _ us hl => match us, hl with | [_, _], _ => rfl) (fun ks q => absurd (kw_in q) (by show ¬ ks ∈ []; simp))
theorem at__law_due {K : PySem.W.Frag} {mg : PySem.Str → Option Value} {h : Heap} (X : K.In h) (G : h.Ns mainGlobals mg) (F : FA K "_law_due" (topS 29)) : DefAt Γ P K mg 19 "_law_due" ([("item" : PySem.Str)] : List PySem.Str) ⟨1, 3, false, b__law_due⟩ :=
  F.at (N := N__law_due) X G (by decide +kernel) rfl rfl ck__law_due (fun _ _ _ _ _ _ us hl => match us, hl with | [_], _ => rfl) (fun ks q => absurd (kw_in q) (by show ¬ ks ∈ []; simp))
theorem at__law_judged {K : PySem.W.Frag} {mg : PySem.Str → Option Value} {h : Heap} (X : K.In h) (G : h.Ns mainGlobals mg) (F : FA K "_law_judged" (topS 30)) : DefAt Γ P K mg 20 "_law_judged" ([("item" : PySem.Str)] : List PySem.Str) ⟨1, 2, false, b__law_judged⟩ :=
  F.at (N := N__law_judged) X G (by decide +kernel) rfl rfl ck__law_judged (fun _ _ _ _ _ _ us hl => match us, hl with | [_], _ => rfl) (fun ks q => absurd (kw_in q) (by show ¬ ks ∈ []; simp))
theorem at__law_bad {K : PySem.W.Frag} {mg : PySem.Str → Option Value} {h : Heap} (X : K.In h) (G : h.Ns mainGlobals mg) (F : FA K "_law_bad" (topS 31)) : DefAt Γ P K mg 21 "_law_bad" ([("feed" : PySem.Str), ("given" : PySem.Str)] : List PySem.Str) ⟨2, 4, false, b__law_bad⟩ :=
  F.at (N := N__law_bad) X G (by decide +kernel) rfl rfl ck__law_bad (fun _ _ _ _ _ _ us hl => match us, hl with | [_, _], _ => rfl) (fun ks q => absurd (kw_in q) (by show ¬ ks ∈ []; simp))
theorem at_law {K : PySem.W.Frag} {mg : PySem.Str → Option Value} {h : Heap} (X : K.In h) (G : h.Ns mainGlobals mg) (F : FA K "law" (topS 32)) : DefAt Γ P K mg 22 "law" ([("script" : PySem.Str)] : List PySem.Str) ⟨1, 9, false, b_law⟩ :=
  F.at (N := N_law) X G (by decide +kernel) rfl rfl ck_law (fun _ _ _ _ _ _ us hl => match us, hl with | [_], _ => rfl) (fun ks q => absurd (kw_in q) (by show ¬ ks ∈ []; simp))
theorem mdl {K : PySem.W.Frag} {mg : PySem.Str → Option Value} {h : Heap} {C0 : Addr} {D0 : Addr} (X : K.In h) (G : h.Ns mainGlobals mg)
    (g0 : ∃ t, PySem.W.nsIn K mainGlobals "LETTERS" = some (some (.str (toS [97, 98, 99, 100, 101, 102, 103, 104, 105, 106, 107, 108, 109, 110, 111, 112, 113, 114, 115, 116, 117, 118, 119, 120, 121, 122]) t)))
    (g1 : ∃ t, PySem.W.nsIn K mainGlobals "ARROW" = some (some (.str (toS [32, 45, 62, 32]) t)))
    (z0 : PySem.W.nsIn K mainGlobals "len" = some none)
    (z1 : PySem.W.nsIn K mainGlobals "isinstance" = some none)
    (z2 : PySem.W.nsIn K mainGlobals "str" = some none)
    (z3 : PySem.W.nsIn K mainGlobals "tuple" = some none)
    (z4 : PySem.W.nsIn K mainGlobals "enumerate" = some none)
    (z5 : PySem.W.nsIn K mainGlobals "int" = some none)
    (z6 : PySem.W.nsIn K mainGlobals "range" = some none)
    (z7 : PySem.W.nsIn K mainGlobals "list" = some none)
    (z8 : PySem.W.nsIn K mainGlobals "sorted" = some none)
    (z9 : PySem.W.nsIn K mainGlobals "repr" = some none)
    (f0 : FA K "name_end" (topS 7))
    (f1 : FA K "arrow_end" (topS 8))
    (f2 : FA K "kind_end" (topS 9))
    (f3 : FA K "is_name" (topS 11))
    (f4 : FA K "is_kind" (topS 12))
    (f5 : FA K "is_entry" (topS 13))
    (f6 : FA K "lets_book" (topS 15))
    (f7 : FA K "_law_begun" (topS 17))
    (f8 : FA K "_law_draw" (topS 18))
    (f9 : FA K "_law_pick" (topS 19))
    (f10 : FA K "_law_title" (topS 20))
    (f11 : FA K "_law_tree" (topS 21))
    (f12 : FA K "_law_spelled" (topS 22))
    (f13 : FA K "_law_is_title" (topS 23))
    (f14 : FA K "_law_pieces" (topS 24))
    (f15 : FA K "_law_parsed" (topS 25))
    (f16 : FA K "_law_strange" (topS 26))
    (f17 : FA K "_law_spoilt" (topS 27))
    (f18 : FA K "_law_entries" (topS 28))
    (f19 : FA K "_law_due" (topS 29))
    (f20 : FA K "_law_judged" (topS 30))
    (f21 : FA K "_law_bad" (topS 31))
    (f22 : FA K "law" (topS 32))
    (r0 : EA PySem.Challenge.pw_onlygiven_k02_books_checked K "InvalidPaper" C0 ([("word" : PySem.Str), ("at" : PySem.Str)] : List PySem.Str))
    (t0 : PySem.W.nsIn K mainGlobals "InvalidPaper" = some (some (.ref D0)))
    (t0_0 : PySem.W.exmOne K (.ref C0) (.ref D0) = some true) : Mdl Γ ⟨K, fun k => ([C0] : List Addr).getD k 0, fun k => ((Γ.errs.map (·.2)).getD k []).reverse⟩ P PySem.Challenge.pw_onlygiven_k02_books_checked mg where
  blt := bl_cons (PySem.W.mg_none_of X G z0) <| bl_cons (PySem.W.mg_none_of X G z1) <| bl_cons (PySem.W.mg_none_of X G z2) <| bl_cons (PySem.W.mg_none_of X G z3) <| bl_cons (PySem.W.mg_none_of X G z4) <| bl_cons (PySem.W.mg_none_of X G z5) <| bl_cons (PySem.W.mg_none_of X G z6) <| bl_cons (PySem.W.mg_none_of X G z7) <| bl_cons (PySem.W.mg_none_of X G z8) <| bl_cons (PySem.W.mg_none_of X G z9) <| bl_nil
  glob := fun g x hg => match g, hg with
    | 0, hg => by
      cases hg
      obtain ⟨t, q⟩ := g0
      exact gl_str (PySem.W.mg_of X G q) rfl
    | 1, hg => by
      cases hg
      obtain ⟨t, q⟩ := g1
      exact gl_str (PySem.W.mg_of X G q) rfl
    | n + 2, hg => by cases hg
  fn := fun f x ps hf => match f, hf with
    | 0, hf => by
      cases hf
      exact ⟨_, rfl, at_name_end X G f0⟩
    | 1, hf => by
      cases hf
      exact ⟨_, rfl, at_arrow_end X G f1⟩
    | 2, hf => by
      cases hf
      exact ⟨_, rfl, at_kind_end X G f2⟩
    | 3, hf => by
      cases hf
      exact ⟨_, rfl, at_is_name X G f3⟩
    | 4, hf => by
      cases hf
      exact ⟨_, rfl, at_is_kind X G f4⟩
    | 5, hf => by
      cases hf
      exact ⟨_, rfl, at_is_entry X G f5⟩
    | 6, hf => by
      cases hf
      exact ⟨_, rfl, at_lets_book X G f6⟩
    | 7, hf => by
      cases hf
      exact ⟨_, rfl, at__law_begun X G f7⟩
    | 8, hf => by
      cases hf
      exact ⟨_, rfl, at__law_draw X G f8⟩
    | 9, hf => by
      cases hf
      exact ⟨_, rfl, at__law_pick X G f9⟩
    | 10, hf => by
      cases hf
      exact ⟨_, rfl, at__law_title X G f10⟩
    | 11, hf => by
      cases hf
      exact ⟨_, rfl, at__law_tree X G f11⟩
    | 12, hf => by
      cases hf
      exact ⟨_, rfl, at__law_spelled X G f12⟩
    | 13, hf => by
      cases hf
      exact ⟨_, rfl, at__law_is_title X G f13⟩
    | 14, hf => by
      cases hf
      exact ⟨_, rfl, at__law_pieces X G f14⟩
    | 15, hf => by
      cases hf
      exact ⟨_, rfl, at__law_parsed X G f15⟩
    | 16, hf => by
      cases hf
      exact ⟨_, rfl, at__law_strange X G f16⟩
    | 17, hf => by
      cases hf
      exact ⟨_, rfl, at__law_spoilt X G f17⟩
    | 18, hf => by
      cases hf
      exact ⟨_, rfl, at__law_entries X G f18⟩
    | 19, hf => by
      cases hf
      exact ⟨_, rfl, at__law_due X G f19⟩
    | 20, hf => by
      cases hf
      exact ⟨_, rfl, at__law_judged X G f20⟩
    | 21, hf => by
      cases hf
      exact ⟨_, rfl, at__law_bad X G f21⟩
    | 22, hf => by
      cases hf
      exact ⟨_, rfl, at_law X G f22⟩
    | n + 23, hf => by cases hf
  err := fun k x flds hk => match k, hk with
    | 0, hk => by
      cases hk
      exact ⟨r0.ok, rfl, PySem.W.mg_of X G r0.at_⟩
    | n + 1, hk => by cases hk
  exm := tr_cons ⟨_, PySem.W.mg_of X G t0, (al_cons t0_0 al_nil), al_nil⟩ <| tr_nil
end K02
/-! k01: the defs' values. -/
namespace K02
open MP PySem
def isL (c : Nat) : Bool := decide (97 ≤ c) && decide (c ≤ 122)
def LET : List Nat := [97, 98, 99, 100, 101, 102, 103, 104, 105, 106, 107, 108, 109, 110, 111, 112, 113, 114, 115, 116, 117, 118, 119, 120, 121, 122]
theorem gv0 : P.gv 0 = some (.str LET) := rfl
theorem letters (c : Nat) : decide (c ∈ LET) = isL c := by
  unfold isL LET
  rw [Bool.eq_iff_iff]
  simp only [List.mem_cons, List.not_mem_nil, or_false, Bool.and_eq_true, decide_eq_true_eq]
  omega
/-- how many letters stand at the beginning, at most n -/
def run : Nat → List Nat → Nat
  | 0, _ => 0
  | _, [] => 0
  | n + 1, c :: r => if isL c then run n r + 1 else 0
theorem name_loop (d : Nat) (φ : Sto) (s : List Nat) (i : Nat) (hs : s.length ≤ 1000000) : ∀ (n e : Nat), e ≤ s.length → e + n = i + 8 → 
    wloop (fun ρ φ => (evalE P.gv (P.call d) (.andN (.cons (.cmp .lt (.var 2) (.blt .len (.var 0))) (.cons (.cmp .lt (.var 2) (.bin .add (.var 1) (.int 8))) (.cons (.cmp .isin (.idx (.var 0) (.var 2)) (.glob 0)) .nil)))) ρ φ).bind fun x φ1 => .ofO (truthy x) φ1)
      (fun ρ φ => evalS P.gv P.fr (P.call d) (.cons (.sset 2 (.bin .add (.var 2) (.int 1))) .nil) ρ φ) [.val (.str s), .val (.int i), .val (.int e)] φ = .nx [.val (.str s), .val (.int i), .val (.int (e + run n (s.drop e) : Nat))] φ := by
  intro n
  have hz : s.length ≤ sizeLine := by rw [szl]; omega
  induction n with
  | zero =>
    intro e he hn
    have h1 : ¬ ((e : Int) < (i : Int) + 8) := by omega
    refine wloop_done ?_
    by_cases h2 : e < s.length <;> simp [len_str hz, h1, h2]
  | succ n ih =>
    intro e he hn
    have h1 : ((e : Int) < (i : Int) + 8) := by omega
    by_cases h2 : e < s.length
    · have hc : s[e]? = some s[e] := List.getElem?_eq_getElem h2
      have hd : s.drop e = s[e] :: s.drop (e + 1) := List.drop_eq_getElem_cons h2
      by_cases hl : isL s[e] = true
      · refine (wloop_step (φ1 := φ) (φ2 := φ) (ρ2 := [.val (.str s), .val (.int i), .val (.int (e + 1 : Nat))]) ?_ ?_).trans ?_
        · simp [len_str hz, h1, h2, idx_str hz hc, gv0, in_str, letters, hl]
        · simp [T.fresh]
        · rw [ih (e + 1) (by omega) (by omega), hd]
          simp only [run, hl, if_true]
          rw [show e + 1 + run n (s.drop (e + 1)) = e + (run n (s.drop (e + 1)) + 1) by omega]
      · rw [hd]
        simp only [run, hl]
        refine wloop_done ?_
        simp [len_str hz, h1, h2, idx_str hz hc, gv0, in_str, letters, hl]
    · have e1 : s.drop e = [] := List.drop_eq_nil_of_le (by omega)
      rw [e1]
      refine wloop_done ?_
      simp [len_str hz, h2]
theorem name_end_spec (d : Nat) (φ : Sto) (s : List Nat) (i : Nat) (hs : s.length ≤ 1000000) (hi : i ≤ s.length) : P.call (d + 1) 0 [.str s, .int i] φ = .ok (.int (i + run 8 (s.drop i) : Nat)) φ := by
  rw [call_eq (fn := ⟨2, 3, false, b_name_end⟩) rfl rfl]
  show (evalS P.gv P.fr (P.call d) b_name_end [.val (.str s), .val (.int i), .none] φ).out false = _
  unfold b_name_end
  rw [st_cons, st_set, ev_var]
  show (evalS P.gv P.fr (P.call d) _ [.val (.str s), .val (.int i), .val (.int i)] φ).out false = _
  rw [st_cons, st_while, name_loop d φ s i hs 8 i hi rfl]
  rfl
end K02
/-! k01: arrow_end, kind_end. -/
namespace K02
open MP PySem
def ARR : List Nat := [32, 45, 62, 32]
theorem gv1 : P.gv 1 = some (.str ARR) := rfl
/-- how many signs the two begin alike with -/
def pre : List Nat → List Nat → Nat
  | a :: as, b :: bs => if a = b then pre as bs + 1 else 0
  | _, _ => 0
theorem eq_str (s t : List Nat) (h1 : s.all (· < 0x110000) = true) (h2 : t.all (· < 0x110000) = true) : opCmp .eq (.str s) (.str t) = some (decide (s = t)) := by
  show (if (W.str s).okD 62 && (W.str t).okD 62 then some (eqW (.str s) (.str t)) else none) = _
  have e1 : (W.str s).okD 62 = true := h1
  have e2 : (W.str t).okD 62 = true := h2
  rw [e1, e2]
  have e : eqW (.str s) (.str t) = decide (s = t) := by
    show PyData.eqv (.str (toS s)) (.str (toS t)) = _
    by_cases h : s = t
    · subst h
      simp [PyData.eqv]
    · have hn : toS s ≠ toS t := fun z => h (toS_inj z)
      simp [PyData.eqv, h, hn]
  rw [e]
  rfl
def good (s : List Nat) : Bool := s.all (· < 0x110000)
theorem good_cut {s : List Nat} (h : good s = true) (a b : Option Int) : good (cut a b s) = true := by
  unfold good at h ⊢
  rw [List.all_eq_true] at h ⊢
  intro x hx
  exact h x (List.mem_of_mem_drop (List.mem_of_mem_take hx))
/-- s[i:i+1] -/
theorem cut1 (s : List Nat) (i : Nat) : cut (some (i : Int)) (some ((i : Int) + 1)) s = (s.drop i).take 1 := by
  unfold cut MP.bound
  have h1 : ¬ ((i : Int) < 0) := by omega
  have h2 : ¬ ((i : Int) + 1 < 0) := by omega
  simp only [h1, h2, if_false, Int.toNat_natCast]
  have e : ((i : Int) + 1).toNat = i + 1 := by omega
  rw [e]
  by_cases h : i < s.length
  · rw [Nat.min_eq_left (by omega), Nat.min_eq_left (by omega)]
    rw [show i + 1 - i = 1 by omega]
  · rw [Nat.min_eq_right (by omega), Nat.min_eq_right (by omega)]
    rw [List.drop_eq_nil_of_le (by omega), List.drop_eq_nil_of_le (by omega)]
    simp
theorem slc_str {s : List Nat} {a b : Option Int} (h : s.length ≤ sizeLine) : opSlc a b (.str s) = some (.str (cut a b s)) := if_pos h
theorem take1 {s : List Nat} : ∀ (c : Nat), decide (s.take 1 = [c]) = decide (s.head? = some c) := by
  intro c
  cases s with
  | nil => simp
  | cons x r => simp
theorem arrow_loop (d : Nat) (φ : Sto) (s : List Nat) (i : Nat) (hs : s.length ≤ 1000000) (hg : good s = true) : ∀ (n m : Nat), m + n = 4 → 
    wloop (fun ρ φ => (evalE P.gv (P.call d) (.andN (.cons (.cmp .lt (.var 2) (.blt .len (.glob 1))) (.cons (.cmp .eq (.slc (.var 0) (.bin .add (.var 1) (.var 2)) (.bin .add (.bin .add (.var 1) (.var 2)) (.int 1))) (.idx (.glob 1) (.var 2))) .nil))) ρ φ).bind fun x φ1 => .ofO (truthy x) φ1)
      (fun ρ φ => evalS P.gv P.fr (P.call d) (.cons (.sset 2 (.bin .add (.var 2) (.int 1))) .nil) ρ φ) [.val (.str s), .val (.int i), .val (.int m)] φ = .nx [.val (.str s), .val (.int i), .val (.int (m + pre (ARR.drop m) (s.drop (i + m)) : Nat))] φ := by
  intro n
  have hz : s.length ≤ sizeLine := by rw [szl]; omega
  have ha : ARR.length ≤ sizeLine := by rw [szl]; decide
  have ga : good ARR = true := by decide
  induction n with
  | zero =>
    intro m hm
    have e : m = 4 := by omega
    subst e
    refine wloop_done ?_
    simp [gv1, len_str ha, show ARR.length = 4 from rfl]
  | succ n ih =>
    intro m hm
    have h1 : m < 4 := by omega
    have hlen : ARR.length = 4 := rfl
    have hm1 : m < ARR.length := by omega
    have hc : ARR[m]? = some ARR[m] := List.getElem?_eq_getElem hm1
    have hd : ARR.drop m = ARR[m] :: ARR.drop (m + 1) := List.drop_eq_getElem_cons hm1
    have hgc : good [ARR[m]] = true := by
      unfold good
      rw [List.all_eq_true]
      intro x hx
      rw [List.mem_singleton] at hx
      subst hx
      exact List.all_eq_true.mp ga _ (List.getElem_mem hm1)
    have cond : ((evalE P.gv (P.call d) (.andN (.cons (.cmp .lt (.var 2) (.blt .len (.glob 1))) (.cons (.cmp .eq (.slc (.var 0) (.bin .add (.var 1) (.var 2)) (.bin .add (.bin .add (.var 1) (.var 2)) (.int 1))) (.idx (.glob 1) (.var 2))) .nil))) [.val (.str s), .val (.int i), .val (.int m)] φ).bind fun x φ1 => .ofO (truthy x) φ1) = .ok (decide ((s.drop (i + m)).head? = some ARR[m])) φ := by
      have e1 : ((i : Int) + (m : Int)) = ((i + m : Nat) : Int) := by omega
      have h4 : ((m : Int) < 4) := by omega
      have g1 : good ((s.drop (i + m)).take 1) = true := by
        rw [← cut1]
        exact good_cut hg _ _
      simp only [ev_and, and_cons, and_one, ev_cmp, ev_var, ev_glob, ev_blt, ev_slc, ev_bin, ev_int, ev_idx, List.getElem?_cons_zero, List.getElem?_cons_succ, Out.bind_ok, Out.ofO_some, gv1, len_str ha, hlen, lt_int, Option.map_some, tru_bl,
        T.isNil, Bool.false_eq_true, if_false, add_int, partOf, e1, slc_str hz, cut1, idx_str ha hc, eq_str _ _ g1 hgc, take1]
      rw [show decide ((m : Int) < ((4 : Nat) : Int)) = true from decide_eq_true (by omega)]
      rfl
    cases hh : decide ((s.drop (i + m)).head? = some ARR[m]) with
    | false =>
      refine (wloop_done (by rw [← hh]; exact cond)).trans ?_
      have e : pre (ARR.drop m) (s.drop (i + m)) = 0 := by
        rw [hd]
        cases hq : s.drop (i + m) with
        | nil => rfl
        | cons x r =>
          rw [hq] at hh
          have hx : ¬ x = ARR[m] := by simpa using hh
          exact if_neg fun z => hx z.symm
      rw [e]
      rfl
    | true =>
      refine (wloop_step (φ1 := φ) (φ2 := φ) (ρ2 := [.val (.str s), .val (.int i), .val (.int (m + 1 : Nat))]) (by rw [← hh]; exact cond) ?_).trans ?_
      · simp [T.fresh]
      · rw [ih (m + 1) (by omega)]
        have e : pre (ARR.drop m) (s.drop (i + m)) = pre (ARR.drop (m + 1)) (s.drop (i + (m + 1))) + 1 := by
          rw [hd]
          cases hq : s.drop (i + m) with
          | nil => rw [hq] at hh; simp at hh
          | cons x r =>
            rw [hq] at hh
            have hx : x = ARR[m] := by simpa using hh
            have hr : s.drop (i + (m + 1)) = r := by
              have := congrArg List.tail hq
              rw [List.tail_drop, List.tail_cons] at this
              rw [← this]
              congr 1
            rw [hr]
            exact if_pos hx.symm
        rw [e, show m + 1 + pre (ARR.drop (m + 1)) (s.drop (i + (m + 1))) = m + (pre (ARR.drop (m + 1)) (s.drop (i + (m + 1))) + 1) by omega]
theorem arrow_end_spec (d : Nat) (φ : Sto) (s : List Nat) (i : Nat) (hs : s.length ≤ 1000000) (hg : good s = true) : P.call (d + 1) 1 [.str s, .int i] φ = .ok (.int (i + pre ARR (s.drop i) : Nat)) φ := by
  rw [call_eq (fn := ⟨2, 3, false, b_arrow_end⟩) rfl rfl]
  show (evalS P.gv P.fr (P.call d) b_arrow_end [.val (.str s), .val (.int i), .none] φ).out false = _
  unfold b_arrow_end
  rw [st_cons, st_set, ev_int]
  show (evalS P.gv P.fr (P.call d) _ [.val (.str s), .val (.int i), .val (.int (0 : Nat))] φ).out false = _
  rw [st_cons, st_while, arrow_loop d φ s i hs hg 4 0 rfl]
  simp
end K02
/-! k01: kind_end. -/
namespace K02
open MP PySem
def lead : List Nat → Nat
  | c :: r => if c = 40 then lead r + 1 else 0
  | [] => 0
theorem run_le : ∀ (n : Nat) (s : List Nat), run n s ≤ s.length
  | 0, _ => by simp [run]
  | n + 1, [] => by simp [run]
  | n + 1, c :: r => by
    unfold run
    split
    · have := run_le n r
      rw [List.length_cons]
      omega
    · omega
theorem pre_le : ∀ (a s : List Nat), pre a s ≤ s.length
  | [], s => by simp [pre]
  | a :: as, [] => by simp [pre]
  | a :: as, b :: bs => by
    unfold pre
    split
    · have := pre_le as bs
      rw [List.length_cons]
      omega
    · omega
/-- one turn's rest: the stack of levels, what is left -/
def popC (L : List Bool) (q : List Nat) : Bool := decide (q.head? = some 41) && (decide (1 < L.length) && decide (L.head? = some true))
def popL (L : List Bool) (q : List Nat) : List Bool := if popC L q then L.tail else L
def popQ (L : List Bool) (q : List Nat) : List Nat := if popC L q then q.tail else q
theorem popQ_le (L : List Bool) (q : List Nat) : (popQ L q).length ≤ q.length := by
  unfold popQ
  split
  · simp
  · exact Nat.le_refl _
/-- does kind_end accept? L: the levels, the inmost first; true: an arrow was seen there -/
def lv1 (L : List Bool) (s : List Nat) : List Bool := List.replicate (lead s) false ++ L
def rs1 (s : List Nat) : List Nat := s.drop (lead s)
def q1 (s : List Nat) : List Nat := (rs1 s).drop (run 8 (rs1 s))
def acc (L : List Bool) (s : List Nat) : Bool :=
  if run 8 (rs1 s) = 0 then false else
  if q1 s = [] then decide ((lv1 L s).length = 1) else
  if h : pre ARR (popQ (lv1 L s) (q1 s)) = 4 then acc (true :: (popL (lv1 L s) (q1 s)).tail) ((popQ (lv1 L s) (q1 s)).drop 4) else false
termination_by s.length
decreasing_by
  have h1 := popQ_le (lv1 L s) (q1 s)
  have h3 := pre_le ARR (popQ (lv1 L s) (q1 s))
  have h4 : (q1 s).length ≤ s.length := by
    unfold q1 rs1
    simp only [List.length_drop]
    omega
  simp only [List.length_drop]
  omega
def enc (L : List Bool) : List Nat := (L.map fun b => if b then 43 else 46).reverse
theorem enc_len (L : List Bool) : (enc L).length = L.length := by simp [enc]
theorem enc_push (L : List Bool) (b : Bool) : enc L ++ [if b then 43 else 46] = enc (b :: L) := by simp [enc]
theorem enc_good (L : List Bool) : good (enc L) = true := by
  unfold good enc
  rw [List.all_eq_true]
  intro x hx
  rw [List.mem_reverse, List.mem_map] at hx
  obtain ⟨b, _, rfl⟩ := hx
  cases b <;> decide
theorem enc_drop (L : List Bool) : (enc L).dropLast = enc L.tail := by
  cases L with
  | nil => rfl
  | cons b r => rw [← enc_push, List.dropLast_concat]; rfl
theorem enc_last {b : Bool} {L : List Bool} : (enc (b :: L))[L.length]? = some (if b then 43 else 46) := by
  rw [← enc_push, ← enc_len L, List.getElem?_concat_length]
theorem add_str {a b : List Nat} (h : a.length + b.length ≤ sizeLine) : opBin .add (.str a) (.str b) = some (.str (a ++ b)) := if_pos h
theorem idx_last {s : List Nat} {c : Nat} (h : s.length ≤ sizeLine) (h0 : s ≠ []) (hc : s[s.length - 1]? = some c) : opIdx (.str s) (.int (-1)) = some (.str [c]) := by
  show (if s.length ≤ sizeLine then (ixW s (-1)).map fun c => W.str [c] else none) = _
  rw [if_pos h]
  have hl : 0 < s.length := List.length_pos_iff.mpr h0
  have e : ixW s (-1) = some c := by
    unfold ixW
    rw [if_neg (by omega), if_pos (by omega), show ((-1 : Int) + (s.length : Int)).toNat = s.length - 1 by omega]
    exact hc
  rw [e]
  rfl
theorem cut_last {s : List Nat} : cut none (some (-1)) s = s.dropLast := by
  unfold cut MP.bound
  have e : ((-1 : Int) + (s.length : Int)).toNat = s.length - 1 := by omega
  simp only [show ((-1 : Int) < 0) from by decide, if_true, e]
  rw [List.drop_zero, Nat.sub_zero, List.dropLast_eq_take]
def kLc : T := .cmp .eq (.slc (.var 0) (.var 1) (.bin .add (.var 1) (.int 1))) (.str [40])
def kLb : T := .cons (.sset 2 (.bin .add (.var 2) (.str [46]))) (.cons (.sset 1 (.bin .add (.var 1) (.int 1))) .nil)
theorem paren_loop (c : Calls) (φ : Sto) (s : List Nat) (e : Sl) (hs : s.length ≤ 1000000) (hg : good s = true) : ∀ (n i : Nat) (L : List Bool), lead (s.drop i) = n → L.length + n ≤ 2000000 →
    wloop (fun ρ φ => (evalE P.gv c kLc ρ φ).bind fun x φ1 => .ofO (truthy x) φ1) (fun ρ φ => evalS P.gv P.fr c kLb ρ φ) [.val (.str s), .val (.int i), .val (.str (enc L)), e] φ = .nx [.val (.str s), .val (.int (i + n : Nat)), .val (.str (enc (List.replicate n false ++ L))), e] φ := by
  intro n
  have hz : s.length ≤ sizeLine := by rw [szl]; omega
  have cond : ∀ (i : Nat) (L : List Bool), ((evalE P.gv c kLc [.val (.str s), .val (.int i), .val (.str (enc L)), e] φ).bind fun x φ1 => .ofO (truthy x) φ1) = .ok (decide ((s.drop i).head? = some 40)) φ := fun i L => by
    have g1 : good ((s.drop i).take 1) = true := by
      rw [← cut1]
      exact good_cut hg _ _
    unfold kLc
    simp only [ev_cmp, ev_var, ev_slc, ev_bin, ev_int, ev_str, List.getElem?_cons_zero, List.getElem?_cons_succ, Out.bind_ok, Out.ofO_some, Option.map_some, tru_bl,
        T.isNil, Bool.false_eq_true, if_false, add_int, partOf, slc_str hz, cut1, eq_str _ _ g1 (show good [40] = true by decide), take1]
  induction n with
  | zero =>
    intro i L hl _
    refine wloop_done ((cond i L).trans ?_)
    have : ¬ (s.drop i).head? = some 40 := fun z => by
      cases hq : s.drop i with
      | nil => rw [hq] at z; cases z
      | cons x r =>
        rw [hq] at z hl
        have hx : x = 40 := by simpa using z
        simp [lead, hx] at hl
    rw [decide_eq_false this]
  | succ n ih =>
    intro i L hl hb
    cases hq : s.drop i with
    | nil => rw [hq] at hl; simp [lead] at hl
    | cons x r =>
      rw [hq] at hl
      unfold lead at hl
      split at hl
      · rename_i hx
        subst hx
        have hr : s.drop (i + 1) = r := by
          have := congrArg List.tail hq
          rw [List.tail_drop, List.tail_cons] at this
          exact this
        refine (wloop_step (φ1 := φ) (φ2 := φ) (ρ2 := [.val (.str s), .val (.int (i + 1 : Nat)), .val (.str (enc (false :: L))), e]) ((cond i L).trans (by rw [hq]; rfl)) ?_).trans ?_
        · have hsz : (enc L).length + [46].length ≤ sizeLine := by rw [enc_len, szl]; simp; omega
          have hp : enc L ++ [46] = enc (false :: L) := enc_push L false
          unfold kLb
          simp [T.fresh, add_str hsz, hp]
        · rw [ih (i + 1) (false :: L) (by rw [hr]; omega) (by rw [List.length_cons]; omega)]
          have e2 : List.replicate n false ++ (false :: L) = List.replicate (n + 1) false ++ L := by
            rw [List.replicate_succ', List.append_assoc]; rfl
          rw [e2, show i + 1 + n = i + (n + 1) by omega]
      · omega
/-- a turn's rest -/
def kR : T := (.cons (.sset 3 (.call 0 (.cons (.var 0) (.cons (.var 1) .nil)))) (.cons (.sif (.cmp .eq (.var 3) (.var 1))
      (.cons (.sret (.tup (.cons (.var 1) (.cons (.bl false) .nil)))) .nil)
      .nil) (.cons (.sset 1 (.var 3)) (.cons (.sif (.cmp .eq (.var 1) (.blt .len (.var 0)))
      (.cons (.sret (.tup (.cons (.var 1) (.cons (.cmp .eq (.blt .len (.var 2)) (.int 1)) .nil)))) .nil)
      .nil) (.cons (.sif (.andN (.cons (.cmp .eq (.idx (.var 0) (.var 1)) (.str [41])) (.cons (.cmp .gt (.blt .len (.var 2)) (.int 1)) (.cons (.cmp .eq (.idx (.var 2) (.neg (.int 1))) (.str [43])) .nil))))
      (.cons (.sset 2 (.slc (.var 2) .nil (.neg (.int 1)))) (.cons (.sset 1 (.bin .add (.var 1) (.int 1))) .nil))
      .nil) (.cons (.sset 3 (.call 1 (.cons (.var 0) (.cons (.var 1) .nil)))) (.cons (.sif (.cmp .lt (.var 3) (.bin .add (.var 1) (.blt .len (.glob 1))))
      (.cons (.sret (.tup (.cons (.var 3) (.cons (.bl false) .nil)))) .nil)
      .nil) (.cons (.sset 2 (.bin .add (.slc (.var 2) .nil (.neg (.int 1))) (.str [43]))) (.cons (.sset 1 (.var 3)) .nil)))))))))
theorem b_kind_is : b_kind_end = .cons (.sset 2 (.str [46])) (.cons (.swhile (.bl true) (.cons (.swhile kLc kLb) kR)) .nil) := rfl
/-- the second half of a turn, from the arrow on -/
def kR2 : T := (.cons (.sset 3 (.call 1 (.cons (.var 0) (.cons (.var 1) .nil)))) (.cons (.sif (.cmp .lt (.var 3) (.bin .add (.var 1) (.blt .len (.glob 1))))
      (.cons (.sret (.tup (.cons (.var 3) (.cons (.bl false) .nil)))) .nil)
      .nil) (.cons (.sset 2 (.bin .add (.slc (.var 2) .nil (.neg (.int 1))) (.str [43]))) (.cons (.sset 1 (.var 3)) .nil))))
theorem arrow_half (d : Nat) (φ : Sto) (s : List Nat) (e : Sl) (hs : s.length ≤ 1000000) (hg : good s = true) (i : Nat) (L : List Bool) (hL : L.length ≤ 2000000) :
    evalS P.gv P.fr (P.call (d + 1)) kR2 [.val (.str s), .val (.int i), .val (.str (enc L)), e] φ =
      if pre ARR (s.drop i) = 4 then .nx [.val (.str s), .val (.int (i + 4 : Nat)), .val (.str (enc (true :: L.tail))), .val (.int (i + 4 : Nat))] φ
      else .rt (.tup [.int (i + pre ARR (s.drop i) : Nat), .bl false]) φ := by
  have ha : ARR.length ≤ sizeLine := by rw [szl]; decide
  have hlen : ARR.length = 4 := rfl
  have p4 : pre ARR (s.drop i) ≤ 4 := by
    have key : ∀ (a t : List Nat), pre a t ≤ a.length := by
      intro a
      induction a with
      | nil => intro t; simp [pre]
      | cons x a ih =>
        intro t
        cases t with
        | nil => simp [pre]
        | cons y t =>
          unfold pre
          split
          · have := ih t
            rw [List.length_cons]; omega
          · omega
    exact key ARR _
  have hsz : (enc L).length ≤ sizeLine := by rw [enc_len, szl]; omega
  have hsz2 : (enc L.tail).length + [43].length ≤ sizeLine := by rw [enc_len, szl]; simp; omega
  unfold kR2
  rw [st_cons, st_set, ev_call, es_cons, ev_var, List.getElem?_cons_zero]
  dsimp only
  rw [Out.bind_ok, es_cons, ev_var, List.getElem?_cons_succ, List.getElem?_cons_zero]
  dsimp only
  rw [Out.bind_ok, es_nil, Out.bind_ok, Out.bind_ok, Out.bind_ok, arrow_end_spec d φ s i hs hg, Out.toR_ok]
  generalize hp : pre ARR (s.drop i) = p at p4 ⊢
  by_cases h : p = 4
  · subst h
    have hp2 : enc L.tail ++ [43] = enc (true :: L.tail) := enc_push L.tail true
    have hlt : decide (((i + 4 : Nat) : Int) < (i : Int) + ((4 : Nat) : Int)) = false := decide_eq_false (by omega)
    have hlt' : ¬ ((i : Int) + 4 < (i : Int) + 4) := by omega
    simp [T.fresh, gv1, len_str ha, hlen, T.isNil, partOf, slc_str hsz, cut_last, enc_drop, add_str hsz2, hp2, hlt, hlt']
  · have hlt : ((i : Int) + (p : Int) < (i : Int) + 4) := by omega
    have h2 : (2 : Nat) ≤ sizeLine := by decide
    simp [T.fresh, gv1, len_str ha, hlen, h, hlt, h2]
def kPop : T := (.sif (.andN (.cons (.cmp .eq (.idx (.var 0) (.var 1)) (.str [41])) (.cons (.cmp .gt (.blt .len (.var 2)) (.int 1)) (.cons (.cmp .eq (.idx (.var 2) (.neg (.int 1))) (.str [43])) .nil))))
      (.cons (.sset 2 (.slc (.var 2) .nil (.neg (.int 1)))) (.cons (.sset 1 (.bin .add (.var 1) (.int 1))) .nil))
      .nil)
theorem kR_is : kR = (.cons (.sset 3 (.call 0 (.cons (.var 0) (.cons (.var 1) .nil)))) (.cons (.sif (.cmp .eq (.var 3) (.var 1))
      (.cons (.sret (.tup (.cons (.var 1) (.cons (.bl false) .nil)))) .nil)
      .nil) (.cons (.sset 1 (.var 3)) (.cons (.sif (.cmp .eq (.var 1) (.blt .len (.var 0)))
      (.cons (.sret (.tup (.cons (.var 1) (.cons (.cmp .eq (.blt .len (.var 2)) (.int 1)) .nil)))) .nil)
      .nil) (.cons kPop kR2))))) := rfl
theorem good_one {s : List Nat} (h : good s = true) {i c : Nat} (hc : s[i]? = some c) : good [c] = true := by
  unfold good at h ⊢
  rw [List.all_eq_true] at h ⊢
  intro x hx
  rw [List.mem_singleton] at hx
  subst hx
  exact h _ (List.mem_of_getElem? hc)
theorem pop_half (c : Calls) (φ : Sto) (s : List Nat) (e : Sl) (hs : s.length ≤ 1000000) (hg : good s = true) (i : Nat) (L : List Bool) (hL : L.length ≤ 2000000) (hi : i < s.length) :
    evalS P.gv P.fr c kPop [.val (.str s), .val (.int i), .val (.str (enc L)), e] φ = if popC L (s.drop i) then .nx [.val (.str s), .val (.int (i + 1 : Nat)), .val (.str (enc L.tail)), e] φ else .nx [.val (.str s), .val (.int i), .val (.str (enc L)), e] φ := by
  have hz : s.length ≤ sizeLine := by rw [szl]; omega
  have hsz : (enc L).length ≤ sizeLine := by rw [enc_len, szl]; omega
  have hc : s[i]? = some s[i] := List.getElem?_eq_getElem hi
  have hd : s.drop i = s[i] :: s.drop (i + 1) := List.drop_eq_getElem_cons hi
  have h41 : good [41] = true := by decide
  have h43 : good [43] = true := by decide
  unfold kPop
  rw [hd]
  by_cases h1 : s[i] = 41
  · by_cases h2 : 1 < L.length
    · match L, h2, hL, hsz with
      | b :: L', h2, hL, hsz =>
        have hl : (enc (b :: L'))[(enc (b :: L')).length - 1]? = some (if b then 43 else 46) := by
          rw [enc_len, List.length_cons, Nat.add_sub_cancel]
          exact enc_last
        have hne : enc (b :: L') ≠ [] := fun z => by
          have := congrArg List.length z
          rw [enc_len] at this
          simp at this
        have h2' : (1 : Int) < (L'.length : Int) + 1 := by rw [List.length_cons] at h2; omega
        have h2n : 0 < L'.length := by rw [List.length_cons] at h2; omega
        cases b with
        | true => simp [idx_str hz hc, eq_str _ _ (good_one hg hc) h41, eq_str _ _ h41 h41, h1, len_str hsz, enc_len, h2', idx_last hsz hne hl, eq_str _ _ (show good [43] = true from h43) h43, T.fresh, T.isNil, partOf, slc_str hsz, cut_last, enc_drop, popC, h2n]
        | false => simp [idx_str hz hc, eq_str _ _ (good_one hg hc) h41, eq_str _ _ h41 h41, h1, len_str hsz, enc_len, h2', idx_last hsz hne hl, eq_str _ _ (show good [46] = true by decide) h43, T.fresh, T.isNil, partOf, slc_str hsz, cut_last, enc_drop, popC, h2n]
    · have h2' : ¬ (1 : Int) < (L.length : Int) := by omega
      simp [idx_str hz hc, eq_str _ _ (good_one hg hc) h41, eq_str _ _ h41 h41, h1, len_str hsz, enc_len, h2', popC, h2]
  · have hn : ¬ s[i]? = some 41 := by rw [hc]; simpa using h1
    simp [idx_str hz hc, eq_str _ _ (good_one hg hc) h41, h1, popC, hn]
theorem kR_step (d : Nat) (φ : Sto) (s : List Nat) (e : Sl) (hs : s.length ≤ 1000000) (hg : good s = true) (i : Nat) (L : List Bool) (hL : L.length ≤ 2000000) (hi : i ≤ s.length) :
    evalS P.gv P.fr (P.call (d + 1)) kR [.val (.str s), .val (.int i), .val (.str (enc L)), e] φ =
      if run 8 (s.drop i) = 0 then .rt (.tup [.int i, .bl false]) φ
      else if (s.drop i).drop (run 8 (s.drop i)) = [] then .rt (.tup [.int (i + run 8 (s.drop i) : Nat), .bl (decide (L.length = 1))]) φ
      else if popC L ((s.drop i).drop (run 8 (s.drop i))) then evalS P.gv P.fr (P.call (d + 1)) kR2 [.val (.str s), .val (.int (i + run 8 (s.drop i) + 1 : Nat)), .val (.str (enc L.tail)), .val (.int (i + run 8 (s.drop i) : Nat))] φ
      else evalS P.gv P.fr (P.call (d + 1)) kR2 [.val (.str s), .val (.int (i + run 8 (s.drop i) : Nat)), .val (.str (enc L)), .val (.int (i + run 8 (s.drop i) : Nat))] φ := by
  have hz : s.length ≤ sizeLine := by rw [szl]; omega
  have hsz : (enc L).length ≤ sizeLine := by rw [enc_len, szl]; omega
  have h2 : (2 : Nat) ≤ sizeLine := by decide
  rw [kR_is, st_cons, st_set, ev_call, es_cons, ev_var, List.getElem?_cons_zero]
  dsimp only
  rw [Out.bind_ok, es_cons, ev_var, List.getElem?_cons_succ, List.getElem?_cons_zero]
  dsimp only
  rw [Out.bind_ok, es_nil, Out.bind_ok, Out.bind_ok, Out.bind_ok, name_end_spec d φ s i hs hi, Out.toR_ok]
  have hrl := run_le 8 (s.drop i)
  rw [List.length_drop] at hrl
  rw [List.drop_drop]
  generalize run 8 (s.drop i) = n at hrl ⊢
  by_cases h0 : n = 0
  · subst h0
    simp [T.fresh, h2]
  · have hne : ¬ ((i : Int) + (n : Int) = (i : Int)) := by omega
    have e0 : ((i : Int) + (n : Int)) = ((i + n : Nat) : Int) := by omega
    by_cases h1 : s.drop (i + n) = []
    · have hl : i + n = s.length := by
        have := congrArg List.length h1
        rw [List.length_drop, List.length_nil] at this
        omega
      have hl' : ((s.length : Int) = (i : Int) + (n : Int)) := by omega
      have hL1 : ((L.length : Int) = 1) ↔ L.length = 1 := by omega
      simp [T.fresh, h2, h0, hne, h1, len_str hz, len_str hsz, enc_len, hl', hL1]
    · have hlt : i + n < s.length := by
        have : (s.drop (i + n)).length ≠ 0 := fun z => h1 (List.length_eq_zero_iff.mp z)
        rw [List.length_drop] at this
        omega
      have hl' : ¬ ((i : Int) + (n : Int) = (s.length : Int)) := by omega
      have pp := pop_half (P.call (d + 1)) φ s (.val (.int (i + n : Nat))) hs hg (i + n) L hL hlt
      rw [if_neg h0, if_neg h1]
      have hstep : ((if (T.call 0 ((T.var 0).cons ((T.var 1).cons T.nil))).fresh P.fr = true then if (W.int ↑(i + n)).isObj = true then Res.nx (List.set [Sl.val (W.str s), .val (.int i), .val (.str (enc L)), e] 3 (Sl.own (W.int ↑(i + n)))) φ else Res.bad
          else Res.nx (List.set [Sl.val (W.str s), .val (.int i), .val (.str (enc L)), e] 3 (Sl.val (W.int ↑(i + n)))) φ).andThen fun ρ1 φ1 => evalS P.gv P.fr (P.call (d + 1)) (.cons (.sif (.cmp .eq (.var 3) (.var 1))
      (.cons (.sret (.tup (.cons (.var 1) (.cons (.bl false) .nil)))) .nil)
      .nil) (.cons (.sset 1 (.var 3)) (.cons (.sif (.cmp .eq (.var 1) (.blt .len (.var 0)))
      (.cons (.sret (.tup (.cons (.var 1) (.cons (.cmp .eq (.blt .len (.var 2)) (.int 1)) .nil)))) .nil)
      .nil) (.cons kPop kR2)))) ρ1 φ1) = evalS P.gv P.fr (P.call (d + 1)) (.cons kPop kR2) [.val (.str s), .val (.int (i + n : Nat)), .val (.str (enc L)), .val (.int (i + n : Nat))] φ := by
        generalize hk : (T.cons kPop kR2) = k
        rw [show (T.call 0 ((T.var 0).cons ((T.var 1).cons T.nil))).fresh P.fr = false from rfl, if_neg Bool.false_ne_true, Res.andThen_nx]
        simp [T.fresh, hne, h0, len_str hz, hl']
      rw [hstep, st_cons, pp]
      split
      · rw [Res.andThen_nx]
      · rw [Res.andThen_nx]
end K02
/-! k01: kind_end's loop. -/
namespace K02
open MP PySem
theorem lead_le : ∀ s : List Nat, lead s ≤ s.length
  | [] => by simp [lead]
  | c :: r => by
    unfold lead
    split
    · have := lead_le r
      rw [List.length_cons]; omega
    · omega
theorem kind_loop (d : Nat) (φ : Sto) (s : List Nat) (hs : s.length ≤ 1000000) (hg : good s = true) : ∀ (n i : Nat) (L : List Bool) (e : Sl), s.length - i ≤ n → i ≤ s.length → L.length ≤ i + 1 →
    ∃ k : Int, wloop (fun ρ φ => (evalE P.gv (P.call (d + 1)) (.bl true) ρ φ).bind fun x φ1 => .ofO (truthy x) φ1) (fun ρ φ => evalS P.gv P.fr (P.call (d + 1)) (.cons (.swhile kLc kLb) kR) ρ φ) [.val (.str s), .val (.int i), .val (.str (enc L)), e] φ = .rt (.tup [.int k, .bl (acc L (s.drop i))]) φ := by
  intro n
  induction n using Nat.strongRecOn with
  | _ n ih =>
    intro i L e hn hi hL
    have hc : ((evalE P.gv (P.call (d + 1)) (.bl true) [.val (.str s), .val (.int i), .val (.str (enc L)), e] φ).bind fun x φ1 => .ofO (truthy x) φ1) = .ok true φ := rfl
    have hll := lead_le (s.drop i)
    rw [List.length_drop] at hll
    have hp := paren_loop (P.call (d + 1)) φ s e hs hg (lead (s.drop i)) i L rfl (by omega)
    have hrs : s.drop (i + lead (s.drop i)) = rs1 (s.drop i) := by unfold rs1; rw [List.drop_drop]
    have hlen1 : (lv1 L (s.drop i)).length = lead (s.drop i) + L.length := by unfold lv1; rw [List.length_append, List.length_replicate]
    have hk := kR_step d φ s e hs hg (i + lead (s.drop i)) (lv1 L (s.drop i)) (by omega) (by omega)
    rw [hrs, show (rs1 (s.drop i)).drop (run 8 (rs1 (s.drop i))) = q1 (s.drop i) from rfl] at hk
    have hbody : evalS P.gv P.fr (P.call (d + 1)) (.cons (.swhile kLc kLb) kR) [.val (.str s), .val (.int i), .val (.str (enc L)), e] φ = evalS P.gv P.fr (P.call (d + 1)) kR [.val (.str s), .val (.int (i + lead (s.drop i) : Nat)), .val (.str (enc (lv1 L (s.drop i)))), e] φ := by
      rw [st_cons, st_while, hp]
      rfl
    have hrl := run_le 8 (rs1 (s.drop i))
    have hrsl : (rs1 (s.drop i)).length = s.length - i - lead (s.drop i) := by unfold rs1; rw [List.length_drop, List.length_drop]
    rw [acc]
    by_cases h0 : run 8 (rs1 (s.drop i)) = 0
    · rw [if_pos h0] at hk
      rw [if_pos h0]
      exact ⟨_, wloop_rt hc (hbody.trans hk)⟩
    · rw [if_neg h0] at hk
      rw [if_neg h0]
      by_cases h1 : q1 (s.drop i) = []
      · rw [if_pos h1] at hk
        rw [if_pos h1]
        exact ⟨_, wloop_rt hc (hbody.trans hk)⟩
      · rw [if_neg h1] at hk
        rw [if_neg h1]
        -- from the arrow on
        have go : ∀ (j : Nat) (L2 : List Bool) (e2 : Sl), s.drop j = popQ (lv1 L (s.drop i)) (q1 (s.drop i)) → L2 = popL (lv1 L (s.drop i)) (q1 (s.drop i)) → i ≤ j → j ≤ s.length → L2.length ≤ j + 1 →
            evalS P.gv P.fr (P.call (d + 1)) kR [.val (.str s), .val (.int (i + lead (s.drop i) : Nat)), .val (.str (enc (lv1 L (s.drop i)))), e] φ = evalS P.gv P.fr (P.call (d + 1)) kR2 [.val (.str s), .val (.int j), .val (.str (enc L2)), e2] φ →
            ∃ k : Int, wloop (fun ρ φ => (evalE P.gv (P.call (d + 1)) (.bl true) ρ φ).bind fun x φ1 => .ofO (truthy x) φ1) (fun ρ φ => evalS P.gv P.fr (P.call (d + 1)) (.cons (.swhile kLc kLb) kR) ρ φ) [.val (.str s), .val (.int i), .val (.str (enc L)), e] φ =
              .rt (.tup [.int k, .bl (if h : pre ARR (popQ (lv1 L (s.drop i)) (q1 (s.drop i))) = 4 then acc (true :: (popL (lv1 L (s.drop i)) (q1 (s.drop i))).tail) ((popQ (lv1 L (s.drop i)) (q1 (s.drop i))).drop 4) else false)]) φ := by
          intro j L2 e2 hq hl2 hij hj hlj hev
          subst hl2
          rw [← hq]
          have ha := arrow_half d φ s e2 hs hg j (popL (lv1 L (s.drop i)) (q1 (s.drop i))) (by omega)
          by_cases h4 : pre ARR (s.drop j) = 4
          · rw [if_pos h4] at ha
            rw [dif_pos h4]
            have hpl := pre_le ARR (s.drop j)
            rw [h4, List.length_drop] at hpl
            obtain ⟨k, hk2⟩ := ih (s.length - (j + 4)) (by omega) (j + 4) (true :: (popL (lv1 L (s.drop i)) (q1 (s.drop i))).tail) (.val (.int (j + 4 : Nat))) (Nat.le_refl _) (by omega) (by rw [List.length_cons, List.length_tail]; omega)
            refine ⟨k, (wloop_step hc (hbody.trans (hev.trans ha))).trans ?_⟩
            rw [hk2, List.drop_drop]
          · rw [if_neg h4] at ha
            rw [dif_neg h4]
            exact ⟨_, wloop_rt hc (hbody.trans (hev.trans ha))⟩
        have hq1l : (q1 (s.drop i)).length ≠ 0 := fun z => h1 (List.length_eq_zero_iff.mp z)
        have hq1e : (q1 (s.drop i)).length = s.length - i - lead (s.drop i) - run 8 (rs1 (s.drop i)) := by unfold q1; rw [List.length_drop, hrsl]
        have hq1d : s.drop (i + lead (s.drop i) + run 8 (rs1 (s.drop i))) = q1 (s.drop i) := by unfold q1; rw [← hrs, List.drop_drop]
        by_cases hpc : popC (lv1 L (s.drop i)) (q1 (s.drop i)) = true
        · refine go (i + lead (s.drop i) + run 8 (rs1 (s.drop i)) + 1) (lv1 L (s.drop i)).tail _ ?_ ?_ (by omega) (by omega) (by rw [List.length_tail, hlen1]; omega) (hk.trans (if_pos hpc))
          · unfold popQ
            rw [if_pos hpc, ← hq1d, List.tail_drop]
          · unfold popL
            rw [if_pos hpc]
        · refine go (i + lead (s.drop i) + run 8 (rs1 (s.drop i))) (lv1 L (s.drop i)) _ ?_ ?_ (by omega) (by omega) (by rw [hlen1]; omega) (hk.trans (if_neg hpc))
          · unfold popQ
            rw [if_neg hpc, hq1d]
          · unfold popL
            rw [if_neg hpc]
theorem kind_end_spec (d : Nat) (φ : Sto) (s : List Nat) (hs : s.length ≤ 1000000) (hg : good s = true) : ∃ k : Int, P.call (d + 2) 2 [.str s, .int 0] φ = .ok (.tup [.int k, .bl (acc [false] s)]) φ := by
  obtain ⟨k, hk⟩ := kind_loop d φ s hs hg s.length 0 [false] .none (by omega) (by omega) (by simp)
  refine ⟨k, ?_⟩
  rw [call_eq (fn := ⟨2, 4, false, b_kind_end⟩) rfl rfl]
  show (evalS P.gv P.fr (P.call (d + 1)) b_kind_end [.val (.str s), .val (.int ((0 : Nat) : Int)), .none, .none] φ).out false = _
  rw [b_kind_is, st_cons, st_set, ev_str, Out.toR_ok]
  show (evalS P.gv P.fr (P.call (d + 1)) (.cons (.swhile (.bl true) (.cons (.swhile kLc kLb) kR)) .nil) [.val (.str s), .val (.int ((0 : Nat) : Int)), .val (.str (enc [false])), .none] φ).out false = _
  rw [st_cons, st_while, hk]
  rfl
end K02
/-! k01: kinds as texts. -/
namespace K02
open MP PySem
def Nm (n : List Nat) : Prop := 1 ≤ n.length ∧ n.length ≤ 8 ∧ ∀ c ∈ n, isL c = true
/-- the texts of kinds; true: it has an arrow -/
inductive Kt : Bool → List Nat → Prop
  | name {n : List Nat} : Nm n → Kt false n
  | arr {n s : List Nat} {b : Bool} : Nm n → Kt b s → Kt true (n ++ (ARR ++ s))
  | par {u s : List Nat} {b : Bool} : Kt true u → Kt b s → Kt true (40 :: (u ++ (41 :: (ARR ++ s))))
/-- what may still come, the stack of levels being L -/
def Cm : Bool → List Bool → List Nat → Prop
  | _, [], s => ∃ a, Kt a s
  | b, _ :: L, s => ∃ u a s', Kt a u ∧ (b || a) = true ∧ s = u ++ (41 :: (ARR ++ s')) ∧ Cm true L s'
def Comp : List Bool → List Nat → Prop
  | [], _ => False
  | b :: L, s => Cm b L s
theorem nm_head {n : List Nat} (h : Nm n) : ∃ c r, n = c :: r ∧ isL c = true := by
  obtain ⟨h1, _, h3⟩ := h
  cases n with
  | nil => simp at h1
  | cons c r => exact ⟨c, r, rfl, h3 c List.mem_cons_self⟩
theorem isL40 : isL 40 = false := rfl
/-- the first piece in parentheses -/
theorem kt_par {a : Bool} {r : List Nat} (h : Kt a (40 :: r)) : ∃ u b s, r = u ++ (41 :: (ARR ++ s)) ∧ Kt true u ∧ Kt b s ∧ a = true := by
  generalize e : 40 :: r = t at h
  cases h with
  | name hn =>
    subst e
    obtain ⟨c, r', e, hc⟩ := nm_head hn
    cases e
    rw [isL40] at hc; cases hc
  | arr hn hs =>
    obtain ⟨c, r', e2, hc⟩ := nm_head hn
    subst e2
    rw [List.cons_append] at e
    cases e
    rw [isL40] at hc; cases hc
  | par hu hs =>
    cases e
    exact ⟨_, _, _, rfl, hu, hs, rfl⟩
theorem comp_par (b : Bool) (L : List Bool) (r : List Nat) : Comp (b :: L) (40 :: r) ↔ Comp (false :: b :: L) r := by
  cases L with
  | nil =>
    constructor
    · rintro ⟨a, h⟩
      obtain ⟨u, b', s, rfl, hu, hs, _⟩ := kt_par h
      exact ⟨u, true, s, hu, rfl, rfl, b', hs⟩
    · rintro ⟨u, a, s, hu, ha, rfl, b', hs⟩
      have ea : a = true := by simpa using ha
      subst ea
      exact ⟨true, .par hu hs⟩
  | cons c L =>
    constructor
    · rintro ⟨u, a, s', hu, ha, e, hc⟩
      cases u with
      | nil =>
        exfalso
        rw [List.nil_append] at e
        cases e
      | cons x u =>
        rw [List.cons_append] at e
        cases e
        obtain ⟨v, b', t, rfl, hv, ht, _⟩ := kt_par hu
        exact ⟨v, true, t ++ (41 :: (ARR ++ s')), hv, rfl, by simp, t, b', s', ht, rfl, rfl, hc⟩
    · rintro ⟨v, a, t, hv, ha, rfl, u, a', s', hu, _, rfl, hc⟩
      have ea : a = true := by simpa using ha
      subst ea
      exact ⟨40 :: (v ++ (41 :: (ARR ++ u))), true, s', .par hv hu, by simp, by simp, hc⟩
theorem comp_lead : ∀ (s : List Nat) (b : Bool) (L : List Bool), Comp (b :: L) s ↔ Comp (lv1 (b :: L) s) (rs1 s)
  | [], b, L => by simp [lv1, rs1, lead]
  | c :: r, b, L => by
    by_cases hc : c = 40
    · subst hc
      rw [comp_par, comp_lead r false (b :: L)]
      have e1 : lv1 (false :: b :: L) r = lv1 (b :: L) (40 :: r) := by
        unfold lv1
        simp only [lead, if_true]
        rw [List.replicate_succ', List.append_assoc]
        rfl
      have e2 : rs1 r = rs1 (40 :: r) := by unfold rs1; simp only [lead, if_true, List.drop_succ_cons]
      rw [e1, e2]
    · simp [lv1, rs1, lead, hc]
theorem lead_rest : ∀ s : List Nat, (rs1 s).head? ≠ some 40
  | [] => by simp [rs1, lead]
  | c :: r => by
    by_cases hc : c = 40
    · subst hc
      have e2 : rs1 (40 :: r) = rs1 r := by unfold rs1; simp only [lead, if_true, List.drop_succ_cons]
      rw [e2]
      exact lead_rest r
    · simp [rs1, lead, hc]
theorem run_nm : ∀ (k : Nat) (n rest : List Nat), (∀ c ∈ n, isL c = true) → n.length ≤ k → (∀ c, rest.head? = some c → isL c = false) → run k (n ++ rest) = n.length
  | 0, n, rest, _, hk, _ => by
    have : n = [] := List.length_eq_zero_iff.mp (by omega)
    subst this
    cases rest <;> rfl
  | k + 1, [], rest, _, _, hr => by
    cases rest with
    | nil => rfl
    | cons c r =>
      have := hr c rfl
      simp [run, this]
  | k + 1, c :: n, rest, h, hk, hr => by
    rw [List.cons_append]
    unfold run
    rw [if_pos (h c List.mem_cons_self), run_nm k n rest (fun x hx => h x (List.mem_cons_of_mem _ hx)) (by simpa using hk) hr]
    rfl
theorem run_split : ∀ (k : Nat) (s : List Nat), (∀ c ∈ s.take (run k s), isL c = true) ∧ run k s ≤ k
  | 0, s => by simp [run]
  | k + 1, [] => by simp [run]
  | k + 1, c :: r => by
    unfold run
    split
    · rename_i h
      obtain ⟨h1, h2⟩ := run_split k r
      refine ⟨fun x hx => ?_, by omega⟩
      rw [List.take_succ_cons] at hx
      rcases List.mem_cons.mp hx with e | e
      · rw [e]; exact h
      · exact h1 x e
    · simp
theorem run_nm8 {r : List Nat} (h : run 8 r ≠ 0) : Nm (r.take (run 8 r)) := by
  obtain ⟨h1, h2⟩ := run_split 8 r
  have h3 := run_le 8 r
  refine ⟨?_, ?_, h1⟩ <;> rw [List.length_take] <;> omega
theorem pre4 {q : List Nat} : pre ARR q = 4 ↔ q = ARR ++ q.drop 4 := by
  constructor
  · intro h
    unfold ARR at h
    match q with
    | [] => simp [pre] at h
    | [a] => simp only [pre] at h; split at h <;> omega
    | [a, b] => simp only [pre] at h; split at h <;> (try split at h) <;> omega
    | [a, b, c] => simp only [pre] at h; split at h <;> (try split at h) <;> (try split at h) <;> omega
    | a :: b :: c :: d :: r =>
      simp only [pre] at h
      by_cases h1 : 32 = a
      · subst h1
        by_cases h2 : 45 = b
        · subst h2
          by_cases h3 : 62 = c
          · subst h3
            by_cases h4 : 32 = d
            · subst h4
              rfl
            · simp [h4] at h
          · simp [h3] at h
        · simp [h2] at h
      · simp [h1] at h
  · intro h
    rw [h]
    simp [ARR, pre]
theorem kt_first {a : Bool} {r : List Nat} (h : Kt a r) (h40 : r.head? ≠ some 40) : ∃ n, Nm n ∧ ((r = n ∧ a = false) ∨ ∃ b s, r = n ++ (ARR ++ s) ∧ Kt b s ∧ a = true) := by
  cases h with
  | name hn => exact ⟨_, hn, .inl ⟨rfl, rfl⟩⟩
  | arr hn hs => exact ⟨_, hn, .inr ⟨_, _, rfl, hs, rfl⟩⟩
  | par hu hs => exact absurd rfl h40
theorem kt_ne {a : Bool} {r : List Nat} (h : Kt a r) : r ≠ [] := by
  cases h with
  | name hn => intro z; subst z; exact absurd hn.1 (by simp)
  | arr hn hs => intro z; have := congrArg List.length z; simp [ARR] at this
  | par hu hs => simp
/-- a turn's rest, in words -/
theorem comp_turn (b : Bool) (L : List Bool) (r : List Nat) (h40 : r.head? ≠ some 40) :
    Comp (b :: L) r ↔ run 8 r ≠ 0 ∧ ((r.drop (run 8 r) = [] ∧ L = []) ∨ (∃ s', r.drop (run 8 r) = ARR ++ s' ∧ Comp (true :: L) s') ∨ ∃ s' c L', L = c :: L' ∧ b = true ∧ r.drop (run 8 r) = 41 :: (ARR ++ s') ∧ Comp (true :: L') s') := by
  have arrNo : ∀ (s : List Nat) (c : Nat), (ARR ++ s).head? = some c → isL c = false := fun s c h => by
    have : c = 32 := by simpa [ARR] using h.symm
    subst this; rfl
  have parNo : ∀ (s : List Nat) (c : Nat), (41 :: s : List Nat).head? = some c → isL c = false := fun s c h => by
    have : c = 41 := by simpa using h.symm
    subst this; rfl
  have at_ : ∀ (n rest : List Nat), Nm n → (∀ c, rest.head? = some c → isL c = false) → run 8 (n ++ rest) = n.length ∧ (n ++ rest).drop (run 8 (n ++ rest)) = rest := fun n rest hn hr => by
    have e := run_nm 8 n rest hn.2.2 hn.2.1 hr
    exact ⟨e, by rw [e, List.drop_left]⟩
  constructor
  · intro h
    cases L with
    | nil =>
      obtain ⟨a, h⟩ := h
      obtain ⟨n, hn, ⟨rfl, _⟩ | ⟨b', s, rfl, hs, _⟩⟩ := kt_first h h40
      · obtain ⟨e1, e2⟩ := at_ r [] hn (by simp)
        rw [List.append_nil] at e1 e2
        exact ⟨by rw [e1]; have := hn.1; omega, .inl ⟨e2, rfl⟩⟩
      · obtain ⟨e1, e2⟩ := at_ n (ARR ++ s) hn (arrNo s)
        exact ⟨by rw [e1]; have := hn.1; omega, .inr (.inl ⟨s, e2, b', hs⟩)⟩
    | cons c L' =>
      obtain ⟨u, a, s', hu, ha, rfl, hc⟩ := h
      have hu40 : u.head? ≠ some 40 := fun z => h40 (by
        cases u with
        | nil => exact absurd rfl (kt_ne hu)
        | cons x u => simpa using z)
      obtain ⟨n, hn, ⟨rfl, rfl⟩ | ⟨b', s, rfl, hs, rfl⟩⟩ := kt_first hu hu40
      · obtain ⟨e1, e2⟩ := at_ u (41 :: (ARR ++ s')) hn (parNo _)
        exact ⟨by rw [e1]; have := hn.1; omega, .inr (.inr ⟨s', c, L', rfl, by simpa using ha, e2, hc⟩)⟩
      · have e0 : n ++ (ARR ++ s) ++ (41 :: (ARR ++ s')) = n ++ (ARR ++ (s ++ (41 :: (ARR ++ s')))) := by simp
        rw [e0]
        obtain ⟨e1, e2⟩ := at_ n (ARR ++ (s ++ (41 :: (ARR ++ s')))) hn (arrNo _)
        exact ⟨by rw [e1]; have := hn.1; omega, .inr (.inl ⟨_, e2, s, b', s', hs, rfl, rfl, hc⟩)⟩
  · rintro ⟨h0, h⟩
    have hn := run_nm8 h0
    have er := List.take_append_drop (run 8 r) r
    generalize r.take (run 8 r) = n at hn er
    rcases h with ⟨h1, rfl⟩ | ⟨s', h1, hc⟩ | ⟨s', c, L', rfl, rfl, h1, hc⟩
    · rw [h1, List.append_nil] at er
      subst er
      exact ⟨false, .name hn⟩
    · rw [h1] at er
      subst er
      cases L with
      | nil =>
        obtain ⟨a, hs⟩ := hc
        exact ⟨true, .arr hn hs⟩
      | cons c L' =>
        obtain ⟨u, a, s2, hu, _, rfl, hc2⟩ := hc
        exact ⟨n ++ (ARR ++ u), true, s2, .arr hn hu, by simp, by simp, hc2⟩
    · rw [h1] at er
      subst er
      exact ⟨n, false, s', .name hn, rfl, rfl, hc⟩
theorem acc_iff : ∀ (k : Nat) (s : List Nat) (b : Bool) (L : List Bool), s.length ≤ k → (acc (b :: L) s = true ↔ Comp (b :: L) s) := by
  intro k
  induction k using Nat.strongRecOn with
  | _ k ih =>
    intro s b L hk
    rw [comp_lead s b L]
    obtain ⟨b1, L1, hL1⟩ : ∃ b1 L1, lv1 (b :: L) s = b1 :: L1 := by
      unfold lv1
      cases lead s with
      | zero => exact ⟨b, L, rfl⟩
      | succ n => exact ⟨false, List.replicate n false ++ (b :: L), by rw [List.replicate_succ]; rfl⟩
    rw [acc, hL1, comp_turn b1 L1 (rs1 s) (lead_rest s)]
    have hq : (rs1 s).drop (run 8 (rs1 s)) = q1 s := rfl
    rw [hq]
    have hlen : (q1 s).length ≤ s.length - run 8 (rs1 s) := by
      unfold q1 rs1
      simp only [List.length_drop]
      omega
    by_cases h0 : run 8 (rs1 s) = 0
    · simp [h0]
    rw [if_neg h0]
    by_cases h1 : q1 s = []
    · rw [if_pos h1, h1]
      simp [h0, ARR]
    rw [if_neg h1]
    by_cases hp : popC (b1 :: L1) (q1 s) = true
    · have hp' := hp
      unfold popC at hp'
      simp only [Bool.and_eq_true, decide_eq_true_eq, List.head?_cons, Option.some.injEq] at hp'
      obtain ⟨p1, p2, rfl⟩ := hp'
      obtain ⟨c, L2, rfl⟩ : ∃ c L2, L1 = c :: L2 := by
        cases L1 with
        | nil => simp at p2
        | cons c L2 => exact ⟨c, L2, rfl⟩
      obtain ⟨t, ht⟩ : ∃ t, q1 s = 41 :: t := by
        cases hqs : q1 s with
        | nil => exact absurd hqs h1
        | cons x t =>
          rw [hqs] at p1
          have : x = 41 := by simpa using p1
          subst this
          exact ⟨t, rfl⟩
      have eQ : popQ (true :: c :: L2) (q1 s) = t := by unfold popQ; rw [if_pos hp, ht]; rfl
      have eL : popL (true :: c :: L2) (q1 s) = c :: L2 := by unfold popL; rw [if_pos hp]; rfl
      rw [eQ, eL, List.tail_cons]
      by_cases h4 : pre ARR t = 4
      · rw [dif_pos h4]
        have et := pre4.mp h4
        have hle := pre_le ARR t
        rw [ih (t.drop 4).length (by rw [ht, List.length_cons] at hlen; rw [List.length_drop]; omega) (t.drop 4) true L2 (Nat.le_refl _)]
        constructor
        · intro hc
          exact ⟨h0, .inr (.inr ⟨t.drop 4, c, L2, rfl, rfl, by rw [ht]; rw [← et], hc⟩)⟩
        · rintro ⟨_, ⟨z, _⟩ | ⟨s', z, _⟩ | ⟨s', c', L', e1, _, e2, hc⟩⟩
          · exact absurd z h1
          · rw [ht] at z; simp [ARR] at z
          · cases e1
            rw [ht] at e2
            have e3 : t = ARR ++ s' := by simpa using e2
            rw [e3]
            have : (ARR ++ s').drop 4 = s' := by simp [ARR]
            rw [this]
            exact hc
      · rw [dif_neg h4]
        constructor
        · intro z; cases z
        · rintro ⟨_, ⟨z, _⟩ | ⟨s', z, _⟩ | ⟨s', c', L', e1, _, e2, hc⟩⟩
          · exact absurd z h1
          · rw [ht] at z; simp [ARR] at z
          · rw [ht] at e2
            have e3 : t = ARR ++ s' := by simpa using e2
            exact absurd (by rw [e3]; simp [ARR, pre]) h4
    · have eQ : popQ (b1 :: L1) (q1 s) = q1 s := by unfold popQ; rw [if_neg hp]
      have eL : popL (b1 :: L1) (q1 s) = b1 :: L1 := by unfold popL; rw [if_neg hp]
      rw [eQ, eL, List.tail_cons]
      have no3 : ¬ ∃ s' c L', L1 = c :: L' ∧ b1 = true ∧ q1 s = 41 :: (ARR ++ s') ∧ Comp (true :: L') s' := by
        rintro ⟨s', c, L', rfl, rfl, e, _⟩
        apply hp
        unfold popC
        rw [e]
        simp
      by_cases h4 : pre ARR (q1 s) = 4
      · rw [dif_pos h4]
        have et := pre4.mp h4
        have hle := pre_le ARR (q1 s)
        rw [ih ((q1 s).drop 4).length (by rw [List.length_drop]; omega) ((q1 s).drop 4) true L1 (Nat.le_refl _)]
        constructor
        · intro hc
          exact ⟨h0, .inr (.inl ⟨_, et, hc⟩)⟩
        · rintro ⟨_, ⟨z, _⟩ | ⟨s', z, hc⟩ | z⟩
          · exact absurd z h1
          · have : (q1 s).drop 4 = s' := by rw [z]; simp [ARR]
            rw [this]
            exact hc
          · exact absurd z no3
      · rw [dif_neg h4]
        constructor
        · intro z; cases z
        · rintro ⟨_, ⟨z, _⟩ | ⟨s', z, hc⟩ | z⟩
          · exact absurd z h1
          · exact absurd (by rw [z]; simp [ARR, pre]) h4
          · exact absurd z no3
theorem acc_kind (s : List Nat) : acc [false] s = true ↔ ∃ a, Kt a s := acc_iff s.length s false [] (Nat.le_refl _)
end K02
/-! k01: the law's own parting at arrows. -/
namespace K02
open MP PySem
/-- the pieces, sign by sign: the depth, signs to be passed over, what is gathered -/
def pcs (d : Int) (sk : Nat) (cur : List Nat) : List Nat → List (List Nat)
  | [] => [cur]
  | c :: r => if 0 < sk then pcs d (sk - 1) cur r
    else if d = 0 ∧ pre ARR (c :: r) = 4 then cur :: pcs d 3 [] r
    else pcs (if c = 40 then d + 1 else if c = 41 then d - 1 else d) 0 (cur ++ [c]) r
def joinA : List (List Nat) → List Nat
  | [] => []
  | [w] => w
  | w :: v :: r => w ++ (ARR ++ joinA (v :: r))
theorem pcs_ne (d : Int) (sk : Nat) (cur s : List Nat) : ∃ w r, pcs d sk cur s = w :: r := by
  induction s generalizing d sk cur with
  | nil => exact ⟨_, _, rfl⟩
  | cons c r ih =>
    unfold pcs
    split
    · exact ih _ _ _
    · split
      · exact ⟨_, _, rfl⟩
      · exact ih _ _ _
theorem pcs_skip (d : Int) (cur : List Nat) : ∀ (k : Nat) (s : List Nat), k ≤ s.length → pcs d k cur s = pcs d 0 cur (s.drop k)
  | 0, s, _ => rfl
  | k + 1, [], h => by simp at h
  | k + 1, c :: r, h => by
    conv => lhs; unfold pcs
    rw [if_pos (Nat.succ_pos k), Nat.add_sub_cancel, pcs_skip d cur k r (by simpa using h)]
    rfl
theorem pcs_join (d : Int) (cur s : List Nat) : joinA (pcs d 0 cur s) = cur ++ s := by
  have key : ∀ (n : Nat) (s : List Nat) (d : Int) (cur : List Nat), s.length ≤ n → joinA (pcs d 0 cur s) = cur ++ s := by
    intro n
    induction n with
    | zero =>
      intro s d cur h
      have : s = [] := List.length_eq_zero_iff.mp (by omega)
      subst this
      simp [pcs, joinA]
    | succ n ih =>
      intro s d cur h
      cases s with
      | nil => simp [pcs, joinA]
      | cons c r =>
        unfold pcs
        rw [if_neg (by omega)]
        split
        · rename_i hp
          have e4 := pre4.mp hp.2
          have hl := pre_le ARR (c :: r)
          rw [hp.2, List.length_cons] at hl
          rw [List.length_cons] at h
          rw [pcs_skip d [] 3 r (by omega)]
          obtain ⟨w, t, hw⟩ := pcs_ne d 0 [] (r.drop 3)
          have i1 := ih (r.drop 3) d [] (by rw [List.length_drop]; omega)
          rw [hw] at i1 ⊢
          show cur ++ (ARR ++ joinA (w :: t)) = _
          rw [i1, List.nil_append]
          conv => rhs; rw [e4]
          rfl
        · rw [ih r _ _ (by simpa using h), List.append_assoc]
          rfl
  exact key s.length s d cur (Nat.le_refl _)
/-- a piece ahead of the last -/
def PieceOk (p : List Nat) : Prop := Nm p ∨ ∃ v, p = 40 :: (v ++ [41]) ∧ Kt true v
theorem kt_join : ∀ (ps : List (List Nat)) (last : List Nat), (∀ p ∈ ps, PieceOk p) → Nm last → Kt (!ps.isEmpty) (joinA (ps ++ [last]))
  | [], last, _, hl => .name hl
  | p :: ps, last, h, hl => by
    have ih := kt_join ps last (fun q hq => h q (List.mem_cons_of_mem _ hq)) hl
    obtain ⟨w, r, hw⟩ : ∃ w r, ps ++ [last] = w :: r := by cases ps <;> exact ⟨_, _, rfl⟩
    rw [hw] at ih
    rw [List.cons_append, hw]
    show Kt true (p ++ (ARR ++ joinA (w :: r)))
    rcases h p List.mem_cons_self with hp | ⟨v, rfl, hv⟩
    · exact .arr hp ih
    · have e : (40 :: (v ++ [41])) ++ (ARR ++ joinA (w :: r)) = 40 :: (v ++ (41 :: (ARR ++ joinA (w :: r)))) := by simp
      rw [e]
      exact .par hv ih
theorem pcs_kt {s : List Nat} {ps : List (List Nat)} {last : List Nat} (h : pcs 0 0 [] s = ps ++ [last]) (hp : ∀ p ∈ ps, PieceOk p) (hl : Nm last) : Kt (!ps.isEmpty) s := by
  have e := pcs_join 0 [] s
  rw [h, List.nil_append] at e
  rw [← e]
  exact kt_join ps last hp hl
/-- a sign that neither parts nor nests -/
theorem pcs_plain {d : Int} {cur r : List Nat} {c : Nat} (h1 : d ≠ 0 ∨ pre ARR (c :: r) ≠ 4) (h2 : c ≠ 40) (h3 : c ≠ 41) : pcs d 0 cur (c :: r) = pcs d 0 (cur ++ [c]) r := by
  conv => lhs; unfold pcs
  rw [if_neg (by omega), if_neg (fun z => by rcases h1 with h | h; exact h z.1; exact h z.2), if_neg h2, if_neg h3]
theorem pcs_open {d : Int} {cur r : List Nat} : pcs d 0 cur (40 :: r) = pcs (d + 1) 0 (cur ++ [40]) r := by
  conv => lhs; unfold pcs
  rw [if_neg (by omega), if_neg (fun z => by simp [ARR, pre] at z), if_pos rfl]
theorem pcs_shut {d : Int} {cur r : List Nat} : pcs d 0 cur (41 :: r) = pcs (d - 1) 0 (cur ++ [41]) r := by
  conv => lhs; unfold pcs
  rw [if_neg (by omega), if_neg (fun z => by simp [ARR, pre] at z), if_neg (by decide), if_pos rfl]
theorem pcs_letters {d : Int} {rest : List Nat} : ∀ {n cur : List Nat}, (∀ c ∈ n, isL c = true) → pcs d 0 cur (n ++ rest) = pcs d 0 (cur ++ n) rest
  | [], cur, _ => by simp
  | c :: n, cur, h => by
    have hc := h c List.mem_cons_self
    have hr : 97 ≤ c ∧ c ≤ 122 := by
      unfold isL at hc
      simpa using hc
    have hp : pre ARR (c :: (n ++ rest)) ≠ 4 := by
      have : ¬ 32 = c := by omega
      simp [ARR, pre, this]
    rw [List.cons_append, pcs_plain (.inr hp) (by omega) (by omega), pcs_letters fun x hx => h x (List.mem_cons_of_mem _ hx)]
    simp
theorem pcs_arrow {d : Int} {cur rest : List Nat} (hd : d ≠ 0) : pcs d 0 cur (ARR ++ rest) = pcs d 0 (cur ++ ARR) rest := by
  show pcs d 0 cur (32 :: 45 :: 62 :: 32 :: rest) = _
  rw [pcs_plain (.inl hd) (by decide) (by decide), pcs_plain (.inl hd) (by decide) (by decide), pcs_plain (.inl hd) (by decide) (by decide), pcs_plain (.inl hd) (by decide) (by decide)]
  simp [ARR]
theorem pcs_split {cur rest : List Nat} : pcs 0 0 cur (ARR ++ rest) = cur :: pcs 0 0 [] rest := by
  show pcs 0 0 cur (32 :: 45 :: 62 :: 32 :: rest) = _
  conv => lhs; unfold pcs
  rw [if_neg (by omega), if_pos ⟨rfl, by simp [ARR, pre]⟩, pcs_skip 0 [] 3 _ (by simp)]
  rfl
/-- within parentheses a kind is passed as it is -/
theorem pcs_in {a : Bool} {v : List Nat} (h : Kt a v) : ∀ (d : Int) (cur rest : List Nat), 0 < d → pcs d 0 cur (v ++ rest) = pcs d 0 (cur ++ v) rest := by
  induction h with
  | name hn => exact fun d cur rest _ => pcs_letters hn.2.2
  | arr hn _ ih =>
    intro d cur rest hd
    rw [List.append_assoc, List.append_assoc, pcs_letters hn.2.2, pcs_arrow (by omega), ih d _ rest hd]
    simp
  | par _ _ ihu ihs =>
    intro d cur rest hd
    rename_i u s b _ _
    have e : (40 :: (u ++ (41 :: (ARR ++ s)))) ++ rest = 40 :: (u ++ (41 :: (ARR ++ (s ++ rest)))) := by simp
    rw [e, pcs_open, ihu (d + 1) _ _ (by omega), pcs_shut, show d + 1 - 1 = d by omega, pcs_arrow (by omega), ihs d _ rest hd]
    simp
theorem kt_pcs {a : Bool} {s : List Nat} (h : Kt a s) : ∃ ps last, pcs 0 0 [] s = ps ++ [last] ∧ Nm last ∧ (∀ p ∈ ps, PieceOk p) ∧ a = !ps.isEmpty := by
  induction h with
  | name hn =>
    rename_i n
    refine ⟨[], n, ?_, hn, by simp, rfl⟩
    have := pcs_letters (d := 0) (rest := []) (cur := []) hn.2.2
    rw [List.append_nil] at this
    rw [this]
    rfl
  | arr hn _ ih =>
    rename_i n s b _
    obtain ⟨ps, last, h1, h2, h3, _⟩ := ih
    refine ⟨n :: ps, last, ?_, h2, fun p hp => ?_, rfl⟩
    · rw [pcs_letters hn.2.2, pcs_split, h1]; simp
    · rcases List.mem_cons.mp hp with e | e
      · rw [e]; exact .inl hn
      · exact h3 p e
  | par hu _ _ ihs =>
    rename_i u s b _ _
    obtain ⟨ps, last, h1, h2, h3, _⟩ := ihs
    refine ⟨(40 :: (u ++ [41])) :: ps, last, ?_, h2, fun p hp => ?_, rfl⟩
    · rw [pcs_open, pcs_in hu (0 + 1) _ _ (by omega), pcs_shut, show (0 : Int) + 1 - 1 = 0 by omega, pcs_split, h1]
      simp
    · rcases List.mem_cons.mp hp with e | e
      · rw [e]; exact .inr ⟨u, rfl, hu⟩
      · exact h3 p e
end K02
/-! k01: names. -/
namespace K02
open MP PySem
theorem compL_pure {c : W → Sto → Out Bool} {e : W → Sto → Out W} {φ : Sto} {p : W → Bool} {g : W → W} : ∀ {ws : List W}, (∀ w ∈ ws, c w φ = .ok (p w) φ) → (∀ w ∈ ws, p w = true → e w φ = .ok (g w) φ) → compL c e ws φ = .ok ((ws.filter p).map g) φ
  | [], _, _ => rfl
  | w :: ws, h1, h2 => by
    unfold compL
    rw [h1 w List.mem_cons_self, Out.bind_ok]
    have ih := compL_pure (ws := ws) (fun v hv => h1 v (List.mem_cons_of_mem _ hv)) (fun v hv => h2 v (List.mem_cons_of_mem _ hv))
    by_cases hp : p w = true
    · rw [if_pos hp, h2 w List.mem_cons_self hp, Out.bind_ok, ih, Out.bind_ok, List.filter_cons_of_pos hp]
      rfl
    · rw [if_neg hp, ih, List.filter_cons_of_neg hp]
theorem ev_comp (gv : Nat → Option W) (call : Calls) (ρ : MP.Loc) (φ : Sto) (x : Nat) (it c e : T) : evalE gv call (.comp x it c e) ρ φ = (evalE gv call it ρ φ).bind fun y φ1 => (Out.ofO (items y) φ1).bind fun ws φ1 =>
      noExc ((compL (fun w φ' => if c.isNil then .ok true φ' else (evalE gv call c (ρ.set x (.val w)) φ').bind fun z φ'' => .ofO (truthy z) φ'')
        (fun w φ' => evalE gv call e (ρ.set x (.val w)) φ') ws φ1).bind fun zs φ2 => if zs.length ≤ sizeLine then .ok (.lst zs) φ2 else .bad) := rfl
theorem eq_lnil {ws : List W} (h : okDs 61 ws = true) : opCmp .eq (.lst ws) (.lst []) = some ws.isEmpty := by
  show (if (W.lst ws).okD 62 && (W.lst []).okD 62 then some (eqW (.lst ws) (.lst [])) else none) = _
  have h1 : (W.lst ws).okD 62 = true := by simpa [W.okD] using h
  have h2 : (W.lst []).okD 62 = true := rfl
  rw [h1, h2]
  show some (eqW (.lst ws) (.lst [])) = _
  congr 1
  cases ws with
  | nil => rfl
  | cons w ws => rfl
def titB : W → Bool
  | .str s => decide (1 ≤ s.length) && decide (s.length ≤ 8) && s.all isL
  | _ => false
theorem titB_nm {s : List Nat} : titB (.str s) = true ↔ Nm s := by
  unfold titB Nm
  rw [Bool.and_eq_true, Bool.and_eq_true, decide_eq_true_eq, decide_eq_true_eq, List.all_eq_true]
  exact ⟨fun ⟨⟨a, b⟩, c⟩ => ⟨a, b, c⟩, fun ⟨a, b, c⟩ => ⟨⟨a, b⟩, c⟩⟩
/-- a value of the kinds that the law makes -/
def plainW : W → Bool
  | .non | .bl _ | .int _ | .tup _ | .lst _ => true
  | .str s => good s && decide (s.length ≤ 1000000)
  | _ => false
theorem okDs_strs : ∀ {n : Nat} {l : List Nat}, good l = true → okDs n (l.map fun c => W.str [c]) = true
  | _, [], _ => by simp [okDs]
  | n, c :: l, h => by
    unfold good at h
    rw [List.all_cons, Bool.and_eq_true] at h
    have ih := okDs_strs (n := n) (l := l) h.2
    simp [okDs, W.okD, ih, h.1]
theorem title_spec (d : Nat) (φ : Sto) (w : W) (h : plainW w = true) : P.call (d + 1) 13 [w] φ = .ok (.bl (titB w)) φ := by
  rw [call_eq (fn := ⟨1, 2, false, b__law_is_title⟩) rfl rfl]
  show (evalS P.gv P.fr (P.call d) b__law_is_title [.val w, .none] φ).out false = _
  unfold b__law_is_title
  cases w with
  | str s =>
    have h' : good s = true ∧ s.length ≤ 1000000 := by simpa [plainW] using h
    obtain ⟨hg, hs⟩ := h'
    have hz : s.length ≤ sizeLine := by rw [szl]; omega
    by_cases h1 : 1 ≤ s.length
    · by_cases h8 : s.length ≤ 8
      · have cmpL : compL (fun w φ' => if (T.cmp .notin (.var 1) (.str LET)).isNil then .ok true φ' else (evalE P.gv (P.call d) (.cmp .notin (.var 1) (.str LET)) ([Sl.val (.str s), .none].set 1 (.val w)) φ').bind fun z φ'' => .ofO (truthy z) φ'')
            (fun w φ' => evalE P.gv (P.call d) (.var 1) ([Sl.val (.str s), .none].set 1 (.val w)) φ') (s.map fun c => W.str [c]) φ = .ok ((s.filter fun c => !isL c).map fun c => .str [c]) φ := by
          rw [compL_pure (p := fun w => match w with | .str [c] => !isL c | _ => false) (g := id)]
          · congr 1
            rw [List.map_id, List.filter_map]
            rfl
          · intro w hw
            obtain ⟨c, _, rfl⟩ := List.mem_map.mp hw
            simp [T.isNil, nin_str, letters]
          · intro w hw _
            obtain ⟨c, _, rfl⟩ := List.mem_map.mp hw
            rfl
        have hgf : good (s.filter fun c => !isL c) = true := by
          unfold good at hg ⊢
          rw [List.all_eq_true] at hg ⊢
          intro x hx
          exact hg x (List.mem_filter.mp hx).1
        have hlen : ((s.filter fun c => !isL c).map fun c => W.str [c]).length ≤ sizeLine := by
          rw [List.length_map]
          exact Nat.le_trans (List.length_filter_le _ _) hz
        have e1 : ((1 : Int) ≤ (s.length : Int)) := by omega
        have e8 : ((s.length : Int) ≤ 8) := by omega
        have step : evalS P.gv P.fr (P.call d) (.sif (.orN (.cons (.not (.isi (.var 0) .str)) (.cons (.not (.chn .le .le (.int 1) (.blt .len (.var 0)) (.int 8))) .nil))) (.cons (.sret (.bl false)) .nil) .nil) [.val (.str s), .none] φ = .nx [.val (.str s), .none] φ := by
          simp [isTy, len_str hz, e1, e8]
        rw [st_cons, step, Res.andThen_nx, st_cons, st_ret, ev_cmp, ev_comp, ev_var, List.getElem?_cons_zero]
        dsimp only
        rw [Out.bind_ok, show items (.str s) = some (s.map fun c => W.str [c]) from rfl, Out.ofO_some, Out.bind_ok]
        show ((((noExc ((compL (fun w φ' => if (T.cmp .notin (.var 1) (.str LET)).isNil then .ok true φ' else (evalE P.gv (P.call d) (.cmp .notin (.var 1) (.str LET)) ([Sl.val (.str s), .none].set 1 (.val w)) φ').bind fun z φ'' => .ofO (truthy z) φ'')
            (fun w φ' => evalE P.gv (P.call d) (.var 1) ([Sl.val (.str s), .none].set 1 (.val w)) φ') (s.map fun c => W.str [c]) φ).bind _)).bind _).toR _ _).andThen _).out false = _
        rw [cmpL, Out.bind_ok, if_pos hlen]
        show ((((Out.ok (W.lst _) φ).bind _).toR _ _).andThen _).out false = _
        rw [Out.bind_ok, ev_lst, es_nil, Out.bind_ok]
        show ((((Out.ok (W.lst []) φ).bind _).toR _ _).andThen _).out false = _
        rw [Out.bind_ok, eq_lnil (okDs_strs hgf)]
        show Out.ok (W.bl _) φ = _
        congr 2
        show _ = (decide (1 ≤ s.length) && decide (s.length ≤ 8) && s.all isL)
        rw [decide_eq_true h1, decide_eq_true h8, Bool.true_and, Bool.true_and, List.isEmpty_map, Bool.eq_iff_iff, List.isEmpty_iff, List.filter_eq_nil_iff, List.all_eq_true]
        simp
      · have e8 : ¬ ((s.length : Int) ≤ 8) := by omega
        have e1 : ((1 : Int) ≤ (s.length : Int)) := by omega
        simp [isTy, len_str hz, e1, e8, titB, h8]
    · have e1 : ¬ ((1 : Int) ≤ (s.length : Int)) := by omega
      simp [isTy, len_str hz, e1, titB, h1]
  | non => simp [isTy, titB]
  | bl b => simp [isTy, titB]
  | int i => simp [isTy, titB]
  | tup ws => simp [isTy, titB]
  | lst ws => simp [isTy, titB]
  | dct _ => cases h
  | ins _ _ => cases h
  | obj _ => cases h
theorem run_all {s : List Nat} : (0 < s.length ∧ run 8 s = s.length) ↔ Nm s := by
  constructor
  · rintro ⟨h1, h2⟩
    have h3 := run_nm8 (r := s) (by omega)
    rw [h2, List.take_length] at h3
    exact h3
  · intro h
    have := run_nm 8 s [] h.2.2 h.2.1 (by simp)
    rw [List.append_nil] at this
    exact ⟨h.1, this⟩
theorem name_spec (d : Nat) (φ : Sto) (w : W) (h : plainW w = true) : P.call (d + 2) 3 [w] φ = .ok (.bl (titB w)) φ := by
  rw [call_eq (fn := ⟨1, 1, false, b_is_name⟩) rfl rfl]
  show (evalS P.gv P.fr (P.call (d + 1)) b_is_name [.val w] φ).out false = _
  unfold b_is_name
  cases w with
  | str s =>
    have h' : good s = true ∧ s.length ≤ 1000000 := by simpa [plainW] using h
    obtain ⟨hg, hs⟩ := h'
    have hz : s.length ≤ sizeLine := by rw [szl]; omega
    have hn := name_end_spec d φ s 0 hs (Nat.zero_le _)
    rw [Nat.zero_add, List.drop_zero] at hn
    have hn' : P.call (d + 1) 0 [.str s, .int 0] φ = .ok (.int (run 8 s : Nat)) φ := hn
    by_cases h0 : 0 < s.length
    · have e0 : ((0 : Int) < (s.length : Int)) := by omega
      have e2 : ((run 8 s : Int) = (s.length : Int)) ↔ run 8 s = s.length := by omega
      have e3 : decide (run 8 s = s.length) = titB (.str s) := by
        rw [Bool.eq_iff_iff, decide_eq_true_eq, titB_nm, ← run_all]
        exact ⟨fun z => ⟨h0, z⟩, fun z => z.2⟩
      have hne : s ≠ [] := List.length_pos_iff.mp h0
      simp [isTy, len_str hz, e0, hn', e2, e3, hne, h0]
    · have hs0 : s = [] := List.length_eq_zero_iff.mp (by omega)
      subst hs0
      simp [isTy, len_str hz, titB]
  | non => simp [isTy, titB]
  | bl b => simp [isTy, titB]
  | int i => simp [isTy, titB]
  | tup ws => simp [isTy, titB]
  | lst ws => simp [isTy, titB]
  | dct _ => cases h
  | ins _ _ => cases h
  | obj _ => cases h
end K02
/-! k01: _law_pieces. -/
namespace K02
open MP PySem
theorem floop_upto {b : W → MP.Loc → Sto → Res} {φ : Sto} (I : Nat → MP.Loc → Prop) (n : Nat) (step : ∀ (i : Nat) (ρ : MP.Loc), i < n → I i ρ → ∃ ρ', b (.int i) ρ φ = .nx ρ' φ ∧ I (i + 1) ρ') :
    ∀ (k i : Nat) (ρ : MP.Loc), i + k = n → I i ρ → ∃ ρ', floop b (upto i k) ρ φ = .nx ρ' φ ∧ I n ρ' := by
  intro k
  induction k with
  | zero =>
    intro i ρ h hI
    have : i = n := by omega
    subst this
    exact ⟨ρ, rfl, hI⟩
  | succ k ih =>
    intro i ρ h hI
    obtain ⟨ρ', h1, h2⟩ := step i ρ (by omega) hI
    obtain ⟨ρ2, h3, h4⟩ := ih (i + 1) ρ' (by omega) h2
    refine ⟨ρ2, ?_, h4⟩
    show (b (.int i) ρ φ).turn (floop b (upto ((i : Int) + 1) k)) = _
    rw [h1]
    exact h3
/-- s[i:j] -/
def sub (s : List Nat) (i j : Nat) : List Nat := (s.drop i).take (j - i)
theorem cut_sub {s : List Nat} {i j : Nat} (h : j ≤ s.length) (hij : i ≤ j) : cut (some (i : Int)) (some (j : Int)) s = sub s i j := by
  unfold cut MP.bound sub
  have h1 : ¬ ((i : Int) < 0) := by omega
  have h2 : ¬ ((j : Int) < 0) := by omega
  simp only [h1, h2, if_false, Int.toNat_natCast]
  rw [Nat.min_eq_left (by omega), Nat.min_eq_left (by omega)]
theorem cut_from {s : List Nat} {i : Nat} (h : i ≤ s.length) : cut (some (i : Int)) none s = s.drop i := by
  unfold cut MP.bound
  have h1 : ¬ ((i : Int) < 0) := by omega
  simp only [h1, if_false, Int.toNat_natCast]
  rw [Nat.min_eq_left (by omega)]
  exact List.take_of_length_le (by rw [List.length_drop]; omega)
theorem cut4 (s : List Nat) (i : Nat) : cut (some (i : Int)) (some ((i : Int) + 4)) s = (s.drop i).take 4 := by
  unfold cut MP.bound
  have h1 : ¬ ((i : Int) < 0) := by omega
  have h2 : ¬ ((i : Int) + 4 < 0) := by omega
  simp only [h1, h2, if_false, Int.toNat_natCast]
  have e : ((i : Int) + 4).toNat = i + 4 := by omega
  rw [e]
  by_cases h : i < s.length
  · rw [show min i s.length = i by omega]
    by_cases h4 : i + 4 ≤ s.length
    · rw [show min (i + 4) s.length = i + 4 by omega, show i + 4 - i = 4 by omega]
    · rw [show min (i + 4) s.length = s.length by omega, List.take_of_length_le (by rw [List.length_drop]; omega), List.take_of_length_le (by rw [List.length_drop]; omega)]
  · rw [show min i s.length = s.length by omega, List.drop_eq_nil_of_le (Nat.le_refl _), List.drop_eq_nil_of_le (show s.length ≤ i by omega)]
    simp
theorem take4 {t : List Nat} : t.take 4 = ARR ↔ pre ARR t = 4 := by
  rw [pre4]
  constructor
  · intro h
    conv => lhs; rw [← List.take_append_drop 4 t, h]
  · intro h
    rw [h]
    simp [ARR]
def pcB : T := (.cons (.sif (.cmp .gt (.var 5) (.int 0))
      (.cons (.sset 5 (.bin .sub (.var 5) (.int 1))) .nil)
      (.cons (.sif (.andN (.cons (.cmp .eq (.var 4) (.int 0)) (.cons (.cmp .eq (.slc (.var 0) (.var 1) (.bin .add (.var 1) (.int 4))) (.str [32, 45, 62, 32])) .nil)))
      (.cons (.sapp 2 (.slc (.var 0) (.var 3) (.var 1))) (.cons (.spar [3, 5] (.cons (.bin .add (.var 1) (.int 4)) (.cons (.int 3) .nil))) .nil))
      (.cons (.sif (.cmp .isin (.idx (.var 0) (.var 1)) (.str [40, 41]))
      (.cons (.sset 4 (.bin .add (.var 4) (.ife (.cmp .eq (.idx (.var 0) (.var 1)) (.str [40])) (.int 1) (.neg (.int 1))))) .nil)
      .nil) .nil)) .nil)) .nil)
/-- the state ahead of sign i -/
def PcI (s : List Nat) (i : Nat) (ρ : MP.Loc) : Prop := ∃ (x : Sl) (done : List (List Nat)) (st sk : Nat) (d : Int), ρ = [.val (.str s), x, .own (.lst (done.map .str)), .val (.int st), .val (.int d), .val (.int sk)] ∧
  done.length ≤ i ∧ pcs 0 0 [] s = done ++ pcs d sk (if 0 < sk then [] else sub s st i) (s.drop i) ∧ (if 0 < sk then st = i + sk ∧ st ≤ s.length else st ≤ i)
theorem sub_snoc {s : List Nat} {st i : Nat} (hi : i < s.length) (h : st ≤ i) : sub s st i ++ [s[i]] = sub s st (i + 1) := by
  unfold sub
  have e : i + 1 - st = (i - st) + 1 := by omega
  rw [e, List.take_add_one, List.getElem?_drop, show st + (i - st) = i by omega, List.getElem?_eq_getElem hi]
  rfl
theorem sub_self (s : List Nat) (i : Nat) : sub s i i = [] := by unfold sub; rw [Nat.sub_self]; rfl
theorem pc_step (c : Calls) (φ : Sto) (s : List Nat) (hs : s.length ≤ 1000000) (hg : good s = true) (i : Nat) (ρ : MP.Loc) (hi : i < s.length) (h : PcI s i ρ) :
    ∃ ρ', evalS P.gv P.fr c pcB (ρ.set 1 (.val (.int i))) φ = .nx ρ' φ ∧ PcI s (i + 1) ρ' := by
  obtain ⟨x, done, st, sk, d, rfl, hd, hp, hst⟩ := h
  have hz : s.length ≤ sizeLine := by rw [szl]; omega
  have hc : s[i]? = some s[i] := List.getElem?_eq_getElem hi
  have hdr : s.drop i = s[i] :: s.drop (i + 1) := List.drop_eq_getElem_cons hi
  have h3 : (2 : Nat) ≤ sizeLine := by decide
  by_cases hsk : 0 < sk
  · rw [if_pos hsk] at hp hst
    refine ⟨[.val (.str s), .val (.int i), .own (.lst (done.map .str)), .val (.int st), .val (.int d), .val (.int (sk - 1 : Nat))], ?_, .val (.int i), done, st, sk - 1, d, rfl, by omega, ?_, ?_⟩
    · have e0 : ((0 : Int) < (sk : Int)) := by omega
      have e1 : ((sk : Int) - 1) = ((sk - 1 : Nat) : Int) := by omega
      unfold pcB
      simp [e0, e1, hsk, T.fresh]
    · rw [hp, hdr]
      conv => lhs; unfold pcs
      rw [if_pos hsk]
      by_cases h1 : 0 < sk - 1
      · rw [if_pos h1]
      · rw [if_neg h1]
        have : st = i + 1 := by omega
        rw [this, sub_self]
    · split
      · omega
      · omega
  · rw [if_neg hsk] at hp hst
    have e0 : ¬ ((0 : Int) < (sk : Int)) := by omega
    have hsk0 : sk = 0 := by omega
    subst hsk0
    have g4 : good ((s.drop i).take 4) = true := by
      rw [← cut4]
      exact good_cut hg _ _
    have gA : good [32, 45, 62, 32] = true := by decide
    have e4 : decide ((s.drop i).take 4 = [32, 45, 62, 32]) = decide (pre ARR (s.drop i) = 4) := by
      rw [Bool.eq_iff_iff, decide_eq_true_eq, decide_eq_true_eq]
      exact take4
    by_cases hA : d = 0 ∧ pre ARR (s.drop i) = 4
    · obtain ⟨rfl, hA⟩ := hA
      have hpl := pre_le ARR (s.drop i)
      rw [hA, List.length_drop] at hpl
      refine ⟨[.val (.str s), .val (.int i), .own (.lst ((done ++ [sub s st i]).map .str)), .val (.int (i + 4 : Nat)), .val (.int 0), .val (.int (3 : Nat))], ?_, .val (.int i), done ++ [sub s st i], i + 4, 3, 0, rfl, by simp; omega, ?_, ?_⟩
      · have hcut := cut_sub (s := s) (i := st) (j := i) (by omega) hst
        have hdl : (done.map W.str).length < sizeLine := by rw [List.length_map]; omega
        rw [List.length_map] at hdl
        unfold pcB
        simp [e0, T.fresh, T.isNil, partOf, slc_str hz, cut4, eq_str _ _ g4 gA, e4, hA, hcut, hdl, T.frs, slots, slOf, setSl, MP.W.isObj]
      · rw [hp]
        conv => lhs; rw [hdr]; unfold pcs
        rw [← hdr, if_neg (by omega), if_pos ⟨rfl, hA⟩]
        simp
      · simp; omega
    · have hno : pcs d 0 (sub s st i) (s.drop i) = pcs (if s[i] = 40 then d + 1 else if s[i] = 41 then d - 1 else d) 0 (sub s st (i + 1)) (s.drop (i + 1)) := by
        conv => lhs; rw [hdr]; unfold pcs
        rw [← hdr, if_neg (by omega), if_neg hA, sub_snoc hi hst]
      refine ⟨[.val (.str s), .val (.int i), .own (.lst (done.map .str)), .val (.int st), .val (.int (if s[i] = 40 then d + 1 else if s[i] = 41 then d - 1 else d)), .val (.int (0 : Nat))], ?_, .val (.int i), done, st, 0, _, rfl, by omega, ?_, ?_⟩
      · have hc2 : (decide (d = 0) && decide (pre ARR (s.drop i) = 4)) = false := by
          rw [Bool.and_eq_false_iff, decide_eq_false_iff_not, decide_eq_false_iff_not]
          by_cases h : d = 0
          · exact .inr fun z => hA ⟨h, z⟩
          · exact .inl h
        have g40 : good [40] = true := by decide
        have condA : ∀ ρ2 : MP.Loc, ρ2 = [.val (.str s), .val (.int i), .own (.lst (done.map .str)), .val (.int st), .val (.int d), .val (.int 0)] → evalE P.gv c (.andN (.cons (.cmp .eq (.var 4) (.int 0)) (.cons (.cmp .eq (.slc (.var 0) (.var 1) (.bin .add (.var 1) (.int 4))) (.str [32, 45, 62, 32])) .nil))) ρ2 φ = .ok (.bl false) φ := by
          rintro ρ2 rfl
          by_cases h : d = 0
          · have h4 : ¬ pre ARR (s.drop i) = 4 := fun z => hA ⟨h, z⟩
            simp [T.isNil, partOf, slc_str hz, cut4, eq_str _ _ g4 gA, e4, h, h4]
          · simp [h]
        have ca := condA _ rfl
        unfold pcB
        by_cases h40 : s[i] = 40
        · simp only [st_cons, st_if, ev_cmp, ev_var, ev_int, List.set_cons_succ, List.set_cons_zero, List.getElem?_cons_succ, List.getElem?_cons_zero, Out.bind_ok, Int.ofNat_zero, Int.natCast_zero, gt_int, Option.map_some, Out.ofO_some, Out.toR_ok, tru_bl, Int.lt_irrefl, decide_false, ca]
          simp [idx_str hz hc, in_str, h40, eq_str _ _ g40 g40, T.fresh]
        · by_cases h41 : s[i] = 41
          · simp only [st_cons, st_if, ev_cmp, ev_var, ev_int, List.set_cons_succ, List.set_cons_zero, List.getElem?_cons_succ, List.getElem?_cons_zero, Out.bind_ok, Int.ofNat_zero, Int.natCast_zero, gt_int, Option.map_some, Out.ofO_some, Out.toR_ok, tru_bl, Int.lt_irrefl, decide_false, ca]
            simp [idx_str hz hc, in_str, h41, eq_str _ _ (show good [41] = true by decide) g40, T.fresh]
            omega
          · simp only [st_cons, st_if, ev_cmp, ev_var, ev_int, List.set_cons_succ, List.set_cons_zero, List.getElem?_cons_succ, List.getElem?_cons_zero, Out.bind_ok, Int.ofNat_zero, Int.natCast_zero, gt_int, Option.map_some, Out.ofO_some, Out.toR_ok, tru_bl, Int.lt_irrefl, decide_false, ca]
            simp [idx_str hz hc, in_str, h40, h41, T.fresh]
      · rw [hp, hno]
        simp
      · simp; omega
theorem pieces_spec (d : Nat) (φ : Sto) (s : List Nat) (hs : s.length ≤ 1000000) (hg : good s = true) : P.call (d + 1) 14 [.str s] φ = .ok (.lst ((pcs 0 0 [] s).map .str)) φ := by
  have hz : s.length ≤ sizeLine := by rw [szl]; omega
  have h0 : (0 : Nat) ≤ sizeLine := Nat.zero_le _
  rw [call_eq (fn := ⟨1, 6, true, b__law_pieces⟩) rfl rfl]
  show (evalS P.gv P.fr (P.call d) b__law_pieces [.val (.str s), .none, .none, .none, .none, .none] φ).out true = _
  have e : b__law_pieces = (.cons (.spar [2, 3, 4, 5] (.cons (.lst .nil) (.cons (.int 0) (.cons (.int 0) (.cons (.int 0) .nil))))) (.cons (.sfor 1 (.rng1 (.blt .len (.var 0))) pcB) (.cons (.sret (.bin .add (.own 2) (.lst (.cons (.slc (.var 0) (.var 3) .nil) .nil)))) .nil))) := rfl
  rw [e]
  have e1 : evalS P.gv P.fr (P.call d) (.spar [2, 3, 4, 5] (.cons (.lst .nil) (.cons (.int 0) (.cons (.int 0) (.cons (.int 0) .nil))))) [.val (.str s), .none, .none, .none, .none, .none] φ = .nx [.val (.str s), .none, .own (.lst []), .val (.int 0), .val (.int 0), .val (.int 0)] φ := by
    simp [T.frs, T.fresh, slots, slOf, setSl, MP.W.isObj]
  obtain ⟨ρ', h1, h2⟩ := floop_upto (b := fun w ρ φ => evalS P.gv P.fr (P.call d) pcB (ρ.set 1 (.val w)) φ) (φ := φ) (PcI s) s.length (fun i ρ hi hI => pc_step (P.call d) φ s hs hg i ρ hi hI) s.length 0 [.val (.str s), .none, .own (.lst []), .val (.int 0), .val (.int 0), .val (.int 0)] (by omega)
    ⟨.none, [], 0, 0, 0, rfl, by simp, by simp [sub], by simp⟩
  rw [st_cons, e1, Res.andThen_nx, st_cons, st_for, ev_rng1, ev_blt, ev_var, List.getElem?_cons_zero]
  dsimp only
  rw [Out.bind_ok, len_str hz, Out.ofO_some, Out.bind_ok]
  have er : opRng1 (.int s.length) = some (.lst (upto 0 s.length)) := by
    unfold opRng1
    dsimp only
    rw [if_pos ⟨by omega, by omega⟩, Int.toNat_natCast]
  rw [er, Out.ofO_some, Out.toR_ok]
  show ((floop (fun w ρ φ => evalS P.gv P.fr (P.call d) pcB (ρ.set 1 (.val w)) φ) (upto ((0 : Nat) : Int) s.length) _ φ).andThen _).out true = _
  rw [h1, Res.andThen_nx]
  obtain ⟨x, done, st, sk, dd, rfl, hd, hp, hst⟩ := h2
  have hsk : sk = 0 := by
    split at hst
    · omega
    · omega
  subst hsk
  rw [if_neg (by omega)] at hp hst
  rw [List.drop_length] at hp
  have hsub : sub s st s.length = s.drop st := by
    unfold sub
    exact List.take_of_length_le (by rw [List.length_drop]; omega)
  have hcf := cut_from (s := s) (i := st) hst
  have hdl : (done.map W.str).length + 1 ≤ sizeLine := by rw [List.length_map, szl]; omega
  have h1s : (1 : Nat) ≤ sizeLine := by decide
  have hadd : opBin .add (.lst (done.map .str)) (.lst [.str (s.drop st)]) = some (.lst (done.map .str ++ [.str (s.drop st)])) := if_pos hdl
  rw [hp]
  simp [T.isNil, partOf, slc_str hz, hcf, h1s, hadd, pcs, hsub, Res.out, MP.W.isObj]
end K02
/-! k01: _law_parsed. -/
namespace K02
open MP PySem
theorem kt_excl {s : List Nat} (h1 : Kt false s) (h2 : Kt true s) : False := by
  have hn : Nm s := by cases h1 with | name hn => exact hn
  have h32 : 32 ∈ s := by
    generalize hb : true = b at h2
    cases h2 with
    | name _ => cases hb
    | arr _ _ => simp [ARR]
    | par _ _ => simp [ARR]
  have := hn.2.2 32 h32
  cases this
/-- what _law_parsed gives -/
def PS (s : List Nat) (w : W) : Prop := (w = .non ∧ ∀ a, ¬ Kt a s) ∨ ∃ ps last, w = .tup [.tup ps, .str last] ∧ Kt (!ps.isEmpty) s
/-- the walk over the pieces ahead of the last -/
def prB : T := (.cons (.sset 4 (.tup (.cons (.tup .nil) (.cons (.var 1) .nil)))) (.cons (.sif (.not (.call 13 (.cons (.var 1) .nil)))
      (.cons (.sset 4 (.ife (.andN (.cons (.cmp .eq (.slc (.var 1) .nil (.int 1)) (.str [40])) (.cons (.cmp .eq (.slc (.var 1) (.neg (.int 1)) .nil) (.str [41])) .nil))) (.call 15 (.cons (.slc (.var 1) (.int 1) (.neg (.int 1))) .nil)) .non)) (.cons (.sif (.orN (.cons (.cmp .isnone (.var 4) .non) (.cons (.cmp .eq (.idx (.var 4) (.int 0)) (.tup .nil)) .nil)))
      (.cons (.sret .non) .nil)
      .nil) .nil))
      .nil) (.cons (.sapp 2 (.var 4)) .nil)))
theorem cut_head {s : List Nat} : cut none (some 1) s = s.take 1 := by
  unfold cut MP.bound
  simp only [show ¬ ((1 : Int) < 0) from by decide, if_false, show (1 : Int).toNat = 1 from rfl]
  rw [List.drop_zero, Nat.sub_zero]
  cases s with
  | nil => rfl
  | cons c r => rw [show min 1 (c :: r).length = 1 by rw [List.length_cons]; omega]
theorem cut_end {s : List Nat} {c : Nat} (a : List Nat) (h : s = a ++ [c]) : cut (some (-1)) none s = [c] := by
  subst h
  unfold cut MP.bound
  have e : ((-1 : Int) + ((a ++ [c]).length : Int)).toNat = a.length := by rw [List.length_append]; simp; omega
  simp only [show ((-1 : Int) < 0) from by decide, if_true, e]
  rw [List.drop_left, List.length_append]
  simp
theorem cut_mid {c d : Nat} {v : List Nat} : cut (some 1) (some (-1)) (c :: (v ++ [d])) = v := by
  unfold cut MP.bound
  have e : ((-1 : Int) + ((c :: (v ++ [d])).length : Int)).toNat = v.length + 1 := by simp; omega
  simp only [show ((-1 : Int) < 0) from by decide, show ¬ ((1 : Int) < 0) from by decide, if_true, if_false, e, show (1 : Int).toNat = 1 from rfl]
  have hl : min 1 (c :: (v ++ [d])).length = 1 := by rw [List.length_cons]; omega
  rw [hl, List.drop_succ_cons, List.drop_zero, Nat.add_sub_cancel, List.take_left]
theorem cut_end0 : cut (some (-1)) none ([] : List Nat) = [] := rfl
theorem eq_tnil (ws : List W) : opCmp .eq (.tup ws) (.tup []) = some ws.isEmpty := rfl
theorem idx0_tup (w : W) (r : List W) : opIdx (.tup (w :: r)) (.int 0) = some w := by
  show ixW (w :: r) 0 = some w
  unfold ixW
  rw [if_pos (Int.le_refl _), if_pos (by simp)]
  rfl
theorem isnone_non : opCmp .isnone .non .non = some true := rfl
def state (s : List Nat) (x : Sl) (found : List W) (ws : List W) (y : Sl) : MP.Loc := [.val (.str s), x, .own (.lst found), .own (.lst ws), y]
theorem pr_step (d : Nat) (φ : Sto) (s p : List Nat) (x y : Sl) (found ws : List W) (hp : good p = true) (hl : p.length ≤ 1000000) (hf : found.length < sizeLine)
    (ih : ∀ v, p = 40 :: (v ++ [41]) → ∃ w, P.call (d + 1) 15 [.str v] φ = .ok w φ ∧ PS v w) :
    (PieceOk p ∧ ∃ one y', evalS P.gv P.fr (P.call (d + 1)) prB ((state s x found ws y).set 1 (.val (.str p))) φ = .nx (state s (.val (.str p)) (found ++ [one]) ws y') φ) ∨
    (¬ PieceOk p ∧ evalS P.gv P.fr (P.call (d + 1)) prB ((state s x found ws y).set 1 (.val (.str p))) φ = .rt .non φ) := by
  have hz : p.length ≤ sizeLine := by rw [szl]; omega
  have h2 : (2 : Nat) ≤ sizeLine := by decide
  have ht := title_spec d φ (.str p) (by show (good p && decide (p.length ≤ 1000000)) = true; rw [hp, decide_eq_true hl]; rfl)
  have g40 : good [40] = true := by decide
  have g41 : good [41] = true := by decide
  by_cases hn : Nm p
  · refine .inl ⟨.inl hn, .tup [.tup [], .str p], .val (.tup [.tup [], .str p]), ?_⟩
    rw [titB_nm.mpr hn] at ht
    unfold prB state
    simp [T.fresh, h2, ht, hf]
  · have htf : titB (.str p) = false := by
      cases h : titB (.str p) with
      | false => rfl
      | true => exact absurd (titB_nm.mp h) hn
    rw [htf] at ht
    have gt1 : good (p.take 1) = true := by rw [← cut_head]; exact good_cut hp _ _
    have gl1 : good (cut (some (-1)) none p) = true := good_cut hp _ _
    by_cases hpar : ∃ v, p = 40 :: (v ++ [41])
    · obtain ⟨v, rfl⟩ := hpar
      obtain ⟨w, hw, hps⟩ := ih v rfl
      have ce : cut (some (-1)) none (40 :: (v ++ [41])) = [41] := cut_end (40 :: v) (by simp)
      have cm := cut_mid (c := 40) (d := 41) (v := v)
      rcases hps with ⟨rfl, hno⟩ | ⟨ps, last, rfl, hk⟩
      · refine .inr ⟨fun hpo => ?_, ?_⟩
        · rcases hpo with h | ⟨v', e, hv⟩
          · exact hn h
          · have : v' = v := by simpa using e.symm
            subst this
            exact hno _ hv
        · unfold prB state
          simp [T.fresh, h2, ht, T.isNil, partOf, slc_str hz, cut_head, eq_str _ _ g40 g40, ce, eq_str _ _ g41 g41, cm, hw, isnone_non]
      · cases ps with
        | nil =>
          refine .inr ⟨fun hpo => ?_, ?_⟩
          · rcases hpo with h | ⟨v', e, hv⟩
            · exact hn h
            · have : v' = v := by simpa using e.symm
              subst this
              exact kt_excl hk hv
          · unfold prB state
            simp [T.fresh, h2, ht, T.isNil, partOf, slc_str hz, cut_head, eq_str _ _ g40 g40, ce, eq_str _ _ g41 g41, cm, hw, show opCmp .isnone (.tup [.tup [], .str last]) .non = some false from rfl, idx0_tup, eq_tnil]
        | cons q qs =>
          refine .inl ⟨.inr ⟨v, rfl, hk⟩, .tup [.tup (q :: qs), .str last], .val (.tup [.tup (q :: qs), .str last]), ?_⟩
          unfold prB state
          simp [T.fresh, h2, ht, T.isNil, partOf, slc_str hz, cut_head, eq_str _ _ g40 g40, ce, eq_str _ _ g41 g41, cm, hw, show opCmp .isnone (.tup [.tup (q :: qs), .str last]) .non = some false from rfl, idx0_tup, eq_tnil, hf]
    · refine .inr ⟨fun hpo => ?_, ?_⟩
      · rcases hpo with h | ⟨v', e, hv⟩
        · exact hn h
        · exact hpar ⟨v', e⟩
      · have hcond : ∀ ρ2 : MP.Loc, ρ2[1]? = some (.val (.str p)) → evalE P.gv (P.call (d + 1)) (.andN (.cons (.cmp .eq (.slc (.var 1) .nil (.int 1)) (.str [40])) (.cons (.cmp .eq (.slc (.var 1) (.neg (.int 1)) .nil) (.str [41])) .nil))) ρ2 φ = .ok (.bl false) φ := by
          intro ρ2 h1
          by_cases hh : p.head? = some 40
          · have hne : ¬ cut (some (-1)) none p = [41] := fun z => by
              apply hpar
              cases p with
              | nil => cases hh
              | cons c r =>
                have hc : c = 40 := by simpa using hh
                subst hc
                rcases List.eq_nil_or_concat r with rfl | ⟨r', e, rfl⟩
                · have z2 := cut_end (s := [40]) (c := 40) [] rfl
                  rw [z2] at z
                  cases z
                · rw [List.concat_eq_append] at z ⊢
                  have z2 := cut_end (s := 40 :: (r' ++ [e])) (c := e) (40 :: r') (by simp)
                  rw [z2] at z
                  have : e = 41 := by simpa using z
                  subst this
                  exact ⟨_, rfl⟩
            have hd : decide (p.take 1 = [40]) = true := by rw [take1]; exact decide_eq_true hh
            simp [h1, T.isNil, partOf, slc_str hz, cut_head, eq_str _ _ gt1 g40, hd, eq_str _ _ gl1 g41, hne]
          · have hd : decide (p.take 1 = [40]) = false := by rw [take1]; exact decide_eq_false hh
            simp [h1, T.isNil, partOf, slc_str hz, cut_head, eq_str _ _ gt1 g40, hd]
        have hc1 := hcond [.val (.str s), .val (.str p), .own (.lst found), .own (.lst ws), .val (.tup [.tup [], .str p])] rfl
        unfold prB state
        simp only [st_cons, st_set, ev_tup, es_cons, es_nil, ev_var, List.set_cons_succ, List.set_cons_zero, List.getElem?_cons_succ, List.getElem?_cons_zero, Out.bind_ok, List.length_nil, List.length_cons, T.fresh, Bool.false_eq_true, if_false, Nat.zero_le, if_true]
        rw [if_pos h2, Out.toR_ok, Res.andThen_nx]
        simp only [st_if, ev_not, ev_call, es_cons, es_nil, ev_var, List.getElem?_cons_succ, List.getElem?_cons_zero, Out.bind_ok, ht, tru_bl, Option.map_some, Bool.not_false, Out.ofO_some, Out.toR_ok, st_cons, st_set, ev_ife]
        rw [hc1]
        simp [T.fresh, isnone_non]
end K02
/-! k01: _law_parsed, is_kind. -/
namespace K02
open MP PySem
theorem join_infix : ∀ {ws : List (List Nat)} {p : List Nat}, p ∈ ws → ∃ a b, joinA ws = a ++ (p ++ b)
  | [], p, h => by cases h
  | [w], p, h => by
    rw [List.mem_singleton] at h
    subst h
    exact ⟨[], [], by simp [joinA]⟩
  | w :: v :: r, p, h => by
    rcases List.mem_cons.mp h with e | e
    · subst e
      exact ⟨[], ARR ++ joinA (v :: r), rfl⟩
    · obtain ⟨a, b, e2⟩ := join_infix e
      refine ⟨w ++ (ARR ++ a), b, ?_⟩
      show w ++ (ARR ++ joinA (v :: r)) = _
      rw [e2]
      simp
theorem join_len : ∀ (ws : List (List Nat)), ws.length ≤ (joinA ws).length + 1
  | [] => by simp
  | [w] => by simp
  | w :: v :: r => by
    have := join_len (v :: r)
    show (v :: r).length + 1 ≤ (w ++ (ARR ++ joinA (v :: r))).length + 1
    rw [List.length_append, List.length_append]
    simp only [ARR, List.length_cons, List.length_nil] at this ⊢
    omega
theorem good_sub {s p a b : List Nat} (h : good s = true) (e : s = a ++ (p ++ b)) : good p = true := by
  unfold good at h ⊢
  rw [List.all_eq_true] at h ⊢
  intro x hx
  exact h x (by rw [e]; simp [hx])
theorem pr_loop (d : Nat) (φ : Sto) (s : List Nat) (ws : List W) : ∀ (ps : List (List Nat)) (found : List W) (x y : Sl), (∀ p ∈ ps, good p = true ∧ p.length ≤ 1000000 ∧ ∀ v, p = 40 :: (v ++ [41]) → ∃ w, P.call (d + 1) 15 [.str v] φ = .ok w φ ∧ PS v w) → found.length + ps.length < sizeLine →
    ((∀ p ∈ ps, PieceOk p) ∧ ∃ (found' : List W) (x' y' : Sl), floop (fun w ρ φ => evalS P.gv P.fr (P.call (d + 1)) prB (ρ.set 1 (.val w)) φ) (ps.map .str) (state s x found ws y) φ = .nx (state s x' found' ws y') φ ∧ found'.length = found.length + ps.length) ∨
    ((∃ p ∈ ps, ¬ PieceOk p) ∧ floop (fun w ρ φ => evalS P.gv P.fr (P.call (d + 1)) prB (ρ.set 1 (.val w)) φ) (ps.map .str) (state s x found ws y) φ = .rt .non φ)
  | [], found, x, y, _, _ => .inl ⟨fun p h => (by cases h), found, x, y, rfl, by simp⟩
  | p :: ps, found, x, y, h, hl => by
    obtain ⟨g1, g2, g3⟩ := h p List.mem_cons_self
    rw [List.length_cons] at hl
    rcases pr_step d φ s p x y found ws g1 g2 (by omega) g3 with ⟨hok, one, y', e⟩ | ⟨hno, e⟩
    · have ih := pr_loop d φ s ws ps (found ++ [one]) (.val (.str p)) y' (fun q hq => h q (List.mem_cons_of_mem _ hq)) (by rw [List.length_append]; simp; omega)
      have st : floop (fun w ρ φ => evalS P.gv P.fr (P.call (d + 1)) prB (ρ.set 1 (.val w)) φ) ((p :: ps).map .str) (state s x found ws y) φ = floop (fun w ρ φ => evalS P.gv P.fr (P.call (d + 1)) prB (ρ.set 1 (.val w)) φ) (ps.map .str) (state s (.val (.str p)) (found ++ [one]) ws y') φ := by
        show (evalS P.gv P.fr (P.call (d + 1)) prB ((state s x found ws y).set 1 (.val (.str p))) φ).turn _ = _
        rw [e]
        rfl
      rw [st]
      rcases ih with ⟨h1, f', x', y2, h2, h3⟩ | ⟨⟨q, hq, hn⟩, h2⟩
      · refine .inl ⟨fun q hq => ?_, f', x', y2, h2, by rw [h3, List.length_append, List.length_cons]; simp; omega⟩
        rcases List.mem_cons.mp hq with e | e
        · rw [e]; exact hok
        · exact h1 q e
      · exact .inr ⟨⟨q, List.mem_cons_of_mem _ hq, hn⟩, h2⟩
    · refine .inr ⟨⟨p, List.mem_cons_self, hno⟩, ?_⟩
      show (evalS P.gv P.fr (P.call (d + 1)) prB ((state s x found ws y).set 1 (.val (.str p))) φ).turn _ = _
      rw [e]
      rfl
theorem last_idx {ps : List (List Nat)} {last : List Nat} : opIdx (.lst ((ps ++ [last]).map .str)) (.int (-1)) = some (.str last) := by
  show ixW ((ps ++ [last]).map W.str) (-1) = some (.str last)
  unfold ixW
  have hl : ((ps ++ [last]).map W.str).length = ps.length + 1 := by simp
  rw [if_neg (by omega), if_pos (by rw [hl]; omega), hl, show ((-1 : Int) + ((ps.length + 1 : Nat) : Int)).toNat = ps.length by omega, List.map_append, List.getElem?_append_right (by simp)]
  simp
theorem init_slc {ps : List (List Nat)} {last : List Nat} : opSlc none (some (-1)) (.lst ((ps ++ [last]).map .str)) = some (.lst (ps.map .str)) := by
  show some (W.lst (cut none (some (-1)) ((ps ++ [last]).map W.str))) = _
  congr 2
  unfold cut MP.bound
  have hl : ((ps ++ [last]).map W.str).length = ps.length + 1 := by simp
  simp only [show ((-1 : Int) < 0) from by decide, if_true, hl, show ((-1 : Int) + ((ps.length + 1 : Nat) : Int)).toNat = ps.length by omega]
  rw [List.drop_zero, Nat.sub_zero, List.map_append]
  exact List.take_left' (by simp)
theorem not_kt_of {s : List Nat} {ps : List (List Nat)} {last : List Nat} (h : pcs 0 0 [] s = ps ++ [last]) (hn : ¬ ((∀ p ∈ ps, PieceOk p) ∧ Nm last)) : ∀ a, ¬ Kt a s := fun a hk => by
  obtain ⟨ps', last', h1, h2, h3, _⟩ := kt_pcs hk
  rw [h] at h1
  obtain ⟨rfl, e⟩ := List.append_inj' h1 rfl
  cases e
  exact hn ⟨h3, h2⟩
theorem parsed_core (d : Nat) (φ : Sto) (s : List Nat) (hg : good s = true) (hs : s.length ≤ 1000000) (ih : ∀ v, (∃ a b, s = a ++ ((40 :: (v ++ [41])) ++ b)) → ∃ w, P.call (d + 1) 15 [.str v] φ = .ok w φ ∧ PS v w) :
    ∃ w, P.call (d + 2) 15 [.str s] φ = .ok w φ ∧ PS s w := by
  have hpc := pieces_spec d φ s hs hg
  have hj := pcs_join 0 [] s
  rw [List.nil_append] at hj
  obtain ⟨ps, last, hw⟩ : ∃ ps last, pcs 0 0 [] s = ps ++ [last] := by
    obtain ⟨w, r, h⟩ := pcs_ne 0 0 [] s
    rcases List.eq_nil_or_concat (pcs 0 0 [] s) with e | ⟨ps, last, e⟩
    · rw [h] at e; cases e
    · exact ⟨ps, last, by rw [e, List.concat_eq_append]⟩
  have inf : ∀ p ∈ ps ++ [last], ∃ a b, s = a ++ (p ++ b) := fun p hp => by
    obtain ⟨a, b, e⟩ := join_infix (ws := pcs 0 0 [] s) (p := p) (by rw [hw]; exact hp)
    exact ⟨a, b, by rw [← hj]; exact e⟩
  have hbig : ps.length < sizeLine := by
    have := join_len (pcs 0 0 [] s)
    rw [hj, hw, List.length_append] at this
    rw [szl]
    simp at this
    omega
  have hlast : good last = true ∧ last.length ≤ 1000000 := by
    obtain ⟨a, b, e⟩ := inf last (by simp)
    refine ⟨good_sub hg e, ?_⟩
    have := congrArg List.length e
    rw [List.length_append, List.length_append] at this
    omega
  have htl := title_spec d φ (.str last) (by show (good last && decide (last.length ≤ 1000000)) = true; rw [hlast.1, decide_eq_true hlast.2]; rfl)
  rw [hw] at hpc
  rw [call_eq (fn := ⟨1, 5, false, b__law_parsed⟩) rfl rfl]
  show ∃ w, (evalS P.gv P.fr (P.call (d + 1)) b__law_parsed [.val (.str s), .none, .none, .none, .none] φ).out false = _ ∧ _
  have e : b__law_parsed = (.cons (.sif (.not (.isi (.var 0) .str)) (.cons (.sret .non) .nil) .nil) (.cons (.spar [2, 3] (.cons (.lst .nil) (.cons (.call 14 (.cons (.var 0) .nil)) .nil))) (.cons (.sif (.not (.call 13 (.cons (.idx (.own 3) (.neg (.int 1))) .nil)))
      (.cons (.sret .non) .nil) .nil) (.cons (.sfor 1 (.slc (.own 3) .nil (.neg (.int 1))) prB) (.cons (.sret (.tup (.cons (.blt .tuple (.own 2)) (.cons (.idx (.own 3) (.neg (.int 1))) .nil)))) .nil))))) := rfl
  rw [e, st_cons]
  have s1 : evalS P.gv P.fr (P.call (d + 1)) (.sif (.not (.isi (.var 0) .str)) (.cons (.sret .non) .nil) .nil) [.val (.str s), .none, .none, .none, .none] φ = .nx [.val (.str s), .none, .none, .none, .none] φ := by simp [isTy]
  have s2 : evalS P.gv P.fr (P.call (d + 1)) (.spar [2, 3] (.cons (.lst .nil) (.cons (.call 14 (.cons (.var 0) .nil)) .nil))) [.val (.str s), .none, .none, .none, .none] φ = .nx (state s .none [] ((ps ++ [last]).map .str) .none) φ := by
    rw [st_par]
    simp only [es_cons, es_nil, ev_lst, ev_call, ev_var, List.getElem?_cons_zero, Out.bind_ok, List.length_nil, Nat.zero_le, if_true, hpc, Out.toR_ok, T.frs, T.fresh, fr14, slots]
    rfl
  rw [s1, Res.andThen_nx, st_cons, s2, Res.andThen_nx, st_cons]
  have hix : evalE P.gv (P.call (d + 1)) (.call 13 (.cons (.idx (.own 3) (.neg (.int 1))) .nil)) (state s .none [] ((ps ++ [last]).map .str) .none) φ = .ok (.bl (titB (.str last))) φ := by
    unfold state
    simp only [ev_call, es_cons, es_nil, ev_idx, ev_own, ev_neg, ev_int, List.getElem?_cons_succ, List.getElem?_cons_zero, Out.bind_ok]
    rw [show ((-1 : Int)) = -1 from rfl, last_idx]
    simp only [Out.ofO_some, Out.bind_ok]
    exact htl
  by_cases hn : titB (.str last) = true
  · have s3 : evalS P.gv P.fr (P.call (d + 1)) (.sif (.not (.call 13 (.cons (.idx (.own 3) (.neg (.int 1))) .nil))) (.cons (.sret .non) .nil) .nil) (state s .none [] ((ps ++ [last]).map .str) .none) φ = .nx (state s .none [] ((ps ++ [last]).map .str) .none) φ := by
      rw [st_if, ev_not, hix, hn]
      rfl
    rw [s3, Res.andThen_nx, st_cons, st_for]
    have hit : evalE P.gv (P.call (d + 1)) (.slc (.own 3) .nil (.neg (.int 1))) (state s .none [] ((ps ++ [last]).map .str) .none) φ = .ok (.lst (ps.map .str)) φ := by
      unfold state
      simp only [ev_slc, ev_own, ev_neg, ev_int, List.getElem?_cons_succ, List.getElem?_cons_zero, Out.bind_ok, T.isNil, if_true, Bool.false_eq_true, if_false, partOf, Out.ofO_some]
      rw [init_slc]
      rfl
    rw [hit, Out.toR_ok]
    show ∃ w, ((floop (fun w ρ φ => evalS P.gv P.fr (P.call (d + 1)) prB (ρ.set 1 (.val w)) φ) (ps.map .str) (state s .none [] ((ps ++ [last]).map .str) .none) φ).andThen _).out false = _ ∧ _
    rcases pr_loop d φ s ((ps ++ [last]).map .str) ps [] .none .none (fun p hp => by
      obtain ⟨a, b, e⟩ := inf p (List.mem_append_left _ hp)
      refine ⟨good_sub hg e, ?_, fun v hv => ih v ⟨a, b, by rw [← hv]; exact e⟩⟩
      have := congrArg List.length e
      rw [List.length_append, List.length_append] at this
      omega) (by simpa using hbig) with ⟨hok, f', x', y', h2, h3⟩ | ⟨⟨q, hq, hno⟩, h2⟩
    · rw [h2, Res.andThen_nx]
      refine ⟨.tup [.tup f', .str last], ?_, .inr ⟨f', last, rfl, ?_⟩⟩
      · have h2s : (2 : Nat) ≤ sizeLine := by decide
        unfold state
        simp only [st_cons, st_nil, st_ret, ev_tup, es_cons, es_nil, ev_blt, ev_own, ev_idx, ev_neg, ev_int, List.getElem?_cons_succ, List.getElem?_cons_zero, Out.bind_ok]
        rw [show opBlt .tuple (.lst f') = some (.tup f') from rfl, Out.ofO_some, Out.bind_ok, last_idx]
        simp only [Out.ofO_some, Out.bind_ok, List.length_cons, List.length_nil]
        rw [if_pos h2s]
        rfl
      · have hk := pcs_kt hw hok (titB_nm.mp hn)
        have : f'.isEmpty = ps.isEmpty := by
          rw [Bool.eq_iff_iff, List.isEmpty_iff, List.isEmpty_iff, ← List.length_eq_zero_iff, ← List.length_eq_zero_iff, h3]
          simp
        rw [this]
        exact hk
    · rw [h2]
      exact ⟨.non, rfl, .inl ⟨rfl, not_kt_of hw fun z => hno (z.1 q hq)⟩⟩
  · have hnf : titB (.str last) = false := by simpa using hn
    have s3 : evalS P.gv P.fr (P.call (d + 1)) (.sif (.not (.call 13 (.cons (.idx (.own 3) (.neg (.int 1))) .nil))) (.cons (.sret .non) .nil) .nil) (state s .none [] ((ps ++ [last]).map .str) .none) φ = .rt .non φ := by
      rw [st_if, ev_not, hix, hnf]
      rfl
    rw [s3]
    exact ⟨.non, rfl, .inl ⟨rfl, not_kt_of hw fun z => hn (titB_nm.mpr z.2)⟩⟩
theorem parsed_spec (φ : Sto) : ∀ (n d : Nat) (s : List Nat), s.count 40 ≤ n → n ≤ d → good s = true → s.length ≤ 1000000 → ∃ w, P.call (d + 2) 15 [.str s] φ = .ok w φ ∧ PS s w := by
  intro n
  induction n with
  | zero =>
    intro d s hc _ hg hs
    refine parsed_core d φ s hg hs fun v ⟨a, b, e⟩ => ?_
    have h40 : 40 ∈ s := by rw [e]; simp
    have := List.count_pos_iff.mpr h40
    omega
  | succ n ih =>
    intro d s hc hd hg hs
    refine parsed_core d φ s hg hs fun v ⟨a, b, e⟩ => ?_
    have hv : s = (a ++ [40]) ++ (v ++ (41 :: b)) := by rw [e]; simp
    obtain ⟨d', rfl⟩ : ∃ d', d = d' + 1 := ⟨d - 1, by omega⟩
    have hl := congrArg List.length hv
    rw [List.length_append, List.length_append, List.length_append] at hl
    refine ih d' v ?_ (by omega) (good_sub hg hv) (by omega)
    rw [hv, List.count_append, List.count_append, List.count_append] at hc
    simp at hc
    omega
end K02
/-! k01: kinds, entries. -/
namespace K02
open MP PySem
@[simp] theorem ne_int (i j : Int) : opCmp .ne (.int i) (.int j) = some (!decide (i = j)) := by
  show (if true && true then some (!eqW (.int i) (.int j)) else none) = _
  simp only [eqW, W.toD, PyData.eqv, Bool.and_self, if_true, Option.some.injEq]
  by_cases h : i = j <;> simp [h]
mutual
/-- data of the law: at most n deep, of sizes that it makes -/
def dt : Nat → W → Bool
  | _, .non => true
  | _, .bl _ => true
  | _, .int _ => true
  | _, .str s => good s && decide (s.length ≤ 1000000) && decide (s.count 40 ≤ 60)
  | n + 1, .tup ws => decide (ws.length ≤ 60) && dts n ws
  | n + 1, .lst ws => decide (ws.length ≤ 60) && dts n ws
  | _, _ => false
def dts : Nat → List W → Bool
  | _, [] => true
  | n, w :: ws => dt n w && dts n ws
end
theorem dt_plain {n : Nat} {w : W} (h : dt n w = true) : plainW w = true := by
  cases w <;> first | rfl | skip
  · rename_i s
    have h' : (good s && decide (s.length ≤ 1000000) && decide (s.count 40 ≤ 60)) = true := by cases n <;> exact h
    rw [Bool.and_eq_true] at h'
    exact h'.1
  all_goals (cases n <;> cases h)
theorem dts_mem {n : Nat} : ∀ {ws : List W} {w : W}, dts n ws = true → w ∈ ws → dt n w = true
  | w :: ws, v, h, hv => by
    have h' : (dt n w && dts n ws) = true := h
    rw [Bool.and_eq_true] at h'
    rcases List.mem_cons.mp hv with e | e
    · rw [e]; exact h'.1
    · exact dts_mem h'.2 e
theorem dt_tup {n : Nat} {ws : List W} (h : dt n (.tup ws) = true) : ∃ m, n = m + 1 ∧ ws.length ≤ 60 ∧ dts m ws = true := by
  cases n with
  | zero => cases h
  | succ m =>
    have h' : (decide (ws.length ≤ 60) && dts m ws) = true := h
    rw [Bool.and_eq_true] at h'
    exact ⟨m, rfl, of_decide_eq_true h'.1, h'.2⟩
theorem dt_str {n : Nat} {s : List Nat} (h : dt n (.str s) = true) : good s = true ∧ s.length ≤ 1000000 ∧ s.count 40 ≤ 60 := by
  have h' : (good s && decide (s.length ≤ 1000000) && decide (s.count 40 ≤ 60)) = true := by cases n <;> exact h
  rw [Bool.and_eq_true, Bool.and_eq_true] at h'
  exact ⟨h'.1.1, of_decide_eq_true h'.1.2, of_decide_eq_true h'.2⟩
def kindB : W → Bool
  | .str s => acc [false] s
  | _ => false
theorem kind_spec (d : Nat) (φ : Sto) (w : W) (h : plainW w = true) : P.call (d + 3) 4 [w] φ = .ok (.bl (kindB w)) φ := by
  rw [call_eq (fn := ⟨1, 1, false, b_is_kind⟩) rfl rfl]
  show (evalS P.gv P.fr (P.call (d + 2)) b_is_kind [.val w] φ).out false = _
  unfold b_is_kind
  cases w with
  | str s =>
    have h' : good s = true ∧ s.length ≤ 1000000 := by simpa [plainW] using h
    obtain ⟨k, hk⟩ := kind_end_spec d φ s h'.2 h'.1
    have hi : opIdx (.tup [.int k, .bl (acc [false] s)]) (.int 1) = some (.bl (acc [false] s)) := by
      show ixW [W.int k, .bl (acc [false] s)] 1 = _
      unfold ixW
      rw [if_pos (by decide), if_pos (by simp)]
      rfl
    simp [isTy, hk, hi, kindB]
  | non => simp [isTy, kindB]
  | bl b => simp [isTy, kindB]
  | int i => simp [isTy, kindB]
  | tup ws => simp [isTy, kindB]
  | lst ws => simp [isTy, kindB]
  | dct _ => cases h
  | ins _ _ => cases h
  | obj _ => cases h
/-- _law_parsed, by what is asked of it -/
theorem parsed_any (d n : Nat) (φ : Sto) (w : W) (h : dt n w = true) : ∃ v, P.call (d + 62) 15 [w] φ = .ok v φ ∧ isNon v = !kindB w ∧ (∃ o, opCmp .notnone v .non = some o ∧ o = kindB w) ∧ (∃ o, opCmp .isnone v .non = some o ∧ o = !kindB w) := by
  have key : ∃ v, P.call (d + 62) 15 [w] φ = .ok v φ ∧ isNon v = !kindB w := by
    cases w with
    | str s =>
      obtain ⟨h1, h2, h3⟩ := dt_str h
      obtain ⟨v, e, hp⟩ := parsed_spec φ 60 (d + 60) s h3 (by omega) h1 h2
      refine ⟨v, e, ?_⟩
      rcases hp with ⟨rfl, hno⟩ | ⟨ps, last, rfl, hk⟩
      · have : acc [false] s = false := by
          cases ha : acc [false] s with
          | false => rfl
          | true => obtain ⟨a, hk⟩ := (acc_kind s).mp ha; exact absurd hk (hno a)
        show true = !acc [false] s
        rw [this]; rfl
      · have : acc [false] s = true := (acc_kind s).mpr ⟨_, hk⟩
        show false = !acc [false] s
        rw [this]; rfl
    | dct _ => cases n <;> cases h
    | ins _ _ => cases n <;> cases h
    | obj _ => cases n <;> cases h
    | _ =>
      refine ⟨.non, ?_, rfl⟩
      rw [call_eq (fn := ⟨1, 5, false, b__law_parsed⟩) rfl rfl]
      unfold b__law_parsed MP.start
      simp [isTy]
  obtain ⟨v, h1, h2⟩ := key
  refine ⟨v, h1, h2, ⟨_, rfl, ?_⟩, ⟨_, rfl, h2⟩⟩
  rw [h2, Bool.not_not]
def entB : W → Bool
  | .tup [a, b] => titB a && kindB b
  | _ => false
theorem idx_tup0 (a : W) (r : List W) : opIdx (.tup (a :: r)) (.int 0) = some a := idx0_tup a r
theorem idx_tup1 (a b : W) (r : List W) : opIdx (.tup (a :: b :: r)) (.int 1) = some b := by
  show ixW (a :: b :: r) 1 = some b
  unfold ixW
  rw [if_pos (by decide), if_pos (by simp; omega)]
  rfl
theorem len2 (ws : List W) : decide ((ws.length : Int) = 2) = decide (ws.length = 2) := by
  rw [Bool.eq_iff_iff, decide_eq_true_eq, decide_eq_true_eq]; omega
theorem entry_spec (d n : Nat) (φ : Sto) (w : W) (h : dt n w = true) : P.call (d + 4) 5 [w] φ = .ok (.bl (entB w)) φ := by
  rw [call_eq (fn := ⟨1, 1, false, b_is_entry⟩) rfl rfl]
  show (evalS P.gv P.fr (P.call (d + 3)) b_is_entry [.val w] φ).out false = _
  unfold b_is_entry
  cases w with
  | tup ws =>
    obtain ⟨m, rfl, hl, hm⟩ := dt_tup h
    match ws, hm with
    | [], _ => simp [isTy, entB]
    | [a], _ => simp [isTy, entB]
    | [a, b], hm =>
      have ha := dts_mem hm (List.mem_cons_self (a := a) (l := [b]))
      have hb := dts_mem hm (List.mem_cons_of_mem a (List.mem_cons_self (a := b) (l := [])))
      have e1 := name_spec (d + 1) φ a (dt_plain ha)
      have e2 := kind_spec d φ b (dt_plain hb)
      have e1' : P.call (d + 3) 3 [a] φ = .ok (.bl (titB a)) φ := e1
      cases ht : titB a <;> simp [isTy, idx_tup0, idx_tup1, e1', e2, ht, entB]
    | a :: b :: c :: r, hm =>
      have : ¬ (((a :: b :: c :: r).length : Int) = 2) := by simp only [List.length_cons]; omega
      have h3 : ¬ ((r.length : Int) + 1 + 1 + 1 = 2) := by omega
      simp [isTy, h3, entB]
  | non => simp [isTy, entB]
  | bl b => simp [isTy, entB]
  | int i => simp [isTy, entB]
  | str s => simp [isTy, entB]
  | lst ws => simp [isTy, entB]
  | dct _ => cases n <;> cases h
  | ins _ _ => cases n <;> cases h
  | obj _ => cases n <;> cases h
end K02
/-! k01: numbers, ascending names, books. -/
namespace K02
open MP PySem
mutual
theorem dt_ok : ∀ {n m : Nat} {w : W}, dt n w = true → n ≤ m → w.okD m = true
  | _, _, .non, _, _ => by simp [W.okD]
  | _, _, .bl _, _, _ => by simp [W.okD]
  | _, _, .int _, _, _ => by simp [W.okD]
  | n, m, .str s, h, _ => by
    have := (dt_str h).1
    simpa [W.okD, good] using this
  | 0, _, .tup _, h, _ => by cases h
  | n + 1, 0, .tup ws, h, hm => by omega
  | n + 1, m + 1, .tup ws, h, hm => by
    have h' : (decide (ws.length ≤ 60) && dts n ws) = true := h
    rw [Bool.and_eq_true] at h'
    simpa [W.okD] using dts_ok (n := n) (m := m) h'.2 (by omega)
  | 0, _, .lst _, h, _ => by cases h
  | n + 1, 0, .lst ws, h, hm => by omega
  | n + 1, m + 1, .lst ws, h, hm => by
    have h' : (decide (ws.length ≤ 60) && dts n ws) = true := h
    rw [Bool.and_eq_true] at h'
    simpa [W.okD] using dts_ok (n := n) (m := m) h'.2 (by omega)
  | n, _, .dct _, h, _ => by cases n <;> cases h
  | n, _, .ins _ _, h, _ => by cases n <;> cases h
  | n, _, .obj _, h, _ => by cases n <;> cases h
theorem dts_ok : ∀ {n m : Nat} {ws : List W}, dts n ws = true → n ≤ m → okDs m ws = true
  | _, _, [], _, _ => by simp [okDs]
  | n, m, w :: ws, h, hm => by
    have h' : (dt n w && dts n ws) = true := h
    rw [Bool.and_eq_true] at h'
    simp [okDs, dt_ok h'.1 hm, dts_ok h'.2 hm]
end
theorem dts_filter {n : Nat} {ws : List W} {p : W → Bool} (h : dts n ws = true) : dts n (ws.filter p) = true := by
  induction ws with
  | nil => rfl
  | cons w ws ih =>
    have h' : (dt n w && dts n ws) = true := h
    rw [Bool.and_eq_true] at h'
    by_cases hp : p w = true
    · rw [List.filter_cons_of_pos hp]
      show (dt n w && dts n (ws.filter p)) = true
      rw [h'.1, ih h'.2]; rfl
    · rw [List.filter_cons_of_neg hp]
      exact ih h'.2
theorem ne_lnil {ws : List W} (h : okDs 61 ws = true) : opCmp .ne (.lst ws) (.lst []) = some (!ws.isEmpty) := by
  show (if (W.lst ws).okD 62 && (W.lst []).okD 62 then some (!eqW (.lst ws) (.lst [])) else none) = _
  have h1 : (W.lst ws).okD 62 = true := by simpa [W.okD] using h
  have h2 : (W.lst []).okD 62 = true := rfl
  rw [h1, h2]
  cases ws with
  | nil => rfl
  | cons w ws => rfl
def intB : W → Bool
  | .int _ => true
  | _ => false
def numB : W → Bool
  | .int i => decide (0 ≤ i)
  | _ => false
theorem upto_map : ∀ (m : Nat) (i : Int), upto i m = (List.range m).map fun (k : Nat) => W.int (i + (k : Int))
  | 0, _ => rfl
  | m + 1, i => by
    rw [List.range_succ_eq_map, List.map_cons, List.map_map]
    show W.int i :: upto (i + 1) m = _
    rw [upto_map m (i + 1)]
    congr 1
    · simp
    · refine List.map_congr_left fun k _ => ?_
      show W.int (i + 1 + k) = W.int (i + ((k + 1 : Nat) : Int))
      congr 1
      omega
def ascB (xs : List (List Nat)) : Bool := (List.range (xs.length - 1)).all fun k => decide (xs.getD k [] < xs.getD (k + 1) [])
theorem ascB_iff {xs : List (List Nat)} : ascB xs = true ↔ xs = setS xs := by
  have h1 : ascB xs = true ↔ xs.Pairwise (· < ·) := by
    unfold ascB
    rw [List.all_eq_true]
    induction xs with
    | nil => simp
    | cons x xs ih =>
      rw [List.pairwise_cons, ← ih]
      constructor
      · intro h
        have hr : ∀ k ∈ List.range (xs.length - 1), decide (xs.getD k [] < xs.getD (k + 1) []) = true := fun k hk => by
          have := h (k + 1) (by rw [List.mem_range] at hk ⊢; rw [List.length_cons]; omega)
          simpa using this
        refine ⟨fun y hy => ?_, hr⟩
        have hp := ih.mp hr
        cases xs with
        | nil => cases hy
        | cons z r =>
          have hz : x < z := by simpa using h 0 (by rw [List.mem_range]; simp)
          rcases List.mem_cons.mp hy with e | e
          · rw [e]; exact hz
          · exact List.lt_trans hz ((List.pairwise_cons.mp hp).1 y e)
      · rintro ⟨hx, hr⟩ k hk
        cases k with
        | zero =>
          cases xs with
          | nil => simp at hk
          | cons z r => simpa using hx z List.mem_cons_self
        | succ k =>
          have := hr k (by rw [List.mem_range] at hk ⊢; rw [List.length_cons] at hk; omega)
          simpa using this
  rw [h1]
  exact ⟨fun h => asc_uniq h (setS_asc xs) fun y => setS_mem.symm, fun h => by rw [h]; exact setS_asc xs⟩
theorem allB_map {α : Type} (p : α → Bool) : ∀ l : List α, allB (l.map fun k => W.bl (p k)) = some (l.all p)
  | [] => rfl
  | x :: l => by
    show (allB (l.map fun k => W.bl (p k))).map (p x && ·) = _
    rw [allB_map p l]
    rfl
theorem lt_str (s t : List Nat) : opCmp .lt (.str s) (.str t) = some (decide (s < t)) := rfl
theorem ix_nat {α : Type} {xs : List α} {i : Nat} {x : α} (h : xs[i]? = some x) : ixW xs (i : Int) = some x := by
  have hlt := (List.getElem?_eq_some_iff.mp h).1
  unfold ixW
  rw [if_pos (Int.natCast_nonneg i), if_pos (by omega), Int.toNat_natCast]
  exact h
/-- a list or a tuple -/
def isSeq (w : W) (ws : List W) : Prop := w = .lst ws ∨ w = .tup ws
theorem seq_idx {w : W} {ws : List W} (h : isSeq w ws) (i : Int) : opIdx w (.int i) = ixW ws i := by rcases h with rfl | rfl <;> rfl
theorem seq_len {w : W} {ws : List W} (h : isSeq w ws) : opBlt .len w = some (.int ws.length) := by rcases h with rfl | rfl <;> rfl
theorem rng2_of {i j : Int} (h1 : -1000000 ≤ i) (h2 : i ≤ 1000000) (h3 : -1000000 ≤ j) (h4 : j ≤ 1000000) : opRng2 (.int i) (.int j) = some (.lst (upto i (j - i).toNat)) := by
  unfold opRng2
  split
  · rename_i a b e1 e2
    cases e1
    cases e2
    refine if_pos ?_
    refine ⟨⟨?_, ?_⟩, ?_, ?_⟩ <;> omega
  · rename_i h
    exact absurd rfl (h i j rfl)
def gA (xs : List (List Nat)) : W → W
  | .int i => .bl (decide (xs.getD (i - 1).toNat [] < xs.getD i.toNat []))
  | _ => .non
theorem asc_map (xs : List (List Nat)) : (upto 1 (xs.length - 1)).map (gA xs) = (List.range (xs.length - 1)).map fun k => W.bl (decide (xs.getD k [] < xs.getD (k + 1) [])) := by
  rw [upto_map, List.map_map]
  refine List.map_congr_left fun k _ => ?_
  show W.bl (decide (xs.getD ((1 : Int) + (k : Int) - 1).toNat [] < xs.getD ((1 : Int) + (k : Int)).toNat [])) = _
  have e0 : ((1 : Int) + (k : Int) - 1).toNat = k := by omega
  have e1 : ((1 : Int) + (k : Int)).toNat = k + 1 := by omega
  rw [e0, e1]
theorem asc_elt (d : Nat) (φ : Sto) (w : W) (xs : List (List Nat)) (hw : isSeq w (xs.map .str)) (w' : W) (hw' : w' ∈ upto 1 (xs.length - 1)) :
    evalE P.gv (P.call d) (.cmp .lt (.idx (.var 0) (.bin .sub (.var 1) (.int 1))) (.idx (.var 0) (.var 1))) ([Sl.val w, .none].set 1 (.val w')) φ = .ok (gA xs w') φ := by
  rw [upto_map] at hw'
  obtain ⟨k, hk, rfl⟩ := List.mem_map.mp hw'
  rw [List.mem_range] at hk
  have h0 : xs[k]? = some (xs.getD k []) := by rw [List.getD_eq_getElem?_getD, List.getElem?_eq_getElem (by omega)]; rfl
  have h1 : xs[k + 1]? = some (xs.getD (k + 1) []) := by rw [List.getD_eq_getElem?_getD, List.getElem?_eq_getElem (by omega)]; rfl
  have g0 : opIdx w (.int (k : Int)) = some (.str (xs.getD k [])) := by
    rw [seq_idx hw, ix_nat (x := W.str (xs.getD k []))]
    rw [List.getElem?_map, h0]; rfl
  have g1 : opIdx w (.int ((k + 1 : Nat) : Int)) = some (.str (xs.getD (k + 1) [])) := by
    rw [seq_idx hw, ix_nat (x := W.str (xs.getD (k + 1) []))]
    rw [List.getElem?_map, h1]; rfl
  have e0 : (1 : Int) + (k : Int) - 1 = (k : Int) := by omega
  have e1 : (1 : Int) + (k : Int) = ((k + 1 : Nat) : Int) := by omega
  have e2 : gA xs (.int ((1 : Int) + (k : Int))) = W.bl (decide (xs.getD k [] < xs.getD (k + 1) [])) := by
    show W.bl (decide (xs.getD ((1 : Int) + (k : Int) - 1).toNat [] < xs.getD ((1 : Int) + (k : Int)).toNat [])) = _
    have e0 : ((1 : Int) + (k : Int) - 1).toNat = k := by omega
    have e1 : ((1 : Int) + (k : Int)).toNat = k + 1 := by omega
    rw [e0, e1]
  rw [e2]
  simp only [List.set_cons_succ, List.set_cons_zero, ev_cmp, ev_idx, ev_var, ev_bin, ev_int, List.getElem?_cons_succ, List.getElem?_cons_zero, Out.bind_ok, sub_int, Out.ofO_some, e0, g0]
  rw [e1, g1]
  simp only [Out.ofO_some, Out.bind_ok, lt_str, Option.map_some]
theorem asc_comp (d : Nat) (φ : Sto) (w : W) (xs : List (List Nat)) (hw : isSeq w (xs.map .str)) :
    compL (fun w' φ' => if T.nil.isNil then .ok true φ' else (evalE P.gv (P.call d) .nil ([Sl.val w, .none].set 1 (.val w')) φ').bind fun z φ'' => .ofO (truthy z) φ'')
      (fun w' φ' => evalE P.gv (P.call d) (.cmp .lt (.idx (.var 0) (.bin .sub (.var 1) (.int 1))) (.idx (.var 0) (.var 1))) ([Sl.val w, .none].set 1 (.val w')) φ') (upto 1 (xs.length - 1)) φ =
      .ok ((List.range (xs.length - 1)).map fun k => W.bl (decide (xs.getD k [] < xs.getD (k + 1) []))) φ := by
  have h := compL_pure (φ := φ) (p := fun _ => true) (g := gA xs) (ws := upto 1 (xs.length - 1))
    (c := fun w' φ' => if T.nil.isNil then .ok true φ' else (evalE P.gv (P.call d) .nil ([Sl.val w, .none].set 1 (.val w')) φ').bind fun z φ'' => .ofO (truthy z) φ'')
    (e := fun w' φ' => evalE P.gv (P.call d) (.cmp .lt (.idx (.var 0) (.bin .sub (.var 1) (.int 1))) (.idx (.var 0) (.var 1))) ([Sl.val w, .none].set 1 (.val w')) φ')
    (fun w' _ => rfl) (fun w' hw' _ => asc_elt d φ w xs hw w' hw')
  rw [h, List.filter_eq_self.mpr (fun _ _ => rfl), asc_map]
end K02
/-! k01: books and stands. -/
namespace K02
open MP PySem
theorem comp_map {call : Calls} {ρ : MP.Loc} {φ : Sto} {x : Nat} {it e : T} {y : W} {ws : List W} {g : W → W} (hit : evalE P.gv call it ρ φ = .ok y φ) (hy : items y = some ws) (hz : ws.length ≤ sizeLine)
    (he : ∀ w ∈ ws, evalE P.gv call e (ρ.set x (.val w)) φ = .ok (g w) φ) : evalE P.gv call (.comp x it .nil e) ρ φ = .ok (.lst (ws.map g)) φ := by
  have h := compL_pure (φ := φ) (p := fun _ => true) (g := g) (ws := ws)
    (c := fun w φ' => if T.nil.isNil then .ok true φ' else (evalE P.gv call .nil (ρ.set x (.val w)) φ').bind fun z φ'' => .ofO (truthy z) φ'')
    (e := fun w φ' => evalE P.gv call e (ρ.set x (.val w)) φ') (fun _ _ => rfl) (fun w hw _ => he w hw)
  have hf : ws.filter (fun _ => true) = ws := List.filter_eq_self.mpr (fun _ _ => rfl)
  rw [ev_comp, hit, Out.bind_ok, hy, Out.ofO_some, Out.bind_ok, h, hf, Out.bind_ok, if_pos (by rw [List.length_map]; exact hz)]
  rfl
theorem comp_fil {call : Calls} {ρ : MP.Loc} {φ : Sto} {x : Nat} {it c e : T} {y : W} {ws : List W} {p : W → Bool} (hit : evalE P.gv call it ρ φ = .ok y φ) (hy : items y = some ws) (hz : ws.length ≤ sizeLine)
    (hn : c.isNil = false) (hc : ∀ w ∈ ws, evalE P.gv call c (ρ.set x (.val w)) φ = .ok (.bl (p w)) φ) (he : ∀ w ∈ ws, evalE P.gv call e (ρ.set x (.val w)) φ = .ok w φ) :
    evalE P.gv call (.comp x it c e) ρ φ = .ok (.lst (ws.filter p)) φ := by
  have h := compL_pure (φ := φ) (p := p) (g := id) (ws := ws)
    (c := fun w φ' => if c.isNil then .ok true φ' else (evalE P.gv call c (ρ.set x (.val w)) φ').bind fun z φ'' => .ofO (truthy z) φ'')
    (e := fun w φ' => evalE P.gv call e (ρ.set x (.val w)) φ')
    (fun w hw => by
      rw [hn, if_neg (by decide), hc w hw]
      rfl) (fun w hw _ => he w hw)
  have hl : (ws.filter p).length ≤ sizeLine := Nat.le_trans (List.length_filter_le p ws) hz
  rw [ev_comp, hit, Out.bind_ok, hy, Out.ofO_some, Out.bind_ok, h, List.map_id, Out.bind_ok, if_pos hl]
  rfl
theorem strsOf_map : ∀ xs : List (List Nat), strsOf (xs.map .str) = some xs
  | [] => rfl
  | x :: xs => by
    show (strsOf (xs.map .str)).map (x :: ·) = _
    rw [strsOf_map xs]; rfl
theorem okDs_strL : ∀ {n : Nat} {xs : List (List Nat)}, (∀ x ∈ xs, good x = true) → okDs n (xs.map .str) = true
  | _, [], _ => by simp [okDs]
  | n, x :: xs, h => by
    have h1 := h x List.mem_cons_self
    have h2 := okDs_strL (n := n) fun y hy => h y (List.mem_cons_of_mem _ hy)
    unfold good at h1
    simp [okDs, W.okD, h2, h1]
theorem eqv_strs : ∀ xs ys : List (List Nat), PyData.eqvAll (toDs (xs.map .str)) (toDs (ys.map .str)) = decide (xs = ys)
  | [], [] => by simp [toDs, PyData.eqvAll]
  | [], y :: ys => by simp [toDs, PyData.eqvAll]
  | x :: xs, [] => by simp [toDs, PyData.eqvAll]
  | x :: xs, y :: ys => by
    have ih := eqv_strs xs ys
    show (PyData.eqv (.str (toS x)) (.str (toS y)) && PyData.eqvAll (toDs (xs.map .str)) (toDs (ys.map .str))) = _
    rw [ih]
    have e : PyData.eqv (.str (toS x)) (.str (toS y)) = decide (x = y) := by
      by_cases h : x = y
      · subst h
        simp [PyData.eqv]
      · have hn : toS x ≠ toS y := fun z => h (toS_inj z)
        simp [PyData.eqv, h, hn]
    rw [e]
    by_cases h : x = y <;> simp [h]
theorem eq_strL {xs ys : List (List Nat)} (h1 : ∀ x ∈ xs, good x = true) (h2 : ∀ x ∈ ys, good x = true) : opCmp .eq (.lst (xs.map .str)) (.lst (ys.map .str)) = some (decide (xs = ys)) := by
  show (if (W.lst (xs.map .str)).okD 62 && (W.lst (ys.map .str)).okD 62 then some (eqW (.lst (xs.map .str)) (.lst (ys.map .str))) else none) = _
  have e1 : (W.lst (xs.map .str)).okD 62 = true := by simpa [W.okD] using okDs_strL (n := 61) h1
  have e2 : (W.lst (ys.map .str)).okD 62 = true := by simpa [W.okD] using okDs_strL (n := 61) h2
  rw [e1, e2, if_pos (by rfl)]
  congr 1
  show PyData.eqv (.list (toDs (xs.map .str))) (.list (toDs (ys.map .str))) = _
  rw [← eqv_strs xs ys]
  simp [PyData.eqv]
/-! ### books -/
def nmOf : W → List Nat
  | .tup (.str s :: _) => s
  | _ => []
theorem ent_idx {n : Nat} {w : W} (h : entB w = true) (hd : dt n w = true) : opIdx w (.int 0) = some (.str (nmOf w)) ∧ good (nmOf w) = true := by
  cases w with
  | tup ws =>
    match ws, h with
    | [a, b], h =>
      cases a with
      | str s =>
        obtain ⟨m, rfl, _, hm⟩ := dt_tup hd
        exact ⟨idx_tup0 _ _, (dt_str (dts_mem hm List.mem_cons_self)).1⟩
      | _ => simp [entB, titB] at h
  | _ => cases h
def bookB : W → Bool
  | .tup ws => ws.all entB && ascB (ws.map nmOf)
  | _ => false
theorem filter_not_nil {ws : List W} {p : W → Bool} : (ws.filter fun w => !p w).isEmpty = ws.all p := by
  induction ws with
  | nil => rfl
  | cons w ws ih =>
    cases h : p w
    · rw [List.filter_cons_of_pos (by simp [h])]
      simp [h]
    · rw [List.filter_cons_of_neg (by simp [h]), ih]
      simp [h]
theorem all_lst {ws : List W} {p : W → Bool} : opBlt .all (.lst (ws.map fun w => .bl (p w))) = some (.bl (ws.all p)) := by
  show (allB (ws.map fun w => W.bl (p w))).map W.bl = _
  rw [allB_map]; rfl
end K02
/-! k01: stands, variables. -/
namespace K02
open MP PySem
def strOf : W → List Nat
  | .str s => s
  | _ => []
theorem kind_str {n : Nat} {w : W} (h : kindB w = true) (hd : dt n w = true) : w = .str (strOf w) ∧ good (strOf w) = true := by
  cases w with
  | str s => exact ⟨rfl, (dt_str hd).1⟩
  | _ => cases h
theorem kinds_str {n : Nat} : ∀ {ws : List W}, ws.all kindB = true → dts n ws = true → ws = (ws.map strOf).map .str ∧ ∀ x ∈ ws.map strOf, good x = true
  | [], _, _ => ⟨rfl, fun _ h => by cases h⟩
  | w :: ws, h, hd => by
    have hk := List.all_eq_true.mp h
    have h1 := kind_str (hk w List.mem_cons_self) (dts_mem hd List.mem_cons_self)
    have hd' : (dt n w && dts n ws) = true := hd
    rw [Bool.and_eq_true] at hd'
    have h2 := kinds_str (ws := ws) (List.all_eq_true.mpr fun v hv => hk v (List.mem_cons_of_mem _ hv)) hd'.2
    refine ⟨?_, ?_⟩
    · rw [List.map_cons, List.map_cons, ← h1.1, ← h2.1]
    · intro x hx
      rcases List.mem_cons.mp hx with e | e
      · rw [e]; exact h1.2
      · exact h2.2 x e
def kindsB : W → Bool
  | .tup ws => ws.all kindB && ascB (ws.map strOf)
  | _ => false
def standB : W → Bool
  | .tup [a, b] => titB b && kindsB a
  | _ => false
theorem st_if_f {gv : Nat → Option W} {fr : Nat → Bool} {call : Calls} {c a b : T} {ρ : MP.Loc} {φ : Sto} (h : evalE gv call c ρ φ = .ok (.bl false) φ) : evalS gv fr call (.sif c a b) ρ φ = evalS gv fr call b ρ φ := by
  rw [st_if, h]; rfl
theorem nx_then (ρ : MP.Loc) (φ : Sto) (k : MP.Loc → Sto → Res) : (Res.nx ρ φ).andThen k = k ρ φ := rfl
end K02
/-! k01: makers. -/
namespace K02
open MP PySem
mutual
def mkB : W → Bool
  | .tup ws => mkT ws
  | _ => false
def mkT : List W → Bool
  | [] => false
  | a :: r => (titB a || numB a) && mkR r
def mkR : List W → Bool
  | [] => false
  | b :: r => r.isEmpty && mkV b
def mkV : W → Bool
  | .tup ws => mkBs ws
  | _ => false
def mkBs : List W → Bool
  | [] => true
  | w :: ws => mkB w && mkBs ws
end
theorem mkBs_all : ∀ ws : List W, mkBs ws = ws.all mkB
  | [] => by simp [mkBs]
  | w :: ws => by simp [mkBs, mkBs_all ws]
mutual
theorem dt_mono : ∀ {n m : Nat} {w : W}, dt n w = true → n ≤ m → dt m w = true
  | _, m, .non, _, _ => by cases m <;> rfl
  | _, m, .bl _, _, _ => by cases m <;> rfl
  | _, m, .int _, _, _ => by cases m <;> rfl
  | n, m, .str s, h, _ => by
    have h' : (good s && decide (s.length ≤ 1000000) && decide (s.count 40 ≤ 60)) = true := by cases n <;> exact h
    cases m <;> exact h'
  | 0, _, .tup _, h, _ => by cases h
  | n + 1, 0, .tup ws, h, hm => by omega
  | n + 1, m + 1, .tup ws, h, hm => by
    have h' : (decide (ws.length ≤ 60) && dts n ws) = true := h
    rw [Bool.and_eq_true] at h'
    show (decide (ws.length ≤ 60) && dts m ws) = true
    rw [h'.1, dts_mono h'.2 (by omega)]; rfl
  | 0, _, .lst _, h, _ => by cases h
  | n + 1, 0, .lst ws, h, hm => by omega
  | n + 1, m + 1, .lst ws, h, hm => by
    have h' : (decide (ws.length ≤ 60) && dts n ws) = true := h
    rw [Bool.and_eq_true] at h'
    show (decide (ws.length ≤ 60) && dts m ws) = true
    rw [h'.1, dts_mono h'.2 (by omega)]; rfl
  | n, _, .dct _, h, _ => by cases n <;> cases h
  | n, _, .ins _ _, h, _ => by cases n <;> cases h
  | n, _, .obj _, h, _ => by cases n <;> cases h
theorem dts_mono : ∀ {n m : Nat} {ws : List W}, dts n ws = true → n ≤ m → dts m ws = true
  | _, _, [], _, _ => by simp [dts]
  | n, m, w :: ws, h, hm => by
    have h' : (dt n w && dts n ws) = true := h
    rw [Bool.and_eq_true] at h'
    simp [dts, dt_mono h'.1 hm, dts_mono h'.2 hm]
end
theorem mkB_0 : mkB (.tup []) = false := rfl
theorem mkB_1 (a : W) : mkB (.tup [a]) = false := by
  show ((titB a || numB a) && false) = false
  rw [Bool.and_false]
theorem mkB_3 (a b c : W) (r : List W) : mkB (.tup (a :: b :: c :: r)) = false := by
  show ((titB a || numB a) && (false && mkV b)) = false
  rw [Bool.false_and, Bool.and_false]
theorem mkB_2 (a b : W) : mkB (.tup [a, b]) = ((titB a || numB a) && mkV b) := rfl
theorem mkB_2v (a : W) (ws : List W) : mkB (.tup [a, .tup ws]) = ((titB a || numB a) && ws.all mkB) := by
  rw [← mkBs_all]; rfl
theorem mkB_2n (a b : W) (h : mkV b = false) : mkB (.tup [a, b]) = false := by
  rw [mkB_2, h, Bool.and_false]
end K02
/-! k01: is_maker, a loop over a stack. -/
namespace K02
open MP PySem
mutual
def nd : W → Nat
  | .tup ws => nds ws + 1
  | .lst ws => nds ws + 1
  | .str s => s.length + 1
  | .int _ => 201
  | _ => 1
def nds : List W → Nat
  | [] => 0
  | w :: ws => nd w + nds ws
end
theorem nd_pos (w : W) : 1 ≤ nd w := by cases w <;> first | exact Nat.le_refl _ | exact (by decide : 1 ≤ 201) | exact Nat.succ_le_succ (Nat.zero_le _)
theorem nds_app : ∀ a b : List W, nds (a ++ b) = nds a + nds b
  | [], b => by simp [nds]
  | x :: a, b => by
    show nd x + nds (a ++ b) = nd x + nds a + nds b
    rw [nds_app a b]; omega
theorem len_nds : ∀ a : List W, a.length ≤ nds a
  | [] => Nat.le_refl _
  | x :: a => by
    have := len_nds a
    have := nd_pos x
    show a.length + 1 ≤ nd x + nds a
    omega
theorem dts_app {n : Nat} : ∀ {a b : List W}, dts n (a ++ b) = (dts n a && dts n b)
  | [], b => by simp [dts]
  | x :: a, b => by
    show (dt n x && dts n (a ++ b)) = (dt n x && dts n a && dts n b)
    rw [dts_app (a := a), Bool.and_assoc]
def mkC : T := .cmp .gt (.blt .len (.own 1)) (.int 0)
def mkI1 : T := .orN (.cons (.not (.isi (.var 2) .tuple)) (.cons (.cmp .ne (.blt .len (.var 2)) (.int 2)) (.cons (.not (.isi (.idx (.var 2) (.int 1)) .tuple)) .nil)))
theorem st_if_t {gv : Nat → Option W} {fr : Nat → Bool} {call : Calls} {c a b : T} {ρ : MP.Loc} {φ : Sto} (h : evalE gv call c ρ φ = .ok (.bl true) φ) : evalS gv fr call (.sif c a b) ρ φ = evalS gv fr call a ρ φ := by
  rw [st_if, h]; rfl
theorem rt_then (w : W) (φ : Sto) (k : MP.Loc → Sto → Res) : (Res.rt w φ).andThen k = .rt w φ := rfl
theorem ret_false {gv : Nat → Option W} {fr : Nat → Bool} {call : Calls} {ρ : MP.Loc} {φ : Sto} (b : Bool) : evalS gv fr call (.cons (.sret (.bl b)) .nil) ρ φ = .rt (.bl b) φ := rfl
theorem pop_spec {gv : Nat → Option W} {fr : Nat → Bool} {call : Calls} {φ : Sto} (w z : W) (st : List W) (s2 : Sl) : evalS gv fr call (.spop 2 1) [.val w, .own (.lst (st ++ [z])), s2] φ = .nx [.val w, .own (.lst st), .val z] φ := by
  rw [st_pop]
  simp
end K02
/-! k01: variables. -/
namespace K02
open MP PySem
def varsB : W → Bool
  | .tup ws => !ws.isEmpty && (ws.all entB && decide ((setS (ws.map nmOf)).length = ws.length))
  | _ => false
theorem lset_spec {ws : List W} (hl : ws.length ≤ 60) : opLset (.lst ((ws.map nmOf).map .str)) = some (.int (setS (ws.map nmOf)).length) := by
  show (((some ((ws.map nmOf).map W.str)).bind strsOf).bind fun xs => if xs.length < 4000 then some (W.int (setS xs).length) else none) = _
  rw [Option.bind_some, strsOf_map, Option.bind_some, if_pos (by rw [List.length_map]; omega)]
theorem deq_nat (a b : Nat) : decide ((a : Int) = (b : Int)) = decide (a = b) := by
  rw [Bool.eq_iff_iff, decide_eq_true_eq, decide_eq_true_eq]; omega
theorem names_map {n : Nat} {ws : List W} (he : ws.all entB = true) (hd : dts n ws = true) : ∀ w ∈ ws, opIdx w (.int 0) = some (.str (nmOf w)) := fun w hw =>
  (ent_idx (List.all_eq_true.mp he w hw) (dts_mem hd hw)).1
end K02
/-! k01: the feed and its draws. -/
namespace K02
open MP PySem
def kCELLS : List Nat := [99, 101, 108, 108, 115]
def kNEXT : List Nat := [110, 101, 120, 116]
def kLEFT : List Nat := [108, 101, 102, 116]
def kCOUNT : List Nat := [99, 111, 117, 110, 116]
def feedC (cs : List Int) (nx lf ct : Int) : Cell := .dct [(.inr kCELLS, .lst (cs.map .int)), (.inr kNEXT, .int nx), (.inr kLEFT, .int lf), (.inr kCOUNT, .int ct)]
section
variable {gv : Nat → Option W} {call : Calls} {ρ : MP.Loc} {cs : List Int} {nx lf ct : Int}
theorem g_cells (h : ρ[0]? = some (.val (.obj 0))) : evalE gv call (.dget (.var 0) (.str [99, 101, 108, 108, 115])) ρ [feedC cs nx lf ct] = .ok (.lst (cs.map .int)) [feedC cs nx lf ct] := by
  rw [ev_dget, ev_var, h]; rfl
theorem g_next (h : ρ[0]? = some (.val (.obj 0))) : evalE gv call (.dget (.var 0) (.str [110, 101, 120, 116])) ρ [feedC cs nx lf ct] = .ok (.int nx) [feedC cs nx lf ct] := by
  rw [ev_dget, ev_var, h]; rfl
theorem g_left (h : ρ[0]? = some (.val (.obj 0))) : evalE gv call (.dget (.var 0) (.str [108, 101, 102, 116])) ρ [feedC cs nx lf ct] = .ok (.int lf) [feedC cs nx lf ct] := by
  rw [ev_dget, ev_var, h]; rfl
theorem g_count (h : ρ[0]? = some (.val (.obj 0))) : evalE gv call (.dget (.var 0) (.str [99, 111, 117, 110, 116])) ρ [feedC cs nx lf ct] = .ok (.int ct) [feedC cs nx lf ct] := by
  rw [ev_dget, ev_var, h]; rfl
theorem four_ok : 4 < sizeLine := by rw [szl]; decide
theorem p_count {fr : Nat → Bool} {e : T} {v : Int} (h : ρ[0]? = some (.val (.obj 0))) (he : evalE gv call e ρ [feedC cs nx lf ct] = .ok (.int v) [feedC cs nx lf ct]) :
    evalS gv fr call (.sdput (.var 0) (.str [99, 111, 117, 110, 116]) e) ρ [feedC cs nx lf ct] = .nx ρ [feedC cs nx lf v] := by
  rw [st_dput, he]
  show ((evalE gv call (.var 0) ρ [feedC cs nx lf ct]).toR ρ _) = _
  rw [ev_var, h]
  exact if_pos (e := Res.bad) four_ok
theorem p_left {fr : Nat → Bool} {e : T} {v : Int} (h : ρ[0]? = some (.val (.obj 0))) (he : evalE gv call e ρ [feedC cs nx lf ct] = .ok (.int v) [feedC cs nx lf ct]) :
    evalS gv fr call (.sdput (.var 0) (.str [108, 101, 102, 116]) e) ρ [feedC cs nx lf ct] = .nx ρ [feedC cs nx v ct] := by
  rw [st_dput, he]
  show ((evalE gv call (.var 0) ρ [feedC cs nx lf ct]).toR ρ _) = _
  rw [ev_var, h]
  exact if_pos (e := Res.bad) four_ok
theorem p_next {fr : Nat → Bool} {e : T} {v : Int} (h : ρ[0]? = some (.val (.obj 0))) (he : evalE gv call e ρ [feedC cs nx lf ct] = .ok (.int v) [feedC cs nx lf ct]) :
    evalS gv fr call (.sdput (.var 0) (.str [110, 101, 120, 116]) e) ρ [feedC cs nx lf ct] = .nx ρ [feedC cs v lf ct] := by
  rw [st_dput, he]
  show ((evalE gv call (.var 0) ρ [feedC cs nx lf ct]).toR ρ _) = _
  rw [ev_var, h]
  exact if_pos (e := Res.bad) four_ok
end
end K02
/-! k01: small rules for draws. -/
namespace K02
open MP PySem
theorem fmod_bounds {i m : Int} (h : 0 < m) : 0 ≤ i.fmod m ∧ i.fmod m < m := ⟨Int.fmod_nonneg_of_pos i h, Int.fmod_lt_of_pos i h⟩
section
variable {gv : Nat → Option W} {call : Calls} {ρ : MP.Loc} {φ : Sto} {a b : T} {i j : Int}
theorem x_add (ha : evalE gv call a ρ φ = .ok (.int i) φ) (hb : evalE gv call b ρ φ = .ok (.int j) φ) : evalE gv call (.bin .add a b) ρ φ = .ok (.int (i + j)) φ := by
  rw [ev_bin, ha, Out.bind_ok, hb]; rfl
theorem x_mod (ha : evalE gv call a ρ φ = .ok (.int i) φ) (hb : evalE gv call b ρ φ = .ok (.int j) φ) (h : j ≠ 0) : evalE gv call (.bin .mod a b) ρ φ = .ok (.int (i.fmod j)) φ := by
  rw [ev_bin, ha, Out.bind_ok, hb, Out.bind_ok, show opBin .mod (.int i) (.int j) = some (.int (i.fmod j)) from if_pos h]; rfl
theorem x_fdiv (ha : evalE gv call a ρ φ = .ok (.int i) φ) (hb : evalE gv call b ρ φ = .ok (.int j) φ) (h : j ≠ 0) (h2 : j.natAbs < 1073741824) : evalE gv call (.bin .fdiv a b) ρ φ = .ok (.int (i.fdiv j)) φ := by
  rw [ev_bin, ha, Out.bind_ok, hb, Out.bind_ok, show opBin .fdiv (.int i) (.int j) = some (.int (i.fdiv j)) from if_pos ⟨h, h2⟩]; rfl
theorem x_mul (ha : evalE gv call a ρ φ = .ok (.int i) φ) (hb : evalE gv call b ρ φ = .ok (.int j) φ) (h : (-(2 ^ 64) < i ∧ i < 2 ^ 64) ∨ (-(2 ^ 64) < j ∧ j < 2 ^ 64)) : evalE gv call (.bin .mul a b) ρ φ = .ok (.int (i * j)) φ := by
  rw [ev_bin, ha, Out.bind_ok, hb, Out.bind_ok, show opBin .mul (.int i) (.int j) = some (.int (i * j)) from if_pos h]; rfl
theorem x_toint (ha : evalE gv call a ρ φ = .ok (.int i) φ) : evalE gv call (.blt .int a) ρ φ = .ok (.int i) φ := by
  rw [ev_blt, ha]; rfl
theorem x_int : evalE gv call (.int i) ρ φ = .ok (.int i) φ := rfl
end
end K02
/-! k01: a draw from what is left. -/
namespace K02
open MP PySem
theorem draw_left (d : Nat) (cs : List Int) (nx lf ct m : Int) (hl : 0 < lf) (hm : 0 < m) (hm2 : m < 1073741824) :
    P.call (d + 1) 8 [.obj 0, .int m] [feedC cs nx lf ct] = .ok (.int (lf.fmod m)) [feedC cs nx (lf.fdiv m) (ct + 1)] := by
  have n0 : m ≠ 0 := by omega
  have n1 : m.natAbs < 1073741824 := by omega
  rw [call_eq (fn := ⟨2, 6, false, b__law_draw⟩) rfl rfl]
  show (evalS P.gv P.fr (P.call d) b__law_draw [.val (.obj 0), .val (.int m), .none, .none, .none, .none] [feedC cs nx lf ct]).out false = _
  unfold b__law_draw
  have c1 : evalE P.gv (P.call d) (.cmp .gt (.dget (.var 0) (.str [108, 101, 102, 116])) (.int 0)) [.val (.obj 0), .val (.int m), .none, .none, .none, .none] [feedC cs nx lf (ct + 1)] = .ok (.bl true) [feedC cs nx lf (ct + 1)] := by
    rw [ev_cmp, g_left rfl, Out.bind_ok, ev_int, Out.bind_ok]
    simp [hl]
  rw [st_cons, p_count rfl (x_add (g_count rfl) x_int), nx_then, st_cons, st_if_t c1, st_cons, st_set, x_mod (x_toint (g_left rfl)) (show evalE P.gv (P.call d) (.var 1) _ _ = .ok (.int m) _ from rfl) n0]
  show ((Res.andThen (.nx [.val (.obj 0), .val (.int m), .none, .none, .none, .val (.int (lf.fmod m))] [feedC cs nx lf (ct + 1)]) _).andThen _).out false = _
  rw [nx_then, st_cons, p_left rfl (x_fdiv (g_left rfl) (show evalE P.gv (P.call d) (.var 1) _ _ = .ok (.int m) _ from rfl) n0 n1), nx_then]
  rfl
end K02
/-! k01: a draw. -/
namespace K02
open MP PySem
def Feed (φ : Sto) : Prop := ∃ cs nx lf ct, φ = [feedC cs nx lf ct]
theorem okDs_ints (n : Nat) : ∀ cs : List Int, okDs n (cs.map W.int) = true
  | [] => rfl
  | c :: cs => by
    show ((W.int c).okD n && okDs n (cs.map .int)) = true
    rw [okDs_ints n cs, Bool.and_true]
    cases n <;> rfl
theorem ixW_lt {α : Type} {xs : List α} {i : Int} (h0 : 0 ≤ i) (h1 : i < xs.length) : ∃ x, ixW xs i = some x ∧ x ∈ xs := by
  have hlt : i.toNat < xs.length := by omega
  refine ⟨xs[i.toNat], ?_, List.getElem_mem hlt⟩
  unfold ixW
  rw [if_pos h0, if_pos h1]
  exact List.getElem?_eq_getElem hlt
/-- the cell of a draw -/
theorem draw_cell {gv : Nat → Option W} {call : Calls} {ρ : MP.Loc} {cs : List Int} {nx nx' lf ct : Int} (h0 : ρ[0]? = some (.val (.obj 0))) (h2 : ρ[2]? = some (.val (.int nx))) (n : Int) :
    ∃ c, evalE gv call (.ife (.cmp .ne (.dget (.var 0) (.str [99, 101, 108, 108, 115])) (.lst .nil)) (.idx (.dget (.var 0) (.str [99, 101, 108, 108, 115])) (.bin .mod (.blt .int (.var 2)) (.blt .len (.dget (.var 0) (.str [99, 101, 108, 108, 115]))))) (.int n)) ρ [feedC cs nx' lf ct] = .ok (.int c) [feedC cs nx' lf ct] := by
  by_cases hc : cs = []
  · subst hc
    exact ⟨n, r_ife_f (r_cmp (g_cells h0) (r_lst rs_nil) (ne_lnil rfl)) rfl r_int⟩
  · have hl : 0 < (cs.length : Int) := by
      have : cs.length ≠ 0 := fun h => hc (List.length_eq_zero_iff.mp h)
      omega
    obtain ⟨b1, b2⟩ := fmod_bounds (i := nx) hl
    obtain ⟨x, e1, e2⟩ := ixW_lt (xs := cs.map W.int) b1 (by rw [List.length_map]; exact b2)
    obtain ⟨c, _, rfl⟩ := List.mem_map.mp e2
    refine ⟨c, r_ife_t (r_cmp (g_cells h0) (r_lst rs_nil) (ne_lnil (okDs_ints 61 cs))) ?_ (r_idx (v := .int (nx.fmod cs.length)) (g_cells h0) (r_bin (r_blt (r_var h2) rfl) (r_blt (g_cells h0) (len_lst _)) ?_) e1)⟩
    · cases cs with
      | nil => exact absurd rfl hc
      | cons a r => rfl
    · rw [List.length_map]
      exact if_pos (by omega)
theorem pow18 : opBin .pow (.int 10) (.int 18) = some (.int 1000000000000000000) := by
  show (if (0 : Int) ≤ 18 ∧ (18 : Int) ≤ 1000000 ∧ (10 : Int).natAbs < 2 ^ 64 then some (W.int (10 ^ (18 : Int).toNat)) else none) = _
  rw [if_pos (by decide), show (10 : Int) ^ (18 : Int).toNat = 1000000000000000000 by decide +kernel]
theorem draw_spec (d : Nat) (φ : Sto) (m : Int) (hF : Feed φ) (hm : 0 < m) (hm2 : m < 1073741824) :
    ∃ r φ', P.call (d + 1) 8 [.obj 0, .int m] φ = .ok (.int r) φ' ∧ 0 ≤ r ∧ r < m ∧ Feed φ' := by
  obtain ⟨cs, nx, lf, ct, rfl⟩ := hF
  by_cases hl : 0 < lf
  · obtain ⟨b1, b2⟩ := fmod_bounds (i := lf) hm
    exact ⟨_, _, draw_left d cs nx lf ct m hl hm hm2, b1, b2, cs, nx, _, _, rfl⟩
  have n0 : m ≠ 0 := by omega
  have n1 : m.natAbs < 1073741824 := by omega
  rw [call_eq (fn := ⟨2, 6, false, b__law_draw⟩) rfl rfl]
  show ∃ r φ', (evalS P.gv P.fr (P.call d) b__law_draw [.val (.obj 0), .val (.int m), .none, .none, .none, .none] [feedC cs nx lf ct]).out false = .ok (.int r) φ' ∧ _
  unfold b__law_draw
  rw [st_cons, p_count rfl (x_add (g_count rfl) x_int), nx_then, q_skip (r_cmp (g_left rfl) r_int (gt_int _ _)) (by simp [hl]), q_set (g_next rfl) rfl, st_cons, p_next rfl (x_add (r_var rfl) x_int), nx_then]
  obtain ⟨c, hc⟩ := draw_cell (gv := P.gv) (call := P.call d) (ρ := [.val (.obj 0), .val (.int m), .val (.int nx), .none, .none, .none]) (cs := cs) (nx := nx) (nx' := nx + 1) (lf := lf) (ct := ct + 1) rfl rfl 424243
  show ∃ r φ', Res.out false (evalS P.gv P.fr (P.call d) _ [.val (.obj 0), .val (.int m), .val (.int nx), .none, .none, .none] [feedC cs (nx + 1) lf (ct + 1)]) = _ ∧ _
  rw [q_set hc rfl]
  simp only [List.set_cons_succ, List.set_cons_zero]
  have v1 : ∀ {a b e f : Sl} {ψ : Sto}, evalE P.gv (P.call d) (.var 1) [a, .val (.int m), b, e, f, .none] ψ = .ok (.int m) ψ := rfl
  by_cases hb : (1000000000000000000 : Int) ≤ c ∧ nx < cs.length
  · rw [q_if_t (u := .bl true) (r_and (r_and_t (r_cmp (r_var rfl) (r_bin r_int r_int pow18) (ge_int _ _)) (by simp [hb.1]) (r_and1 (by
        rw [r_cmp (x := true) (r_var rfl) (r_blt (g_cells rfl) (len_lst _))]
        rw [lt_int, List.length_map]; simp [hb.2])))) rfl, st_cons, p_left rfl (x_fdiv (r_var rfl) v1 n0 n1), nx_then, q_ret (x_mod (x_toint (r_var rfl)) v1 n0)]
    obtain ⟨b1, b2⟩ := fmod_bounds (i := c) hm
    exact ⟨_, _, rfl, b1, b2, _, _, _, _, rfl⟩
  · have hcond : evalE P.gv (P.call d) (.andN (.cons (.cmp .ge (.var 3) (.bin .pow (.int 10) (.int 18))) (.cons (.cmp .lt (.var 2) (.blt .len (.dget (.var 0) (.str [99, 101, 108, 108, 115])))) .nil))) [.val (.obj 0), .val (.int m), .val (.int nx), .val (.int c), .none, .none] [feedC cs (nx + 1) lf (ct + 1)] = .ok (.bl false) [feedC cs (nx + 1) lf (ct + 1)] := by
      by_cases h1 : (1000000000000000000 : Int) ≤ c
      · have h2 : ¬ nx < cs.length := fun h => hb ⟨h1, h⟩
        refine r_and (r_and_t (r_cmp (r_var rfl) (r_bin r_int r_int pow18) (ge_int _ _)) (by simp [h1]) (r_and1 (r_cmp (r_var rfl) (r_blt (g_cells rfl) (len_lst _)) ?_)))
        rw [lt_int, List.length_map]; simp [h2]
      · have e : evalE P.gv (P.call d) (.cmp .ge (.var 3) (.bin .pow (.int 10) (.int 18))) [.val (.obj 0), .val (.int m), .val (.int nx), .val (.int c), .none, .none] [feedC cs (nx + 1) lf (ct + 1)] = .ok (.bl (decide ((1000000000000000000 : Int) ≤ c))) [feedC cs (nx + 1) lf (ct + 1)] := r_cmp (r_var rfl) (r_bin r_int r_int pow18) (ge_int _ _)
        rw [show decide ((1000000000000000000 : Int) ≤ c) = false by simp [h1]] at e
        exact r_and (r_and_f e rfl)
    rw [q_skip hcond rfl]
    have big : ∀ {i : Int} (k : Int), 0 < k → k < 2 ^ 64 → (-(2 ^ 64) < i.fmod k ∧ i.fmod k < 2 ^ 64) := fun {i} k h1 h2 => by
      obtain ⟨b1, b2⟩ := fmod_bounds (i := i) h1
      omega
    rw [q_set (x_mod (x_toint (x_add (x_add (x_mod (x_toint (r_var rfl)) x_int (by decide)) (x_mul x_int (g_count rfl) (.inl ⟨by decide, by decide⟩))) x_int)) x_int (by decide)) rfl]
    simp only [List.set_cons_succ, List.set_cons_zero]
    rw [q_set (x_mod (x_toint (x_add (x_add (x_mul (r_var rfl) (r_var rfl) (.inl (big _ (by decide) (by decide)))) (x_mul x_int (g_count rfl) (.inl ⟨by decide, by decide⟩))) x_int)) x_int (by decide)) rfl]
    simp only [List.set_cons_succ, List.set_cons_zero]
    rw [q_ret (x_mod (x_toint (x_fdiv (x_mod (x_toint (x_add (x_mul (r_var rfl) (r_var rfl) (.inl (big _ (by decide) (by decide)))) (x_mul x_int (r_var rfl) (.inl ⟨by decide, by decide⟩)))) x_int (by decide)) x_int (by decide) (by decide))) v1 n0)]
    obtain ⟨b1, b2⟩ := fmod_bounds (i := _) hm
    exact ⟨_, _, rfl, b1, b2, _, _, _, _, rfl⟩
end K02
/-! k01: a thing picked, a name drawn. -/
namespace K02
open MP PySem
theorem draw_at {e : Nat} (he : 0 < e) (φ : Sto) (m : Int) (hF : Feed φ) (hm : 0 < m) (hm2 : m < 1073741824) :
    ∃ r φ', P.call e 8 [.obj 0, .int m] φ = .ok (.int r) φ' ∧ 0 ≤ r ∧ r < m ∧ Feed φ' := by
  obtain ⟨d, rfl⟩ : ∃ d, e = d + 1 := ⟨e - 1, by omega⟩
  exact draw_spec d φ m hF hm hm2
theorem pick_seq {e : Nat} (he : 2 ≤ e) (φ : Sto) (w : W) (n : Nat) (Q : W → Prop) (hF : Feed φ) (h0 : 0 < n) (hn : n < 1073741824) (hl : opBlt .len w = some (.int n))
    (hq : ∀ i : Int, 0 ≤ i → i < n → ∃ v, opIdx w (.int i) = some v ∧ Q v) : ∃ v φ', P.call e 9 [.obj 0, w] φ = .ok v φ' ∧ Q v ∧ Feed φ' := by
  obtain ⟨d, rfl⟩ : ∃ d, e = d + 2 := ⟨e - 2, by omega⟩
  obtain ⟨r, φ1, e1, b1, b2, hF1⟩ := draw_spec d φ n hF (by omega) (by omega)
  obtain ⟨v, ev, qv⟩ := hq r b1 b2
  refine ⟨v, φ1, ?_, qv, hF1⟩
  rw [call_eq (fn := ⟨2, 2, false, b__law_pick⟩) rfl rfl]
  show (evalS P.gv P.fr (P.call (d + 1)) b__law_pick [.val (.obj 0), .val w] φ).out false = _
  unfold b__law_pick
  exact q_out (q_ret (r_idx (r_var rfl) (r_call (rs_cons (r_var rfl) (rs_cons (r_blt (r_var rfl) hl) rs_nil)) e1) ev))
theorem pick_lst {e : Nat} (he : 2 ≤ e) (φ : Sto) (ws : List W) (hF : Feed φ) (h0 : ws ≠ []) (hn : ws.length < 1073741824) :
    ∃ v φ', P.call e 9 [.obj 0, .lst ws] φ = .ok v φ' ∧ v ∈ ws ∧ Feed φ' := by
  refine pick_seq he φ (.lst ws) ws.length (· ∈ ws) hF (List.length_pos_iff.mpr h0) hn rfl fun i h1 h2 => ?_
  obtain ⟨x, e1, e2⟩ := ixW_lt (xs := ws) h1 h2
  exact ⟨x, e1, e2⟩
theorem pick_str {e : Nat} (he : 2 ≤ e) (φ : Sto) (s : List Nat) (hF : Feed φ) (h0 : s ≠ []) (hn : s.length ≤ 1000000) :
    ∃ c φ', P.call e 9 [.obj 0, .str s] φ = .ok (.str [c]) φ' ∧ c ∈ s ∧ Feed φ' := by
  obtain ⟨v, φ', e1, ⟨c, rfl, hc⟩, hF'⟩ := pick_seq he φ (.str s) s.length (fun v => ∃ c, v = .str [c] ∧ c ∈ s) hF (List.length_pos_iff.mpr h0) (by omega) (len_str (by rw [szl]; omega)) fun i h1 h2 => by
    obtain ⟨x, e1, e2⟩ := ixW_lt (xs := s) h1 h2
    refine ⟨.str [x], ?_, x, rfl, e2⟩
    show (if s.length ≤ sizeLine then (ixW s i).map fun c => W.str [c] else none) = _
    rw [if_pos (by rw [szl]; omega), e1]
    rfl
  exact ⟨c, φ', e1, hc, hF'⟩
/-- a drawn name -/
def TT (s : List Nat) : Prop := 1 ≤ s.length ∧ s.length ≤ 8 ∧ s.all isL = true
theorem joinS_one : ∀ cs : List Nat, joinS [] (cs.map fun c => [c]) = cs
  | [] => rfl
  | [c] => rfl
  | c :: d :: r => by
    show [c] ++ ([] ++ joinS [] ((d :: r).map fun c => [c])) = _
    rw [joinS_one (d :: r)]
    rfl
theorem strsOf_one (cs : List Nat) : strsOf (cs.map fun c => W.str [c]) = some (cs.map fun c => [c]) := by
  have := strsOf_map (cs.map fun c => [c])
  rwa [List.map_map] at this
theorem sum_ones (cs : List Nat) : ((cs.map fun c => [c]).map List.length).sum = cs.length := by
  induction cs with
  | nil => rfl
  | cons c r ih => simp only [List.map_cons, List.sum_cons, ih, List.length_cons, List.length_nil]; omega
theorem join_ones (cs : List Nat) (h : cs.length ≤ 1000000) : opJoin (.str []) (.lst (cs.map fun c => W.str [c])) = some (.str cs) := by
  show (strsOf _).bind _ = _
  rw [strsOf_one]
  show (if ((cs.map fun c => [c]).map List.length).sum + (cs.map fun c => [c]).length * ([] : List Nat).length ≤ sizeLine then some (W.str (joinS [] (cs.map fun c => [c]))) else none) = _
  rw [if_pos (by rw [sum_ones, szl, List.length_nil]; omega), joinS_one]
theorem ones_of {zs : List W} {p : Nat → Prop} (h : ∀ z ∈ zs, ∃ c, z = .str [c] ∧ p c) : ∃ cs : List Nat, zs = cs.map (fun c => W.str [c]) ∧ ∀ c ∈ cs, p c := by
  induction zs with
  | nil => exact ⟨[], rfl, fun c hc => by cases hc⟩
  | cons z r ih =>
    obtain ⟨c, rfl, hp⟩ := h z List.mem_cons_self
    obtain ⟨cs, rfl, h2⟩ := ih fun y hy => h y (List.mem_cons_of_mem _ hy)
    exact ⟨c :: cs, rfl, fun x hx => by exact (List.mem_cons.mp hx).elim (fun e => e ▸ hp) (h2 x)⟩
theorem upto_len : ∀ (n : Nat) (i : Int), (upto i n).length = n
  | 0, _ => rfl
  | n + 1, i => by show (upto (i + 1) n).length + 1 = _; rw [upto_len n]
theorem rng1_of {n : Int} (h : n ≤ 1000000) (h0 : -1000000 ≤ n) : opRng1 (.int n) = some (.lst (upto 0 n.toNat)) := by
  show (if -(2 ^ 62) ≤ n ∧ n < 2 ^ 62 then _ else _) = _
  rw [if_pos (by omega)]
def TITS : List (List Nat) := [[97], [98], [102], [103], [102, 97], [102, 97, 97], [122], [122, 122, 122, 122, 122, 122, 122, 122], [97, 98, 99, 100, 101, 102, 103, 104], [112], [99, 97, 108, 108], [102, 117, 110]]
theorem tits_ok : ∀ s ∈ TITS, TT s := by
  have h : TITS.all (fun s => decide (1 ≤ s.length) && decide (s.length ≤ 8) && s.all isL) = true := by decide +kernel
  intro s hs
  have := List.all_eq_true.mp h s hs
  simp only [Bool.and_eq_true, decide_eq_true_eq] at this
  exact ⟨this.1.1, this.1.2, this.2⟩
theorem abfgz_ok : ∀ c ∈ ([97, 98, 102, 103, 122] : List Nat), isL c = true := by decide
theorem title_draw {e : Nat} (he : 3 ≤ e) (φ : Sto) (hF : Feed φ) : ∃ s φ', P.call e 10 [.obj 0] φ = .ok (.str s) φ' ∧ TT s ∧ Feed φ' := by
  obtain ⟨d, rfl⟩ : ∃ d, e = d + 3 := ⟨e - 3, by omega⟩
  rw [call_eq (fn := ⟨1, 2, false, b__law_title⟩) rfl rfl]
  show ∃ s φ', (evalS P.gv P.fr (P.call (d + 2)) b__law_title [.val (.obj 0), .none] φ).out false = .ok (.str s) φ' ∧ _
  unfold b__law_title
  obtain ⟨r, φ1, e1, b1, b2, hF1⟩ := draw_at (e := d + 2) (by omega) φ 2 hF (by decide) (by decide)
  have t1 : evalE P.gv (P.call (d + 2)) (.cmp .eq (.call 8 (.cons (.var 0) (.cons (.int 2) .nil))) (.int 0)) [.val (.obj 0), .none] φ = .ok (.bl (decide (r = 0))) φ1 :=
    r_cmp (r_call (rs_cons (r_var rfl) (rs_cons r_int rs_nil)) e1) r_int (eq_int _ _)
  by_cases h0 : r = 0
  · rw [q_if_t t1 (by simp [h0])]
    obtain ⟨v, φ2, e2, hv, hF2⟩ := pick_lst (e := d + 2) (by omega) φ1 (TITS.map .str) hF1 (by decide) (by decide)
    obtain ⟨s, hs, rfl⟩ := List.mem_map.mp hv
    rw [q_ret (r_call (rs_cons (r_var rfl) (rs_cons (r_const (w := .lst (TITS.map .str)) rfl) rs_nil)) e2)]
    exact ⟨s, φ2, rfl, tits_ok s hs, hF2⟩
  · rw [q_skip t1 (by simp [h0])]
    obtain ⟨r2, φ2, e2, c1, c2, hF2⟩ := draw_at (e := d + 2) (by omega) φ1 4 hF1 (by decide) (by decide)
    obtain ⟨v, ev, hv⟩ := ixW_lt (xs := [W.int 1, .int 2, .int 3, .int 8]) c1 c2
    obtain ⟨n, rfl, hn1, hn2⟩ : ∃ n, v = .int n ∧ 1 ≤ n ∧ n ≤ 8 := by
      simp only [List.mem_cons, List.not_mem_nil, or_false] at hv
      rcases hv with rfl | rfl | rfl | rfl <;> exact ⟨_, rfl, by decide, by decide⟩
    obtain ⟨m, φ3, e3, d1, d2, hF3⟩ := draw_at (e := d + 2) (by omega) φ2 n hF2 (by omega) (by omega)
    have t2 : evalE P.gv (P.call (d + 2)) (.rng1 (.bin .add (.int 1) (.call 8 (.cons (.var 0) (.cons (.idx (.lst (.cons (.int 1) (.cons (.int 2) (.cons (.int 3) (.cons (.int 8) .nil))))) (.call 8 (.cons (.var 0) (.cons (.int 4) .nil)))) .nil))))) [.val (.obj 0), .none] φ1 = .ok (.lst (upto 0 (1 + m).toNat)) φ3 := r_rng1 (r_bin (r_int (n := 1)) (r_call (rs_cons (r_var rfl) (rs_cons (r_idx (r_const (t := .lst (.cons (.int 1) (.cons (.int 2) (.cons (.int 3) (.cons (.int 8) .nil))))) rfl) (r_call (rs_cons (r_var rfl) (rs_cons (r_int (n := 4)) rs_nil)) e2) ev) rs_nil)) e3) (add_int _ _)) (rng1_of (by omega) (by omega))
    obtain ⟨zs, φ4, e4, q4, l4, hF4⟩ := compL_inv (c := fun w φ' => .ok true φ') (e := fun w φ' => evalE P.gv (P.call (d + 2)) (.call 9 (.cons (.var 0) (.cons (.str [97, 98, 102, 103, 122]) .nil))) (([.val (.obj 0), .none] : MP.Loc).set 1 (.val w)) φ') Feed (fun z => ∃ c, z = .str [c] ∧ isL c = true) (fun _ _ => rfl) (upto 0 (1 + m).toNat) φ3 hF3 (fun w _ φ hF => by
      obtain ⟨c, φ', e, hc, hF'⟩ := pick_str (e := d + 2) (by omega) φ [97, 98, 102, 103, 122] hF (by decide) (by decide)
      exact ⟨.str [c], φ', r_call (rs_cons (r_var rfl) (rs_cons r_str rs_nil)) e, ⟨c, rfl, abfgz_ok c hc⟩, hF'⟩)
    obtain ⟨cs, rfl, hcs⟩ := ones_of q4
    rw [upto_len, List.length_map] at l4
    rw [q_ret (r_join r_str (r_comp t2 rfl e4 (by rw [List.length_map]; omega)) (join_ones cs (by omega)))]
    exact ⟨cs, φ4, rfl, ⟨by omega, by omega, List.all_eq_true.mpr hcs⟩, hF4⟩
end K02
/-! k01: a drawn tree, how it is written. -/
namespace K02
open MP PySem
def okEnd (e : List Nat) : Bool := good e && decide (e.length ≤ 8) && decide (e.count 40 = 0)
def trTail : List W → Bool
  | [.str e] => okEnd e
  | _ => false
theorem trTail_inv {r : List W} (h : trTail r = true) : ∃ e, r = [.str e] ∧ okEnd e = true := by
  match r, h with
  | [.str e], h => exact ⟨e, rfl, h⟩
mutual
/-- how many atoms a tree has -/
def trS : W → Option Nat
  | .tup (a :: r) => if trTail r then (trI a).map (· + 1) else none
  | _ => none
def trI : W → Option Nat
  | .tup ws => trL ws
  | _ => none
def trL : List W → Option Nat
  | [] => some 0
  | w :: r => (trS w).bind fun a => (trL r).map (a + ·)
end
theorem trI_inv {a : W} {n : Nat} (h : trI a = some n) : ∃ ws, a = .tup ws ∧ trL ws = some n := by
  cases a with
  | tup ws => exact ⟨ws, rfl, by rw [← h, trI]⟩
  | _ => simp [trI] at h
theorem trS_inv {w : W} {s : Nat} (h : trS w = some s) : ∃ ws e n, w = .tup [.tup ws, .str e] ∧ okEnd e = true ∧ trL ws = some n ∧ s = n + 1 := by
  cases w with
  | tup xs =>
    cases xs with
    | nil => simp [trS] at h
    | cons a r =>
      rw [trS] at h
      by_cases hr : trTail r = true
      · rw [if_pos hr] at h
        obtain ⟨n, hn, rfl⟩ := Option.map_eq_some_iff.mp h
        obtain ⟨ws, rfl, hws⟩ := trI_inv hn
        obtain ⟨e, rfl, he⟩ := trTail_inv hr
        exact ⟨ws, e, n, rfl, he, hws, rfl⟩
      · rw [if_neg hr] at h; cases h
  | _ => simp [trS] at h
theorem trS_mk {ws : List W} {e : List Nat} {n : Nat} (he : okEnd e = true) (h : trL ws = some n) : trS (.tup [.tup ws, .str e]) = some (n + 1) := by
  rw [trS, if_pos (show trTail [.str e] = true from he), trI, h]; rfl
theorem trL_snoc : ∀ {ws : List W} {w : W} {n s : Nat}, trL ws = some n → trS w = some s → trL (ws ++ [w]) = some (n + s)
  | [], w, n, s, h, h2 => by
    simp only [trL, Option.some.injEq] at h
    subst h
    simp [trL, h2]
  | v :: ws, w, n, s, h, h2 => by
    simp only [trL, Option.bind_eq_some_iff, Option.map_eq_some_iff] at h
    obtain ⟨a, h3, b, h4, rfl⟩ := h
    show trL (v :: (ws ++ [w])) = _
    simp only [trL, h3, trL_snoc h4 h2, Option.bind_some, Option.map_some, Nat.add_assoc]
theorem trL_len : ∀ {ws : List W} {n : Nat}, trL ws = some n → ws.length ≤ n
  | [], n, h => Nat.zero_le _
  | v :: ws, n, h => by
    simp only [trL, Option.bind_eq_some_iff, Option.map_eq_some_iff] at h
    obtain ⟨a, h3, b, h4, rfl⟩ := h
    obtain ⟨_, _, m, _, _, _, rfl⟩ := trS_inv h3
    have := trL_len h4
    rw [List.length_cons]
    omega
def ENDS : List (List Nat) := [[112], [113], [112], [113], [114], [115], [112, 112], [97, 98, 99, 100, 101, 102, 103, 104]]
theorem ends_ok : ∀ s ∈ ENDS, okEnd s = true := List.all_eq_true.mp (by decide +kernel)
/-- the parts of a tree, drawn -/
structure TrI (sz : Nat) (i : Nat) (ρ : MP.Loc) (φ : Sto) : Prop where
  f : Feed φ
  r : ∃ (ws : List W) (n l : Nat) (a b : Sl), ρ = [.val (.obj 0), .val (.int sz), a, .own (.lst ws), .val (.int l), b] ∧ trL ws = some n ∧ n + l = sz - 1 ∧ (l + i ≤ sz - 1 ∨ l = 0)
theorem tree_draw : ∀ (sz : Nat) (e : Nat), sz + 3 ≤ e → 1 ≤ sz → sz ≤ 1000 → ∀ (φ : Sto), Feed φ → ∃ w φ', P.call e 11 [.obj 0, .int sz] φ = .ok w φ' ∧ trS w = some sz ∧ Feed φ' := by
  intro sz
  induction sz using Nat.strongRecOn with
  | _ sz ih =>
    intro e he h1 h1000 φ hF
    obtain ⟨d, rfl⟩ : ∃ d, e = d + 1 := ⟨e - 1, by omega⟩
    rw [call_eq (fn := ⟨2, 6, false, b__law_tree⟩) rfl rfl]
    show ∃ w φ', (evalS P.gv P.fr (P.call d) b__law_tree [.val (.obj 0), .val (.int sz), .none, .none, .none, .none] φ).out false = .ok w φ' ∧ _
    unfold b__law_tree
    rw [q_par (ws := [.lst [], .int ((sz : Int) - 1)]) (ρ' := [.val (.obj 0), .val (.int sz), .none, .own (.lst []), .val (.int ((sz : Int) - 1)), .none]) (rs_cons (r_lst rs_nil) (rs_cons (r_bin (r_var rfl) r_int (sub_int _ _)) rs_nil)) rfl]
    obtain ⟨ρ', φ1, e1, hI⟩ := floop_inv (b := fun w ρ φ => evalS P.gv P.fr (P.call d) (.cons (.sif (.cmp .gt (.var 4) (.int 0))
      (.cons (.sset 5 (.bin .add (.int 1) (.call 8 (.cons (.var 0) (.cons (.var 4) .nil))))) (.cons (.sapp 3 (.call 11 (.cons (.var 0) (.cons (.var 5) .nil)))) (.cons (.sset 4 (.bin .sub (.var 4) (.var 5))) .nil)))
      .nil) .nil) (ρ.set 2 (.val w)) φ) (TrI sz) (upto 0 sz) 0 [.val (.obj 0), .val (.int sz), .none, .own (.lst []), .val (.int ((sz : Int) - 1)), .none] φ ⟨hF, [], 0, sz - 1, .none, .none, by rw [show ((sz : Int) - 1) = ((sz - 1 : Nat) : Int) by omega], rfl, by omega, by omega⟩ (by
        intro m w ρ φ _ _ ⟨hF, ws, n, l, a, b, hρ, hn, hl, hl2⟩
        subst hρ
        show ∃ ρ' φ', (evalS P.gv P.fr (P.call d) _ [.val (.obj 0), .val (.int sz), .val w, .own (.lst ws), .val (.int l), b] φ = .nx ρ' φ' ∨ _) ∧ _
        have t1 : evalE P.gv (P.call d) (.cmp .gt (.var 4) (.int 0)) [.val (.obj 0), .val (.int sz), .val w, .own (.lst ws), .val (.int l), b] φ = .ok (.bl (decide ((0 : Int) < l))) φ := r_cmp (r_var rfl) r_int (gt_int _ _)
        by_cases h0 : l = 0
        · subst h0
          refine ⟨_, φ, .inl ?_, hF, ws, n, 0, .val w, b, rfl, hn, hl, .inr rfl⟩
          rw [q_skip t1 rfl]; rfl
        · obtain ⟨r, φ2, e2, b1, b2, hF2⟩ := draw_at (e := d) (by omega) φ l hF (by omega) (by omega)
          obtain ⟨k, hk⟩ : ∃ k : Nat, (1 : Int) + r = k := ⟨(1 + r).toNat, by omega⟩
          obtain ⟨v, φ3, e3, hv, hF3⟩ := ih k (by omega) d (by omega) (by omega) (by omega) φ2 hF2
          refine ⟨_, φ3, .inl ?_, hF3, ws ++ [v], n + k, l - k, .val w, .val (.int k), rfl, trL_snoc hn hv, by omega, by omega⟩
          have hll := trL_len hn
          rw [q_if_t t1 (by simp; omega), q_set (w := .int k) (r_bin r_int (r_call (rs_cons (r_var rfl) (rs_cons (r_var rfl) rs_nil)) e2) (by rw [add_int, hk])) rfl,
            q_app (ws := ws) rfl (r_call (rs_cons (r_var rfl) (rs_cons (r_var rfl) rs_nil)) e3) (by omega), q_set (w := .int ((l - k : Nat) : Int)) (r_bin (r_var rfl) (r_var rfl) (by rw [sub_int]; congr 2; omega)) rfl]
          rfl)
    obtain ⟨hF1, ws, n, l, a, b, hρ, hn, hl, hl2⟩ := hI
    rw [q_for (r_rng1 (r_var rfl) (rng1_of (by omega) (by omega))) rfl (by rw [Int.toNat_natCast]; exact e1)]
    subst hρ
    rw [upto_len] at hl2
    have hn2 : n = sz - 1 := by omega
    subst hn2
    obtain ⟨v, φ2, e2, hv, hF2⟩ := pick_lst (e := d) (by omega) φ1 (ENDS.map .str) hF1 (by decide) (by decide)
    obtain ⟨s, hs, rfl⟩ := List.mem_map.mp hv
    rw [q_ret (r_tup (rs_cons (r_blt (r_own rfl) (show opBlt .tuple (.lst ws) = some (.tup ws) from rfl)) (rs_cons (r_call (rs_cons (r_var rfl) (rs_cons (r_const (w := .lst (ENDS.map .str)) rfl) rs_nil)) e2) rs_nil)))]
    refine ⟨_, φ2, rfl, ?_, hF2⟩
    rw [trS_mk (ends_ok s hs) hn]
    congr 1; omega
theorem joinS_snoc (S : List Nat) : ∀ (xs : List (List Nat)) (e : List Nat), joinS S (xs ++ [e]) = (xs.flatMap (· ++ S)) ++ e
  | [], e => rfl
  | [x], e => by simp [joinS]
  | x :: y :: r, e => by
    show x ++ (S ++ joinS S ((y :: r) ++ [e])) = _
    rw [joinS_snoc S (y :: r) e]
    simp
/-- a kind as it is written: good, not too long, not too many parentheses -/
def Sp (s : Nat) (t : List Nat) : Prop := good t = true ∧ t.length + 6 ≤ 16 * s ∧ t.count 40 + 1 ≤ s
def wSum (xs : List (List Nat)) : Nat := (xs.map fun x => x.length + 4).sum
def cSum (xs : List (List Nat)) : Nat := (xs.map fun x => x.count 40).sum
theorem flat_len (xs : List (List Nat)) : (xs.flatMap (· ++ ([32, 45, 62, 32] : List Nat))).length = wSum xs := by
  induction xs with
  | nil => rfl
  | cons x r ih => simp only [List.flatMap_cons, List.length_append, ih, wSum, List.map_cons, List.sum_cons]; rfl
theorem flat_cnt (xs : List (List Nat)) : (xs.flatMap (· ++ ([32, 45, 62, 32] : List Nat))).count 40 = cSum xs := by
  induction xs with
  | nil => rfl
  | cons x r ih =>
    simp only [List.flatMap_cons, List.count_append, ih, cSum, List.map_cons, List.sum_cons]
    have : ([32, 45, 62, 32] : List Nat).count 40 = 0 := by decide
    omega
theorem good_app {a b : List Nat} (h : good a = true) (h2 : good b = true) : good (a ++ b) = true := by
  unfold good at *
  rw [List.all_append, h, h2]; rfl
theorem flat_good {xs : List (List Nat)} (h : ∀ x ∈ xs, good x = true) : good (xs.flatMap (· ++ ([32, 45, 62, 32] : List Nat))) = true := by
  induction xs with
  | nil => rfl
  | cons x r ih =>
    rw [List.flatMap_cons]
    exact good_app (good_app (h x List.mem_cons_self) (by decide)) (ih fun y hy => h y (List.mem_cons_of_mem _ hy))
theorem wSum_snoc (xs : List (List Nat)) (x : List Nat) : wSum (xs ++ [x]) = wSum xs + (x.length + 4) := by simp [wSum]
theorem cSum_snoc (xs : List (List Nat)) (x : List Nat) : cSum (xs ++ [x]) = cSum xs + x.count 40 := by simp [cSum]
theorem len_sum (xs : List (List Nat)) : (xs.map List.length).sum + xs.length * 4 = wSum xs := by
  induction xs with
  | nil => rfl
  | cons x r ih => simp only [wSum, List.map_cons, List.sum_cons, List.length_cons] at ih ⊢; omega
theorem join_arr (xs : List (List Nat)) (e : List Nat) (h : wSum xs + e.length ≤ 1000000) : opJoin (.str [32, 45, 62, 32]) (.lst ((xs ++ [e]).map .str)) = some (.str ((xs.flatMap (· ++ ([32, 45, 62, 32] : List Nat))) ++ e)) := by
  show (strsOf _).bind _ = _
  rw [strsOf_map]
  show (if ((xs ++ [e]).map List.length).sum + (xs ++ [e]).length * 4 ≤ sizeLine then some (W.str (joinS [32, 45, 62, 32] (xs ++ [e]))) else none) = _
  rw [if_pos ?_, joinS_snoc]
  rw [len_sum, wSum_snoc, szl]; omega
theorem spelled_spec : ∀ (sz : Nat) (w : W) (e : Nat) (φ : Sto), trS w = some sz → sz ≤ 1000 → sz + 1 ≤ e → ∃ t, P.call e 12 [w] φ = .ok (.str t) φ ∧ Sp sz t := by
  intro sz
  induction sz using Nat.strongRecOn with
  | _ sz ih =>
    intro w e φ hw h1000 he
    obtain ⟨d, rfl⟩ : ∃ d, e = d + 1 := ⟨e - 1, by omega⟩
    obtain ⟨ws, en, n, rfl, hen, hn, rfl⟩ := trS_inv hw
    unfold okEnd at hen
    simp only [Bool.and_eq_true, decide_eq_true_eq] at hen
    obtain ⟨⟨g1, g2⟩, g3⟩ := hen
    rw [call_eq (fn := ⟨1, 3, false, b__law_spelled⟩) rfl rfl]
    show ∃ t, (evalS P.gv P.fr (P.call d) b__law_spelled [.val (.tup [.tup ws, .str en]), .none, .none] φ).out false = .ok (.str t) φ ∧ _
    unfold b__law_spelled
    rw [q_setO (r_lst rs_nil) rfl rfl]
    simp only [List.set_cons_succ, List.set_cons_zero]
    have lp : ∀ (us : List W) (m : Nat) (xs : List (List Nat)) (k : Nat) (x : Sl), trL us = some m → k + m ≤ n → xs.length ≤ k → wSum xs ≤ 16 * k → cSum xs ≤ k → (∀ x ∈ xs, good x = true) →
        ∃ ys x', floop (fun w ρ φ => evalS P.gv P.fr (P.call d) (.cons (.sapp 1 (.ife (.cmp .ne (.idx (.var 2) (.int 0)) (.tup .nil)) (.bin .add (.bin .add (.str [40]) (.call 12 (.cons (.var 2) .nil))) (.str [41])) (.idx (.var 2) (.int 1)))) .nil) (ρ.set 2 (.val w)) φ) us
          [.val (.tup [.tup ws, .str en]), .own (.lst (xs.map .str)), x] φ = .nx [.val (.tup [.tup ws, .str en]), .own (.lst (ys.map .str)), x'] φ ∧ ys.length ≤ k + m ∧ wSum ys ≤ 16 * (k + m) ∧ cSum ys ≤ k + m ∧ (∀ x ∈ ys, good x = true) := by
      intro us
      induction us with
      | nil =>
        intro m xs k x hm hk hx hw hc hg
        simp only [trL, Option.some.injEq] at hm
        subst hm
        exact ⟨xs, x, rfl, hx, hw, hc, hg⟩
      | cons u us ihu =>
        intro m xs k x hm hk hx hw hc hg
        simp only [trL, Option.bind_eq_some_iff, Option.map_eq_some_iff] at hm
        obtain ⟨a, hu, b, hb, rfl⟩ := hm
        obtain ⟨vs, en', n', rfl, hen', hn', rfl⟩ := trS_inv hu
        obtain ⟨y, hy, y1, y2, y3⟩ : ∃ y, evalE P.gv (P.call d) (.ife (.cmp .ne (.idx (.var 2) (.int 0)) (.tup .nil)) (.bin .add (.bin .add (.str [40]) (.call 12 (.cons (.var 2) .nil))) (.str [41])) (.idx (.var 2) (.int 1))) [.val (.tup [.tup ws, .str en]), .own (.lst (xs.map .str)), .val (.tup [.tup vs, .str en'])] φ = .ok (.str y) φ ∧ good y = true ∧ y.length + 4 ≤ 16 * (n' + 1) ∧ y.count 40 ≤ n' + 1 := by
          have t1 : evalE P.gv (P.call d) (.cmp .ne (.idx (.var 2) (.int 0)) (.tup .nil)) [.val (.tup [.tup ws, .str en]), .own (.lst (xs.map .str)), .val (.tup [.tup vs, .str en'])] φ = .ok (.bl (!vs.isEmpty)) φ :=
            r_cmp (r_idx (r_var rfl) r_int (idx_tup0 _ _)) (r_tup rs_nil) rfl
          cases vs with
          | nil =>
            unfold okEnd at hen'
            simp only [Bool.and_eq_true, decide_eq_true_eq] at hen'
            exact ⟨en', r_ife_f t1 rfl (r_idx (r_var rfl) r_int (idx_tup1 _ _ _)), hen'.1.1, by omega, by omega⟩
          | cons v vs =>
            obtain ⟨t, ht, t1', t2', t3'⟩ := ih (n' + 1) (by omega) _ d φ hu (by omega) (by omega)
            refine ⟨[40] ++ t ++ [41], r_ife_t t1 rfl (r_bin (r_bin r_str (r_call (rs_cons (r_var rfl) rs_nil) ht) (add_str (by rw [szl]; simp; omega))) r_str (add_str (by rw [szl]; simp; omega))), good_app (good_app (by decide) t1') (by decide), ?_, ?_⟩
            · simp; omega
            · rw [List.count_append, List.count_append]
              have : ([40] : List Nat).count 40 = 1 := by decide
              have : ([41] : List Nat).count 40 = 0 := by decide
              omega
        obtain ⟨ys, x', e1, l1, l2, l3, l4⟩ := ihu b (xs ++ [y]) (k + (n' + 1)) (.val (.tup [.tup vs, .str en'])) hb (by omega) (by rw [List.length_append, List.length_singleton]; omega) (by rw [wSum_snoc]; omega) (by rw [cSum_snoc]; omega) (fun z hz => by
          rcases List.mem_append.mp hz with hz | hz
          · exact hg z hz
          · rw [List.mem_singleton.mp hz]; exact y1)
        refine ⟨ys, x', ?_, by omega, by omega, by omega, l4⟩
        show Res.turn (evalS P.gv P.fr (P.call d) _ [.val (.tup [.tup ws, .str en]), .own (.lst (xs.map .str)), .val (.tup [.tup vs, .str en'])] φ) _ = _
        rw [q_app (ws := xs.map .str) rfl hy (by rw [List.length_map]; omega)]
        rw [List.map_append] at e1
        exact e1
    obtain ⟨ys, x', e1, l1, l2, l3, l4⟩ := lp ws n [] 0 .none hn (by omega) (by simp) (by simp [wSum]) (by simp [cSum]) (fun x hx => by cases hx)
    have i0 : evalE P.gv (P.call d) (.idx (.var 0) (.int 0)) [.val (.tup [.tup ws, .str en]), .own (.lst []), .none] φ = .ok (.tup ws) φ := r_idx (r_var rfl) r_int (idx_tup0 _ _)
    rw [List.map_nil] at e1
    rw [q_for i0 rfl e1]
    refine ⟨_, q_out (q_ret (r_join r_str (r_bin (r_own rfl) (r_lst (rs_cons (r_idx (r_var rfl) r_int (idx_tup1 _ _ _)) rs_nil)) (w := .lst ((ys ++ [en]).map .str)) ?_) (join_arr ys en (by omega)))), good_app (flat_good l4) g1, ?_, ?_⟩
    · rw [show opBin .add (.lst (ys.map W.str)) (.lst [.str en]) = some (.lst (ys.map W.str ++ [.str en])) from if_pos (by rw [szl, List.length_map]; simp; omega), List.map_append]; rfl
    · rw [List.length_append, flat_len]; omega
    · rw [List.count_append, flat_cnt]; omega
end K02
/-! k01: some value. -/
namespace K02
open MP PySem
def sq (x : Nat) (s : List Nat) : Bool := good s && decide (s.length ≤ 200 + 10 * x) && decide (s.count 40 ≤ 10 + x)
mutual
/-- data of the law, x changes made -/
def dq (x : Nat) : Nat → W → Bool
  | _, .non => true
  | _, .bl _ => true
  | _, .int i => decide (i.natAbs < 10 ^ 60)
  | _, .str s => sq x s
  | n + 1, .tup ws => decide (ws.length ≤ 10 + x) && dqs x n ws
  | n + 1, .lst ws => decide (ws.length ≤ 10 + x) && dqs x n ws
  | _, _ => false
def dqs (x : Nat) : Nat → List W → Bool
  | _, [] => true
  | n, w :: ws => dq x n w && dqs x n ws
end
theorem dqs_mem {x n : Nat} : ∀ {ws : List W}, dqs x n ws = true ↔ ∀ w ∈ ws, dq x n w = true
  | [] => by simp [dqs]
  | w :: ws => by
    show (dq x n w && dqs x n ws) = true ↔ _
    rw [Bool.and_eq_true, dqs_mem (ws := ws)]
    simp
theorem sq_mono {x y : Nat} (h : x ≤ y) {s : List Nat} (hs : sq x s = true) : sq y s = true := by
  unfold sq at *
  simp only [Bool.and_eq_true, decide_eq_true_eq] at *
  exact ⟨⟨hs.1.1, by omega⟩, by omega⟩
theorem dq_tup {x n : Nat} {ws : List W} (h : dq x n (.tup ws) = true) : ∃ m, n = m + 1 ∧ ws.length ≤ 10 + x ∧ dqs x m ws = true := by
  cases n with
  | zero => simp [dq] at h
  | succ m =>
    simp only [dq, Bool.and_eq_true, decide_eq_true_eq] at h
    exact ⟨m, rfl, h.1, h.2⟩
theorem dq_lst {x n : Nat} {ws : List W} (h : dq x n (.lst ws) = true) : ∃ m, n = m + 1 ∧ ws.length ≤ 10 + x ∧ dqs x m ws = true := by
  cases n with
  | zero => simp [dq] at h
  | succ m =>
    simp only [dq, Bool.and_eq_true, decide_eq_true_eq] at h
    exact ⟨m, rfl, h.1, h.2⟩
theorem dq_mono {x y : Nat} (h : x ≤ y) : ∀ (n m : Nat) (w : W), n ≤ m → dq x n w = true → dq y m w = true := by
  intro n
  induction n with
  | zero =>
    intro m w hm hd
    cases w with
    | str s => have : sq x s = true := by simpa [dq] using hd
               simpa [dq] using sq_mono h this
    | non => simp [dq]
    | bl => simp [dq]
    | int => simpa [dq] using hd
    | tup => simp [dq] at hd
    | lst => simp [dq] at hd
    | dct => simp [dq] at hd
    | ins => simp [dq] at hd
    | obj => simp [dq] at hd
  | succ n ih =>
    intro m w hm hd
    obtain ⟨k, rfl⟩ : ∃ k, m = k + 1 := ⟨m - 1, by omega⟩
    cases w with
    | str s => have : sq x s = true := by simpa [dq] using hd
               simpa [dq] using sq_mono h this
    | non => simp [dq]
    | bl => simp [dq]
    | int => simpa [dq] using hd
    | tup ws =>
      obtain ⟨_, e, hl, hs⟩ := dq_tup hd
      cases e
      simp only [dq, Bool.and_eq_true, decide_eq_true_eq]
      exact ⟨by omega, dqs_mem.mpr fun w hw => ih k w (by omega) (dqs_mem.mp hs w hw)⟩
    | lst ws =>
      obtain ⟨_, e, hl, hs⟩ := dq_lst hd
      cases e
      simp only [dq, Bool.and_eq_true, decide_eq_true_eq]
      exact ⟨by omega, dqs_mem.mpr fun w hw => ih k w (by omega) (dqs_mem.mp hs w hw)⟩
    | dct => simp [dq] at hd
    | ins => simp [dq] at hd
    | obj => simp [dq] at hd
theorem dq_dt {x : Nat} (hx : x ≤ 50) : ∀ (n : Nat) (w : W), dq x n w = true → dt n w = true := by
  intro n
  induction n with
  | zero =>
    intro w hd
    cases w with
    | str s =>
      have : sq x s = true := by simpa [dq] using hd
      unfold sq at this
      simp only [Bool.and_eq_true, decide_eq_true_eq] at this
      simp only [dt, Bool.and_eq_true, decide_eq_true_eq]
      exact ⟨⟨this.1.1, by omega⟩, by omega⟩
    | non => simp [dt]
    | bl => simp [dt]
    | int => simp [dt]
    | tup => simp [dq] at hd
    | lst => simp [dq] at hd
    | dct => simp [dq] at hd
    | ins => simp [dq] at hd
    | obj => simp [dq] at hd
  | succ n ih =>
    intro w hd
    have sub : ∀ ws : List W, dqs x n ws = true → dts n ws = true := by
      intro ws
      induction ws with
      | nil => intro _; rfl
      | cons a r ihr =>
        intro h
        have h' := dqs_mem.mp h
        show (dt n a && dts n r) = true
        rw [ih a (h' a List.mem_cons_self), ihr (dqs_mem.mpr fun w hw => h' w (List.mem_cons_of_mem _ hw))]; rfl
    cases w with
    | str s =>
      have : sq x s = true := by simpa [dq] using hd
      unfold sq at this
      simp only [Bool.and_eq_true, decide_eq_true_eq] at this
      simp only [dt, Bool.and_eq_true, decide_eq_true_eq]
      exact ⟨⟨this.1.1, by omega⟩, by omega⟩
    | non => simp [dt]
    | bl => simp [dt]
    | int => simp [dt]
    | tup ws =>
      obtain ⟨_, e, hl, hs⟩ := dq_tup hd
      cases e
      simp only [dt, Bool.and_eq_true, decide_eq_true_eq]
      exact ⟨by omega, sub ws hs⟩
    | lst ws =>
      obtain ⟨_, e, hl, hs⟩ := dq_lst hd
      cases e
      simp only [dt, Bool.and_eq_true, decide_eq_true_eq]
      exact ⟨by omega, sub ws hs⟩
    | dct => simp [dq] at hd
    | ins => simp [dq] at hd
    | obj => simp [dq] at hd
/-- depth, changes, how many nodes -/
def DQ (x n N : Nat) (w : W) : Prop := dq x n w = true ∧ nd w ≤ N
theorem DQ.mono {x y n m N M : Nat} {w : W} (h : DQ x n N w) (h1 : x ≤ y) (h2 : n ≤ m) (h3 : N ≤ M) : DQ y m M w := ⟨dq_mono h1 n m w h2 h.1, by have := h.2; omega⟩
/-! ### strange values -/
def S1 : T := match b__law_strange with | .cons (.sset _ e) _ => e | _ => .nil
def S2 : T := match b__law_strange with | .cons _ (.cons (.sext _ e) _) => e | _ => .nil
def S3 : T := match b__law_strange with | .cons _ (.cons _ (.cons (.sext _ e) _)) => e | _ => .nil
def S4 : T := match b__law_strange with | .cons _ (.cons _ (.cons _ (.cons (.sext _ e) _))) => e | _ => .nil
def S5 : T := match b__law_strange with | .cons _ (.cons _ (.cons _ (.cons _ (.cons (.sext _ e) _)))) => e | _ => .nil
def S6 : T := match b__law_strange with | .cons _ (.cons _ (.cons _ (.cons _ (.cons _ (.cons (.sext _ e) _))))) => e | _ => .nil
def lsts : Option W → List W
  | some (.lst ws) => ws
  | _ => []
def STR : List W := lsts (constE S1) ++ lsts (constE S2) ++ lsts (constE S3) ++ lsts (constE S4) ++ lsts (constE S5) ++ lsts (constE S6) ++ [.str [40, 40, 112, 32, 45, 62, 32, 113, 41, 32, 45, 62, 32, 114, 41]]
theorem str_all : STR.all (fun w => dq 0 4 w && decide (nd w ≤ 300)) = true := by decide +kernel
theorem str_ok {w : W} (h : w ∈ STR) : DQ 0 4 300 w := by
  have := List.all_eq_true.mp str_all w h
  rw [Bool.and_eq_true, decide_eq_true_eq] at this
  exact this
def isLs : Option W → Bool
  | some (.lst _) => true
  | _ => false
theorem isLs_eq : ∀ {o : Option W}, isLs o = true → o = some (.lst (lsts o))
  | some (.lst _), _ => rfl
theorem strange_is : b__law_strange = .cons (.sset 1 S1) (.cons (.sext 1 S2) (.cons (.sext 1 S3) (.cons (.sext 1 S4) (.cons (.sext 1 S5) (.cons (.sext 1 S6) (.cons (.sapp 1 (.str [40, 40, 112, 32, 45, 62, 32, 113, 41, 32, 45, 62, 32, 114, 41])) (.cons (.sfrz 1) (.cons (.sret (.call 9 (.cons (.var 0) (.cons (.var 1) .nil)))) .nil)))))))) := rfl
theorem k1 : constE S1 = some (.lst (lsts (constE S1))) := isLs_eq (by decide +kernel)
theorem k2 : constE S2 = some (.lst (lsts (constE S2))) := isLs_eq (by decide +kernel)
theorem k3 : constE S3 = some (.lst (lsts (constE S3))) := isLs_eq (by decide +kernel)
theorem k4 : constE S4 = some (.lst (lsts (constE S4))) := isLs_eq (by decide +kernel)
theorem k5 : constE S5 = some (.lst (lsts (constE S5))) := isLs_eq (by decide +kernel)
theorem k6 : constE S6 = some (.lst (lsts (constE S6))) := isLs_eq (by decide +kernel)
theorem str_len : STR.length ≤ 100 := by decide +kernel
theorem str_ne : STR ≠ [] := by
  intro h
  have : STR.length = 0 := by rw [h]; rfl
  have h2 : 0 < STR.length := by decide +kernel
  omega
theorem strange_draw {e : Nat} (he : 3 ≤ e) (φ : Sto) (hF : Feed φ) : ∃ w φ', P.call e 16 [.obj 0] φ = .ok w φ' ∧ DQ 0 4 300 w ∧ Feed φ' := by
  obtain ⟨d, rfl⟩ : ∃ d, e = d + 1 := ⟨e - 1, by omega⟩
  obtain ⟨v, φ1, e1, hv, hF1⟩ := pick_lst (e := d) (by omega) φ STR hF str_ne (by have := str_len; omega)
  refine ⟨v, φ1, ?_, str_ok hv, hF1⟩
  rw [call_eq (fn := ⟨1, 2, false, b__law_strange⟩) rfl rfl]
  show (evalS P.gv P.fr (P.call d) b__law_strange [.val (.obj 0), .none] φ).out false = _
  have hl : ∀ a b c d e f : List W, a ++ b ++ c ++ d ++ e ++ f ++ [.str [40, 40, 112, 32, 45, 62, 32, 113, 41, 32, 45, 62, 32, 114, 41]] = STR → a.length + b.length + c.length + d.length + e.length + f.length + 1 ≤ 100 := by
    intro a b c d e f h
    have h2 := str_len
    rw [← h] at h2
    simp only [List.length_append, List.length_singleton] at h2
    omega
  have hl' := hl _ _ _ _ _ _ rfl
  refine q_out ?_
  rw [strange_is, q_setO (r_const k1) rfl rfl]
  refine (q_ext (ws := lsts (constE S1)) rfl (r_const k2) (by omega)).trans ?_
  refine (q_ext (ws := lsts (constE S1) ++ lsts (constE S2)) rfl (r_const k3) (by simp only [List.length_append]; omega)).trans ?_
  refine (q_ext (ws := lsts (constE S1) ++ lsts (constE S2) ++ lsts (constE S3)) rfl (r_const k4) (by simp only [List.length_append]; omega)).trans ?_
  refine (q_ext (ws := lsts (constE S1) ++ lsts (constE S2) ++ lsts (constE S3) ++ lsts (constE S4)) rfl (r_const k5) (by simp only [List.length_append]; omega)).trans ?_
  refine (q_ext (ws := lsts (constE S1) ++ lsts (constE S2) ++ lsts (constE S3) ++ lsts (constE S4) ++ lsts (constE S5)) rfl (r_const k6) (by simp only [List.length_append]; omega)).trans ?_
  refine (q_app (ws := lsts (constE S1) ++ lsts (constE S2) ++ lsts (constE S3) ++ lsts (constE S4) ++ lsts (constE S5) ++ lsts (constE S6)) rfl r_str (by simp only [List.length_append]; omega)).trans ?_
  refine (q_frz (w := .lst STR) rfl).trans ?_
  exact q_ret (r_call (rs_cons (r_var rfl) (rs_cons (r_var rfl) rs_nil)) e1)
end K02
/-! k01: a value with something else in it. -/
namespace K02
open MP PySem
theorem bnd_some (n d k : Nat) : MP.bound n d (some (k : Int)) = min k n := by
  show (if (k : Int) < 0 then ((k : Int) + (n : Int)).toNat else min (k : Int).toNat n) = _
  rw [if_neg (by omega), Int.toNat_natCast]
theorem cut_to {α : Type} (xs : List α) (k : Nat) : cut none (some (k : Int)) xs = xs.take k := by
  unfold cut
  rw [bnd_some]
  show (xs.drop 0).take (min k xs.length - 0) = _
  rw [List.drop_zero, Nat.sub_zero]
  by_cases h : k ≤ xs.length
  · rw [Nat.min_eq_left h]
  · rw [Nat.min_eq_right (by omega), List.take_length, List.take_of_length_le (by omega)]
theorem cut_fr {α : Type} (xs : List α) (k : Nat) : cut (some (k : Int)) none xs = xs.drop k := by
  unfold cut
  rw [bnd_some]
  show (xs.drop (min k xs.length)).take (xs.length - min k xs.length) = _
  by_cases h : k ≤ xs.length
  · rw [Nat.min_eq_left h, List.take_of_length_le (by rw [List.length_drop]; omega)]
  · rw [Nat.min_eq_right (by omega), List.drop_length, List.drop_eq_nil_of_le (by omega)]; simp
theorem cut_one {α : Type} (xs : List α) (k : Nat) (h : k ≤ xs.length) : cut (some (k : Int)) (some (((k + 1 : Nat)) : Int)) xs = (xs.drop k).take 1 := by
  unfold cut
  rw [bnd_some, bnd_some, Nat.min_eq_left h]
  by_cases h2 : k + 1 ≤ xs.length
  · rw [Nat.min_eq_left h2, Nat.add_sub_cancel_left]
  · have : k = xs.length := by omega
    subst this
    simp
theorem nds_td (ws : List W) (k : Nat) : nds (ws.take k) + nds (ws.drop k) = nds ws := by rw [← nds_app, List.take_append_drop]
theorem nds_d {ws : List W} {k : Nat} {v : W} (h : ws[k]? = some v) : nds (ws.drop k) = nd v + nds (ws.drop (k + 1)) := by
  obtain ⟨hk, rfl⟩ := List.getElem?_eq_some_iff.mp h
  rw [List.drop_eq_getElem_cons hk]; rfl
theorem mk_tup {x m N : Nat} {ws : List W} (h : ∀ w ∈ ws, dq x m w = true) (hl : ws.length ≤ 10 + x) (hn : nds ws + 1 ≤ N) : DQ x (m + 1) N (.tup ws) :=
  ⟨by simp only [dq, Bool.and_eq_true, decide_eq_true_eq]; exact ⟨hl, dqs_mem.mpr h⟩, hn⟩
theorem mk_lst {x m N : Nat} {ws : List W} (h : ∀ w ∈ ws, dq x m w = true) (hl : ws.length ≤ 10 + x) (hn : nds ws + 1 ≤ N) : DQ x (m + 1) N (.lst ws) :=
  ⟨by simp only [dq, Bool.and_eq_true, decide_eq_true_eq]; exact ⟨hl, dqs_mem.mpr h⟩, hn⟩
theorem add_tup {a b : List W} (h : a.length + b.length ≤ 1000000) : opBin .add (.tup a) (.tup b) = some (.tup (a ++ b)) := if_pos (by rw [szl]; omega)
/-- what the def may hand back -/
def SpQ (x n N : Nat) (r : Out W) : Prop := ∃ v φ', r = .ok v φ' ∧ DQ (x + 1) (n + 4) (2 * N + 400) v ∧ Feed φ'
def spB : T := match b__law_spoilt with | .cons _ r => r | _ => .nil
def spA : T := match b__law_spoilt with | .cons (.sif _ a _) _ => a | _ => .nil
def spC : T := match b__law_spoilt with | .cons (.sif c _ _) _ => c | _ => .nil
theorem spoilt_is : b__law_spoilt = .cons (.sif spC spA .nil) spB := rfl
def SIGNS : List (List Nat) := [[97], [122], [40], [41], [32], [45], [62], [32, 45, 62, 32], [], [65], [58], [10], [112, 32, 45, 62, 32]]
theorem signs_all : SIGNS.all (fun s => good s && decide (s.length ≤ 5) && decide (s.count 40 ≤ 1)) = true := by decide +kernel
theorem sub_count {s : List Nat} {i j : Nat} (h : i ≤ j) : (s.take i).count 40 + (s.drop j).count 40 ≤ s.count 40 := by
  have e : s.count 40 = (s.take i).count 40 + (s.drop i).count 40 := by rw [← List.count_append, List.take_append_drop]
  have q : (s.drop j).count 40 ≤ (s.drop i).count 40 := by
    obtain ⟨k, rfl⟩ : ∃ k, j = i + k := ⟨j - i, by omega⟩
    rw [← List.drop_drop]
    exact (List.drop_sublist k (s.drop i)).count_le 40
  omega
theorem isTup_of {x n : Nat} {w : W} (h : dq x n w = true) : ∃ b, isTy .tuple w = some b ∧ (b = true → ∃ ws, w = .tup ws) ∧ (b = false → ∀ ws, w ≠ .tup ws) := by
  cases w with
  | non => exact ⟨false, rfl, ⟨fun h => (by cases h), fun _ ws h => (by cases h)⟩⟩
  | bl z => exact ⟨false, rfl, ⟨fun h => (by cases h), fun _ ws h => (by cases h)⟩⟩
  | int z => exact ⟨false, rfl, ⟨fun h => (by cases h), fun _ ws h => (by cases h)⟩⟩
  | str z => exact ⟨false, rfl, ⟨fun h => (by cases h), fun _ ws h => (by cases h)⟩⟩
  | tup z => exact ⟨true, rfl, ⟨fun _ => ⟨z, rfl⟩, fun h => (by cases h)⟩⟩
  | lst z => exact ⟨false, rfl, ⟨fun h => (by cases h), fun _ ws h => (by cases h)⟩⟩
  | dct _ => cases n <;> simp [dq] at h
  | ins _ _ => cases n <;> simp [dq] at h
  | obj _ => cases n <;> simp [dq] at h
theorem isStr_of {x n : Nat} {w : W} (h : dq x n w = true) : ∃ b, isTy .str w = some b ∧ (b = true → ∃ ws, w = .str ws) := by
  cases w with
  | non => exact ⟨false, rfl, fun h => (by cases h)⟩
  | bl z => exact ⟨false, rfl, fun h => (by cases h)⟩
  | int z => exact ⟨false, rfl, fun h => (by cases h)⟩
  | str z => exact ⟨true, rfl, fun _ => ⟨z, rfl⟩⟩
  | tup z => exact ⟨false, rfl, fun h => (by cases h)⟩
  | lst z => exact ⟨false, rfl, fun h => (by cases h)⟩
  | dct _ => cases n <;> simp [dq] at h
  | ins _ _ => cases n <;> simp [dq] at h
  | obj _ => cases n <;> simp [dq] at h
theorem fdiv3 (r : Int) : opBin .fdiv (.int r) (.int 3) = some (.int (r.fdiv 3)) := by
  show (if (3 : Int) ≠ 0 ∧ (3 : Int).natAbs < 1073741824 then some (W.int (r.fdiv 3)) else none) = _
  rw [if_pos (by decide)]
theorem spoilt_str {d x n N : Nat} {s : List Nat} {r : Int} {φ : Sto} (hd : 3 ≤ d) (hw : sq x s = true) (hN : s.length + 1 ≤ N) (hx : x ≤ 50) (hF : Feed φ) (b1 : 0 ≤ r) (b2 : r < 8) :
    ∃ v φ', (evalS P.gv P.fr (P.call d) (.cons (.sset 3 (.call 8 (.cons (.var 0) (.cons (.bin .add (.blt .len (.var 1)) (.int 1)) .nil)))) (.cons (.sset 4 (.call 9 (.cons (.var 0) (.cons (.lst (.cons (.str [97]) (.cons (.str [122]) (.cons (.str [40]) (.cons (.str [41]) (.cons (.str [32]) (.cons (.str [45]) (.cons (.str [62]) (.cons (.str [32, 45, 62, 32]) (.cons (.str []) (.cons (.str [65]) (.cons (.str [58]) (.cons (.str [10]) (.cons (.str [112, 32, 45, 62, 32]) .nil)))))))))))))) .nil)))) (.cons (.sret (.bin .add (.bin .add (.slc (.var 1) .nil (.var 3)) (.var 4)) (.slc (.var 1) (.bin .add (.var 3) (.bin .fdiv (.var 2) (.int 3))) .nil))) .nil)))
      [.val (.obj 0), .val (.str s), .val (.int r), .none, .none] φ) = .rt v φ' ∧ DQ (x + 1) (n + 4) (2 * N + 400) v ∧ Feed φ' := by
  unfold sq at hw
  simp only [Bool.and_eq_true, decide_eq_true_eq] at hw
  obtain ⟨⟨g1, g2⟩, g3⟩ := hw
  have hz : s.length ≤ sizeLine := by rw [szl]; omega
  obtain ⟨i, φ1, e1, c1, c2, hF1⟩ := draw_at (e := d) (by omega) φ (s.length + 1) hF (by omega) (by omega)
  obtain ⟨k, rfl⟩ : ∃ k : Nat, i = k := ⟨i.toNat, by omega⟩
  obtain ⟨v, φ2, e2, hv, hF2⟩ := pick_lst (e := d) (by omega) φ1 (SIGNS.map .str) hF1 (by decide) (by decide)
  obtain ⟨t, ht, rfl⟩ := List.mem_map.mp hv
  have hs := List.all_eq_true.mp signs_all t ht
  simp only [Bool.and_eq_true, decide_eq_true_eq] at hs
  obtain ⟨⟨t1, t2⟩, t3⟩ := hs
  obtain ⟨j, hj⟩ : ∃ j : Nat, r.fdiv 3 = j := ⟨(r.fdiv 3).toNat, by have := Int.fdiv_nonneg b1 (show (0 : Int) ≤ 3 by decide); omega⟩
  rw [q_set (r_call (rs_cons (r_var rfl) (rs_cons (r_bin (r_blt (r_var rfl) (len_str hz)) r_int (add_int _ _)) rs_nil)) e1) rfl]
  rw [q_set (r_call (rs_cons (r_var rfl) (rs_cons (r_const (w := .lst (SIGNS.map .str)) rfl) rs_nil)) e2) rfl]
  refine ⟨.str (s.take k ++ t ++ s.drop (k + j)), φ2, (q_ret (r_bin (r_bin (r_slc01 (n := k) (r_var rfl) rfl (r_var rfl) ((slc_str hz).trans (by rw [cut_to]))) (r_var rfl) (add_str ?_)) (r_slc10 (n := ((k + j : Nat) : Int)) (r_var rfl) rfl (r_bin (r_var rfl) (r_bin (r_var rfl) r_int (fdiv3 r)) (by rw [add_int, hj]; rfl)) ((slc_str hz).trans (by rw [cut_fr]))) (add_str ?_))), ⟨?_, ?_⟩, hF2⟩
  · rw [szl, List.length_take]; omega
  · rw [szl, List.length_append, List.length_take, List.length_drop]; omega
  · have h1 : good (s.take k ++ t ++ s.drop (k + j)) = true := by
      refine good_app (good_app ?_ t1) ?_
      · unfold good at *; rw [List.all_eq_true] at *; exact fun y hy => g1 y (List.mem_of_mem_take hy)
      · unfold good at *; rw [List.all_eq_true] at *; exact fun y hy => g1 y (List.mem_of_mem_drop hy)
    have h2 : (s.take k ++ t ++ s.drop (k + j)).length ≤ 200 + 10 * (x + 1) := by
      rw [List.length_append, List.length_append, List.length_take, List.length_drop]; omega
    have h3 : (s.take k ++ t ++ s.drop (k + j)).count 40 ≤ 10 + (x + 1) := by
      rw [List.count_append, List.count_append]
      have := sub_count (s := s) (i := k) (j := k + j) (by omega)
      omega
    simp only [dq, sq, h1, h2, h3, decide_true, Bool.and_self]
  · simp only [nd, List.length_append, List.length_take, List.length_drop]; omega
end K02
/-! k01: _law_spoilt. -/
namespace K02
open MP PySem
theorem nd_tup (ws : List W) : nd (.tup ws) = nds ws + 1 := by simp [nd]
theorem spB_spec {d x n N : Nat} {w : W} {φ : Sto} (hd : 4 ≤ d) (hx : x ≤ 50) (hw : DQ x n N w) (hF : Feed φ) :
    SpQ x n N ((evalS P.gv P.fr (P.call d) spB [.val (.obj 0), .val w, .none, .none, .none] φ).out false) := by
  obtain ⟨r, φ1, e1, b1, b2, hF1⟩ := draw_at (e := d) (by omega) φ 8 hF (by decide) (by decide)
  unfold spB b__law_spoilt
  dsimp only
  rw [q_set (r_call (rs_cons (r_var rfl) (rs_cons r_int rs_nil)) e1) rfl]
  show SpQ x n N ((evalS P.gv P.fr (P.call d) _ [.val (.obj 0), .val w, .val (.int r), .none, .none] φ1).out false)
  have strange : ∀ φ1, Feed φ1 → SpQ x n N ((evalS P.gv P.fr (P.call d) (.cons (.sret (.call 16 (.cons (.var 0) .nil))) .nil) [.val (.obj 0), .val w, .val (.int r), .none, .none] φ1).out false) := fun φ1 hF1 => by
    obtain ⟨v, φ2, e2, hv, hF2⟩ := strange_draw (e := d) (by omega) φ1 hF1
    exact ⟨v, φ2, q_out (q_ret (r_call (rs_cons (r_var rfl) rs_nil) e2)), hv.mono (by omega) (by omega) (by omega), hF2⟩
  have c6 : evalE P.gv (P.call d) (.cmp .lt (.var 2) (.int 6)) [.val (.obj 0), .val w, .val (.int r), .none, .none] φ1 = .ok (.bl (decide (r < 6))) φ1 := r_cmp (r_var rfl) r_int (lt_int _ _)
  obtain ⟨b, hb, hb1, hb2⟩ := isTup_of hw.1
  have ct : evalE P.gv (P.call d) (.isi (.var 1) .tuple) [.val (.obj 0), .val w, .val (.int r), .none, .none] φ1 = .ok (.bl b) φ1 := r_isi (r_var rfl) hb
  obtain ⟨bs, hs, hs1⟩ := isStr_of hw.1
  have cs : evalE P.gv (P.call d) (.isi (.var 1) .str) [.val (.obj 0), .val w, .val (.int r), .none, .none] φ1 = .ok (.bl bs) φ1 := r_isi (r_var rfl) hs
  have ctt : evalE P.gv (P.call d) (.andN (.cons (.isi (.var 1) .tuple) (.cons (.cmp .lt (.var 2) (.int 6)) .nil))) [.val (.obj 0), .val w, .val (.int r), .none, .none] φ1 = .ok (.bl (b && decide (r < 6))) φ1 := by
    cases b with
    | true => exact r_and (r_and_t ct rfl (r_and1 c6))
    | false => exact r_and (r_and_f ct rfl)
  have css : evalE P.gv (P.call d) (.andN (.cons (.isi (.var 1) .str) (.cons (.cmp .lt (.var 2) (.int 6)) .nil))) [.val (.obj 0), .val w, .val (.int r), .none, .none] φ1 = .ok (.bl (bs && decide (r < 6))) φ1 := by
    cases bs with
    | true => exact r_and (r_and_t cs rfl (r_and1 c6))
    | false => exact r_and (r_and_f cs rfl)
  by_cases hc : (b && decide (r < 6)) = true
  · rw [hc] at ctt
    rw [q_if_t ctt rfl]
    rw [Bool.and_eq_true, decide_eq_true_eq] at hc
    obtain ⟨ws, rfl⟩ := hb1 hc.1
    obtain ⟨m, rfl, hl, hm⟩ := dq_tup hw.1
    have hm' := dqs_mem.mp hm
    have hn := hw.2
    rw [nd_tup] at hn
    obtain ⟨i, φ2, e2, d1, d2, hF2⟩ := draw_at (e := d) (by omega) φ1 (ws.length + 1) hF1 (by omega) (by omega)
    obtain ⟨k, rfl⟩ : ∃ k : Nat, i = k := ⟨i.toNat, by omega⟩
    have hk : k ≤ ws.length := by omega
    rw [q_set (w := .int k) (r_call (rs_cons (r_var rfl) (rs_cons (r_bin (r_blt (r_var rfl) (len_tup _)) r_int (add_int _ _)) rs_nil)) e2) rfl]
    show SpQ x (m + 1) N ((Res.andThen (evalS P.gv P.fr (P.call d) _ [.val (.obj 0), .val (.tup ws), .val (.int r), .val (.int k), .none] φ2) _).out false)
    have q : ∀ j : Int, evalE P.gv (P.call d) (.cmp .eq (.var 2) (.int j)) [.val (.obj 0), .val (.tup ws), .val (.int r), .val (.int k), .none] φ2 = .ok (.bl (decide (r = j))) φ2 := fun j => r_cmp (r_var rfl) r_int (eq_int _ _)
    have sT : evalE P.gv (P.call d) (.slc (.var 1) .nil (.var 3)) [.val (.obj 0), .val (.tup ws), .val (.int r), .val (.int k), .none] φ2 = .ok (.tup (ws.take k)) φ2 := r_slc01 (n := k) (r_var rfl) rfl (r_var rfl) (by rw [← cut_to]; rfl)
    have sD : evalE P.gv (P.call d) (.slc (.var 1) (.var 3) .nil) [.val (.obj 0), .val (.tup ws), .val (.int r), .val (.int k), .none] φ2 = .ok (.tup (ws.drop k)) φ2 := r_slc10 (n := k) (r_var rfl) rfl (r_var rfl) (by rw [← cut_fr]; rfl)
    have k1 : evalE P.gv (P.call d) (.bin .add (.var 3) (.int 1)) [.val (.obj 0), .val (.tup ws), .val (.int r), .val (.int k), .none] φ2 = .ok (.int ((k + 1 : Nat) : Int)) φ2 := r_bin (r_var rfl) r_int (by rw [add_int]; rfl)
    have sD1 : evalE P.gv (P.call d) (.slc (.var 1) (.bin .add (.var 3) (.int 1)) .nil) [.val (.obj 0), .val (.tup ws), .val (.int r), .val (.int k), .none] φ2 = .ok (.tup (ws.drop (k + 1))) φ2 := r_slc10 (r_var rfl) rfl k1 (by rw [← cut_fr]; rfl)
    have s11 : evalE P.gv (P.call d) (.slc (.var 1) (.var 3) (.bin .add (.var 3) (.int 1))) [.val (.obj 0), .val (.tup ws), .val (.int r), .val (.int k), .none] φ2 = .ok (.tup ((ws.drop k).take 1)) φ2 := r_slc11 (r_var rfl) rfl (r_var rfl) rfl k1 (by rw [← cut_one ws k hk]; rfl)
    have inT : ∀ w ∈ ws.take k, dq (x + 1) (m + 4) w = true := fun w h => dq_mono (by omega) m _ w (by omega) (hm' w (List.mem_of_mem_take h))
    have inD : ∀ j, ∀ w ∈ ws.drop j, dq (x + 1) (m + 4) w = true := fun j w h => dq_mono (by omega) m _ w (by omega) (hm' w (List.mem_of_mem_drop h))
    have in1 : ∀ w ∈ (ws.drop k).take 1, dq (x + 1) (m + 4) w = true := fun w h => inD k w (List.mem_of_mem_take h)
    have lT : (ws.take k).length = k := by rw [List.length_take, Nat.min_eq_left hk]
    have lD : ∀ j, (ws.drop j).length = ws.length - j := fun j => List.length_drop
    have l1 : ((ws.drop k).take 1).length ≤ 1 := by rw [List.length_take]; omega
    have nTD := nds_td ws k
    have nTD1 := nds_td ws (k + 1)
    have n1 := nds_td (ws.drop k) 1
    have mem2 : ∀ {a b : List W}, (∀ w ∈ a, dq (x + 1) (m + 4) w = true) → (∀ w ∈ b, dq (x + 1) (m + 4) w = true) → ∀ w ∈ a ++ b, dq (x + 1) (m + 4) w = true := fun h1 h2 w hw => (List.mem_append.mp hw).elim (h1 w) (h2 w)
    by_cases r0 : r = 0
    · have q0 := q 0
      rw [show decide (r = 0) = true by simp [r0]] at q0
      rw [q_if_t q0 rfl, q_ret (r_blt (r_var rfl) (show opBlt .list (.tup ws) = some (.lst ws) from rfl))]
      exact ⟨_, φ2, rfl, mk_lst (m := m + 4) (fun w h => dq_mono (by omega) m _ w (by omega) (hm' w h)) (by omega) (by omega), hF2⟩
    have q0 := q 0
    rw [show decide (r = 0) = false by simp [r0]] at q0
    rw [q_skip q0 rfl]
    by_cases r1 : r = 1
    · have q1 := q 1
      rw [show decide (r = 1) = true by simp [r1]] at q1
      rw [q_if_t q1 rfl, q_ret (r_bin sT sD1 (add_tup (by rw [lT, lD]; omega)))]
      exact ⟨_, φ2, rfl, mk_tup (m := m + 4) (mem2 inT (inD _)) (by rw [List.length_append, lT, lD]; omega) (by
        rw [nds_app]
        have : nds (ws.take (k + 1)) = nds (ws.take k) + nds ((ws.drop k).take 1) := by rw [← nds_app, List.take_add]
        omega), hF2⟩
    have q1 := q 1
    rw [show decide (r = 1) = false by simp [r1]] at q1
    rw [q_skip q1 rfl]
    by_cases r2 : r = 2
    · have q2 := q 2
      rw [show decide (r = 2) = true by simp [r2]] at q2
      rw [q_if_t q2 rfl, q_ret (r_bin (r_bin sT s11 (add_tup (by rw [lT]; omega))) sD (add_tup (by rw [List.length_append, lT, lD]; omega)))]
      exact ⟨_, φ2, rfl, mk_tup (m := m + 4) (mem2 (mem2 inT in1) (inD _)) (by rw [List.length_append, List.length_append, lT, lD]; omega) (by
        rw [nds_app, nds_app]; omega), hF2⟩
    have q2 := q 2
    rw [show decide (r = 2) = false by simp [r2]] at q2
    rw [q_skip q2 rfl]
    by_cases r3 : r = 3
    · have q3 := q 3
      rw [show decide (r = 3) = true by simp [r3]] at q3
      rw [q_ret (r_ife_t q3 rfl (r_bin sD sT (add_tup (by rw [lT, lD]; omega))))]
      exact ⟨_, φ2, rfl, mk_tup (m := m + 4) (mem2 (inD _) inT) (by rw [List.length_append, lT, lD]; omega) (by
        rw [nds_app]; omega), hF2⟩
    · have q3 := q 3
      rw [show decide (r = 3) = false by simp [r3]] at q3
      obtain ⟨v, φ3, e3, hv, hF3⟩ := strange_draw (e := d) (by omega) φ2 hF2
      rw [q_ret (r_ife_f q3 rfl (r_bin (r_var rfl) (r_tup (rs_cons (r_call (rs_cons (r_var rfl) rs_nil) e3) rs_nil)) (add_tup (by rw [List.length_singleton]; omega))))]
      refine ⟨_, φ3, rfl, mk_tup (m := m + 4) (fun w h => ?_) (by rw [List.length_append, List.length_singleton]; omega) ?_, hF3⟩
      · rcases List.mem_append.mp h with h | h
        · exact dq_mono (by omega) m _ w (by omega) (hm' w h)
        · rw [List.mem_singleton.mp h]; exact dq_mono (by omega) 4 _ v (by omega) hv.1
      · have := hv.2
        rw [nds_app]
        show nds ws + (nd v + 0) + 1 ≤ _
        omega
  · have hc' : (b && decide (r < 6)) = false := by simpa using hc
    rw [hc'] at ctt
    rw [q_skip ctt rfl]
    by_cases hc2 : (bs && decide (r < 6)) = true
    · rw [hc2] at css
      rw [q_if_t css rfl]
      rw [Bool.and_eq_true, decide_eq_true_eq] at hc2
      obtain ⟨s, rfl⟩ := hs1 hc2.1
      have hq : sq x s = true := by have := hw.1; cases n <;> simpa [dq] using this
      obtain ⟨v, φ2, e2, hv, hF2⟩ := spoilt_str (d := d) (x := x) (n := n) (N := N) (s := s) (r := r) (φ := φ1) (by omega) hq (by have := hw.2; simpa [nd] using this) hx hF1 b1 b2
      refine ⟨v, φ2, ?_, hv, hF2⟩
      show (Res.andThen (evalS P.gv P.fr (P.call d) _ [.val (.obj 0), .val (.str s), .val (.int r), .none, .none] φ1) _).out false = _
      rw [e2]; rfl
    · have hc2' : (bs && decide (r < 6)) = false := by simpa using hc2
      rw [hc2'] at css
      rw [q_skip css rfl]
      exact strange φ1 hF1
end K02
/-! k01: _law_spoilt, _law_maker. -/
namespace K02
open MP PySem
theorem spoilt_draw : ∀ (n : Nat) (w : W) (e : Nat) (φ : Sto) (x N : Nat), DQ x n N w → x ≤ 50 → n + 5 ≤ e → Feed φ → SpQ x n N (P.call e 17 [.obj 0, w] φ) := by
  intro n
  induction n with
  | zero =>
    intro w e φ x N hw hx he hF
    obtain ⟨d, rfl⟩ : ∃ d, e = d + 1 := ⟨e - 1, by omega⟩
    rw [call_eq (fn := ⟨2, 5, false, b__law_spoilt⟩) rfl rfl]
    show SpQ x 0 N ((evalS P.gv P.fr (P.call d) b__law_spoilt [.val (.obj 0), .val w, .none, .none, .none] φ).out false)
    rw [spoilt_is]
    obtain ⟨b, hb, hb1, hb2⟩ := isTup_of hw.1
    cases b with
    | true =>
      obtain ⟨ws, rfl⟩ := hb1 rfl
      obtain ⟨m, e, _⟩ := dq_tup hw.1
      cases e
    | false =>
      have cond : evalE P.gv (P.call d) spC [.val (.obj 0), .val w, .none, .none, .none] φ = .ok (.bl false) φ := r_and (r_and_f (r_isi (r_var rfl) hb) rfl)
      rw [q_skip cond rfl]
      exact spB_spec (by omega) hx hw hF
  | succ m ih =>
    intro w e φ x N hw hx he hF
    obtain ⟨d, rfl⟩ : ∃ d, e = d + 1 := ⟨e - 1, by omega⟩
    rw [call_eq (fn := ⟨2, 5, false, b__law_spoilt⟩) rfl rfl]
    show SpQ x (m + 1) N ((evalS P.gv P.fr (P.call d) b__law_spoilt [.val (.obj 0), .val w, .none, .none, .none] φ).out false)
    rw [spoilt_is]
    obtain ⟨b, hb, hb1, hb2⟩ := isTup_of hw.1
    cases b with
    | false =>
      have cond : evalE P.gv (P.call d) spC [.val (.obj 0), .val w, .none, .none, .none] φ = .ok (.bl false) φ := r_and (r_and_f (r_isi (r_var rfl) hb) rfl)
      rw [q_skip cond rfl]
      exact spB_spec (by omega) hx hw hF
    | true =>
      obtain ⟨ws, rfl⟩ := hb1 rfl
      have ne : evalE P.gv (P.call d) (.cmp .ne (.var 1) (.tup .nil)) [.val (.obj 0), .val (.tup ws), .none, .none, .none] φ = .ok (.bl (!ws.isEmpty)) φ := r_cmp (r_var rfl) (r_tup rs_nil) rfl
      cases ws with
      | nil =>
        have cond : evalE P.gv (P.call d) spC [.val (.obj 0), .val (.tup []), .none, .none, .none] φ = .ok (.bl false) φ := r_and (r_and_t (r_isi (r_var rfl) hb) rfl (r_and_f ne rfl))
        rw [q_skip cond rfl]
        exact spB_spec (by omega) hx hw hF
      | cons w0 wr =>
        have hlen : 0 < (w0 :: wr).length := Nat.succ_pos _
        have hw1 := hw
        generalize w0 :: wr = ws at hw hw1 hlen ne hb ⊢
        have ne' : evalE P.gv (P.call d) (.cmp .ne (.var 1) (.tup .nil)) [.val (.obj 0), .val (.tup ws), .none, .none, .none] φ = .ok (.bl true) φ := by
          rw [ne]
          cases ws with
          | nil => simp at hlen
          | cons => rfl
        obtain ⟨r, φ1, e1, b1, b2, hF1⟩ := draw_at (e := d) (by omega) φ 6 hF (by decide) (by decide)
        have cond : evalE P.gv (P.call d) spC [.val (.obj 0), .val (.tup ws), .none, .none, .none] φ = .ok (.bl (decide (0 < r))) φ1 :=
          r_and (r_and_t (r_isi (r_var rfl) hb) rfl (r_and_t ne' rfl (r_and1 (r_cmp (r_call (rs_cons (r_var rfl) (rs_cons r_int rs_nil)) e1) r_int (gt_int _ _)))))
        by_cases hr : 0 < r
        · rw [show decide (0 < r) = true by simp [hr]] at cond
          rw [q_if_t cond rfl]
          obtain ⟨m', em, hl, hm⟩ := dq_tup hw.1
          cases em
          have hm' := dqs_mem.mp hm
          have hn := hw.2
          rw [nd_tup] at hn
          obtain ⟨i, φ2, e2, d1, d2, hF2⟩ := draw_at (e := d) (by omega) φ1 ws.length hF1 (by omega) (by omega)
          obtain ⟨k, rfl⟩ : ∃ k : Nat, i = k := ⟨i.toNat, by omega⟩
          have hk : k < ws.length := by omega
          have hv0 : ws[k]? = some ws[k] := List.getElem?_eq_getElem hk
          obtain ⟨v, φ3, e3, hv, hF3⟩ := ih ws[k] d φ2 x (nd ws[k]) ⟨hm' _ (List.getElem_mem hk), Nat.le_refl _⟩ hx (by omega) hF2
          have nT := nds_td ws k
          have nD := nds_d hv0
          have lT : (ws.take k).length = k := by rw [List.length_take]; omega
          unfold spA b__law_spoilt
          dsimp only
          rw [q_set (w := .int k) (r_call (rs_cons (r_var rfl) (rs_cons (r_blt (r_var rfl) (len_tup _)) rs_nil)) e2) rfl]
          simp only [List.set_cons_succ, List.set_cons_zero]
          have sT : evalE P.gv (P.call d) (.slc (.var 1) .nil (.var 3)) [.val (.obj 0), .val (.tup ws), .none, .val (.int k), .none] φ2 = .ok (.tup (ws.take k)) φ2 := r_slc01 (n := k) (r_var rfl) rfl (r_var rfl) (by rw [← cut_to]; rfl)
          have k1 : evalE P.gv (P.call d) (.bin .add (.var 3) (.int 1)) [.val (.obj 0), .val (.tup ws), .none, .val (.int k), .none] φ3 = .ok (.int ((k + 1 : Nat) : Int)) φ3 := r_bin (r_var rfl) r_int (by rw [add_int]; rfl)
          have sD1 : evalE P.gv (P.call d) (.slc (.var 1) (.bin .add (.var 3) (.int 1)) .nil) [.val (.obj 0), .val (.tup ws), .none, .val (.int k), .none] φ3 = .ok (.tup (ws.drop (k + 1))) φ3 := r_slc10 (r_var rfl) rfl k1 (by rw [← cut_fr]; rfl)
          have ix : opIdx (.tup ws) (.int k) = some ws[k] := ix_nat hv0
          rw [q_ret (r_bin (r_bin sT (r_tup (rs_cons (r_call (rs_cons (r_var rfl) (rs_cons (r_idx (r_var rfl) (r_var rfl) ix) rs_nil)) e3) rs_nil)) (add_tup (by rw [lT, List.length_singleton]; omega))) sD1 (add_tup (by rw [List.length_append, lT, List.length_singleton, List.length_drop]; omega)))]
          refine ⟨_, φ3, rfl, (mk_tup (x := x + 1) (m := m + 4) (N := 2 * N + 400) (fun w h => ?_) ?_ ?_).mono (by omega) (by omega) (by omega), hF3⟩
          · rcases List.mem_append.mp h with h | h
            · rcases List.mem_append.mp h with h | h
              · exact dq_mono (by omega) m _ w (by omega) (hm' w (List.mem_of_mem_take h))
              · rw [List.mem_singleton.mp h]; exact hv.1
            · exact dq_mono (by omega) m _ w (by omega) (hm' w (List.mem_of_mem_drop h))
          · rw [List.length_append, List.length_append, lT, List.length_singleton, List.length_drop]; omega
          · rw [nds_app, nds_app]
            have := hv.2
            show nds (ws.take k) + (nd v + 0) + nds (ws.drop (k + 1)) + 1 ≤ _
            omega
        · rw [show decide (0 < r) = false by simp [hr]] at cond
          rw [q_skip cond rfl]
          exact spB_spec (by omega) hx hw1 hF1
theorem TT_dq {s : List Nat} (h : TT s) (x n : Nat) : dq x n (.str s) = true := by
  obtain ⟨h1, h2, h3⟩ := h
  have a : good s = true := by
    unfold good
    rw [List.all_eq_true] at h3 ⊢
    intro c hc
    have := h3 c hc
    unfold isL at this
    simp only [Bool.and_eq_true, decide_eq_true_eq] at this ⊢
    omega
  have b : s.count 40 = 0 := by
    rw [List.count_eq_zero]
    intro hc
    have := List.all_eq_true.mp h3 40 hc
    simp [isL] at this
  have c : sq x s = true := by
    unfold sq
    simp only [Bool.and_eq_true, decide_eq_true_eq]
    exact ⟨⟨a, by omega⟩, by omega⟩
  cases n <;> simpa [dq] using c
/-- the makers of a maker, drawn -/
structure MkI (sz : Nat) (i : Nat) (ρ : MP.Loc) (φ : Sto) : Prop where
  f : Feed φ
  r : ∃ (ws : List W) (n l : Nat) (a b : Sl), ρ = [.val (.obj 0), .val (.int sz), a, .own (.lst ws), .val (.int l), b] ∧ nds ws ≤ 3 * n ∧ ws.length ≤ n ∧ (∀ w ∈ ws, dq 0 (2 * (sz - 1)) w = true) ∧ n + l = sz - 1
end K02
/-! k01: _law_term, _law_begun. -/
namespace K02
open MP PySem
theorem Sp_dq {s x n : Nat} {t : List Nat} (h : Sp s t) (hs : s ≤ 10) : dq x n (.str t) = true := by
  obtain ⟨h1, h2, h3⟩ := h
  have c : sq x t = true := by
    unfold sq
    simp only [Bool.and_eq_true, decide_eq_true_eq]
    exact ⟨⟨h1, by omega⟩, by omega⟩
  cases n <;> simpa [dq] using c
theorem fdiv2 (n : Nat) : opBin .fdiv (.int n) (.int 2) = some (.int ((n / 2 : Nat) : Int)) := by
  show (if (2 : Int) ≠ 0 ∧ (2 : Int).natAbs < 1073741824 then some (W.int ((n : Int).fdiv 2)) else none) = _
  rw [if_pos (by decide), Int.fdiv_eq_ediv_of_nonneg _ (by decide)]
  rfl
theorem pow_le {a b : Nat} (h : a ≤ b) : 3 ^ a ≤ 3 ^ b := Nat.pow_le_pow_right (by decide) h
theorem nds_const {ws : List W} {N : Nat} (h : ∀ w ∈ ws, nd w ≤ N) : nds ws ≤ ws.length * N := by
  induction ws with
  | nil => simp [nds]
  | cons w r ih =>
    have h1 := h w List.mem_cons_self
    have h2 := ih fun y hy => h y (List.mem_cons_of_mem _ hy)
    show nd w + nds r ≤ _
    rw [List.length_cons, Nat.add_mul, Nat.one_mul]
    omega
theorem begun_spec {e : Nat} (he : 1 ≤ e) (ns : List Int) (hl : ns.length ≤ 63) : ∃ φ, P.call e 7 [.lst (ns.map .int)] [] = .ok (.obj 0) φ ∧ Feed φ := by
  obtain ⟨d, rfl⟩ : ∃ d, e = d + 1 := ⟨e - 1, by omega⟩
  have hc : evalE P.gv (P.call d) (.slc (.var 0) .nil (.int 63)) [.val (.lst (ns.map .int)), .none] [] = .ok (.lst (ns.map .int)) [] := r_slc01 (n := ((63 : Nat) : Int)) (r_var rfl) rfl r_int (by
    show some (W.lst (cut none (some ((63 : Nat) : Int)) (ns.map W.int))) = _
    rw [cut_to, List.take_of_length_le (by rw [List.length_map]; exact hl)])
  obtain ⟨zs, φ1, e1, q1, l1, rfl⟩ := compL_inv (c := fun w φ' => .ok true φ') (e := fun w φ' => evalE P.gv (P.call d) (.blt .int (.var 1)) (([.val (.lst (ns.map .int)), .none] : MP.Loc).set 1 (.val w)) φ') (fun φ => φ = []) (fun z => ∃ i, z = .int i) (fun _ _ => rfl) (ns.map .int) [] rfl (fun w hw φ hφ => by
    obtain ⟨i, _, rfl⟩ := List.mem_map.mp hw
    exact ⟨.int i, φ, r_blt (r_var rfl) rfl, ⟨i, rfl⟩, hφ⟩)
  obtain ⟨cs, rfl⟩ : ∃ cs : List Int, zs = cs.map .int := by
    clear e1 l1
    induction zs with
    | nil => exact ⟨[], rfl⟩
    | cons z r ih =>
      obtain ⟨i, rfl⟩ := q1 z List.mem_cons_self
      obtain ⟨cs, rfl⟩ := ih fun y hy => q1 y (List.mem_cons_of_mem _ hy)
      exact ⟨i :: cs, rfl⟩
  rw [List.length_map] at l1
  rw [call_eq (fn := ⟨1, 2, false, b__law_begun⟩) rfl rfl]
  show ∃ φ, (evalS P.gv P.fr (P.call d) b__law_begun [.val (.lst (ns.map .int)), .none] []).out false = .ok (.obj 0) φ ∧ _
  unfold b__law_begun
  refine ⟨[feedC cs 0 0 0], q_out (q_ret ?_), cs, 0, 0, 0, rfl⟩
  have es : evalEs P.gv (P.call d) (.cons (.comp 1 (.slc (.var 0) .nil (.int 63)) .nil (.blt .int (.var 1))) (.cons (.int 0) (.cons (.int 0) (.cons (.int 0) .nil)))) [.val (.lst (ns.map .int)), .none] [] = .ok [.lst (cs.map .int), .int 0, .int 0, .int 0] [] :=
    rs_cons (r_comp hc rfl e1 (by rw [List.length_map] at l1; rw [List.length_map]; omega)) (rs_cons r_int (rs_cons r_int (rs_cons r_int rs_nil)))
  show (evalEs P.gv (P.call d) _ [.val (.lst (ns.map .int)), .none] []).bind _ = _
  rw [es, Out.bind_ok, if_pos ⟨rfl, by decide, by decide⟩]
  rfl
end K02
/-! k02: lets_book and the law's own word about it. -/
namespace K02
open MP PySem
def SHAPE : List Nat := [115, 104, 97, 112, 101]
def ENTRY : List Nat := [101, 110, 116, 114, 121]
def ORDER : List Nat := [111, 114, 100, 101, 114]
def GAVE : List Nat := [103, 97, 118, 101]
def NO : List Nat := [110, 111]
def okO : Option (List Nat) → W → Bool
  | none, _ => true
  | some s, e => decide (s < nmOf e)
/-- the first fault of a book -/
def bk : Option (List Nat) → Nat → List W → Option (List Nat × Nat)
  | _, _, [] => none
  | p, k, e :: r => if entB e then (if okO p e then bk (some (nmOf e)) (k + 1) r else some (ORDER, k)) else some (ENTRY, k)
def Prev (pre : List W) (p : Option (List Nat)) : Prop := (pre = [] ∧ p = none) ∨ ∃ q e, pre = q ++ [e] ∧ entB e = true ∧ p = some (nmOf e)
/-- a walk over the entries -/
theorem bk_loop {F : W → MP.Loc → Sto → Res} {R : List Nat → Nat → W → Res} {ws : List W} {φ : Sto} (hR : ∀ t k e, (∃ x ρ1 φ1, R t k e = .ex x ρ1 φ1) ∨ ∃ x φ1, R t k e = .rt x φ1)
    (hs : ∀ pre e r p s1 s2, ws = pre ++ e :: r → Prev pre p → F (.tup [.int pre.length, e]) [.val (.tup ws), s1, s2] φ =
      if entB e then (if okO p e then .nx [.val (.tup ws), .val (.int pre.length), .val e] φ else R ORDER pre.length e) else R ENTRY pre.length e) :
    ∀ (r pre : List W) (p : Option (List Nat)) (s1 s2 : Sl), ws = pre ++ r → Prev pre p → ∃ s1' s2' e', floop F (enumW pre.length r) [.val (.tup ws), s1, s2] φ =
      match bk p pre.length r with | none => .nx [.val (.tup ws), s1', s2'] φ | some (t, k) => R t k e'
  | [], pre, p, s1, s2, _, _ => ⟨s1, s2, .non, rfl⟩
  | e :: r, pre, p, s1, s2, hw, hp => by
    have h := hs pre e r p s1 s2 hw hp
    show ∃ s1' s2' e', floop F (.tup [.int pre.length, e] :: enumW (pre.length + 1) r) [.val (.tup ws), s1, s2] φ = _
    unfold bk
    cases he : entB e with
    | false =>
      rw [he] at h
      exact ⟨s1, s2, e, floop_stop h (hR _ _ _)⟩
    | true =>
      rw [he] at h
      cases ho : okO p e with
      | false =>
        rw [ho] at h
        exact ⟨s1, s2, e, floop_stop h (hR _ _ _)⟩
      | true =>
        rw [ho] at h
        obtain ⟨s1', s2', e', ih⟩ := bk_loop hR hs r (pre ++ [e]) (some (nmOf e)) (.val (.int pre.length)) (.val e) (by rw [hw, List.append_assoc]; rfl) (.inr ⟨pre, e, rfl, he, rfl⟩)
        rw [List.length_append, List.length_singleton] at ih
        exact ⟨s1', s2', e', (floop_go h).trans ih⟩
def lbB : T := match b_lets_book with | .cons _ (.cons (.sforE _ _ b) _) => b | _ => .nil
def duB : T := match b__law_due with | .cons _ (.cons (.sforE _ _ b) _) => b | _ => .nil
theorem lb_is : b_lets_book = .cons (.sif (.not (.isi (.var 0) .tuple)) (.cons (.srais 0 (.cons (.str SHAPE) (.cons (.neg (.int 1)) .nil))) .nil) .nil) (.cons (.sforE [1, 2] (.var 0) lbB) (.cons (.sret (.blt .len (.var 0))) .nil)) := rfl
theorem du_is : b__law_due = .cons (.sif (.not (.isi (.var 0) .tuple)) (.cons (.sret (.tup (.cons (.str NO) (.cons (.str SHAPE) (.cons (.neg (.int 1)) .nil))))) .nil) .nil) (.cons (.sforE [1, 2] (.var 0) duB) (.cons (.sret (.tup (.cons (.str GAVE) (.cons (.blt .len (.var 0)) .nil)))) .nil)) := rfl
theorem nm_gt {a b : List Nat} : opCmp .gt (.str a) (.str b) = some (decide (b < a)) := rfl
/-- the entry before -/
theorem prev_ev {call : Calls} {ws pre r : List W} {e e0 : W} {q : List W} {n : Nat} {s : Sl} {φ : Sto} (hw : ws = pre ++ e :: r) (hp : pre = q ++ [e0]) (h0 : entB e0 = true) (hd : dts n ws = true) :
    evalE P.gv call (.idx (.idx (.var 0) (.bin .sub (.var 1) (.int 1))) (.int 0)) [.val (.tup ws), .val (.int pre.length), s] φ = .ok (.str (nmOf e0)) φ := by
  have hm : dt n e0 = true := dts_mem hd (by rw [hw, hp]; simp)
  have hx : ws[q.length]? = some e0 := by
    rw [hw, hp, List.append_assoc, List.getElem?_append_right (Nat.le_refl _), Nat.sub_self]; rfl
  have e1 : evalE P.gv call (.bin .sub (.var 1) (.int 1)) [.val (.tup ws), .val (.int pre.length), s] φ = .ok (.int q.length) φ := r_bin (r_var rfl) r_int (by rw [sub_int, hp, List.length_append, List.length_singleton]; congr 2; omega)
  exact r_idx (r_idx (r_var rfl) e1 (show ixW ws (q.length : Int) = some e0 from ix_nat hx)) r_int (ent_idx h0 hm).1
theorem lb_step {d n : Nat} {ws : List W} {φ : Sto} (hd : dts n ws = true) (pre : List W) (e : W) (r : List W) (p : Option (List Nat)) (s1 s2 : Sl) (hw : ws = pre ++ e :: r) (hp : Prev pre p) :
    enF P.gv P.fr (P.call (d + 4)) [1, 2] lbB (.tup [.int pre.length, e]) [.val (.tup ws), s1, s2] φ =
      if entB e then (if okO p e then .nx [.val (.tup ws), .val (.int pre.length), .val e] φ else .ex (.ins 0 [.int pre.length, .str ORDER]) [.val (.tup ws), .val (.int pre.length), .val e] φ)
      else .ex (.ins 0 [.int pre.length, .str ENTRY]) [.val (.tup ws), .val (.int pre.length), .val e] φ := by
  have hm : dt n e = true := dts_mem hd (by rw [hw]; simp)
  show evalS P.gv P.fr (P.call (d + 4)) lbB [.val (.tup ws), .val (.int pre.length), .val e] φ = _
  unfold lbB b_lets_book
  dsimp only
  have c1 : evalE P.gv (P.call (d + 4)) (.not (.call 5 (.cons (.var 2) .nil))) [.val (.tup ws), .val (.int pre.length), .val e] φ = .ok (.bl (!entB e)) φ :=
    r_not (r_call (rs_cons (r_var rfl) rs_nil) (entry_spec d n φ e hm)) (tru_bl _)
  cases he : entB e with
  | false =>
    rw [he] at c1
    rw [q_if_t c1 rfl, q_rais (rs_cons r_str (rs_cons (r_var rfl) rs_nil))]
    rfl
  | true =>
    rw [he] at c1
    rw [q_skip c1 rfl]
    have i0 : evalE P.gv (P.call (d + 4)) (.idx (.var 2) (.int 0)) [.val (.tup ws), .val (.int pre.length), .val e] φ = .ok (.str (nmOf e)) φ := r_idx (r_var rfl) r_int (ent_idx he hm).1
    have c2 : evalE P.gv (P.call (d + 4)) (.andN (.cons (.cmp .gt (.var 1) (.int 0)) (.cons (.not (.cmp .gt (.idx (.var 2) (.int 0)) (.idx (.idx (.var 0) (.bin .sub (.var 1) (.int 1))) (.int 0)))) .nil)))
        [.val (.tup ws), .val (.int pre.length), .val e] φ = .ok (.bl (!okO p e)) φ := by
      rcases hp with ⟨h1, rfl⟩ | ⟨q, e0, h1, h2, rfl⟩
      · have : evalE P.gv (P.call (d + 4)) (.cmp .gt (.var 1) (.int 0)) [.val (.tup ws), .val (.int pre.length), .val e] φ = .ok (.bl false) φ := r_cmp (r_var rfl) r_int (by rw [h1]; rfl)
        exact r_and (r_and_f this rfl)
      · have : evalE P.gv (P.call (d + 4)) (.cmp .gt (.var 1) (.int 0)) [.val (.tup ws), .val (.int pre.length), .val e] φ = .ok (.bl true) φ := r_cmp (r_var rfl) r_int (by rw [h1, gt_int]; simp)
        exact r_and (r_and_t this rfl (r_and1 (r_not (r_cmp i0 (prev_ev hw h1 h2 hd) nm_gt) (tru_bl _))))
    cases ho : okO p e with
    | true =>
      rw [ho] at c2
      rw [q_skip c2 rfl]; rfl
    | false =>
      rw [ho] at c2
      rw [q_if_t c2 rfl, q_rais (rs_cons r_str (rs_cons (r_var rfl) rs_nil))]
      rfl
/-- lets_book -/
theorem lets_spec (d n : Nat) (φ : Sto) (w : W) (h : dt n w = true) : P.call (d + 5) 6 [w] φ = match w with
    | .tup ws => (match bk none 0 ws with | none => .ok (.int ws.length) φ | some (t, k) => .exc (.ins 0 [.int k, .str t]) φ)
    | _ => .exc (.ins 0 [.int (-1), .str SHAPE]) φ := by
  rw [call_eq (fn := ⟨1, 3, false, b_lets_book⟩) rfl rfl]
  show (evalS P.gv P.fr (P.call (d + 4)) b_lets_book [.val w, .none, .none] φ).out false = _
  rw [lb_is]
  have other : (∀ ws, w ≠ .tup ws) → isTy .tuple w = some false → (evalS P.gv P.fr (P.call (d + 4)) (.cons (.sif (.not (.isi (.var 0) .tuple)) (.cons (.srais 0 (.cons (.str SHAPE) (.cons (.neg (.int 1)) .nil))) .nil) .nil) (.cons (.sforE [1, 2] (.var 0) lbB) (.cons (.sret (.blt .len (.var 0))) .nil))) [.val w, .none, .none] φ).out false = .exc (.ins 0 [.int (-1), .str SHAPE]) φ := fun _ ht => by
    have c1 : evalE P.gv (P.call (d + 4)) (.not (.isi (.var 0) .tuple)) [.val w, .none, .none] φ = .ok (.bl true) φ := r_not (r_isi (r_var rfl) ht) rfl
    rw [q_if_t c1 rfl, q_rais (rs_cons r_str (rs_cons (r_neg r_int) rs_nil))]
    rfl
  cases w with
  | tup ws =>
    obtain ⟨m, rfl, hl, hm⟩ := dt_tup h
    have c1 : evalE P.gv (P.call (d + 4)) (.not (.isi (.var 0) .tuple)) [.val (.tup ws), .none, .none] φ = .ok (.bl false) φ := r_not (x := true) (r_isi (x := true) (r_var rfl) rfl) rfl
    rw [q_skip c1 rfl]
    obtain ⟨s1, s2, e', q⟩ := bk_loop (F := enF P.gv P.fr (P.call (d + 4)) [1, 2] lbB) (R := fun t k e => .ex (.ins 0 [.int k, .str t]) [.val (.tup ws), .val (.int k), .val e] φ) (φ := φ) (fun t k e => .inl ⟨_, _, _, rfl⟩)
      (fun pre e r p s1 s2 => lb_step hm pre e r p s1 s2) ws [] none .none .none rfl (.inl ⟨rfl, rfl⟩)
    have sf : evalS P.gv P.fr (P.call (d + 4)) (.sforE [1, 2] (.var 0) lbB) [.val (.tup ws), .none, .none] φ = _ := st_forE (r_var rfl) (show opEnum (.tup ws) = some (enumW 0 ws) from rfl)
    have q' : floop (enF P.gv P.fr (P.call (d + 4)) [1, 2] lbB) (enumW 0 ws) [.val (.tup ws), .none, .none] φ = _ := q
    rw [q'] at sf
    show _ = (match bk none 0 ws with | none => Out.ok (W.int ws.length) φ | some (t, k) => .exc (.ins 0 [.int k, .str t]) φ)
    have hb : bk none ([] : List W).length ws = bk none 0 ws := rfl
    rw [hb] at sf
    cases hbk : bk none 0 ws with
    | none =>
      rw [hbk] at sf
      rw [q_nx sf, q_ret (r_blt (r_var rfl) (len_tup _))]; rfl
    | some tk =>
      obtain ⟨t, k⟩ := tk
      rw [hbk] at sf
      rw [q_stop sf]; rfl
  | non => exact other (fun _ z => by cases z) rfl
  | bl b => exact other (fun _ z => by cases z) rfl
  | int i => exact other (fun _ z => by cases z) rfl
  | str s => exact other (fun _ z => by cases z) rfl
  | lst ws => exact other (fun _ z => by cases z) rfl
  | dct _ => cases n <;> cases h
  | ins _ _ => cases n <;> cases h
  | obj _ => cases n <;> cases h
end K02
/-! k02: the law's own word, and the two side by side. -/
namespace K02
open MP PySem
theorem du_cond {d n : Nat} {s1 s2 : Sl} {e : W} {φ : Sto} (h : dt n e = true) :
    evalE P.gv (P.call (d + 62)) (.orN (.cons (.not (.isi (.var 2) .tuple)) (.cons (.cmp .ne (.blt .len (.var 2)) (.int 2)) (.cons (.not (.call 13 (.cons (.idx (.var 2) (.int 0)) .nil))) (.cons (.cmp .isnone (.call 15 (.cons (.idx (.var 2) (.int 1)) .nil)) .non) .nil)))))
      [s1, s2, .val e] φ = .ok (.bl (!entB e)) φ := by
  cases e with
  | tup ws =>
    obtain ⟨m, rfl, hl, hm⟩ := dt_tup h
    match ws, hm with
    | [], _ => simp [isTy, entB]
    | [a], _ => simp [isTy, entB]
    | [a, b], hm =>
      have ha := dts_mem hm (List.mem_cons_self (a := a) (l := [b]))
      have hb := dts_mem hm (List.mem_cons_of_mem a (List.mem_cons_self (a := b) (l := [])))
      have e1 : P.call (d + 62) 13 [a] φ = .ok (.bl (titB a)) φ := title_spec (d + 61) φ a (dt_plain ha)
      obtain ⟨v, e2, _, _, ⟨o, e3, e4⟩⟩ := parsed_any d m φ b hb
      cases ht : titB a <;> simp [isTy, idx_tup0, idx_tup1, e1, e2, ht, entB, e3, e4]
    | a :: b :: c :: r, hm =>
      have h3 : ¬ ((r.length : Int) + 1 + 1 + 1 = 2) := by omega
      simp [isTy, h3, entB]
  | non => simp [isTy, entB]
  | bl b => simp [isTy, entB]
  | int i => simp [isTy, entB]
  | str s => simp [isTy, entB]
  | lst ws => simp [isTy, entB]
  | dct _ => cases n <;> cases h
  | ins _ _ => cases n <;> cases h
  | obj _ => cases n <;> cases h
theorem du_step {d n : Nat} {ws : List W} {φ : Sto} (hd : dts n ws = true) (pre : List W) (e : W) (r : List W) (p : Option (List Nat)) (s1 s2 : Sl) (hw : ws = pre ++ e :: r) (hp : Prev pre p) :
    enF P.gv P.fr (P.call (d + 62)) [1, 2] duB (.tup [.int pre.length, e]) [.val (.tup ws), s1, s2] φ =
      if entB e then (if okO p e then .nx [.val (.tup ws), .val (.int pre.length), .val e] φ else .rt (.tup [.str NO, .str ORDER, .int pre.length]) φ)
      else .rt (.tup [.str NO, .str ENTRY, .int pre.length]) φ := by
  have hm : dt n e = true := dts_mem hd (by rw [hw]; simp)
  show evalS P.gv P.fr (P.call (d + 62)) duB [.val (.tup ws), .val (.int pre.length), .val e] φ = _
  unfold duB b__law_due
  dsimp only
  have c1 := du_cond (d := d) (s1 := .val (.tup ws)) (s2 := .val (.int pre.length)) (φ := φ) hm
  cases he : entB e with
  | false =>
    rw [he] at c1
    rw [q_if_t c1 rfl, q_ret (r_tup (rs_cons r_str (rs_cons r_str (rs_cons (r_var rfl) rs_nil))))]
    rfl
  | true =>
    rw [he] at c1
    rw [q_skip c1 rfl]
    have i0 : evalE P.gv (P.call (d + 62)) (.idx (.var 2) (.int 0)) [.val (.tup ws), .val (.int pre.length), .val e] φ = .ok (.str (nmOf e)) φ := r_idx (r_var rfl) r_int (ent_idx he hm).1
    have c2 : evalE P.gv (P.call (d + 62)) (.andN (.cons (.cmp .gt (.var 1) (.int 0)) (.cons (.not (.cmp .lt (.idx (.idx (.var 0) (.bin .sub (.var 1) (.int 1))) (.int 0)) (.idx (.var 2) (.int 0)))) .nil)))
        [.val (.tup ws), .val (.int pre.length), .val e] φ = .ok (.bl (!okO p e)) φ := by
      rcases hp with ⟨h1, rfl⟩ | ⟨q, e0, h1, h2, rfl⟩
      · have : evalE P.gv (P.call (d + 62)) (.cmp .gt (.var 1) (.int 0)) [.val (.tup ws), .val (.int pre.length), .val e] φ = .ok (.bl false) φ := r_cmp (r_var rfl) r_int (by rw [h1]; rfl)
        exact r_and (r_and_f this rfl)
      · have : evalE P.gv (P.call (d + 62)) (.cmp .gt (.var 1) (.int 0)) [.val (.tup ws), .val (.int pre.length), .val e] φ = .ok (.bl true) φ := r_cmp (r_var rfl) r_int (by rw [h1, gt_int]; simp)
        exact r_and (r_and_t this rfl (r_and1 (r_not (r_cmp (prev_ev hw h1 h2 hd) i0 (lt_str _ _)) (tru_bl _))))
    cases ho : okO p e with
    | true =>
      rw [ho] at c2
      rw [q_skip c2 rfl]; rfl
    | false =>
      rw [ho] at c2
      rw [q_if_t c2 rfl, q_ret (r_tup (rs_cons r_str (rs_cons r_str (rs_cons (r_var rfl) rs_nil))))]
      rfl
/-- what both say -/
def ansW : W → W
  | .tup ws => match bk none 0 ws with | none => .tup [.str GAVE, .int ws.length] | some (t, k) => .tup [.str NO, .str t, .int k]
  | _ => .tup [.str NO, .str SHAPE, .int (-1)]
theorem ans_none {ws : List W} (h : bk none 0 ws = none) : ansW (.tup ws) = .tup [.str GAVE, .int ws.length] := by
  unfold ansW; dsimp only; rw [h]
theorem ans_some {ws : List W} {t : List Nat} {k : Nat} (h : bk none 0 ws = some (t, k)) : ansW (.tup ws) = .tup [.str NO, .str t, .int k] := by
  unfold ansW; dsimp only; rw [h]
theorem due_spec (d n : Nat) (φ : Sto) (w : W) (h : dt n w = true) : P.call (d + 63) 19 [w] φ = .ok (ansW w) φ := by
  rw [call_eq (fn := ⟨1, 3, false, b__law_due⟩) rfl rfl]
  show (evalS P.gv P.fr (P.call (d + 62)) b__law_due [.val w, .none, .none] φ).out false = _
  rw [du_is]
  have other : isTy .tuple w = some false → (evalS P.gv P.fr (P.call (d + 62)) (.cons (.sif (.not (.isi (.var 0) .tuple)) (.cons (.sret (.tup (.cons (.str NO) (.cons (.str SHAPE) (.cons (.neg (.int 1)) .nil))))) .nil) .nil) (.cons (.sforE [1, 2] (.var 0) duB) (.cons (.sret (.tup (.cons (.str GAVE) (.cons (.blt .len (.var 0)) .nil)))) .nil))) [.val w, .none, .none] φ).out false = .ok (.tup [.str NO, .str SHAPE, .int (-1)]) φ := fun ht => by
    have c1 : evalE P.gv (P.call (d + 62)) (.not (.isi (.var 0) .tuple)) [.val w, .none, .none] φ = .ok (.bl true) φ := r_not (r_isi (r_var rfl) ht) rfl
    rw [q_if_t c1 rfl, q_ret (r_tup (rs_cons r_str (rs_cons r_str (rs_cons (r_neg r_int) rs_nil))))]
    rfl
  cases w with
  | tup ws =>
    obtain ⟨m, rfl, hl, hm⟩ := dt_tup h
    have c1 : evalE P.gv (P.call (d + 62)) (.not (.isi (.var 0) .tuple)) [.val (.tup ws), .none, .none] φ = .ok (.bl false) φ := r_not (x := true) (r_isi (x := true) (r_var rfl) rfl) rfl
    rw [q_skip c1 rfl]
    obtain ⟨s1, s2, e', q⟩ := bk_loop (F := enF P.gv P.fr (P.call (d + 62)) [1, 2] duB) (R := fun t k e => .rt (.tup [.str NO, .str t, .int k]) φ) (φ := φ) (fun t k e => .inr ⟨_, _, rfl⟩)
      (fun pre e r p s1 s2 => du_step hm pre e r p s1 s2) ws [] none .none .none rfl (.inl ⟨rfl, rfl⟩)
    have sf : evalS P.gv P.fr (P.call (d + 62)) (.sforE [1, 2] (.var 0) duB) [.val (.tup ws), .none, .none] φ = _ := st_forE (r_var rfl) (show opEnum (.tup ws) = some (enumW 0 ws) from rfl)
    have q' : floop (enF P.gv P.fr (P.call (d + 62)) [1, 2] duB) (enumW 0 ws) [.val (.tup ws), .none, .none] φ = _ := q
    rw [q'] at sf
    have hb : bk none ([] : List W).length ws = bk none 0 ws := rfl
    rw [hb] at sf
    cases hbk : bk none 0 ws with
    | none =>
      rw [hbk] at sf
      rw [ans_none hbk, q_nx sf, q_ret (r_tup (rs_cons r_str (rs_cons (r_blt (r_var rfl) (len_tup _)) rs_nil)))]; rfl
    | some tk =>
      obtain ⟨t, k⟩ := tk
      rw [hbk] at sf
      rw [ans_some hbk, q_rt sf]; rfl
  | non => exact other rfl
  | bl b => exact other rfl
  | int i => exact other rfl
  | str s => exact other rfl
  | lst ws => exact other rfl
  | dct _ => cases n <;> cases h
  | ins _ _ => cases n <;> cases h
  | obj _ => cases n <;> cases h
theorem judged_spec (d n : Nat) (φ : Sto) (w : W) (h : dt n w = true) : P.call (d + 6) 20 [w] φ = .ok (ansW w) φ := by
  rw [call_eq (fn := ⟨1, 2, false, b__law_judged⟩) rfl rfl]
  show (evalS P.gv P.fr (P.call (d + 5)) b__law_judged [.val w, .none] φ).out false = _
  unfold b__law_judged
  have hl := lets_spec d n φ w h
  have bad : ∀ (k : Int) (t : List Nat), P.call (d + 5) 6 [w] φ = .exc (.ins 0 [.int k, .str t]) φ → (evalS P.gv P.fr (P.call (d + 5)) (.cons (.stry [0] [] 1
      (.cons (.sret (.tup (.cons (.str [103, 97, 118, 101]) (.cons (.call 6 (.cons (.var 0) .nil)) .nil)))) .nil)
      [.inl [110, 111], .inr 1, .inr 0]) .nil) [.val w, .none] φ).out false = .ok (.tup [.str NO, .str t, .int k]) φ := fun k t e => by
    have b1 : evalS P.gv P.fr (P.call (d + 5)) (.cons (.sret (.tup (.cons (.str [103, 97, 118, 101]) (.cons (.call 6 (.cons (.var 0) .nil)) .nil)))) .nil) [.val w, .none] φ = .ex (.ins 0 [.int k, .str t]) [.val w, .none] φ :=
      q_exc_ret (r_exc_tup (rs_exc2 r_str (rs_exc1 (r_exc_call (rs_cons (r_var rfl) rs_nil) e))))
    rw [q_rt (st_try_yes b1 (by simp) (by decide) (ws := [.str NO, .str t, .int k]) rfl (by simp))]; rfl
  have good : ∀ k : Int, P.call (d + 5) 6 [w] φ = .ok (.int k) φ → (evalS P.gv P.fr (P.call (d + 5)) (.cons (.stry [0] [] 1
      (.cons (.sret (.tup (.cons (.str [103, 97, 118, 101]) (.cons (.call 6 (.cons (.var 0) .nil)) .nil)))) .nil)
      [.inl [110, 111], .inr 1, .inr 0]) .nil) [.val w, .none] φ).out false = .ok (.tup [.str GAVE, .int k]) φ := fun k e => by
    have b1 : evalS P.gv P.fr (P.call (d + 5)) (.cons (.sret (.tup (.cons (.str [103, 97, 118, 101]) (.cons (.call 6 (.cons (.var 0) .nil)) .nil)))) .nil) [.val w, .none] φ = .rt (.tup [.str GAVE, .int k]) φ :=
      q_ret (r_tup (rs_cons r_str (rs_cons (r_call (rs_cons (r_var rfl) rs_nil) e) rs_nil)))
    rw [q_rt (st_try_rt b1)]; rfl
  cases w with
  | tup ws =>
    dsimp only at hl
    cases hbk : bk none 0 ws with
    | none => rw [hbk] at hl; rw [ans_none hbk]; exact good _ hl
    | some tk =>
      obtain ⟨t, k⟩ := tk
      rw [hbk] at hl
      rw [ans_some hbk]
      exact bad _ _ hl
  | non => exact bad _ _ hl
  | bl b => exact bad _ _ hl
  | int i => exact bad _ _ hl
  | str s => exact bad _ _ hl
  | lst ws => exact bad _ _ hl
  | dct _ => cases n <;> cases h
  | ins _ _ => cases n <;> cases h
  | obj _ => cases n <;> cases h
theorem bk_lt : ∀ (ws : List W) (p : Option (List Nat)) (k : Nat) (t : List Nat) (j : Nat), bk p k ws = some (t, j) → (t = ORDER ∨ t = ENTRY) ∧ j < k + ws.length
  | [], p, k, t, j, h => by simp [bk] at h
  | e :: r, p, k, t, j, h => by
    unfold bk at h
    rw [List.length_cons]
    split at h
    · split at h
      · have := bk_lt r _ _ t j h
        exact ⟨this.1, by omega⟩
      · cases h; exact ⟨.inl rfl, by omega⟩
    · cases h; exact ⟨.inr rfl, by omega⟩
theorem ans_repr (n : Nat) (w : W) (h : dt n w = true) : ∃ s, opBlt .repr (ansW w) = some (.str s) ∧ good s = true := by
  have hi : ∀ k : Nat, k ≤ 60 → (k : Int).natAbs < 10 ^ 60 := fun k hk => by
    rw [Int.natAbs_natCast]; exact Nat.lt_of_le_of_lt hk (by decide)
  have other : ∃ s, opBlt .repr (.tup [.str NO, .str SHAPE, .int (-1)]) = some (.str s) ∧ good s = true := repr_told (by decide +kernel) (by decide +kernel) (by decide +kernel)
  cases w with
  | tup ws =>
    obtain ⟨m, rfl, hl, hm⟩ := dt_tup h
    cases hbk : bk none 0 ws with
    | none =>
      rw [ans_none hbk]
      have := hi ws.length hl
      exact repr_told (by simp [W.okD, okDs, GAVE]) (by simp [lfOk, lfOks, GAVE]; omega) (by simp [wsz, wszs, GAVE])
    | some tk =>
      obtain ⟨t, k⟩ := tk
      obtain ⟨ht, hk⟩ := bk_lt ws none 0 t k hbk
      have := hi k (by omega)
      rw [ans_some hbk]
      rcases ht with rfl | rfl
      · exact repr_told (by simp [W.okD, okDs, NO, ORDER]) (by simp [lfOk, lfOks, NO, ORDER]; omega) (by simp [wsz, wszs, NO, ORDER])
      · exact repr_told (by simp [W.okD, okDs, NO, ENTRY]) (by simp [lfOk, lfOks, NO, ENTRY]; omega) (by simp [wsz, wszs, NO, ENTRY])
  | _ => exact other
end K02
/-! k02: drawn books. -/
namespace K02
open MP PySem
/-- the dict of a drawn book -/
def BkD (n : Nat) (kvs : List (DK × W)) : Prop := ∃ ps : List (List Nat × List Nat), strKV kvs = some ps ∧ (∀ p ∈ ps, TT p.1 ∧ Sp 5 p.2) ∧ ps.length ≤ n
theorem strKV_len : ∀ {kvs : List (DK × W)} {ps : List (List Nat × List Nat)}, strKV kvs = some ps → kvs.length = ps.length
  | [], _, h => by simp [strKV] at h; subst h; rfl
  | (.inr k, .str v) :: r, ps, h => by
    simp only [strKV, Option.map_eq_some_iff] at h
    obtain ⟨qs, h1, rfl⟩ := h
    simp [strKV_len h1]
  | (.inl _, _) :: _, _, h => by simp [strKV] at h
  | (.inr _, .non) :: _, _, h => by simp [strKV] at h
  | (.inr _, .bl _) :: _, _, h => by simp [strKV] at h
  | (.inr _, .int _) :: _, _, h => by simp [strKV] at h
  | (.inr _, .tup _) :: _, _, h => by simp [strKV] at h
  | (.inr _, .lst _) :: _, _, h => by simp [strKV] at h
  | (.inr _, .dct _) :: _, _, h => by simp [strKV] at h
  | (.inr _, .ins _ _) :: _, _, h => by simp [strKV] at h
  | (.inr _, .obj _) :: _, _, h => by simp [strKV] at h
theorem strKV_app : ∀ {kvs : List (DK × W)} {ps : List (List Nat × List Nat)} {k v : List Nat}, strKV kvs = some ps → strKV (kvs ++ [(.inr k, .str v)]) = some (ps ++ [(k, v)])
  | [], _, _, _, h => by simp [strKV] at h; subst h; rfl
  | (.inr a, .str b) :: r, ps, k, v, h => by
    simp only [strKV, Option.map_eq_some_iff] at h
    obtain ⟨qs, h1, rfl⟩ := h
    show (strKV (r ++ _)).map _ = _
    rw [strKV_app h1]; rfl
  | (.inl _, _) :: _, _, _, _, h => by simp [strKV] at h
  | (.inr _, .non) :: _, _, _, _, h => by simp [strKV] at h
  | (.inr _, .bl _) :: _, _, _, _, h => by simp [strKV] at h
  | (.inr _, .int _) :: _, _, _, _, h => by simp [strKV] at h
  | (.inr _, .tup _) :: _, _, _, _, h => by simp [strKV] at h
  | (.inr _, .lst _) :: _, _, _, _, h => by simp [strKV] at h
  | (.inr _, .dct _) :: _, _, _, _, h => by simp [strKV] at h
  | (.inr _, .ins _ _) :: _, _, _, _, h => by simp [strKV] at h
  | (.inr _, .obj _) :: _, _, _, _, h => by simp [strKV] at h
theorem strKV_map {Q : List Nat × List Nat → Prop} {k v : List Nat} (hq : Q (k, v)) : ∀ {kvs : List (DK × W)} {ps : List (List Nat × List Nat)}, strKV kvs = some ps → (∀ p ∈ ps, Q p) →
    ∃ qs, strKV (kvs.map fun kv => if kv.1 = .inr k then (.inr k, .str v) else kv) = some qs ∧ (∀ p ∈ qs, Q p) ∧ qs.length = ps.length
  | [], _, h, _ => by simp [strKV] at h; subst h; exact ⟨[], rfl, fun p hp => (by cases hp), rfl⟩
  | (.inr a, .str b) :: r, ps, h, hp => by
    simp only [strKV, Option.map_eq_some_iff] at h
    obtain ⟨qs, h1, rfl⟩ := h
    obtain ⟨us, h2, h3, h4⟩ := strKV_map hq h1 fun p hpm => hp p (List.mem_cons_of_mem _ hpm)
    rw [List.map_cons]
    by_cases e : (.inr a : DK) = .inr k
    · rw [if_pos e]
      refine ⟨(k, v) :: us, ?_, fun p hpm => ?_, by simp [h4]⟩
      · show (strKV _).map _ = _
        rw [h2]; rfl
      · rcases List.mem_cons.mp hpm with rfl | hpm
        · exact hq
        · exact h3 p hpm
    · rw [if_neg e]
      refine ⟨(a, b) :: us, ?_, fun p hpm => ?_, by simp [h4]⟩
      · show (strKV _).map _ = _
        rw [h2]; rfl
      · rcases List.mem_cons.mp hpm with rfl | hpm
        · exact hp _ List.mem_cons_self
        · exact h3 p hpm
  | (.inl _, _) :: _, _, h, _ => by simp [strKV] at h
  | (.inr _, .non) :: _, _, h, _ => by simp [strKV] at h
  | (.inr _, .bl _) :: _, _, h, _ => by simp [strKV] at h
  | (.inr _, .int _) :: _, _, h, _ => by simp [strKV] at h
  | (.inr _, .tup _) :: _, _, h, _ => by simp [strKV] at h
  | (.inr _, .lst _) :: _, _, h, _ => by simp [strKV] at h
  | (.inr _, .dct _) :: _, _, h, _ => by simp [strKV] at h
  | (.inr _, .ins _ _) :: _, _, h, _ => by simp [strKV] at h
  | (.inr _, .obj _) :: _, _, h, _ => by simp [strKV] at h
theorem BkD.put {n : Nat} {kvs : List (DK × W)} {k v : List Nat} (h : BkD n kvs) (hk : TT k) (hv : Sp 5 v) : BkD (n + 1) (putK' kvs (.inr k) (.str v)) := by
  obtain ⟨ps, h1, h2, h3⟩ := h
  unfold putK'
  split
  · obtain ⟨qs, q1, q2, q3⟩ := strKV_map (Q := fun p => TT p.1 ∧ Sp 5 p.2) (k := k) (v := v) ⟨hk, hv⟩ h1 h2
    exact ⟨qs, q1, q2, by omega⟩
  · refine ⟨ps ++ [(k, v)], strKV_app h1, fun p hp => ?_, by simp; omega⟩
    rcases List.mem_append.mp hp with hp | hp
    · exact h2 p hp
    · rw [List.mem_singleton.mp hp]; exact ⟨hk, hv⟩
end K02
/-! k02: drawn books and bent ones. -/
namespace K02
open MP PySem
theorem Sp.mono {a b : Nat} {t : List Nat} (h : Sp a t) (hab : a ≤ b) : Sp b t := ⟨h.1, by have := h.2.1; omega, by have := h.2.2; omega⟩
structure EnI (sc : W) (i : Nat) (ρ : MP.Loc) (φ : Sto) : Prop where
  f : Feed φ
  r : ∃ (kvs : List (DK × W)) (s : Sl), ρ = [.val (.obj 0), .val sc, .own (.dct kvs), s] ∧ BkD i kvs
theorem five_draw {e : Nat} (he : 2 ≤ e) (φ : Sto) (hF : Feed φ) : ∃ n φ', P.call e 9 [.obj 0, .lst [.int 1, .int 1, .int 2, .int 3, .int 5]] φ = .ok (.int (n : Nat)) φ' ∧ 1 ≤ n ∧ n ≤ 5 ∧ Feed φ' := by
  obtain ⟨v, φ1, e1, hv, hF1⟩ := pick_lst (e := e) he φ [.int 1, .int 1, .int 2, .int 3, .int 5] hF (by decide) (by decide)
  simp only [List.mem_cons, List.not_mem_nil, or_false] at hv
  rcases hv with rfl | rfl | rfl | rfl | rfl
  · exact ⟨1, φ1, e1, by decide, by decide, hF1⟩
  · exact ⟨1, φ1, e1, by decide, by decide, hF1⟩
  · exact ⟨2, φ1, e1, by decide, by decide, hF1⟩
  · exact ⟨3, φ1, e1, by decide, by decide, hF1⟩
  · exact ⟨5, φ1, e1, by decide, by decide, hF1⟩
theorem entry_dq {p : List Nat × List Nat} (h1 : TT p.1) (h2 : Sp 5 p.2) (x : Nat) : DQ x 1 85 (.tup [.str p.1, .str p.2]) := by
  refine mk_tup (m := 0) (fun w hw => ?_) (by simp only [List.length_cons, List.length_nil]; omega) ?_
  · simp only [List.mem_cons, List.not_mem_nil, or_false] at hw
    rcases hw with rfl | rfl
    · exact TT_dq h1 _ _
    · exact Sp_dq h2 (by decide)
  · have a := h1.2.1
    have b := h2.2.1
    simp only [nds, nd]
    omega
theorem nds_le {ws : List W} {N : Nat} (h : ∀ w ∈ ws, nd w ≤ N) : nds ws ≤ N * ws.length := by
  induction ws with
  | nil => simp [nds]
  | cons w r ih =>
    have := ih fun v hv => h v (List.mem_cons_of_mem _ hv)
    have := h w List.mem_cons_self
    simp only [nds, List.length_cons, Nat.mul_add, Nat.mul_one]
    omega
theorem entries_draw {e : Nat} (he : 10 ≤ e) (φ : Sto) (m : Nat) (hm : m ≤ 40) (hF : Feed φ) : ∃ ws φ', P.call e 18 [.obj 0, .int m] φ = .ok (.tup ws) φ' ∧ DQ 31 2 3500 (.tup ws) ∧ ws.length ≤ 40 ∧ Feed φ' := by
  obtain ⟨d, rfl⟩ : ∃ d, e = d + 1 := ⟨e - 1, by omega⟩
  rw [call_eq (fn := ⟨2, 4, false, b__law_entries⟩) rfl rfl]
  show ∃ ws φ', (evalS P.gv P.fr (P.call d) b__law_entries [.val (.obj 0), .val (.int m), .none, .none] φ).out false = _ ∧ _
  unfold b__law_entries
  rw [q_setO (w := .dct []) rfl rfl rfl]
  simp only [List.set_cons_succ, List.set_cons_zero]
  obtain ⟨ρ1, φ1, e1, hF1, kvs, s, rfl, ps, hp1, hp2, hp3⟩ := floop_inv (b := fun w ρ φ => evalS P.gv P.fr (P.call d) (.cons (.sdown 2 (.call 10 (.cons (.var 0) .nil)) (.call 12 (.cons (.call 11 (.cons (.var 0) (.cons (.call 9 (.cons (.var 0) (.cons (.lst (.cons (.int 1) (.cons (.int 1) (.cons (.int 2) (.cons (.int 3) (.cons (.int 5) .nil)))))) .nil))) .nil))) .nil))) .nil) (ρ.set 3 (.val w)) φ)
    (fun i ρ φ => EnI (.int m) i ρ φ) (upto 0 m) 0 [.val (.obj 0), .val (.int m), .own (.dct []), .none] φ ⟨hF, [], .none, rfl, [], rfl, fun p hp => (by cases hp), Nat.le_refl _⟩ (by
    rintro i w ρ φ _ hw ⟨hF, kvs, s, rfl, hb⟩
    have hi : i < m := by
      have := (List.getElem?_eq_some_iff.mp hw).1
      rw [upto_len] at this
      omega
    simp only [List.set_cons_succ, List.set_cons_zero]
    obtain ⟨n, φ1, e1, n1, n5, hF1⟩ := five_draw (e := d) (by omega) φ hF
    obtain ⟨t, φ2, e2, ht, hF2⟩ := tree_draw n d (by omega) n1 (by omega) φ1 hF1
    obtain ⟨k, e3, hk⟩ := spelled_spec n t d φ2 ht (by omega) (by omega)
    obtain ⟨tt, φ3, e4, htt, hF3⟩ := title_draw (e := d) (by omega) φ2 hF2
    obtain ⟨ps, hp1, hp2, hp3⟩ := hb
    have hkl := strKV_len hp1
    refine ⟨_, φ3, .inl (q_down (kvs := kvs) (l := .inr tt) rfl (r_call (rs_cons (r_call (rs_cons (r_var rfl) (rs_cons (r_call (rs_cons (r_var rfl) (rs_cons (r_const rfl) rs_nil)) e1) rs_nil)) e2) rs_nil) e3) (r_call (rs_cons (r_var rfl) rs_nil) e4) rfl (by omega)), hF3, putK' kvs (.inr tt) (.str k), .val w, rfl, BkD.put ⟨ps, hp1, hp2, hp3⟩ htt (Sp.mono hk n5)⟩)
  rw [q_for (is := upto 0 m) (r_rng1 (r_var rfl) (by rw [rng1_of (by omega) (by omega), Int.toNat_natCast])) rfl e1]
  rw [upto_len] at hp3
  obtain ⟨zs, hzs⟩ : ∃ zs, zs = (sortP ps).map (fun p : List Nat × List Nat => W.tup [.str p.1, .str p.2]) := ⟨_, rfl⟩
  rw [q_ret (w := .tup zs) (r_blt (u := .lst zs) (by rw [hzs]; exact r_sortI (kvs := kvs) rfl hp1) rfl)]
  have perm := sortP_perm ps
  have hl : zs.length ≤ 40 := by rw [hzs, List.length_map, perm.length_eq]; omega
  have all2 : ∀ w ∈ zs, DQ 31 1 85 w := fun w hw => by
    rw [hzs] at hw
    obtain ⟨p, hp, rfl⟩ := List.mem_map.mp hw
    have := hp2 p (perm.mem_iff.mp hp)
    exact entry_dq this.1 this.2 31
  have n2 := nds_le fun w hw => (all2 w hw).2
  have n3 : 85 * zs.length ≤ 85 * 40 := Nat.mul_le_mul (Nat.le_refl _) hl
  exact ⟨_, φ1, rfl, mk_tup (m := 1) (fun w hw => (all2 w hw).1) (by omega) (by omega), hl, hF1⟩
/-- a book bent -/
theorem bad_draw {e x n N : Nat} {ws : List W} {φ : Sto} (he : n + 8 ≤ e) (hx : x ≤ 49) (hw : DQ x (n + 1) N (.tup ws)) (hN : 10 ≤ N) (hF : Feed φ) : SpQ x (n + 1) N (P.call e 21 [.obj 0, .tup ws] φ) := by
  obtain ⟨d, rfl⟩ : ∃ d, e = d + 1 := ⟨e - 1, by omega⟩
  rw [call_eq (fn := ⟨2, 4, false, b__law_bad⟩) rfl rfl]
  show SpQ x (n + 1) N ((evalS P.gv P.fr (P.call d) b__law_bad [.val (.obj 0), .val (.tup ws), .none, .none] φ).out false)
  unfold b__law_bad
  obtain ⟨m, em, hl, hm⟩ := dq_tup hw.1
  cases em
  have hm' := dqs_mem.mp hm
  have hn := hw.2
  rw [nd_tup] at hn
  obtain ⟨i, φ1, e1, d1, d2, hF1⟩ := draw_at (e := d) (by omega) φ (ws.length + 1) hF (by omega) (by omega)
  obtain ⟨k, rfl⟩ : ∃ k : Nat, i = k := ⟨i.toNat, by omega⟩
  have hk : k ≤ ws.length := by omega
  obtain ⟨r, φ2, e2, r1, r2, hF2⟩ := draw_at (e := d) (by omega) φ1 6 hF1 (by decide) (by decide)
  rw [q_par (ws := [.int k, .int r]) (ρ' := [.val (.obj 0), .val (.tup ws), .val (.int k), .val (.int r)]) (rs_cons (r_call (rs_cons (r_var rfl) (rs_cons (r_bin (r_blt (r_var rfl) (len_tup _)) r_int (add_int _ _)) rs_nil)) e1) (rs_cons (r_call (rs_cons (r_var rfl) (rs_cons r_int rs_nil)) e2) rs_nil)) rfl]
  have q : ∀ (j : Int) (φ : Sto), evalE P.gv (P.call d) (.cmp .eq (.var 3) (.int j)) [.val (.obj 0), .val (.tup ws), .val (.int k), .val (.int r)] φ = .ok (.bl (decide (r = j))) φ := fun j φ => r_cmp (r_var rfl) r_int (eq_int _ _)
  have sT : ∀ φ : Sto, evalE P.gv (P.call d) (.slc (.var 1) .nil (.var 2)) [.val (.obj 0), .val (.tup ws), .val (.int k), .val (.int r)] φ = .ok (.tup (ws.take k)) φ := fun φ => r_slc01 (n := k) (r_var rfl) rfl (r_var rfl) (by rw [← cut_to]; rfl)
  have sD : ∀ φ : Sto, evalE P.gv (P.call d) (.slc (.var 1) (.var 2) .nil) [.val (.obj 0), .val (.tup ws), .val (.int k), .val (.int r)] φ = .ok (.tup (ws.drop k)) φ := fun φ => r_slc10 (n := k) (r_var rfl) rfl (r_var rfl) (by rw [← cut_fr]; rfl)
  have inT : ∀ w ∈ ws.take k, dq (x + 1) (n + 4) w = true := fun w h => dq_mono (by omega) n _ w (by omega) (hm' w (List.mem_of_mem_take h))
  have inD : ∀ w ∈ ws.drop k, dq (x + 1) (n + 4) w = true := fun w h => dq_mono (by omega) n _ w (by omega) (hm' w (List.mem_of_mem_drop h))
  have lT : (ws.take k).length = k := by rw [List.length_take, Nat.min_eq_left hk]
  have lD : (ws.drop k).length = ws.length - k := List.length_drop
  have nTD := nds_td ws k
  -- one put in between
  have mid : ∀ (v : W) (φ3 : Sto) (e rest : T), evalE P.gv (P.call d) e [.val (.obj 0), .val (.tup ws), .val (.int k), .val (.int r)] φ2 = .ok v φ3 → dq (x + 1) (n + 4) v = true → nd v ≤ N + 300 → Feed φ3 →
      ∃ u φ4, evalS P.gv P.fr (P.call d) (.cons (.sret (.bin .add (.bin .add (.slc (.var 1) .nil (.var 2)) (.tup (.cons e .nil))) (.slc (.var 1) (.var 2) .nil))) rest) [.val (.obj 0), .val (.tup ws), .val (.int k), .val (.int r)] φ2 = .rt u φ4 ∧ DQ (x + 1) (n + 1 + 4) (2 * N + 400) u ∧ Feed φ4 := fun v φ3 e rest ev hv hnv hF3 => by
    refine ⟨_, φ3, q_ret (r_bin (r_bin (sT φ2) (r_tup (rs_cons ev rs_nil)) (add_tup (by rw [lT, List.length_singleton]; omega))) (sD φ3) (add_tup (by rw [List.length_append, lT, lD, List.length_singleton]; omega))), mk_tup (m := n + 4) (fun w h => ?_) ?_ ?_, hF3⟩
    · rcases List.mem_append.mp h with h | h
      · rcases List.mem_append.mp h with h | h
        · exact inT w h
        · rw [List.mem_singleton.mp h]; exact hv
      · exact inD w h
    · rw [List.length_append, List.length_append, lT, lD, List.length_singleton]; omega
    · rw [nds_app, nds_app]
      show nds (ws.take k) + (nd v + 0) + nds (ws.drop k) + 1 ≤ _
      omega
  have done : ∀ {t a k2 : T} {φ3 : Sto}, evalE P.gv (P.call d) t [.val (.obj 0), .val (.tup ws), .val (.int k), .val (.int r)] φ2 = .ok (.bl true) φ2 →
      (∃ u φ4, evalS P.gv P.fr (P.call d) a [.val (.obj 0), .val (.tup ws), .val (.int k), .val (.int r)] φ2 = .rt u φ4 ∧ DQ (x + 1) (n + 1 + 4) (2 * N + 400) u ∧ Feed φ4) →
      SpQ x (n + 1) N ((evalS P.gv P.fr (P.call d) (.cons (.sif t a .nil) k2) [.val (.obj 0), .val (.tup ws), .val (.int k), .val (.int r)] φ2).out false) := fun ht ⟨u, φ4, ea, hu⟩ => by
    rw [q_if_t ht rfl, ea]
    exact ⟨u, φ4, rfl, hu⟩
  have qt : ∀ j : Int, r = j → evalE P.gv (P.call d) (.cmp .eq (.var 3) (.int j)) [.val (.obj 0), .val (.tup ws), .val (.int k), .val (.int r)] φ2 = .ok (.bl true) φ2 := fun j h => by rw [q j φ2, show decide (r = j) = true by simp [h]]
  have qf : ∀ j : Int, r ≠ j → evalE P.gv (P.call d) (.cmp .eq (.var 3) (.int j)) [.val (.obj 0), .val (.tup ws), .val (.int k), .val (.int r)] φ2 = .ok (.bl false) φ2 := fun j h => by rw [q j φ2, show decide (r = j) = false by simp [h]]
  by_cases r0 : r = 0
  · obtain ⟨v, φ3, e3, hv, hF3⟩ := strange_draw (e := d) (by omega) φ2 hF2
    exact done (φ3 := φ3) (qt 0 r0) (mid v φ3 _ _ (r_call (rs_cons (r_var rfl) rs_nil) e3) (dq_mono (by omega) 4 _ v (by omega) hv.1) (by have := hv.2; omega) hF3)
  rw [q_skip (qf 0 r0) rfl]
  have c0 : evalE P.gv (P.call d) (.cmp .gt (.blt .len (.var 1)) (.int 0)) [.val (.obj 0), .val (.tup ws), .val (.int k), .val (.int r)] φ2 = .ok (.bl (decide ((0 : Int) < ws.length))) φ2 := r_cmp (r_blt (r_var rfl) (len_tup _)) r_int (gt_int _ _)
  by_cases r1' : r = 1 ∧ 0 < ws.length
  · obtain ⟨v, φ3, e3, hv, hF3⟩ := pick_seq (e := d) (by omega) φ2 (.tup ws) ws.length (fun v => v ∈ ws) hF2 r1'.2 (by omega) (len_tup _) (fun i hi hi2 => by
      obtain ⟨v, h1, h2⟩ := ixW_lt (xs := ws) hi (by omega)
      exact ⟨v, h1, h2⟩)
    have hnv : nd v ≤ nds ws := by
      obtain ⟨j, hj⟩ := List.mem_iff_getElem?.mp hv
      have a := nds_d hj
      have b := nds_td ws j
      omega
    rw [show decide ((0 : Int) < ws.length) = true by simp [r1'.2]] at c0
    exact done (φ3 := φ3) (r_and (r_and_t (qt 1 r1'.1) rfl (r_and1 c0))) (mid v φ3 _ _ (r_call (rs_cons (r_var rfl) (rs_cons (r_var rfl) rs_nil)) e3) (dq_mono (by omega) n _ v (by omega) (hm' v hv)) (by omega) hF3)
  have c1 : evalE P.gv (P.call d) (.andN (.cons (.cmp .eq (.var 3) (.int 1)) (.cons (.cmp .gt (.blt .len (.var 1)) (.int 0)) .nil))) [.val (.obj 0), .val (.tup ws), .val (.int k), .val (.int r)] φ2 = .ok (.bl false) φ2 := by
    by_cases h : r = 1
    · have h0 : ¬ 0 < ws.length := fun z => r1' ⟨h, z⟩
      rw [show decide ((0 : Int) < ws.length) = false by simp only [decide_eq_false_iff_not]; omega] at c0
      exact r_and (r_and_t (qt 1 h) rfl (r_and1 c0))
    · exact r_and (r_and_f (qf 1 h) rfl)
  rw [q_skip c1 rfl]
  by_cases r2' : r = 2
  · refine done (φ3 := φ2) (qt 2 r2') ⟨_, φ2, q_ret (r_bin (sD φ2) (sT φ2) (add_tup (by rw [lT, lD]; omega))), mk_tup (m := n + 4) (fun w h => (List.mem_append.mp h).elim (inD w) (inT w)) (by rw [List.length_append, lT, lD]; omega) (by rw [nds_app]; omega), hF2⟩
  rw [q_skip (qf 2 r2') rfl]
  by_cases r3 : r = 3
  · obtain ⟨tt, φ3, e3, ht, hF3⟩ := title_draw (e := d) (by omega) φ2 hF2
    have hd : DQ (x + 1) (n + 4) 13 (.tup [.str tt, .str [112]]) := by
      refine mk_tup (m := n + 3) (fun w hw => ?_) (by simp only [List.length_cons, List.length_nil]; omega) ?_
      · simp only [List.mem_cons, List.not_mem_nil, or_false] at hw
        rcases hw with rfl | rfl
        · exact TT_dq ht _ _
        · exact TT_dq ⟨by decide, by decide, by decide⟩ _ _
      · have := ht.2.1
        simp only [nds, nd, List.length_cons, List.length_nil]; omega
    exact done (φ3 := φ3) (qt 3 r3) (mid _ φ3 _ _ (r_tup (rs_cons (r_call (rs_cons (r_var rfl) rs_nil) e3) (rs_cons r_str rs_nil))) hd.1 (by have := hd.2; omega) hF3)
  rw [q_skip (qf 3 r3) rfl]
  by_cases r4 : r = 4
  · rw [q_ret (r_ife_t (qt 4 r4) rfl (r_revT (r_var rfl)))]
    refine ⟨_, φ2, rfl, mk_tup (m := n + 4) (fun w h => dq_mono (by omega) n _ w (by omega) (hm' w (List.mem_reverse.mp h))) (by rw [List.length_reverse]; omega) ?_, hF2⟩
    have hr : ∀ us : List W, nds us.reverse = nds us := fun us => by
      induction us with
      | nil => rfl
      | cons u us ih => rw [List.reverse_cons, nds_app, ih]; simp only [nds]; omega
    rw [hr]; omega
  · obtain ⟨v, φ3, e3, hv, hF3⟩ := spoilt_draw (n + 1) (.tup ws) d φ2 x N hw (by omega) (by omega) hF2
    rw [q_ret (r_ife_f (qf 4 r4) rfl (r_call (rs_cons (r_var rfl) (rs_cons (r_var rfl) rs_nil)) e3))]
    exact ⟨v, φ3, rfl, hv, hF3⟩
end K02
/-! k02: the law. -/
namespace K02
open MP PySem
mutual
theorem wsz_nd : ∀ w : W, wsz w = nd w
  | .tup ws => by simp only [wsz, nd, wszs_nds ws]
  | .lst ws => by simp only [wsz, nd, wszs_nds ws]
  | .non => by simp [wsz, nd]
  | .bl _ => by simp [wsz, nd]
  | .int _ => by simp [wsz, nd]
  | .str _ => by simp [wsz, nd]
  | .dct _ => by simp [wsz, nd]
  | .ins _ _ => by simp [wsz, nd]
  | .obj _ => by simp [wsz, nd]
theorem wszs_nds : ∀ ws : List W, wszs ws = nds ws
  | [] => by simp [wszs, nds]
  | w :: ws => by simp only [wszs, nds, wsz_nd w, wszs_nds ws]
end
theorem dq_lf {x : Nat} : ∀ (n : Nat) (w : W), dq x n w = true → lfOk w = true := by
  intro n
  induction n with
  | zero =>
    intro w h
    cases w with
    | str s =>
      have : sq x s = true := by simpa [dq] using h
      unfold sq good at this
      simp only [Bool.and_eq_true] at this
      simpa [lfOk] using this.1.1
    | non => rfl
    | bl _ => rfl
    | int i => simpa [dq, lfOk] using h
    | tup => simp [dq] at h
    | lst => simp [dq] at h
    | dct => simp [dq] at h
    | ins => simp [dq] at h
    | obj => simp [dq] at h
  | succ n ih =>
    intro w h
    have sub : ∀ ws : List W, dqs x n ws = true → lfOks ws = true := by
      intro ws
      induction ws with
      | nil => intro _; rfl
      | cons a r ihr =>
        intro h
        have h' := dqs_mem.mp h
        show (lfOk a && lfOks r) = true
        rw [ih a (h' a List.mem_cons_self), ihr (dqs_mem.mpr fun w hw => h' w (List.mem_cons_of_mem _ hw))]; rfl
    cases w with
    | str s =>
      have : sq x s = true := by simpa [dq] using h
      unfold sq good at this
      simp only [Bool.and_eq_true] at this
      simpa [lfOk] using this.1.1
    | non => rfl
    | bl _ => rfl
    | int i => simpa [dq, lfOk] using h
    | tup ws =>
      obtain ⟨_, e, _, hs⟩ := dq_tup h
      cases e
      simpa [lfOk] using sub ws hs
    | lst ws =>
      obtain ⟨_, e, _, hs⟩ := dq_lst h
      cases e
      simpa [lfOk] using sub ws hs
    | dct => simp [dq] at h
    | ins => simp [dq] at h
    | obj => simp [dq] at h
def Good (w : W) : Prop := DQ 33 14 20000 w
theorem Good.dt {w : W} (h : Good w) : dt 14 w = true := dq_dt (by decide) 14 w h.1
theorem Good.repr {w : W} (h : Good w) : ∃ s, opBlt .repr w = some (.str s) ∧ good s = true :=
  repr_told (dt_ok h.dt (by decide)) (dq_lf _ _ h.1) (by rw [wsz_nd]; have := h.2; omega)
structure It (sc : W) (len : Nat) (ρ : MP.Loc) (φ : Sto) : Prop where
  f : Feed φ
  r : ∃ (ws : List W) (s3 s4 s5 s6 s7 s8 : Sl), ρ = [.val sc, .val (.obj 0), .own (.lst ws), s3, s4, s5, s6, s7, s8] ∧ (∀ w ∈ ws, Good w) ∧ ws.length ≤ len
theorem ne_self {s : List Nat} (h : good s = true) : opCmp .ne (.str s) (.str s) = some false := by
  show (if (W.str s).okD 62 && (W.str s).okD 62 then some (!eqW (.str s) (.str s)) else none) = _
  have h1 : (W.str s).okD 62 = true := h
  have e := eq_str s s h h
  have e' : (if (W.str s).okD 62 && (W.str s).okD 62 then some (eqW (.str s) (.str s)) else none) = some (decide (s = s)) := e
  rw [h1] at e' ⊢
  simp only [Bool.and_self, if_true, Option.some.injEq, decide_true] at e' ⊢
  rw [e']; rfl
def lapT : T := match b_law with | .cons _ (.cons _ (.cons _ (.cons (.sfor _ _ b) _))) => b | _ => .nil
def trnT : T := match lapT with | .cons _ (.cons _ (.cons (.sfor _ _ b) _)) => b | _ => .nil
def chkT : T := match b_law with | .cons _ (.cons _ (.cons _ (.cons _ (.cons _ (.cons (.sfor _ _ b) _))))) => b | _ => .nil
def X1 : T := match b_law with | .cons _ (.cons (.sset _ (.bin _ _ e)) _) => e | _ => .nil
def X2 : T := match b_law with | .cons _ (.cons _ (.cons (.sext _ e) _)) => e | _ => .nil
theorem b_law_is : b_law = .cons (.sset 1 (.call 7 (.cons (.var 0) .nil))) (.cons (.sset 2 (.bin .add (.comp 3 (.rng1 (.int 8)) .nil (.call 16 (.cons (.var 1) .nil))) X1)) (.cons (.sext 2 X2) (.cons (.sfor 3 (.rng1 (.int 4)) lapT)
  (.cons (.sfrz 2) (.cons (.sfor 4 (.var 2) chkT) (.cons (.sret (.cmp .eq (.callk 6 [0] (.cons (.tup (.cons (.tup (.cons (.str [97]) (.cons (.str [112]) .nil))) .nil)) .nil)) (.int 1))) .nil)))))) := rfl
theorem kx1 : constE X1 = some (.lst (lsts (constE X1))) := isLs_eq (by decide +kernel)
theorem kx2 : constE X2 = some (.lst (lsts (constE X2))) := isLs_eq (by decide +kernel)
theorem x_all : (lsts (constE X1) ++ lsts (constE X2)).all (fun w => dq 0 4 w && decide (nd w ≤ 600)) = true := by decide +kernel
theorem x_len : (lsts (constE X1)).length + (lsts (constE X2)).length ≤ 20 := by decide +kernel
theorem x_good {w : W} (h : w ∈ lsts (constE X1) ∨ w ∈ lsts (constE X2)) : Good w := by
  have := List.all_eq_true.mp x_all w (List.mem_append.mpr h)
  rw [Bool.and_eq_true, decide_eq_true_eq] at this
  exact (show DQ 0 4 600 w from this).mono (by decide) (by decide) (by decide)
theorem turn1 {d : Nat} (hd : 60 ≤ d) {sc : W} {len : Nat} (hlen : len + 2 ≤ 1000) {gs : List W} (hg : DQ 31 2 3500 (.tup gs)) {ws : List W} {s3 s4 s6 s7 s8 : Sl} {φ : Sto} (hw : ∀ w ∈ ws, Good w) (hl : ws.length ≤ len) (hF : Feed φ) :
    ∃ vs s8' φ', evalS P.gv P.fr (P.call d) trnT [.val sc, .val (.obj 0), .own (.lst ws), s3, s4, .val (.tup gs), s6, s7, s8] φ = .nx [.val sc, .val (.obj 0), .own (.lst (ws ++ vs)), s3, s4, .val (.tup gs), s6, s7, s8'] φ' ∧
      (∀ w ∈ vs, Good w) ∧ vs.length = 2 ∧ Feed φ' := by
  obtain ⟨v, φ1, e1, hv, hF1⟩ := bad_draw (e := d) (n := 1) (by omega) (by decide) hg (by decide) hF
  unfold trnT lapT b_law
  dsimp only
  rw [q_set (r_call (rs_cons (r_var rfl) (rs_cons (r_var rfl) rs_nil)) e1) rfl]
  simp only [List.set_cons_succ, List.set_cons_zero]
  rw [q_app (ws := ws) rfl (r_var rfl) (by omega)]
  simp only [List.set_cons_succ, List.set_cons_zero]
  obtain ⟨b, hb, hb1, hb2⟩ := isTup_of hv.1
  have hl1 : (ws ++ [v]).length < 1000000 := by rw [List.length_append, List.length_singleton]; omega
  have ct : evalE P.gv (P.call d) (.isi (.var 8) .tuple) [.val sc, .val (.obj 0), .own (.lst (ws ++ [v])), s3, s4, .val (.tup gs), s6, s7, .val v] φ1 = .ok (.bl b) φ1 := r_isi (r_var rfl) hb
  have g1 : Good v := hv.mono (by decide) (by decide) (by decide)
  cases b with
  | true =>
    obtain ⟨us, rfl⟩ := hb1 rfl
    obtain ⟨v2, φ2, e2, hv2, hF2⟩ := bad_draw (e := d) (n := 5) (by omega) (by decide) hv (by decide) hF1
    rw [q_app (ws := ws ++ [.tup us]) rfl (r_ife_t ct rfl (r_call (rs_cons (r_var rfl) (rs_cons (r_var rfl) rs_nil)) e2)) hl1]
    refine ⟨[.tup us, v2], .val (.tup us), φ2, ?_, fun w h => ?_, rfl, hF2⟩
    · simp only [List.set_cons_succ, List.set_cons_zero, List.append_assoc, List.cons_append, List.nil_append]; rfl
    · simp only [List.mem_cons, List.not_mem_nil, or_false] at h
      rcases h with rfl | rfl
      · exact g1
      · exact hv2.mono (by decide) (by decide) (by decide)
  | false =>
    rw [q_app (ws := ws ++ [v]) rfl (r_ife_f ct rfl (r_var rfl)) hl1]
    refine ⟨[v, v], .val v, φ1, ?_, fun w h => ?_, rfl, hF1⟩
    · simp only [List.set_cons_succ, List.set_cons_zero, List.append_assoc, List.cons_append, List.nil_append]; rfl
    · simp only [List.mem_cons, List.not_mem_nil, or_false, or_self] at h
      rw [h]; exact g1
structure It2 (sc : W) (gs : List W) (s3 s4 s7 : Sl) (len : Nat) (ρ : MP.Loc) (φ : Sto) : Prop where
  f : Feed φ
  r : ∃ (ws : List W) (s6 s8 : Sl), ρ = [.val sc, .val (.obj 0), .own (.lst ws), s3, s4, .val (.tup gs), s6, s7, s8] ∧ (∀ w ∈ ws, Good w) ∧ ws.length ≤ len
theorem lap1 {d : Nat} (hd : 60 ≤ d) {sc : W} {len : Nat} (hlen : len + 15 ≤ 1000) {ρ : MP.Loc} {φ : Sto} (w : W) (hI : It sc len ρ φ) :
    ∃ ρ' φ', evalS P.gv P.fr (P.call d) lapT (ρ.set 3 (.val w)) φ = .nx ρ' φ' ∧ It sc (len + 15) ρ' φ' := by
  obtain ⟨hF, ws, s3, s4, s5, s6, s7, s8, rfl, hg, hl⟩ := hI
  simp only [List.set_cons_succ, List.set_cons_zero]
  obtain ⟨v, φ1, e1, hv, hF1⟩ := pick_lst (e := d) (by omega) φ [.int 0, .int 2, .int 4, .int 8, .int 40] hF (by decide) (by decide)
  obtain ⟨m, rfl, hm⟩ : ∃ m : Nat, v = .int m ∧ m ≤ 40 := by
    simp only [List.mem_cons, List.not_mem_nil, or_false] at hv
    rcases hv with rfl | rfl | rfl | rfl | rfl
    · exact ⟨0, rfl, by decide⟩
    · exact ⟨2, rfl, by decide⟩
    · exact ⟨4, rfl, by decide⟩
    · exact ⟨8, rfl, by decide⟩
    · exact ⟨40, rfl, by decide⟩
  obtain ⟨gs, φ2, e2, hgs, hgl, hF2⟩ := entries_draw (e := d) (by omega) φ1 m hm hF1
  obtain ⟨_, em, _, hgm⟩ := dq_tup hgs.1
  cases em
  have hgm' := dqs_mem.mp hgm
  have hgn := hgs.2
  rw [nd_tup] at hgn
  unfold lapT b_law
  dsimp only
  rw [q_set (r_call (rs_cons (r_var rfl) (rs_cons (r_call (rs_cons (r_var rfl) (rs_cons (r_const rfl) rs_nil)) e1) rs_nil)) e2) rfl]
  simp only [List.set_cons_succ, List.set_cons_zero]
  have v5 : evalE P.gv (P.call d) (.var 5) [.val sc, .val (.obj 0), .own (.lst ws), .val w, s4, .val (.tup gs), s6, s7, s8] φ2 = .ok (.tup gs) φ2 := r_var rfl
  have sl : evalE P.gv (P.call d) (.slc (.var 5) .nil (.int 1)) [.val sc, .val (.obj 0), .own (.lst ws), .val w, s4, .val (.tup gs), s6, s7, s8] φ2 = .ok (.tup (gs.take 1)) φ2 := r_slc01 (n := ((1 : Nat) : Int)) v5 rfl r_int (by rw [← cut_to]; rfl)
  have l1 : (gs.take 1).length ≤ 1 := by rw [List.length_take]; omega
  have n1 : nds (gs.take 1) ≤ nds gs := by have := nds_td gs 1; omega
  rw [q_ext (ws := ws) (us := [.tup gs, .lst gs, .tup gs.reverse, .tup (gs ++ gs.take 1), .tup (gs.take 1 ++ gs)]) rfl
    (r_lst (rs_cons v5 (rs_cons (r_blt v5 rfl) (rs_cons (r_revT v5) (rs_cons (r_bin v5 sl (add_tup (by omega))) (rs_cons (r_bin sl v5 (add_tup (by omega))) rs_nil)))))) (by simp only [List.length_cons, List.length_nil]; omega)]
  simp only [List.set_cons_succ, List.set_cons_zero]
  have hr : ∀ us : List W, nds us.reverse = nds us := fun us => by
    induction us with
    | nil => rfl
    | cons u us ih => rw [List.reverse_cons, nds_app, ih]; simp only [nds]; omega
  have hd1 : ∀ w ∈ gs.take 1, dq 31 1 w = true := fun w h => hgm' w (List.mem_of_mem_take h)
  have hg5 : ∀ y ∈ ([.tup gs, .lst gs, .tup gs.reverse, .tup (gs ++ gs.take 1), .tup (gs.take 1 ++ gs)] : List W), Good y := fun y h => by
    simp only [List.mem_cons, List.not_mem_nil, or_false] at h
    rcases h with rfl | rfl | rfl | rfl | rfl
    · exact hgs.mono (by decide) (by decide) (by decide)
    · exact (mk_lst (x := 31) (m := 1) (N := 3500) hgm' (by omega) (by omega)).mono (by decide) (by decide) (by decide)
    · exact (mk_tup (x := 31) (m := 1) (N := 3500) (fun w h => hgm' w (List.mem_reverse.mp h)) (by rw [List.length_reverse]; omega) (by rw [hr]; omega)).mono (by decide) (by decide) (by decide)
    · exact (mk_tup (x := 31) (m := 1) (N := 7000) (fun w h => (List.mem_append.mp h).elim (hgm' w) (hd1 w)) (by rw [List.length_append]; omega) (by rw [nds_app]; omega)).mono (by decide) (by decide) (by decide)
    · exact (mk_tup (x := 31) (m := 1) (N := 7000) (fun w h => (List.mem_append.mp h).elim (hd1 w) (hgm' w)) (by rw [List.length_append]; omega) (by rw [nds_app]; omega)).mono (by decide) (by decide) (by decide)
  have hall : ∀ y ∈ ws ++ [W.tup gs, .lst gs, .tup gs.reverse, .tup (gs ++ gs.take 1), .tup (gs.take 1 ++ gs)], Good y := fun y h => (List.mem_append.mp h).elim (hg y) (hg5 y)
  have hlen5 : (ws ++ [W.tup gs, .lst gs, .tup gs.reverse, .tup (gs ++ gs.take 1), .tup (gs.take 1 ++ gs)]).length ≤ len + 5 := by
    rw [List.length_append]; simp only [List.length_cons, List.length_nil]; omega
  generalize ws ++ [W.tup gs, .lst gs, .tup gs.reverse, .tup (gs ++ gs.take 1), .tup (gs.take 1 ++ gs)] = us at hall hlen5 ⊢
  obtain ⟨ρ5, φ5, e5, hI5⟩ := floop_inv (b := fun w ρ φ => evalS P.gv P.fr (P.call d) trnT (ρ.set 6 (.val w)) φ) (fun i ρ φ => i ≤ 5 ∧ It2 sc gs (.val w) s4 s7 (len + 5 + 2 * i) ρ φ) (upto 0 5) 0 [.val sc, .val (.obj 0), .own (.lst us), .val w, s4, .val (.tup gs), s6, s7, s8] φ2
    ⟨by decide, hF2, us, s6, s8, rfl, hall, hlen5⟩ (by
      intro i y ρ φ _ hy ⟨hi, hI⟩
      have hi5 : i < 5 := by
        have := (List.getElem?_eq_some_iff.mp hy).1
        rw [upto_len] at this
        omega
      obtain ⟨hF, zs, t6, t8, rfl, hz, hzl⟩ := hI
      simp only [List.set_cons_succ, List.set_cons_zero]
      obtain ⟨vs, s8', φ', e, hvs, hvl, hF'⟩ := turn1 hd (sc := sc) (len := len + 5 + 2 * i) (by omega) hgs (s3 := .val w) (s4 := s4) (s6 := .val y) (s7 := s7) (s8 := t8) hz hzl hF
      exact ⟨_, φ', .inl e, by omega, hF', zs ++ vs, .val y, s8', rfl, fun y h => (List.mem_append.mp h).elim (hz y) (hvs y), by rw [List.length_append]; omega⟩)
  show ∃ ρ' φ', evalS P.gv P.fr (P.call d) (.cons (.sfor 6 (.rng1 (.int 5)) trnT) .nil) _ φ2 = .nx ρ' φ' ∧ _
  rw [q_for (is := upto 0 5) (r_rng1 r_int (rng1_of (by decide) (by decide))) rfl e5]
  obtain ⟨_, hF5, zs, t6, t8, rfl, hz, hzl⟩ := hI5
  rw [upto_len] at hzl
  exact ⟨_, φ5, rfl, hF5, zs, _, _, _, _, _, _, rfl, hz, by omega⟩
theorem chk1 {d : Nat} (hd : 70 ≤ d) {sc zl w : W} {s3 s5 s6 s7 s8 : Sl} {φ : Sto} (hw : Good w) :
    evalS P.gv P.fr (P.call d) chkT [.val sc, .val (.obj 0), .val zl, s3, .val w, s5, s6, s7, s8] φ = .nx [.val sc, .val (.obj 0), .val zl, s3, .val w, s5, s6, .val (.str ((opBlt .repr w).elim [] fun | .str s => s | _ => [])), s8] φ := by
  obtain ⟨s, hs, gs⟩ := hw.repr
  obtain ⟨t, ht, gt⟩ := ans_repr 14 w hw.dt
  rw [hs]
  unfold chkT b_law
  dsimp only [Option.elim]
  rw [q_set (r_blt (r_var rfl) hs) rfl]
  simp only [List.set_cons_succ, List.set_cons_zero]
  have j : P.call d 20 [w] φ = .ok (ansW w) φ := by
    have := judged_spec (d - 6) 14 φ w hw.dt
    rwa [show d - 6 + 6 = d by omega] at this
  have u : P.call d 19 [w] φ = .ok (ansW w) φ := by
    have := due_spec (d - 63) 14 φ w hw.dt
    rwa [show d - 63 + 63 = d by omega] at this
  have c : evalE P.gv (P.call d) (.orN (.cons (.cmp .ne (.blt .repr (.call 20 (.cons (.var 4) .nil))) (.blt .repr (.call 19 (.cons (.var 4) .nil)))) (.cons (.cmp .ne (.blt .repr (.var 4)) (.var 7)) .nil)))
      [.val sc, .val (.obj 0), .val zl, s3, .val w, s5, s6, .val (.str s), s8] φ = .ok (.bl false) φ :=
    r_or (r_or_f (r_cmp (r_blt (r_call (rs_cons (r_var rfl) rs_nil) j) ht) (r_blt (r_call (rs_cons (r_var rfl) rs_nil) u) ht) (ne_self gt)) rfl (r_or1 (r_cmp (r_blt (r_var rfl) hs) (r_var rfl) (ne_self gs))))
  rw [q_skip c rfl]; rfl
theorem chk_loop {d : Nat} (hd : 70 ≤ d) {sc zl : W} {s3 s5 s6 s8 : Sl} {φ : Sto} : ∀ (ws : List W) (s4 s7 : Sl), (∀ w ∈ ws, Good w) →
    ∃ s4' s7', floop (fun w ρ φ => evalS P.gv P.fr (P.call d) chkT (ρ.set 4 (.val w)) φ) ws [.val sc, .val (.obj 0), .val zl, s3, s4, s5, s6, s7, s8] φ = .nx [.val sc, .val (.obj 0), .val zl, s3, s4', s5, s6, s7', s8] φ
  | [], s4, s7, _ => ⟨s4, s7, rfl⟩
  | w :: ws, s4, s7, h => by
    obtain ⟨a, b, e⟩ := chk_loop hd (sc := sc) (zl := zl) (s3 := s3) (s5 := s5) (s6 := s6) (s8 := s8) (φ := φ) ws (.val w) (.val (.str ((opBlt .repr w).elim [] fun | .str s => s | _ => []))) fun y hy => h y (List.mem_cons_of_mem _ hy)
    refine ⟨a, b, (floop_go ?_).trans e⟩
    simp only [List.set_cons_succ, List.set_cons_zero]
    exact chk1 hd (h w List.mem_cons_self)
theorem law_all (ns : List Int) (hl : ns.length ≤ 63) : ∃ φ, P.call 200 22 [.lst (ns.map .int)] [] = .ok (.bl true) φ := by
  obtain ⟨φ0, e0, hF0⟩ := begun_spec (e := 199) (by decide) ns hl
  generalize hsc : W.lst (ns.map .int) = sc at e0 ⊢
  rw [call_eq (d := 199) (fn := ⟨1, 9, false, b_law⟩) rfl rfl]
  show ∃ φ, (evalS P.gv P.fr (P.call 199) b_law [.val sc, .none, .none, .none, .none, .none, .none, .none, .none] []).out false = .ok (.bl true) φ
  rw [b_law_is, q_set (r_call (rs_cons (r_var rfl) rs_nil) e0) rfl]
  simp only [List.set_cons_succ, List.set_cons_zero]
  obtain ⟨zs, φ1, e1, q1, l1, hF1⟩ := compL_inv (c := fun w φ' => .ok true φ') (e := fun u φ' => evalE P.gv (P.call 199) (.call 16 (.cons (.var 1) .nil)) (([.val sc, .val (.obj 0), .none, .none, .none, .none, .none, .none, .none] : MP.Loc).set 3 (.val u)) φ') Feed (DQ 0 4 300) (fun _ _ => rfl) (upto 0 8) φ0 hF0 (fun u _ φ hF => by
    obtain ⟨v, φ1, e1, hv, hF1⟩ := strange_draw (e := 199) (by decide) φ hF
    exact ⟨v, φ1, r_call (rs_cons (r_var rfl) rs_nil) e1, hv, hF1⟩)
  rw [upto_len] at l1
  have c1 : evalE P.gv (P.call 199) (.rng1 (.int 8)) [.val sc, .val (.obj 0), .none, .none, .none, .none, .none, .none, .none] φ0 = .ok (.lst (upto 0 8)) φ0 := r_rng1 r_int (rng1_of (by decide) (by decide))
  have xl := x_len
  have s2 : opBin .add (.lst zs) (.lst (lsts (constE X1))) = some (.lst (zs ++ lsts (constE X1))) := if_pos (by rw [szl]; omega)
  rw [q_setO (w := .lst (zs ++ lsts (constE X1))) (r_bin (r_comp c1 rfl e1 (by omega)) (r_const kx1) s2) rfl rfl]
  simp only [List.set_cons_succ, List.set_cons_zero]
  rw [q_ext (ws := zs ++ lsts (constE X1)) rfl (r_const kx2) (by rw [List.length_append]; omega)]
  simp only [List.set_cons_succ, List.set_cons_zero]
  have hg : ∀ w ∈ zs ++ lsts (constE X1) ++ lsts (constE X2), Good w := by
    intro w hw
    rcases List.mem_append.mp hw with hw | hw
    · rcases List.mem_append.mp hw with hw | hw
      · exact (q1 w hw).mono (by decide) (by decide) (by decide)
      · exact x_good (.inl hw)
    · exact x_good (.inr hw)
  have hlen : (zs ++ lsts (constE X1) ++ lsts (constE X2)).length ≤ 30 := by rw [List.length_append, List.length_append]; omega
  generalize zs ++ lsts (constE X1) ++ lsts (constE X2) = items at hg hlen ⊢
  obtain ⟨ρ5, φ5, e5, hI⟩ := floop_inv (b := fun w ρ φ => evalS P.gv P.fr (P.call 199) lapT (ρ.set 3 (.val w)) φ) (fun i ρ φ => i ≤ 4 ∧ It sc (30 + 15 * i) ρ φ) (upto 0 4) 0 [.val sc, .val (.obj 0), .own (.lst items), .none, .none, .none, .none, .none, .none] φ1 ⟨by decide, hF1, items, .none, .none, .none, .none, .none, .none, rfl, hg, hlen⟩ (by
    intro m w ρ φ _ hw ⟨hm, hI⟩
    have hm5 : m < 4 := by
      have := (List.getElem?_eq_some_iff.mp hw).1
      rw [upto_len] at this
      omega
    obtain ⟨ρ', φ', e, hI'⟩ := lap1 (d := 199) (by decide) (by omega) w hI
    exact ⟨ρ', φ', .inl e, by omega, by rw [show 30 + 15 * (m + 1) = 30 + 15 * m + 15 by omega]; exact hI'⟩)
  rw [q_for (is := upto 0 4) (r_rng1 r_int (rng1_of (by decide) (by decide))) rfl e5]
  obtain ⟨_, hF5, ws, t3, t4, t5, t6, t7, t8, rfl, hg5, hl5⟩ := hI
  rw [q_frz rfl]
  simp only [List.set_cons_succ, List.set_cons_zero]
  obtain ⟨a, b, ef⟩ := chk_loop (d := 199) (by decide) (sc := sc) (zl := .lst ws) (s3 := t3) (s5 := t5) (s6 := t6) (s8 := t8) (φ := φ5) ws t4 t7 hg5
  rw [q_for (is := ws) (r_var rfl) rfl ef]
  have fin : P.call 199 6 [.tup [.tup [.str [97], .str [112]]]] φ5 = .ok (.int 1) φ5 := (lets_spec 194 4 φ5 (.tup [.tup [.str [97], .str [112]]]) (by decide)).trans (by
    have : bk none 0 [.tup [.str [97], .str [112]]] = none := by decide +kernel
    dsimp only
    rw [this]; rfl)
  rw [q_ret (r_cmp (r_callk (rs_cons (r_const (w := .tup [.tup [.str [97], .str [112]]]) rfl) rs_nil) fin) r_int (eq_int _ _))]
  exact ⟨φ5, rfl⟩
end K02
open PySem PySem.W PyProof.Rows
open PySem PySem.W PyProof.Rows
theorem K02.all_mk {K : PySem.W.Frag} {mg : PySem.Str → Option Value} {h : Heap} (X : K.In h) (G : h.Ns mainGlobals mg)
    {C0 : Addr}
    {D0 : Addr}
    {F0 : Addr} {oc0 kV0 dc0 pm0 cd0 ct0 : Value} {od0 an0 : Option Addr} {sl0 : Array (Option Value)}
    {F1 : Addr} {oc1 kV1 dc1 pm1 cd1 ct1 : Value} {od1 an1 : Option Addr} {sl1 : Array (Option Value)}
    {F2 : Addr} {oc2 kV2 dc2 pm2 cd2 ct2 : Value} {od2 an2 : Option Addr} {sl2 : Array (Option Value)}
    {F3 : Addr} {oc3 kV3 dc3 pm3 cd3 ct3 : Value} {od3 an3 : Option Addr} {sl3 : Array (Option Value)}
    {F4 : Addr} {oc4 kV4 dc4 pm4 cd4 ct4 : Value} {od4 an4 : Option Addr} {sl4 : Array (Option Value)}
    {F5 : Addr} {oc5 kV5 dc5 pm5 cd5 ct5 : Value} {od5 an5 : Option Addr} {sl5 : Array (Option Value)}
    {F6 : Addr} {oc6 kV6 dc6 pm6 cd6 ct6 : Value} {od6 an6 : Option Addr} {sl6 : Array (Option Value)}
    {F7 : Addr} {oc7 kV7 dc7 pm7 cd7 ct7 : Value} {od7 an7 : Option Addr} {sl7 : Array (Option Value)}
    {F8 : Addr} {oc8 kV8 dc8 pm8 cd8 ct8 : Value} {od8 an8 : Option Addr} {sl8 : Array (Option Value)}
    {F9 : Addr} {oc9 kV9 dc9 pm9 cd9 ct9 : Value} {od9 an9 : Option Addr} {sl9 : Array (Option Value)}
    {F10 : Addr} {oc10 kV10 dc10 pm10 cd10 ct10 : Value} {od10 an10 : Option Addr} {sl10 : Array (Option Value)}
    {F11 : Addr} {oc11 kV11 dc11 pm11 cd11 ct11 : Value} {od11 an11 : Option Addr} {sl11 : Array (Option Value)}
    {F12 : Addr} {oc12 kV12 dc12 pm12 cd12 ct12 : Value} {od12 an12 : Option Addr} {sl12 : Array (Option Value)}
    {F13 : Addr} {oc13 kV13 dc13 pm13 cd13 ct13 : Value} {od13 an13 : Option Addr} {sl13 : Array (Option Value)}
    {F14 : Addr} {oc14 kV14 dc14 pm14 cd14 ct14 : Value} {od14 an14 : Option Addr} {sl14 : Array (Option Value)}
    {F15 : Addr} {oc15 kV15 dc15 pm15 cd15 ct15 : Value} {od15 an15 : Option Addr} {sl15 : Array (Option Value)}
    {F16 : Addr} {oc16 kV16 dc16 pm16 cd16 ct16 : Value} {od16 an16 : Option Addr} {sl16 : Array (Option Value)}
    {F17 : Addr} {oc17 kV17 dc17 pm17 cd17 ct17 : Value} {od17 an17 : Option Addr} {sl17 : Array (Option Value)}
    {F18 : Addr} {oc18 kV18 dc18 pm18 cd18 ct18 : Value} {od18 an18 : Option Addr} {sl18 : Array (Option Value)}
    {F19 : Addr} {oc19 kV19 dc19 pm19 cd19 ct19 : Value} {od19 an19 : Option Addr} {sl19 : Array (Option Value)}
    {F20 : Addr} {oc20 kV20 dc20 pm20 cd20 ct20 : Value} {od20 an20 : Option Addr} {sl20 : Array (Option Value)}
    {F21 : Addr} {oc21 kV21 dc21 pm21 cd21 ct21 : Value} {od21 an21 : Option Addr} {sl21 : Array (Option Value)}
    {F22 : Addr} {oc22 kV22 dc22 pm22 cd22 ct22 : Value} {od22 an22 : Option Addr} {sl22 : Array (Option Value)}
    {t0 : Tok} {gs0 : PySem.Str}
    {t1 : Tok} {gs1 : PySem.Str}
    (r0 : MP.EA PySem.Challenge.pw_onlygiven_k02_books_checked K "InvalidPaper" C0 ([("word" : PySem.Str), ("at" : PySem.Str)] : List PySem.Str))
    (u0 : PySem.W.nsIn K mainGlobals "InvalidPaper" = some (some (.ref D0)))
    (u0_0 : PySem.W.exmOne K (.ref C0) (.ref D0) = some true)
    (a0 : PySem.W.nsIn K mainGlobals "name_end" = some (some (.ref F0)))
    (l0 : K.lookup F0 = some ⟨oc0, od0, .func (PySem.W.fnOf "name_end" "name_end" (C8.fnArgs (K02.topS 7)) (C8.fnBody (K02.topS 7)) (C8.fnScope (K02.topS 7)) .none kV0 dc0 pm0 an0 cd0 ct0), sl0⟩)
    (c0 : PySem.W.codeIn K cd0 "name_end" = true)
    (k0 : PySem.W.keepIn K (.ref F0) = true)
    (a1 : PySem.W.nsIn K mainGlobals "arrow_end" = some (some (.ref F1)))
    (l1 : K.lookup F1 = some ⟨oc1, od1, .func (PySem.W.fnOf "arrow_end" "arrow_end" (C8.fnArgs (K02.topS 8)) (C8.fnBody (K02.topS 8)) (C8.fnScope (K02.topS 8)) .none kV1 dc1 pm1 an1 cd1 ct1), sl1⟩)
    (c1 : PySem.W.codeIn K cd1 "arrow_end" = true)
    (k1 : PySem.W.keepIn K (.ref F1) = true)
    (a2 : PySem.W.nsIn K mainGlobals "kind_end" = some (some (.ref F2)))
    (l2 : K.lookup F2 = some ⟨oc2, od2, .func (PySem.W.fnOf "kind_end" "kind_end" (C8.fnArgs (K02.topS 9)) (C8.fnBody (K02.topS 9)) (C8.fnScope (K02.topS 9)) .none kV2 dc2 pm2 an2 cd2 ct2), sl2⟩)
    (c2 : PySem.W.codeIn K cd2 "kind_end" = true)
    (k2 : PySem.W.keepIn K (.ref F2) = true)
    (a3 : PySem.W.nsIn K mainGlobals "is_name" = some (some (.ref F3)))
    (l3 : K.lookup F3 = some ⟨oc3, od3, .func (PySem.W.fnOf "is_name" "is_name" (C8.fnArgs (K02.topS 11)) (C8.fnBody (K02.topS 11)) (C8.fnScope (K02.topS 11)) .none kV3 dc3 pm3 an3 cd3 ct3), sl3⟩)
    (c3 : PySem.W.codeIn K cd3 "is_name" = true)
    (k3 : PySem.W.keepIn K (.ref F3) = true)
    (a4 : PySem.W.nsIn K mainGlobals "is_kind" = some (some (.ref F4)))
    (l4 : K.lookup F4 = some ⟨oc4, od4, .func (PySem.W.fnOf "is_kind" "is_kind" (C8.fnArgs (K02.topS 12)) (C8.fnBody (K02.topS 12)) (C8.fnScope (K02.topS 12)) .none kV4 dc4 pm4 an4 cd4 ct4), sl4⟩)
    (c4 : PySem.W.codeIn K cd4 "is_kind" = true)
    (k4 : PySem.W.keepIn K (.ref F4) = true)
    (a5 : PySem.W.nsIn K mainGlobals "is_entry" = some (some (.ref F5)))
    (l5 : K.lookup F5 = some ⟨oc5, od5, .func (PySem.W.fnOf "is_entry" "is_entry" (C8.fnArgs (K02.topS 13)) (C8.fnBody (K02.topS 13)) (C8.fnScope (K02.topS 13)) .none kV5 dc5 pm5 an5 cd5 ct5), sl5⟩)
    (c5 : PySem.W.codeIn K cd5 "is_entry" = true)
    (k5 : PySem.W.keepIn K (.ref F5) = true)
    (a6 : PySem.W.nsIn K mainGlobals "lets_book" = some (some (.ref F6)))
    (l6 : K.lookup F6 = some ⟨oc6, od6, .func (PySem.W.fnOf "lets_book" "lets_book" (C8.fnArgs (K02.topS 15)) (C8.fnBody (K02.topS 15)) (C8.fnScope (K02.topS 15)) .none kV6 dc6 pm6 an6 cd6 ct6), sl6⟩)
    (c6 : PySem.W.codeIn K cd6 "lets_book" = true)
    (k6 : PySem.W.keepIn K (.ref F6) = true)
    (a7 : PySem.W.nsIn K mainGlobals "_law_begun" = some (some (.ref F7)))
    (l7 : K.lookup F7 = some ⟨oc7, od7, .func (PySem.W.fnOf "_law_begun" "_law_begun" (C8.fnArgs (K02.topS 17)) (C8.fnBody (K02.topS 17)) (C8.fnScope (K02.topS 17)) .none kV7 dc7 pm7 an7 cd7 ct7), sl7⟩)
    (c7 : PySem.W.codeIn K cd7 "_law_begun" = true)
    (k7 : PySem.W.keepIn K (.ref F7) = true)
    (a8 : PySem.W.nsIn K mainGlobals "_law_draw" = some (some (.ref F8)))
    (l8 : K.lookup F8 = some ⟨oc8, od8, .func (PySem.W.fnOf "_law_draw" "_law_draw" (C8.fnArgs (K02.topS 18)) (C8.fnBody (K02.topS 18)) (C8.fnScope (K02.topS 18)) .none kV8 dc8 pm8 an8 cd8 ct8), sl8⟩)
    (c8 : PySem.W.codeIn K cd8 "_law_draw" = true)
    (k8 : PySem.W.keepIn K (.ref F8) = true)
    (a9 : PySem.W.nsIn K mainGlobals "_law_pick" = some (some (.ref F9)))
    (l9 : K.lookup F9 = some ⟨oc9, od9, .func (PySem.W.fnOf "_law_pick" "_law_pick" (C8.fnArgs (K02.topS 19)) (C8.fnBody (K02.topS 19)) (C8.fnScope (K02.topS 19)) .none kV9 dc9 pm9 an9 cd9 ct9), sl9⟩)
    (c9 : PySem.W.codeIn K cd9 "_law_pick" = true)
    (k9 : PySem.W.keepIn K (.ref F9) = true)
    (a10 : PySem.W.nsIn K mainGlobals "_law_title" = some (some (.ref F10)))
    (l10 : K.lookup F10 = some ⟨oc10, od10, .func (PySem.W.fnOf "_law_title" "_law_title" (C8.fnArgs (K02.topS 20)) (C8.fnBody (K02.topS 20)) (C8.fnScope (K02.topS 20)) .none kV10 dc10 pm10 an10 cd10 ct10), sl10⟩)
    (c10 : PySem.W.codeIn K cd10 "_law_title" = true)
    (k10 : PySem.W.keepIn K (.ref F10) = true)
    (a11 : PySem.W.nsIn K mainGlobals "_law_tree" = some (some (.ref F11)))
    (l11 : K.lookup F11 = some ⟨oc11, od11, .func (PySem.W.fnOf "_law_tree" "_law_tree" (C8.fnArgs (K02.topS 21)) (C8.fnBody (K02.topS 21)) (C8.fnScope (K02.topS 21)) .none kV11 dc11 pm11 an11 cd11 ct11), sl11⟩)
    (c11 : PySem.W.codeIn K cd11 "_law_tree" = true)
    (k11 : PySem.W.keepIn K (.ref F11) = true)
    (a12 : PySem.W.nsIn K mainGlobals "_law_spelled" = some (some (.ref F12)))
    (l12 : K.lookup F12 = some ⟨oc12, od12, .func (PySem.W.fnOf "_law_spelled" "_law_spelled" (C8.fnArgs (K02.topS 22)) (C8.fnBody (K02.topS 22)) (C8.fnScope (K02.topS 22)) .none kV12 dc12 pm12 an12 cd12 ct12), sl12⟩)
    (c12 : PySem.W.codeIn K cd12 "_law_spelled" = true)
    (k12 : PySem.W.keepIn K (.ref F12) = true)
    (a13 : PySem.W.nsIn K mainGlobals "_law_is_title" = some (some (.ref F13)))
    (l13 : K.lookup F13 = some ⟨oc13, od13, .func (PySem.W.fnOf "_law_is_title" "_law_is_title" (C8.fnArgs (K02.topS 23)) (C8.fnBody (K02.topS 23)) (C8.fnScope (K02.topS 23)) .none kV13 dc13 pm13 an13 cd13 ct13), sl13⟩)
    (c13 : PySem.W.codeIn K cd13 "_law_is_title" = true)
    (k13 : PySem.W.keepIn K (.ref F13) = true)
    (a14 : PySem.W.nsIn K mainGlobals "_law_pieces" = some (some (.ref F14)))
    (l14 : K.lookup F14 = some ⟨oc14, od14, .func (PySem.W.fnOf "_law_pieces" "_law_pieces" (C8.fnArgs (K02.topS 24)) (C8.fnBody (K02.topS 24)) (C8.fnScope (K02.topS 24)) .none kV14 dc14 pm14 an14 cd14 ct14), sl14⟩)
    (c14 : PySem.W.codeIn K cd14 "_law_pieces" = true)
    (k14 : PySem.W.keepIn K (.ref F14) = true)
    (a15 : PySem.W.nsIn K mainGlobals "_law_parsed" = some (some (.ref F15)))
    (l15 : K.lookup F15 = some ⟨oc15, od15, .func (PySem.W.fnOf "_law_parsed" "_law_parsed" (C8.fnArgs (K02.topS 25)) (C8.fnBody (K02.topS 25)) (C8.fnScope (K02.topS 25)) .none kV15 dc15 pm15 an15 cd15 ct15), sl15⟩)
    (c15 : PySem.W.codeIn K cd15 "_law_parsed" = true)
    (k15 : PySem.W.keepIn K (.ref F15) = true)
    (a16 : PySem.W.nsIn K mainGlobals "_law_strange" = some (some (.ref F16)))
    (l16 : K.lookup F16 = some ⟨oc16, od16, .func (PySem.W.fnOf "_law_strange" "_law_strange" (C8.fnArgs (K02.topS 26)) (C8.fnBody (K02.topS 26)) (C8.fnScope (K02.topS 26)) .none kV16 dc16 pm16 an16 cd16 ct16), sl16⟩)
    (c16 : PySem.W.codeIn K cd16 "_law_strange" = true)
    (k16 : PySem.W.keepIn K (.ref F16) = true)
    (a17 : PySem.W.nsIn K mainGlobals "_law_spoilt" = some (some (.ref F17)))
    (l17 : K.lookup F17 = some ⟨oc17, od17, .func (PySem.W.fnOf "_law_spoilt" "_law_spoilt" (C8.fnArgs (K02.topS 27)) (C8.fnBody (K02.topS 27)) (C8.fnScope (K02.topS 27)) .none kV17 dc17 pm17 an17 cd17 ct17), sl17⟩)
    (c17 : PySem.W.codeIn K cd17 "_law_spoilt" = true)
    (k17 : PySem.W.keepIn K (.ref F17) = true)
    (a18 : PySem.W.nsIn K mainGlobals "_law_entries" = some (some (.ref F18)))
    (l18 : K.lookup F18 = some ⟨oc18, od18, .func (PySem.W.fnOf "_law_entries" "_law_entries" (C8.fnArgs (K02.topS 28)) (C8.fnBody (K02.topS 28)) (C8.fnScope (K02.topS 28)) .none kV18 dc18 pm18 an18 cd18 ct18), sl18⟩)
    (c18 : PySem.W.codeIn K cd18 "_law_entries" = true)
    (k18 : PySem.W.keepIn K (.ref F18) = true)
    (a19 : PySem.W.nsIn K mainGlobals "_law_due" = some (some (.ref F19)))
    (l19 : K.lookup F19 = some ⟨oc19, od19, .func (PySem.W.fnOf "_law_due" "_law_due" (C8.fnArgs (K02.topS 29)) (C8.fnBody (K02.topS 29)) (C8.fnScope (K02.topS 29)) .none kV19 dc19 pm19 an19 cd19 ct19), sl19⟩)
    (c19 : PySem.W.codeIn K cd19 "_law_due" = true)
    (k19 : PySem.W.keepIn K (.ref F19) = true)
    (a20 : PySem.W.nsIn K mainGlobals "_law_judged" = some (some (.ref F20)))
    (l20 : K.lookup F20 = some ⟨oc20, od20, .func (PySem.W.fnOf "_law_judged" "_law_judged" (C8.fnArgs (K02.topS 30)) (C8.fnBody (K02.topS 30)) (C8.fnScope (K02.topS 30)) .none kV20 dc20 pm20 an20 cd20 ct20), sl20⟩)
    (c20 : PySem.W.codeIn K cd20 "_law_judged" = true)
    (k20 : PySem.W.keepIn K (.ref F20) = true)
    (a21 : PySem.W.nsIn K mainGlobals "_law_bad" = some (some (.ref F21)))
    (l21 : K.lookup F21 = some ⟨oc21, od21, .func (PySem.W.fnOf "_law_bad" "_law_bad" (C8.fnArgs (K02.topS 31)) (C8.fnBody (K02.topS 31)) (C8.fnScope (K02.topS 31)) .none kV21 dc21 pm21 an21 cd21 ct21), sl21⟩)
    (c21 : PySem.W.codeIn K cd21 "_law_bad" = true)
    (k21 : PySem.W.keepIn K (.ref F21) = true)
    (a22 : PySem.W.nsIn K mainGlobals "law" = some (some (.ref F22)))
    (l22 : K.lookup F22 = some ⟨oc22, od22, .func (PySem.W.fnOf "law" "law" (C8.fnArgs (K02.topS 32)) (C8.fnBody (K02.topS 32)) (C8.fnScope (K02.topS 32)) .none kV22 dc22 pm22 an22 cd22 ct22), sl22⟩)
    (c22 : PySem.W.codeIn K cd22 "law" = true)
    (k22 : PySem.W.keepIn K (.ref F22) = true)
    (gg0 : PySem.W.nsIn K mainGlobals "LETTERS" = some (some (.str gs0 t0)))
    (e0 : gs0 = MP.toS [97, 98, 99, 100, 101, 102, 103, 104, 105, 106, 107, 108, 109, 110, 111, 112, 113, 114, 115, 116, 117, 118, 119, 120, 121, 122])
    (gg1 : PySem.W.nsIn K mainGlobals "ARROW" = some (some (.str gs1 t1)))
    (e1 : gs1 = MP.toS [32, 45, 62, 32])
    (z0 : PySem.W.nsIn K mainGlobals "len" = some none)
    (z1 : PySem.W.nsIn K mainGlobals "isinstance" = some none)
    (z2 : PySem.W.nsIn K mainGlobals "str" = some none)
    (z3 : PySem.W.nsIn K mainGlobals "tuple" = some none)
    (z4 : PySem.W.nsIn K mainGlobals "enumerate" = some none)
    (z5 : PySem.W.nsIn K mainGlobals "int" = some none)
    (z6 : PySem.W.nsIn K mainGlobals "range" = some none)
    (z7 : PySem.W.nsIn K mainGlobals "list" = some none)
    (z8 : PySem.W.nsIn K mainGlobals "sorted" = some none)
    (z9 : PySem.W.nsIn K mainGlobals "repr" = some none) : ∃ cls flds, MP.Mdl K02.Γ ⟨K, cls, flds⟩ K02.P PySem.Challenge.pw_onlygiven_k02_books_checked mg :=
  ⟨_, _, K02.mdl X G ⟨_, by rw [gg0, e0]⟩ ⟨_, by rw [gg1, e1]⟩ z0 z1 z2 z3 z4 z5 z6 z7 z8 z9 (.of a0 l0 c0 k0) (.of a1 l1 c1 k1) (.of a2 l2 c2 k2) (.of a3 l3 c3 k3) (.of a4 l4 c4 k4) (.of a5 l5 c5 k5) (.of a6 l6 c6 k6) (.of a7 l7 c7 k7) (.of a8 l8 c8 k8) (.of a9 l9 c9 k9) (.of a10 l10 c10 k10) (.of a11 l11 c11 k11) (.of a12 l12 c12 k12) (.of a13 l13 c13 k13) (.of a14 l14 c14 k14) (.of a15 l15 c15 k15) (.of a16 l16 c16 k16) (.of a17 l17 c17 k17) (.of a18 l18 c18 k18) (.of a19 l19 c19 k19) (.of a20 l20 c20 k20) (.of a21 l21 c21 k21) (.of a22 l22 c22 k22) r0 u0 u0_0⟩
set_option maxHeartbeats 0 in
theorem PySem.Challenge.cw_onlygiven_k02_books_checked_holds : PySem.Challenge.rw_onlygiven_k02_books_checked.Holds := by
  w_on; o_law; k_head; (case hw => w_witness2)
  k_fill
  refine MP.walk_MP (l := PySem.Challenge.rw_onlygiven_k02_books_checked) (n := 63) (k := 200) (f := 22) (x := "script") (Γ := K02.Γ) (Pr := K02.P) rfl (by decide) rfl ⟨rfl, by decide, by decide⟩ (fun w h Y => PySem.W.kIn_of Y) rfl rfl (fun ns hl _ => K02.law_all ns hl) ?D
  case D =>
    intro w mg h KX G
    refine' K02.all_mk KX G ?r0 ?u0 ?u0_0 ?a0 ?l0 ?c0 ?k0 ?a1 ?l1 ?c1 ?k1 ?a2 ?l2 ?c2 ?k2 ?a3 ?l3 ?c3 ?k3 ?a4 ?l4 ?c4 ?k4 ?a5 ?l5 ?c5 ?k5 ?a6 ?l6 ?c6 ?k6 ?a7 ?l7 ?c7 ?k7 ?a8 ?l8 ?c8 ?k8 ?a9 ?l9 ?c9 ?k9 ?a10 ?l10 ?c10 ?k10 ?a11 ?l11 ?c11 ?k11 ?a12 ?l12 ?c12 ?k12 ?a13 ?l13 ?c13 ?k13 ?a14 ?l14 ?c14 ?k14 ?a15 ?l15 ?c15 ?k15 ?a16 ?l16 ?c16 ?k16 ?a17 ?l17 ?c17 ?k17 ?a18 ?l18 ?c18 ?k18 ?a19 ?l19 ?c19 ?k19 ?a20 ?l20 ?c20 ?k20 ?a21 ?l21 ?c21 ?k21 ?a22 ?l22 ?c22 ?k22 ?gg0 ?e0 ?gg1 ?e1 ?z0 ?z1 ?z2 ?z3 ?z4 ?z5 ?z6 ?z7 ?z8 ?z9
    (case r0 => (refine' MP.EA.two K02.es_InvalidPaper ?at_ ?l ?rv ?sa ?ex ?ty ?kp ?fi ?ti ?li ?co ?lc ?hv ?hfile ?ce ?sub ?sup ?ini ?ve ?th ?xf ?h1 ?h2; (case at_ => k_is); (case l => k_is); (case rv => decide +kernel); (case sa => k_is); (case ex => k_is); (case ty => k_is); (case kp => k_is); (case fi => k_is); (case ti => k_is); (case li => k_is); (case co => k_is); (case lc => k_is); (case hv => exact rfl); (case hfile => decide +kernel); (case ce => k_is); (case sub => k_is); (case sup => k_is); (case ini => ks_is); (case ve => k_is); (case th => k_is); (case xf => kernel_rfl); (case h1 => k_is); (case h2 => k_is)))
    (case u0 => k_is)
    (case u0_0 => kernel_rfl)
    (case a0 => k_is)
    (case l0 => k_is)
    (case c0 => k_is)
    (case k0 => k_is)
    (case a1 => k_is)
    (case l1 => k_is)
    (case c1 => k_is)
    (case k1 => k_is)
    (case a2 => k_is)
    (case l2 => k_is)
    (case c2 => k_is)
    (case k2 => k_is)
    (case a3 => k_is)
    (case l3 => k_is)
    (case c3 => k_is)
    (case k3 => k_is)
    (case a4 => k_is)
    (case l4 => k_is)
    (case c4 => k_is)
    (case k4 => k_is)
    (case a5 => k_is)
    (case l5 => k_is)
    (case c5 => k_is)
    (case k5 => k_is)
    (case a6 => k_is)
    (case l6 => k_is)
    (case c6 => k_is)
    (case k6 => k_is)
    (case a7 => k_is)
    (case l7 => k_is)
    (case c7 => k_is)
    (case k7 => k_is)
    (case a8 => k_is)
    (case l8 => k_is)
    (case c8 => k_is)
    (case k8 => k_is)
    (case a9 => k_is)
    (case l9 => k_is)
    (case c9 => k_is)
    (case k9 => k_is)
    (case a10 => k_is)
    (case l10 => k_is)
    (case c10 => k_is)
    (case k10 => k_is)
    (case a11 => k_is)
    (case l11 => k_is)
    (case c11 => k_is)
    (case k11 => k_is)
    (case a12 => k_is)
    (case l12 => k_is)
    (case c12 => k_is)
    (case k12 => k_is)
    (case a13 => k_is)
    (case l13 => k_is)
    (case c13 => k_is)
    (case k13 => k_is)
    (case a14 => k_is)
    (case l14 => k_is)
    (case c14 => k_is)
    (case k14 => k_is)
    (case a15 => k_is)
    (case l15 => k_is)
    (case c15 => k_is)
    (case k15 => k_is)
    (case a16 => k_is)
    (case l16 => k_is)
    (case c16 => k_is)
    (case k16 => k_is)
    (case a17 => k_is)
    (case l17 => k_is)
    (case c17 => k_is)
    (case k17 => k_is)
    (case a18 => k_is)
    (case l18 => k_is)
    (case c18 => k_is)
    (case k18 => k_is)
    (case a19 => k_is)
    (case l19 => k_is)
    (case c19 => k_is)
    (case k19 => k_is)
    (case a20 => k_is)
    (case l20 => k_is)
    (case c20 => k_is)
    (case k20 => k_is)
    (case a21 => k_is)
    (case l21 => k_is)
    (case c21 => k_is)
    (case k21 => k_is)
    (case a22 => k_is)
    (case l22 => k_is)
    (case c22 => k_is)
    (case k22 => k_is)
    (case gg0 => k_is)
    (case e0 => decide +kernel)
    (case gg1 => k_is)
    (case e1 => decide +kernel)
    (case z0 => k_is)
    (case z1 => k_is)
    (case z2 => k_is)
    (case z3 => k_is)
    (case z4 => k_is)
    (case z5 => k_is)
    (case z6 => k_is)
    (case z7 => k_is)
    (case z8 => k_is)
    (case z9 => k_is)
