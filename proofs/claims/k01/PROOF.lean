import PyProof.Rows.All
import Wide.All
import OpenK.AllK
import Wide.FinOn
import HandS.ForMost
import HandS.ForExc
import HandS.Wide
import HandS.WideBits
import HandS.Conv
import HandS.Zip
import HandS.Style
import HandS.Flow
import HandS.FStr
import HandS.IsInst
import HandS.OwnEq
import HandS.Property
import HandS.ExcInit
import HandS.TryMany
import HandS.Deep
import HandS.CallSlots
import HandS.Star
import HandS.Defaults
import HandS.Head0
import HandS.Head1
import HandS.Head2
import HandS.HeadEnd
import HandS.HeadHook1
import HandS.HeadHook2
import HandS.More
import HandS.HeadHook4
import HandS.HeadHook3
import HandS.HeadWalk
import HandS.TupAny
import HandS.RaiseMore
import HandS.StrMore
import HandS.TupMul
import HandS.Rev
import HandS.DictComp
import HandS.Lambda
import HandS.EndTab
import KE.KExcIs
import KE.KExcInit
import HandS.ExcValue
import HandS.NoneIn
import HandS.Strs
import HandS.HotCalls
import HandS.Replace
import PySem.Challenge.RW_sheetrings_k01_constants_and_errors
set_option Elab.async false
set_option linter.all false
set_option maxRecDepth 100000
namespace L3
open PySem PySem.Spec PyProof.Rows L2
inductive D where
  | non | bl (b : Bool) | int (i : Int) | str (x : Str)
  | tup (l : List D) | fl (l : List D) | kl (l : List D) | ptup (l : List D)
  | obj (c : Nat) (fs : List (Nat × D))
  | dk (l : List (Str × D)) | di (l : List (Int × D))
  | ref (a : Addr)
  | ty (n : String) | cls (c : Nat)
  | exc (c : Nat) (fs : List (Nat × D))     -- a caught exception of a class of one's own, its attributes
  | exv (c : Nat) (fs : List (Nat × D))     -- one that was made and is held
  deriving Inhabited
inductive Cell where
  | lst (l : List D) | ins (c : Nat) (fs : List (Nat × D)) | dct (l : List (Str × D))
abbrev Store := Addr → Option Cell
def put (S : Store) (a : Addr) (x : Cell) : Store := fun b => if b = a then some x else S b
def del (S : Store) (a : Addr) : Store := fun b => if b = a then none else S b
def Sub (S T : Store) : Prop := ∀ a x, S a = some x → T a = some x
theorem put_same {S : Store} {a : Addr} {x : Cell} : put S a x a = some x := if_pos rfl
theorem put_ne {S : Store} {a b : Addr} {x : Cell} (h : b ≠ a) : put S a x b = S b := if_neg h
theorem Sub.refl (S : Store) : Sub S S := fun _ _ h => h
theorem Sub.trans {S T U : Store} (h : Sub S T) (k : Sub T U) : Sub S U := fun a x e => k a x (h a x e)
theorem Sub.put {S : Store} {a : Addr} {x : Cell} (h : S a = none) : Sub S (put S a x) := fun b y e => by
  have : b ≠ a := by intro z; subst z; rw [h] at e; cases e
  rw [put_ne this]; exact e
class TabsI where
  tabs : List (Addr × Str)
structure Ctx where
  K : PySem.W.Frag
  mg : Str → Option Value
  nm : Nat → Str
  cn : Nat → Option Addr
  tabs : List (Addr × Str)
  pin : Option (Addr × Obj)
  lam : Option (Addr × Addr × Str)     -- of a def that makes lambdas: its code object, that one's table, the lambdas' name
mutual
def RepD (c : Ctx) (Z : Hp) : D → V → Prop
  | .non, v => v = .non
  | .bl b, v => v = .bl b
  | .int i, v => v = .int i
  | .str x, v => v = .str x
  | .tup l, v => ∃ a vs, v = .ref a ∧ SqT c.K Z a vs ∧ RepL c Z l vs
  | .fl l, v => ∃ a vs, v = .ref a ∧ Z a = some (.lst vs) ∧ RepL c Z l vs
  | .ptup l, v => ∃ a vs o, v = .ref a ∧ Z a = some (.frz o (.tup vs)) ∧ o.dict = none ∧ RepL c Z l vs
  | .kl l, v => ∃ a vs, v = .ref a ∧ SqL c.K Z a vs ∧ RepL c Z l vs
  | .obj k fs, v => ∃ a C dx vfs, v = .ref a ∧ c.cn k = some C ∧ Z a = some (.ins C dx vfs) ∧ RepF c Z fs vfs
  | .dk l, v => ∃ a kvs, v = .ref a ∧ Z a = some (.dK kvs) ∧ RepK c Z l kvs
  | .di l, v => ∃ a kvs, v = .ref a ∧ Z a = some (.dK kvs) ∧ RepI c Z l kvs
  | .ref a, v => v = .ref a
  | .ty n, v => v = .ty n
  | .cls k, v => ∃ C, c.cn k = some C ∧ v = .ref C
  | .exc k fs, v => ∃ a C oe d fv vfs, v = .ref a ∧ c.cn k = some C ∧ c.pin = some (a, oe) ∧ oe.cls = .ref C ∧ oe.dict = some d ∧ oe.data = .fields fv ∧ Z d = some (.xd vfs) ∧ RepF c Z fs vfs
  | .exv k fs, v => ∃ a C vfs, v = .ref a ∧ c.cn k = some C ∧ RepF c Z fs vfs ∧ ((vfs = [] ∧ Z a = some (exo a C none)) ∨ ∃ d, Z a = some (exo a C (some d)) ∧ Z d = some (.xd vfs))
def RepL (c : Ctx) (Z : Hp) : List D → List V → Prop
  | [], vs => vs = []
  | d :: ds, vs => ∃ v r, vs = v :: r ∧ RepD c Z d v ∧ RepL c Z ds r
def RepF (c : Ctx) (Z : Hp) : List (Nat × D) → List (Str × V) → Prop
  | [], vs => vs = []
  | (k, d) :: ds, vs => ∃ v r, vs = (c.nm k, v) :: r ∧ RepD c Z d v ∧ RepF c Z ds r
def RepK (c : Ctx) (Z : Hp) : List (Str × D) → List (Key × V) → Prop
  | [], vs => vs = []
  | (k, d) :: ds, vs => ∃ v r, vs = (Sum.inr k, v) :: r ∧ RepD c Z d v ∧ RepK c Z ds r
def RepI (c : Ctx) (Z : Hp) : List (Int × D) → List (Key × V) → Prop
  | [], vs => vs = []
  | (k, d) :: ds, vs => ∃ v r, vs = (Sum.inl k, v) :: r ∧ RepD c Z d v ∧ RepI c Z ds r
end
def Le (Z Z' : Hp) : Prop := ∀ a o, Z a = some o → Z' a = some o
theorem Le.refl (Z : Hp) : Le Z Z := fun _ _ h => h
theorem Le.trans {Z Z' Z'' : Hp} (h : Le Z Z') (k : Le Z' Z'') : Le Z Z'' := fun a o e => k a o (h a o e)
theorem Rd.le {Z Z' : Hp} (h : Le Z Z') {a : Addr} {u : HO} (r : Rd Z a u) : Rd Z' a u := by
  rcases r with r | ⟨o, r⟩
  · exact .inl (h _ _ r)
  · exact .inr ⟨o, h _ _ r⟩
theorem SqL.le {K : PySem.W.Frag} {Z Z' : Hp} (h : Le Z Z') {a : Addr} {xs : List V} (r : SqL K Z a xs) : SqL K Z' a xs := r.imp (Rd.le h) id
theorem SqT.le {K : PySem.W.Frag} {Z Z' : Hp} (h : Le Z Z') {a : Addr} {xs : List V} (r : SqT K Z a xs) : SqT K Z' a xs := r.imp (Rd.le h) id
mutual
theorem RepD.le {c : Ctx} {Z Z' : Hp} (h : Le Z Z') : ∀ {d : D} {v : V}, RepD c Z d v → RepD c Z' d v
  | .non, _, r => r
  | .bl _, _, r => r
  | .int _, _, r => r
  | .str _, _, r => r
  | .tup l, v, r => by
    obtain ⟨a, vs, e, q, r⟩ := r
    exact ⟨a, vs, e, SqT.le h q, RepL.le h r⟩
  | .fl l, v, r => by
    obtain ⟨a, vs, e, q, r⟩ := r
    exact ⟨a, vs, e, h _ _ q, RepL.le h r⟩
  | .kl l, v, r => by
    obtain ⟨a, vs, e, q, r⟩ := r
    exact ⟨a, vs, e, SqL.le h q, RepL.le h r⟩
  | .ptup l, v, r => by
    obtain ⟨a, vs, o, e, q, n, r⟩ := r
    exact ⟨a, vs, o, e, h _ _ q, n, RepL.le h r⟩
  | .obj k fs, v, r => by
    obtain ⟨a, C, dx, vfs, e, q, z, r⟩ := r
    exact ⟨a, C, dx, vfs, e, q, h _ _ z, RepF.le h r⟩
  | .dk l, v, r => by
    obtain ⟨a, kvs, e, q, r⟩ := r
    exact ⟨a, kvs, e, h _ _ q, RepK.le h r⟩
  | .di l, v, r => by
    obtain ⟨a, kvs, e, q, r⟩ := r
    exact ⟨a, kvs, e, h _ _ q, RepI.le h r⟩
  | .ref _, _, r => r
  | .ty _, _, r => r
  | .cls _, _, r => r
  | .exc k fs, v, r => by
    obtain ⟨a, C, oe, d, fv, vfs, e, q, z, x1, x2, x3, y, r⟩ := r
    exact ⟨a, C, oe, d, fv, vfs, e, q, z, x1, x2, x3, h _ _ y, RepF.le h r⟩
  | .exv k fs, v, r => by
    obtain ⟨a, C, vfs, e, q, r, z⟩ := r
    refine ⟨a, C, vfs, e, q, RepF.le h r, ?_⟩
    rcases z with ⟨z1, z2⟩ | ⟨d, z1, z2⟩
    · exact .inl ⟨z1, h _ _ z2⟩
    · exact .inr ⟨d, h _ _ z1, h _ _ z2⟩
theorem RepL.le {c : Ctx} {Z Z' : Hp} (h : Le Z Z') : ∀ {l : List D} {vs : List V}, RepL c Z l vs → RepL c Z' l vs
  | [], _, r => r
  | d :: ds, vs, r => by
    obtain ⟨v, t, e, q, r⟩ := r
    exact ⟨v, t, e, RepD.le h q, RepL.le h r⟩
theorem RepF.le {c : Ctx} {Z Z' : Hp} (h : Le Z Z') : ∀ {l : List (Nat × D)} {vs : List (Str × V)}, RepF c Z l vs → RepF c Z' l vs
  | [], _, r => r
  | (k, d) :: ds, vs, r => by
    obtain ⟨v, t, e, q, r⟩ := r
    exact ⟨v, t, e, RepD.le h q, RepF.le h r⟩
theorem RepK.le {c : Ctx} {Z Z' : Hp} (h : Le Z Z') : ∀ {l : List (Str × D)} {vs : List (Key × V)}, RepK c Z l vs → RepK c Z' l vs
  | [], _, r => r
  | (k, d) :: ds, vs, r => by
    obtain ⟨v, t, e, q, r⟩ := r
    exact ⟨v, t, e, RepD.le h q, RepK.le h r⟩
theorem RepI.le {c : Ctx} {Z Z' : Hp} (h : Le Z Z') : ∀ {l : List (Int × D)} {vs : List (Key × V)}, RepI c Z l vs → RepI c Z' l vs
  | [], _, r => r
  | (k, d) :: ds, vs, r => by
    obtain ⟨v, t, e, q, r⟩ := r
    exact ⟨v, t, e, RepD.le h q, RepI.le h r⟩
end
theorem RepL.length {c : Ctx} {Z : Hp} : ∀ {l : List D} {vs : List V}, RepL c Z l vs → vs.length = l.length
  | [], _, r => by cases r; rfl
  | d :: ds, _, r => by obtain ⟨v, t, rfl, q, r⟩ := r; simp [RepL.length r]
theorem RepL.get {c : Ctx} {Z : Hp} : ∀ {l : List D} {vs : List V} {i : Nat} {d : D}, RepL c Z l vs → l[i]? = some d → ∃ v, vs[i]? = some v ∧ RepD c Z d v
  | [], _, _, _, _, e => by simp at e
  | d :: ds, _, 0, _, r, e => by obtain ⟨v, t, rfl, q, r⟩ := r; simp at e; subst e; exact ⟨v, rfl, q⟩
  | d :: ds, _, i + 1, _, r, e => by
    obtain ⟨v, t, rfl, q, r⟩ := r
    simp at e
    obtain ⟨v, h1, h2⟩ := RepL.get r e
    exact ⟨v, by simpa using h1, h2⟩
theorem RepL.append {c : Ctx} {Z : Hp} : ∀ {l m : List D} {vs ws : List V}, RepL c Z l vs → RepL c Z m ws → RepL c Z (l ++ m) (vs ++ ws)
  | [], _, _, _, r, s => by cases r; exact s
  | d :: ds, _, _, _, r, s => by obtain ⟨v, t, rfl, q, r⟩ := r; exact ⟨v, t ++ _, rfl, q, RepL.append r s⟩
theorem RepL.take {c : Ctx} {Z : Hp} : ∀ {l : List D} {vs : List V} (n : Nat), RepL c Z l vs → RepL c Z (l.take n) (vs.take n)
  | _, _, 0, _ => by simp [RepL]
  | [], _, n + 1, r => by cases r; simp [RepL]
  | d :: ds, _, n + 1, r => by obtain ⟨v, t, rfl, q, r⟩ := r; exact ⟨v, t.take n, rfl, q, RepL.take n r⟩
theorem RepL.drop {c : Ctx} {Z : Hp} : ∀ {l : List D} {vs : List V} (n : Nat), RepL c Z l vs → RepL c Z (l.drop n) (vs.drop n)
  | _, _, 0, r => r
  | [], _, n + 1, r => by cases r; simp [RepL]
  | d :: ds, _, n + 1, r => by obtain ⟨v, t, rfl, q, r⟩ := r; exact RepL.drop n r
theorem RepL.set {c : Ctx} {Z : Hp} {d : D} {v : V} (q : RepD c Z d v) : ∀ {l : List D} {vs : List V} (n : Nat), RepL c Z l vs → RepL c Z (l.set n d) (vs.set n v)
  | [], _, _, r => by cases r; simp [RepL]
  | _ :: _, _, 0, r => by obtain ⟨_, t, rfl, _, r⟩ := r; exact ⟨v, t, rfl, q, r⟩
  | _ :: _, _, n + 1, r => by obtain ⟨w, t, rfl, p, r⟩ := r; exact ⟨w, t.set n v, rfl, p, RepL.set q n r⟩
theorem RepL.ints {c : Ctx} {Z : Hp} : ∀ (ns : List Int), RepL c Z (ns.map D.int) (ns.map V.int)
  | [] => rfl
  | n :: ns => ⟨_, _, rfl, rfl, RepL.ints ns⟩
theorem RepL.reverse {c : Ctx} {Z : Hp} : ∀ {l : List D} {vs : List V}, RepL c Z l vs → RepL c Z l.reverse vs.reverse
  | [], _, r => by cases r; rfl
  | d :: ds, _, r => by
    obtain ⟨v, t, rfl, q, r⟩ := r
    rw [List.reverse_cons, List.reverse_cons]
    exact RepL.append (RepL.reverse r) ⟨v, [], rfl, q, rfl⟩
def RepC (c : Ctx) (Z : Hp) : Cell → HO → Prop
  | .lst l, o => ∃ vs, o = .lst vs ∧ RepL c Z l vs
  | .ins k fs, o => ∃ C dx vfs, o = .ins C dx vfs ∧ c.cn k = some C ∧ RepF c Z fs vfs
  | .dct l, o => ∃ kvs, o = .dK kvs ∧ RepK c Z l kvs
theorem RepC.le {c : Ctx} {Z Z' : Hp} (h : Le Z Z') : ∀ {x : Cell} {o : HO}, RepC c Z x o → RepC c Z' x o
  | .lst _, _, ⟨vs, e, r⟩ => ⟨vs, e, RepL.le h r⟩
  | .ins _ _, _, ⟨C, dx, vfs, e, q, r⟩ => ⟨C, dx, vfs, e, q, RepF.le h r⟩
  | .dct _, _, ⟨kvs, e, r⟩ => ⟨kvs, e, RepK.le h r⟩
def tame (o : HO) : Prop := (∀ ps, o ≠ .tbl ps) ∧ ∀ φ, o ≠ .ext φ
theorem RepC.tame {c : Ctx} {Z : Hp} : ∀ {x : Cell} {o : HO}, RepC c Z x o → tame o
  | .lst _, _, ⟨vs, e, _⟩ => by subst e; exact ⟨fun ps z => (by cases z), fun φ z => (by cases z)⟩
  | .ins _ _, _, ⟨C, dx, vfs, e, _, _⟩ => by subst e; exact ⟨fun ps z => (by cases z), fun φ z => (by cases z)⟩
  | .dct _, _, ⟨kvs, e, _⟩ => by subst e; exact ⟨fun ps z => (by cases z), fun φ z => (by cases z)⟩
theorem tabs_upd {H : Hp} {P p : Addr} {q : Str} {o : HO} (t : LamX.TabS H P q) (h : ∀ u, H p = some u → tame u) : LamX.TabS (upd H p o) P q := by
  obtain ⟨ps, h1, h2, h3⟩ := t
  have nP : P ≠ p := fun z => (h (.tbl ps) (by rw [← z]; exact h1)).1 ps rfl
  refine ⟨ps, by rw [upd_ne nP]; exact h1, h2, fun pos cv e => ?_⟩
  obtain ⟨c, e1, e2⟩ := h3 pos cv e
  exact ⟨c, e1, by rw [upd_ne fun z => (h (LamX.CodeO c q) (by rw [← z]; exact e2)).2 _ rfl]; exact e2⟩
structure Rel (c : Ctx) (Z : Hp) (S : Store) (H : Hp) : Prop where
  fz : ∀ a o, Z a = some o → H a = some o
  cl : ∀ a x, S a = some x → Z a = none ∧ ∃ o, H a = some o ∧ RepC c Z x o
  nt : ∀ a ps, Z a ≠ some (.tbl ps)
  tb : ∀ p ∈ c.tabs, LamX.TabS H p.1 p.2
theorem Rel.sub {c : Ctx} {Z : Hp} {S T : Store} {H : Hp} (R : Rel c Z T H) (h : Sub S T) : Rel c Z S H := ⟨R.fz, fun a x e => R.cl a x (h a x e), R.nt, R.tb⟩
theorem nt_upd {Z : Hp} {p : Addr} {o : HO} (h : ∀ a ps, Z a ≠ some (.tbl ps)) (n : ∀ ps, o ≠ .tbl ps) : ∀ a ps, upd Z p o a ≠ some (.tbl ps) := fun a ps e => by
  by_cases z : a = p
  · subst z; rw [upd_same] at e; exact n ps (Option.some.inj e)
  · rw [upd_ne z] at e; exact h a ps e
theorem Rel.tbu {c : Ctx} {Z : Hp} {S : Store} {H : Hp} (R : Rel c Z S H) {p : Addr} {o : HO} (h : ∀ u, H p = some u → tame u) : ∀ q ∈ c.tabs, LamX.TabS (upd H p o) q.1 q.2 := fun q hq => tabs_upd (R.tb q hq) h
theorem tame_lst {vs : List V} : tame (.lst vs) := ⟨fun ps z => (by cases z), fun φ z => (by cases z)⟩
theorem tame_dK {vs : List (Key × V)} : tame (.dK vs) := ⟨fun ps z => (by cases z), fun φ z => (by cases z)⟩
theorem tame_at {H : Hp} {p : Addr} {o : HO} (h : H p = some o) (t : tame o) : ∀ u, H p = some u → tame u := fun u e => by rw [h] at e; cases e; exact t
theorem no_tame {H : Hp} {p : Addr} (h : H p = none) : ∀ u, H p = some u → tame u := fun u e => by rw [h] at e; cases e
theorem Rel.new {c : Ctx} {Z : Hp} {S : Store} {H : Hp} (R : Rel c Z S H) {p : Addr} (h : H p = none) : S p = none ∧ Z p = none := by
  constructor
  · cases e : S p with
    | none => rfl
    | some x => obtain ⟨_, o, q, _⟩ := R.cl p x e; rw [h] at q; cases q
  · cases e : Z p with
    | none => rfl
    | some x => have := R.fz p x e; rw [h] at this; cases this
theorem le_upd {Z : Hp} {p : Addr} {o : HO} (h : Z p = none) : Le Z (upd Z p o) := fun a u e => by
  have : a ≠ p := by intro z; subst z; rw [h] at e; cases e
  rw [upd_ne this]; exact e
theorem Rel.frozen {c : Ctx} {Z : Hp} {S : Store} {H : Hp} (R : Rel c Z S H) {p : Addr} (h : H p = none) (o : HO) (no : ∀ ps, o ≠ .tbl ps := by (intro ps z; cases z)) : Le Z (upd Z p o) ∧ Rel c (upd Z p o) S (upd H p o) := by
  obtain ⟨h1, h2⟩ := R.new h
  refine ⟨le_upd h2, fun a u e => ?_, fun a x e => ?_, nt_upd R.nt no, R.tbu (no_tame h)⟩
  · by_cases z : a = p
    · subst z; rw [upd_same] at e ⊢; exact e
    · rw [upd_ne z] at e ⊢; exact R.fz a u e
  · have z : a ≠ p := by intro z; subst z; rw [h1] at e; cases e
    obtain ⟨n, o', q, r⟩ := R.cl a x e
    exact ⟨by rw [upd_ne z]; exact n, o', by rw [upd_ne z]; exact q, RepC.le (le_upd h2) r⟩
theorem Rel.fresh {c : Ctx} {Z : Hp} {S : Store} {H : Hp} (R : Rel c Z S H) {p : Addr} (h : H p = none) {o : HO} {x : Cell} (r : RepC c Z x o) : S p = none ∧ Rel c Z (put S p x) (upd H p o) := by
  obtain ⟨h1, h2⟩ := R.new h
  refine ⟨h1, fun a u e => ?_, fun a y e => ?_, R.nt, R.tbu (no_tame h)⟩
  · have z : a ≠ p := by intro z; subst z; rw [h2] at e; cases e
    rw [upd_ne z]; exact R.fz a u e
  · by_cases z : a = p
    · subst z
      rw [put_same] at e; cases e
      exact ⟨h2, o, upd_same, r⟩
    · rw [put_ne z] at e
      obtain ⟨n, o', q, r⟩ := R.cl a y e
      exact ⟨n, o', by rw [upd_ne z]; exact q, r⟩
theorem Rel.write {c : Ctx} {Z : Hp} {S : Store} {H : Hp} (R : Rel c Z S H) {p : Addr} {y : Cell} (h : S p = some y) {o : HO} {x : Cell} (r : RepC c Z x o) : Rel c Z (put S p x) (upd H p o) := by
  obtain ⟨n, o', q, rc⟩ := R.cl p y h
  refine ⟨fun a u e => ?_, fun a y e => ?_, R.nt, R.tbu fun u e => by rw [q] at e; cases e; exact rc.tame⟩
  · have z : a ≠ p := by intro z; subst z; rw [n] at e; cases e
    rw [upd_ne z]; exact R.fz a u e
  · by_cases z : a = p
    · subst z
      rw [put_same] at e; cases e
      exact ⟨n, o, upd_same, r⟩
    · rw [put_ne z] at e
      obtain ⟨n, o', q, r⟩ := R.cl a y e
      exact ⟨n, o', by rw [upd_ne z]; exact q, r⟩
theorem Rel.freeze {c : Ctx} {Z : Hp} {S : Store} {H : Hp} (R : Rel c Z S H) {p : Addr} {y : Cell} (h : S p = some y) : ∃ o, H p = some o ∧ RepC c Z y o ∧ Le Z (upd Z p o) ∧ Rel c (upd Z p o) (del S p) H := by
  obtain ⟨n, o, q, r⟩ := R.cl p y h
  refine ⟨o, q, r, le_upd n, fun a u e => ?_, fun a x e => ?_, nt_upd R.nt r.tame.1, R.tb⟩
  · by_cases z : a = p
    · subst z; rw [upd_same] at e; rw [q]; exact e
    · rw [upd_ne z] at e; exact R.fz a u e
  · have z : a ≠ p := by intro z; subst z; simp [del] at e
    simp only [del, if_neg z] at e
    obtain ⟨n', o', q', r'⟩ := R.cl a x e
    exact ⟨by rw [upd_ne z]; exact n', o', q', RepC.le (le_upd n) r'⟩
mutual
inductive Fz (S : Store) (F : Addr → Prop) : D → D → Prop
  | rfl (d : D) : Fz S F d d
  | ref {a : Addr} {l l' : List D} : S a = some (.lst l) → F a → FzL S F l l' → Fz S F (.ref a) (.fl l')
  | tup {l l' : List D} : FzL S F l l' → Fz S F (.tup l) (.tup l')
  | wk (l : List D) : Fz S F (.ptup l) (.tup l)
  | fl {l l' : List D} : FzL S F l l' → Fz S F (.fl l) (.fl l')
inductive FzL (S : Store) (F : Addr → Prop) : List D → List D → Prop
  | rfl (l : List D) : FzL S F l l
  | cons {d d' : D} {l l' : List D} : Fz S F d d' → FzL S F l l' → FzL S F (d :: l) (d' :: l')
end
theorem FzL.map {S : Store} {F : Addr → Prop} {α : Type} {f g : α → D} : ∀ {l : List α}, (∀ x ∈ l, Fz S F (f x) (g x)) → FzL S F (l.map f) (l.map g)
  | [], _ => .rfl _
  | x :: l, h => .cons (h x List.mem_cons_self) (FzL.map fun y hy => h y (List.mem_cons_of_mem _ hy))
open Classical in
noncomputable def zF (F : Addr → Prop) (Z H : Hp) : Hp := fun a => if F a then H a else Z a
structure FzS (S : Store) (F : Addr → Prop) (S' : Store) : Prop where
  had : ∀ a, F a → ∃ x, S a = some x
  sub : Sub S' S
  out : ∀ a, F a → S' a = none
theorem FzS.none {S S' : Store} (h : Sub S' S) : FzS S (fun _ => False) S' := ⟨fun _ h => h.elim, h, fun _ h => h.elim⟩
theorem FzS.one {S : Store} {a : Addr} {x : Cell} (h : S a = some x) : FzS S (fun b => b = a) (del S a) := ⟨fun b e => ⟨x, by rw [e]; exact h⟩, fun b y e => by
  unfold del at e
  split at e
  · cases e
  · exact e, fun b e => by rw [e]; simp [del]⟩
theorem zF_le {c : Ctx} {Z : Hp} {S : Store} {H : Hp} {F : Addr → Prop} (R : Rel c Z S H) : Le Z (zF F Z H) := fun a o e => by
  unfold zF
  split
  · exact R.fz a o e
  · exact e
theorem Rel.fzS {c : Ctx} {Z : Hp} {S S' : Store} {H : Hp} {F : Addr → Prop} (R : Rel c Z S H) (h : FzS S F S') : Rel c (zF F Z H) S' H := by
  refine ⟨fun a o e => ?_, fun a x e => ?_, fun a ps e => ?_, R.tb⟩
  rotate_left 2
  · unfold zF at e
    split at e
    · rename_i f
      obtain ⟨x, hx⟩ := h.had a f
      obtain ⟨_, o, q, r⟩ := R.cl a x hx
      rw [q] at e
      cases e
      exact r.tame.1 ps rfl
    · exact R.nt a ps e
  · unfold zF at e
    split at e
    · exact e
    · exact R.fz a o e
  · have nf : ¬ F a := fun z => by rw [h.out a z] at e; cases e
    obtain ⟨n, o, q, r⟩ := R.cl a x (h.sub a x e)
    exact ⟨by unfold zF; rw [if_neg nf]; exact n, o, q, RepC.le (zF_le R) r⟩
mutual
theorem Fz.rep {c : Ctx} {Z : Hp} {S : Store} {H : Hp} {F : Addr → Prop} (R : Rel c Z S H) : ∀ {d d' : D} {v : V}, Fz S F d d' → RepD c Z d v → RepD c (zF F Z H) d' v
  | _, _, _, .rfl d, r => RepD.le (zF_le R) r
  | _, _, _, .ref (a := a) (l := l) e f h, r => by
    cases r
    obtain ⟨_, o, q, vs, rfl, rl⟩ := R.cl a _ e
    exact ⟨a, vs, rfl, by unfold zF; rw [if_pos f]; exact q, FzL.rep R h rl⟩
  | _, _, _, .tup h, r => by
    obtain ⟨a, vs, e, q, r⟩ := r
    exact ⟨a, vs, e, SqT.le (zF_le R) q, FzL.rep R h r⟩
  | _, _, _, .fl h, r => by
    obtain ⟨a, vs, e, q, r⟩ := r
    exact ⟨a, vs, e, zF_le R _ _ q, FzL.rep R h r⟩
  | _, _, _, .wk l, r => by
    obtain ⟨a, vs, o, e, q, n, r⟩ := r
    exact ⟨a, vs, e, .inl (.inr ⟨o, zF_le R _ _ q⟩), RepL.le (zF_le R) r⟩
theorem FzL.rep {c : Ctx} {Z : Hp} {S : Store} {H : Hp} {F : Addr → Prop} (R : Rel c Z S H) : ∀ {l l' : List D} {vs : List V}, FzL S F l l' → RepL c Z l vs → RepL c (zF F Z H) l' vs
  | _, _, _, .rfl l, r => RepL.le (zF_le R) r
  | _, _, _, .cons h1 h2, r => by
    obtain ⟨v, t, e, q, r⟩ := r
    exact ⟨v, t, e, Fz.rep R h1 q, FzL.rep R h2 r⟩
end
abbrev Env := List (Option D)
structure REnv (c : Ctx) (Z : Hp) (ρ : Env) (σ : L2.St) : Prop where
  len : σ.length = ρ.length
  at_ : ∀ (i : Nat) d, ρ[i]? = some (some d) → ∃ v, σ[i]? = some (some v) ∧ RepD c Z d v
theorem REnv.le {c : Ctx} {Z Z' : Hp} (h : Le Z Z') {ρ : Env} {σ : L2.St} (R : REnv c Z ρ σ) : REnv c Z' ρ σ := ⟨R.len, fun i d e => by
  obtain ⟨v, a, b⟩ := R.at_ i d e
  exact ⟨v, a, RepD.le h b⟩⟩
theorem REnv.set {c : Ctx} {Z : Hp} {ρ : Env} {σ : L2.St} (R : REnv c Z ρ σ) (i : Nat) {d : D} {v : V} (r : RepD c Z d v) : REnv c Z (ρ.set i (some d)) (σ.set i (some v)) := by
  refine ⟨by simp [R.len], fun j e h => ?_⟩
  rw [List.getElem?_set] at h ⊢
  by_cases z : i = j
  · subst z
    rw [if_pos rfl] at h ⊢
    by_cases hl : i < ρ.length
    · rw [if_pos hl] at h; rw [if_pos (by rw [R.len]; exact hl)]
      cases h
      exact ⟨v, rfl, r⟩
    · rw [if_neg hl] at h; cases h
  · rw [if_neg z] at h ⊢
    exact R.at_ j e h
theorem REnv.unset {c : Ctx} {Z : Hp} {ρ : Env} {σ : L2.St} (R : REnv c Z ρ σ) (i : Nat) : REnv c Z (ρ.set i none) (σ.set i none) := by
  refine ⟨by simp [R.len], fun j e h => ?_⟩
  rw [List.getElem?_set] at h ⊢
  by_cases z : i = j
  · subst z
    rw [if_pos rfl] at h
    split at h <;> cases h
  · rw [if_neg z] at h ⊢
    exact R.at_ j e h
def wipeD (ρ : Env) : List Nat → Env
  | [] => ρ
  | v :: vs => (wipeD ρ vs).set v none
theorem REnv.wipe {c : Ctx} {Z : Hp} {ρ : Env} {σ : L2.St} (R : REnv c Z ρ σ) : ∀ vs : List Nat, REnv c Z (wipeD ρ vs) (L2.wipe σ vs)
  | [] => R
  | v :: vs => REnv.unset (REnv.wipe R vs) v
inductive Exc where
  | own (c : Nat) (fs : List (Nat × D))
  | blt (T : String)
def RepX (c : Ctx) (Z : Hp) : Exc → Value → Option Addr → Prop
  | .own k fs, cls, dd => ∃ C, c.cn k = some C ∧ cls = .ref C ∧ ((fs = []) ∨ ∃ d vfs, dd = some d ∧ Z d = some (.xd vfs) ∧ RepF c Z fs vfs)
  | .blt T, cls, _ => cls = .type T
abbrev QE := D → Store → Prop
abbrev QX := Exc → Store → Prop
abbrev WE := Env → Store → QE → QX → Prop
abbrev WT := Env → Store → (Bool → Store → Prop) → QX → Prop
abbrev WA := Env → Store → (List D → Store → Prop) → QX → Prop
structure EndsD where
  nx : Env → Store → Prop
  rt : D → Store → Prop
  ex : Env → Exc → Store → Prop
abbrev WS := EndsD → Env → Store → Prop
structure Wd where
  Z : Hp
  S : Store
  H : Hp
structure Nx (w w' : Wd) : Prop where
  le : Le w.Z w'.Z
  fm : ∀ a o, w.H a = some o → tame o → w.S a = none → w'.H a = some o ∧ w'.S a = none ∧ (w.Z a = none → w'.Z a = none)
theorem Nx.refl (w : Wd) : Nx w w := ⟨Le.refl _, fun _ _ h _ k => ⟨h, k, id⟩⟩
theorem Nx.trans {u v w : Wd} (h : Nx u v) (k : Nx v w) : Nx u w := ⟨h.le.trans k.le, fun a o e t f => by
  obtain ⟨h1, h2, h3⟩ := h.fm a o e t f
  obtain ⟨k1, k2, k3⟩ := k.fm a o h1 t h2
  exact ⟨k1, k2, fun z => k3 (h3 z)⟩⟩
theorem Nx.sub {Z : Hp} {S T : Store} {H : Hp} (h : Sub T S) : Nx ⟨Z, S, H⟩ ⟨Z, T, H⟩ := ⟨Le.refl _, fun a o e _ f => ⟨e, (by
  show T a = none
  cases q : T a with
  | none => rfl
  | some x =>
    have := h a x q
    rw [show S a = none from f] at this
    cases this), id⟩⟩
theorem Nx.frozen {Z : Hp} {S : Store} {H : Hp} {p : Addr} (hz : Z p = none) (h : H p = none) (o : HO) : Nx ⟨Z, S, H⟩ ⟨upd Z p o, S, upd H p o⟩ := ⟨le_upd hz, fun a u e _ f => by
  have : a ≠ p := by intro z; subst z; rw [show H a = some u from e] at h; cases h
  exact ⟨by show upd H p o a = some u; rw [upd_ne this]; exact e, f, fun z => by show upd Z p o a = none; rw [upd_ne this]; exact z⟩⟩
theorem Nx.fresh {Z : Hp} {S : Store} {H : Hp} {p : Addr} (h : H p = none) (o : HO) (x : Cell) : Nx ⟨Z, S, H⟩ ⟨Z, put S p x, upd H p o⟩ := ⟨Le.refl _, fun a u e _ f => by
  have : a ≠ p := by intro z; subst z; rw [show H a = some u from e] at h; cases h
  exact ⟨by show upd H p o a = some u; rw [upd_ne this]; exact e, by show put S p x a = none; rw [put_ne this]; exact f, id⟩⟩
theorem Nx.write {Z : Hp} {S : Store} {H : Hp} {p : Addr} {y : Cell} (h : S p = some y) (o : HO) (x : Cell) : Nx ⟨Z, S, H⟩ ⟨Z, put S p x, upd H p o⟩ := ⟨Le.refl _, fun a u e _ f => by
  have : a ≠ p := by intro z; subst z; rw [show S a = none from f] at h; cases h
  exact ⟨by show upd H p o a = some u; rw [upd_ne this]; exact e, by show put S p x a = none; rw [put_ne this]; exact f, id⟩⟩
theorem Nx.beside {Z : Hp} {S : Store} {H : Hp} {p : Addr} (h : H p = none) (o : HO) : Nx ⟨Z, S, H⟩ ⟨Z, S, upd H p o⟩ := ⟨Le.refl _, fun a u e _ f => by
  have : a ≠ p := by intro z; subst z; rw [show H a = some u from e] at h; cases h
  exact ⟨by show upd H p o a = some u; rw [upd_ne this]; exact e, f, id⟩⟩
theorem Nx.touch {w : Wd} {Z : Hp} {S : Store} {H : Hp} {p : Addr} (l : Nx w ⟨Z, S, H⟩) (h : w.H p = none) (o : HO) : Nx w ⟨Z, S, upd H p o⟩ := ⟨l.le, fun a u e t f => by
  have : a ≠ p := by intro z; subst z; rw [e] at h; cases h
  obtain ⟨h1, h2, h3⟩ := l.fm a u e t f
  exact ⟨by show upd H p o a = some u; rw [upd_ne this]; exact h1, h2, h3⟩⟩
theorem Nx.freeze {Z : Hp} {S : Store} {H : Hp} {p : Addr} {y : Cell} (h : S p = some y) (hz : Z p = none) (o : HO) : Nx ⟨Z, S, H⟩ ⟨upd Z p o, del S p, H⟩ := ⟨le_upd hz, fun a u e _ f => by
  have : a ≠ p := by intro z; subst z; rw [show S a = none from f] at h; cases h
  exact ⟨e, by show del S p a = none; unfold del; rw [if_neg this]; exact f, fun z => by show upd Z p o a = none; rw [upd_ne this]; exact z⟩⟩
theorem Nx.fzS {c : Ctx} {Z : Hp} {S S' : Store} {H : Hp} {F : Addr → Prop} (R : Rel c Z S H) (h : FzS S F S') : Nx ⟨Z, S, H⟩ ⟨zF F Z H, S', H⟩ := ⟨zF_le R, fun a u e _ f => by
  have nf : ¬ F a := fun z => by
    obtain ⟨x, q⟩ := h.had a z
    rw [show S a = none from f] at q; cases q
  refine ⟨e, ?_, fun z => by show zF F Z H a = none; unfold zF; rw [if_neg nf]; exact z⟩
  show S' a = none
  cases q : S' a with
  | none => rfl
  | some x =>
    have := h.sub a x q
    rw [show S a = none from f] at this; cases this⟩
theorem Rel.beside {c : Ctx} {Z : Hp} {S : Store} {H : Hp} (R : Rel c Z S H) {p : Addr} (hz : Z p = none) (hs : S p = none) (o : HO) (hh : ∀ u, H p = some u → tame u) : Rel c Z S (upd H p o) := by
  refine ⟨fun a u e => ?_, fun a x e => ?_, R.nt, R.tbu hh⟩
  · have z : a ≠ p := by intro z; subst z; rw [hz] at e; cases e
    rw [upd_ne z]; exact R.fz a u e
  · have z : a ≠ p := by intro z; subst z; rw [hs] at e; cases e
    obtain ⟨n, o', q, r⟩ := R.cl a x e
    exact ⟨n, o', by rw [upd_ne z]; exact q, r⟩
def Lk (c : Ctx) (w : Wd) {α β : Type} (R : Hp → α → β → Prop) (QD : α → Store → Prop) (Q : β → Hp → Prop) : Prop :=
  ∀ d v Z' S' H', Nx w ⟨Z', S', H'⟩ → Rel c Z' S' H' → R Z' d v → QD d S' → Q v H'
def LkX (c : Ctx) (w : Wd) (E : QX) (W : Value → Option Addr → Hp → Prop) : Prop :=
  ∀ x Z' S' H' cls dd, Nx w ⟨Z', S', H'⟩ → Rel c Z' S' H' → RepX c Z' x cls dd → E x S' → W cls dd H'
theorem Lk.le {c : Ctx} {w w' : Wd} {α β : Type} {R : Hp → α → β → Prop} {QD : α → Store → Prop} {Q : β → Hp → Prop} (h : Lk c w R QD Q) (l : Nx w w') : Lk c w' R QD Q :=
  fun d v Z' S' H' l' => h d v Z' S' H' (l.trans l')
theorem LkX.le {c : Ctx} {w w' : Wd} {E : QX} {W : Value → Option Addr → Hp → Prop} (h : LkX c w E W) (l : Nx w w') : LkX c w' E W :=
  fun x Z' S' H' v dd l' => h x Z' S' H' v dd (l.trans l')
theorem Lk.go {c : Ctx} {Z : Hp} {α β : Type} {R : Hp → α → β → Prop} {QD : α → Store → Prop} {Q : β → Hp → Prop} {S : Store} {H : Hp} (h : Lk c ⟨Z, S, H⟩ R QD Q) {d : α} {v : β} (r : Rel c Z S H) (q : R Z d v) (k : QD d S) : Q v H :=
  h d v Z S H (Nx.refl _) r q k
structure LkS (c : Ctx) (w : Wd) (E : EndsD) (W : WX) (Dn : Ends) : Prop where
  nx : ∀ ρ' Z' S' H' σ', Nx w ⟨Z', S', H'⟩ → Rel c Z' S' H' → REnv c Z' ρ' σ' → E.nx ρ' S' → Dn.nx σ' H'
  rt : Lk c w (RepD c) E.rt Dn.rt
  ex : ∀ ρ' x Z' S' H' σ' cls dd, Nx w ⟨Z', S', H'⟩ → Rel c Z' S' H' → REnv c Z' ρ' σ' → RepX c Z' x cls dd → E.ex ρ' x S' → W cls dd σ' H'
def LS (c : Ctx) (W : WX) (w : WS) : TS := fun Dn σ H => ∃ Z S ρ E, Rel c Z S H ∧ REnv c Z ρ σ ∧ w E ρ S ∧ LkS c ⟨Z, S, H⟩ E W Dn
theorem LkS.le {c : Ctx} {w w' : Wd} {E : EndsD} {W : WX} {Dn : Ends} (h : LkS c w E W Dn) (l : Nx w w') : LkS c w' E W Dn :=
  ⟨fun ρ' Z' S' H' σ' l' => h.nx ρ' Z' S' H' σ' (l.trans l'), h.rt.le l, fun ρ' x Z' S' H' σ' cls dd l' => h.ex ρ' x Z' S' H' σ' cls dd (l.trans l')⟩
end L3
set_option maxHeartbeats 2000000
namespace L3
open PySem PySem.Spec PyProof.Rows L2
structure Room (k : Nat) (A : Around) : Prop where
  b : L2.Room k A
  gd : A.guards = some []
theorem Room.mono {j k : Nat} {A : Around} (r : Room k A) (h : j ≤ k) : Room j A := ⟨r.b.mono h, r.gd⟩
theorem Room.deeper {k : Nat} {A : Around} (r : Room (k + 1) A) (env : PySem.Env) : Room k (A.deeper env) := ⟨r.b.deeper env, r.gd⟩
theorem Room.in1 {k : Nat} {A : Around} (r : Room (k + 1) A) : Room k A.in1 := ⟨r.b.in1, r.gd⟩
theorem Room.make {k : Nat} {A : Around} (r : Room (k + 1) A) (C : Addr) (us : List Value) (kw : List (Str × Value)) : Room k (A.under (.builtin "type.__call__" ⟨.ref C :: us, kw⟩)) := by
  refine ⟨r.b.make C us kw, ?_⟩
  have e : (Code.builtin "type.__call__" ⟨.ref C :: us, kw⟩).guards = [] := by
    unfold Code.guards
    have : (Code.builtin "type.__call__" ⟨.ref C :: us, kw⟩).isGuard = false := by
      show guardIds.contains "type.__call__" = false
      decide +kernel
    rw [this]
    rfl
  show pushGuards (Code.builtin "type.__call__" ⟨.ref C :: us, kw⟩).guards A.guards = some []
  rw [e]
  exact r.gd
structure FnOk (P : Program) (w : World) (K : PySem.W.Frag) (mg : Str → Option Value) (base : Heap) (CX : CXT) (k : Nat) (f : Addr) (fd : FuncData) (ps : List Str) (sp : Sp) : Prop where
  len : ∀ vs H Q E, sp vs H Q E → vs.length = ps.length
  run : ∀ (A : Around) (outer : List PySem.Env) (s : Shared) (H : Hp) (args : Args) (us : List Value) (vs : List V) (Q : VK) (E : XK), Room k A →
    Env0 P w K mg base A outer s H → BindsTo s fd args (ps.zip us) → Vals vs us → sp vs H Q E → codeAny (model P w) A (.call (.ref f) args) (CR CX outer P w H s Q E) s
theorem FnOk.mono {P : Program} {w : World} {K : PySem.W.Frag} {mg : Str → Option Value} {base : Heap} {CX : CXT} {j k : Nat} {f : Addr} {fd : FuncData} {ps : List Str} {sp : Sp}
    (F : FnOk P w K mg base CX j f fd ps sp) (h : j ≤ k) : FnOk P w K mg base CX k f fd ps sp :=
  ⟨F.len, fun A outer s H args us vs Q E r => F.run A outer s H args us vs Q E (r.mono h)⟩
theorem fn_ofG {CX : CXT} {P : Program} {w : World} {K : PySem.W.Frag} {mg : Str → Option Value} {base : Heap} {k : Nat} {f : Addr} {x qual : Str} {params : Arguments} {body : List Stmt} {scope : Scope}
    {dV kV doc pm cdv ct oc : Value} {an od : Option Addr} {osl : Array (Option Value)} {N ps : List Str} {sp : Sp}
    (lk : K.lookup f = some ⟨oc, od, .func (PySem.W.fnOf x qual params body scope dV kV doc pm an cdv ct), osl⟩) (cd : PySem.W.codeIn K cdv qual = true) (S : FnScope N ps scope)
    (len : ∀ vs H Q E, sp vs H Q E → vs.length = ps.length)
    (hbody : ∀ (A : Around) (outer : List PySem.Env) (s : Shared) (H : Hp) (vs : List V) (Q : VK) (E : XK), Room k (A.deeper (envOfC qual scope s.heap.objs.size f cdv)) →
      sp vs H Q E → ∃ t, PSs (cxOf CX P w K mg base N qual scope f cdv A outer s H E) body t ∧ t { nx := fun _ H' => Q .non H', rt := Q } (L2.start N vs) H) :
    FnOk P w K mg base CX (k + 1) f (PySem.W.fnOf x qual params body scope dV kV doc pm an cdv ct) ps sp := by
  refine ⟨len, fun A outer s H args us vs Q E room e0 bnd rv hsp => ?_⟩
  have nps := len _ _ _ _ hsp
  have inH : K.In s.heap := e0.mod.kin.keeps fun b o z => (e0.bs b o z).1
  have nolim : s.heap.NoLimit := e0.mod.nolimit.keeps fun b o z => (e0.bs b o z).1
  have kinds : ∀ y ∈ ps.zip us, scope.names.lookup y.1 = some .local ∨
      (scope.names.lookup y.1 = some .cell ∧ ((cellsFrom (s.heap.objs.size + 1) scope.names []).lookup y.1).isSome = true) := by
    intro ⟨n, v⟩ hy
    cases S.par n (List.of_mem_zip hy).1 with
    | inl q => exact .inl q
    | inr q => exact .inr ⟨q, PySem.W.cellsFrom_some _ _ _ (.inl q)⟩
  refine codeAny_call_function room.b.depth (inH _ _ lk) rfl S.co S.gen rfl (PySem.W.codeRec_of inH cd) (bnd _ _ _ _ ?_)
  refine wpAny_newFunctionEnv_cells S.kind kinds fun env he s1 ic => ?_
  subst he
  refine ⟨nolim.keeps ic.toInCall.keep, codeAny_func ?_⟩
  obtain ⟨t, ht, hq⟩ := hbody A outer s H vs Q E (room.deeper _) hsp
  refine wpAny_mono (ht.run [] s1 (L2.start N vs) H _ (inv_start S room.b.hd e0 nps rv ic) hq) (fun fl s' hs => ?_) fun e s' hs => hs
  cases fl with
  | ret u =>
    obtain ⟨v, σ', H', J, ru, q⟩ := hs
    exact ⟨v, H', J.os, J.bare, J.base, J.hok, ru, q⟩
  | next =>
    obtain ⟨σ', H', J, q⟩ := hs
    exact ⟨.non, H', J.os, J.bare, J.base, J.hok, rfl, q⟩
  | brk => exact hs.elim fun _ hs => hs.elim fun _ hs => hs.2.elim
  | cont => exact hs.elim fun _ hs => hs.elim fun _ hs => hs.2.elim
theorem funD_ok {CX : CXT} {P : Program} {w : World} {K : PySem.W.Frag} {mg : Str → Option Value} {base : Heap} {x qual : Str} {params : Arguments} {body : List Stmt} {scope : Scope} {dvs : List V} {kws : List (Str × V)} {f : Addr} {fd : FuncData}
    {N ps : List Str} {k : Nat} {sp : Sp} (F : FunD K x qual params body scope dvs kws f fd) (S : FnScope N ps scope) (len : ∀ vs H Q E, sp vs H Q E → vs.length = ps.length)
    (hbody : ∀ (cdv : Value) (A : Around) (outer : List PySem.Env) (s : Shared) (H : Hp) (vs : List V) (Q : VK) (E : XK), Room k (A.deeper (envOfC qual scope s.heap.objs.size f cdv)) →
      sp vs H Q E → ∃ t, PSs (cxOf CX P w K mg base N qual scope f cdv A outer s H E) body t ∧ t { nx := fun _ H' => Q .non H', rt := Q } (L2.start N vs) H) : FnOk P w K mg base CX (k + 1) f fd ps sp := by
  obtain ⟨oc, od, dV, kV, doc, pm, an, cdv, ct, osl, e, lk, cd, _, _⟩ := F.ex
  subst e
  exact fn_ofG lk cd S len fun A outer s H vs Q E r q => hbody cdv A outer s H vs Q E r q
section
variable {X : Cx} {CX : CXT} {k : Nat} {f : Addr} {fd : FuncData} {ps : List Str} {sp : Sp} {dvs : List V} {ds : List Value} {E : L2.St → XK} {x : Str} {p pos : Pos} {e : Expr} {es : List Expr} {t : TA}
theorem run_fnSD {pins : List (Addr × Obj)} {σ : L2.St} {H : Hp} {s : Shared} {Q : VK} {us : List Value} {vs : List V}
    (F : FnOk X.prog X.w X.K X.mg X.base CX k f fd ps sp) (room : Room k X.A) (hb : Binds X.K fd ps ds) (hd : Vals dvs ds) (pass : PassesAt CX X σ (E σ))
    (I : Inv X pins σ H s) (r : Vals vs us) (h : sp (vs ++ dvs) H Q (E σ)) : wpAny (model X.prog X.w) X.A (call (.ref f) us) (EP X pins σ Q) X.xe s := by
  have ra := r.append hd
  have n1 : (us ++ ds).length = ps.length := ra.length.symm.trans (F.len _ _ _ _ h)
  refine wpAny_call (codeAny_mono (F.run X.A X.stack s H ⟨us, []⟩ _ _ Q (E σ) room I.env0 (hb s us I.kIn n1) ra h) ?_)
  rintro (e | fl) s' z
  · exact pass pins H s e s' I z
  · cases fl with
    | ret u => exact I.after z
    | _ => exact z.elim
theorem pe_callSD (F : FnOk X.prog X.w X.K X.mg X.base CX k f fd ps sp) (room : Room k X.A) (hg : Gl X x) (hm : X.mg x = some (.ref f)) (kp : PySem.W.keepIn X.K (.ref f) = true) (hb : Binds X.K fd ps ds) (hd : Vals dvs ds)
    (pass : ∀ σ, PassesAt CX X σ (E σ)) (ha : PA X (e :: es) t) (hdb : (x == ("__debug__" : Str)) = false)
    (he : starEach (e :: es) X.env = (false, eval e X.env) :: starEach es X.env) (hpl : (backTo pos (starEach es X.env)).any (·.1) = false) :
    PE X (.Call (.Name x p) (e :: es) [] pos) (tCallSD sp dvs E t) := ⟨fun pins s σ H Q I h =>
  wpAny_Call_Name_kw (ld_glob I hg hm (PySem.W.callWith_K (h₀ := X.base) I.ok.mod.kin kp (thn (ha.run pos pins s σ H _ I h) fun us s1 ⟨vs, H1, I1, r, q⟩ =>
    ⟨I1.kIn, run_fnSD F room hb hd (pass σ) I1 r q⟩) he hpl) hdb)⟩
end
section
variable {X : Cx} {CX : CXT} {k : Nat} {C p g a dx : Addr} {fs : List (Str × V)} {f : Str} {fd : FuncData} {ps : List Str} {sp : Sp} {dvs : List V} {ds : List Value} {E : XK} {e : Expr} {pos : Pos} {ta : TE}
theorem getprop_ok {pins : List (Addr × Obj)} {σ : L2.St} {H : Hp} {s : Shared} {Q : VK} {b : Bool} {E' : Value → Shared → Prop} (I : Inv X pins σ H s) (ea : H a = some (.ins C dx fs)) (c : Cls X.K C)
    (hp : PropOf X.K C f p g) (F : FnOk X.prog X.w X.K X.mg X.base CX k g fd ps sp) (room : Room (k + 1) X.A) (hb : Binds X.K fd ps ds) (hd : Vals dvs ds) (hx : Passes CX X.nox E) (h : sp (.ref a :: dvs) H Q E) :
    wpAny (model X.prog X.w) X.A (getAttr (.ref a) f b) (EP X pins σ Q) E' s := by
  obtain ⟨mA, O, _⟩ := ins_get I.hok ea
  obtain ⟨od, J, _⟩ := O.look
  obtain ⟨rest, hrec⟩ := hp.rec_
  have It := I.tok (s.toks + 1)
  have ra : Vals (V.ref a :: dvs) (Value.ref a :: ds) := .cons rfl hd
  have n1 : ([Value.ref a] ++ ds).length = ps.length := ra.length.symm.trans (F.len _ _ _ _ h)
  have isC : (PySem.W.clsIn X.K C).isSome = true := by
    obtain ⟨cd, z, _⟩ := PySem.W.any_some c.hd
    rw [z]; rfl
  refine PySem.W.get_bind I.kIn J (PySem.W.plainGet_of (c.get f)).1 (PySem.W.findObj_data isC hp.at_ hp.get hp.tak) (PySem.W.plainGet_of (c.get f)).2 ?_
  refine wpAny_call (PySem.W.prop_get (s := { s with toks := s.toks + 1 }) I.kIn hrec ?_)
  refine codeAny_mono (F.run X.A.in1 X.stack _ H ⟨[.ref a], []⟩ _ _ Q E room.in1 It.env0.in1 (hb _ [.ref a] I.kIn n1) ra h) ?_
  rintro (er | fl) s' z
  · exact (hx pins σ H { s with toks := s.toks + 1 } er s' (It.wish _) z).elim
  · cases fl with
    | ret u =>
      obtain ⟨v, H', I3, rv, q⟩ := It.after z
      show wpAny _ _ (handedOut u) _ _ _
      rw [PySem.W.handedOut_of (handed_of rv)]
      exact wpAny_pure ⟨v, H', I3, rv, q⟩
    | _ => exact z.elim
theorem pe_prop (he : PE X e ta) (c : Cls X.K C) (hp : PropOf X.K C f p g) (F : FnOk X.prog X.w X.K X.mg X.base CX k g fd ps sp) (room : Room (k + 1) X.A) (hb : Binds X.K fd ps ds) (hd : Vals dvs ds) (hx : Passes CX X.nox E)
    (hab : attributeBase e f X.env (eval e X.env) = eval e X.env) : PE X (.Attribute e f pos) (tProp C sp dvs E ta) := ⟨fun pins s σ H Q I h => by
  refine attr_of hab (thn (he.run pins s σ H _ I h) fun u s1 ⟨y, H1, I1, ry, a, dx, fs, ey, ea, q⟩ => ?_)
  subst ey
  obtain rfl : u = Value.ref a := ry
  exact getprop_ok I1 ea c hp F room hb hd hx q⟩
end
theorem law_callG {P : Program} {w : World} {K : PySem.W.Frag} {mg mb : Str → Option Value} {CX : CXT} {k : Nat} {fa a : Addr} {fd : FuncData} {x : Str} {sp : Sp} {s₁ : Shared} {us : List Value} {ns : List Int}
    (inK : K.In s₁.heap) (hns : s₁.heap.Ns mainGlobals mg) (hb : s₁.heap.Ns builtinsNs mb) (hbb : ∀ y : Str, y ≠ "__name__" → mb y = bootBuiltins y) (hlim : s₁.heap.NoLimit) (hg : s₁.gens = #[])
    (at_ : s₁.heap.get? a = some { cls := .type "list", data := .seq us.toArray }) (iv : IntsAre us ns) (hl : ns.length ≤ sizeLine) (room : Room k callerA)
    (F : ∀ base : Heap, K.In base → base.Ns mainGlobals mg → FnOk P w K mg base CX k fa fd [x] sp) (bnd : ∀ (s : Shared) (u : Value), BindsTo s fd ⟨[u], []⟩ [(x, u)])
    (hsp : ∀ H : Hp, Only H → SqL K H a (ns.map V.int) → sp [.ref a] H (fun v _ => v = .bl true) fun _ _ _ => False) (hCX : ∀ H e s', CX [] H s₁ (fun _ _ _ => False) e s' → False) :
    codeAny (model P w) callerA (.call (.ref fa) ⟨[.ref a], []⟩) (fun r s' => r = .ok (.ret (.bool true)) ∧ OldK s₁.heap s'.heap ∧ s'.os = s₁.os ∧ AllBare s'.gens) s₁ := by
  have rvs := vals_ints iv
  have nus := iv.length
  have core : ∀ H : Hp, Only H → SqL K H a (ns.map V.int) → HOk P w H s₁.heap → (∀ b, H b ≠ none → b = a) → (H a ≠ none → K.lookup a = none) →
      codeAny (model P w) callerA (.call (.ref fa) ⟨[.ref a], []⟩) (fun r s' => r = .ok (.ret (.bool true)) ∧ OldK s₁.heap s'.heap ∧ s'.os = s₁.os ∧ AllBare s'.gens) s₁ := by
    intro H only sq hok onlyA notK
    have hid : ∀ {b : Addr} {o : Obj}, s₁.heap.get? b = some o → H b = none → (hidT s₁.heap H).get? b = some o := fun e n => hidT_get e n
    have dicts : ∀ {b : Addr} {o : Obj} {es : Array DictEntry} {ep : Nat}, s₁.heap.get? b = some o → o.data = .dict es ep → H b = none := by
      intro b o es ep e d
      cases q : H b with
      | none => rfl
      | some u =>
        obtain rfl : b = a := onlyA b (by rw [q]; simp)
        rw [at_] at e; cases e
        cases (show Data.seq us.toArray _ = Data.dict es ep from d)
    have nss : ∀ {b : Addr} {m : Str → Option Value}, s₁.heap.Ns b m → (hidT s₁.heap H).Ns b m := fun ⟨o, es, ep, e, d, r⟩ => ⟨o, es, ep, hid e (dicts e d), d, r⟩
    have inB : K.In (hidT s₁.heap H) := by
      intro b o e
      refine hid (inK b o e) ?_
      cases q : H b with
      | none => rfl
      | some u =>
        obtain rfl : b = a := onlyA b (by rw [q]; simp)
        rw [notK (by rw [q]; simp)] at e; cases e
    have nl : (hidT s₁.heap H).NoLimit := let ⟨mc, h1, h2⟩ := hlim; ⟨mc, nss h1, h2⟩
    have e0 : Env0 P w K mg (hidT s₁.heap H) callerA [] s₁ H :=
      ⟨rfl, ⟨inB, nss hns, ⟨mb, nss hb, hbb⟩, nl⟩, fun b o e => of_hidT e, Nat.le_of_eq (hidT_size _ _), trivial, fun b hb => absurd hb List.not_mem_nil, hok, .of_eq hg⟩
    have one : Vals [V.ref a] [Value.ref a] := .cons rfl .nil
    refine codeAny_mono ((F _ inB (nss hns)).run callerA [] s₁ H ⟨[.ref a], []⟩ [Value.ref a] [V.ref a] _ _ room e0 (bnd s₁ (.ref a)) one (hsp H only sq)) ?_
    rintro (e | fl) s' z
    · exact (hCX H e s' z).elim
    · cases fl with
      | ret u =>
        obtain ⟨v, H', os, bare, un, hok', rv, q⟩ := z
        cases (show v = .bl true from q)
        obtain rfl : u = Value.bool true := rv
        refine ⟨rfl, OldK.of_keep fun b o e => ?_, os, bare⟩
        cases q : H b with
        | none => exact un.keep b o e q (fun z => absurd z List.not_mem_nil) (fun z => absurd z List.not_mem_nil)
        | some y =>
          rcases only b with z | ⟨ob, xs, z⟩
          · rw [q] at z; cases z
          · obtain ⟨e1, _⟩ := hok b _ z
            obtain ⟨e2, _⟩ := hok' b _ (un.frzs b ob _ z)
            rw [e] at e1; cases e1
            exact e2
      | _ => exact z.elim
  cases hk : K.lookup a with
  | some o =>
    have e := inK a o hk
    rw [at_] at e
    cases e
    refine core (fun _ => none) (fun _ => .inl rfl) (.inr ⟨_, us.toArray, _, hk, rfl, rfl, rfl, ?_, by simpa using rvs⟩) (fun b u z => ?_) (fun b z => absurd rfl z) (fun z => absurd rfl z)
    · rw [List.size_toArray, nus]; exact hl
    · cases (show (none : Option HO) = some u from z)
  | none =>
    let o0 : Obj := { cls := .type "list", data := .seq us.toArray }
    have at0 : ∀ b, b ≠ a → (if b = a then some (HO.frz o0 (.lst (ns.map V.int))) else none) = none := fun b z => if_neg z
    refine core (fun b => if b = a then some (.frz o0 (.lst (ns.map V.int))) else none) (fun b => ?_) (.inl (.inr ⟨o0, if_pos rfl⟩)) (fun b u z => ?_) (fun b z => ?_) fun _ => hk
    all_goals by_cases eb : b = a
    · exact .inr ⟨_, _, if_pos eb⟩
    · exact .inl (at0 b eb)
    · have z' := (if_pos eb).symm.trans z
      cases z'
      subst eb
      exact ⟨at_, by rw [List.length_map]; exact hl, us, _, rvs, at_⟩
    · have z' := (at0 b eb).symm.trans z
      cases z'
    · exact eb
    · exact absurd (at0 b eb) z
theorem walk_G {l : PySem.W.OpenLaw} {n k : Nat} {q : Program} {loose : List Str} {XP : (Str → Option Value) → Heap → Prop} {YP : World → Heap → Prop} {d : DefRec} {x : Str}
    (hn : l.most = some n) (hn2 : n ≤ sizeLine) (hdf : d.params.defaults = []) (room : Room k callerA)
    (F : ∀ (w : World) (mg : Str → Option Value) (fa : Addr) (h : Heap), YP w h → h.Ns mainGlobals mg → mg d.name = some (.ref fa) →
      ∃ (K : PySem.W.Frag) (fd : FuncData) (sp : Sp), K.In h ∧ (∀ (s : Shared) (u : Value), BindsTo s fd ⟨[u], []⟩ [(x, u)]) ∧
        (∀ (H : Hp) (a : Addr) (ns : List Int), ns.length ≤ n → Only H → SqL K H a (ns.map V.int) → sp [.ref a] H (fun v _ => v = .bl true) fun _ _ _ => False) ∧
        ∀ base : Heap, K.In base → base.Ns mainGlobals mg → FnOk l.prog w K mg base (L2.CX l.prog w) k fa fd [x] sp)
    (hCX : ∀ (w : World) (H : Hp) (s : Shared) (e : Value) (s' : Shared), L2.CX l.prog w [] H s (fun _ _ _ => False) e s' → False) :
    PySem.W.WalkO q loose XP YP l.row.toRowW d [] (fun f vs => PySem.call f vs) := by
  refine Att.attach_call hn hdf fun w s₀ s₁ mg mb fa o pm cd doc a vs ns G Y _ _ _ hmg hobj hints hlen hg => ?_
  obtain ⟨K, fd, sp, inK, bnd, hsp, hF⟩ := F w mg fa _ Y G.T.g hmg
  exact law_callG inK G.T.g G.T.b G.T.builtins G.T.nolimit hg hobj hints (Nat.le_trans hlen hn2) room hF bnd (fun H hO hS => hsp H a ns hlen hO hS) (fun H e s' => hCX w H s₁ e s')
end L3
namespace L3
open PySem PySem.Spec PyProof.Rows L2
structure XO0 (c : Ctx) (X : Cx) : Prop where
  hK : X.K = c.K
  hmg : X.mg = c.mg
  nd : X.N.Nodup
  un : X.A.units + 200 < cLine
  gd : X.A.guards = some []
  pin : ∀ p, c.pin = some p → p ∈ X.pn
def LamOk (c : Ctx) (X : Cx) : Prop := ∀ t, c.lam = some t → X.env.code = .ref t.1 ∧ X.env.qual ++ "<lambda>" = t.2.2 ∧ LamX.TabB X.base X.mg t.1 t.2.1 ∧ (t.2.1, t.2.2) ∈ c.tabs ∧ ∀ p ∈ c.tabs, p.1 = t.2.1 → p.2 = t.2.2
def TopF (A : Around) : Prop := ∀ l, A.frames = some l → ∃ env r, l = env :: r ∧ env.scope.isGenerator = false ∧ env.scope.isCoroutine = false ∧ env.builtins = builtinsNs ∧ env.globals = mainGlobals
theorem TopF.deeper {A : Around} {env : PySem.Env} (h1 : env.scope.isGenerator = false) (h2 : env.scope.isCoroutine = false) (h3 : env.builtins = builtinsNs) (h4 : env.globals = mainGlobals) : TopF (A.deeper env) := fun l e => by
  have e : A.frames.map (env :: ·) = some l := e
  cases q : A.frames with
  | none => rw [q] at e; cases e
  | some r =>
    rw [q] at e
    cases e
    exact ⟨env, r, rfl, h1, h2, h3, h4⟩
structure XOk (c : Ctx) (k : Nat) (X : Cx) : Prop where
  hK : X.K = c.K
  hmg : X.mg = c.mg
  calm : X.calm = true
  room : Room k X.A
  nd : X.N.Nodup
  hp : c.pin = none
  lam : LamOk c X
  eg : X.env.globals = mainGlobals ∧ X.env.builtins = builtinsNs
  tp : TopF X.A
theorem XOk.o {c : Ctx} {k : Nat} {X : Cx} (h : XOk c k X) : XO0 c X := ⟨h.hK, h.hmg, h.nd, by have := h.room.b.un; omega, h.room.gd, fun p e => by rw [h.hp] at e; cases e⟩
def LG (c : Ctx) (W : WX) {α β : Type} (R : Hp → α → β → Prop) (w : Env → Store → (α → Store → Prop) → QX → Prop) : L2.St → Hp → (β → Hp → Prop) → Prop :=
  fun σ H Q => ∃ Z S ρ QD ED, Rel c Z S H ∧ REnv c Z ρ σ ∧ w ρ S QD ED ∧ Lk c ⟨Z, S, H⟩ R QD Q ∧ LkX c ⟨Z, S, H⟩ ED (fun cls dd H' => W cls dd σ H')
theorem LG.bind {c : Ctx} {W : WX} {α1 α2 β1 β2 : Type} {R1 : Hp → α1 → β1 → Prop} {R2 : Hp → α2 → β2 → Prop} {w1 : Env → Store → (α1 → Store → Prop) → QX → Prop}
    {k : α1 → Env → Store → (α2 → Store → Prop) → QX → Prop} {t2 : β1 → L2.St → Hp → (β2 → Hp → Prop) → Prop}
    (h2 : ∀ d v σ H Q Z S ρ QD ED, Rel c Z S H → REnv c Z ρ σ → R1 Z d v → k d ρ S QD ED → Lk c ⟨Z, S, H⟩ R2 QD Q → LkX c ⟨Z, S, H⟩ ED (fun cls dd H' => W cls dd σ H') → t2 v σ H Q)
    {σ : L2.St} {H : Hp} {Q : β2 → Hp → Prop}
    (h : LG c W R2 (fun ρ S QD ED => w1 ρ S (fun d S1 => k d ρ S1 QD ED) ED) σ H Q) : LG c W R1 w1 σ H (fun v H1 => t2 v σ H1 Q) := by
  obtain ⟨Z, S, ρ, QD, ED, R, RE, hw, hq, hx⟩ := h
  exact ⟨Z, S, ρ, _, ED, R, RE, hw, fun d v Z' S' H' l R' r q => h2 d v σ H' Q Z' S' ρ QD ED R' (RE.le l.le) r q (hq.le l) (hx.le l), hx⟩
theorem LG.pure {c : Ctx} {W : WX} {α β : Type} {R : Hp → α → β → Prop} {w : Env → Store → (α → Store → Prop) → QX → Prop} {σ : L2.St} {H : Hp} {Q : β → Hp → Prop} (h : LG c W R w σ H Q)
    {P : Prop} (k : ∀ Z S ρ QD ED, Rel c Z S H → REnv c Z ρ σ → w ρ S QD ED → Lk c ⟨Z, S, H⟩ R QD Q → LkX c ⟨Z, S, H⟩ ED (fun cls dd H' => W cls dd σ H') → P) : P := by
  obtain ⟨Z, S, ρ, QD, ED, R, RE, hw, hq, hx⟩ := h
  exact k Z S ρ QD ED R RE hw hq hx
theorem PE.imp {X : Cx} {e : Expr} {t t' : TE} (h : PE X e t) (k : ∀ σ H Q, t' σ H Q → t σ H Q) : PE X e t' := ⟨fun pins s σ H Q I q => h.run pins s σ H Q I (k _ _ _ q)⟩
theorem PT.imp {X : Cx} {e : Expr} {t t' : TT} (h : PT X e t) (k : ∀ σ H Q, t' σ H Q → t σ H Q) : PT X e t' := ⟨fun pins s σ H Q I q => h.run pins s σ H Q I (k _ _ _ q)⟩
theorem PW.imp {X : Cx} {e : Expr} {t t' : TT} (h : PW X e t) (k : ∀ σ H Q, t' σ H Q → t σ H Q) : PW X e t' := ⟨fun wh pins s σ H Q I q => h.run wh pins s σ H Q I (k _ _ _ q)⟩
theorem PA.imp {X : Cx} {e : List Expr} {t t' : TA} (h : PA X e t) (k : ∀ σ H Q, t' σ H Q → t σ H Q) : PA X e t' := ⟨fun pos pins s σ H Q I q => h.run pos pins s σ H Q I (k _ _ _ q)⟩
theorem PS.imp {X : Cx} {e : Stmt} {t t' : TS} (h : PS X e t) (k : ∀ E σ H, t' E σ H → t E σ H) : PS X e t' := ⟨fun pins s σ H E I q => h.run pins s σ H E I (k _ _ _ q)⟩
theorem PSs.imp {X : Cx} {e : List Stmt} {t t' : TS} (h : PSs X e t) (k : ∀ E σ H, t' E σ H → t E σ H) : PSs X e t' := ⟨fun pins s σ H E I q => h.run pins s σ H E I (k _ _ _ q)⟩
def SE (c : Ctx) (X : Cx) (W : WX) (e : Expr) (w : WE) : Prop := PE X e (LG c W (RepD c) w)
def SEq : Hp → Bool → Bool → Prop := fun _ a b => a = b
def ST (c : Ctx) (X : Cx) (W : WX) (e : Expr) (w : WT) : Prop := PT X e (LG c W SEq w)
def SW (c : Ctx) (X : Cx) (W : WX) (e : Expr) (w : WT) : Prop := PW X e (LG c W SEq w)
def SA (c : Ctx) (X : Cx) (W : WX) (es : List Expr) (w : WA) : Prop := PA X es (LG c W (RepL c) w)
def l2 (c : Ctx) (w : D → D → Store → QE → Prop) : R2 := fun x y H Q => ∃ Z S dx dy QD, Rel c Z S H ∧ RepD c Z dx x ∧ RepD c Z dy y ∧ w dx dy S QD ∧ Lk c ⟨Z, S, H⟩ (RepD c) QD Q
def l1 (c : Ctx) (w : D → Store → QE → Prop) : V → Hp → VK → Prop := fun x H Q => ∃ Z S dx QD, Rel c Z S H ∧ RepD c Z dx x ∧ w dx S QD ∧ Lk c ⟨Z, S, H⟩ (RepD c) QD Q
def ln (c : Ctx) (w : List D → Store → QE → Prop) : List V → Hp → VK → Prop := fun xs H Q => ∃ Z S ds QD, Rel c Z S H ∧ RepL c Z ds xs ∧ w ds S QD ∧ Lk c ⟨Z, S, H⟩ (RepD c) QD Q
def lm (c : Ctx) (w : D → List D → Store → QE → Prop) : V → List V → Hp → VK → Prop := fun x xs H Q => ∃ Z S d ds QD, Rel c Z S H ∧ RepD c Z d x ∧ RepL c Z ds xs ∧ w d ds S QD ∧ Lk c ⟨Z, S, H⟩ (RepD c) QD Q
structure Op2 where
  op : Operator
  w : D → D → Store → QE → Prop
  ok : ∀ (c : Ctx) (k : Nat) (X : Cx), XO0 c X → OpR X (binaryOp op) (l2 c w)
structure Cm2 where
  op : CmpOp
  w : D → D → Store → QE → Prop
  ok : ∀ (c : Ctx) (k : Nat) (X : Cx), XO0 c X → OpR X (compareOp op) (l2 c w)
structure Un1 where
  op : UnaryOp
  w : D → Store → QE → Prop
  ok : ∀ (c : Ctx) (k : Nat) (X : Cx), XO0 c X → UnR X (unaryOp op) (l1 c w)
structure Ix2 where
  w : D → D → Store → QE → Prop
  ok : ∀ (c : Ctx) (k : Nat) (X : Cx), XO0 c X → IxR X (l2 c w)
structure Sl where
  w : D → Option Int → Option Int → Store → QE → Prop
  ok : ∀ (c : Ctx) (k : Nat) (X : Cx), XO0 c X → SlR X (fun x lo hi H Q => ∃ Z S dx QD, Rel c Z S H ∧ RepD c Z dx x ∧ w dx lo hi S QD ∧ Lk c ⟨Z, S, H⟩ (RepD c) QD Q)
structure Bl where
  nm : Str
  val : Value
  kind : (∃ id, val = .builtin id) ∨ ∃ T, val = .type T
  boot : bootBuiltins nm = some val
  nn : nm ≠ "__name__"
  w : List D → Store → QE → Prop
  ok : ∀ (c : Ctx) (k : Nat) (X : Cx), XOk c k X → CallR X val (ln c w)
def tyX (K : PySem.W.Frag) (T : String) (v : V) (H : Hp) : Prop := tyV K T v H ∨ (T = "tuple" ∧ ∃ p o xs, v = V.ref p ∧ H p = some (.frz o (.tup xs)) ∧ o.dict = none)
structure Mt where
  nm : Str
  T : String
  id : String
  pa : PlainAttrs T
  slot : Slot T nm id
  hty : typeOf (.builtin id) = pure (.type "method_descriptor")
  ty : D → Store → Prop
  tyok : ∀ (c : Ctx) Z S H d v, Rel c Z S H → RepD c Z d v → ty d S → tyX c.K T v H
  w : D → List D → Store → QE → Prop
  ok : ∀ (c : Ctx) (k : Nat) (X : Cx), XO0 c X → MtR X id (lm c w)
def lstOf (S : Store) : D → Option (List D)
  | .fl l => some l
  | .kl l => some l
  | .ref a => (match S a with
    | some (.lst l) => some l
    | _ => none)
  | _ => none
def seqOf (S : Store) : D → Option (List D)
  | .tup l => some l
  | d => lstOf S d
theorem lstOf_ok {c : Ctx} {Z : Hp} {S : Store} {H : Hp} {d : D} {v : V} {l : List D} (R : Rel c Z S H) (r : RepD c Z d v) (e : lstOf S d = some l) : ∃ a vs, v = .ref a ∧ SqL c.K H a vs ∧ RepL c Z l vs := by
  cases d with
  | fl m =>
    cases e
    obtain ⟨a, vs, rfl, q, r⟩ := r
    exact ⟨a, vs, rfl, SqL.of (R.fz _ _ q), r⟩
  | kl m =>
    cases e
    obtain ⟨a, vs, rfl, q, r⟩ := r
    exact ⟨a, vs, rfl, SqL.le R.fz q, r⟩
  | ref a =>
    cases r
    simp only [lstOf] at e
    cases ea : S a with
    | none => rw [ea] at e; cases e
    | some x =>
      rw [ea] at e
      cases x with
      | lst m =>
        cases e
        obtain ⟨_, o, q, vs, rfl, r⟩ := R.cl a _ ea
        exact ⟨a, vs, rfl, SqL.of q, r⟩
      | ins _ _ => cases e
      | dct _ => cases e
  | _ => cases e
theorem seqOf_ok {c : Ctx} {Z : Hp} {S : Store} {H : Hp} {d : D} {v : V} {l : List D} (R : Rel c Z S H) (r : RepD c Z d v) (e : seqOf S d = some l) : ∃ a vs, v = .ref a ∧ (SqL c.K H a vs ∨ SqT c.K H a vs) ∧ RepL c Z l vs := by
  cases d with
  | tup m =>
    cases e
    obtain ⟨a, vs, rfl, q, r⟩ := r
    exact ⟨a, vs, rfl, .inr (SqT.le R.fz q), r⟩
  | fl m =>
    obtain ⟨a, vs, e, q, r⟩ := lstOf_ok R r (show lstOf S (.fl m) = some l from e)
    exact ⟨a, vs, e, .inl q, r⟩
  | kl m =>
    obtain ⟨a, vs, e, q, r⟩ := lstOf_ok R r (show lstOf S (.kl m) = some l from e)
    exact ⟨a, vs, e, .inl q, r⟩
  | ref a =>
    obtain ⟨a, vs, e, q, r⟩ := lstOf_ok R r (show lstOf S (.ref a) = some l from e)
    exact ⟨a, vs, e, .inl q, r⟩
  | _ => cases e
def truD (S : Store) : D → (Bool → Prop) → Prop
  | .non, k => k false
  | .bl b, k => k b
  | .int i, k => k (i != 0)
  | .str x, k => x.length ≤ sizeLine ∧ k ((x.length : Int) != 0)
  | d, k => ∃ l, seqOf S d = some l ∧ k (!l.isEmpty)
theorem RepL.isEmpty {c : Ctx} {Z : Hp} {l : List D} {vs : List V} (r : RepL c Z l vs) : vs.isEmpty = l.isEmpty := by
  cases l with
  | nil => cases r; rfl
  | cons d ds => obtain ⟨v, t, rfl, _⟩ := r; rfl
theorem truD_ok {c : Ctx} {Z : Hp} {S : Store} {H : Hp} {d : D} {v : V} {k : Bool → Prop} (R : Rel c Z S H) (r : RepD c Z d v) (e : truD S d k) : ∃ b, TruV c.K v H b ∧ k b := by
  have sq : (∃ l, seqOf S d = some l ∧ k (!l.isEmpty)) → ∃ b, TruV c.K v H b ∧ k b := by
    rintro ⟨l, e, q⟩
    obtain ⟨a, vs, rfl, s, r'⟩ := seqOf_ok R r e
    refine ⟨_, ?_, q⟩
    rw [← r'.isEmpty]
    rcases s with s | s
    · exact .inl ⟨vs, s, rfl⟩
    · exact .inr (.inl ⟨vs, s, rfl⟩)
  cases d with
  | non => cases r; exact ⟨_, rfl, e⟩
  | bl b => cases r; exact ⟨_, rfl, e⟩
  | int i => cases r; exact ⟨_, rfl, e⟩
  | str x => cases r; exact ⟨_, ⟨e.1, rfl⟩, e.2⟩
  | _ => exact sq e
end L3
set_option maxHeartbeats 4000000
namespace HT
open PySem PyProof.Rows
open PySem.SeqAt
open PySem.AutoSeq1 (wpAny_loadPart')
open PySem.MeetsSeq PySem.MeetsSeq2 PySem.MeetsSeq3
section
variable {prog : Program} {w : World} {A : Around} {E : Value → Shared → Prop} {s : Shared}
theorem places_rev (n : Nat) : Builtin.Slice.slicePlaces ((n : Int) - 1) (-1) (-1) = n := by
  unfold Builtin.Slice.slicePlaces
  rw [if_neg (show ¬ ((-1 : Int) > 0) by omega)]
  by_cases h : n = 0
  · subst h; rfl
  · rw [if_pos (by omega), show (-(-1 : Int)) = 1 by omega, Int.ediv_one]; omega
theorem sliceApplied_rev {sl : Addr} {vl vu vs : Value} {n : Nat} {Q : Int × Int × Nat → Shared → Prop} (hs : s.heap.IsSliceOf sl vl vu vs) (pl : IsPart vl none) (pu : IsPart vu none) (ps : IsPart vs (some (-1)))
    (h : Q ((n : Int) - 1, -1, n) s) : wpAny (model prog w) A (Builtin.Slice.sliceApplied (.ref sl) (pure (n : Int))) Q E s := by
  obtain ⟨os, hos, hcs, hds⟩ := id hs
  unfold Builtin.Slice.sliceApplied Builtin.Slice.sliceFields
  refine wpAny_bind (wpAny_bind (wpAny_field hos hds (x := vl) rfl (wpAny_bind (wpAny_field hos hds (x := vu) rfl (wpAny_bind (wpAny_field hos hds (x := vs) rfl (wpAny_pure ?_)))))))
  refine wpAny_bind (slicePart_ ps ?_)
  show wpAny _ _ (if ((-1 : Int) == 0) = true then _ else _) _ _ s
  rw [if_neg (by decide)]
  refine wpAny_bind (slicePart_ pl (wpAny_bind (slicePart_ pu (wpAny_bind (wpAny_pure ?_)))))
  show wpAny _ _ (pure ((n : Int) - 1, (-1 : Int), Builtin.Slice.slicePlaces ((n : Int) - 1) (-1) (-1))) _ _ s
  rw [places_rev]
  exact wpAny_pure h
theorem pick_rev (xs : Array Value) : ((List.range xs.size).filterMap fun (m : Nat) => xs[(((xs.size : Nat) : Int) - 1 + (m : Int) * (-1)).toNat]?).toArray = xs.toList.reverse.toArray := by
  congr 1
  have e : (List.range xs.size).filterMap (fun (m : Nat) => xs[(((xs.size : Nat) : Int) - 1 + (m : Int) * (-1)).toNat]?) = ((List.range xs.size).attach.map fun m => xs[xs.size - 1 - m.1]'(by have := List.mem_range.mp m.2; omega)) := by
    have : ∀ (l : List Nat) (hl : ∀ m ∈ l, m < xs.size), l.filterMap (fun (m : Nat) => xs[(((xs.size : Nat) : Int) - 1 + (m : Int) * (-1)).toNat]?) = l.attach.map fun m => xs[xs.size - 1 - m.1]'(by have := hl m.1 m.2; omega) := by
      intro l
      induction l with
      | nil => intro _; rfl
      | cons a l ih =>
        intro hl
        have ha := hl a List.mem_cons_self
        have e1 : (((xs.size : Nat) : Int) - 1 + (a : Int) * (-1)).toNat = xs.size - 1 - a := by omega
        rw [List.filterMap_cons, e1, Array.getElem?_eq_getElem (by omega), ih fun m hm => hl m (List.mem_cons_of_mem _ hm)]
        simp [List.attach_cons, List.map_map, Function.comp_def]
    exact this _ fun m hm => List.mem_range.mp hm
  rw [e]
  apply List.ext_getElem
  · simp
  · intro i h1 h2
    simp
theorem getItem_tuple_rev {t sl : Addr} {items : Array Value} {vl vu vs : Value} {Q : Value → Shared → Prop} (ht : IsTup s.heap t items) (hs : s.heap.IsSliceOf sl vl vu vs) (pl : IsPart vl none) (pu : IsPart vu none) (ps : IsPart vs (some (-1)))
    (h : Q (.ref s.heap.objs.size) { s with heap := s.heap.push { cls := .type "tuple", data := .seq items.toList.reverse.toArray } })
    (hsz : items.size ≤ sizeLine) : wpAny (model prog w) A (getItem (.ref t) (.ref sl)) Q E s := by
  have htake : sizeOk (.seq items.toList.reverse.toArray) := by
    show items.toList.reverse.toArray.size ≤ sizeLine
    rw [List.size_toArray, List.length_reverse, Array.length_toList]
    exact hsz
  obtain ⟨os, hos, hcs, hds⟩ := id hs
  have hTs : s.TypeIs (.ref sl) "slice" := ⟨os, hos, hcs⟩
  unfold getItem
  try with_reducible refine wpAny_holding ?_
  first | refine wpAny_bind (wpAny_pure ?_) | skip
  refine wpAny_bind (wpAny_sequenceKey ht.typeIs (by decide) ?_)
  refine wpAny_bind (wpAny_callSpecial?_slot (name := Str.ofString "__getitem__") ht.typeIs PyProof.Rows.slot_tuple_getitem
    (wpAny_call_entry PyProof.Rows.slot_tuple_getitem ht.typeIs entry_tuple_getitem ?_ (args_tuple_getitem _ _)))
  show wpAny _ _ (Builtin.Tuple.tupleItemsOf (.ref t) >>= _) _ _ s
  refine wpAny_bind (tupleItemsOf_ ht ?_)
  refine wpAny_bind (wpAny_typeOf hTs ?_)
  rw [if_pos (by decide)]
  refine wpAny_bind (sliceApplied_rev hs pl pu ps ?_)
  have hno : ¬ ((((items.size : Nat) : Int) - 1 == 0 && (-1 : Int) == 1 && items.size == items.size) = true) := by
    intro q
    rw [Bool.and_eq_true, Bool.and_eq_true] at q
    exact absurd q.1.2 (by decide)
  show wpAny _ _ (if (((items.size : Nat) : Int) - 1 == 0 && (-1 : Int) == 1 && items.size == items.size) = true then _ else _) _ _ s
  rw [if_neg hno, pick_rev]
  first
    | exact wpAny_bind (m := Builtin.Tuple.tupleExact _) (wpAny_newObj_type (wpAny_pure ⟨_, rfl, wpAny_pure h⟩) htake)
    | exact wpAny_bind (m := Builtin.Tuple.tupleExact _) (wpAny_newObj_type (wpAny_bind (wpAny_pure (wpAny_pure ⟨_, rfl, wpAny_pure h⟩))) htake)
    | exact wpAny_bind (wpAny_bind (m := Builtin.Tuple.tupleExact _) (wpAny_newObj_type (wpAny_pure (wpAny_pure ⟨_, rfl, wpAny_pure h⟩)) htake))
    | exact wpAny_bind (wpAny_bind (m := Builtin.Tuple.tupleExact _) (wpAny_newObj_type (wpAny_pure ⟨_, rfl, wpAny_pure h⟩) htake))
end
end HT
namespace L2
open PySem PySem.Spec PyProof.Rows
section
variable {X : Cx}
def revS (z : Str) : Str := ⟨((Builtin.Str.strSliceIndices none none (-1) z.length).filterMap (z.cps[·]?)).toArray⟩
def tRev (K : PySem.W.Frag) (te : TE) : TE := fun σ H Q => te σ H fun x H1 => (∃ a xs, x = .ref a ∧ SqT K H1 a xs ∧ ∀ p, H1 p = none → Q (.ref p) (upd H1 p (.tup xs.reverse))) ∨ (∃ a xs, x = .ref a ∧ SqL K H1 a xs ∧ ∀ p, H1 p = none → Q (.ref p) (upd H1 p (.lst xs.reverse))) ∨ ∃ z, x = .str z ∧ (revS z).length ≤ sizeLine ∧ Q (.str (revS z)) H1
theorem pe_rev {e : Expr} {te : TE} {k : Nat} {p1 p2 p3 pos : Pos} (he : PE X e te) : PE X (.Subscript e (.Slice none none (some (.UnaryOp .USub (.Constant (.int 1) k p1) p2)) p3) pos) (tRev X.K te) := by
  refine ⟨fun pins s σ H Q I h => ?_⟩
  refine Subscript_ (thn (he.run pins s σ H _ I h) fun v s1 ⟨x, H1, I1, r1, q1⟩ => ?_)
  have hst : PO X (some (.UnaryOp .USub (.Constant (.int 1) k p1) p2)) (tPart (tUn (rU fun i => .int (-i)) (tC (.int 1)))) := po_some (pe_un un_neg pe_int)
  refine wpAny_Slice (thn (po_none.run pins s1 σ H1 (fun o H2 => o = none ∧ H2 = H1) I1 ⟨rfl, rfl⟩) fun vl s2 ⟨l, H2, I2, pl, el, e2⟩ => ?_)
  subst el e2
  refine thn (po_none.run pins s2 σ H2 (fun o H3 => o = none ∧ H3 = H2) I2 ⟨rfl, rfl⟩) fun vu s3 ⟨u, H3, I3, pu, eu, e3⟩ => ?_
  subst eu e3
  refine thn (hst.run pins s3 σ H3 (fun o H4 => o = some (-1) ∧ H4 = H3) I3 ⟨1, rfl, -1, rfl, rfl, rfl⟩) fun vs s4 ⟨o, H4, I4, ps, eo, e4⟩ => ?_
  subst eo e4
  have I5 : Inv X pins σ H4 { s4 with heap := s4.heap.push { cls := .type "slice", data := .fields #[vl, vu, vs] } } := I4.kept (t' := s4.toks) fun b ob q => Heap.get?_push_of_some _ q
  rcases q1 with ⟨a, xs, ex, hx, q⟩ | ⟨a, xs, ex, hx, q⟩ | ⟨z, ex, hz, q⟩
  · subst ex
    cases r1
    obtain ⟨its, r, ht, hz⟩ := I5.tuple hx
    have hlen := r.length
    show wpAny (model X.prog X.w) X.A (subscriptTail e (.Slice none none (some (.UnaryOp .USub (.Constant (.int 1) k p1) p2)) p3) (.ref a) (.ref s4.heap.objs.size)) (EP X pins σ Q) X.xe { s4 with heap := s4.heap.push { cls := .type "slice", data := .fields #[vl, vu, vs] } }
    refine tail_any (ops := [.ref a, .ref s4.heap.objs.size]) ht.typeIs PyProof.Rows.slot_tuple_getitem.lookup ?_ (by with_unfolding_all rfl)
    refine HT.getItem_tuple_rev ht (Heap.IsSliceOf.new _ vl vu vs) pl pu ps ?_ (by rw [List.size_toArray]; omega)
    refine ⟨.ref _, _, I5.laid (t' := s4.toks) (o := .tup xs.reverse) (fun b ob q => Heap.get?_push_of_some _ q) (Nat.le_refl _) ?_, rfl, q _ (I5.hok.fresh (Nat.le_refl _))⟩
    exact ⟨by rw [List.length_reverse]; exact hz, _, r.reverse, IsTup.new _ _⟩
  · subst ex
    cases r1
    obtain ⟨its, r, ht, hz⟩ := I5.list hx
    have hlen := r.length
    show wpAny (model X.prog X.w) X.A (subscriptTail e (.Slice none none (some (.UnaryOp .USub (.Constant (.int 1) k p1) p2)) p3) (.ref a) (.ref s4.heap.objs.size)) (EP X pins σ Q) X.xe { s4 with heap := s4.heap.push { cls := .type "slice", data := .fields #[vl, vu, vs] } }
    refine tail_any (ops := [.ref a, .ref s4.heap.objs.size]) ht.isList.typeIs (PySem.slot_list_getitem.lookup) ?_ (by with_unfolding_all rfl)
    refine wpAny_getItem_list_slice ht.isList (Heap.IsSliceOf.new _ vl vu vs) pl pu ps (by decide) ?_ (by rw [List.size_toArray]; omega)
    rw [PySem.W.krv_pick]
    refine ⟨.ref _, _, I5.laid (t' := s4.toks) (o := .lst xs.reverse) (fun b ob q => Heap.get?_push_of_some _ q) (Nat.le_refl _) ?_, rfl, q _ (I5.hok.fresh (Nat.le_refl _))⟩
    exact ⟨by rw [List.length_reverse]; exact hz, _, 0, r.reverse, Heap.get?_push_size _ rfl⟩
  · subst ex
    obtain ⟨t, rfl⟩ := r1
    obtain ⟨l, rfl, el⟩ := IsPart.raw pl
    obtain ⟨u, rfl, eu⟩ := IsPart.raw pu
    obtain ⟨d, rfl, ed⟩ := IsPart.raw ps
    show wpAny (model X.prog X.w) X.A (subscriptTail e (.Slice none none (some (.UnaryOp .USub (.Constant (.int 1) k p1) p2)) p3) (.str z t) (.ref s4.heap.objs.size)) (EP X pins σ Q) X.xe { s4 with heap := s4.heap.push { cls := .type "slice", data := .fields #[partValue l, partValue u, partValue d] } }
    refine tail_any (ops := [.str z t, .ref s4.heap.objs.size]) (typeIs_str _ _ _) F.slot_str_getitem.lookup ?_ (by with_unfolding_all rfl)
    refine wpAny_getItem_str_slice (l := l) (u := u) (st := d) ⟨_, Heap.get?_push_size _ rfl, rfl, rfl⟩ (by rw [ed]; rfl) ?_
    have e1 : slicePicked z l u d = Builtin.Str.strSliceIndices none none (-1) z.length := by unfold slicePicked; rw [el, eu, ed]; rfl
    unfold sliceMade
    rw [e1, ed, if_neg (by
      intro q
      rw [Bool.and_eq_true] at q
      exact absurd q.1 (by decide))]
    refine ⟨hz, .str (revS z), _, ?_, ⟨_, rfl⟩, q⟩
    exact I5.tok _
end
end L2
set_option maxHeartbeats 2000000
namespace L3
open PySem PySem.Spec PyProof.Rows L2
def evL {α : Type} : List α → List α
  | [] => []
  | [x] => [x]
  | x :: _ :: r => x :: evL r
theorem evL_eq {α : Type} : ∀ l : List α, (List.range ((l.length + 1) / 2)).filterMap (fun k => l[2 * k]?) = evL l
  | [] => by simp [evL]
  | [x] => by simp [evL, List.range_succ]
  | x :: y :: r => by
    have e : ((x :: y :: r).length + 1) / 2 = (r.length + 1) / 2 + 1 := by simp only [List.length_cons]; omega
    rw [e, List.range_succ_eq_map, List.filterMap_cons, evL]
    simp only [Nat.mul_zero, List.getElem?_cons_zero]
    rw [List.filterMap_map, ← evL_eq r]
    congr 1
theorem evL_len {α : Type} : ∀ l : List α, (evL l).length = (l.length + 1) / 2
  | [] => by simp [evL]
  | [x] => by simp [evL]
  | x :: y :: r => by simp only [List.length_cons, evL, evL_len r]; omega
theorem stp_pick (items : Array Value) (j : Nat) : slicePick items (some (j : Int)) none (some 2) = (evL (items.toList.drop j)).toArray := by
  unfold slicePick
  have hb : sliceBounds (some (j : Int)) none (some 2) items.size = (((min j items.size : Nat) : Int), (items.size : Int), 2) := by
    unfold sliceBounds
    simp only [Option.getD_some]
    rw [if_pos (show (2 : Int) > 0 by decide), if_pos (show (2 : Int) > 0 by decide), if_neg (show ¬ ((j : Int) < 0) by omega)]
    rw [show max (0 : Int) (min (j : Int) (items.size : Int)) = ((min j items.size : Nat) : Int) by omega]
  rw [hb]
  dsimp only
  congr 1
  unfold sliceRange
  rw [if_pos (show (2 : Int) > 0 by decide), ← evL_eq, List.filterMap_map]
  have e : (if ((min j items.size : Nat) : Int) < (items.size : Int) then ((items.size : Int) - ((min j items.size : Nat) : Int) + 2 - 1) / 2 else 0).toNat = ((items.toList.drop j).length + 1) / 2 := by
    rw [List.length_drop, Array.length_toList]
    split <;> omega
  rw [e]
  have cg : ∀ {l : List Nat} {f g : Nat → Option Value}, (∀ k ∈ l, f k = g k) → l.filterMap f = l.filterMap g := fun {l f g} h => by
    induction l with
    | nil => rfl
    | cons a l ih => rw [List.filterMap_cons, List.filterMap_cons, h a List.mem_cons_self, ih fun k hk => h k (List.mem_cons_of_mem _ hk)]
  refine cg fun k hk => ?_
  have hk := List.mem_range.mp hk
  rw [List.length_drop, Array.length_toList] at hk
  show items[(((min j items.size : Nat) : Int) + 2 * (k : Int)).toNat]? = _
  rw [List.getElem?_drop, show (((min j items.size : Nat) : Int) + 2 * (k : Int)).toNat = j + 2 * k by omega, Array.getElem?_toList]
section
variable {X : Cx}
def tStpL (K : PySem.W.Frag) (te : TE) (j : Nat) : TE := fun σ H Q => te σ H fun x H1 => ∃ a xs, x = .ref a ∧ SqL K H1 a xs ∧ ∀ p, H1 p = none → Q (.ref p) (upd H1 p (.lst (evL (xs.drop j))))
theorem vals_drop : ∀ (j : Nat) {vs : List V} {us : List Value}, Vals vs us → Vals (vs.drop j) (us.drop j)
  | 0, _, _, h => h
  | j + 1, [], _, h => by cases h; exact .nil
  | j + 1, v :: vs, _, h => by cases h with | cons r h => exact vals_drop j h
theorem vals_ev : ∀ {vs : List V} {us : List Value}, Vals vs us → Vals (evL vs) (evL us)
  | [], _, h => by cases h; exact .nil
  | [v], _, h => by
    cases h with
    | cons r h => cases h; exact .cons r .nil
  | v :: w :: vs, _, h => by
    cases h with
    | cons r h =>
      cases h with
      | cons r2 h => exact .cons r (vals_ev h)
theorem pe_stpL {e : Expr} {te : TE} {j k k2 : Nat} {p1 p2 p3 pos : Pos} (he : PE X e te) : PE X (.Subscript e (.Slice (some (.Constant (.int (j : Int)) k p1)) none (some (.Constant (.int 2) k2 p2)) p3) pos) (tStpL X.K te j) := by
  refine ⟨fun pins s σ H Q I h => ?_⟩
  refine Subscript_ (thn (he.run pins s σ H _ I h) fun v s1 ⟨x, H1, I1, r1, q1⟩ => ?_)
  obtain ⟨a, xs, ex, hx, q⟩ := q1
  subst ex
  cases r1
  have hlo : PO X (some (.Constant (.int (j : Int)) k p1)) (tPart (tC (.int j))) := po_some pe_int
  have hst : PO X (some (.Constant (.int 2) k2 p2)) (tPart (tC (.int 2))) := po_some pe_int
  refine wpAny_Slice (thn (hlo.run pins s1 σ H1 (fun o H2 => o = some (j : Int) ∧ H2 = H1) I1 ⟨_, rfl, rfl, rfl⟩) fun vl s2 ⟨l, H2, I2, pl, el, e2⟩ => ?_)
  subst el e2
  refine thn (po_none.run pins s2 σ H2 (fun o H3 => o = none ∧ H3 = H2) I2 ⟨rfl, rfl⟩) fun vu s3 ⟨u, H3, I3, pu, eu, e3⟩ => ?_
  subst eu e3
  refine thn (hst.run pins s3 σ H3 (fun o H4 => o = some 2 ∧ H4 = H3) I3 ⟨2, rfl, rfl, rfl⟩) fun vs s4 ⟨o, H4, I4, ps, eo, e4⟩ => ?_
  subst eo e4
  have I5 : Inv X pins σ H4 { s4 with heap := s4.heap.push { cls := .type "slice", data := .fields #[vl, vu, vs] } } := I4.kept (t' := s4.toks) fun b ob q => Heap.get?_push_of_some _ q
  obtain ⟨its, r, ht, hz⟩ := I5.list hx
  have hlen := r.length
  show wpAny (model X.prog X.w) X.A (subscriptTail e (.Slice (some (.Constant (.int (j : Int)) k p1)) none (some (.Constant (.int 2) k2 p2)) p3) (.ref a) (.ref s4.heap.objs.size)) (EP X pins σ Q) X.xe { s4 with heap := s4.heap.push { cls := .type "slice", data := .fields #[vl, vu, vs] } }
  refine tail_any (ops := [.ref a, .ref s4.heap.objs.size]) ht.isList.typeIs (PySem.slot_list_getitem.lookup) ?_ (by with_unfolding_all rfl)
  refine wpAny_getItem_list_slice ht.isList (Heap.IsSliceOf.new _ vl vu vs) pl pu ps (by decide) ?_ (by rw [List.size_toArray]; omega)
  rw [stp_pick]
  refine ⟨.ref _, _, I5.laid (t' := s4.toks) (o := .lst (evL (xs.drop j))) (fun b ob q => Heap.get?_push_of_some _ q) (Nat.le_refl _) ?_, rfl, q _ (I5.hok.fresh (Nat.le_refl _))⟩
  exact ⟨by rw [evL_len, List.length_drop]; omega, _, 0, vals_ev (vals_drop j r), Heap.get?_push_size _ rfl⟩
end
end L3
namespace L3
open PySem PySem.Spec PyProof.Rows L2
structure Rn where
  prog : Program
  w : World
  K : PySem.W.Frag
  mg : Str → Option Value
  base : Heap
def rn (X : Cx) : Rn := ⟨X.prog, X.w, X.K, X.mg, X.base⟩
structure CmF where
  op : CmpOp
  w : D → D → Store → QE → Prop
  kn : Ctx → Nat → Rn → Prop
  ok : ∀ (c : Ctx) (k : Nat) (X : Cx), XOk c k X → kn c k (rn X) → OpR X (compareOp op) (l2 c w)
structure BnF where
  op : Operator
  w : D → D → Store → QE → Prop
  kn : Ctx → Nat → Rn → Prop
  ok : ∀ (c : Ctx) (k : Nat) (X : Cx), XOk c k X → kn c k (rn X) → OpR X (binaryOp op) (l2 c w)
structure BlF where
  nm : Str
  val : Value
  kind : (∃ id, val = .builtin id) ∨ ∃ T, val = .type T
  boot : bootBuiltins nm = some val
  nn : nm ≠ "__name__"
  w : List D → Store → QE → Prop
  kn : Ctx → Nat → Rn → Prop
  ok : ∀ (c : Ctx) (k : Nat) (X : Cx), XOk c k X → kn c k (rn X) → CallR X val (ln c w)
abbrev DSp := List D → Store → QE → QX → Prop
abbrev Grd := Store → Prop
abbrev WI := Env → Store → (List D → Grd → Store → Prop) → QX → Prop
structure St3 where
  w : D → D → D → Store → (Store → Prop) → Prop
  ok : ∀ (c : Ctx) (k : Nat) (X : Cx), XOk c k X → PSet X (fun o i v H Q => ∃ Z S do_ di dv QD, Rel c Z S H ∧ RepD c Z do_ o ∧ RepD c Z di i ∧ RepD c Z dv v ∧ w do_ di dv S QD ∧
    ∀ Z' S' H', Nx ⟨Z, S, H⟩ ⟨Z', S', H'⟩ → Rel c Z' S' H' → QD S' → Q H')
inductive CT where
  | nm (i : Nat) | tp (is : List Nat)
inductive IsT where
  | bt (x : Str) (n : String) | own (x : Str) (cl : Nat)
def IsT.name : IsT → Str
  | .bt x _ => x
  | .own x _ => x
def tySub (t n : String) : Bool := decide (t = n) || (decide (t = "bool") && decide (n = "int"))
def IsT.ans : IsT → String → Bool
  | .bt _ n, t => tySub t n
  | .own _ _, _ => false
def IsT.ansO : IsT → Nat → Bool
  | .bt _ _, _ => false
  | .own _ cl, k => Nat.beq k cl
def memW (k : Nat) (ks : List Nat) (K : Prop) : Prop := match ks with
  | [] => False
  | j :: r => if Nat.beq j k = true then K else memW k r K
def isW (T : IsT) (ks : List Nat) (d : D) (S : Store) (Q : Bool → Prop) : Prop := match d with
  | .non => Q (T.ans "NoneType")
  | .bl _ => Q (T.ans "bool")
  | .int _ => Q (T.ans "int")
  | .str _ => Q (T.ans "str")
  | .tup _ => Q (T.ans "tuple")
  | .fl _ => Q (T.ans "list")
  | .kl _ => Q (T.ans "list")
  | .dk _ => Q (T.ans "dict")
  | .obj k _ => memW k ks (Q (T.ansO k))
  | .ref a => ∃ x, S a = some x ∧ match x with
    | .lst _ => Q (T.ans "list")
    | .dct _ => Q (T.ans "dict")
    | .ins k _ => memW k ks (Q (T.ansO k))
  | _ => False
mutual
inductive CE where
  | var (i : Nat) | int (i : Int) | str (x : Str) | bl (b : Bool) | non
  | glo (x : Str) (d : D)
  | bval (x : Str) (n : String)
  | op (o : Op2) (a b : CE) | un (o : Un1) (a : CE)
  | cmp (o : Cm2) (a b : CE) | chain (o o' : Cm2) (a b e : CE)
  | and_ (a b : CE) | or_ (a b : CE) | not_ (a : CE)
  | ife (t a b : CE)
  | tup (es : CL) | lst (m : Bool) (es : CL)
  | call (f : Str) (sp : DSp) (es : CL)
  | blt (b : Bl) (es : CL)
  | met (m : Mt) (o : CE) (es : CL)
  | idx (o : Ix2) (a i : CE)
  | slc (o : Sl) (a : CE) (lo hi : CO)
  | rev (a : CE)
  | rpl (a : CE) (x y : Str)     -- a.replace(x, y) of two written texts
  | comp (m : Bool) (own : List (Str × Nat)) (elt : CE) (tg : CT) (it : CI) (cond : CL)
  | comp2 (m : Bool) (own : List (Str × Nat)) (elt : CE) (tg : CT) (it : CI) (tg2 : CT) (it2 : CI)
  | dcomp (own : List (Str × Nat)) (key val : CE) (tg : CT) (it : CI)
  | nev
  | dget (x : Str) (kvs : List (Str × D)) (e d : CE)     -- X.get(e, d), X a dict of the module
  | emp                                                  -- {}
  | att (cl k : Nat) (o : CE)
  | prop (cl : Nat) (x : Str) (sp : DSp) (o : CE)
  | omet (cl i : Nat) (sp : DSp) (o : CE) (es : CL)
  | mk (m : Bool) (x : Str) (cl : Nat) (sp : DSp) (es : CL)
  | mkK (m : Bool) (x : Str) (cl : Nat) (ks : List Str) (sp : DSp) (kes : CL)
  | mkx (x : Str) (j : Nat) (ks : List Nat) (es : CL)     -- an error made, by position
  | mkxK (x : Str) (j : Nat) (ks pm : List Nat) (nms : List Str) (es : CL)     -- and by name
  | fstr (es : CL)
  | isi (T : IsT) (ks : List Nat) (o : CE)
  | cmpF (o : CmF) (a b : CE)
  | opF (o : BnF) (a b : CE)
  | bltF (b : BlF) (es : CL)
  | callK (f : Str) (n : Nat) (ks : List Str) (pm : List Nat) (sp : DSp) (as es : CL)     -- f(.., k = v): n positional ones, then keywords; pm: the parameters' order
  | ometK (cl i : Nat) (ks : List Str) (pm : List Nat) (sp : DSp) (o : CE) (es : CL)     -- o.m(k = v, ..)
  | revs (m : Bool) (o : CE)     -- x[::-1]
  | lrng (m : Bool) (o : CE)     -- list(range(x))
  | lset (o : CE)     -- len(set(x)), x a list of texts
  | stp (j : Nat) (o : CE)     -- x[j::2], x a list
  | empM     -- {}, to be changed
  | dun (x : Str)     -- {x: ()}
  | isx (x : Str) (k : Nat) (js : List Nat) (o : CE)     -- isinstance(o, x), o an exception in hand
  | attx (i : Nat) (js : List Nat) (o : CE)     -- an attribute of it
  | told (f : Str) (sp1 sp2 : DSp) (e : CE)     -- f(lambda: e), f a def that catches what e raises
inductive CL where
  | nil | cons (e : CE) (r : CL) | star (e : CE) (r : CL)
inductive CO where
  | none | some (e : CE)
inductive CI where
  | seq (e : CE) | rng1 (b : CE) | rng2 (a b : CE) | rng3 (a b s : CE) | enum (e : CE) | zip2 (a b : CE) | zip3 (a b e : CE) | zipS (e : CE) | rev (e : CE) | sgn (e : CE)
end
mutual
inductive CA where
  | nm (i : Nat) | sub (s : St3) (o i : CE) | att (cl k : Nat) (o : CE) | tp (ts : CAL)
inductive CAL where
  | nil | cons (t : CA) (r : CAL)
end
mutual
inductive CS where
  | expr (e : CE) | asg (t : CA) (e : CE) | par2 (i j : Nat) (a b : CE) | par3 (i j l : Nat) (a b e : CE)
  | ret (e : CE) | retN | if_ (t : CE) (a b : CB) | for_ (t : CT) (it : CI) (b : CB) | whl (t : CE) (b : CB) | pass
  | raise_ (cl : Nat) (ks : List Nat) (es : CL) | nev
  | raz (x : Str) (cl i : Nat) (e : CE)     -- raise x(e)
inductive CB where
  | nil | cons (s : CS) (r : CB) | frz (i : Nat) (r : CB)
end
def putN (k : Nat) (d : D) : List (Nat × D) → List (Nat × D)
  | [] => [(k, d)]
  | (j, x) :: r => if j = k then (j, d) :: r else (j, x) :: putN k d r
def noX : QX := fun _ _ => False
def lk : Env → Nat → Option D
  | [], _ => none
  | x :: _, 0 => x
  | _ :: r, n + 1 => lk r n
def sto : Env → Nat → D → Env
  | [], _, _ => []
  | _ :: r, 0, d => some d :: r
  | x :: r, n + 1, d => x :: sto r n d
theorem lk_eq : ∀ (ρ : Env) (i : Nat), lk ρ i = (ρ[i]?).getD none
  | [], i => by simp [lk]
  | x :: r, 0 => by simp [lk]
  | x :: r, n + 1 => by simp [lk, lk_eq r n]
theorem sto_eq : ∀ (ρ : Env) (i : Nat) (d : D), sto ρ i d = ρ.set i (some d)
  | [], i, _ => by simp [sto]
  | x :: r, 0, _ => by simp [sto]
  | x :: r, n + 1, d => by simp [sto, sto_eq r n d]
def wVar (i : Nat) : WE := fun ρ S Q _ => match lk ρ i with
  | some d => Q d S
  | none => False
def wC (d : D) : WE := fun _ S Q _ => Q d S
def leW (n m : Nat) (K : Prop) : Prop := match Nat.ble n m with
  | true => K
  | false => False
theorem leW_of {n m : Nat} {K : Prop} (h : n ≤ m) (k : K) : leW n m K := by
  unfold leW
  rw [Nat.ble_eq_true_of_le h]
  exact k
theorem of_leW {n m : Nat} {K : Prop} (h : leW n m K) : n ≤ m ∧ K := by
  unfold leW at h
  cases e : Nat.ble n m with
  | true => rw [e] at h; exact ⟨Nat.le_of_ble_eq_true e, h⟩
  | false => rw [e] at h; exact h.elim
def eqW (n m : Nat) (K : Prop) : Prop := match Nat.beq n m with
  | true => K
  | false => False
theorem eqW_of {n m : Nat} {K : Prop} (h : n = m) (k : K) : eqW n m K := by
  subst h
  unfold eqW
  rw [Nat.beq_refl]
  exact k
theorem of_eqW {n m : Nat} {K : Prop} (h : eqW n m K) : n = m ∧ K := by
  unfold eqW at h
  cases e : Nat.beq n m with
  | true => rw [e] at h; exact ⟨Nat.eq_of_beq_eq_true e, h⟩
  | false => rw [e] at h; exact h.elim
def wTup (d : D) (n : Nat) (k : List D → Prop) : Prop := match d with
  | .tup l => eqW l.length n (k l)
  | _ => False
theorem of_wTup {d : D} {n : Nat} {k : List D → Prop} (h : wTup d n k) : ∃ l, d = .tup l ∧ l.length = n ∧ k l := by
  cases d with
  | tup l => exact ⟨l, rfl, of_eqW h⟩
  | _ => exact h.elim
def newL (m : Bool) (l : List D) (S : Store) (Q : QE) : Prop := match m with
  | false => Q (.fl l) S
  | true => ∀ p, S p = none → Q (.ref p) (put S p (.lst l))
def big : Nat := 16777216
def forL (step : D → WS) (G : Grd) : List D → WS
  | [] => fun E ρ S => G S ∧ E.nx ρ S
  | x :: xs => fun E ρ S => G S ∧ step x { E with nx := fun ρ' S' => ∃ S'', Sub S'' S' ∧ forL step G xs E ρ' S'' } ρ S
def whileL (t : WT) (b : WS) : Nat → WS
  | 0 => fun _ _ _ => False
  | n + 1 => fun E ρ S => t ρ S (fun c S1 => if c = true then b { E with nx := fun ρ' S' => ∃ S'', Sub S'' S' ∧ whileL t b n E ρ' S'' } ρ S1 else E.nx ρ S1) (E.ex ρ)
def tgW : CT → D → Env → Store → (Env → Store → Prop) → Prop
  | .nm i, d, ρ, S, Q => Q (sto ρ i d) S
  | .tp is, d, ρ, S, Q => wTup d is.length fun l => Q ((is.zip l).foldl (fun r p => sto r p.1 p.2) ρ) S
def compL (tg : D → Env → Store → (Env → Store → Prop) → Prop) (cond : WT) (elt : WE) (G : Grd) (ρ : Env) : List D → List D → Store → (List D → Store → Prop) → Prop
  | [], acc, S, Q => G S ∧ Q acc S
  | x :: xs, acc, S, Q => G S ∧ tg x ρ S fun ρ2 S2 => cond ρ2 S2 (fun b S3 =>
      if b = true then elt ρ2 S3 (fun d S4 => ∃ S5, Sub S5 S4 ∧ compL tg cond elt G ρ xs (acc ++ [d]) S5 Q) noX else ∃ S5, Sub S5 S3 ∧ compL tg cond elt G ρ xs acc S5 Q) noX
def slotsOf : CT → List Nat
  | .nm i => [i]
  | .tp is => is
def innL (tg : D → Env → Store → (Env → Store → Prop) → Prop) (elt : WE) (G : Grd) (ρ : Env) : List D → List D → Store → (List D → Store → Prop) → Prop
  | [], acc, S, Q => G S ∧ Q acc S
  | x :: xs, acc, S, Q => G S ∧ tg x ρ S fun ρ2 S2 => elt ρ2 S2 (fun d S4 => ∃ S5, acc.length < big ∧ Sub S5 S4 ∧ innL tg elt G ρ xs (acc ++ [d]) S5 Q) noX
def comp2L (tg : D → Env → Store → (Env → Store → Prop) → Prop) (wi : WI) (tg2 : D → Env → Store → (Env → Store → Prop) → Prop) (elt : WE) (own2 : List Nat) (G : Grd) (ρ : Env) : List D → List D → Store → (List D → Store → Prop) → Prop
  | [], acc, S, Q => G S ∧ Q acc S
  | x :: xs, acc, S, Q => G S ∧ tg x ρ S fun ρ2 S2 => wi ρ2 S2 (fun its2 G2 S3 => innL tg2 elt G2 (wipeD ρ2 own2) its2 acc S3 (fun acc' S4 => ∃ S5, Sub S5 S4 ∧ comp2L tg wi tg2 elt own2 G ρ xs acc' S5 Q)) noX
def oneS (acc : List Str) (x : Str) : List Str := if acc.any (· == x) then acc else acc ++ [x]
def uniqS (xs : List Str) : List Str := xs.foldl oneS []
def wStp (j : Nat) (d : D) (S : Store) (Q : QE) : Prop := ∃ l, lstOf S d = some l ∧ Q (.fl (evL (l.drop j))) S
def wLset (d : D) (S : Store) (Q : QE) : Prop := ∃ xs : List Str, lstOf S d = some (xs.map D.str) ∧ xs.length ≤ 4000 ∧ Q (.int (uniqS xs).length) S
def permD (pm : List Nat) (ds : List D) : List D := pm.map fun i => ds.getD i .non
def revD (m : Bool) (d : D) (S : Store) (Q : QE) : Prop := match d with
  | .fl l => newL m l.reverse S Q
  | .kl l => newL m l.reverse S Q
  | .ref a => ∃ l, S a = some (.lst l) ∧ newL m l.reverse S Q
  | _ => False
def putS (k : Str) (d : D) (l : List (Str × D)) : List (Str × D) :=
  if (l.any fun kv => decide (kv.1 = k)) = true then l.map (fun kv => if kv.1 = k then (kv.1, d) else kv) else l ++ [(k, d)]
def dcompL (tg : D → Env → Store → (Env → Store → Prop) → Prop) (key val : WE) (G : Grd) (ρ : Env) : List D → List (Str × D) → Store → (List (Str × D) → Store → Prop) → Prop
  | [], acc, S, Q => G S ∧ Q acc S
  | x :: xs, acc, S, Q => G S ∧ tg x ρ S fun ρ2 S2 => key ρ2 S2 (fun y S3 => val ρ2 S3 (fun z S4 => ∃ (k : Str) (S5 : Store), y = .str k ∧ Sub S5 S4 ∧ dcompL tg key val G ρ xs (putS k z acc) S5 Q) noX) noX
def subX (j k : Nat) : Bool := Nat.beq j k || (Nat.beq k 8 && (Nat.ble 10 j && Nat.ble j 22)) || (Nat.beq k 9 && (Nat.ble 23 j && Nat.ble j 28))
def wIsx (k : Nat) (js : List Nat) (d : D) (K : D → Prop) : Prop := match d with
  | .exc j _ => memW j js (K (.bl (subX j k)))
  | .exv j _ => memW j js (K (.bl (subX j k)))
  | _ => False
def wAttx (i : Nat) (js : List Nat) (d : D) (K : D → Prop) : Prop := match d with
  | .exc j fs => memW j js (∃ y, fs.lookup i = some y ∧ K y)
  | .exv j fs => memW j js (∃ y, fs.lookup i = some y ∧ K y)
  | _ => False
def toldX (sp1 sp2 : DSp) (Q : QE) : QX := fun x S1 => match x with
  | .own j (f :: fs) => 10 ≤ j ∧ j ≤ 28 ∧ sp1 [.exc j (f :: fs)] S1 (fun w S2 => S2 = S1 ∧ ∃ y, w = .str y ∧ sp2 [.exc j (f :: fs), .str y] S1 (fun t S3 => S3 = S1 ∧ ∃ z, t = .str z ∧ Q (.tup [.str y, .str z]) S1) noX) noX
  | _ => False
def wInt (d : D) (k : Int → Prop) : Prop := match d with
  | .int i => k i
  | _ => False
def rngL (lo : Int) (n : Nat) : List D := (List.range n).map fun (i : Nat) => D.int (lo + i)
def rngLc (lo s : Int) (n : Nat) : List D := (List.range n).map fun (i : Nat) => D.int (lo + i * s)
def in62 (i : Int) : Prop := -(2 ^ 62) ≤ i ∧ i < 2 ^ 62
def wSeqG (d : D) (S : Store) (k : List D → Grd → Prop) : Prop := match d with
  | .tup l => k l fun _ => True
  | .fl l => k l fun _ => True
  | .kl l => k l fun _ => True
  | .ref a => ∃ l, S a = some (.lst l) ∧ k l fun S' => S' a = some (.lst l)
  | .ptup l => k l fun _ => True
  | _ => False
def wFld (cl : Nat) (d : D) (S : Store) (k : List (Nat × D) → Prop) : Prop := match d with
  | .obj c fs => c = cl ∧ k fs
  | .ref a => ∃ fs, S a = some (.ins cl fs) ∧ k fs
  | _ => False
def wGet (i : Nat) (fs : List (Nat × D)) (k : D → Prop) : Prop := match fs with
  | [] => False
  | (j, x) :: r => if j = i then k x else wGet i r k
def noF (i : Nat) (fs : List (Nat × D)) (K : Prop) : Prop := match fs with
  | [] => K
  | (j, _) :: r => if j = i then False else noF i r K
def fmtW (d : D) (k : Str → Prop) : Prop := match d with
  | .str y => leW y.length big (k y)
  | .int i => i.natAbs.log2 < 1920 ∧ k (toString i)
  | _ => False
def wMk1 (m : Bool) (cl : Nat) (sp : DSp) (ds : List D) (S1 : Store) (Q : QE) (E : QX) : Prop :=
  ∀ p, S1 p = none → sp (.ref p :: ds) (put S1 p (.ins cl [])) (fun d S2 => d = .non ∧ match m with
      | true => Q (.ref p) S2
      | false => ∃ fs S3, S2 p = some (.ins cl fs) ∧ Sub S3 (del S2 p) ∧ Q (.obj cl fs) S3) (fun x S2 => ∃ S3, Sub S3 S2 ∧ E x S3)
def wMk (m : Bool) (cl : Nat) (sp : DSp) (wl : WA) : WE := fun ρ S Q E => wl ρ S (fun ds S1 => wMk1 m cl sp ds S1 Q E) E
def and2 (t u : WT) : WT := fun ρ S Q E => t ρ S (fun b S1 => if b = true then u ρ S1 Q E else Q false S1) E
def or2 (t u : WT) : WT := fun ρ S Q E => t ρ S (fun b S1 => if b = true then Q true S1 else u ρ S1 Q E) E
def not1 (t : WT) : WT := fun ρ S Q E => t ρ S (fun b S1 => Q (!b) S1) E
def wLstG (d : D) (S : Store) (k : List D → Grd → Prop) : Prop := match d with
  | .fl l => k l fun _ => True
  | .kl l => k l fun _ => True
  | .ref a => ∃ l, S a = some (.lst l) ∧ k l fun S' => S' a = some (.lst l)
  | _ => False
def wRev (x : D) (S : Store) (Q : QE) : Prop := match x with
  | .tup l => Q (.tup l.reverse) S
  | .fl l => newL false l.reverse S Q
  | .kl l => newL false l.reverse S Q
  | .ref a => ∃ l, S a = some (.lst l) ∧ newL false l.reverse S Q
  | .str z => (revS z).length ≤ sizeLine ∧ Q (.str (revS z)) S
  | _ => False
def wRpl (x : D) (y z : Str) (S : Store) (Q : QE) : Prop := match x with
  | .str a => (y == z) = false ∧ a.length + (a.length + 1) * z.length ≤ 16777216 ∧ Q (.str (Txt.replace a y z)) S
  | _ => False
def bolD (d : D) (k : Bool → Prop) : Prop := match d with
  | .bl b => k b
  | _ => False
def bolW (w : WE) : WT := fun ρ S Q E => w ρ S (fun d S1 => bolD d (fun b => Q b S1)) E
def truW (w : WE) : WT := fun ρ S Q E => w ρ S (fun d S1 => truD S1 d (fun b => Q b S1)) E
mutual
def wE : CE → WE
  | .var i => wVar i
  | .int i => wC (.int i)
  | .str x => wC (.str x)
  | .bl b => wC (.bl b)
  | .non => wC .non
  | .glo _ d => wC d
  | .bval _ n => wC (.ty n)
  | .op o a b => fun ρ S Q E => wE a ρ S (fun x S1 => wE b ρ S1 (fun y S2 => o.w x y S2 Q) E) E
  | .un o a => fun ρ S Q E => wE a ρ S (fun x S1 => o.w x S1 Q) E
  | .cmp o a b => fun ρ S Q E => wE a ρ S (fun x S1 => wE b ρ S1 (fun y S2 => o.w x y S2 Q) E) E
  | .chain o o' a b e => fun ρ S Q E => wE a ρ S (fun x S1 => wE b ρ S1 (fun y S2 => o.w x y S2 (fun z S3 => ∃ t, z = .bl t ∧ if t = true then wE e ρ S3 (fun u S4 => o'.w y u S4 Q) E else Q (.bl false) S3)) E) E
  | .and_ a b => fun ρ S Q E => wE a ρ S (fun x S1 => truD S1 x fun t => if t = true then wE b ρ S1 Q E else Q x S1) E
  | .or_ a b => fun ρ S Q E => wE a ρ S (fun x S1 => truD S1 x fun t => if t = true then Q x S1 else wE b ρ S1 Q E) E
  | .not_ a => fun ρ S Q E => wE a ρ S (fun x S1 => truD S1 x fun t => Q (.bl (!t)) S1) E
  | .ife t a b => fun ρ S Q E => wQ t ρ S (fun c S1 => if c = true then wE a ρ S1 Q E else wE b ρ S1 Q E) E
  | .tup es => fun ρ S Q E => wL es ρ S (fun ds S1 => leW ds.length big (Q (.tup ds) S1)) E
  | .lst m es => fun ρ S Q E => wL es ρ S (fun ds S1 => leW ds.length big (newL m ds S1 Q)) E
  | .call _ sp es => fun ρ S Q E => wL es ρ S (fun ds S1 => sp ds S1 Q E) E
  | .blt b es => fun ρ S Q E => wL es ρ S (fun ds S1 => b.w ds S1 Q) E
  | .met m o es => fun ρ S Q E => wE o ρ S (fun d S1 => m.ty d S1 ∧ wL es ρ S1 (fun ds S2 => m.w d ds S2 Q) E) E
  | .idx o a i => fun ρ S Q E => wE a ρ S (fun x S1 => wE i ρ S1 (fun y S2 => o.w x y S2 Q) E) E
  | .rev a => fun ρ S Q E => wE a ρ S (fun x S1 => wRev x S1 Q) E
  | .rpl a y z => fun ρ S Q E => wE a ρ S (fun x S1 => wRpl x y z S1 Q) E
  | .slc o a lo hi => fun ρ S Q E => wE a ρ S (fun x S1 => wO lo ρ S1 (fun l S2 => wO hi ρ S2 (fun h S3 => o.w x l h S3 Q) E) E) E
  | .comp m own elt tg it cond => fun ρ S Q E => wI it ρ S (fun its G S1 => leW its.length big (compL (tgW tg) (wC' cond) (wE elt) G (wipeD ρ (own.map (·.2))) its [] S1 (fun l S2 => newL m l S2 Q))) E
  | .comp2 m own elt tg it tg2 it2 => fun ρ S Q E => wI it ρ S (fun its G S1 => comp2L (tgW tg) (wI it2) (tgW tg2) (wE elt) (slotsOf tg2) G (wipeD ρ (own.map (·.2))) its [] S1 (fun l S2 => newL m l S2 Q)) E
  | .dcomp own key val tg it => fun ρ S Q E => wI it ρ S (fun its G S1 => leW its.length big (dcompL (tgW tg) (wE key) (wE val) G (wipeD ρ (own.map (·.2))) its [] S1 (fun l S2 => Q (.dk l) S2))) E
  | .nev => fun _ _ _ _ => False
  | .dget _ kvs e d => fun ρ S Q E => wE e ρ S (fun x S1 => wE d ρ S1 (fun y S2 => match x with
      | .str z => Q ((kvs.lookup z).getD y) S2
      | _ => False) E) E
  | .emp => wC (.dk [])
  | .dun x => wC (.dk [(x, .tup [])])
  | .att cl k o => fun ρ S Q E => wE o ρ S (fun d S1 => wFld cl d S1 fun fs => wGet k fs fun x => Q x S1) E
  | .prop cl _ sp o => fun ρ S Q E => wE o ρ S (fun d S1 => wFld cl d S1 fun _ => sp [d] S1 Q noX) E
  | .omet cl i sp o es => fun ρ S Q E => wE o ρ S (fun d S1 => wFld cl d S1 fun fs => noF i fs (wL es ρ S1 (fun ds S2 => sp (d :: ds) S2 Q E) E)) E
  | .mk m _ cl sp es => wMk m cl sp (wL es)
  | .mkK m _ cl ks sp es => fun ρ S Q E => wL es ρ S (fun ds S1 => eqW ds.length ks.length (wMk1 m cl sp ds S1 Q E)) E
  | .mkx _ j ks es => fun ρ S Q E => wL es ρ S (fun ds S1 => eqW ds.length ks.length (Q (.exv j (ks.zip ds)) S1)) E
  | .mkxK _ j ks pm _ es => fun ρ S Q E => wL es ρ S (fun ds S1 => eqW ds.length pm.length (Q (.exv j (ks.zip (permD pm ds))) S1)) E
  | .isi T ks o => fun ρ S Q E => wE o ρ S (fun d S1 => isW T ks d S1 fun b => Q (.bl b) S1) E
  | .cmpF o a b => fun ρ S Q E => wE a ρ S (fun x S1 => wE b ρ S1 (fun y S2 => o.w x y S2 Q) E) E
  | .opF o a b => fun ρ S Q E => wE a ρ S (fun x S1 => wE b ρ S1 (fun y S2 => o.w x y S2 Q) E) E
  | .bltF b es => fun ρ S Q E => wL es ρ S (fun ds S1 => b.w ds S1 Q) E
  | .callK _ n ks pm sp as es => fun ρ S Q E => wL as ρ S (fun ds S1 => wL es ρ S1 (fun zs S2 => eqW ds.length n (eqW zs.length ks.length (sp (permD pm (ds ++ zs)) S2 Q E))) E) E
  | .ometK cl i ks pm sp o es => fun ρ S Q E => wE o ρ S (fun d S1 => wFld cl d S1 fun fs => noF i fs (wL es ρ S1 (fun ds S2 => eqW ds.length ks.length (sp (d :: permD pm ds) S2 Q E)) E)) E
  | .revs m o => fun ρ S Q E => wE o ρ S (fun d S1 => revD m d S1 Q) E
  | .lrng m o => fun ρ S Q E => wE o ρ S (fun d S1 => wInt d fun j => 0 ≤ j ∧ j ≤ 16777216 ∧ newL m (rngL 0 j.toNat) S1 Q) E
  | .lset o => fun ρ S Q E => wE o ρ S (fun d S1 => wLset d S1 Q) E
  | .stp j o => fun ρ S Q E => wE o ρ S (fun d S1 => wStp j d S1 Q) E
  | .empM => fun _ S Q _ => ∀ p, S p = none → Q (.ref p) (put S p (.dct []))
  | .isx _ k js o => fun ρ S Q E => wE o ρ S (fun d S1 => wIsx k js d fun b => Q b S1) E
  | .attx i js o => fun ρ S Q E => wE o ρ S (fun d S1 => wAttx i js d fun y => Q y S1) E
  | .told _ sp1 sp2 e => fun ρ S Q _ => wE e ρ S (fun d S1 => Q (.tup [.str "returned", d]) S1) (toldX sp1 sp2 Q)
  | .fstr es => fun ρ S Q E => wJ es Str.empty ρ S (fun out S1 => Q (.str out) S1) E
def wQ : CE → WT
  | .and_ a b => and2 (wQ a) (wQ b)
  | .or_ a b => or2 (wQ a) (wQ b)
  | .not_ a => not1 (wQ a)
  | .ife t a b => fun ρ S Q E => wQ t ρ S (fun c S1 => if c = true then wQ a ρ S1 Q E else wQ b ρ S1 Q E) E
  | .var i => truW (wVar i)
  | .cmp o a b => bolW (fun ρ S Q E => wE a ρ S (fun x S1 => wE b ρ S1 (fun y S2 => o.w x y S2 Q) E) E)
  | .chain o o' a b e => bolW (fun ρ S Q E => wE a ρ S (fun x S1 => wE b ρ S1 (fun y S2 => o.w x y S2 (fun z S3 => ∃ t, z = .bl t ∧ if t = true then wE e ρ S3 (fun u S4 => o'.w y u S4 Q) E else Q (.bl false) S3)) E) E)
  | .isi T ks o => truW (fun ρ S Q E => wE o ρ S (fun d S1 => isW T ks d S1 fun b => Q (.bl b) S1) E)
  | .cmpF o a b => bolW (fun ρ S Q E => wE a ρ S (fun x S1 => wE b ρ S1 (fun y S2 => o.w x y S2 Q) E) E)
  | .bltF b es => truW (fun ρ S Q E => wL es ρ S (fun ds S1 => b.w ds S1 Q) E)
  | .call _ sp es => truW (fun ρ S Q E => wL es ρ S (fun ds S1 => sp ds S1 Q E) E)
  | .blt b es => truW (fun ρ S Q E => wL es ρ S (fun ds S1 => b.w ds S1 Q) E)
  | .met m o es => truW (fun ρ S Q E => wE o ρ S (fun d S1 => m.ty d S1 ∧ wL es ρ S1 (fun ds S2 => m.w d ds S2 Q) E) E)
  | .idx o a i => truW (fun ρ S Q E => wE a ρ S (fun x S1 => wE i ρ S1 (fun y S2 => o.w x y S2 Q) E) E)
  | .op o a b => truW (fun ρ S Q E => wE a ρ S (fun x S1 => wE b ρ S1 (fun y S2 => o.w x y S2 Q) E) E)
  | .omet cl i sp o es => truW (fun ρ S Q E => wE o ρ S (fun d S1 => wFld cl d S1 fun fs => noF i fs (wL es ρ S1 (fun ds S2 => sp (d :: ds) S2 Q E) E)) E)
  | .callK _ n ks pm sp as es => truW (fun ρ S Q E => wL as ρ S (fun ds S1 => wL es ρ S1 (fun zs S2 => eqW ds.length n (eqW zs.length ks.length (sp (permD pm (ds ++ zs)) S2 Q E))) E) E)
  | _ => fun _ _ _ _ => False
def wC' : CL → WT
  | .nil => fun _ S Q _ => Q true S
  | .cons e r => and2 (wQ e) (wC' r)
  | .star _ _ => fun _ _ _ _ => False
def wJ : CL → Str → Env → Store → (Str → Store → Prop) → QX → Prop
  | .nil, acc => fun _ S Q _ => Q acc S
  | .cons e r, acc => fun ρ S Q E => wE e ρ S (fun d S1 => fmtW d fun y => leW (acc ++ y).length big (wJ r (acc ++ y) ρ S1 Q E)) E
  | .star _ _, _ => fun _ _ _ _ => False
def wL : CL → WA
  | .nil => fun _ S Q _ => Q [] S
  | .cons e r => fun ρ S Q E => wE e ρ S (fun d S1 => wL r ρ S1 (fun ds S2 => Q (d :: ds) S2) E) E
  | .star e r => fun ρ S Q E => wE e ρ S (fun d S1 => ∃ l, seqOf S1 d = some l ∧ wL r ρ S1 (fun ds S2 => Q (l ++ ds) S2) E) E
def wO : CO → Env → Store → (Option Int → Store → Prop) → QX → Prop
  | .none => fun _ S Q _ => Q none S
  | .some e => fun ρ S Q E => wE e ρ S (fun d S1 => wInt d fun i => Q (some i) S1) E
def wI : CI → WI
  | .seq e => fun ρ S K E => wE e ρ S (fun d S1 => wSeqG d S1 fun l G => K l G S1) E
  | .rng1 b => fun ρ S K E => wE b ρ S (fun d S1 => wInt d fun j => in62 j ∧ K (rngL 0 j.toNat) (fun _ => True) S1) E
  | .rng2 a b => fun ρ S K E => wE a ρ S (fun x S1 => wE b ρ S1 (fun d S2 => wInt x fun i => wInt d fun j => in62 i ∧ in62 j ∧ K (rngL i (j - i).toNat) (fun _ => True) S2) E) E
  | .rng3 a b s => fun ρ S K E => wE a ρ S (fun x S1 => wE b ρ S1 (fun d S2 => wE s ρ S2 (fun z S3 => wInt x fun i => wInt d fun j => wInt z fun t => ∃ n, RgC i j t n ∧ K (rngLc i t n) (fun _ => True) S3) E) E) E
  | .enum e => fun ρ S K E => wE e ρ S (fun d S1 => wSeqG d S1 fun l G => K (l.zipIdx.map fun p => .tup [.int p.2, p.1]) G S1) E
  | .zip2 a b => fun ρ S K E => wE a ρ S (fun x S1 => wE b ρ S1 (fun y S2 => wSeqG x S2 fun l G => wSeqG y S2 fun m G' => K ((l.zip m).map fun p => .tup [p.1, p.2]) (fun S' => G S' ∧ G' S') S2) E) E
  | .zip3 a b e => fun ρ S K E => wE a ρ S (fun x S1 => wE b ρ S1 (fun y S2 => wE e ρ S2 (fun z S3 => wSeqG x S3 fun l G => wSeqG y S3 fun m G' => wSeqG z S3 fun n G'' =>
      K ((l.zip (m.zip n)).map fun p => .tup [p.1, p.2.1, p.2.2]) (fun S' => G S' ∧ G' S' ∧ G'' S') S3) E) E) E
  | .zipS e => fun ρ S K E => wE e ρ S (fun d S1 => ∃ (ls : List (List D)) (n : Nat), d = .fl (ls.map D.fl) ∧ ls ≠ [] ∧ ls.length ≤ 6 ∧ (∀ l ∈ ls, l.length = n) ∧ K ((List.range n).map fun i => .tup (ls.map fun l => l.getD i .non)) (fun _ => True) S1) E
  | .rev e => fun ρ S K E => wE e ρ S (fun d S1 => wSeqG d S1 fun l G => K l.reverse G S1) E
  | .sgn e => fun ρ S K E => wE e ρ S (fun d S1 => ∃ x : Str, d = .str x ∧ K (x.cps.toList.map fun c => .str ⟨#[c]⟩) (fun _ => True) S1) E
end
def calLen : CAL → Nat
  | .nil => 0
  | .cons _ r => calLen r + 1
mutual
def wG : CA → D → Env → Store → (Env → Store → Prop) → Prop
  | .nm i => fun d ρ S Q => Q (sto ρ i d) S
  | .sub s o i => fun d ρ S Q => wE o ρ S (fun x S1 => wE i ρ S1 (fun y S2 => s.w x y d S2 (fun S3 => Q ρ S3)) noX) noX
  | .att cl k o => fun d ρ S Q => wE o ρ S (fun x S1 => ∃ a fs, x = .ref a ∧ S1 a = some (.ins cl fs) ∧ fs.length < 1000 ∧ Q ρ (put S1 a (.ins cl (putN k d fs)))) noX
  | .tp ts => fun d ρ S Q => match d with
    | .fl l => eqW l.length (calLen ts) (wGs ts l ρ S Q)
    | d => wTup d (calLen ts) fun l => wGs ts l ρ S Q
def wGs : CAL → List D → Env → Store → (Env → Store → Prop) → Prop
  | .nil => fun l ρ S Q => match l with
    | [] => Q ρ S
    | _ :: _ => False
  | .cons t r => fun l ρ S Q => match l with
    | [] => False
    | d :: ds => wG t d ρ S (fun ρ1 S1 => wGs r ds ρ1 S1 Q)
end
def frzW (S : Store) (o : Option D) (k : D → Store → Prop) : Prop := match o with
  | some d => ∃ d' F S', Fz S F d d' ∧ FzS S F S' ∧ k d' S'
  | none => False
mutual
def wS : CS → WS
  | .expr e => fun E ρ S => wE e ρ S (fun _ S1 => E.nx ρ S1) (E.ex ρ)
  | .asg t e => fun E ρ S => wE e ρ S (fun d S1 => wG t d ρ S1 E.nx) (E.ex ρ)
  | .par2 i j a b => fun E ρ S => wE a ρ S (fun x S1 => wE b ρ S1 (fun y S2 => E.nx (sto (sto ρ i x) j y) S2) (E.ex ρ)) (E.ex ρ)
  | .par3 i j l a b e => fun E ρ S => wE a ρ S (fun x S1 => wE b ρ S1 (fun y S2 => wE e ρ S2 (fun z S3 => E.nx (sto (sto (sto ρ i x) j y) l z) S3) (E.ex ρ)) (E.ex ρ)) (E.ex ρ)
  | .ret e => fun E ρ S => wE e ρ S E.rt (E.ex ρ)
  | .retN => fun E _ S => E.rt .non S
  | .if_ t a b => fun E ρ S => wQ t ρ S (fun c S1 => if c = true then wB a E ρ S1 else wB b E ρ S1) (E.ex ρ)
  | .for_ t it b => fun E ρ S => wI it ρ S (fun its G S1 => forL (fun d E' ρ' S' => tgW t d ρ' S' fun ρ2 S2 => wB b E' ρ2 S2) G its E ρ S1) (E.ex ρ)
  | .whl t b => fun E ρ S => ∃ n, whileL (wQ t) (wB b) n E ρ S
  | .pass => fun E ρ S => E.nx ρ S
  | .raise_ cl ks es => fun _ _ _ => False
  | .raz _ cl i e => fun E ρ S => wE e ρ S (fun d S1 => E.ex ρ (.own cl [(i, d)]) S1) (E.ex ρ)
  | .nev => fun _ _ _ => False
def wB : CB → WS
  | .nil => fun E ρ S => E.nx ρ S
  | .cons s r => fun E ρ S => wS s { E with nx := fun ρ1 S1 => wB r E ρ1 S1 } ρ S
  | .frz i r => fun E ρ S => frzW S (lk ρ i) fun d' S' => wB r E (sto ρ i d') S'
end
end L3
namespace L3
open PySem PySem.Spec PyProof.Rows L2
structure XcK (K : PySem.W.Frag) (C : Addr) : Prop where
  some_ : (PySem.W.clsIn K C).isSome = true
  ga : PySem.W.findIn K (.ref C) "__getattribute__" = some (some (.builtin "BaseException.__getattribute__"))
  gg : PySem.W.findIn K (.ref C) "__getattr__" = some none
  sub : PySem.W.subIn K (.ref C) (.type "BaseException") = some true
  cl : PySem.W.findIn K (.ref C) "__class__" = some (some (.builtin "object.__class__"))
  gt : PySem.W.specialIn K (.builtin "object.__class__") "__get__" = some (some (.builtin "getset_descriptor.__get__"))
  tk : PySem.W.takesIn K (.builtin "object.__class__") = some true
  mo : PySem.W.mroIn K C (.type "object") = some true
  hd : PySem.W.hasDictIn K C = true
def ExH (X : Cx) (H : Hp) (a D : Addr) (dd : Option Addr) : Prop := (∃ (oe : Obj) (fv : Array Value), (a, oe) ∈ X.pn ∧ oe.cls = .ref D ∧ oe.dict = dd ∧ oe.data = .fields fv) ∨ H a = some (exo a D dd)
theorem inst_h {X : Cx} {pins : List (Addr × Obj)} {σ : L2.St} {H : Hp} {s : Shared} (I : L2.Inv X pins σ H s) {a D : Addr} {dd : Option Addr} (h : ExH X H a D dd) : ∃ (oe : Obj) (fv : Array Value), s.heap.get? a = some oe ∧ oe.cls = .ref D ∧ oe.dict = dd ∧ oe.data = .fields fv := by
  rcases h with ⟨oe, fv, hp, hc, hd, hf⟩ | hH
  · exact ⟨oe, fv, (I.pin (a, oe) (List.mem_append_left _ hp)).1, hc, hd, hf⟩
  · have ok : ObjOk X.prog X.w H s.heap a (exo a D dd) := I.hok a _ hH
    obtain ⟨⟨t, e⟩, _⟩ := ok
    exact ⟨_, _, e, rfl, rfl, rfl⟩
theorem inst_n {X : Cx} {pins : List (Addr × Obj)} {σ : L2.St} {H : Hp} {s : Shared} (I : L2.Inv X pins σ H s) {a D : Addr} (h : ExH X H a D none) : ∃ oe : Obj, PySem.W.InstAt s.heap a oe D none := by
  obtain ⟨oe, fv, at_, hc, hd, hf⟩ := inst_h I h
  exact ⟨oe, at_, hc, by unfold PySem.W.notCls; rw [hf] <;> rfl, by rw [hd]; trivial⟩
theorem inst_x {X : Cx} {pins : List (Addr × Obj)} {σ : L2.St} {H : Hp} {s : Shared} (I : L2.Inv X pins σ H s) {a D d : Addr} {vfs : List (Str × V)} (h : ExH X H a D (some d)) (hH : H d = some (.xd vfs)) :
    ∃ (oe od : Obj) (mA : Str → Option Value), PySem.W.InstAt s.heap a oe D (some od) ∧ oe.dict = some d ∧ s.heap.Ns1 d mA ∧ s.heap.get? d = some od ∧ ∀ f, RelO (vfs.lookup f) (mA f) := by
  obtain ⟨oe, fv, at_, hc, hd, hf⟩ := inst_h I h
  have ok : ObjOk X.prog X.w H s.heap d (.xd vfs) := I.hok d _ hH
  obtain ⟨mA, hns, hr⟩ := ok
  obtain ⟨od, ho, hl⟩ := lookIn_ns hns
  exact ⟨oe, od, mA, ⟨at_, hc, by unfold PySem.W.notCls; rw [hf] <;> rfl, by rw [hd]; exact ho⟩, hd, hns, ho, hr⟩
theorem call_isx {X : Cx} : CallR X (.builtin "isinstance") (fun xs H Q => ∃ (a D : Addr) (c : V) (cv : Value) (b : Bool), xs = [.ref a, c] ∧ (ExH X H a D none ∨ ∃ d vfs, ExH X H a D (some d) ∧ H d = some (.xd vfs)) ∧ XcK X.K D ∧
    (∀ u, RelV c u → u = cv) ∧ PySem.W.kitOne X.K (.ref D) cv = some b ∧ Q (.bl b) H) := by
  intro pins s σ H xs us Q I r h
  obtain ⟨a, D, c, cv, b, rfl, hx, C, hcv, e, q⟩ := h
  cases r with
  | cons rx rr =>
    cases rr with
    | cons rt rr =>
      cases rr
      cases rx
      have ec := hcv _ rt
      subst ec
      have J : ∃ (oe : Obj) (od : Option Obj), PySem.W.InstAt s.heap a oe D od := by
        rcases hx with hx | ⟨d, vfs, hx, hH⟩
        · obtain ⟨oe, J⟩ := inst_n I hx
          exact ⟨oe, _, J⟩
        · obtain ⟨oe, od, mA, J, _⟩ := inst_x I hx hH
          exact ⟨oe, _, J⟩
      obtain ⟨oe, od, J⟩ := J
      exact PySem.W.kia_one (PySem.W.kitx_exc C.some_ C.ga C.gg C.sub C.cl C.gt C.tk C.mo) I.kIn J e (fun z => nomatch z) fun tk => ⟨.bl b, H, I.kept (t' := tk) fun _ _ z => z, rfl, q⟩
theorem pe_attx {X : Cx} {e : Expr} {f : Str} {te : TE} {pos : Pos} (he : PE X e te) (hb : attributeBase e f X.env (eval e X.env) = eval e X.env) :
    PE X (.Attribute e f pos) (fun σ H Q => te σ H fun x H1 => ∃ (a D d : Addr) (vfs : List (Str × V)) (v : V), x = .ref a ∧ ExH X H1 a D (some d) ∧ XcK X.K D ∧ PySem.W.findIn X.K (.ref D) f = some none ∧
      H1 d = some (.xd vfs) ∧ vfs.lookup f = some v ∧ Q v H1) := by
  refine ⟨fun pins s σ H Q I h => ?_⟩
  refine attr_of hb (thn (he.run pins s σ H _ I h) fun u s1 hh => ?_)
  obtain ⟨x, H1, I1, rx, a, D, d, vfs, v, rfl, hx, C, no, hH, lv, q⟩ := hh
  obtain rfl : u = Value.ref a := rx
  obtain ⟨oe, od, mA, J, hd, hns, ho, hr⟩ := inst_x I1 hx hH
  obtain ⟨u, hu, ru⟩ := RelO.some_of (v := v) (o := mA f) (by rw [← lv]; exact hr f)
  obtain ⟨od', ho', hl⟩ := lookIn_ns hns
  rw [ho] at ho'
  cases ho'
  exact HandSPX.exc_get I1.kIn J C.ga C.gg C.sub (PySem.W.findObj_own C.hd no rfl (by rw [hl, hu])) (handed_of ru) ⟨v, H1, I1.tok _, ru, q⟩
end L3
namespace L3
open PySem PySem.Spec PyProof.Rows L2
def xA (f : Str) (p1 p2 : Pos) : Arguments := ⟨[], [⟨"self", none, p1⟩, ⟨f, none, p2⟩], none, [], [], none, []⟩
def xB (f : Str) (q1 q2 q3 q4 : Pos) : List Stmt := [.Assign [.Attribute (.Name "self" q1) f q2] (.Name f q3) q4]
def xS (f : Str) : Scope := ⟨.function, [("self", .local), (f, .local)], false, false, []⟩
def refsX (t : List Value) : List Value → Bool
  | .ref _ :: r => refsX t r
  | l => l == t
abbrev aeTail : List Value := [.type "ArithmeticError", .type "Exception", .type "BaseException", .type "object"]
theorem refsX_or (t : List Value) : ∀ l : List Value, refsX t l = true → (∃ c r, l = .ref c :: r ∧ refsX t r = true) ∨ l = t
  | [], e => .inr (beq_iff_eq.mp e)
  | v :: r, e => by
    cases v <;> first | exact .inl ⟨_, _, rfl, e⟩ | exact .inr (beq_iff_eq.mp e)
structure TailOk (newId : String) (bm : List Value) : Prop where
  base : ∃ B initId bmB, ExcBaseFacts B newId initId bmB ∧ ∀ X : String, bm.contains (.type X) = bmB.contains (.type X)
  obj : bm.contains (.type "object") = true
  pass : ∀ self, PySem.refuseLoop self "__setattr__" bm = Pure.pure ()
theorem tail_ve {bm : List Value} (h : PySem.HandSPX.refsVE bm = true) : TailOk "ValueError.__new__" bm :=
  ⟨⟨_, _, _, F.excBase_ValueError, fun X => PySem.HandSPX.refsVE_contains X bm h⟩, (PySem.HandSPX.refsVE_contains "object" bm h).trans (by decide +kernel), fun self => PySem.HandSPX.refsVE_pass self bm h⟩
theorem ae_all : ∀ bm : List Value, refsX aeTail bm = true → (∀ X : String, bm.contains (.type X) = aeTail.contains (.type X)) ∧ ∀ self, PySem.refuseLoop self "__setattr__" bm = Pure.pure () := by
  intro bm
  induction bm with
  | nil => intro e; exact absurd e (by decide)
  | cons a r ih =>
    intro e
    rcases refsX_or _ _ e with ⟨c, r', q, h⟩ | q
    · cases q
      obtain ⟨h1, h2⟩ := ih h
      refine ⟨fun X => ?_, fun self => ?_⟩
      · rw [List.contains_cons, h1]; rfl
      · rw [PySem.refuseLoop_ref]; exact h2 self
    · rw [q]
      exact ⟨fun _ => rfl, fun self => F.store_ArithmeticError.passes self⟩
theorem tail_ae {bm : List Value} (h : refsX aeTail bm = true) : TailOk "ArithmeticError.__new__" bm := by
  obtain ⟨h1, h2⟩ := ae_all bm h
  exact ⟨⟨_, _, _, F.excBase_ArithmeticError, h1⟩, (h1 "object").trans (by decide +kernel), h2⟩
structure OwnX (K : PySem.W.Frag) (C g : Addr) (f : Str) : Prop where
  cl : ∃ nm q N bs bm sn sub ab col dd k0 k1 k2 k3 k5 newId, K.lookup C = some (excClassObj nm q C N bs bm true sn sub ab col dd k0 k1 k2 k3 k5 newId) ∧ TailOk newId bm
  sa : PySem.W.findIn K (.ref C) "__setattr__" = some (some (.builtin "object.__setattr__"))
  ga : PySem.W.findIn K (.ref C) "__getattribute__" = some (some (.builtin "BaseException.__getattribute__"))
  gg : PySem.W.findIn K (.ref C) "__getattr__" = some none
  no : PySem.W.findIn K (.ref C) f = some none
  ini : PySem.W.findIn K (.ref C) "__init__" = some (some (.ref g))
  tg : PySem.W.typeIn K (.ref g) = some (.type "function")
  kC : PySem.W.keepIn K (.ref C) = true
  sub : PySem.W.subIn K (.ref C) (.type "BaseException") = some true
  ty : PySem.W.typeIn K (.ref C) = some (.type "type")
  hd : PySem.W.hasDictIn K C = true
  ns : f ≠ "self"
  nd : (f == ("__debug__" : Str)) = false
  fn : ∃ (fd : FuncData) (qual : Str) (p1 p2 q1 q2 q3 q4 : Pos), FunD K "__init__" qual (xA f p1 p2) (xB f q1 q2 q3 q4) (xS f) [] [] g fd ∧ Binds K fd ["self", f] []
theorem xk1 {f qual : Str} {L a : Addr} {cd : Value} : (envOfC qual (xS f) L a cd).kindOf "self" = some .local := rfl
theorem xk2 {f qual : Str} {L a : Addr} {cd : Value} (n : f ≠ "self") : (envOfC qual (xS f) L a cd).kindOf f = some .local := by
  have e : (f == ("self" : Str)) = false := by simpa using n
  show List.lookup f [(("self" : Str), NameKind.local), (f, .local)] = _
  simp [List.lookup, e]
structure XInit (h h' : Heap) (x C dx t : Addr) (f : Str) (v : Value) : Prop where
  old : ∀ b o, b ≠ x → h.get? b = some o → h'.get? b = some o
  at_ : h'.get? x = some { cls := .ref C, dict := some dx, data := .fields #[.ref t, .none, .none, .none, .bool false, .none] }
  big : h.objs.size ≤ dx
  ne : dx ≠ x
  ns : h'.Ns1 dx fun y => if y = f then some v else none
structure XMade (h h' : Heap) (e C d : Addr) (f : Str) (v : Value) : Prop where
  old : ∀ b o, h.get? b = some o → h'.get? b = some o
  new : h.objs.size ≤ e
  at_ : ∃ oe vs, h'.get? e = some oe ∧ oe.cls = .ref C ∧ oe.dict = some d ∧ oe.data = .fields vs ∧ vs[1]? = some .none
  big : h.objs.size ≤ d
  ne : d ≠ e
  ns : h'.Ns1 d fun y => if y = f then some v else none
section
variable {prog : Program} {w : World} {A : Around} {R : Result → Shared → Prop} {s : Shared} {K : PySem.W.Frag} {C g : Addr} {f : Str}
open Builtin Builtin.ObjectAttr in
theorem xosa {hp : Heap} {gs : Array GenState} {dr : Drawn} {tk0 : Nat} {os : OsState} {y : Str} {ty : Tok} {u : Value} {e : Addr} {fv : Array Value} {D : ClassData} (inK : K.In hp) (at_ : hp.get? e = some { cls := .ref C, data := .fields fv })
    (hD : PySem.W.clsIn K C = some D) (ne : D.mro.isEmpty = false) (ob : D.mro.contains (.type "object") = true) (ps : refuseLoop (.ref e) "__setattr__" D.mro = Pure.pure ()) (hd : D.hasDict = true) (no : PySem.W.findIn K (.ref C) y = some none)
    (k : ∀ h' tk' dx, (∀ b o, b ≠ e → hp.get? b = some o → h'.get? b = some o) → hp.objs.size ≤ dx → dx ≠ e → h'.get? e = some { cls := .ref C, dict := some dx, data := .fields fv } →
      h'.Ns1 dx (fun z => if z = y then some u else none) → R (.ok (.ret .none)) ⟨h', gs, dr, tk', os⟩) : codeAny (model prog w) A (.call (.builtin "object.__setattr__") ⟨[.ref e, .str y ty, u], []⟩) R ⟨hp, gs, dr, tk0, os⟩ := by
  have J : PySem.W.InstAt hp e { cls := .ref C, data := .fields fv } C none := ⟨at_, rfl, rfl, trivial⟩
  have O := F.store_object
  have far : e ≠ hp.objs.size := Nat.ne_of_lt (Heap.lt_size at_)
  have isO : PySem.W.Looks (model prog w) hp (isInstance (.ref e) (.type "object")) true := J.type.andThen (PySem.W.looks_mroIn inK (by unfold PySem.W.mroIn; rw [hD, Option.bind_some, if_neg (by rw [ne]; decide), ob]))
  refine codeAny_call_builtin O.slot.plain O.entry (@PySem.W.check_slot (model prog w) _ _ ⟨hp, gs, dr, tk0, os⟩ "object.__setattr__" "object" "__setattr__" (.ref e) [.str y ty, u] [] _ O.kind O.split isO (O.args (.ref e) (.str y ty) u) ?_)
  have lm : PySem.W.Looks (model prog w) hp (mroOf (.ref C)) D.mro := (PySem.W.looks_clsIn inK hD).andThen .now
  have lt : PySem.W.Looks (model prog w) hp (storeTaker? none) none := .now
  have lc : PySem.W.Looks (model prog w) hp (classData C) D := PySem.W.looks_clsIn inK hD
  rw [PySem.W.osa_eq, refuse_eq]
  refine wpAny_bind (wpAny_bind (J.type.at (wpAny_bind (lm.at ?_))))
  rw [ps]
  refine wpAny_pure (wpAny_bind (J.type.at (wpAny_bind ((PySem.W.looks_findIn inK no).at (wpAny_bind (lt.at ?_))))))
  show wpAny _ _ (storeInOwnDict (.ref e) (.ref C) (.str y ty) y u false) _ _ _
  obtain ⟨d1, d2, d3, d4, d5, d6, d7, d8, d9, d10, d11⟩ := D
  dsimp only at hd
  subst hd
  unfold storeInOwnDict ownDictForStores
  repeat (first | with_reducible refine HandSPX.store_in_new ?_ ?_ | with_reducible refine wpAny_loadPart_at at_ ?_ | with_reducible refine lc.at ?_ | wp_step)
  · exact ⟨_, #[], _, (Heap.get?_update_ne _ _ _ _ far.symm).trans (Heap.get?_push_at rfl rfl), rfl, fun z hz => absurd hz (by simp), fun _ => rfl⟩
  · intro h' tk' nsd same
    have at2 : (hp.push { cls := .type "dict", data := .dict #[] }).get? e = some { cls := .ref C, data := .fields fv } := Heap.get?_push_of_some _ at_
    refine k h' tk' hp.objs.size (fun b o hb ho => ?_) (Nat.le_refl _) far.symm ?_ nsd
    · exact (same.2 b (Nat.ne_of_lt (Heap.lt_size ho))).trans ((Heap.get?_update_ne _ _ _ _ hb).trans (Heap.get?_push_of_some _ ho))
    · exact (same.2 e far).trans (Heap.get?_update_self _ at2 rfl)
theorem xinit_run (T : OwnX K C g f) {x t : Addr} {v : Value} (inK : K.In s.heap) (lim : s.heap.NoLimit) (hx : s.heap.get? x = some (HandSPX.excO C t)) (room : A.depth < recursionLimit)
    (k : ∀ h' tk dx, XInit s.heap h' x C dx t f v → R (.ok (.ret .none)) { s with heap := h', toks := tk }) :
    codeAny (model prog w) A (.call (.ref g) ⟨[.ref x, v], []⟩) R s := by
  obtain ⟨fd, qual, p1, p2, q1, q2, q3, q4, F, B⟩ := T.fn
  have bt := B s [.ref x, v] inK rfl
  obtain ⟨oc, od, dV, kV, doc, pm, an, cdv, ct, osl, rfl, lk, hcd, _, _⟩ := F.ex
  obtain ⟨nm, q, N, bs, bm, sn, sub, ab, col, dd, k0, k1, k2, k3, k5, newId, hC, hbm⟩ := T.cl
  have hcl : PySem.W.clsIn K C = some { name := nm, bases := bs, mro := .ref C :: bm, ns := N, qualname := q, hasDict := true, slotNames := sn, subclasses := sub, abstract := ab, collection := col, hasDel := false } := by unfold PySem.W.clsIn; rw [hC] <;> rfl
  have kf : (xS f).names.lookup f = some .local := xk2 (qual := qual) (L := 0) (a := 0) (cd := .none) T.ns
  refine Att.call_fn (binds := [(("self" : Str), .ref x), (f, v)]) inK lim lk hcd room bt ?_ (fun s₁ IC => ?_) rfl rfl rfl
  · simp only [List.all_cons, List.all_nil, Bool.and_true, Bool.and_eq_true, Bool.or_eq_true, beq_iff_eq]
    exact ⟨.inl rfl, .inl kf⟩
  obtain ⟨h₁, tk₁, rfl⟩ := IC.toInCall.same
  have old := IC.toInCall.keep
  have hn := IC.toInCall.ns
  have e2 : bindL (envOfC qual (xS f) s.heap.objs.size g cdv).kindOf [(("self" : Str), Value.ref x), (f, v)] (fun _ => none) = fun y => if y = f then some v else if y = "self" then some (.ref x) else none := by
    simp only [bindL]
    rw [if_pos xk1, if_pos (xk2 T.ns)]
  rw [e2] at hn
  have hx₁ := old _ _ hx
  have inK₁ := inK.keeps old
  have z : s.heap.objs.size < h₁.objs.size := hn.lt
  show wpAny _ _ (execs _ _) _ _ _
  refine wpAny_execs_cons (plainObj_wpAny_Assign_Attribute ?_)
  refine wpAny_Name (wpAny_loadName_local rfl (xk2 T.ns) hn (if_pos rfl) ?_) T.nd
  refine wpAny_Name (wpAny_loadName_local rfl xk1 hn (by rw [if_neg (Ne.symm T.ns), if_pos rfl]) ?_) (by decide)
  refine PySem.W.set_plain inK₁ (ox := HandSPX.excO C t) (od := none) ⟨hx₁, rfl, rfl, trivial⟩ T.sa ?_
  refine xosa inK₁ hx₁ hcl rfl ((by rw [List.contains_cons, hbm.obj, Bool.or_true]) : (Value.ref C :: bm).contains (.type "object") = true) ((PySem.refuseLoop_ref _ _ _ _).trans (hbm.pass _)) rfl T.no fun h₃ tk₃ dx k₃ dn dne hx₃ hn₃ => ?_
  show wpAny _ _ (execs _ _) _ _ _
  exact wpAny_execs_nil (k h₃ tk₃ dx ⟨fun b o hb e => k₃ b o hb (old b o e), hx₃, Nat.le_of_lt (Nat.lt_of_lt_of_le z dn), dne, hn₃⟩)
theorem xmade (T : OwnX K C g f) {v : Value} (inK : K.In s.heap) (lim : s.heap.NoLimit) (room : A.depth + 1 < recursionLimit)
    (k : ∀ h' tk e d, XMade s.heap h' e C d f v → R (.ok (.ret (.ref e))) { s with heap := h', toks := tk }) : codeAny (model prog w) A (.call (.ref C) ⟨[v], []⟩) R s := by
  obtain ⟨nm, q, N, bs, bm, sn, sub, ab, col, dd, k0, k1, k2, k3, k5, newId, hC, hbm⟩ := T.cl
  obtain ⟨hp, gs, dr, tk, os⟩ := s
  have grow : ∀ b o, hp.get? b = some o → ((hp.push (PySem.W.kdv_tup [v])).push (HandSPX.excO C hp.objs.size)).get? b = some o := fun b o e => Heap.get?_push_of_some _ (Heap.get?_push_of_some _ e)
  have there : ((hp.push (PySem.W.kdv_tup [v])).push (HandSPX.excO C hp.objs.size)).get? (hp.objs.size + 1) = some (HandSPX.excO C hp.objs.size) := by heap_get
  have one : [v].length ≤ sizeLine := by rw [sizeLine_eq]; show 1 ≤ 16777216; decide
  obtain ⟨B, initId, bmB, EF, hT⟩ := hbm.base
  refine HandSPX.call_own EF hT (inK _ _ hC) (PySem.W.looks_findIn inK T.ini) (fun self => PySem.W.bind_fn inK self T.tg) one ?_
  refine xinit_run (s := ⟨(hp.push (PySem.W.kdv_tup [v])).push (HandSPX.excO C hp.objs.size), gs, dr, tk, os⟩) T (inK.keeps grow) (lim.keeps grow) there ?_ fun h' tk' dx M => ?_
  · show A.depth + 1 < recursionLimit
    exact room
  · obtain ⟨k', hx, dn, dne, hns⟩ := M
    have old : ∀ b o, hp.get? b = some o → h'.get? b = some o := fun b o e => k' b o (Nat.ne_of_lt (Nat.lt_succ_of_lt (Heap.lt_size e))) (grow b o e)
    have z : hp.objs.size + 1 + 1 ≤ dx := by
      have q := dn
      simp only [Heap.size_push] at q
      exact q
    exact ⟨rfl, k h' tk' (hp.objs.size + 1) dx ⟨old, Nat.le_succ _, ⟨_, _, hx, rfl, rfl, rfl, rfl⟩, Nat.le_trans (Nat.le_trans (Nat.le_succ _) (Nat.le_succ _)) z, dne, hns⟩⟩
end
theorem relO_x {f : Str} {v : V} {u : Value} (r : RelV v u) (y : Str) : RelO (List.lookup y [(f, v)]) (if y = f then some u else none) := by
  by_cases e : y = f
  · subst e
    rw [if_pos rfl]
    simp only [List.lookup, beq_self_eq_true]
    exact r
  · have e2 : (y == f) = false := by simpa using e
    rw [if_neg e]
    simp only [List.lookup, e2]
    trivial
end L3
namespace PySem
namespace L3X
open Builtin Builtin.ObjectAttr HandSPX
section
variable {M : Model} {A : Around} {E : Value → Shared → Prop} {h : Heap} {g : Array GenState} {d : Drawn} {t : Nat} {os : OsState}
variable {nm q : Str} {C N : Addr} {bs bm bmB : List Value} {hdct : Bool} {sn : List Str} {sub : List Value} {ab : Bool} {col : Option Bool} {dd : Option Addr} {k0 k1 k2 k3 k5 : Option Value} {B newId initId : String}
theorem check_new_kw (F : ExcBaseFacts B newId initId bmB) (hT : ∀ X : String, bm.contains (.type X) = bmB.contains (.type X)) {rest : List Value} {kw : List (Str × Value)} {Q : Unit → Shared → Prop}
    (hC : h.get? C = some (excClassObj nm q C N bs bm hdct sn sub ab col dd k0 k1 k2 k3 k5 newId)) (hq : Q () ⟨h, g, d, t, os⟩) : wpAny M A (checkBuiltinCall newId ⟨.ref C :: rest, kw⟩) Q E ⟨h, g, d, t, os⟩ := by
  have hcont : (Value.ref C :: bm).contains (.type B) = true := by rw [List.contains_cons, hT, F.hasB, Bool.or_true]
  have hstar := F.noStar
  simp only [checkBuiltinCall, F.newKind, F.newSplit, F.newRow]
  repeat (first | refine wpAny_loadPart_at hC ?_ | (refine wpAny_isSubtype_exc hC ?_; rw [hcont]) | refine wpAny_staticBase_exc hC ?_ | refine wpAny_madeBy_exc hC ?_ | simp only [bne_self_eq_false, Bool.false_eq_true, if_false] | wp_step)
  exact hq
end
section
variable {prog : Program} {w : World} {A : Around} {E : Value → Shared → Prop} {R : Result → Shared → Prop} {h : Heap} {g : Array GenState} {d : Drawn} {t : Nat} {os : OsState}
variable {nm q : Str} {C N : Addr} {bs bm bmB : List Value} {hdct : Bool} {sn : List Str} {sub : List Value} {ab : Bool} {col : Option Bool} {dd : Option Addr} {k0 k1 k2 k3 k5 : Option Value} {B newId initId : String}
theorem new_kw (F : ExcBaseFacts B newId initId bmB) (hT : ∀ X : String, bm.contains (.type X) = bmB.contains (.type X)) {rest : List Value} {kw : List (Str × Value)}
    (hC : h.get? C = some (excClassObj nm q C N bs bm hdct sn sub ab col dd k0 k1 k2 k3 k5 newId))
    (hq : R (.ok (.ret (.ref (h.objs.size + 1)))) ⟨(h.push { cls := .type "tuple", data := .seq rest.toArray }).push
      { cls := .ref C, data := .fields #[.ref h.objs.size, .none, .none, .none, .bool false, .none] }, g, d, t, os⟩) (hrest : rest.length ≤ sizeLine) :
    codeAny (model prog w) A (.builtin newId ⟨.ref C :: rest, kw⟩) R ⟨h, g, d, t, os⟩ := by
  have hends := F.ends
  have hcB : (Value.ref C :: bm).contains (.type B) = true := by rw [List.contains_cons, hT, F.hasB, Bool.or_true]
  have hcA : (Value.ref C :: bm).contains (.type "AttributeError") = false := by rw [List.contains_cons, hT, F.noAttr]; rfl
  have hcN : (Value.ref C :: bm).contains (.type "NameError") = false := by rw [List.contains_cons, hT, F.noName]; rfl
  refine codeAny_builtinAt F.entry ?_
  unfold Builtin.«BaseException.__new__»
  refine wpAt_bind ?_
  show wpAt _ _ _ (stack >>= _) _ _ _
  refine wpAt_bind (wpAt_stack fun p below => wpAt_of_wpAny ?_)
  wp_walk
  refine wpAt_of_wpAny ?_
  rw [F.owner]
  repeat (first | with_reducible refine wpAny_madeHere_exc F.canon hC ?_ | with_reducible refine wpAny_loadPart_at hC ?_ | (with_reducible refine wpAny_isSubtype_exc hC ?_; first | rw [hcB] | rw [hcA] | rw [hcN]) | wp_step)
  show R _ _
  rw [Heap.size_push]
  exact hq
theorem type_call_kw (F : ExcBaseFacts B newId initId bmB) (hT : ∀ X : String, bm.contains (.type X) = bmB.contains (.type X)) {rest : List Value} {kw : List (Str × Value)} {fI : Addr} {Q : Fin → Shared → Prop}
    (hC : h.get? C = some (excClassObj nm q C N bs bm hdct sn sub ab col dd k0 k1 k2 k3 k5 newId))
    (hi : W.Looks (model prog w) h (typeLookup (.ref C) "__init__") (some (.ref fI))) (hb : ∀ self, W.Looks (model prog w) h (bindSpecial (.ref fI) self) (.ref fI, [self])) (hrest : rest.length ≤ sizeLine)
    (hq : codeAny (model prog w) A (.call (.ref fI) ⟨.ref (h.objs.size + 1) :: rest, kw⟩)
      (fun r s' => match r with | .ok (.ret v) => v = .none ∧ Q (.done (.ret (.ref (h.objs.size + 1)))) s' | .ok _ => False | .error e => E e s')
      ⟨(h.push (W.kdv_tup rest)).push (excO C h.objs.size), g, d, t, os⟩) :
    wpAny (model prog w) A (Builtin.«type.__call__» ⟨.ref C :: rest, kw⟩) Q E ⟨h, g, d, t, os⟩ := by
  repeat (first | with_reducible refine wpAny_loadPart_at hC ?_ | with_reducible refine wpAny_madeBy_exc hC ?_ | wp_step)
  refine codeAny_call_builtin_code (Code.quiet_builtin _ F.quiet) (check_new_kw F hT hC ?_)
  refine new_kw F hT hC ?_ hrest
  show wpAny _ _ _ _ _ _
  have k : ∀ b o, h.get? b = some o → ((h.push (W.kdv_tup rest)).push (excO C h.objs.size)).get? b = some o := fun b o e => Heap.get?_push_of_some _ (Heap.get?_push_of_some _ e)
  have hC₁ := k _ _ hC
  have hget : ((h.push (W.kdv_tup rest)).push (excO C h.objs.size)).get? (h.objs.size + 1) = some (excO C h.objs.size) := by heap_get
  have hcC : (Value.ref C :: bm).contains (.ref C) = true := by simp
  have i1 := hi.keeps k
  have b1 := (hb (.ref (h.objs.size + 1))).keeps k
  unfold isInstance
  repeat (first | with_reducible refine wpAny_loadPart_at hget ?_ | (with_reducible refine wpAny_isSubtype_exc hC₁ ?_; rw [hcC]) | wp_step)
  show wpAny _ _ (typeLookup (.ref C) _) _ _ _
  refine i1.at ?_
  refine wpAny_holding (wpAny_bind (b1.at ?_))
  refine wpAny_bind (wpAny_call (codeAny_mono hq fun r s' z => ?_))
  rcases r with e | (v | _ | _ | _) <;> first | exact z | exact z.elim | skip
  obtain ⟨rfl, z⟩ := z
  first
    | exact wpAny_pure (wpAny_pure z)
    | (wp_walk; exact z)
theorem call_kw (F : ExcBaseFacts B newId initId bmB) (hT : ∀ X : String, bm.contains (.type X) = bmB.contains (.type X)) {rest : List Value} {kw : List (Str × Value)} {fI : Addr}
    (hC : h.get? C = some (excClassObj nm q C N bs bm hdct sn sub ab col dd k0 k1 k2 k3 k5 newId))
    (hi : W.Looks (model prog w) h (typeLookup (.ref C) "__init__") (some (.ref fI))) (hb : ∀ self, W.Looks (model prog w) h (bindSpecial (.ref fI) self) (.ref fI, [self])) (hrest : rest.length ≤ sizeLine)
    (hq : codeAny (model prog w) (A.under (.builtin "type.__call__" ⟨.ref C :: rest, kw⟩)) (.call (.ref fI) ⟨.ref (h.objs.size + 1) :: rest, kw⟩) (W.InitBack (h.objs.size + 1) R)
      ⟨(h.push (W.kdv_tup rest)).push (excO C h.objs.size), g, d, t, os⟩) :
    codeAny (model prog w) A (.call (.ref C) ⟨rest, kw⟩) R ⟨h, g, d, t, os⟩ := by
  have f1 := tc_lookup
  have f2 := tc_bind (.ref C)
  have hTy : (⟨h, g, d, t, os⟩ : Shared).TypeIs (.ref C) "type" := ⟨_, hC, rfl⟩
  refine codeAny_of_tree ?_
  show wpAny _ _ (callAny (.ref C) _) _ _ _
  repeat (any_goals (first | assumption | with_reducible refine wpAny_loadPart_at hC ?_ | wp_step))
  refine ⟨rfl, ?_⟩
  refine codeAny_call_builtin_at (Code.quiet_builtin _ (by decide +kernel)) entry_typeCall (wpAny_check_type_call_sub hC (type_call_kw F hT hC hi hb hrest ?_))
  refine codeAny_mono hq fun r s' z => ?_
  rcases r with e | (v | _ | _ | _) <;> exact z
end
end L3X
end PySem
namespace L3
open PySem PySem.Spec PyProof.Rows L2
def xB2 (f h : Str) (q1 q2 q3 q4 r1 r2 r3 r4 : Pos) : List Stmt := [.Assign [.Attribute (.Name "self" q1) f q2] (.Name f q3) q4, .Assign [.Attribute (.Name "self" r1) h r2] (.Name h r3) r4]
def xA2 (f h : Str) (p1 p2 p3 : Pos) : Arguments := ⟨[], [⟨"self", none, p1⟩, ⟨f, none, p2⟩, ⟨h, none, p3⟩], none, [], [], none, []⟩
def xS2 (f h : Str) : Scope := ⟨.function, [("self", .local), (f, .local), (h, .local)], false, false, []⟩
structure OwnC (K : PySem.W.Frag) (C : Addr) : Prop where
  cl : ∃ nm q N bs bm sn sub ab col dd k0 k1 k2 k3 k5 newId, K.lookup C = some (excClassObj nm q C N bs bm true sn sub ab col dd k0 k1 k2 k3 k5 newId) ∧ TailOk newId bm
  sa : PySem.W.findIn K (.ref C) "__setattr__" = some (some (.builtin "object.__setattr__"))
  kC : PySem.W.keepIn K (.ref C) = true
structure YInit (h h' : Heap) (x C dx t : Addr) (m : Str → Option Value) : Prop where
  old : ∀ b o, b ≠ x → h.get? b = some o → h'.get? b = some o
  at_ : h'.get? x = some { cls := .ref C, dict := some dx, data := .fields #[.ref t, .none, .none, .none, .bool false, .none] }
  big : h.objs.size ≤ dx
  ne : dx ≠ x
  ns : h'.Ns1 dx m
structure YMade (h h' : Heap) (e C d : Addr) (m : Str → Option Value) : Prop where
  old : ∀ b o, h.get? b = some o → h'.get? b = some o
  new : h.objs.size ≤ e
  at_ : ∃ t, h'.get? e = some { cls := .ref C, dict := some d, data := .fields #[.ref t, .none, .none, .none, .bool false, .none] }
  big : h.objs.size ≤ d
  ne : d ≠ e
  ns : h'.Ns1 d m
section
variable {prog : Program} {w : World} {A : Around} {R : Result → Shared → Prop} {s : Shared} {K : PySem.W.Frag} {C g : Addr} {f : Str}
theorem yinit1 (T : OwnX K C g f) {x t : Addr} {v : Value} {args : Args} (bt : ∀ fd, (∃ (qual : Str) (p1 p2 q1 q2 q3 q4 : Pos), FunD K "__init__" qual (xA f p1 p2) (xB f q1 q2 q3 q4) (xS f) [] [] g fd) → BindsTo s fd args [(("self" : Str), .ref x), (f, v)]) (inK : K.In s.heap) (lim : s.heap.NoLimit) (hx : s.heap.get? x = some (HandSPX.excO C t)) (room : A.depth < recursionLimit)
    (k : ∀ h' tk dx, YInit s.heap h' x C dx t (fun y => if y = f then some v else none) → R (.ok (.ret .none)) { s with heap := h', toks := tk }) :
    codeAny (model prog w) A (.call (.ref g) args) R s := by
  obtain ⟨fd, qual, p1, p2, q1, q2, q3, q4, F, _⟩ := T.fn
  have bt := bt fd ⟨qual, p1, p2, q1, q2, q3, q4, F⟩
  obtain ⟨oc, od, dV, kV, doc, pm, an, cdv, ct, osl, rfl, lk, hcd, _, _⟩ := F.ex
  obtain ⟨nm, q, N, bs, bm, sn, sub, ab, col, dd, k0, k1, k2, k3, k5, newId, hC, hbm⟩ := T.cl
  have hcl : PySem.W.clsIn K C = some { name := nm, bases := bs, mro := .ref C :: bm, ns := N, qualname := q, hasDict := true, slotNames := sn, subclasses := sub, abstract := ab, collection := col, hasDel := false } := by unfold PySem.W.clsIn; rw [hC] <;> rfl
  have kf : (xS f).names.lookup f = some .local := xk2 (qual := qual) (L := 0) (a := 0) (cd := .none) T.ns
  refine Att.call_fn (binds := [(("self" : Str), .ref x), (f, v)]) inK lim lk hcd room bt ?_ (fun s₁ IC => ?_) rfl rfl rfl
  · simp only [List.all_cons, List.all_nil, Bool.and_true, Bool.and_eq_true, Bool.or_eq_true, beq_iff_eq]
    exact ⟨.inl rfl, .inl kf⟩
  obtain ⟨h₁, tk₁, rfl⟩ := IC.toInCall.same
  have old := IC.toInCall.keep
  have hn := IC.toInCall.ns
  have e2 : bindL (envOfC qual (xS f) s.heap.objs.size g cdv).kindOf [(("self" : Str), Value.ref x), (f, v)] (fun _ => none) = fun y => if y = f then some v else if y = "self" then some (.ref x) else none := by
    simp only [bindL]
    rw [if_pos xk1, if_pos (xk2 T.ns)]
  rw [e2] at hn
  have hx₁ := old _ _ hx
  have inK₁ := inK.keeps old
  have z : s.heap.objs.size < h₁.objs.size := hn.lt
  show wpAny _ _ (execs _ _) _ _ _
  refine wpAny_execs_cons (plainObj_wpAny_Assign_Attribute ?_)
  refine wpAny_Name (wpAny_loadName_local rfl (xk2 T.ns) hn (if_pos rfl) ?_) T.nd
  refine wpAny_Name (wpAny_loadName_local rfl xk1 hn (by rw [if_neg (Ne.symm T.ns), if_pos rfl]) ?_) (by decide)
  refine PySem.W.set_plain inK₁ (ox := HandSPX.excO C t) (od := none) ⟨hx₁, rfl, rfl, trivial⟩ T.sa ?_
  refine xosa inK₁ hx₁ hcl rfl ((by rw [List.contains_cons, hbm.obj, Bool.or_true]) : (Value.ref C :: bm).contains (.type "object") = true) ((PySem.refuseLoop_ref _ _ _ _).trans (hbm.pass _)) rfl T.no fun h₃ tk₃ dx k₃ dn dne hx₃ hn₃ => ?_
  show wpAny _ _ (execs _ _) _ _ _
  exact wpAny_execs_nil (k h₃ tk₃ dx ⟨fun b o hb e => k₃ b o hb (old b o e), hx₃, Nat.le_of_lt (Nat.lt_of_lt_of_le z dn), dne, hn₃⟩)
theorem ymade1 (T : OwnX K C g f) {rest : List Value} {kw : List (Str × Value)} {v : Value} (one : rest.length ≤ sizeLine) (bt : ∀ (s : Shared) (x : Addr), K.In s.heap → ∀ fd, (∃ (qual : Str) (p1 p2 q1 q2 q3 q4 : Pos), FunD K "__init__" qual (xA f p1 p2) (xB f q1 q2 q3 q4) (xS f) [] [] g fd) → BindsTo s fd ⟨.ref x :: rest, kw⟩ [(("self" : Str), .ref x), (f, v)])
    (inK : K.In s.heap) (lim : s.heap.NoLimit) (room : A.depth + 1 < recursionLimit)
    (k : ∀ h' tk e d, YMade s.heap h' e C d (fun y => if y = f then some v else none) → R (.ok (.ret (.ref e))) { s with heap := h', toks := tk }) : codeAny (model prog w) A (.call (.ref C) ⟨rest, kw⟩) R s := by
  obtain ⟨nm, q, N, bs, bm, sn, sub, ab, col, dd, k0, k1, k2, k3, k5, newId, hC, hbm⟩ := T.cl
  obtain ⟨hp, gs, dr, tk, os⟩ := s
  have grow : ∀ b o, hp.get? b = some o → ((hp.push (PySem.W.kdv_tup rest)).push (HandSPX.excO C hp.objs.size)).get? b = some o := fun b o e => Heap.get?_push_of_some _ (Heap.get?_push_of_some _ e)
  have there : ((hp.push (PySem.W.kdv_tup rest)).push (HandSPX.excO C hp.objs.size)).get? (hp.objs.size + 1) = some (HandSPX.excO C hp.objs.size) := by heap_get
  obtain ⟨B, initId, bmB, EF, hT⟩ := hbm.base
  refine PySem.L3X.call_kw EF hT (inK _ _ hC) (PySem.W.looks_findIn inK T.ini) (fun self => PySem.W.bind_fn inK self T.tg) one ?_
  refine yinit1 (s := ⟨(hp.push (PySem.W.kdv_tup rest)).push (HandSPX.excO C hp.objs.size), gs, dr, tk, os⟩) T (bt _ _ (inK.keeps grow)) (inK.keeps grow) (lim.keeps grow) there ?_ fun h' tk' dx M => ?_
  · show A.depth + 1 < recursionLimit
    exact room
  · obtain ⟨k', hx, dn, dne, hns⟩ := M
    have old : ∀ b o, hp.get? b = some o → h'.get? b = some o := fun b o e => k' b o (Nat.ne_of_lt (Nat.lt_succ_of_lt (Heap.lt_size e))) (grow b o e)
    have z : hp.objs.size + 1 + 1 ≤ dx := by
      have q := dn
      simp only [Heap.size_push] at q
      exact q
    exact ⟨rfl, k h' tk' (hp.objs.size + 1) dx ⟨old, Nat.le_succ _, ⟨_, hx⟩, Nat.le_trans (Nat.le_trans (Nat.le_succ _) (Nat.le_succ _)) z, dne, hns⟩⟩
open Builtin Builtin.ObjectAttr in
theorem yosa_old {hp : Heap} {gs : Array GenState} {dr : Drawn} {tk0 : Nat} {os : OsState} {y : Str} {ty : Tok} {u : Value} {e dx : Addr} {fv : Array Value} {D : ClassData} {m0 : Str → Option Value} {nl : List Str} (inK : K.In hp) (at_ : hp.get? e = some { cls := .ref C, dict := some dx, data := .fields fv }) (hns : hp.Ns1 dx m0) (hw : PySem.Within m0 nl) (hz : nl.length ≤ 1000)
    (hD : PySem.W.clsIn K C = some D) (ne : D.mro.isEmpty = false) (ob : D.mro.contains (.type "object") = true) (ps : refuseLoop (.ref e) "__setattr__" D.mro = Pure.pure ()) (hd : D.hasDict = true) (no : PySem.W.findIn K (.ref C) y = some none)
    (k : ∀ h' tk', (∀ b o, b ≠ dx → hp.get? b = some o → h'.get? b = some o) → h'.Ns1 dx (fun z => if z = y then some u else m0 z) → R (.ok (.ret .none)) ⟨h', gs, dr, tk', os⟩) : codeAny (model prog w) A (.call (.builtin "object.__setattr__") ⟨[.ref e, .str y ty, u], []⟩) R ⟨hp, gs, dr, tk0, os⟩ := by
  obtain ⟨oD, esD, epD, hoD, hdD, _⟩ := hns.count hw
  have J : PySem.W.InstAt hp e { cls := .ref C, dict := some dx, data := .fields fv } C (some oD) := ⟨at_, rfl, rfl, hoD⟩
  have O := F.store_object
  have isO : PySem.W.Looks (model prog w) hp (isInstance (.ref e) (.type "object")) true := J.type.andThen (PySem.W.looks_mroIn inK (by unfold PySem.W.mroIn; rw [hD, Option.bind_some, if_neg (by rw [ne]; decide), ob]))
  refine codeAny_call_builtin O.slot.plain O.entry (@PySem.W.check_slot (model prog w) _ _ ⟨hp, gs, dr, tk0, os⟩ "object.__setattr__" "object" "__setattr__" (.ref e) [.str y ty, u] [] _ O.kind O.split isO (O.args (.ref e) (.str y ty) u) ?_)
  have lm : PySem.W.Looks (model prog w) hp (mroOf (.ref C)) D.mro := (PySem.W.looks_clsIn inK hD).andThen .now
  have lt : PySem.W.Looks (model prog w) hp (storeTaker? none) none := .now
  have lc : PySem.W.Looks (model prog w) hp (classData C) D := PySem.W.looks_clsIn inK hD
  rw [PySem.W.osa_eq, refuse_eq]
  refine wpAny_bind (wpAny_bind (J.type.at (wpAny_bind (lm.at ?_))))
  rw [ps]
  refine wpAny_pure (wpAny_bind (J.type.at (wpAny_bind ((PySem.W.looks_findIn inK no).at (wpAny_bind (lt.at ?_))))))
  show wpAny _ _ (storeInOwnDict (.ref e) (.ref C) (.str y ty) y u false) _ _ _
  obtain ⟨d1, d2, d3, d4, d5, d6, d7, d8, d9, d10, d11⟩ := D
  dsimp only at hd
  subst hd
  unfold storeInOwnDict ownDictForStores
  repeat (first | with_reducible refine PySem.OEX.store_in_old hns hw hz ?_ | with_reducible refine wpAny_loadPart_at at_ ?_ | with_reducible refine lc.at ?_ | wp_step)
  intro h' tk' hn' hs
  exact k h' tk' (fun b o hb ho => (hs.2 b hb).trans ho) hn'
end
structure OwnX2 (K : PySem.W.Frag) (C g : Addr) (f h : Str) : Prop where
  oc : OwnC K C
  nf : PySem.W.findIn K (.ref C) f = some none
  nh : PySem.W.findIn K (.ref C) h = some none
  ini : PySem.W.findIn K (.ref C) "__init__" = some (some (.ref g))
  tg : PySem.W.typeIn K (.ref g) = some (.type "function")
  sf : f ≠ "self"
  sh : h ≠ "self"
  fh : f ≠ h
  df : (f == ("__debug__" : Str)) = false
  dh : (h == ("__debug__" : Str)) = false
  fn : ∃ (fd : FuncData) (qual : Str) (p1 p2 p3 q1 q2 q3 q4 r1 r2 r3 r4 : Pos), FunD K "__init__" qual (xA2 f h p1 p2 p3) (xB2 f h q1 q2 q3 q4 r1 r2 r3 r4) (xS2 f h) [] [] g fd
theorem x2k1 {f h qual : Str} {L a : Addr} {cd : Value} : (envOfC qual (xS2 f h) L a cd).kindOf "self" = some .local := rfl
theorem x2k2 {f h qual : Str} {L a : Addr} {cd : Value} (n : f ≠ "self") : (envOfC qual (xS2 f h) L a cd).kindOf f = some .local := by
  have e : (f == ("self" : Str)) = false := by simpa using n
  show List.lookup f [(("self" : Str), NameKind.local), (f, .local), (h, .local)] = _
  simp [List.lookup, e]
theorem x2k3 {f h qual : Str} {L a : Addr} {cd : Value} (n : h ≠ "self") (m : f ≠ h) : (envOfC qual (xS2 f h) L a cd).kindOf h = some .local := by
  have e : (h == ("self" : Str)) = false := by simpa using n
  have e2 : (h == f) = false := by simpa using (Ne.symm m)
  show List.lookup h [(("self" : Str), NameKind.local), (f, .local), (h, .local)] = _
  simp [List.lookup, e, e2]
section
variable {prog : Program} {w : World} {A : Around} {R : Result → Shared → Prop} {s : Shared} {K : PySem.W.Frag} {C g : Addr} {f h : Str}
def twoX (f h : Str) (v u : Value) : Str → Option Value := fun y => if y = h then some u else if y = f then some v else none
theorem yinit2 (T : OwnX2 K C g f h) {x t : Addr} {v u : Value} {args : Args} (bt : ∀ fd, (∃ (qual : Str) (p1 p2 p3 q1 q2 q3 q4 r1 r2 r3 r4 : Pos), FunD K "__init__" qual (xA2 f h p1 p2 p3) (xB2 f h q1 q2 q3 q4 r1 r2 r3 r4) (xS2 f h) [] [] g fd) → BindsTo s fd args [(("self" : Str), .ref x), (f, v), (h, u)]) (inK : K.In s.heap) (xK : ∀ o, K.lookup x ≠ some o) (lim : s.heap.NoLimit) (hx : s.heap.get? x = some (HandSPX.excO C t)) (room : A.depth < recursionLimit)
    (k : ∀ h' tk dx, YInit s.heap h' x C dx t (twoX f h v u) → R (.ok (.ret .none)) { s with heap := h', toks := tk }) :
    codeAny (model prog w) A (.call (.ref g) args) R s := by
  obtain ⟨fd, qual, p1, p2, p3, q1, q2, q3, q4, r1, r2, r3, r4, F⟩ := T.fn
  have bt := bt fd ⟨qual, p1, p2, p3, q1, q2, q3, q4, r1, r2, r3, r4, F⟩
  obtain ⟨oc, od, dV, kV, doc, pm, an, cdv, ct, osl, rfl, lk, hcd, _, _⟩ := F.ex
  obtain ⟨nm, q, N, bs, bm, sn, sub, ab, col, dd, k0, k1, k2, k3, k5, newId, hC, hbm⟩ := T.oc.cl
  have hcl : PySem.W.clsIn K C = some { name := nm, bases := bs, mro := .ref C :: bm, ns := N, qualname := q, hasDict := true, slotNames := sn, subclasses := sub, abstract := ab, collection := col, hasDel := false } := by unfold PySem.W.clsIn; rw [hC] <;> rfl
  have kf : (xS2 f h).names.lookup f = some .local := x2k2 (qual := qual) (L := 0) (a := 0) (cd := .none) T.sf
  have kh : (xS2 f h).names.lookup h = some .local := x2k3 (qual := qual) (L := 0) (a := 0) (cd := .none) T.sh T.fh
  refine Att.call_fn (binds := [(("self" : Str), .ref x), (f, v), (h, u)]) inK lim lk hcd room bt ?_ (fun s₁ IC => ?_) rfl rfl rfl
  · simp only [List.all_cons, List.all_nil, Bool.and_true, Bool.and_eq_true, Bool.or_eq_true, beq_iff_eq]
    exact ⟨.inl rfl, .inl kf, .inl kh⟩
  obtain ⟨h₁, tk₁, rfl⟩ := IC.toInCall.same
  have old := IC.toInCall.keep
  have hn := IC.toInCall.ns
  have e2 : bindL (envOfC qual (xS2 f h) s.heap.objs.size g cdv).kindOf [(("self" : Str), Value.ref x), (f, v), (h, u)] (fun _ => none) = fun y => if y = h then some u else if y = f then some v else if y = "self" then some (.ref x) else none := by
    simp only [bindL]
    rw [if_pos x2k1, if_pos (x2k2 T.sf), if_pos (x2k3 T.sh T.fh)]
  rw [e2] at hn
  have hx₁ := old _ _ hx
  have inK₁ := inK.keeps old
  have z : s.heap.objs.size < h₁.objs.size := hn.lt
  have obm : (Value.ref C :: bm).contains (.type "object") = true := by rw [List.contains_cons, hbm.obj, Bool.or_true]
  have ps : ∀ a, refuseLoop (.ref a) "__setattr__" (Value.ref C :: bm) = Pure.pure () := fun a => (PySem.refuseLoop_ref _ _ _ _).trans (hbm.pass _)
  show wpAny _ _ (execs _ _) _ _ _
  refine wpAny_execs_cons (plainObj_wpAny_Assign_Attribute ?_)
  refine wpAny_Name (wpAny_loadName_local rfl (x2k2 T.sf) hn (by rw [if_neg T.fh, if_pos rfl]) ?_) T.df
  refine wpAny_Name (wpAny_loadName_local rfl x2k1 hn (by rw [if_neg (Ne.symm T.sh), if_neg (Ne.symm T.sf), if_pos rfl]) ?_) (by decide)
  refine PySem.W.set_plain inK₁ (ox := HandSPX.excO C t) (od := none) ⟨hx₁, rfl, rfl, trivial⟩ T.oc.sa ?_
  refine xosa inK₁ hx₁ hcl rfl obm (ps x) rfl T.nf fun h₃ tk₃ dx k₃ dn dne hx₃ hn₃ => ?_
  have ne_l : s.heap.objs.size ≠ x := fun e => absurd (Heap.lt_size hx) (by rw [e]; exact Nat.lt_irrefl _)
  have hn' := hn.at fun o q => k₃ _ _ ne_l q
  have inK₃ : K.In h₃ := fun b o e => k₃ b o (fun z => by
    subst z
    exact xK o e) (inK₁ b o e)
  have wi : PySem.Within (fun z => if z = f then some v else none) [f] := Within.cons f v Within.nil
  obtain ⟨oD, esD, epD, hoD, hdD, _⟩ := hn₃.count wi
  show wpAny _ _ (execs _ _) _ _ _
  refine wpAny_execs_cons (plainObj_wpAny_Assign_Attribute ?_)
  refine wpAny_Name (wpAny_loadName_local rfl (x2k3 T.sh T.fh) hn' (by rw [if_pos rfl]) ?_) T.dh
  refine wpAny_Name (wpAny_loadName_local rfl x2k1 hn' (by rw [if_neg (Ne.symm T.sh), if_neg (Ne.symm T.sf), if_pos rfl]) ?_) (by decide)
  refine PySem.W.set_plain inK₃ (ox := { cls := .ref C, dict := some dx, data := .fields #[.ref t, .none, .none, .none, .bool false, .none] }) (od := some oD) ⟨hx₃, rfl, rfl, hoD⟩ T.oc.sa ?_
  refine yosa_old inK₃ hx₃ hn₃ wi (by show 1 ≤ 1000; decide) hcl rfl obm (ps x) rfl T.nh fun h₄ tk₄ k₄ hn₄ => ?_
  show wpAny _ _ (execs _ _) _ _ _
  refine wpAny_execs_nil (k h₄ tk₄ dx ⟨fun b o hb e => ?_, (k₄ x _ (Ne.symm dne) hx₃), Nat.le_of_lt (Nat.lt_of_lt_of_le z dn), dne, ?_⟩)
  · have e1 := k₃ b o hb (old b o e)
    have nb : b ≠ dx := fun q => by
      have l1 := Heap.lt_size (old b o e)
      rw [q] at l1
      exact absurd (Nat.lt_of_lt_of_le l1 dn) (Nat.lt_irrefl _)
    exact k₄ b o nb e1
  · exact hn₄
theorem ymade2 (T : OwnX2 K C g f h) {rest : List Value} {kw : List (Str × Value)} {v u : Value} (one : rest.length ≤ sizeLine) (bt : ∀ (s : Shared) (x : Addr), K.In s.heap → ∀ fd, (∃ (qual : Str) (p1 p2 p3 q1 q2 q3 q4 r1 r2 r3 r4 : Pos), FunD K "__init__" qual (xA2 f h p1 p2 p3) (xB2 f h q1 q2 q3 q4 r1 r2 r3 r4) (xS2 f h) [] [] g fd) → BindsTo s fd ⟨.ref x :: rest, kw⟩ [(("self" : Str), .ref x), (f, v), (h, u)])
    (inK : K.In s.heap) (lim : s.heap.NoLimit) (room : A.depth + 1 < recursionLimit)
    (k : ∀ h' tk e d, YMade s.heap h' e C d (twoX f h v u) → R (.ok (.ret (.ref e))) { s with heap := h', toks := tk }) : codeAny (model prog w) A (.call (.ref C) ⟨rest, kw⟩) R s := by
  obtain ⟨nm, q, N, bs, bm, sn, sub, ab, col, dd, k0, k1, k2, k3, k5, newId, hC, hbm⟩ := T.oc.cl
  obtain ⟨hp, gs, dr, tk, os⟩ := s
  have grow : ∀ b o, hp.get? b = some o → ((hp.push (PySem.W.kdv_tup rest)).push (HandSPX.excO C hp.objs.size)).get? b = some o := fun b o e => Heap.get?_push_of_some _ (Heap.get?_push_of_some _ e)
  have there : ((hp.push (PySem.W.kdv_tup rest)).push (HandSPX.excO C hp.objs.size)).get? (hp.objs.size + 1) = some (HandSPX.excO C hp.objs.size) := by heap_get
  obtain ⟨B, initId, bmB, EF, hT⟩ := hbm.base
  have xK : ∀ o, K.lookup (hp.objs.size + 1) ≠ some o := fun o e => by
    have l1 := Heap.lt_size (inK _ _ e)
    have l2 : hp.objs.size + 1 < hp.objs.size := l1
    omega
  refine PySem.L3X.call_kw EF hT (inK _ _ hC) (PySem.W.looks_findIn inK T.ini) (fun self => PySem.W.bind_fn inK self T.tg) one ?_
  refine yinit2 (s := ⟨(hp.push (PySem.W.kdv_tup rest)).push (HandSPX.excO C hp.objs.size), gs, dr, tk, os⟩) T (bt _ _ (inK.keeps grow)) (inK.keeps grow) xK (lim.keeps grow) there ?_ fun h' tk' dx M => ?_
  · show A.depth + 1 < recursionLimit
    exact room
  · obtain ⟨k', hx, dn, dne, hns⟩ := M
    have old : ∀ b o, hp.get? b = some o → h'.get? b = some o := fun b o e => k' b o (Nat.ne_of_lt (Nat.lt_succ_of_lt (Heap.lt_size e))) (grow b o e)
    have z : hp.objs.size + 1 + 1 ≤ dx := by
      have q := dn
      simp only [Heap.size_push] at q
      exact q
    exact ⟨rfl, k h' tk' (hp.objs.size + 1) dx ⟨old, Nat.le_succ _, ⟨_, hx⟩, Nat.le_trans (Nat.le_trans (Nat.le_succ _) (Nat.le_succ _)) z, dne, hns⟩⟩
end
end L3
namespace PySem
namespace L3X
open Builtin Builtin.ObjectAttr HandSPX
section
variable {prog : Program} {w : World} {A : Around} {E : Value → Shared → Prop} {R : Result → Shared → Prop} {h : Heap} {g : Array GenState} {d : Drawn} {t : Nat} {os : OsState}
variable {nm q : Str} {C N : Addr} {bs bm bmB : List Value} {hdct : Bool} {sn : List Str} {sub : List Value} {ab : Bool} {col : Option Bool} {dd : Option Addr} {k0 k1 k2 k3 k5 : Option Value} {B newId initId : String}
theorem type_call_b (F : ExcBaseFacts B newId initId bmB) (hT : ∀ X : String, bm.contains (.type X) = bmB.contains (.type X)) {Q : Fin → Shared → Prop}
    (hC : h.get? C = some (excClassObj nm q C N bs bm hdct sn sub ab col dd k0 k1 k2 k3 k5 newId))
    (hi : W.Looks (model prog w) h (typeLookup (.ref C) "__init__") (some (.builtin initId)))
    (hq : ∀ h' t1, (∀ b o, h.get? b = some o → h'.get? b = some o) → h.objs.size ≤ h.objs.size + 1 → h'.get? (h.objs.size + 1) = some (excO C t1) → Q (.done (.ret (.ref (h.objs.size + 1)))) ⟨h', g, d, t, os⟩) :
    wpAny (model prog w) A (Builtin.«type.__call__» ⟨.ref C :: [], []⟩) Q E ⟨h, g, d, t, os⟩ := by
  repeat (first | with_reducible refine wpAny_loadPart_at hC ?_ | with_reducible refine wpAny_madeBy_exc hC ?_ | wp_step)
  refine codeAny_call_builtin_code (Code.quiet_builtin _ F.quiet) (check_new_own F hT hC ?_)
  refine new_own F hT hC ?_ (Nat.zero_le _)
  show wpAny _ _ _ _ _ _
  have k : ∀ b o, h.get? b = some o → ((h.push (W.kdv_tup [])).push (excO C h.objs.size)).get? b = some o := fun b o e => Heap.get?_push_of_some _ (Heap.get?_push_of_some _ e)
  have hC₁ := k _ _ hC
  have hget : ((h.push (W.kdv_tup [])).push (excO C h.objs.size)).get? (h.objs.size + 1) = some (excO C h.objs.size) := by heap_get
  have hcC : (Value.ref C :: bm).contains (.ref C) = true := by simp
  have i1 := hi.keeps k
  unfold isInstance
  repeat (first | with_reducible refine wpAny_loadPart_at hget ?_ | (with_reducible refine wpAny_isSubtype_exc hC₁ ?_; rw [hcC]) | wp_step)
  show wpAny _ _ (typeLookup (.ref C) _) _ _ _
  refine i1.at ?_
  refine wpAny_holding (wpAny_bind (wpAny_of_eq (F.init.bind _) ?_))
  refine wpAny_bind (wpAny_call (init_base F hT hC₁ hget (Nat.zero_le _) fun h' t1 k2 he => ?_))
  have fin := hq h' t1 (fun b o e => k2 b o (Nat.ne_of_lt (Nat.lt_succ_of_lt (Heap.lt_size e))) (k b o e)) (Nat.le_succ _) he
  first
    | exact wpAny_pure (wpAny_pure fin)
    | (wp_walk; exact fin)
theorem call_b (F : ExcBaseFacts B newId initId bmB) (hT : ∀ X : String, bm.contains (.type X) = bmB.contains (.type X))
    (hC : h.get? C = some (excClassObj nm q C N bs bm hdct sn sub ab col dd k0 k1 k2 k3 k5 newId))
    (hi : W.Looks (model prog w) h (typeLookup (.ref C) "__init__") (some (.builtin initId)))
    (hq : ∀ h' t1, (∀ b o, h.get? b = some o → h'.get? b = some o) → h.objs.size ≤ h.objs.size + 1 → h'.get? (h.objs.size + 1) = some (excO C t1) → R (.ok (.ret (.ref (h.objs.size + 1)))) ⟨h', g, d, t, os⟩) :
    codeAny (model prog w) A (.call (.ref C) ⟨[], []⟩) R ⟨h, g, d, t, os⟩ := by
  have f1 := tc_lookup
  have f2 := tc_bind (.ref C)
  have hTy : (⟨h, g, d, t, os⟩ : Shared).TypeIs (.ref C) "type" := ⟨_, hC, rfl⟩
  refine codeAny_of_tree ?_
  show wpAny _ _ (callAny (.ref C) _) _ _ _
  repeat (any_goals (first | assumption | with_reducible refine wpAny_loadPart_at hC ?_ | wp_step))
  refine ⟨rfl, ?_⟩
  exact codeAny_call_builtin_at (Code.quiet_builtin _ (by decide +kernel)) entry_typeCall (wpAny_check_type_call_sub hC (type_call_b F hT hC hi hq))
end
end L3X
end PySem
namespace L3
open PySem PySem.Spec PyProof.Rows L2
def atN : List Str := ["given", "index", "number", "cell"]
theorem bindX1 {f : Str} (hf : f ∈ atN) (qual : Str) (p1 p2 q1 q2 q3 q4 : Pos) (kV doc pm : Value) (an : Option Addr) (cdv ct a v : Value) :
    bindArgs (PySem.W.fnOf "__init__" qual (xA f p1 p2) (xB f q1 q2 q3 q4) (xS f) .none kV doc pm an cdv ct) ⟨[a, v], []⟩ = pure [(("self" : Str), a), (f, v)] ∧ bindArgs (PySem.W.fnOf "__init__" qual (xA f p1 p2) (xB f q1 q2 q3 q4) (xS f) .none kV doc pm an cdv ct) ⟨[a], [(f, v)]⟩ = pure [(("self" : Str), a), (f, v)] := by
  simp only [atN, List.mem_cons, List.not_mem_nil, or_false] at hf
  rcases hf with rfl | rfl | rfl | rfl <;> exact ⟨rfl, rfl⟩
theorem bindX2 (qual : Str) (p1 p2 p3 q1 q2 q3 q4 r1 r2 r3 r4 : Pos) (kV doc pm : Value) (an : Option Addr) (cdv ct a v u : Value) :
    bindArgs (PySem.W.fnOf "__init__" qual (xA2 "index" "told" p1 p2 p3) (xB2 "index" "told" q1 q2 q3 q4 r1 r2 r3 r4) (xS2 "index" "told") .none kV doc pm an cdv ct) ⟨[a, v, u], []⟩ = pure [(("self" : Str), a), (("index" : Str), v), (("told" : Str), u)] ∧
    bindArgs (PySem.W.fnOf "__init__" qual (xA2 "index" "told" p1 p2 p3) (xB2 "index" "told" q1 q2 q3 q4 r1 r2 r3 r4) (xS2 "index" "told") .none kV doc pm an cdv ct) ⟨[a], [(("told" : Str), u), (("index" : Str), v)]⟩ = pure [(("self" : Str), a), (("index" : Str), v), (("told" : Str), u)] := ⟨rfl, rfl⟩
theorem laid2 {X : Cx} {pins : List (Addr × Obj)} {σ : L2.St} {H : Hp} {hp h' : Heap} {gs : Array GenState} {dr : Drawn} {tk tk' : Nat} {os : OsState} {e C d : Addr} {m : Str → Option Value} {fs : List (Str × V)} (I : L2.Inv X pins σ H ⟨hp, gs, dr, tk, os⟩) (M : YMade hp h' e C d m) (r : ∀ y, RelO (fs.lookup y) (m y)) :
    L2.Inv X pins σ (upd (upd H d (.xd fs)) e (exo e C (some d))) ⟨h', gs, dr, tk', os⟩ ∧ H e = none ∧ H d = none ∧ d ≠ e := by
  obtain ⟨t, he⟩ := M.at_
  obtain ⟨G', g1, g2⟩ := restrict h' fun b => decide (b ≠ e)
  have same : ∀ b, b ≠ e → G'.get? b = h'.get? b := fun b hb => g1 b (decide_eq_true hb)
  have gone : G'.get? e = none := g2 e (by simp)
  have old : ∀ b o, hp.get? b = some o → G'.get? b = some o := fun b o q => (same b (Nat.ne_of_lt (Nat.lt_of_lt_of_le (Heap.lt_size q) M.new))).trans (M.old b o q)
  have ob : ObjOk X.prog X.w (upd H d (.xd fs)) G' d (.xd fs) := ⟨_, M.ns.at (fun o q => (same d M.ne).trans q), r⟩
  have J : L2.Inv X pins σ (upd H d (.xd fs)) ⟨G', gs, dr, tk', os⟩ := I.laid (t' := tk') old M.big ob
  have ne : H e = none := I.hok.fresh M.new
  have nd : H d = none := I.hok.fresh M.big
  refine ⟨?_, ne, nd, M.ne⟩
  refine J.laidN (h' := h') (t' := tk') (fun b o q => ?_) gone (by rw [upd_ne (Ne.symm M.ne)]; exact ne) (exo_ok he)
  by_cases hb : b = e
  · have q' : G'.get? b = some o := q
    rw [hb, gone] at q'; cases q'
  · exact (same b hb).symm.trans q
section
variable {X : Cx} {C g : Addr} {f : Str} {pins : List (Addr × Obj)} {σ : L2.St} {H : Hp} {s : Shared} {Q : VK}
theorem run_mkx1 (T : OwnX X.K C g f) (hf : f ∈ atN) (I : L2.Inv X pins σ H s) {v : V} {u : Value} (rv : RelV v u) {rest : List Value} {kw : List (Str × Value)} (form : (rest = [u] ∧ kw = []) ∨ (rest = [] ∧ kw = [(f, u)])) (room : X.A.depth + 1 < recursionLimit)
    (q : ∀ e d, H e = none → H d = none → d ≠ e → Q (.ref e) (upd (upd H d (.xd [(f, v)])) e (exo e C (some d)))) : wpAny (model X.prog X.w) X.A (call (.ref C) rest kw) (EP X pins σ Q) X.xe s := by
  have lim := I.nolimit
  obtain ⟨hp, gs, dr, tk, os⟩ := s
  have one : rest.length ≤ sizeLine := by
    rcases form with ⟨rfl, _⟩ | ⟨rfl, _⟩
    · rw [sizeLine_eq]; show 1 ≤ 16777216; decide
    · exact Nat.zero_le _
  refine wpAny_call (ymade1 T one (v := u) (fun s x inK fd hF => ?_) I.kIn lim room fun h' tk' e d M => ?_)
  · obtain ⟨qual, p1, p2, q1, q2, q3, q4, F⟩ := hF
    obtain ⟨oc, od, dV, kV, doc, pm, an, cdv, ct, osl, rfl, lk, hcd, hD, hK⟩ := F.ex
    rcases hD with ⟨_, rfl⟩ | ⟨z, _⟩
    · rcases form with ⟨rfl, rfl⟩ | ⟨rfl, rfl⟩
      · exact .of_eq (bindX1 hf qual p1 p2 q1 q2 q3 q4 kV doc pm an cdv ct (.ref x) u).1
      · exact .of_eq (bindX1 hf qual p1 p2 q1 q2 q3 q4 kV doc pm an cdv ct (.ref x) u).2
    · exact absurd rfl z
  · obtain ⟨J, n1, n2, n3⟩ := laid2 (tk' := tk') I M (relO_x rv)
    exact ⟨.ref e, _, J, rfl, q e d n1 n2 n3⟩
theorem run_mkx2 (T : OwnX2 X.K C g "index" "told") (I : L2.Inv X pins σ H s) {v z : V} {u y : Value} (rv : RelV v u) (rz : RelV z y) {rest : List Value} {kw : List (Str × Value)} (form : (rest = [u, y] ∧ kw = []) ∨ (rest = [] ∧ kw = [(("told" : Str), y), (("index" : Str), u)])) (room : X.A.depth + 1 < recursionLimit)
    (q : ∀ e d, H e = none → H d = none → d ≠ e → Q (.ref e) (upd (upd H d (.xd [(("index" : Str), v), (("told" : Str), z)])) e (exo e C (some d)))) : wpAny (model X.prog X.w) X.A (call (.ref C) rest kw) (EP X pins σ Q) X.xe s := by
  have lim := I.nolimit
  obtain ⟨hp, gs, dr, tk, os⟩ := s
  have one : rest.length ≤ sizeLine := by
    rcases form with ⟨rfl, _⟩ | ⟨rfl, _⟩
    · rw [sizeLine_eq]; show 2 ≤ 16777216; decide
    · exact Nat.zero_le _
  refine wpAny_call (ymade2 T one (v := u) (u := y) (fun s x inK fd hF => ?_) I.kIn lim room fun h' tk' e d M => ?_)
  · obtain ⟨qual, p1, p2, p3, q1, q2, q3, q4, r1, r2, r3, r4, F⟩ := hF
    obtain ⟨oc, od, dV, kV, doc, pm, an, cdv, ct, osl, rfl, lk, hcd, hD, hK⟩ := F.ex
    rcases hD with ⟨_, rfl⟩ | ⟨z, _⟩
    · rcases form with ⟨rfl, rfl⟩ | ⟨rfl, rfl⟩
      · exact .of_eq (bindX2 qual p1 p2 p3 q1 q2 q3 q4 r1 r2 r3 r4 kV doc pm an cdv ct (.ref x) u y).1
      · exact .of_eq (bindX2 qual p1 p2 p3 q1 q2 q3 q4 r1 r2 r3 r4 kV doc pm an cdv ct (.ref x) u y).2
    · exact absurd rfl z
  · obtain ⟨J, n1, n2, n3⟩ := laid2 (tk' := tk') (fs := [(("index" : Str), v), (("told" : Str), z)]) I M fun w => by
      unfold twoX
      by_cases h1 : w = "told"
      · subst h1
        rw [if_pos rfl]
        exact rz
      · rw [if_neg h1]
        by_cases h2 : w = "index"
        · subst h2
          rw [if_pos rfl]
          exact rv
        · rw [if_neg h2]
          have e1 : (w == ("told" : Str)) = false := by simpa using h1
          have e2 : (w == ("index" : Str)) = false := by simpa using h2
          simp only [List.lookup, e1, e2]
          trivial
    exact ⟨.ref e, _, J, rfl, q e d n1 n2 n3⟩
structure Own0 (K : PySem.W.Frag) (C : Addr) : Prop where
  cl : ∃ nm q N bs bm sn sub ab col dd k0 k1 k2 k3 k5 newId, K.lookup C = some (excClassObj nm q C N bs bm true sn sub ab col dd k0 k1 k2 k3 k5 newId) ∧ ∃ B initId bmB, ExcBaseFacts B newId initId bmB ∧ (∀ X : String, bm.contains (.type X) = bmB.contains (.type X)) ∧ PySem.W.findIn K (.ref C) "__init__" = some (some (.builtin initId))
  kC : PySem.W.keepIn K (.ref C) = true
theorem run_mkx0 (T : Own0 X.K C) (I : L2.Inv X pins σ H s) (q : ∀ e, H e = none → Q (.ref e) (upd H e (exo e C none))) : wpAny (model X.prog X.w) X.A (call (.ref C) []) (EP X pins σ Q) X.xe s := by
  obtain ⟨nm, qq, N, bs, bm, sn, sub, ab, col, dd, k0, k1, k2, k3, k5, newId, hC, B, initId, bmB, EF, hT, hi⟩ := T.cl
  obtain ⟨hp, gs, dr, tk, os⟩ := s
  refine wpAny_call (PySem.L3X.call_b EF hT (I.kIn _ _ hC) (PySem.W.looks_findIn I.kIn hi) fun h' t1 old le he => ?_)
  have n1 : H (hp.objs.size + 1) = none := I.hok.fresh le
  exact ⟨.ref (hp.objs.size + 1), _, I.laid (t' := tk) old le (exo_ok (d := none) he), rfl, q _ n1⟩
end
end L3
namespace L3
open PySem PySem.Spec PyProof.Rows L2
def visB (sc : Scope) (x : Str) : Bool := match sc.names.lookup x with
  | some .local => true
  | some .cell => true
  | some .free => true
  | _ => false
def locB (sc : Scope) (x : Str) : Bool := match sc.names.lookup x with
  | some .local => true
  | some .cell => true
  | _ => false
def glB (sc : Scope) (x : Str) : Bool := match sc.names.lookup x with
  | some .globalImplicit => true
  | _ => false
def okN (x : Str) : Bool := !(x == ("__debug__" : Str)) && !(x == ("__classdict__" : Str))
def relSc (scope sc : Scope) : Scope :=
  { scope with names := scope.names.map fun (n, k) => if (k == .free && sc.kind == .function && sc.names.lookup n == some .cell) then (n, .cell) else (n, k) }
def noStar : List Expr → Bool
  | [] => true
  | .Starred _ _ :: _ => false
  | _ :: r => noStar r
def baseOk (o : Expr) : Bool := match o with
  | .Call (.Name id _) [] [] _ => id != "super"
  | _ => true
def plainIx (b : Expr) : Bool := match b with
  | .Slice .. => false
  | _ => true
def notSet (e : Expr) : Bool := match e with
  | .Set .. => false
  | _ => true
def isTupE (e : Expr) : Bool := match e with
  | .Tuple .. => true
  | _ => false
def needTup : CI → Bool
  | .enum _ => true
  | .zip2 _ _ => true
  | .zip3 _ _ _ => true
  | _ => false
def isNmE (e : Expr) : Bool := match e with
  | .Name .. => true
  | _ => false
def needNm : CI → Bool
  | .zipS _ => true
  | _ => false
def fitT (ci : CI) (t : Expr) : Bool := (!(needTup ci) || isTupE t) && (!(needNm ci) || isNmE t)
def mT (N : List Str) (sc : Scope) : Expr → CT → Bool
  | .Name x _, .nm i => decide (N[i]? = some x) && locB sc x
  | .Tuple ts _ _, .tp is => decide (ts.length = is.length) && (ts.zip is).all fun p => match p.1 with
    | .Name x _ => decide (N[p.2]? = some x) && locB sc x
    | _ => false
  | _, _ => false
def ctIn (own : List Nat) : CT → Bool
  | .nm i => own.contains i
  | .tp is => is.all fun i => own.contains i
def kwVal : Keyword → Expr
  | ⟨_, v, _⟩ => v
def mK : List Keyword → List Str → Bool
  | [], [] => true
  | ⟨some k, v, _⟩ :: r, x :: ks => decide (k = x) && noStar [v] && mK r ks
  | _, _ => false
def isSL (c : CE) (y : Str) : Bool := match c with
  | .str z => decide (z = y)
  | _ => false
mutual
def mE (fnm : Nat → Str) (N : List Str) (sc : Scope) (e : Expr) : CE → Bool
  | .var i => (match e with
    | .Name x _ => decide (N[i]? = some x) && visB sc x && okN x
    | _ => false)
  | .int i => (match e with
    | .Constant (.int j) _ _ => decide (i = j)
    | _ => false)
  | .str z => (match e with
    | .Constant (.str y) _ _ => decide (z = y)
    | _ => false)
  | .bl b => (match e with
    | .Constant (.bool d) _ _ => b == d
    | _ => false)
  | .non => (match e with
    | .Constant .none _ _ => true
    | _ => false)
  | .glo y _ => (match e with
    | .Name x _ => decide (x = y) && glB sc x && okN x
    | _ => false)
  | .bval y _ => (match e with
    | .Name x _ => decide (x = y) && glB sc x && okN x && !(x == "__name__")
    | _ => false)
  | .op o a b => (match e with
    | .BinOp x f y _ => (f == o.op) && mE fnm N sc x a && mE fnm N sc y b
    | _ => false)
  | .un o a => (match e with
    | .UnaryOp f x _ => (f == o.op) && mE fnm N sc x a
    | _ => false)
  | .cmp o a b => (match e with
    | .Compare x [f] [y] _ => (f == o.op) && !(behindInMarks f y) && mE fnm N sc x a && mE fnm N sc y b
    | _ => false)
  | .chain o o' a b d => (match e with
    | .Compare x [f, g] [y, z] _ => (f == o.op) && (g == o'.op) && !(lastMarks [f, g] [y, z]) && mE fnm N sc x a && mE fnm N sc y b && mE fnm N sc z d
    | _ => false)
  | .and_ a b => (match e with
    | .BoolOp .And (x :: y :: r) pos => mE fnm N sc x a && (match r with
      | [] => mE fnm N sc y b
      | _ :: _ => mE fnm N sc (.BoolOp .And (y :: r) pos) b)
    | _ => false)
  | .or_ a b => (match e with
    | .BoolOp .Or (x :: y :: r) pos => mE fnm N sc x a && (match r with
      | [] => mE fnm N sc y b
      | _ :: _ => mE fnm N sc (.BoolOp .Or (y :: r) pos) b)
    | _ => false)
  | .not_ a => (match e with
    | .UnaryOp .Not x _ => mE fnm N sc x a
    | _ => false)
  | .ife t a b => (match e with
    | .IfExp c x y _ => mE fnm N sc c t && mE fnm N sc x a && mE fnm N sc y b
    | _ => false)
  | .tup es => (match e with
    | .Tuple xs _ _ => mL fnm N sc xs es
    | _ => false)
  | .lst _ es => (match e with
    | .List xs _ => mL fnm N sc xs es
    | _ => false)
  | .call f _ es => (match e with
    | .Call (.Name x _) (a :: as) [] _ => decide (x = f) && glB sc x && okN x && noStar (a :: as) && mL fnm N sc (a :: as) es
    | _ => false)
  | .blt b es => (match e with
    | .Call (.Name x _) (a :: as) [] _ => decide (x = b.nm) && glB sc x && okN x && noStar (a :: as) && mL fnm N sc (a :: as) es
    | _ => false)
  | .met m o es => (match e with
    | .Call (.Attribute oe nm apos) (a :: as) [] cpos => decide (nm = m.nm) && baseOk oe && (apos.endLine == cpos.line) && decide ((a :: as).length < 29) && noStar (a :: as) && mE fnm N sc oe o && mL fnm N sc (a :: as) es
    | .Call (.Attribute oe nm apos) [] [] cpos => decide (nm = m.nm) && baseOk oe && (apos.endLine == cpos.line) && mE fnm N sc oe o && mL fnm N sc [] es
    | _ => false)
  | .idx _ a i => (match e with
    | .Subscript x y _ => plainIx y && mE fnm N sc x a && mE fnm N sc y i
    | _ => false)
  | .rev a => (match e with
    | .Subscript x (.Slice none none (some (.UnaryOp .USub (.Constant (.int 1) _ _) _)) _) _ => mE fnm N sc x a
    | _ => false)
  | .rpl _ _ _ => false
  | .slc _ a lo hi => (match e with
    | .Subscript x (.Slice l h none _) _ => mE fnm N sc x a && mO fnm N sc l lo && mO fnm N sc h hi
    | _ => false)
  | .comp _ own elt tg it cond => (match e with
    | .ListComp x [⟨t, ie, ifs, isA⟩] scope _ => decide (isA = 0) && fitT it t && blkC N sc scope own && ctIn (own.map (·.2)) tg && mE fnm N (relSc scope sc) x elt && mT N scope t tg && mI fnm N sc ie it && mC fnm N (relSc scope sc) ifs cond
    | _ => false)
  | .att _ k o => (match e with
    | .Attribute x f _ => decide (f = fnm k) && baseOk x && mE fnm N sc x o
    | _ => false)
  | .nev => match e with
    | .ListComp _ _ _ _ => false
    | _ => true
  | .emp => (match e with
    | .Dict [] [] _ => true
    | _ => false)
  | .dcomp own key val tg it => (match e with
    | .DictComp x y [⟨t, ie, [], isA⟩] scope _ => decide (isA = 0) && fitT it t && blkC N sc scope own && ctIn (own.map (·.2)) tg && mE fnm N (relSc scope sc) x key && mE fnm N (relSc scope sc) y val && mT N scope t tg && mI fnm N sc ie it
    | _ => false)
  | .dget y _ a b => (match e with
    | .Call (.Attribute (.Name x _) m apos) [u, v] [] cpos => decide (x = y) && glB sc x && okN x && decide (m = "get") && (apos.endLine == cpos.line) && noStar [u, v] && mE fnm N sc u a && mE fnm N sc v b
    | _ => false)
  | .comp2 _ own elt tg it tg2 it2 => (match e with
    | .ListComp x [⟨t, ie, [], isA⟩, ⟨t2, ie2, [], isB⟩] scope _ => decide (isA = 0) && decide (isB = 0) && fitT it t && fitT it2 t2 && blkC N sc scope own && ctIn (own.map (·.2)) tg && (ctIn (own.map (·.2)) tg2 &&
        mE fnm N (relSc scope sc) x elt) && mT N scope t tg && mT N scope t2 tg2 && mI fnm N sc ie it && mI fnm N (relSc scope sc) ie2 it2
    | _ => false)
  | .callK f _ ks _ _ as es => (match e with
    | .Call (.Name x _) xs (a :: r) _ => decide (x = f) && glB sc x && okN x && noStar xs && mK (a :: r) ks && mL fnm N sc xs as && mL fnm N sc ((a :: r).map kwVal) es
    | _ => false)
  | .ometK _ i ks _ _ o es => (match e with
    | .Call (.Attribute oe nm apos) [] (a :: r) cpos => decide (nm = fnm i) && baseOk oe && (apos.endLine == cpos.line) && decide ((a :: r).length < 28) && mK (a :: r) ks && mE fnm N sc oe o && mL fnm N sc ((a :: r).map kwVal) es
    | _ => false)
  | .revs _ o => (match e with
    | .Subscript x (.Slice none none (some (.UnaryOp .USub (.Constant (.int i) _ _) _)) _) _ => decide (i = 1) && mE fnm N sc x o
    | _ => false)
  | .lrng _ o => (match e with
    | .Call (.Name x _) [.Call (.Name y _) [z] [] q] [] _ => decide (x = "list") && glB sc x && okN x && decide (y = "range") && glB sc y && okN y && noStar [.Call (.Name y q) [z] [] q] && noStar [z] && mE fnm N sc z o
    | _ => false)
  | .stp j o => (match e with
    | .Subscript x (.Slice (some (.Constant (.int i) _ _)) none (some (.Constant (.int k) _ _)) _) _ => decide (i = (j : Int)) && decide (k = 2) && mE fnm N sc x o
    | _ => false)
  | .lset o => (match e with
    | .Call (.Name x _) [.Call (.Name y _) [z] [] q] [] _ => decide (x = "len") && glB sc x && okN x && decide (y = "set") && glB sc y && okN y && noStar [.Call (.Name y q) [z] [] q] && noStar [z] && mE fnm N sc z o
    | _ => false)
  | .empM => (match e with
    | .Dict [] [] _ => true
    | _ => false)
  | .dun x => (match e with
    | .Dict [some (.Constant (.str y) _ _)] [.Tuple [] _ _] _ => decide (y = x)
    | _ => false)
  | .isx y _ _ o => (match e with
    | .Call (.Name x _) [z, .Name u p2] [] _ => decide (x = "isinstance") && glB sc x && decide (u = y) && glB sc u && okN u && noStar [z, .Name u p2] && mE fnm N sc z o
    | _ => false)
  | .attx i _ o => (match e with
    | .Attribute z f _ => decide (f = fnm i) && baseOk z && mE fnm N sc z o
    | _ => false)
  | .told f _ _ o => (match e with
    | .Call (.Name x _) [.Lambda ⟨[], [], none, [], [], none, []⟩ body scope _] [] _ => decide (x = f) && glB sc x && okN x && LamX.lamSB sc scope && mE fnm N scope body o
    | _ => false)
  | .mkx y _ _ es => (match e with
    | .Call (.Name x _) as [] _ => decide (x = y) && glB sc x && okN x && noStar as && mL fnm N sc as es
    | _ => false)
  | .mkxK y _ _ _ nms es => (match e with
    | .Call (.Name x _) [] (a :: r) _ => decide (x = y) && glB sc x && okN x && mK (a :: r) nms && mL fnm N sc ((a :: r).map kwVal) es
    | _ => false)
  | .mkK _ y _ ks _ es => (match e with
    | .Call (.Name x _) [] (a :: r) _ => decide (x = y) && glB sc x && okN x && mK (a :: r) ks && mL fnm N sc ((a :: r).map kwVal) es
    | _ => false)
  | .isi T _ o => (match e with
    | .Call (.Name x _) [y, .Name z p2] [] _ => decide (x = "isinstance") && glB sc x && decide (z = T.name) && glB sc z && okN z && !(z == "__name__") && noStar [y, .Name z p2] && mE fnm N sc y o
    | _ => false)
  | .opF o a b => (match e with
    | .BinOp x f y _ => (f == o.op) && mE fnm N sc x a && mE fnm N sc y b
    | _ => false)
  | .cmpF o a b => (match e with
    | .Compare x [f] [y] _ => (f == o.op) && !(behindInMarks f y) && mE fnm N sc x a && mE fnm N sc y b
    | _ => false)
  | .bltF b es => (match e with
    | .Call (.Name x _) (a :: as) [] _ => decide (x = b.nm) && glB sc x && okN x && noStar (a :: as) && mL fnm N sc (a :: as) es
    | _ => false)
  | .prop _ y _ o => (match e with
    | .Attribute x f _ => decide (f = y) && baseOk x && mE fnm N sc x o
    | _ => false)
  | .omet _ i _ o es => (match e with
    | .Call (.Attribute oe nm apos) (a :: as) [] cpos => decide (nm = fnm i) && baseOk oe && (apos.endLine == cpos.line) && decide ((a :: as).length < 29) && noStar (a :: as) && mE fnm N sc oe o && mL fnm N sc (a :: as) es
    | .Call (.Attribute oe nm apos) [] [] cpos => decide (nm = fnm i) && baseOk oe && (apos.endLine == cpos.line) && mE fnm N sc oe o && mL fnm N sc [] es
    | _ => false)
  | .mk _ y _ _ es => (match e with
    | .Call (.Name x _) (a :: as) [] _ => decide (x = y) && glB sc x && okN x && noStar (a :: as) && mL fnm N sc (a :: as) es
    | _ => false)
  | .fstr es => (match e with
    | .JoinedStr (a :: r) _ => mJ fnm N sc (a :: r) es
    | _ => false)
def mJ (fnm : Nat → Str) (N : List Str) (sc : Scope) (es : List Expr) : CL → Bool
  | .nil => (match es with
    | [] => true
    | _ => false)
  | .cons c r => (match es with
    | .FormattedValue x k none _ :: es => decide (k = -1) && mE fnm N sc x c && mJ fnm N sc es r
    | .Constant (.str y) u p :: es => isSL c y && mJ fnm N sc es r
    | _ => false)
  | .star _ _ => false
def mL (fnm : Nat → Str) (N : List Str) (sc : Scope) (es : List Expr) : CL → Bool
  | .nil => (match es with
    | [] => true
    | _ => false)
  | .cons c r => (match es with
    | .Starred _ _ :: _ => false
    | e :: es => mE fnm N sc e c && mL fnm N sc es r
    | [] => false)
  | .star c r => (match es with
    | .Starred e _ :: es => mE fnm N sc e c && mL fnm N sc es r
    | _ => false)
def mC (fnm : Nat → Str) (N : List Str) (sc : Scope) (es : List Expr) : CL → Bool
  | .nil => (match es with
    | [] => true
    | _ => false)
  | .cons c .nil => (match es with
    | [e] => mE fnm N sc e c
    | _ => false)
  | _ => false
def mO (fnm : Nat → Str) (N : List Str) (sc : Scope) (e : Option Expr) : CO → Bool
  | .none => (match e with
    | none => true
    | _ => false)
  | .some c => (match e with
    | some e => mE fnm N sc e c
    | _ => false)
def mI (fnm : Nat → Str) (N : List Str) (sc : Scope) (e : Expr) : CI → Bool
  | .seq c => notSet e && mE fnm N sc e c
  | .rng1 b => (match e with
    | .Call (.Name x _) [y] [] _ => decide (x = "range") && glB sc x && noStar [y] && mE fnm N sc y b
    | _ => false)
  | .rng2 a b => (match e with
    | .Call (.Name x _) [y, z] [] _ => decide (x = "range") && glB sc x && noStar [y, z] && mE fnm N sc y a && mE fnm N sc z b
    | _ => false)
  | .rng3 a b s => (match e with
    | .Call (.Name x _) [y, z, u] [] _ => decide (x = "range") && glB sc x && noStar [y, z, u] && mE fnm N sc y a && mE fnm N sc z b && mE fnm N sc u s
    | _ => false)
  | .enum a => (match e with
    | .Call (.Name x _) [y] [] _ => decide (x = "enumerate") && glB sc x && noStar [y] && mE fnm N sc y a
    | _ => false)
  | .zip2 a b => (match e with
    | .Call (.Name x _) [y, z] [] _ => decide (x = "zip") && glB sc x && noStar [y, z] && mE fnm N sc y a && mE fnm N sc z b
    | _ => false)
  | .rev a => (match e with
    | .Call (.Name x _) [y] [] _ => decide (x = "reversed") && glB sc x && noStar [y] && mE fnm N sc y a
    | _ => false)
  | .zip3 a b d => (match e with
    | .Call (.Name x _) [y, z, u] [] _ => decide (x = "zip") && glB sc x && noStar [y, z, u] && mE fnm N sc y a && mE fnm N sc z b && mE fnm N sc u d
    | _ => false)
  | .zipS a => (match e with
    | .Call (.Name x _) [.Starred y _] [] _ => decide (x = "zip") && glB sc x && mE fnm N sc y a
    | _ => false)
  | .sgn a => notSet e && mE fnm N sc e a
end
def liftSp (c : Ctx) (sp : DSp) : Sp := fun vs H Q E => ∃ Z S ds QD ED, Rel c Z S H ∧ RepL c Z ds vs ∧ sp ds S QD ED ∧ Lk c ⟨Z, S, H⟩ (RepD c) QD Q ∧ LkX c ⟨Z, S, H⟩ ED E
def KFun (c : Ctx) (k : Nat) (X : Rn) (f : Str) (sp : DSp) : Prop :=
  ∃ (a : Addr) (fd : FuncData) (ps : List Str) (ds : List Value) (dvs : List V) (spH : Sp), FnOk X.prog X.w X.K X.mg X.base (L2.CX X.prog X.w) k a fd ps spH ∧ X.mg f = some (.ref a) ∧ PySem.W.keepIn X.K (.ref a) = true ∧ Binds X.K fd ps ds ∧ Vals dvs ds ∧
    ∀ vs H Q E, liftSp c sp vs H Q E → spH (vs ++ dvs) H Q E
def KGlo (c : Ctx) (X : Rn) (x : Str) (d : D) : Prop := ∃ u v, X.mg x = some u ∧ RelV v u ∧ ∀ Z, RepD c Z d v
def KAtt (c : Ctx) (X : Rn) (cl i : Nat) : Prop := ∃ C, c.cn cl = some C ∧ Cls X.K C ∧ NoAttr X.K C (c.nm i) ∧ ∀ j, c.nm j = c.nm i → j = i
def KFunK (c : Ctx) (k : Nat) (X : Rn) (f : Str) (n : Nat) (ks : List Str) (pm : List Nat) (sp : DSp) : Prop :=
  ∃ (a : Addr) (fd : FuncData) (ps : List Str) (dvs : List V) (g : List Value → List Value → List Value) (gV : List V → List V → List V) (spH : Sp), FnOk X.prog X.w X.K X.mg X.base (L2.CX X.prog X.w) k a fd ps spH ∧ X.mg f = some (.ref a) ∧ PySem.W.keepIn X.K (.ref a) = true ∧
    KBn X.K fd ps n ks g gV ∧ (∀ vs zs : List V, vs.length = n → zs.length = ks.length → gV vs zs = (pm.map fun i => (vs ++ zs).getD i .non) ++ dvs) ∧ ∀ vs H Q E, liftSp c sp vs H Q E → spH (vs ++ dvs) H Q E
def KMethK (c : Ctx) (k : Nat) (X : Rn) (cl i : Nat) (ks : List Str) (pm : List Nat) (sp : DSp) : Prop :=
  ∃ (C f : Addr) (k' : Nat), k' ≤ k ∧ c.cn cl = some C ∧ Cls X.K C ∧ Meth X.K C (c.nm i) f ∧ (∀ j, c.nm j = c.nm i → j = i) ∧
    ∃ (fd : FuncData) (ps : List Str) (dvs : List V) (g : List Value → List Value → List Value) (gV : List V → List V → List V) (spH : Sp), FnOk X.prog X.w X.K X.mg X.base (L2.CX X.prog X.w) k' f fd ps spH ∧
      KBn X.K fd ps 1 ks g gV ∧ (∀ (v : V) (zs : List V), zs.length = ks.length → gV [v] zs = v :: (pm.map fun i => zs.getD i .non) ++ dvs) ∧ ∀ vs H Q E, liftSp c sp vs H Q E → spH (vs ++ dvs) H Q E
def KDct (c : Ctx) (X : Rn) (x : Str) (kvs : List (Str × D)) : Prop :=
  ∃ (d : Addr) (es : Array DictEntry) (n : Nat), X.mg x = some (.ref d) ∧ KDict X.K X.w d es n ∧ ∀ z : Str, ∃ r, PySem.W.nsIn X.K d z = some r ∧ (match r with
    | some u => ∃ v y, RelV v u ∧ kvs.lookup z = some y ∧ ∀ Z, RepD c Z y v
    | none => kvs.lookup z = none)
def KF (c : Ctx) (k : Nat) (X : Rn) (a : Addr) (sp : DSp) : Prop :=
  ∃ (fd : FuncData) (ps : List Str) (ds : List Value) (dvs : List V) (spH : Sp), FnOk X.prog X.w X.K X.mg X.base (L2.CX X.prog X.w) k a fd ps spH ∧ Binds X.K fd ps ds ∧ Vals dvs ds ∧
    ∀ vs H Q E, liftSp c sp vs H Q E → spH (vs ++ dvs) H Q E
def KMk (c : Ctx) (k : Nat) (X : Rn) (x : Str) (cl : Nat) (sp : DSp) : Prop :=
  ∃ (C f : Addr) (k' : Nat), k' + 1 ≤ k ∧ c.cn cl = some C ∧ X.mg x = some (.ref C) ∧ Mk X.K C f ∧ KF c k' X f sp
def KMkK (c : Ctx) (k : Nat) (X : Rn) (x : Str) (cl : Nat) (ks : List Str) (sp : DSp) : Prop :=
  ∃ (C f : Addr) (k' : Nat), k' + 1 ≤ k ∧ c.cn cl = some C ∧ X.mg x = some (.ref C) ∧ Mk X.K C f ∧
    ∃ (fd : FuncData) (ps : List Str) (spH : Sp), FnOk X.prog X.w X.K X.mg X.base (L2.CX X.prog X.w) k' f fd ps spH ∧ KBn X.K fd ps 1 ks (· ++ ·) (· ++ ·) ∧ ∀ vs H Q E, liftSp c sp vs H Q E → spH vs H Q E
def KProp (c : Ctx) (k : Nat) (X : Rn) (cl : Nat) (x : Str) (sp : DSp) : Prop :=
  ∃ (C p g : Addr) (k' : Nat), k' + 1 ≤ k ∧ c.cn cl = some C ∧ Cls X.K C ∧ PropOf X.K C x p g ∧ KF c k' X g sp
def KMeth (c : Ctx) (k : Nat) (X : Rn) (cl i : Nat) (sp : DSp) : Prop :=
  ∃ (C f : Addr) (k' : Nat), k' ≤ k ∧ c.cn cl = some C ∧ Cls X.K C ∧ Meth X.K C (c.nm i) f ∧ (∀ j, c.nm j = c.nm i → j = i) ∧ KF c k' X f sp
def tyNames : List String := ["NoneType", "bool", "int", "str", "tuple", "list", "dict"]
def KIsi (c : Ctx) (X : Rn) (T : IsT) (ks : List Nat) : Prop :=
  X.mg "isinstance" = none ∧ ∃ (vc : V) (uc : Value), ClsV vc uc ∧ ((X.mg T.name = none ∧ ∃ n, bootBuiltins T.name = some (.type n) ∧ vc = .ty n) ∨ (X.mg T.name = some uc ∧ RelV vc uc)) ∧
    (∀ t ∈ tyNames, PySem.W.kitOne X.K (.type t) uc = some (T.ans t)) ∧
    ∀ j ∈ ks, ∀ C, c.cn j = some C → Cls X.K C ∧ PySem.W.findIn X.K (.ref C) "__class__" = some (some (.builtin "object.__class__")) ∧
      PySem.W.specialIn X.K (.builtin "object.__class__") "__get__" = some (some (.builtin "getset_descriptor.__get__")) ∧ PySem.W.takesIn X.K (.builtin "object.__class__") = some true ∧
      PySem.W.mroIn X.K C (.type "object") = some true ∧ PySem.W.kitOne X.K (.ref C) uc = some (T.ansO j)
def KIsx (c : Ctx) (X : Rn) (y : Str) (k : Nat) (js : List Nat) : Prop := X.mg "isinstance" = none ∧ ∃ (vc : V) (uc : Value), ((∃ C, c.cn k = some C ∧ X.mg y = some (.ref C) ∧ vc = .ref C ∧ uc = .ref C) ∨ (∃ n, X.mg y = none ∧ y ≠ "__name__" ∧ bootBuiltins y = some (.type n) ∧ vc = .ty n ∧ uc = .type n)) ∧ ∀ j ∈ js, ∀ D, c.cn j = some D → XcK X.K D ∧ PySem.W.kitOne X.K (.ref D) uc = some (subX j k)
def KAttx (c : Ctx) (X : Rn) (i : Nat) (js : List Nat) : Prop := (∀ j, c.nm j = c.nm i → j = i) ∧ ∀ j ∈ js, ∀ D, c.cn j = some D → XcK X.K D ∧ PySem.W.findIn X.K (.ref D) (c.nm i) = some none
def KMx (c : Ctx) (X : Rn) (x : Str) (j : Nat) (ks : List Nat) : Prop := ∃ C, c.cn j = some C ∧ X.mg x = some (.ref C) ∧ PySem.W.keepIn X.K (.ref C) = true ∧ ((ks = [] ∧ Own0 X.K C) ∨ (∃ k g, ks = [k] ∧ c.nm k ∈ atN ∧ OwnX X.K C g (c.nm k)) ∨ (∃ a b g, ks = [a, b] ∧ c.nm a = "index" ∧ c.nm b = "told" ∧ OwnX2 X.K C g "index" "told"))
def KMxK (c : Ctx) (X : Rn) (x : Str) (j : Nat) (ks pm : List Nat) (nms : List Str) : Prop := KMx c X x j ks ∧ ((∃ k, ks = [k] ∧ pm = [0] ∧ nms = [c.nm k]) ∨ (∃ a b, ks = [a, b] ∧ pm = [1, 0] ∧ nms = [("told" : Str), "index"]))
def TTold (c : Ctx) (sp1 sp2 : DSp) : (XK → Hp → VK → Prop) → Hp → VK → Prop := fun tl H Q =>
  tl (fun cls d H' => ∃ (j : Nat) (C dd : Addr) (vfs : List (Str × V)), 10 ≤ j ∧ j ≤ 28 ∧ c.cn j = some C ∧ cls = .ref C ∧ d = some dd ∧ H' dd = some (.xd vfs) ∧ ∀ (a : Addr) (oe : Obj) (fv : Array Value), oe.cls = .ref C → oe.dict = some dd → oe.data = .fields fv →
      liftSp { c with lam := none, pin := some (a, oe) } sp1 [.ref a] H' (fun w H2 => liftSp { c with lam := none, pin := some (a, oe) } sp2 [.ref a, w] H2 (fun t H3 => ∀ p, H3 p = none → Q (.ref p) (upd H3 p (.tup [w, t]))) fun _ _ _ => False) fun _ _ _ => False) H
    fun v H' => ∀ p, H' p = none → Q (.ref p) (upd H' p (.tup [.str "returned", v]))
def KTold (c : Ctx) (k : Nat) (X : Rn) (f : Str) (sp1 sp2 : DSp) : Prop :=
  ∃ (g : Addr) (a : Str) (pg : Arguments) (bg : List Stmt) (sg : Scope) (dV kV doc pm cdv ct oc : Value) (an od : Option Addr) (osl : Array (Option Value)) (Ng : List Str), X.mg f = some (.ref g) ∧ PySem.W.keepIn X.K (.ref g) = true ∧
    X.K.lookup g = some ⟨oc, od, .func (PySem.W.fnOf f f pg bg sg dV kV doc pm an cdv ct), osl⟩ ∧ PySem.W.codeIn X.K cdv f = true ∧ L2.Binds X.K (PySem.W.fnOf f f pg bg sg dV kV doc pm an cdv ct) [a] [] ∧ FnScope Ng [a] sg ∧ Ng[0]? = some a ∧ Vis sg a ∧ (a == ("__debug__" : Str)) = false ∧ (a == ("__classdict__" : Str)) = false ∧
    ∀ (Y : Cx) (q : Str), rn Y = X → Y.K = c.K → Room k Y.A → LamX.GivesTo Y Ng f sg g cdv bg a q (TTold c sp1 sp2)
mutual
def knE (c : Ctx) (k : Nat) (X : Rn) : CE → Prop
  | .glo x d => KGlo c X x d
  | .bval x n => X.mg x = none ∧ bootBuiltins x = some (.type n)
  | .op _ a b => knE c k X a ∧ knE c k X b
  | .un _ a => knE c k X a
  | .cmp _ a b => knE c k X a ∧ knE c k X b
  | .chain _ _ a b d => knE c k X a ∧ knE c k X b ∧ knE c k X d
  | .and_ a b => knE c k X a ∧ knE c k X b
  | .or_ a b => knE c k X a ∧ knE c k X b
  | .not_ a => knE c k X a
  | .ife t a b => knE c k X t ∧ knE c k X a ∧ knE c k X b
  | .tup es => knL c k X es
  | .lst _ es => knL c k X es
  | .call f sp es => KFun c k X f sp ∧ knL c k X es
  | .blt b es => X.mg b.nm = none ∧ knL c k X es
  | .met _ o es => knE c k X o ∧ knL c k X es
  | .idx _ a i => knE c k X a ∧ knE c k X i
  | .rev a => knE c k X a
  | .rpl a _ _ => knE c k X a
  | .slc _ a lo hi => knE c k X a ∧ knO c k X lo ∧ knO c k X hi
  | .comp _ _ elt _ it cond => knE c k X elt ∧ knI c k X it ∧ knL c k X cond
  | .att cl i o => KAtt c X cl i ∧ knE c k X o
  | .dcomp _ key val _ it => knE c k X key ∧ knE c k X val ∧ knI c k X it
  | .fstr es => knL c k X es
  | .mkK _ x cl ks sp es => KMkK c k X x cl ks sp ∧ knL c k X es
  | .mkx x j ks es => KMx c X x j ks ∧ knL c k X es
  | .mkxK x j ks pm nms es => KMxK c X x j ks pm nms ∧ knL c k X es
  | .isi T ks o => KIsi c X T ks ∧ knE c k X o
  | .cmpF o a b => o.kn c k X ∧ knE c k X a ∧ knE c k X b
  | .opF o a b => o.kn c k X ∧ knE c k X a ∧ knE c k X b
  | .bltF b es => X.mg b.nm = none ∧ b.kn c k X ∧ knL c k X es
  | .prop cl x sp o => KProp c k X cl x sp ∧ knE c k X o
  | .omet cl i sp o es => KMeth c k X cl i sp ∧ knE c k X o ∧ knL c k X es
  | .mk _ x cl sp es => KMk c k X x cl sp ∧ knL c k X es
  | .dget x kvs e d => KDct c X x kvs ∧ knE c k X e ∧ knE c k X d
  | .comp2 _ _ elt _ it _ it2 => knE c k X elt ∧ knI c k X it ∧ knI c k X it2
  | .callK f n ks pm sp as es => KFunK c k X f n ks pm sp ∧ knL c k X as ∧ knL c k X es
  | .ometK cl i ks pm sp o es => KMethK c k X cl i ks pm sp ∧ knE c k X o ∧ knL c k X es
  | .revs _ o => knE c k X o
  | .lrng _ o => X.mg "list" = none ∧ X.mg "range" = none ∧ knE c k X o
  | .stp _ o => knE c k X o
  | .lset o => X.mg "len" = none ∧ X.mg "set" = none ∧ knE c k X o
  | .isx y j js o => KIsx c X y j js ∧ knE c k X o
  | .attx i js o => KAttx c X i js ∧ knE c k X o
  | .told f sp1 sp2 e => ∃ k', k = k' + 2 ∧ KTold c k' X f sp1 sp2 ∧ (∃ t, c.lam = some t) ∧ knE { c with lam := none } k' X e
  | _ => True
def knL (c : Ctx) (k : Nat) (X : Rn) : CL → Prop
  | .nil => True
  | .cons e r => knE c k X e ∧ knL c k X r
  | .star e r => knE c k X e ∧ knL c k X r
def knO (c : Ctx) (k : Nat) (X : Rn) : CO → Prop
  | .none => True
  | .some e => knE c k X e
def knI (c : Ctx) (k : Nat) (X : Rn) : CI → Prop
  | .seq e => knE c k X e
  | .rng1 b => X.mg "range" = none ∧ knE c k X b
  | .rng2 a b => X.mg "range" = none ∧ knE c k X a ∧ knE c k X b
  | .rng3 a b s => X.mg "range" = none ∧ knE c k X a ∧ knE c k X b ∧ knE c k X s
  | .enum a => X.mg "enumerate" = none ∧ knE c k X a
  | .zip2 a b => X.mg "zip" = none ∧ knE c k X a ∧ knE c k X b
  | .zip3 a b d => X.mg "zip" = none ∧ knE c k X a ∧ knE c k X b ∧ knE c k X d
  | .zipS a => X.mg "zip" = none ∧ knE c k X a
  | .rev a => X.mg "reversed" = none ∧ knE c k X a
  | .sgn a => knE c k X a
end
end L3
set_option maxHeartbeats 1000000
namespace L3
open PySem PySem.Spec PyProof.Rows L2
section
variable {c : Ctx} {k : Nat} {X : Cx} {W : WX} {pos : Pos}
theorem vis_of {sc : Scope} {x : Str} (h : visB sc x = true) : Vis sc x := by
  unfold visB at h
  unfold Vis
  cases e : sc.names.lookup x with
  | none => rw [e] at h; cases h
  | some q => rw [e] at h; cases q <;> first | exact .inl rfl | exact .inr (.inl rfl) | exact .inr (.inr rfl) | cases h
theorem loc_of {sc : Scope} {x : Str} (h : locB sc x = true) : L2.Loc sc x := by
  unfold locB at h
  unfold L2.Loc
  cases e : sc.names.lookup x with
  | none => rw [e] at h; cases h
  | some q => rw [e] at h; cases q <;> first | exact .inl rfl | exact .inr rfl | cases h
theorem gl_of {x : Str} (h : glB X.env.scope x = true) : Gl X x := by
  unfold glB at h
  show X.env.scope.names.lookup x = _
  cases e : X.env.scope.names.lookup x with
  | none => rw [e] at h; cases h
  | some q => rw [e] at h; cases q <;> first | rfl | cases h
theorem ok1 {x : Str} (h : okN x = true) : (x == ("__debug__" : Str)) = false := by
  unfold okN at h; simp at h; simp [h.1]
theorem ok2 {x : Str} (h : okN x = true) : (x == ("__classdict__" : Str)) = false := by
  unfold okN at h; simp at h; simp [h.2]
theorem lk_of {ρ : Env} {i : Nat} {d : D} (h : lk ρ i = some d) : ρ[i]? = some (some d) := by
  rw [lk_eq] at h
  cases e : ρ[i]? with
  | none => rw [e] at h; cases h
  | some o => rw [e] at h; simp at h; rw [h]
theorem se_var {i : Nat} {x : Str} (hN : X.N[i]? = some x) (hv : Vis X.env.scope x) (hn : okN x = true) : SE c X W (.Name x pos) (wVar i) :=
  PE.imp (pe_var hN hv (ok1 hn) (ok2 hn)) fun σ H Q h => h.pure fun Z S ρ QD ED R RE hw hq hx => by
    unfold wVar at hw
    cases e : lk ρ i with
    | none => rw [e] at hw; exact hw.elim
    | some d =>
      rw [e] at hw
      obtain ⟨v, h1, h2⟩ := RE.at_ i d (lk_of e)
      exact ⟨v, h1, hq.go R h2 hw⟩
theorem se_c {e : Expr} {d : D} {v : V} (h : PE X e (tC v)) (r : ∀ Z, RepD c Z d v) : SE c X W e (wC d) :=
  PE.imp h fun σ H Q h => h.pure fun Z S ρ QD ED R RE hw hq hx => hq.go R (r Z) hw
theorem se_un {o : Un1} {a : Expr} {wa : WE} (ok : XO0 c X) (ha : SE c X W a wa) : SE c X W (.UnaryOp o.op a pos) (fun ρ S Q E => wa ρ S (fun x S1 => o.w x S1 Q) E) :=
  PE.imp (pe_un (o.ok c 0 X ok) ha) fun σ H Q h => LG.bind (R1 := RepD c) (R2 := RepD c) (w1 := wa) (k := fun x _ S Q _ => o.w x S Q) (t2 := fun x σ H Q => l1 c o.w x H Q) (fun d v σ H Q Z S ρ QD ED R RE r kk hq hx => ⟨Z, S, d, QD, R, r, kk, hq⟩) h
theorem two {r : R2} {wa wb : WE} {w : D → D → Store → QE → Prop} {σ : L2.St} {H : Hp} {Q : VK} (hr : ∀ x y H Q, l2 c w x y H Q → r x y H Q)
    (h : LG c W (RepD c) (fun ρ S Q E => wa ρ S (fun x S1 => wb ρ S1 (fun y S2 => w x y S2 Q) E) E) σ H Q) : tOp r (LG c W (RepD c) wa) (LG c W (RepD c) wb) σ H Q := by
  refine LG.bind (R1 := RepD c) (R2 := RepD c) (w1 := wa) (k := fun x ρ S Q E => wb ρ S (fun y S2 => w x y S2 Q) E) (t2 := fun x σ H Q => LG c W (RepD c) wb σ H fun y H2 => r x y H2 Q) (fun d v σ H Q Z S ρ QD ED R RE rd kk hq hx => ?_) h
  refine ⟨Z, S, ρ, fun y S2 => w d y S2 QD, ED, R, RE, kk, ?_, hx⟩
  intro d2 v2 Z' S' H' l R' r2 q
  exact hr _ _ _ _ ⟨Z', S', d, d2, QD, R', RepD.le l.le rd, r2, q, hq.le l⟩
theorem se_op {o : Op2} {a b : Expr} {wa wb : WE} (ok : XO0 c X) (ha : SE c X W a wa) (hb : SE c X W b wb) :
    SE c X W (.BinOp a o.op b pos) (fun ρ S Q E => wa ρ S (fun x S1 => wb ρ S1 (fun y S2 => o.w x y S2 Q) E) E) :=
  PE.imp (pe_op (o.ok c 0 X ok) ha hb) fun σ H Q h => two (fun _ _ _ _ z => z) h
theorem se_cmp {o : Cm2} {a b : Expr} {wa wb : WE} (ok : XO0 c X) (hm : behindInMarks o.op b = false) (ha : SE c X W a wa) (hb : SE c X W b wb) :
    SE c X W (.Compare a [o.op] [b] pos) (fun ρ S Q E => wa ρ S (fun x S1 => wb ρ S1 (fun y S2 => o.w x y S2 Q) E) E) :=
  PE.imp (pe_cmpR (o.ok c 0 X ok) ha hb hm) fun σ H Q h => two (fun _ _ _ _ z => z) h
theorem se_cmpG {op : CmpOp} {w : D → D → Store → QE → Prop} {a b : Expr} {wa wb : WE} (hop : OpR X (compareOp op) (l2 c w)) (hm : behindInMarks op b = false) (ha : SE c X W a wa) (hb : SE c X W b wb) :
    SE c X W (.Compare a [op] [b] pos) (fun ρ S Q E => wa ρ S (fun x S1 => wb ρ S1 (fun y S2 => w x y S2 Q) E) E) :=
  PE.imp (pe_cmpR hop ha hb hm) fun σ H Q h => two (fun _ _ _ _ z => z) h
theorem se_opG {op : Operator} {w : D → D → Store → QE → Prop} {a b : Expr} {wa wb : WE} (hop : OpR X (binaryOp op) (l2 c w)) (ha : SE c X W a wa) (hb : SE c X W b wb) :
    SE c X W (.BinOp a op b pos) (fun ρ S Q E => wa ρ S (fun x S1 => wb ρ S1 (fun y S2 => w x y S2 Q) E) E) :=
  PE.imp (pe_op hop ha hb) fun σ H Q h => two (fun _ _ _ _ z => z) h
theorem se_idx {o : Ix2} {a b : Expr} {wa wb : WE} (ok : XO0 c X) (hs : PlainIx b) (ha : SE c X W a wa) (hb : SE c X W b wb) :
    SE c X W (.Subscript a b pos) (fun ρ S Q E => wa ρ S (fun x S1 => wb ρ S1 (fun y S2 => o.w x y S2 Q) E) E) :=
  PE.imp (pe_ix (o.ok c 0 X ok) ha hb hs) fun σ H Q h => two (fun _ _ _ _ z => z) h
theorem tru_of {wa : WE} {σ : L2.St} {H : Hp} {Q : Bool → Hp → Prop} (hK : X.K = c.K) (h : LG c W SEq (truW wa) σ H Q) : LG c W (RepD c) wa σ H fun x H' => ∃ k, TruV X.K x H' k ∧ Q k H' := by
  refine LG.bind (R1 := RepD c) (R2 := SEq) (w1 := wa) (k := fun x ρ S Q E => truD S x fun b => Q b S) (t2 := fun x σ H Q => ∃ k, TruV X.K x H k ∧ Q k H) (fun d v σ H Q Z S ρ QD ED R RE rd kk hq hx => ?_) h
  obtain ⟨b, h1, h2⟩ := truD_ok R rd kk
  exact ⟨b, by rw [hK]; exact h1, hq.go R rfl h2⟩
theorem st_tru {a : Expr} {wa : WE} (hK : X.K = c.K) (ha : SE c X W a wa) (he : ∀ whole, isTrue a X.env whole = (do let v ← whole; standAt a.pos; holding [v] (truthy v))) : ST c X W a (truW wa) :=
  PT.imp (pt_truth ha he) fun σ H Q h => tru_of hK h
theorem se_ife {t a b : Expr} {wt : WT} {wa wb : WE} (ht : ST c X W t wt) (ha : SE c X W a wa) (hb : SE c X W b wb) :
    SE c X W (.IfExp t a b pos) (fun ρ S Q E => wt ρ S (fun c S1 => if c = true then wa ρ S1 Q E else wb ρ S1 Q E) E) :=
  PE.imp (pe_ifExp ht ha hb) fun σ H Q h => LG.bind (R1 := SEq) (R2 := RepD c) (w1 := wt) (k := fun c ρ S Q E => if c = true then wa ρ S Q E else wb ρ S Q E)
    (t2 := fun b' σ H Q => if b' = true then LG c W (RepD c) wa σ H Q else LG c W (RepD c) wb σ H Q) (fun d v σ H Q Z S ρ QD ED R RE rd kk hq hx => by
      cases rd
      by_cases hd : d = true
      · rw [if_pos hd] at kk ⊢; exact ⟨Z, S, ρ, QD, ED, R, RE, kk, hq, hx⟩
      · rw [if_neg hd] at kk ⊢; exact ⟨Z, S, ρ, QD, ED, R, RE, kk, hq, hx⟩) h
theorem st_not {a : Expr} {wa : WT} (ha : ST c X W a wa) : ST c X W (.UnaryOp .Not a pos) (not1 wa) :=
  PT.imp (pt_not ha) fun σ H Q h => LG.bind (R1 := SEq) (R2 := SEq) (w1 := wa) (k := fun b ρ S Q E => Q (!b) S) (t2 := fun b' σ H Q => Q (!b') H) (fun d v σ H Q Z S ρ QD ED R RE rd kk hq hx => by
    cases rd; exact hq.go R rfl kk) h
theorem sw_and {a b : Expr} {r : List Expr} {wa wb : WT} (ha : ST c X W a wa) (hb : SW c X W (.BoolOp .And (b :: r) pos) wb) : SW c X W (.BoolOp .And (a :: b :: r) pos) (and2 wa wb) :=
  PW.imp (pw_and ha hb) fun σ H Q h => LG.bind (R1 := SEq) (R2 := SEq) (w1 := wa) (k := fun b ρ S Q E => if b = true then wb ρ S Q E else Q false S)
    (t2 := fun b' σ H Q => if b' = true then LG c W SEq wb σ H Q else Q false H) (fun d v σ H Q Z S ρ QD ED R RE rd kk hq hx => by
      cases rd
      by_cases hd : d = true
      · rw [if_pos hd] at kk ⊢; exact ⟨Z, S, ρ, QD, ED, R, RE, kk, hq, hx⟩
      · rw [if_neg hd] at kk ⊢; exact hq.go R rfl kk) h
theorem sw_or {a b : Expr} {r : List Expr} {wa wb : WT} (ha : ST c X W a wa) (hb : SW c X W (.BoolOp .Or (b :: r) pos) wb) : SW c X W (.BoolOp .Or (a :: b :: r) pos) (or2 wa wb) :=
  PW.imp (pw_or ha hb) fun σ H Q h => LG.bind (R1 := SEq) (R2 := SEq) (w1 := wa) (k := fun b ρ S Q E => if b = true then Q true S else wb ρ S Q E)
    (t2 := fun b' σ H Q => if b' = true then Q true H else LG c W SEq wb σ H Q) (fun d v σ H Q Z S ρ QD ED R RE rd kk hq hx => by
      cases rd
      by_cases hd : d = true
      · rw [if_pos hd] at kk ⊢; exact hq.go R rfl kk
      · rw [if_neg hd] at kk ⊢; exact ⟨Z, S, ρ, QD, ED, R, RE, kk, hq, hx⟩) h
theorem se_and {a b : Expr} {r : List Expr} {wa wb : WE} (hK : X.K = c.K) (ha : SE c X W a wa) (hb : SE c X W (.BoolOp .And (b :: r) pos) wb) :
    SE c X W (.BoolOp .And (a :: b :: r) pos) (fun ρ S Q E => wa ρ S (fun x S1 => truD S1 x fun t => if t = true then wb ρ S1 Q E else Q x S1) E) :=
  PE.imp (pe_andT ha hb) fun σ H Q h => LG.bind (R1 := RepD c) (R2 := RepD c) (w1 := wa) (k := fun x ρ S Q E => truD S x fun t => if t = true then wb ρ S Q E else Q x S)
    (t2 := fun x σ H Q => ∃ k, TruV X.K x H k ∧ if k = true then LG c W (RepD c) wb σ H Q else Q x H) (fun d v σ H Q Z S ρ QD ED R RE rd kk hq hx => by
      obtain ⟨t, h1, h2⟩ := truD_ok R rd kk
      refine ⟨t, by rw [hK]; exact h1, ?_⟩
      by_cases hd : t = true
      · rw [if_pos hd] at h2 ⊢; exact ⟨Z, S, ρ, QD, ED, R, RE, h2, hq, hx⟩
      · rw [if_neg hd] at h2 ⊢; exact hq.go R rd h2) h
theorem se_or {a b : Expr} {r : List Expr} {wa wb : WE} (hK : X.K = c.K) (ha : SE c X W a wa) (hb : SE c X W (.BoolOp .Or (b :: r) pos) wb) :
    SE c X W (.BoolOp .Or (a :: b :: r) pos) (fun ρ S Q E => wa ρ S (fun x S1 => truD S1 x fun t => if t = true then Q x S1 else wb ρ S1 Q E) E) :=
  PE.imp (pe_orT ha hb) fun σ H Q h => LG.bind (R1 := RepD c) (R2 := RepD c) (w1 := wa) (k := fun x ρ S Q E => truD S x fun t => if t = true then Q x S else wb ρ S Q E)
    (t2 := fun x σ H Q => ∃ k, TruV X.K x H k ∧ if k = true then Q x H else LG c W (RepD c) wb σ H Q) (fun d v σ H Q Z S ρ QD ED R RE rd kk hq hx => by
      obtain ⟨t, h1, h2⟩ := truD_ok R rd kk
      refine ⟨t, by rw [hK]; exact h1, ?_⟩
      by_cases hd : t = true
      · rw [if_pos hd] at h2 ⊢; exact hq.go R rd h2
      · rw [if_neg hd] at h2 ⊢; exact ⟨Z, S, ρ, QD, ED, R, RE, h2, hq, hx⟩) h
theorem se_not {a : Expr} {wa : WE} (hK : X.K = c.K) (ha : SE c X W a wa) : SE c X W (.UnaryOp .Not a pos) (fun ρ S Q E => wa ρ S (fun x S1 => truD S1 x fun t => Q (.bl (!t)) S1) E) :=
  PE.imp (pe_notT ha) fun σ H Q h => LG.bind (R1 := RepD c) (R2 := RepD c) (w1 := wa) (k := fun x ρ S Q E => truD S x fun t => Q (.bl (!t)) S)
    (t2 := fun x σ H Q => ∃ k, TruV X.K x H k ∧ Q (.bl (!k)) H) (fun d v σ H Q Z S ρ QD ED R RE rd kk hq hx => by
      obtain ⟨t, h1, h2⟩ := truD_ok R rd kk
      exact ⟨t, by rw [hK]; exact h1, hq.go R (d := .bl (!t)) rfl h2⟩) h
theorem sa_nil : SA c X W [] (fun _ S Q _ => Q [] S) := PA.imp pa_nil fun σ H Q h => h.pure fun Z S ρ QD ED R RE hw hq hx => hq.go R (d := []) rfl hw
theorem sa_cons {e : Expr} {es : List Expr} {we : WE} {wr : WA} (he : SE c X W e we) (hr : SA c X W es wr) (hs : starEach (e :: es) X.env = (false, eval e X.env) :: starEach es X.env) :
    SA c X W (e :: es) (fun ρ S Q E => we ρ S (fun d S1 => wr ρ S1 (fun ds S2 => Q (d :: ds) S2) E) E) :=
  PA.imp (pa_cons he hr hs) fun σ H Q h => LG.bind (R1 := RepD c) (R2 := RepL c) (w1 := we) (k := fun d ρ S Q E => wr ρ S (fun ds S2 => Q (d :: ds) S2) E)
    (t2 := fun x σ H Q => LG c W (RepL c) wr σ H fun xs H2 => Q (x :: xs) H2) (fun d v σ H Q Z S ρ QD ED R RE rd kk hq hx => by
      refine ⟨Z, S, ρ, fun ds S2 => QD (d :: ds) S2, ED, R, RE, kk, ?_, hx⟩
      intro d2 v2 Z' S' H' l R' r2 q
      exact hq (d :: d2) (v :: v2) Z' S' H' l R' ⟨v, v2, rfl, RepD.le l.le rd, r2⟩ q) h
theorem sa_star {e : Expr} {es : List Expr} {we : WE} {wr : WA} {p : Pos} (hK : X.K = c.K) (he : SE c X W e we) (hr : SA c X W es wr) :
    SA c X W (.Starred e p :: es) (fun ρ S Q E => we ρ S (fun d S1 => ∃ l, seqOf S1 d = some l ∧ wr ρ S1 (fun ds S2 => Q (l ++ ds) S2) E) E) :=
  PA.imp (StX.pa_star he hr rfl) fun σ H Q h => LG.bind (R1 := RepD c) (R2 := RepL c) (w1 := we) (k := fun d ρ S Q E => ∃ l, seqOf S d = some l ∧ wr ρ S (fun ds S2 => Q (l ++ ds) S2) E)
    (t2 := fun x σ H Q => ∃ p xs, x = V.ref p ∧ (SqT X.K H p xs ∨ SqL X.K H p xs) ∧ LG c W (RepL c) wr σ H fun ys H2 => Q (xs ++ ys) H2) (fun d v σ H Q Z S ρ QD ED R RE rd kk hq hx => by
      obtain ⟨l, e, kk⟩ := kk
      obtain ⟨a, vs, rfl, s, rl⟩ := seqOf_ok R rd e
      refine ⟨a, vs, rfl, by rw [hK]; exact s.symm, Z, S, ρ, fun ds S2 => QD (l ++ ds) S2, ED, R, RE, kk, ?_, hx⟩
      intro d2 v2 Z' S' H' le R' r2 q
      exact hq (l ++ d2) (vs ++ v2) Z' S' H' le R' (RepL.append (RepL.le le.le rl) r2) q) h
theorem big_le {n : Nat} (h : n ≤ big) : n ≤ sizeLine := by rw [sizeLine_eq]; exact h
theorem se_tup {es : List Expr} {wl : WA} {x1 : Nat} (h : SA c X W es wl) : SE c X W (.Tuple es x1 pos) (fun ρ S Q E => wl ρ S (fun ds S1 => leW ds.length big (Q (.tup ds) S1)) E) :=
  PE.imp (pe_tup h) fun σ H Q h => LG.bind (R1 := RepL c) (R2 := RepD c) (w1 := wl) (k := fun ds ρ S Q E => leW ds.length big (Q (.tup ds) S))
    (t2 := fun xs σ H Q => xs.length ≤ sizeLine ∧ ∀ p, H p = none → Q (.ref p) (upd H p (.tup xs))) (fun d v σ H Q Z S ρ QD ED R RE rd kk hq hx => by
      have kk := of_leW kk
      refine ⟨by rw [rd.length]; exact big_le kk.1, fun p hp => ?_⟩
      obtain ⟨h1, h2⟩ := R.frozen hp (.tup v)
      exact hq (.tup d) (.ref p) _ S _ (Nx.frozen (R.new hp).2 hp _) h2 ⟨p, v, rfl, SqT.of upd_same, RepL.le h1 rd⟩ kk.2) h
theorem newL_ok {m : Bool} {l : List D} {S : Store} {QD : QE} {Q : VK} {Z : Hp} {H : Hp} {vs : List V} (h : newL m l S QD) (R : Rel c Z S H) (hq : Lk c ⟨Z, S, H⟩ (RepD c) QD Q) (r : RepL c Z l vs) {p : Addr} (hp : H p = none) : Q (.ref p) (upd H p (.lst vs)) := by
  cases m with
  | false =>
    obtain ⟨h1, h2⟩ := R.frozen hp (.lst vs)
    exact hq (.fl l) (.ref p) _ S _ (Nx.frozen (R.new hp).2 hp _) h2 ⟨p, vs, rfl, upd_same, RepL.le h1 r⟩ h
  | true =>
    obtain ⟨h1, h2⟩ := R.fresh hp (x := .lst l) ⟨vs, rfl, r⟩
    exact hq (.ref p) (.ref p) Z _ _ (Nx.fresh hp _ _) h2 rfl (h p h1)
theorem se_lst {m : Bool} {es : List Expr} {wl : WA} (h : SA c X W es wl) : SE c X W (.List es pos) (fun ρ S Q E => wl ρ S (fun ds S1 => leW ds.length big (newL m ds S1 Q)) E) :=
  PE.imp (pe_lst h) fun σ H Q h => LG.bind (R1 := RepL c) (R2 := RepD c) (w1 := wl) (k := fun ds ρ S Q E => leW ds.length big (newL m ds S Q))
    (t2 := fun xs σ H Q => xs.length ≤ sizeLine ∧ ∀ p, H p = none → Q (.ref p) (upd H p (.lst xs))) (fun d v σ H Q Z S ρ QD ED R RE rd kk hq hx => by
      have kk := of_leW kk
      exact ⟨by rw [rd.length]; exact big_le kk.1, fun p hp => newL_ok kk.2 R hq rd hp⟩) h
end
end L3
namespace L3
open PySem PySem.Spec PyProof.Rows L2
section
variable {c : Ctx} {k : Nat} {X : Cx} {W : WX} {pos : Pos}
theorem star1 {e : Expr} {es : List Expr} (env : PySem.Env) (h : noStar (e :: es) = true) : starEach (e :: es) env = (false, eval e env) :: starEach es env ∧ noStar es = true := by
  cases e <;> first | exact ⟨rfl, h⟩ | (simp [noStar] at h)
theorem star2 (env : PySem.Env) (pos : Pos) : ∀ {es : List Expr}, noStar es = true → (backTo pos (starEach es env)).any (·.1) = false
  | [], _ => rfl
  | e :: es, h => by
    obtain ⟨h1, h2⟩ := star1 env h
    rw [h1]
    have := star2 env pos h2
    unfold backTo at this ⊢
    simpa using this
theorem star3 (env : PySem.Env) (pos : Pos) : ∀ {es : List Expr}, noStar es = true → (backTo pos (starEach es env)).all (fun x => !x.1) = true
  | [], _ => rfl
  | e :: es, h => by
    obtain ⟨h1, h2⟩ := star1 env h
    rw [h1]
    have := star3 env pos h2
    unfold backTo at this ⊢
    simpa using this
theorem base_ok {o : Expr} {name : Str} {env : PySem.Env} (h : baseOk o = true) (whole : Sem Value) : attributeBase o name env whole = whole := by
  unfold baseOk at h
  unfold attributeBase
  split
  · rename_i id p1 p2
    have h' : (id != "super") = true := by
      split at h
      · rename_i heq; cases heq; exact h
      · rename_i hne; exact absurd rfl (hne _ _ _)
    simp only [h', Bool.true_or]
    rfl
  · rfl
theorem se_call {x : Str} {p : Pos} {e : Expr} {es : List Expr} {wl : WA} {sp : DSp} (ok : XOk c k X) (tk : Takes X W) (kf : KFun c k (rn X) x sp) (hg : Gl X x) (hn : okN x = true) (hs : noStar (e :: es) = true) (ha : SA c X W (e :: es) wl) :
    SE c X W (.Call (.Name x p) (e :: es) [] pos) (fun ρ S Q E => wl ρ S (fun ds S1 => sp ds S1 Q E) E) := by
  obtain ⟨a, fd, ps, ds, dvs, spH, F, hm, hk, hb, hd, hi⟩ := kf
  obtain ⟨h1, h2⟩ := star1 X.env hs
  refine PE.imp (pe_callSD F ok.room hg hm hk hb hd (E := fun σ cls d H => W cls d σ H) (fun σ => passAt tk σ) ha (ok1 hn) h1 (star2 X.env pos h2)) fun σ H Q h => ?_
  exact LG.bind (R1 := RepL c) (R2 := RepD c) (w1 := wl) (k := fun ds ρ S Q E => sp ds S Q E) (t2 := fun vs σ H Q => spH (vs ++ dvs) H Q (fun cls d H => W cls d σ H))
    (fun d v σ H Q Z S ρ QD ED R RE rd kk hq hx => hi _ _ _ _ ⟨Z, S, d, QD, ED, R, rd, kk, hq, hx⟩) h
theorem se_blt {b : Bl} {p : Pos} {e : Expr} {es : List Expr} {wl : WA} (ok : XOk c k X) (hm : X.mg b.nm = none) (hg : Gl X b.nm) (hn : okN b.nm = true) (hs : noStar (e :: es) = true) (ha : SA c X W (e :: es) wl) :
    SE c X W (.Call (.Name b.nm p) (e :: es) [] pos) (fun ρ S Q E => wl ρ S (fun ds S1 => b.w ds S1 Q) E) := by
  obtain ⟨h1, h2⟩ := star1 X.env hs
  have hc := b.ok c k X ok
  have key : ∀ σ H Q, LG c W (RepD c) (fun ρ S Q E => wl ρ S (fun ds S1 => b.w ds S1 Q) E) σ H Q → tCB (ln c b.w) (LG c W (RepL c) wl) σ H Q := fun σ H Q h =>
    LG.bind (R1 := RepL c) (R2 := RepD c) (w1 := wl) (k := fun ds ρ S Q E => b.w ds S Q) (t2 := fun vs σ H Q => ln c b.w vs H Q)
      (fun d v σ H Q Z S ρ QD ED R RE rd kk hq hx => ⟨Z, S, d, QD, R, rd, kk, hq⟩) h
  rcases b.kind with ⟨id, e1⟩ | ⟨T, e1⟩
  · rw [e1] at hc
    exact PE.imp (pe_callB hc hg hm (by rw [b.boot, e1]) ha b.nn (ok1 hn) h1 (star2 X.env pos h2)) key
  · rw [e1] at hc
    exact PE.imp (pe_callTy hc hg hm (by rw [b.boot, e1]) ha b.nn (ok1 hn) h1 (star2 X.env pos h2)) key
theorem se_bltF {b : BlF} {p : Pos} {e : Expr} {es : List Expr} {wl : WA} (ok : XOk c k X) (hm : X.mg b.nm = none) (kn : b.kn c k (rn X)) (hg : Gl X b.nm) (hn : okN b.nm = true) (hs : noStar (e :: es) = true) (ha : SA c X W (e :: es) wl) :
    SE c X W (.Call (.Name b.nm p) (e :: es) [] pos) (fun ρ S Q E => wl ρ S (fun ds S1 => b.w ds S1 Q) E) := by
  obtain ⟨h1, h2⟩ := star1 X.env hs
  have hc := b.ok c k X ok kn
  have key : ∀ σ H Q, LG c W (RepD c) (fun ρ S Q E => wl ρ S (fun ds S1 => b.w ds S1 Q) E) σ H Q → tCB (ln c b.w) (LG c W (RepL c) wl) σ H Q := fun σ H Q h =>
    LG.bind (R1 := RepL c) (R2 := RepD c) (w1 := wl) (k := fun ds ρ S Q E => b.w ds S Q) (t2 := fun vs σ H Q => ln c b.w vs H Q)
      (fun d v σ H Q Z S ρ QD ED R RE rd kk hq hx => ⟨Z, S, d, QD, R, rd, kk, hq⟩) h
  rcases b.kind with ⟨id, e1⟩ | ⟨T, e1⟩
  · rw [e1] at hc
    exact PE.imp (pe_callB hc hg hm (by rw [b.boot, e1]) ha b.nn (ok1 hn) h1 (star2 X.env pos h2)) key
  · rw [e1] at hc
    exact PE.imp (pe_callTy hc hg hm (by rw [b.boot, e1]) ha b.nn (ok1 hn) h1 (star2 X.env pos h2)) key
theorem tyX_is {X : Cx} {pins : List (Addr × Obj)} {σ : L2.St} {H : Hp} {s : Shared} {T : String} {x : V} {v : Value} (I : Inv X pins σ H s) (r : RelV x v) (ty : tyX X.K T x H) : s.TypeIs v T ∧ ∀ a, v = .ref a → ∃ ob, s.heap.get? a = some ob ∧ ob.dict = none := by
  rcases ty with ty | ⟨rfl, p, o, xs, rfl, hp, hd⟩
  · exact tyV_is I r ty
  · cases r
    obtain ⟨h1, _, its, _, o', e', c', n, d'⟩ := I.hok p _ hp
    rw [h1] at e'
    cases e'
    exact ⟨⟨_, h1, c'⟩, fun a e => by cases e; exact ⟨_, h1, hd⟩⟩
theorem pe_bx0 {X : Cx} {o : Expr} {to : TE} {name : Str} {apos cpos : Pos} {T id : String} {r : V → List V → Hp → VK → Prop} (pa : PlainAttrs T) (slot : Slot T name id) (hty : typeOf (.builtin id) = pure (.type "method_descriptor")) (hm : MtR X id r) (ho : PE X o to)
    (hbase : attributeBase o name X.env (eval o X.env) = eval o X.env) (hl : (apos.endLine == cpos.line) = true) : PE X (.Call (.Attribute o name apos) [] [] cpos) (fun σ H Q => to σ H fun x H1 => tyX X.K T x H1 ∧ r x [] H1 Q) := ⟨fun pins s σ H Q I h => by
  refine wpAny_Call_method0_late hbase hl (thn (ho.run pins s σ H _ I h) fun v s1 ⟨x, H1, I1, r1, ty, q1⟩ => ?_)
  obtain ⟨t1, t2⟩ := tyX_is I1 r1 ty
  exact ⟨T, id, pa, slot, hty, t1, t2, Calls.callWith_builtin rfl (PySem.evalArgs_none (hm pins s1 σ H1 x [] v [] Q I1 r1 .nil q1))⟩⟩
theorem pe_bx {X : Cx} {o e : Expr} {es : List Expr} {to : TE} {t : TA} {name : Str} {apos cpos : Pos} {T id : String} {r : V → List V → Hp → VK → Prop} (pa : PlainAttrs T) (slot : Slot T name id) (hty : typeOf (.builtin id) = pure (.type "method_descriptor")) (hm : MtR X id r) (ho : PE X o to) (ha : PA X (e :: es) t)
    (hbase : attributeBase o name X.env (eval o X.env) = eval o X.env)
    (few : ((backTo cpos (starEach (e :: es) X.env)).all (fun x => !x.1) && (backToKw cpos (keywordEach [] X.env)).all (fun x => x.1.isSome) && decide ((e :: es).length + ([] : List Keyword).length + (if ([] : List Keyword).isEmpty then 0 else 1) < 30)) = true)
    (hl : (apos.endLine == cpos.line) = true) (hs : starEach (e :: es) X.env = (false, eval e X.env) :: starEach es X.env) (hplain : (backTo cpos (starEach es X.env)).any (·.1) = false) :
    PE X (.Call (.Attribute o name apos) (e :: es) [] cpos) (fun σ H Q => to σ H fun x H1 => tyX X.K T x H1 ∧ t σ H1 fun xs H2 => r x xs H2 Q) := ⟨fun pins s σ H Q I h => by
  refine wpAny_Call_method_late hbase few hl rfl (thn (ho.run pins s σ H _ I h) fun v s1 ⟨x, H1, I1, r1, ty, q1⟩ => ?_)
  obtain ⟨t1, t2⟩ := tyX_is I1 r1 ty
  refine ⟨T, id, pa, slot, hty, t1, t2, ?_⟩
  have run := ha.run cpos pins s1 σ H1 _ I1 q1
  rw [hs] at run ⊢
  refine Calls.callWith_builtin (by show (false || (backTo cpos (starEach es X.env)).any (·.1)) = false; rw [hplain] <;> rfl) (Calls.evalArgs_plain (thn run fun us s2 ⟨vs, H2, I2, r2, q2⟩ => ?_))
  exact hm pins s2 σ H2 x vs v us Q I2 r1 r2 q2⟩
theorem se_met0 {m : Mt} {o : Expr} {apos : Pos} {wo : WE} (ok : XO0 c X) (hb : baseOk o = true) (hl : (apos.endLine == pos.line) = true) (ho : SE c X W o wo) :
    SE c X W (.Call (.Attribute o m.nm apos) [] [] pos) (fun ρ S Q E => wo ρ S (fun d S1 => m.ty d S1 ∧ m.w d [] S1 Q) E) := by
  refine PE.imp (pe_bx0 m.pa m.slot m.hty (m.ok c 0 X ok) ho (base_ok hb _) hl) fun σ H Q h => ?_
  refine LG.bind (R1 := RepD c) (R2 := RepD c) (w1 := wo) (k := fun d ρ S Q E => m.ty d S ∧ m.w d [] S Q) (t2 := fun x σ H Q => tyX X.K m.T x H ∧ lm c m.w x [] H Q)
    (fun d v σ H Q Z S ρ QD ED R RE rd kk hq hx => ⟨by rw [ok.hK]; exact m.tyok c Z S H d v R rd kk.1, Z, S, d, [], QD, R, rd, rfl, kk.2, hq⟩) h
theorem se_met {m : Mt} {o e : Expr} {es : List Expr} {apos : Pos} {wo : WE} {wl : WA} (ok : XO0 c X) (hb : baseOk o = true) (hl : (apos.endLine == pos.line) = true) (hlen : (e :: es).length < 29) (hs : noStar (e :: es) = true)
    (ho : SE c X W o wo) (ha : SA c X W (e :: es) wl) :
    SE c X W (.Call (.Attribute o m.nm apos) (e :: es) [] pos) (fun ρ S Q E => wo ρ S (fun d S1 => m.ty d S1 ∧ wl ρ S1 (fun ds S2 => m.w d ds S2 Q) E) E) := by
  obtain ⟨h1, h2⟩ := star1 X.env hs
  have few : ((backTo pos (starEach (e :: es) X.env)).all (fun x => !x.1) && (backToKw pos (keywordEach [] X.env)).all (fun x => x.1.isSome)
      && decide ((e :: es).length + ([] : List Keyword).length + (if ([] : List Keyword).isEmpty then 0 else 1) < 30)) = true := by
    rw [star3 X.env pos hs]
    have : decide ((e :: es).length + ([] : List Keyword).length + (if ([] : List Keyword).isEmpty then 0 else 1) < 30) = true := by
      refine decide_eq_true ?_
      show (e :: es).length + 0 + 0 < 30
      omega
    rw [this]
    rfl
  refine PE.imp (pe_bx m.pa m.slot m.hty (m.ok c 0 X ok) ho ha (base_ok hb _) few hl h1 (star2 X.env pos h2)) fun σ H Q h => ?_
  refine LG.bind (R1 := RepD c) (R2 := RepD c) (w1 := wo) (k := fun d ρ S Q E => m.ty d S ∧ wl ρ S (fun ds S2 => m.w d ds S2 Q) E) (t2 := fun x σ H Q => tyX X.K m.T x H ∧ LG c W (RepL c) wl σ H fun xs H2 => lm c m.w x xs H2 Q)
    (fun d v σ H Q Z S ρ QD ED R RE rd kk hq hx => ⟨by rw [ok.hK]; exact m.tyok c Z S H d v R rd kk.1, Z, S, ρ, fun ds S2 => m.w d ds S2 QD, ED, R, RE, kk.2, ?_, hx⟩) h
  intro d2 v2 Z' S' H' l R' r2 q
  exact ⟨Z', S', d, d2, QD, R', RepD.le l.le rd, r2, q, hq.le l⟩
theorem se_emp : SE c X W (.Dict [] [] pos) (wC (.dk [])) :=
  PE.imp pe_dnewK fun σ H Q h => h.pure fun Z S ρ QD ED R RE hw hq hx p hp => by
    obtain ⟨h1, h2⟩ := R.frozen hp (.dK [])
    exact hq (.dk []) (.ref p) _ S _ (Nx.frozen (R.new hp).2 hp _) h2 ⟨p, [], rfl, upd_same, rfl⟩ hw
theorem vals_cons {x : V} {xs : List V} {us : List Value} (h : Vals (x :: xs) us) : ∃ u r, us = u :: r ∧ RelV x u ∧ Vals xs r := by
  cases h with | cons a b => exact ⟨_, _, rfl, a, b⟩
theorem pe_kdget {o e f : Expr} {apos cpos : Pos} {d : Addr} {es : Array DictEntry} {n : Nat} {td : TE} {ta : TA} (D : KDict X.K X.w d es n) (ho : PE X o td) (ha : PA X [e, f] ta)
    (hbase : attributeBase o "get" X.env (eval o X.env) = eval o X.env)
    (hfew : ((backTo cpos (starEach [e, f] X.env)).all (fun x => !x.1) && (backToKw cpos (keywordEach [] X.env)).all (fun x => x.1.isSome)
      && decide (([e, f] : List Expr).length + ([] : List Keyword).length + (if ([] : List Keyword).isEmpty then 0 else 1) < 30)) = true)
    (hline : (apos.endLine == cpos.line) = true) (hs : starEach [e, f] X.env = (false, eval e X.env) :: starEach [f] X.env) (hplain : (backTo cpos (starEach [f] X.env)).any (·.1) = false) :
    PE X (.Call (.Attribute o "get" apos) [e, f] [] cpos) (fun σ H Q => td σ H fun x H1 => x = .ref d ∧ ta σ H1 fun vs H2 => ∃ (z : Str) (y : V) (r : Option Value), vs = [.str z, y] ∧ PySem.W.nsIn X.K d z = some r ∧
      ∃ v, (match r with | some u => RelV v u | none => v = y) ∧ Q v H2) := by
  refine ⟨fun pins s σ H Q I h => ?_⟩
  refine wpAny_Call_method_late hbase hfew hline rfl (thn (ho.run pins s σ H _ I h) fun v s1 ⟨x, H1, I1, r1, ex, q1⟩ => ?_)
  subst ex
  obtain rfl : v = Value.ref d := r1
  have hm1 := PySem.W.mapOf_K (prog := X.prog) (w := X.w) I1.kIn D.at_ D.lit
  refine ⟨"dict", "dict.get", PySem.F.plainAttrs_dict, PySem.F.slot_dict_get, PySem.F.type_dict_get, hm1.typeIs, hm1.noDict, ?_⟩
  have hA := ha.run cpos pins s1 σ H1 _ I1 q1
  rw [hs] at hA ⊢
  refine Calls.callWith_builtin (by show (false || (backTo cpos (starEach [f] X.env)).any (·.1)) = false; rw [hplain] <;> rfl) (Calls.evalArgs_plain ?_)
  refine thn hA fun us s2 ⟨vs, H2, I2, r2, z, y, r, e1, e2, v, e3, q2⟩ => ?_
  subst e1
  obtain ⟨u, us, ex, r1, r2⟩ := vals_cons r2
  obtain ⟨u', us, ex', r1', r2⟩ := vals_cons r2
  cases r2
  subst ex'
  subst ex
  obtain ⟨t, rfl⟩ := r1
  have hm2 := PySem.W.mapOf_K (prog := X.prog) (w := X.w) I2.kIn D.at_ D.lit
  refine call_meetsIn PySem.F.slot_dict_get hm2.typeIs PySem.F.entry_dict_get (PySem.F.args_dict_get_3 _ _ _) (meets_dict_get_default (PySem.strKind X.prog X.w) d (PySem.strKind_is X.prog X.w z t) D.low u') ⟨_, hm2, ?_⟩
  rw [PySem.W.find_K D.at_ e2]
  cases r with
  | some u => exact ⟨v, H2, I2.tok _, e3, q2⟩
  | none => subst e3; exact ⟨v, H2, I2.tok _, r1', q2⟩
def dgW (kvs : List (Str × D)) (Q : QE) (ds : List D) (S : Store) : Prop := match ds with
  | [x, y] => (match x with
    | .str z => Q ((kvs.lookup z).getD y) S
    | _ => False)
  | _ => False
theorem dgW_inv {kvs : List (Str × D)} {Q : QE} {S : Store} : ∀ {ds : List D}, dgW kvs Q ds S → ∃ z y, ds = [.str z, y] ∧ Q ((kvs.lookup z).getD y) S := by
  intro ds h
  unfold dgW at h
  split at h
  · split at h
    · exact ⟨_, _, rfl, h⟩
    · exact h.elim
  · exact h.elim
theorem se_dget {x : Str} {kvs : List (Str × D)} {u v : Expr} {px apos : Pos} {wa wb : WE} (ok : XOk c k X) (hg : Gl X x) (hn : okN x = true) (hb : baseOk (.Name x px) = true) (hl : (apos.endLine == pos.line) = true) (hs : noStar [u, v] = true) (kd : KDct c (rn X) x kvs) (ha : SE c X W u wa) (hb' : SE c X W v wb) :
    SE c X W (.Call (.Attribute (.Name x px) "get" apos) [u, v] [] pos) (fun ρ S Q E => wa ρ S (fun x S1 => wb ρ S1 (fun y S2 => match x with
      | .str z => Q ((kvs.lookup z).getD y) S2
      | _ => False) E) E) := by
  obtain ⟨d, es, n, hm, D, hz⟩ := kd
  obtain ⟨h1, h2⟩ := star1 X.env hs
  obtain ⟨h1', _⟩ := star1 X.env h2
  have few : ((backTo pos (starEach [u, v] X.env)).all (fun x => !x.1) && (backToKw pos (keywordEach [] X.env)).all (fun x => x.1.isSome)
      && decide (([u, v] : List Expr).length + ([] : List Keyword).length + (if ([] : List Keyword).isEmpty then 0 else 1) < 30)) = true := by
    rw [star3 X.env pos hs]; rfl
  refine PE.imp (pe_kdget D (pe_glob (v := .ref d) hg hm rfl (ok1 hn)) (sa_cons ha (sa_cons hb' sa_nil h1') h1) (base_ok hb _) few hl h1 (star2 X.env pos h2)) fun σ H Q h => ?_
  refine ⟨rfl, ?_⟩
  obtain ⟨Z, S, ρ, QD, ED, R, RE, hw, hq, hx⟩ := h
  refine ⟨Z, S, ρ, dgW kvs QD, ED, R, RE, hw, ?_, hx⟩
  rintro ds vs Z' S' H' l R' rl q
  obtain ⟨z, y, rfl, q'⟩ := dgW_inv q
  clear q
  obtain ⟨v1, r1, rfl, e1, vy, r2, rfl, e2, e3⟩ := rl
  cases e1
  cases e3
  obtain ⟨r, hr, hy⟩ := hz z
  cases r with
  | some u =>
    obtain ⟨v, y', ru, hk, rd⟩ := hy
    rw [hk] at q'
    exact ⟨z, vy, _, rfl, hr, v, ru, hq _ _ _ _ _ l R' (rd Z') q'⟩
  | none =>
    have hy : kvs.lookup z = none := hy
    rw [hy] at q'
    exact ⟨z, vy, _, rfl, hr, vy, rfl, hq _ _ _ _ _ l R' e2 q'⟩
theorem RepF.get {Z : Hp} {i : Nat} (hi : ∀ j, c.nm j = c.nm i → j = i) : ∀ {fs : List (Nat × D)} {vfs : List (Str × V)} {K : D → Prop}, RepF c Z fs vfs → wGet i fs K → ∃ d v, vfs.lookup (c.nm i) = some v ∧ RepD c Z d v ∧ K d
  | [], _, _, _, h => h.elim
  | (j, d) :: fs, _, K, r, h => by
    obtain ⟨v, t, rfl, q, r⟩ := r
    unfold wGet at h
    by_cases e : j = i
    · subst e
      rw [if_pos rfl] at h
      exact ⟨d, v, by simp [List.lookup_cons], q, h⟩
    · rw [if_neg e] at h
      obtain ⟨d', v', h1, h2, h3⟩ := RepF.get hi r h
      refine ⟨d', v', ?_, h2, h3⟩
      have : (c.nm i == c.nm j) = false := by
        rw [beq_eq_false_iff_ne]
        intro z; exact e (hi j z.symm)
      rw [List.lookup_cons, this]
      exact h1
theorem RepF.put {Z : Hp} {i : Nat} {d : D} {v : V} (hi : ∀ j, c.nm j = c.nm i → j = i) (q : RepD c Z d v) : ∀ {fs : List (Nat × D)} {vfs : List (Str × V)}, RepF c Z fs vfs → RepF c Z (putN i d fs) (putF (c.nm i) v vfs)
  | [], _, r => by cases r; exact ⟨v, [], rfl, q, rfl⟩
  | (j, x) :: fs, _, r => by
    obtain ⟨w, t, rfl, p, r⟩ := r
    unfold putN putF
    by_cases e : j = i
    · subst e
      rw [if_pos rfl, if_pos rfl]
      exact ⟨v, t, rfl, q, r⟩
    · rw [if_neg e, if_neg (fun z => e (hi j z))]
      exact ⟨w, _, rfl, p, RepF.put hi q r⟩
theorem RepF.length {Z : Hp} : ∀ {fs : List (Nat × D)} {vfs : List (Str × V)}, RepF c Z fs vfs → vfs.length = fs.length
  | [], _, r => by cases r; rfl
  | (j, x) :: fs, _, r => by obtain ⟨w, t, rfl, p, r⟩ := r; simp [RepF.length r]
theorem fld_of {cl : Nat} {Z : Hp} {S : Store} {H : Hp} {d : D} {v : V} {K : List (Nat × D) → Prop} (R : Rel c Z S H) (r : RepD c Z d v) (h : wFld cl d S K) : ∃ a C dx vfs fs, v = .ref a ∧ c.cn cl = some C ∧ H a = some (.ins C dx vfs) ∧ RepF c Z fs vfs ∧ K fs := by
  cases d with
  | obj k fs =>
    obtain ⟨a, C, dx, vfs, rfl, hc, hz, rf⟩ := r
    obtain ⟨rfl, h⟩ := h
    exact ⟨a, C, dx, vfs, fs, rfl, hc, R.fz _ _ hz, rf, h⟩
  | ref a =>
    cases r
    obtain ⟨fs, e, h⟩ := h
    obtain ⟨_, o, q, C, dx, vfs, rfl, hc, rf⟩ := R.cl a _ e
    exact ⟨a, C, dx, vfs, fs, rfl, hc, q, rf, h⟩
  | _ => exact h.elim
theorem se_att {cl i : Nat} {o : Expr} {wo : WE} (ok : XOk c k X) (hb : baseOk o = true) (ka : KAtt c (rn X) cl i) (ho : SE c X W o wo) :
    SE c X W (.Attribute o (c.nm i) pos) (fun ρ S Q E => wo ρ S (fun d S1 => wFld cl d S1 fun fs => wGet i fs fun x => Q x S1) E) :=
  PE.imp (pe_fld ho (base_ok hb _)) fun σ H Q h => by
    obtain ⟨C0, hC, hcl, hno, hi⟩ := ka
    refine LG.bind (R1 := RepD c) (R2 := RepD c) (w1 := wo) (k := fun d ρ S Q E => wFld cl d S fun fs => wGet i fs fun x => Q x S)
      (t2 := fun x σ H Q => ∃ p C dx fs v, x = V.ref p ∧ H p = some (.ins C dx fs) ∧ Cls X.K C ∧ NoAttr X.K C (c.nm i) ∧ fs.lookup (c.nm i) = some v ∧ Q v H) (fun d v σ H Q Z S ρ QD ED R RE rd kk hq hx => ?_) h
    obtain ⟨a, C, dx, vfs, fs, rfl, hc, hH, rf, kk⟩ := fld_of R rd kk
    rw [hC] at hc; cases hc
    obtain ⟨d', v', h1, h2, h3⟩ := RepF.get hi rf kk
    exact ⟨a, C0, dx, vfs, v', rfl, hH, hcl, hno, h1, hq.go R h2 h3⟩
theorem bol_of {wa : WE} {σ : L2.St} {H : Hp} {Q : Bool → Hp → Prop} (h : LG c W SEq (bolW wa) σ H Q) : LG c W (RepD c) wa σ H fun x H' => ∃ k, x = .bl k ∧ Q k H' := by
  refine LG.bind (R1 := RepD c) (R2 := SEq) (w1 := wa) (k := fun x ρ S Q E => bolD x fun b => Q b S) (t2 := fun x σ H Q => ∃ k, x = .bl k ∧ Q k H) (fun d v σ H Q Z S ρ QD ED R RE rd kk hq hx => ?_) h
  cases d with
  | bl b => cases rd; exact ⟨b, rfl, hq.go R rfl kk⟩
  | _ => exact kk.elim
theorem st_cmp {o : Cm2} {a b : Expr} {wa wb : WE} (ok : XO0 c X) (hm : behindInMarks o.op b = false) (ha : SE c X W a wa) (hb : SE c X W b wb) :
    ST c X W (.Compare a [o.op] [b] pos) (bolW (fun ρ S Q E => wa ρ S (fun x S1 => wb ρ S1 (fun y S2 => o.w x y S2 Q) E) E)) :=
  PT.imp (pt_cmpR (o.ok c 0 X ok) ha hb hm) fun σ H Q h => two (fun _ _ _ _ z => z) (bol_of h)
theorem st_cmpG {op : CmpOp} {w : D → D → Store → QE → Prop} {a b : Expr} {wa wb : WE} (hop : OpR X (compareOp op) (l2 c w)) (hm : behindInMarks op b = false) (ha : SE c X W a wa) (hb : SE c X W b wb) :
    ST c X W (.Compare a [op] [b] pos) (bolW (fun ρ S Q E => wa ρ S (fun x S1 => wb ρ S1 (fun y S2 => w x y S2 Q) E) E)) :=
  PT.imp (pt_cmpR hop ha hb hm) fun σ H Q h => two (fun _ _ _ _ z => z) (bol_of h)
theorem chain_of {o o' : Cm2} {wa wb wd : WE} {σ : L2.St} {H : Hp} {Q : VK}
    (h : LG c W (RepD c) (fun ρ S Q E => wa ρ S (fun x S1 => wb ρ S1 (fun y S2 => o.w x y S2 (fun z S3 => ∃ t, z = .bl t ∧ if t = true then wd ρ S3 (fun u S4 => o'.w y u S4 Q) E else Q (.bl false) S3)) E) E) σ H Q) :
    tChain (l2 c o.w) (l2 c o'.w) (LG c W (RepD c) wa) (LG c W (RepD c) wb) (LG c W (RepD c) wd) σ H Q := by
    obtain ⟨Z, S, ρ, QD, ED, R, RE, hw, hq, hx⟩ := h
    refine ⟨Z, S, ρ, _, ED, R, RE, hw, fun dx x Z1 S1 H1 l1 R1 rx kk => ?_, hx⟩
    refine ⟨Z1, S1, ρ, _, ED, R1, RE.le l1.le, kk, fun dy y Z2 S2 H2 l2' R2 ry kk => ?_, hx.le l1⟩
    refine ⟨Z2, S2, dx, dy, _, R2, RepD.le l2'.le rx, ry, kk, fun dz z Z3 S3 H3 l3 R3 rz kk => ?_⟩
    obtain ⟨t, rfl, kk⟩ := kk
    cases rz
    refine ⟨t, rfl, ?_⟩
    by_cases ht : t = true
    · rw [if_pos ht] at kk ⊢
      refine ⟨Z3, S3, ρ, _, ED, R3, RE.le ((l1.trans l2').trans l3).le, kk, fun du u Z4 S4 H4 l4 R4 ru kk => ?_, hx.le ((l1.trans l2').trans l3)⟩
      exact ⟨Z4, S4, dy, du, QD, R4, RepD.le (l3.trans l4).le ry, ru, kk, hq.le (((l1.trans l2').trans l3).trans l4)⟩
    · rw [if_neg ht] at kk ⊢
      exact (hq.le ((l1.trans l2').trans l3)).go R3 (d := .bl false) rfl kk
theorem se_chain {o o' : Cm2} {a b d : Expr} {wa wb wd : WE} (ok : XOk c k X) (hm : lastMarks [o.op, o'.op] [b, d] = false) (ha : SE c X W a wa) (hb : SE c X W b wb) (hd : SE c X W d wd) :
    SE c X W (.Compare a [o.op, o'.op] [b, d] pos) (fun ρ S Q E => wa ρ S (fun x S1 => wb ρ S1 (fun y S2 => o.w x y S2 (fun z S3 => ∃ t, z = .bl t ∧ if t = true then wd ρ S3 (fun u S4 => o'.w y u S4 Q) E else Q (.bl false) S3)) E) E) :=
  PE.imp (pe_chain (o.ok c k X ok.o) (o'.ok c k X ok.o) ha hb hd hm) fun σ H Q h => chain_of h
theorem st_chain {o o' : Cm2} {a b d : Expr} {wa wb wd : WE} (ok : XOk c k X) (hm : lastMarks [o.op, o'.op] [b, d] = false) (ha : SE c X W a wa) (hb : SE c X W b wb) (hd : SE c X W d wd) :
    ST c X W (.Compare a [o.op, o'.op] [b, d] pos) (bolW (fun ρ S Q E => wa ρ S (fun x S1 => wb ρ S1 (fun y S2 => o.w x y S2 (fun z S3 => ∃ t, z = .bl t ∧ if t = true then wd ρ S3 (fun u S4 => o'.w y u S4 Q) E else Q (.bl false) S3)) E) E)) :=
  PT.imp (pt_chain (o.ok c k X ok.o) (o'.ok c k X ok.o) ha hb hd hm) fun σ H Q h => chain_of (bol_of h)
def SO (c : Ctx) (X : Cx) (W : WX) (e : Option Expr) (w : Env → Store → (Option Int → Store → Prop) → QX → Prop) : Prop := PO X e (LG c W (fun _ a b => a = b) w)
theorem so_none : SO c X W none (fun _ S Q _ => Q none S) := ⟨fun pins s σ H Q I q => po_none.run pins s σ H Q I (q.pure fun Z S ρ QD ED R RE hw hq hx => hq.go R rfl hw)⟩
theorem so_some {e : Expr} {we : WE} (he : SE c X W e we) : SO c X W (some e) (fun ρ S Q E => we ρ S (fun d S1 => wInt d fun i => Q (some i) S1) E) :=
  ⟨fun pins s σ H Q I q => (po_some he).run pins s σ H Q I (by
    refine LG.bind (R1 := RepD c) (R2 := fun _ a b => a = b) (w1 := we) (k := fun d ρ S Q E => wInt d fun i => Q (some i) S) (t2 := fun x σ H Q => ∃ i, x = .int i ∧ Q (some i) H) (fun d v σ H Q Z S ρ QD ED R RE rd kk hq hx => ?_) q
    cases d with
    | int i => cases rd; exact ⟨i, rfl, hq.go R rfl kk⟩
    | _ => exact kk.elim)⟩
theorem se_rev {a : Expr} {wa : WE} {j : Nat} {p1 p2 p3 : Pos} (ok : XOk c k X) (ha : SE c X W a wa) :
    SE c X W (.Subscript a (.Slice none none (some (.UnaryOp .USub (.Constant (.int 1) j p1) p2)) p3) pos) (fun ρ S Q E => wa ρ S (fun x S1 => wRev x S1 Q) E) :=
  PE.imp (pe_rev ha) fun σ H Q h => by
    obtain ⟨Z, S, ρ, QD, ED, R, RE, hw, hq, hx⟩ := h
    refine ⟨Z, S, ρ, _, ED, R, RE, hw, fun dx x Z1 S1 H1 l1 R1 rx kk => ?_, hx⟩
    have lists : ∀ l, lstOf S1 dx = some l → newL false l.reverse S1 QD → (∃ a xs, x = .ref a ∧ SqT X.K H1 a xs ∧ ∀ p, H1 p = none → Q (.ref p) (upd H1 p (.tup xs.reverse))) ∨ (∃ a xs, x = .ref a ∧ SqL X.K H1 a xs ∧ ∀ p, H1 p = none → Q (.ref p) (upd H1 p (.lst xs.reverse))) ∨ ∃ z, x = .str z ∧ (revS z).length ≤ sizeLine ∧ Q (.str (revS z)) H1 := fun l e hw => by
      obtain ⟨a, vs, rfl, q, r⟩ := lstOf_ok R1 rx e
      exact .inr (.inl ⟨a, vs, rfl, by rw [ok.hK]; exact q, fun p hp => newL_ok hw R1 (hq.le l1) r.reverse hp⟩)
    cases dx with
    | str z => cases rx; exact .inr (.inr ⟨z, rfl, kk.1, (hq.le l1).go R1 (d := .str (revS z)) rfl kk.2⟩)
    | tup l =>
      obtain ⟨a, vs, rfl, q, r⟩ := rx
      refine .inl ⟨a, vs, rfl, by rw [ok.hK]; exact SqT.le R1.fz q, fun p hp => ?_⟩
      obtain ⟨h1, h2⟩ := R1.frozen hp (.tup vs.reverse)
      exact (hq.le l1) (.tup l.reverse) (.ref p) _ S1 _ (Nx.frozen (R1.new hp).2 hp _) h2 ⟨p, _, rfl, SqT.of upd_same, RepL.le h1 r.reverse⟩ kk
    | fl l => exact lists l rfl kk
    | kl l => exact lists l rfl kk
    | ref a =>
      obtain ⟨l, e, hw⟩ := kk
      exact lists l (by simp [lstOf, e]) hw
    | _ => exact kk.elim
theorem RepL.drop' {c : Ctx} {Z : Hp} : ∀ (j : Nat) {l : List D} {vs : List V}, RepL c Z l vs → RepL c Z (l.drop j) (vs.drop j)
  | 0, _, _, h => h
  | _ + 1, [], _, h => by cases h; rfl
  | j + 1, d :: ds, _, h => by
    obtain ⟨v, r, rfl, _, h⟩ := h
    exact RepL.drop' j h
theorem RepL.ev {c : Ctx} {Z : Hp} : ∀ {l : List D} {vs : List V}, RepL c Z l vs → RepL c Z (evL l) (evL vs)
  | [], _, h => by cases h; rfl
  | [d], _, h => by
    obtain ⟨v, r, rfl, h1, h⟩ := h
    cases h
    exact ⟨v, [], rfl, h1, rfl⟩
  | d :: e :: l, _, h => by
    obtain ⟨v, r, rfl, h1, h⟩ := h
    obtain ⟨w, r, rfl, h2, h⟩ := h
    exact ⟨v, evL r, rfl, h1, RepL.ev h⟩
theorem se_stp {a : Expr} {wa : WE} {j k1 k2 : Nat} {p1 p2 p3 : Pos} (ok : XOk c k X) (ha : SE c X W a wa) :
    SE c X W (.Subscript a (.Slice (some (.Constant (.int (j : Int)) k1 p1)) none (some (.Constant (.int 2) k2 p2)) p3) pos) (fun ρ S Q E => wa ρ S (fun x S1 => wStp j x S1 Q) E) :=
  PE.imp (pe_stpL ha) fun σ H Q h => by
    obtain ⟨Z, S, ρ, QD, ED, R, RE, hw, hq, hx⟩ := h
    refine ⟨Z, S, ρ, _, ED, R, RE, hw, fun dx x Z1 S1 H1 l1 R1 rx kk => ?_, hx⟩
    obtain ⟨l, e, hw⟩ := kk
    obtain ⟨a, vs, rfl, q, r⟩ := lstOf_ok R1 rx e
    exact ⟨a, vs, rfl, by rw [ok.hK]; exact q, fun p hp => newL_ok (m := false) hw R1 (hq.le l1) (r.drop' j).ev hp⟩
theorem se_slc {o : Sl} {a : Expr} {lo hi : Option Expr} {wa : WE} {wl wh : Env → Store → (Option Int → Store → Prop) → QX → Prop} {p2 : Pos} (ok : XOk c k X) (ha : SE c X W a wa) (hl : SO c X W lo wl) (hh : SO c X W hi wh) :
    SE c X W (.Subscript a (.Slice lo hi none p2) pos) (fun ρ S Q E => wa ρ S (fun x S1 => wl ρ S1 (fun l S2 => wh ρ S2 (fun h S3 => o.w x l h S3 Q) E) E) E) :=
  PE.imp (pe_slice (o.ok c k X ok.o) ha hl hh) fun σ H Q h => by
    obtain ⟨Z, S, ρ, QD, ED, R, RE, hw, hq, hx⟩ := h
    refine ⟨Z, S, ρ, _, ED, R, RE, hw, fun dx x Z1 S1 H1 l1 R1 rx kk => ?_, hx⟩
    refine ⟨Z1, S1, ρ, _, ED, R1, RE.le l1.le, kk, fun i i' Z2 S2 H2 l2' R2 ei kk => ?_, hx.le l1⟩
    cases ei
    refine ⟨Z2, S2, ρ, _, ED, R2, RE.le (l1.trans l2').le, kk, fun j j' Z3 S3 H3 l3 R3 ej kk => ?_, hx.le (l1.trans l2')⟩
    cases ej
    exact ⟨Z3, S3, dx, QD, R3, RepD.le (l2'.trans l3).le rx, kk, hq.le ((l1.trans l2').trans l3)⟩
end
end L3
set_option maxHeartbeats 2000000
namespace L3
open PySem PySem.Spec PyProof.Rows L2
section
variable {X : Cx} {C g : Addr} {f : Str}
theorem pmk_x {x : Str} {a : Expr} {ta : TA} {p pos : Pos} {k : Nat} (T : OwnX X.K C g f) (gC : X.mg x = some (.ref C)) (hr : Room k X.A) (ha : PA X [a] ta) (hg : Gl X x) (hd : (x == ("__debug__" : Str)) = false)
    (hn : noStar [a] = true) :
    PMk X (.Call (.Name x p) [a] [] pos) (fun σ H Q => ta σ H fun vs H1 => ∃ v, vs = [v] ∧ ∀ d, H1 d = none → Q (.ref C) (some d) (upd H1 d (.xd [(f, v)]))) := by
  intro pins s σ H Q I h
  refine wpAny_Call_Name_kw (ld_glob I hg gC ?_ hd)
  refine PySem.W.callWith_K (h₀ := X.base) I.ok.mod.kin T.kC (thn (ha.run pos pins s σ H (fun vs H1 => ∃ v, vs = [v] ∧ ∀ d, H1 d = none → Q (.ref C) (some d) (upd H1 d (.xd [(f, v)]))) I ?_) fun us s1 hh => ?_) ?_ ?_
  · exact h
  · obtain ⟨vs, H1, I1, r1, v, ev, q1⟩ := hh
    subst ev
    refine ⟨I1.kIn, ?_⟩
    cases r1 with
    | cons rv rn =>
      rename_i v' us'
      cases rn
      show wpAny _ _ (call (.ref C) [v']) _ _ _
      have lim := I1.nolimit
      obtain ⟨hp, gs, dr, tk, os⟩ := s1
      refine wpAny_call (xmade T I1.kIn lim (by have := hr.b.dp; omega) fun h' tk' e d M => ?_)
      show MkP X pins σ Q (.ref e) ⟨h', gs, dr, tk', os⟩
      obtain ⟨oe, fv, hoe, hc, hdd, hdat, h1⟩ := M.at_
      obtain ⟨G', g1, g2⟩ := restrict h' fun b => decide (b ≠ e)
      have same : ∀ b, b ≠ e → G'.get? b = h'.get? b := fun b hb => g1 b (decide_eq_true hb)
      have gone : G'.get? e = none := g2 e (by simp)
      have old : ∀ b o, hp.get? b = some o → G'.get? b = some o := fun b o q => (same b (Nat.ne_of_lt (Nat.lt_of_lt_of_le (Heap.lt_size q) M.new))).trans (M.old b o q)
      have ob : ObjOk X.prog X.w (upd H1 d (.xd [(f, v)])) G' d (.xd [(f, v)]) := ⟨_, M.ns.at (fun o q => (same d M.ne).trans q), fun y => relO_x rv y⟩
      have J : Inv X pins σ (upd H1 d (.xd [(f, v)])) ⟨G', gs, dr, tk', os⟩ := I1.laid (t' := tk') old M.big ob
      refine ⟨e, oe, fv, ⟨G', gs, dr, tk', os⟩, _, .ref C, some d, rfl, J, fun b o q => ?_, gone, hoe, ⟨hc, hdd⟩, hdat, h1, ?_, rfl, I1.bare, raises_own T.sub T.ty, q1 d (I1.hok.fresh M.big)⟩
      · by_cases hb : b = e
        · have q' : G'.get? b = some o := q
          rw [hb, gone] at q'; cases q'
        · exact (same b hb).symm.trans q
      · rw [upd_ne (Ne.symm M.ne)]
        exact I1.hok.fresh M.new
  · exact (star1 X.env hn).1
  · exact star2 X.env pos rfl
end
end L3
set_option maxHeartbeats 1000000
namespace L3
open PySem PySem.Spec PyProof.Rows L2
mutual
def nox : D → Bool
  | .tup l => noxL l
  | .fl l => noxL l
  | .kl l => noxL l
  | .ptup l => noxL l
  | .obj _ fs => noxF fs
  | .dk l => noxK l
  | .di l => noxI l
  | .exc _ _ => false
  | .exv _ fs => noxF fs
  | .non => true
  | .bl _ => true
  | .int _ => true
  | .str _ => true
  | .ref _ => true
  | .ty _ => true
  | .cls _ => true
def noxL : List D → Bool
  | [] => true
  | d :: r => nox d && noxL r
def noxF : List (Nat × D) → Bool
  | [] => true
  | (_, d) :: r => nox d && noxF r
def noxK : List (Str × D) → Bool
  | [] => true
  | (_, d) :: r => nox d && noxK r
def noxI : List (Int × D) → Bool
  | [] => true
  | (_, d) :: r => nox d && noxI r
end
def noxC : Cell → Bool
  | .lst l => noxL l
  | .ins _ fs => noxF fs
  | .dct l => noxK l
structure CvOk (c c' : Ctx) : Prop where
  K : c.K = c'.K
  nm : c.nm = c'.nm
  cn : c.cn = c'.cn
  tabs : c.tabs = c'.tabs
section
variable {c c' : Ctx} {Z : Hp}
mutual
theorem RepD.cv (h : CvOk c c') : ∀ {d : D} {v : V}, nox d = true → RepD c Z d v → RepD c' Z d v
  | .non, _, _, r => r
  | .bl _, _, _, r => r
  | .int _, _, _, r => r
  | .str _, _, _, r => r
  | .tup l, _, n, r => by
    obtain ⟨a, vs, e, q, r⟩ := r
    exact ⟨a, vs, e, by rw [← h.K]; exact q, RepL.cv h n r⟩
  | .fl l, _, n, r => by
    obtain ⟨a, vs, e, q, r⟩ := r
    exact ⟨a, vs, e, q, RepL.cv h n r⟩
  | .kl l, _, n, r => by
    obtain ⟨a, vs, e, q, r⟩ := r
    exact ⟨a, vs, e, by rw [← h.K]; exact q, RepL.cv h n r⟩
  | .ptup l, _, n, r => by
    obtain ⟨a, vs, o, e, q, z, r⟩ := r
    exact ⟨a, vs, o, e, q, z, RepL.cv h n r⟩
  | .obj k fs, _, n, r => by
    obtain ⟨a, C, dx, vfs, e, q, z, r⟩ := r
    exact ⟨a, C, dx, vfs, e, by rw [← h.cn]; exact q, z, RepF.cv h n r⟩
  | .dk l, _, n, r => by
    obtain ⟨a, kvs, e, q, r⟩ := r
    exact ⟨a, kvs, e, q, RepK.cv h n r⟩
  | .di l, _, n, r => by
    obtain ⟨a, kvs, e, q, r⟩ := r
    exact ⟨a, kvs, e, q, RepI.cv h n r⟩
  | .ref _, _, _, r => r
  | .ty _, _, _, r => r
  | .cls k, _, _, r => by
    obtain ⟨C, q, e⟩ := r
    exact ⟨C, by rw [← h.cn]; exact q, e⟩
  | .exc _ _, _, n, _ => by cases n
  | .exv k fs, _, n, r => by
    obtain ⟨a, C, vfs, e, q, r, z⟩ := r
    exact ⟨a, C, vfs, e, by rw [← h.cn]; exact q, RepF.cv h n r, z⟩
theorem RepL.cv (h : CvOk c c') : ∀ {l : List D} {vs : List V}, noxL l = true → RepL c Z l vs → RepL c' Z l vs
  | [], _, _, r => r
  | d :: ds, _, n, r => by
    obtain ⟨v, t, e, q, r⟩ := r
    simp only [noxL, Bool.and_eq_true] at n
    exact ⟨v, t, e, RepD.cv h n.1 q, RepL.cv h n.2 r⟩
theorem RepF.cv (h : CvOk c c') : ∀ {l : List (Nat × D)} {vs : List (Str × V)}, noxF l = true → RepF c Z l vs → RepF c' Z l vs
  | [], _, _, r => r
  | (k, d) :: ds, _, n, r => by
    obtain ⟨v, t, e, q, r⟩ := r
    simp only [noxF, Bool.and_eq_true] at n
    exact ⟨v, t, by rw [← h.nm]; exact e, RepD.cv h n.1 q, RepF.cv h n.2 r⟩
theorem RepK.cv (h : CvOk c c') : ∀ {l : List (Str × D)} {vs : List (Key × V)}, noxK l = true → RepK c Z l vs → RepK c' Z l vs
  | [], _, _, r => r
  | (k, d) :: ds, _, n, r => by
    obtain ⟨v, t, e, q, r⟩ := r
    simp only [noxK, Bool.and_eq_true] at n
    exact ⟨v, t, e, RepD.cv h n.1 q, RepK.cv h n.2 r⟩
theorem RepI.cv (h : CvOk c c') : ∀ {l : List (Int × D)} {vs : List (Key × V)}, noxI l = true → RepI c Z l vs → RepI c' Z l vs
  | [], _, _, r => r
  | (k, d) :: ds, _, n, r => by
    obtain ⟨v, t, e, q, r⟩ := r
    simp only [noxI, Bool.and_eq_true] at n
    exact ⟨v, t, e, RepD.cv h n.1 q, RepI.cv h n.2 r⟩
end
mutual
theorem RepD.nox (h : c.pin = none) : ∀ {d : D} {v : V}, RepD c Z d v → nox d = true
  | .non, _, _ => rfl
  | .bl _, _, _ => rfl
  | .int _, _, _ => rfl
  | .str _, _, _ => rfl
  | .tup l, _, ⟨_, _, _, _, r⟩ => RepL.nox h r
  | .fl l, _, ⟨_, _, _, _, r⟩ => RepL.nox h r
  | .kl l, _, ⟨_, _, _, _, r⟩ => RepL.nox h r
  | .ptup l, _, ⟨_, _, _, _, _, _, r⟩ => RepL.nox h r
  | .obj k fs, _, ⟨_, _, _, _, _, _, _, r⟩ => RepF.nox h r
  | .dk l, _, ⟨_, _, _, _, r⟩ => RepK.nox h r
  | .di l, _, ⟨_, _, _, _, r⟩ => RepI.nox h r
  | .ref _, _, _ => rfl
  | .ty _, _, _ => rfl
  | .cls _, _, _ => rfl
  | .exc _ _, _, ⟨_, _, _, _, _, _, _, _, z, _⟩ => by rw [h] at z; cases z
  | .exv k fs, _, ⟨_, _, _, _, _, r, _⟩ => RepF.nox h r
theorem RepL.nox (h : c.pin = none) : ∀ {l : List D} {vs : List V}, RepL c Z l vs → noxL l = true
  | [], _, _ => rfl
  | d :: ds, _, ⟨_, _, _, q, r⟩ => by
    simp only [noxL, Bool.and_eq_true]
    exact ⟨RepD.nox h q, RepL.nox h r⟩
theorem RepF.nox (h : c.pin = none) : ∀ {l : List (Nat × D)} {vs : List (Str × V)}, RepF c Z l vs → noxF l = true
  | [], _, _ => rfl
  | (_, d) :: ds, _, ⟨_, _, _, q, r⟩ => by
    simp only [noxF, Bool.and_eq_true]
    exact ⟨RepD.nox h q, RepF.nox h r⟩
theorem RepK.nox (h : c.pin = none) : ∀ {l : List (Str × D)} {vs : List (Key × V)}, RepK c Z l vs → noxK l = true
  | [], _, _ => rfl
  | (_, d) :: ds, _, ⟨_, _, _, q, r⟩ => by
    simp only [noxK, Bool.and_eq_true]
    exact ⟨RepD.nox h q, RepK.nox h r⟩
theorem RepI.nox (h : c.pin = none) : ∀ {l : List (Int × D)} {vs : List (Key × V)}, RepI c Z l vs → noxI l = true
  | [], _, _ => rfl
  | (_, d) :: ds, _, ⟨_, _, _, q, r⟩ => by
    simp only [noxI, Bool.and_eq_true]
    exact ⟨RepD.nox h q, RepI.nox h r⟩
end
theorem RepC.cv (h : CvOk c c') : ∀ {x : Cell} {o : HO}, noxC x = true → RepC c Z x o → RepC c' Z x o
  | .lst _, _, n, ⟨vs, e, r⟩ => ⟨vs, e, RepL.cv h n r⟩
  | .ins _ _, _, n, ⟨C, dx, vfs, e, q, r⟩ => ⟨C, dx, vfs, e, by rw [← h.cn]; exact q, RepF.cv h n r⟩
  | .dct _, _, n, ⟨kvs, e, r⟩ => ⟨kvs, e, RepK.cv h n r⟩
theorem RepC.nox (h : c.pin = none) : ∀ {x : Cell} {o : HO}, RepC c Z x o → noxC x = true
  | .lst _, _, ⟨_, _, r⟩ => RepL.nox h r
  | .ins _ _, _, ⟨_, _, _, _, _, r⟩ => RepF.nox h r
  | .dct _, _, ⟨_, _, r⟩ => RepK.nox h r
def noxS (S : Store) : Prop := ∀ a x, S a = some x → noxC x = true
theorem Rel.nox {S : Store} {H : Hp} (h : c.pin = none) (R : Rel c Z S H) : noxS S := fun a x e => by
  obtain ⟨_, o, _, r⟩ := R.cl a x e
  exact RepC.nox h r
theorem Rel.cv {S : Store} {H : Hp} (h : CvOk c c') (n : noxS S) (R : Rel c Z S H) : Rel c' Z S H :=
  ⟨R.fz, fun a x e => by
    obtain ⟨z, o, q, r⟩ := R.cl a x e
    exact ⟨z, o, q, RepC.cv h (n a x e) r⟩, R.nt, fun p hp => R.tb p (by rw [h.tabs]; exact hp)⟩
theorem REnv.cv {ρ : Env} {σ : L2.St} (hp : c.pin = none) (h : CvOk c c') (R : REnv c Z ρ σ) : REnv c' Z ρ σ := ⟨R.len, fun i d e => by
  obtain ⟨v, a, b⟩ := R.at_ i d e
  exact ⟨v, a, RepD.cv h (RepD.nox hp b) b⟩⟩
end
end L3
set_option maxHeartbeats 2000000
namespace L3
open PySem PySem.Spec PyProof.Rows L2 LamX
section
variable {X : Cx} {pins : List (Addr × Obj)} {σ : L2.St} {H HZ : Hp} {s : Shared}
theorem lam_act {Eg E : XK} {Ng : List Str} {qg a : Str} {sg scope : Scope} {g f c' : Addr} {cdg pm ctv : Value} {params : Arguments} {body : Expr} {k i : Nat} {pn : List (Addr × Obj)} {xe : Value → Shared → Prop} {W : WX} {tb : TE} {p1 p2 : Pos}
    (I : L2.Inv X pins σ H s) (L : LamS X.env.scope scope) (hfn : H f = none) (hfr : f ∉ frs X.stack)
    (hf : s.heap.get? f = some (PySem.W.kla_obj "<lambda>" (X.env.qual ++ "<lambda>") params body scope (cloFrom X.env.cells scope.names []) pm c' ctv))
    (bnd : bindArgs (PySem.W.kla_fn "<lambda>" (X.env.qual ++ "<lambda>") params body scope (cloFrom X.env.cells scope.names []) pm (.ref c') ctv) ⟨[], []⟩ = Pure.pure [])
    (tk : Takes ((cxOf C8.CX0 X.prog X.w X.K X.mg X.base Ng qg sg g cdg X.A X.stack s H Eg).tr pn xe) W) (hW : ∀ cls d σ' H', E cls d H' → W cls d σ' H') (room : Room (k + 1) (X.A.deeper (envOfC qg sg s.heap.objs.size g cdg)))
    (hbody : ∀ (A : Around) (outer : List PySem.Env) (s : Shared) (H : Hp), Room k (A.deeper (lamEnv X scope s.heap.objs.size f c')) → PE (lamCx X A outer s H E scope f c') body tb)
    (hN : Ng[i]? = some a) (hv : Vis sg a) (hd : (a == ("__debug__" : Str)) = false) (hcd : (a == ("__classdict__" : Str)) = false) :
    PE ((cxOf C8.CX0 X.prog X.w X.K X.mg X.base Ng qg sg g cdg X.A X.stack s H Eg).tr pn xe) (.Call (.Name a p1) [] [] p2) (fun τ G Q => τ[i]? = some (some (.ref f)) ∧ G c' = some (CodeO c' (X.env.qual ++ "<lambda>")) ∧ tb σ G Q) := by
  refine ⟨fun ps s0 τ G Q I0 h => ?_⟩
  obtain ⟨at_, hc, ht⟩ := h
  have nm := (pe_var (pos := p1) (i := i) hN hv hd hcd).run ps s0 τ G (fun v G1 => v = .ref f ∧ G1 = G) I0 ⟨.ref f, at_, rfl, rfl⟩
  refine wpAny_Call_Name_kw (thn nm fun u s1 hh => ?_)
  obtain ⟨v, G1, I1, r1, rfl, rfl⟩ := hh
  obtain rfl : u = Value.ref f := r1
  have there := I1.base.keep f _ hf hfn hfr (fun z => nomatch (show f ∈ ([] : List Addr) from z))
  refine PySem.W.callWith_F0 ⟨_, _, _, _, there⟩ ?_
  have un : Un (frs X.stack) [] H G1 s.heap s1.heap := I1.base
  obtain ⟨⟨oc, vs, t, hoc, hdc, hvc⟩, _, _⟩ := I1.hok c' _ hc
  have run : codeAny (model X.prog X.w) (X.A.deeper (envOfC qg sg s.heap.objs.size g cdg)) (.call (.ref f) ⟨[], []⟩) (CR (L2.CX X.prog X.w) (envOfC qg sg s.heap.objs.size g cdg :: X.stack) X.prog X.w G1 s1 Q E) s1 := by
    refine PySem.W.kla_callFunE room.b.depth there rfl L.co L.gen rfl ⟨c', oc, vs, t, rfl, hoc, hdc, hvc⟩ ?_
    rw [bnd]
    refine wpAny_pure (wpAny_newFunctionEnv (fun y hy => (L.own y hy).2) (fun y hy => absurd hy (by simp)) (fun h₁ hns hsb => ⟨I1.nolimit.fresh _ hsb, ?_⟩) L.kind)
    show codeAny _ _ (.expr body (lamEnv X scope s1.heap.objs.size f c')) _ _
    have old : ∀ b o, s1.heap.get? b = some o → h₁.get? b = some o := fun b o e => hsb.extBut b o (Nat.ne_of_lt (Heap.lt_size e)) (Heap.get?_push_of_some _ e)
    have J := lam_start2 (E := E) (f := f) (c' := c') (h₁ := h₁) (tk := s1.toks + ([] : List (Str × Value)).length) I L I1.env0 room.b.hd un hns old
    refine PySem.W.kla_codeExpr (wpAny_mono ((hbody _ _ s1 G1 (room.deeper _)).run [] _ _ G1 Q J ht) (fun v s' hq => ?_) fun e s' hq => hq)
    obtain ⟨w', H', J', rv, q⟩ := hq
    exact ⟨w', H', J'.os, J'.bare, J'.base, J'.hok, rv, q⟩
  have out := passes_call tk hW
  refine wpAny_call (codeAny_mono run fun r s' hq => ?_)
  match r, hq with
  | .error e, hq => exact out ps τ G1 s1 e s' I1 hq
  | .ok (.ret u), hq => exact I1.after hq
  | .ok .next, hq => exact False.elim hq
  | .ok .brk, hq => exact False.elim hq
  | .ok .cont, hq => exact False.elim hq
theorem pe_lamG {T : List (Addr × Str)} {TT : (XK → Hp → VK → Prop) → Hp → VK → Prop} {x a : Str} {g c P : Addr} {k : Nat} {pg params : Arguments} {bg : List Stmt} {sg scope : Scope} {dV kV doc pm cdv ct oc : Value} {an od : Option Addr} {osl : Array (Option Value)} {Ng : List Str}
    {body : Expr} {t : XK → TE} {p lpos pos : Pos} (hg : Gl X x) (hm : X.mg x = some (.ref g)) (hk : PySem.W.keepIn X.K (.ref g) = true)
    (lk : X.K.lookup g = some ⟨oc, od, .func (PySem.W.fnOf x x pg bg sg dV kV doc pm an cdv ct), osl⟩) (hcg : PySem.W.codeIn X.K cdv x = true) (hb : L2.Binds X.K (PySem.W.fnOf x x pg bg sg dV kV doc pm an cdv ct) [a] []) (Sg : FnScope Ng [a] sg) (hNg : Ng[0]? = some a) (hva : Vis sg a)
    (hG : GivesTo X Ng x sg g cdv bg a (X.env.qual ++ "<lambda>") TT) (TB : TabB X.base X.mg c P) (hcode : X.env.code = .ref c) (hmT : (P, X.env.qual ++ "<lambda>") ∈ T) (hu : ∀ p ∈ T, p.1 = P → p.2 = X.env.qual ++ "<lambda>") (room : Room (k + 2) X.A) (L : LamS X.env.scope scope) (hdef : defaultsOf params X.env = ([], []))
    (bnd : ∀ (q : Str) (cl : List (Str × Addr)) (pm cv ctv : Value), bindArgs (PySem.W.kla_fn "<lambda>" q params body scope cl pm cv ctv) ⟨[], []⟩ = Pure.pure [])
    (hbody : ∀ (A : Around) (outer : List PySem.Env) (s : Shared) (H : Hp) (E : XK) (f c' : Addr), Room k (A.deeper (lamEnv X scope s.heap.objs.size f c')) → PE (lamCx X A outer s H E scope f c') body (t E))
    (hdb : (x == ("__debug__" : Str)) = false) (hd : (a == ("__debug__" : Str)) = false) (hcd : (a == ("__classdict__" : Str)) = false) :
    PE X (.Call (.Name x p) [.Lambda params body scope lpos] [] pos) (tLam T TT t) := by
  refine ⟨fun pins s σ H Q I h => ?_⟩
  obtain ⟨hT, h⟩ := h
  refine wpAny_Call_Name_kw (ld_glob I hg hm ?_ hdb)
  refine PySem.W.callWith_K (h₀ := X.base) I.ok.mod.kin hk ?_ (by rfl) (by rfl)
  show wpAny _ _ (spliced ((false, eval (.Lambda params body scope lpos) X.env) :: backTo pos (starEach [] X.env))) _ _ s
  refine Calls.spliced_cons (lam_make2 I TB hcode hmT hu hT hdef (L.has I.ok) fun f c' pm' ctv H1 s' I1 eN T1 hf hfn hfr hco => ?_)
  refine Calls.spliced_nil ⟨I1.kIn, ?_⟩
  have run : codeAny (model X.prog X.w) X.A (.call (.ref g) ⟨[.ref f], []⟩) (CR C8.CX0 X.stack X.prog X.w H1 s' Q C8.E0) s' := by
    refine run_ofS (k := k + 1) (N := Ng) (ps := [a]) (us := [.ref f]) (vs := [.ref f]) lk hcg Sg room.b I1.env0 (hb s' [.ref f] I1.kIn rfl) (.cons rfl .nil) rfl fun r' => ?_
    have act := fun (W : WX) (pn : List (Addr × Obj)) (xe : Value → Shared → Prop) (E : XK) (p1 p2 : Pos) tk hW => lam_act (Eg := C8.E0) (Ng := Ng) (qg := x) (sg := sg) (g := g) (cdg := cdv) (k := k) (i := 0) (pn := pn) (xe := xe) (W := W) (E := E) (tb := t E) (p1 := p1) (p2 := p2) I1 L hfn hfr hf (bnd _ _ _ _ _) tk hW ⟨r', room.gd⟩ (fun A outer s H r2 => hbody A outer s H E f c' r2) hNg hva hd hcd
    obtain ⟨t', ht', hq'⟩ := hG f c' s' H1 Q (fun E H' Q' => t E σ H' Q') act hco (h H1 eN T1)
    exact ⟨t', ht'.nox, hq'⟩
  refine wpAny_call (codeAny_mono run fun r s2 hq => ?_)
  match r, hq with
  | .error e, hq => exact (show False from hq).elim
  | .ok (.ret u), hq => exact I1.after hq
  | .ok .next, hq => exact False.elim hq
  | .ok .brk, hq => exact False.elim hq
  | .ok .cont, hq => exact False.elim hq
end
end L3
namespace L3
open PySem PySem.Spec PyProof.Rows L2
theorem of_memX {k : Nat} {K : Prop} : ∀ {ks : List Nat}, memW k ks K → k ∈ ks ∧ K
  | [], h => h.elim
  | j :: r, h => by
    unfold memW at h
    split at h
    · rename_i e
      exact ⟨by rw [Nat.eq_of_beq_eq_true e]; exact List.mem_cons_self, h⟩
    · obtain ⟨a, b⟩ := of_memX h
      exact ⟨List.mem_cons_of_mem _ a, b⟩
theorem look_F {c : Ctx} {Z : Hp} {i : Nat} (inj : ∀ j, c.nm j = c.nm i → j = i) {y : D} : ∀ {fs : List (Nat × D)} {vfs : List (Str × V)}, RepF c Z fs vfs → fs.lookup i = some y → ∃ v, vfs.lookup (c.nm i) = some v ∧ RepD c Z y v
  | [], _, _, e => by cases e
  | (k, d) :: r, _, ⟨v, t, ev, q, rr⟩, e => by
    subst ev
    by_cases z : i = k
    · subst z
      simp only [List.lookup, beq_self_eq_true, Option.some.injEq] at e
      subst e
      exact ⟨v, by simp [List.lookup], q⟩
    · have z1 : (i == k) = false := by simpa using z
      have z2 : (c.nm i == c.nm k) = false := by
        simp only [beq_eq_false_iff_ne, ne_eq]
        exact fun w => z (inj k w.symm).symm
      simp only [List.lookup, z1] at e
      obtain ⟨u, h1, h2⟩ := look_F inj rr e
      exact ⟨u, by simp only [List.lookup, z2]; exact h1, h2⟩
section
variable {c : Ctx} {k : Nat} {X : Cx} {W : WX} {pos : Pos}
theorem exh_of {c : Ctx} {X : Cx} {Z H : Hp} {S : Store} (ok : XO0 c X) (R : Rel c Z S H) {i : Nat} {fs : List (Nat × D)} {v : V} (rd : RepD c Z (.exv i fs) v) : ∃ a D vfs, v = .ref a ∧ c.cn i = some D ∧ RepF c Z fs vfs ∧ ((vfs = [] ∧ ExH X H a D none) ∨ ∃ d, ExH X H a D (some d) ∧ H d = some (.xd vfs)) := by
  obtain ⟨a, D, vfs, e, q, r, z⟩ := rd
  refine ⟨a, D, vfs, e, q, r, ?_⟩
  rcases z with ⟨z1, z2⟩ | ⟨d, z1, z2⟩
  · exact .inl ⟨z1, .inr (R.fz _ _ z2)⟩
  · exact .inr ⟨d, .inr (R.fz _ _ z1), R.fz _ _ z2⟩
theorem se_isx {y : Str} {px p2 : Pos} {z : Expr} {j : Nat} {js : List Nat} {wo : WE} (ok : XO0 c X) (kn : KIsx c (rn X) y j js) (hg : Gl X "isinstance") (hgy : Gl X y) (hn : okN y = true) (hs : noStar [z, .Name y p2] = true) (ho : SE c X W z wo) :
    SE c X W (.Call (.Name "isinstance" px) [z, .Name y p2] [] pos) (fun ρ S Q E => wo ρ S (fun d S1 => wIsx j js d fun b => Q b S1) E) := by
  obtain ⟨s1, s2⟩ := star1 X.env hs
  obtain ⟨s3, s4⟩ := star1 X.env s2
  obtain ⟨h0, vc, uc, hv, hj⟩ := kn
  have hy : PE X (.Name y p2) (tC vc) ∧ ∀ u, RelV vc u → u = uc := by
    rcases hv with ⟨C, hC, hm, rfl, rfl⟩ | ⟨n, hm, nn, hb, rfl, rfl⟩
    · exact ⟨pe_glob (u := .ref C) hgy hm rfl (ok1 hn), fun u e => e⟩
    · exact ⟨pe_bltn hgy hm hb rfl nn (ok1 hn), fun u e => e⟩
  obtain ⟨hy, hu⟩ := hy
  refine PE.imp (pe_callB call_isx hg h0 (by decide +kernel) (pa_cons ho (pa_cons hy pa_nil s3) s1) (by decide) (by decide) s1 (star2 X.env pos s2)) fun σ H Q h => ?_
  refine LG.bind (R1 := RepD c) (R2 := RepD c) (w1 := wo) (k := fun d ρ S Q E => wIsx j js d fun b => Q b S) (t2 := fun x σ H Q => ∃ (a D : Addr) (c : V) (cv : Value) (b : Bool), [x, vc] = [.ref a, c] ∧ (ExH X H a D none ∨ ∃ d vfs, ExH X H a D (some d) ∧ H d = some (.xd vfs)) ∧ XcK X.K D ∧
    (∀ u, RelV c u → u = cv) ∧ PySem.W.kitOne X.K (.ref D) cv = some b ∧ Q (.bl b) H) (fun d v σ H Q Z S ρ QD ED R RE rd kk hq hx => ?_) h
  cases d with
  | exc i fs =>
    obtain ⟨a, D, oe, dd, fv, vfs, rfl, hD, hp, x1, x2, x3, hZ, rf⟩ := rd
    obtain ⟨mem, kk⟩ := of_memX kk
    obtain ⟨xk, one⟩ := hj i mem D hD
    exact ⟨a, D, vc, uc, _, rfl, .inr ⟨dd, vfs, .inl ⟨oe, fv, ok.pin _ hp, x1, x2, x3⟩, R.fz _ _ hZ⟩, xk, hu, one, hq.go R (d := .bl _) rfl kk⟩
  | exv i fs =>
    obtain ⟨a, D, vfs, rfl, hD, rf, hx⟩ := exh_of (X := X) ok R rd
    obtain ⟨mem, kk⟩ := of_memX kk
    obtain ⟨xk, one⟩ := hj i mem D hD
    refine ⟨a, D, vc, uc, _, rfl, ?_, xk, hu, one, hq.go R (d := .bl _) rfl kk⟩
    rcases hx with ⟨_, hx⟩ | ⟨d, hx, hH⟩
    · exact .inl hx
    · exact .inr ⟨d, vfs, hx, hH⟩
  | _ => exact kk.elim
theorem se_attx {z : Expr} {i : Nat} {js : List Nat} {wo : WE} (ok : XO0 c X) (kn : KAttx c (rn X) i js) (hb : baseOk z = true) (ho : SE c X W z wo) :
    SE c X W (.Attribute z (c.nm i) pos) (fun ρ S Q E => wo ρ S (fun d S1 => wAttx i js d fun y => Q y S1) E) := by
  obtain ⟨inj, hj⟩ := kn
  refine PE.imp (pe_attx ho (base_ok hb _)) fun σ H Q h => ?_
  refine LG.bind (R1 := RepD c) (R2 := RepD c) (w1 := wo) (k := fun d ρ S Q E => wAttx i js d fun y => Q y S) (t2 := fun x σ H1 Q => ∃ (a D d : Addr) (vfs : List (Str × V)) (v : V), x = .ref a ∧ ExH X H1 a D (some d) ∧ XcK X.K D ∧ PySem.W.findIn X.K (.ref D) (c.nm i) = some none ∧
      H1 d = some (.xd vfs) ∧ vfs.lookup (c.nm i) = some v ∧ Q v H1) (fun d v σ H Q Z S ρ QD ED R RE rd kk hq hx => ?_) h
  cases d with
  | exc j fs =>
    obtain ⟨a, D, oe, dd, fv, vfs, rfl, hD, hp, x1, x2, x3, hZ, rf⟩ := rd
    obtain ⟨mem, y, ly, kk⟩ := of_memX kk
    obtain ⟨xk, no⟩ := hj j mem D hD
    obtain ⟨v, lv, rv⟩ := look_F inj rf ly
    exact ⟨a, D, dd, vfs, v, rfl, .inl ⟨oe, fv, ok.pin _ hp, x1, x2, x3⟩, xk, no, R.fz _ _ hZ, lv, hq.go R rv kk⟩
  | exv j fs =>
    obtain ⟨a, D, vfs, rfl, hD, rf, hx⟩ := exh_of (X := X) ok R rd
    obtain ⟨mem, y, ly, kk⟩ := of_memX kk
    obtain ⟨xk, no⟩ := hj j mem D hD
    obtain ⟨v, lv, rv⟩ := look_F inj rf ly
    rcases hx with ⟨e, hx⟩ | ⟨d, hx, hH⟩
    · rw [e] at lv; cases lv
    · exact ⟨a, D, d, vfs, v, rfl, hx, xk, no, hH, lv, hq.go R rv kk⟩
  | _ => exact kk.elim
theorem Nx.ext {Z : Hp} {S : Store} {H H1 : Hp} (e : LamX.ExtN H H1) : Nx ⟨Z, S, H⟩ ⟨Z, S, H1⟩ := ⟨Le.refl _, fun a o h t f => ⟨e a o h t.1, f, id⟩⟩
theorem Rel.ext {Z : Hp} {S : Store} {H H1 : Hp} (R : Rel c Z S H) (e : LamX.ExtN H H1) (t : LamX.Tabs c.tabs H1) : Rel c Z S H1 :=
  ⟨fun a o h => e a o (R.fz a o h) fun ps z => R.nt a ps (by rw [h, z]), fun a x h => by
    obtain ⟨z, o, q, r⟩ := R.cl a x h
    exact ⟨z, o, e a o q r.tame.1, r⟩, R.nt, t⟩
theorem CvOk.trans {a b d : Ctx} (h : CvOk a b) (k : CvOk b d) : CvOk a d := ⟨h.K.trans k.K, h.nm.trans k.nm, h.cn.trans k.cn, h.tabs.trans k.tabs⟩
theorem se_told {f : Str} {sp1 sp2 : DSp} {we : WE} {body : Expr} {scope : Scope} {px lpos : Pos} {k' : Nat} (ok : XOk c (k' + 2) X) (hl : ∃ t, c.lam = some t) (kt : KTold c k' (rn X) f sp1 sp2) (hg : Gl X f) (hn : okN f = true) (L : LamX.lamSB X.env.scope scope = true)
    (hbody : ∀ (X' : Cx) (W' : WX), XOk { c with lam := none } k' X' → Takes X' W' → X'.N = X.N → X'.env.scope = scope → rn X' = rn X → SE { c with lam := none } X' W' body we) :
    SE c X W (.Call (.Name f px) [.Lambda ⟨[], [], none, [], [], none, []⟩ body scope lpos] [] pos) (fun ρ S Q _ => we ρ S (fun d S1 => Q (.tup [.str "returned", d]) S1) (toldX sp1 sp2 Q)) := by
  obtain ⟨⟨cc, P, q⟩, ht⟩ := hl
  obtain ⟨l1, l2, l3, l4, l5⟩ := ok.lam _ ht
  dsimp only at l1 l2 l3 l4 l5
  obtain ⟨g, a, pg, bg, sg, dV, kV, doc, pm, cdv, ct, oc, an, od, osl, Ng, hm, kp, lk, hcg, hb, Sg, hNg, hva, d1, d2, G⟩ := kt
  have hp := ok.hp
  have hp0 : ({ c with lam := none } : Ctx).pin = none := hp
  have cv0' : CvOk c { c with lam := none } := ⟨rfl, rfl, rfl, rfl⟩
  have cv1' : CvOk { c with lam := none } c := ⟨rfl, rfl, rfl, rfl⟩
  refine PE.imp (pe_lamG (T := c.tabs) (TT := TTold c sp1 sp2) (t := fun E => LG { c with lam := none } (fun cls d _ H => E cls d H) (RepD { c with lam := none }) we) (k := k') hg hm kp lk hcg hb Sg hNg hva (G X _ rfl ok.hK (ok.room.mono (by omega))) l3 l1 (by rw [l2]; exact l4) (by rw [l2]; exact l5) ok.room (LamX.lamS_by L) rfl
    (fun q cl pm cv ctv => rfl) (fun A outer s H E f0 c' r2 => ?_) (ok1 hn) d1 d2) fun σ H Q h => ?_
  · exact hbody (LamX.lamCx X A outer s H E scope f0 c') _ ⟨ok.hK, ok.hmg, rfl, r2, ok.nd, hp, fun t e => (by cases e), ⟨rfl, rfl⟩, TopF.deeper (LamX.lamS_by L).gen (LamX.lamS_by L).co rfl rfl⟩ (takes_of rfl rfl rfl rfl) rfl rfl rfl
  · obtain ⟨Z, S, ρ, QD, ED, R, RE, hw, hq, hx⟩ := h
    refine ⟨fun p hp => R.tb p hp, fun H1 eN T1 => ?_⟩
    refine ⟨Z, S, ρ, _, _, (R.ext eN T1).cv cv0' (R.nox hp), RE.cv hp cv0', hw, fun d v Z' S' H' l R' rd qq p np => ?_, fun x Z' S' H' cls dd l R' rx hx' => ?_⟩
    · obtain ⟨le, R2⟩ := R'.frozen np (.tup [.str "returned", v])
      exact hq (.tup [.str "returned", d]) (.ref p) _ S' _ ((Nx.ext eN).trans (l.trans (Nx.frozen (R'.new np).2 np _))) (R2.cv cv1' (R2.nox hp0)) ⟨p, _, rfl, SqT.of upd_same, _, _, rfl, rfl, _, _, rfl, RepD.cv cv1' (RepD.nox hp0 rd) (RepD.le le rd), rfl⟩ qq
    · cases x with
      | blt T => exact hx'.elim
      | own j fs =>
        cases fs with
        | nil => exact hx'.elim
        | cons f1 fs =>
          obtain ⟨j1, j2, hs⟩ := hx'
          obtain ⟨C, hC, rfl, hf⟩ := rx
          rcases hf with hf | ⟨d, vfs, rfl, hZ, rf⟩
          · cases hf
          refine ⟨j, C, d, vfs, j1, j2, hC, rfl, rfl, R'.fz _ _ hZ, fun a oe fv e1 e2 e3 => ?_⟩
          have cA : CvOk { c with lam := none } { c with lam := none, pin := some (a, oe) } := ⟨rfl, rfl, rfl, rfl⟩
          have cB : CvOk { c with lam := none, pin := some (a, oe) } c := ⟨rfl, rfl, rfl, rfl⟩
          have nS := R'.nox hp0
          have rx : ∀ {Z2 : Hp}, Le Z' Z2 → RepD { c with lam := none, pin := some (a, oe) } Z2 (.exc j (f1 :: fs)) (.ref a) := fun {Z2} le => ⟨a, C, oe, d, fv, vfs, rfl, hC, rfl, e1, e2, e3, le _ _ hZ, RepF.cv cA (RepF.nox hp0 rf) (RepF.le le rf)⟩
          refine ⟨Z', S', [.exc j (f1 :: fs)], _, _, R'.cv cA nS, ⟨_, _, rfl, rx (Le.refl _), rfl⟩, hs, fun w vw Z2 S2 H2 l2 R2 rw2 hh => ?_, fun _ _ _ _ _ _ _ _ _ z => z.elim⟩
          obtain ⟨rfl, y, rfl, q2⟩ := hh
          cases rw2
          refine ⟨Z2, S2, [.exc j (f1 :: fs), .str y], _, _, R2, ⟨_, _, rfl, rx l2.le, _, _, rfl, rfl, rfl⟩, q2, fun t vt Z3 S3 H3 l3 R3 rt hh => ?_, fun _ _ _ _ _ _ _ _ _ z => z.elim⟩
          obtain ⟨rfl, z, rfl, q3⟩ := hh
          cases rt
          intro p np
          obtain ⟨le, R4⟩ := R3.frozen np (.tup [.str y, .str z])
          exact hq (.tup [.str y, .str z]) (.ref p) _ _ _ ((Nx.ext eN).trans (l.trans (l2.trans (l3.trans (Nx.frozen (R3.new np).2 np _))))) (R4.cv cB nS) ⟨p, _, rfl, SqT.of upd_same, _, _, rfl, rfl, _, _, rfl, rfl, rfl⟩ q3
end
end L3
set_option maxHeartbeats 1000000
namespace L3
open PySem PySem.Spec PyProof.Rows L2
structure Nz (w w' : Wd) : Prop where
  le : Le w.Z w'.Z
theorem Nz.of {w w' : Wd} (h : Nx w w') : Nz w w' := ⟨h.le⟩
theorem Nz.refl (w : Wd) : Nz w w := ⟨Le.refl _⟩
theorem Nz.trans {u v w : Wd} (h : Nz u v) (k : Nz v w) : Nz u w := ⟨h.le.trans k.le⟩
structure ItOk (c : Ctx) (w : Wd) (its : List D) (G : Grd) (J : It) : Prop where
  stop : ∀ Z S H, Nz w ⟨Z, S, H⟩ → Rel c Z S H → G S → J.stop its.length H
  step : ∀ Z S H (i : Nat) d, Nz w ⟨Z, S, H⟩ → Rel c Z S H → G S → its[i]? = some d → J.go i H ∧ ∀ x H', J.yld i H x H' → ∃ Z', Nx ⟨Z, S, H⟩ ⟨Z', S, H'⟩ ∧ Rel c Z' S H' ∧ RepD c Z' d x
theorem ItOk.le {c : Ctx} {w w' : Wd} {its : List D} {G : Grd} {J : It} (h : ItOk c w its G J) (l : Nx w w') : ItOk c w' its G J := ⟨fun Z S H l' => h.stop Z S H ((Nz.of l).trans l'), fun Z S H i d l' => h.step Z S H i d ((Nz.of l).trans l')⟩
def LkI (c : Ctx) (w : Wd) (KD : List D → Grd → Store → Prop) (R : It → Hp → Prop) : Prop :=
  ∀ its G J Z' S' H', Nx w ⟨Z', S', H'⟩ → Rel c Z' S' H' → ItOk c ⟨Z', S', H'⟩ its G J → KD its G S' → R J H'
def LI (c : Ctx) (W : WX) (wi : WI) : TI := fun σ H R => ∃ Z S ρ KD ED, Rel c Z S H ∧ REnv c Z ρ σ ∧ wi ρ S KD ED ∧ LkI c ⟨Z, S, H⟩ KD R ∧ LkX c ⟨Z, S, H⟩ ED (fun cls dd H' => W cls dd σ H')
section
variable {c : Ctx} {k : Nat} {X : Cx} {W : WX} {pos : Pos} {tg : Expr}
theorem PI.imp {iter : Expr} {t t' : TI} (h : PI X tg iter t) (k : ∀ σ H Q, t' σ H Q → t σ H Q) : PI X tg iter t' := ⟨fun pins s σ H Q I q => h.run pins s σ H Q I (k _ _ _ q)⟩
theorem pi_seq {e : Expr} {te : TE} (he : PE X e te) : PI X tg e (fun σ H R => te σ H fun x H1 => ∃ a, x = .ref a ∧ ((∃ xs, SqL X.K H1 a xs) ∧ R (Itl X.K a) H1 ∨ (∃ xs, SqT X.K H1 a xs) ∧ R (Itt X.K a) H1)) := by
  constructor
  intro pins s σ H R I h
  refine wpAny_mono (he.run pins s σ H _ I h) (fun v st hv => ?_) fun _ _ z => z
  obtain ⟨x, H1, J, rv, a, ex, hh⟩ := hv
  subst ex
  cases rv
  have fresh : H1 st.heap.objs.size = none := J.hok.fresh (Nat.le_refl _)
  have fp : ∀ b ∈ [st.heap.objs.size], FpOk X pins H1 b := fun b hb => by
    rw [List.mem_singleton] at hb; subst hb
    exact J.fpOk (Nat.le_refl _) fresh
  rcases hh with ⟨⟨xs, hx⟩, q⟩ | ⟨⟨xs, hx⟩, q⟩
  · obtain ⟨its, _, pl, _⟩ := J.list hx
    exact wpAny_pyIter_list pl.isList ⟨_, [st.heap.objs.size], _, _, H1, rfl, J.kept (t' := st.toks) (fun b o z => Heap.get?_push_of_some _ z), turn_list a _, ⟨_, Heap.get?_push_size _ rfl, rfl, rfl⟩, fp, q⟩
  · obtain ⟨its, _, pl, _⟩ := J.tuple hx
    exact wpAny_pyIter_tuple (show st.heap.IsTuple a its.toArray from pl) ⟨_, [st.heap.objs.size], _, _, H1, rfl, J.kept (t' := st.toks) (fun b o z => Heap.get?_push_of_some _ z), turn_tuple a _, ⟨_, Heap.get?_push_size _ rfl, rfl, rfl⟩, fp, q⟩
theorem itl_ok {w : Wd} {its : List D} {G : Grd} {a : Addr} (h : ∀ Z S H, Nz w ⟨Z, S, H⟩ → Rel c Z S H → G S → ∃ vs, SqL c.K H a vs ∧ RepL c Z its vs) : ItOk c w its G (Itl c.K a) := by
  refine ⟨fun Z S H l R g => ?_, fun Z S H i d l R g e => ?_⟩
  · obtain ⟨vs, q, r⟩ := h Z S H l R g
    exact ⟨vs, q, Nat.le_of_eq r.length⟩
  · obtain ⟨vs, q, r⟩ := h Z S H l R g
    obtain ⟨v, hv, rv⟩ := r.get e
    refine ⟨⟨vs, v, q, hv⟩, fun x H' y => ?_⟩
    obtain ⟨rfl, y⟩ := y
    have := y vs q
    rw [hv] at this; cases this
    exact ⟨Z, Nx.refl _, R, rv⟩
theorem itt_ok {w : Wd} {its : List D} {G : Grd} {a : Addr} (h : ∀ Z S H, Nz w ⟨Z, S, H⟩ → Rel c Z S H → G S → ∃ vs, SqT c.K H a vs ∧ RepL c Z its vs) : ItOk c w its G (Itt c.K a) := by
  refine ⟨fun Z S H l R g => ?_, fun Z S H i d l R g e => ?_⟩
  · obtain ⟨vs, q, r⟩ := h Z S H l R g
    exact ⟨vs, q, Nat.le_of_eq r.length⟩
  · obtain ⟨vs, q, r⟩ := h Z S H l R g
    obtain ⟨v, hv, rv⟩ := r.get e
    refine ⟨⟨vs, v, q, hv⟩, fun x H' y => ?_⟩
    obtain ⟨rfl, y⟩ := y
    have := y vs q
    rw [hv] at this; cases this
    exact ⟨Z, Nx.refl _, R, rv⟩
theorem rep_pt {Z : Hp} {l : List D} {v : V} (r : RepD c Z (.ptup l) v) : RepD c Z (.tup l) v := by
  obtain ⟨a, vs, o, rfl, q, _, rl⟩ := r
  exact ⟨a, vs, rfl, .inl (.inr ⟨o, q⟩), rl⟩
theorem unP {Z : Hp} {S : Store} {d : D} {v : V} {K : List D → Grd → Prop} (r : RepD c Z d v) (h : wSeqG d S K) : ∃ d', RepD c Z d' v ∧ wSeqG d' S K ∧ ∀ l, d' ≠ .ptup l := by
  cases d with
  | ptup l => exact ⟨.tup l, rep_pt r, h, fun _ e => by cases e⟩
  | _ => exact ⟨_, r, h, fun _ e => by cases e⟩
theorem si_seq {e : Expr} {we : WE} (hK : X.K = c.K) (he : SE c X W e we) : PI X tg e (LI c W (fun ρ S K E => we ρ S (fun d S1 => wSeqG d S1 fun l G => K l G S1) E)) :=
  PI.imp (pi_seq he) fun σ H R' h => by
    obtain ⟨Z, S, ρ, KD, ED, R, RE, hw, hq, hx⟩ := h
    refine ⟨Z, S, ρ, _, ED, R, RE, hw, fun d x Z1 S1 H1 l1 R1 rx kk => ?_, hx⟩
    obtain ⟨d, rx, kk, np⟩ := unP rx kk
    cases d with
    | ptup l => exact absurd rfl (np l)
    | tup l =>
      obtain ⟨a, vs, rfl, q, r⟩ := rx
      refine ⟨a, rfl, .inr ⟨⟨vs, by rw [hK]; exact SqT.le R1.fz q⟩, ?_⟩⟩
      rw [hK]
      exact hq l _ _ Z1 S1 H1 l1 R1 (itt_ok fun Z2 S2 H2 l2' R2 _ => ⟨vs, SqT.le R2.fz (SqT.le l2'.le q), RepL.le l2'.le r⟩) kk
    | fl l =>
      obtain ⟨a, vs, rfl, q, r⟩ := rx
      have q : SqL c.K Z1 a vs := SqL.of q
      refine ⟨a, rfl, .inl ⟨⟨vs, by rw [hK]; exact SqL.le R1.fz q⟩, ?_⟩⟩
      rw [hK]
      exact hq l _ _ Z1 S1 H1 l1 R1 (itl_ok fun Z2 S2 H2 l2' R2 _ => ⟨vs, SqL.le R2.fz (SqL.le l2'.le q), RepL.le l2'.le r⟩) kk
    | kl l =>
      obtain ⟨a, vs, rfl, q, r⟩ := rx
      refine ⟨a, rfl, .inl ⟨⟨vs, by rw [hK]; exact SqL.le R1.fz q⟩, ?_⟩⟩
      rw [hK]
      exact hq l _ _ Z1 S1 H1 l1 R1 (itl_ok fun Z2 S2 H2 l2' R2 _ => ⟨vs, SqL.le R2.fz (SqL.le l2'.le q), RepL.le l2'.le r⟩) kk
    | ref a =>
      cases rx
      obtain ⟨l, e, kk⟩ := kk
      obtain ⟨_, o, q, vs, rfl, r⟩ := R1.cl a _ e
      refine ⟨a, rfl, .inl ⟨⟨vs, SqL.of q⟩, ?_⟩⟩
      rw [hK]
      refine hq l _ _ Z1 S1 H1 l1 R1 (itl_ok fun Z2 S2 H2 l2' R2 g => ?_) kk
      obtain ⟨_, o, q, vs, rfl, r⟩ := R2.cl a _ g
      exact ⟨vs, SqL.of q, r⟩
    | _ => exact kk.elim
theorem rngL_get {lo : Int} {n i : Nat} {d : D} (h : (rngL lo n)[i]? = some d) : i < n ∧ d = .int (lo + i) := by
  unfold rngL at h
  rw [List.getElem?_map] at h
  by_cases hi : i < n
  · rw [List.getElem?_range hi] at h; simp at h; exact ⟨hi, h.symm⟩
  · rw [List.getElem?_eq_none (by simpa using hi)] at h; cases h
theorem rngLc_get {lo s : Int} {n i : Nat} {d : D} (h : (rngLc lo s n)[i]? = some d) : i < n ∧ d = .int (lo + i * s) := by
  unfold rngLc at h
  rw [List.getElem?_map] at h
  by_cases hi : i < n
  · rw [List.getElem?_range hi] at h; simp at h; exact ⟨hi, h.symm⟩
  · rw [List.getElem?_eq_none (by simpa using hi)] at h; cases h
theorem itr_ok {w : Wd} {G : Grd} {lo : Int} {n : Nat} : ItOk c w (rngL lo n) G (Itr lo n) := by
  refine ⟨fun Z S H l R g => ?_, fun Z S H i d l R g e => ?_⟩
  · show n ≤ _; simp [rngL]
  · obtain ⟨h1, rfl⟩ := rngL_get e
    exact ⟨h1, fun x H' y => by obtain ⟨rfl, rfl⟩ := y; exact ⟨Z, Nx.refl _, R, rfl⟩⟩
theorem itc_ok {w : Wd} {G : Grd} {lo s : Int} {n : Nat} : ItOk c w (rngLc lo s n) G (Itc lo s n) := by
  refine ⟨fun Z S H l R g => ?_, fun Z S H i d l R g e => ?_⟩
  · show n ≤ _; simp [rngLc]
  · obtain ⟨h1, rfl⟩ := rngLc_get e
    exact ⟨h1, fun x H' y => by obtain ⟨rfl, rfl⟩ := y; exact ⟨Z, Nx.refl _, R, rfl⟩⟩
theorem si_rng1 {b : Expr} {wb : WE} {p : Pos} (hg : Gl X "range") (hm : X.mg "range" = none) (hs : noStar [b] = true) (hb : SE c X W b wb) :
    PI X tg (.Call (.Name "range" p) [b] [] pos) (LI c W (fun ρ S K E => wb ρ S (fun d S1 => wInt d fun j => in62 j ∧ K (rngL 0 j.toNat) (fun _ => True) S1) E)) :=
  PI.imp (pi_range1 hg hm (pa_cons hb pa_nil (star1 X.env hs).1) (star1 X.env hs).1) fun σ H R' h => by
    obtain ⟨Z, S, ρ, KD, ED, R, RE, hw, hq, hx⟩ := h
    refine ⟨Z, S, ρ, _, ED, R, RE, hw, fun d x Z1 S1 H1 l1 R1 rx kk => ?_, hx⟩
    cases d with
    | int j => cases rx; exact ⟨j, rfl, kk.1.1, kk.1.2, hq _ _ _ Z1 S1 H1 l1 R1 itr_ok kk.2⟩
    | _ => exact kk.elim
theorem si_rng2 {a b : Expr} {wa wb : WE} {p : Pos} (hg : Gl X "range") (hm : X.mg "range" = none) (hs : noStar [a, b] = true) (ha : SE c X W a wa) (hb : SE c X W b wb) :
    PI X tg (.Call (.Name "range" p) [a, b] [] pos) (LI c W (fun ρ S K E => wa ρ S (fun x S1 => wb ρ S1 (fun d S2 => wInt x fun i => wInt d fun j => in62 i ∧ in62 j ∧ K (rngL i (j - i).toNat) (fun _ => True) S2) E) E)) := by
  obtain ⟨s1, s2⟩ := star1 X.env hs
  obtain ⟨s3, s4⟩ := star1 X.env s2
  refine PI.imp (pi_range2 hg hm (pa_cons ha (pa_cons hb pa_nil s3) s1) (by rw [s1, s3]; rfl) s3) fun σ H R' h => ?_
  obtain ⟨Z, S, ρ, KD, ED, R, RE, hw, hq, hx⟩ := h
  refine ⟨Z, S, ρ, _, ED, R, RE, hw, fun x vx Z1 S1 H1 l1 R1 rx kk => ?_, hx⟩
  refine ⟨Z1, S1, ρ, _, ED, R1, RE.le l1.le, kk, fun d v Z2 S2 H2 l2' R2 rd kk => ?_, hx.le l1⟩
  cases x with
  | int i =>
    cases d with
    | int j =>
      cases rx; cases rd
      obtain ⟨h1, h2, kk⟩ := kk
      exact ⟨i, j, rfl, ⟨h1.1, h1.2, h2.1, h2.2⟩, hq _ _ _ Z2 S2 H2 (l1.trans l2') R2 itr_ok kk⟩
    | _ => exact kk.elim
  | _ => exact kk.elim
theorem si_rng3 {a b d : Expr} {wa wb wd : WE} {p : Pos} (hg : Gl X "range") (hm : X.mg "range" = none) (hs : noStar [a, b, d] = true) (ha : SE c X W a wa) (hb : SE c X W b wb) (hd : SE c X W d wd) :
    PI X tg (.Call (.Name "range" p) [a, b, d] [] pos) (LI c W (fun ρ S K E => wa ρ S (fun x S1 => wb ρ S1 (fun d S2 => wd ρ S2 (fun z S3 => wInt x fun i => wInt d fun j => wInt z fun t => ∃ n, RgC i j t n ∧ K (rngLc i t n) (fun _ => True) S3) E) E) E)) := by
  obtain ⟨s1, s2⟩ := star1 X.env hs
  obtain ⟨s3, s4⟩ := star1 X.env s2
  obtain ⟨s5, s6⟩ := star1 X.env s4
  refine PI.imp (pi_range3 hg hm (pa_cons ha (pa_cons hb (pa_cons hd pa_nil s5) s3) s1) s1 (star2 X.env pos s2)) fun σ H R' h => ?_
  obtain ⟨Z, S, ρ, KD, ED, R, RE, hw, hq, hx⟩ := h
  refine ⟨Z, S, ρ, _, ED, R, RE, hw, fun x vx Z1 S1 H1 l1 R1 rx kk => ?_, hx⟩
  refine ⟨Z1, S1, ρ, _, ED, R1, RE.le l1.le, kk, fun d v Z2 S2 H2 l2' R2 rd kk => ?_, hx.le l1⟩
  refine ⟨Z2, S2, ρ, _, ED, R2, RE.le (l1.trans l2').le, kk, fun z vz Z3 S3 H3 l3 R3 rz kk => ?_, hx.le (l1.trans l2')⟩
  cases x with
  | int i =>
    cases d with
    | int j =>
      cases z with
      | int t =>
        cases rx; cases rd; cases rz
        obtain ⟨n, h1, kk⟩ := kk
        exact ⟨i, j, t, n, rfl, h1, hq _ _ _ Z3 S3 H3 ((l1.trans l2').trans l3) R3 itc_ok kk⟩
      | _ => exact kk.elim
    | _ => exact kk.elim
  | _ => exact kk.elim
theorem of_wLstG {Z : Hp} {S : Store} {H : Hp} {d : D} {v : V} {k : List D → Grd → Prop} (R : Rel c Z S H) (r : RepD c Z d v) (h : wLstG d S k) : ∃ a vs l G, v = .ref a ∧ SqL c.K H a vs ∧ RepL c Z l vs ∧ k l G ∧
    ∀ Z2 S2 H2, Nz ⟨Z, S, H⟩ ⟨Z2, S2, H2⟩ → Rel c Z2 S2 H2 → G S2 → ∃ vs, SqL c.K H2 a vs ∧ RepL c Z2 l vs := by
  have fr : ∀ l a vs, SqL c.K Z a vs → RepL c Z l vs → ∀ Z2 S2 H2, Nz ⟨Z, S, H⟩ ⟨Z2, S2, H2⟩ → Rel c Z2 S2 H2 → True → ∃ vs, SqL c.K H2 a vs ∧ RepL c Z2 l vs := fun l a vs q r Z2 S2 H2 l2' R2 _ => ⟨vs, SqL.le R2.fz (SqL.le l2'.le q), RepL.le l2'.le r⟩
  cases d with
  | fl l =>
    obtain ⟨a, vs, rfl, q, r⟩ := r
    exact ⟨a, vs, l, _, rfl, SqL.of (R.fz _ _ q), r, h, fr l a vs (SqL.of q) r⟩
  | kl l =>
    obtain ⟨a, vs, rfl, q, r⟩ := r
    exact ⟨a, vs, l, _, rfl, SqL.le R.fz q, r, h, fr l a vs q r⟩
  | ref a =>
    cases r
    obtain ⟨l, e, h⟩ := h
    obtain ⟨_, o, q, vs, rfl, r⟩ := R.cl a _ e
    refine ⟨a, vs, l, _, rfl, SqL.of q, r, h, fun Z2 S2 H2 l2' R2 g => ?_⟩
    obtain ⟨_, o, q, vs, rfl, r⟩ := R2.cl a _ g
    exact ⟨vs, SqL.of q, r⟩
  | _ => exact h.elim
theorem ite_ok {w : Wd} {l : List D} {G : Grd} {a : Addr} (h : ∀ Z S H, Nz w ⟨Z, S, H⟩ → Rel c Z S H → G S → ∃ vs, SqL c.K H a vs ∧ RepL c Z l vs) : ItOk c w (l.zipIdx.map fun p => .tup [.int p.2, p.1]) G (Ite c.K a) := by
  refine ⟨fun Z S H l' R g => ?_, fun Z S H i d l' R g e => ?_⟩
  · obtain ⟨vs, q, r⟩ := h Z S H l' R g
    exact ⟨vs, q, by simp [r.length]⟩
  · obtain ⟨vs, q, r⟩ := h Z S H l' R g
    rw [List.getElem?_map, List.getElem?_zipIdx] at e
    cases e2 : l[i]? with
    | none => rw [e2] at e; cases e
    | some x =>
      rw [e2] at e
      simp at e
      subst e
      obtain ⟨v, hv, rv⟩ := r.get e2
      refine ⟨⟨vs, v, q, hv⟩, fun x' H' y => ?_⟩
      obtain ⟨T, v', rfl, nT, rfl, y⟩ := y
      have := y vs q
      rw [hv] at this; cases this
      obtain ⟨h1, h2⟩ := R.frozen nT (.tup [.int (i : Nat), v])
      exact ⟨_, Nx.frozen (R.new nT).2 nT _, h2, T, _, rfl, SqT.of upd_same, _, _, rfl, rfl, _, _, rfl, RepD.le h1 rv, rfl⟩
theorem zip_get {l m : List D} {i : Nat} {d : D} (e : ((l.zip m).map fun p => D.tup [p.1, p.2])[i]? = some d) : ∃ x y, l[i]? = some x ∧ m[i]? = some y ∧ d = .tup [x, y] := by
  rw [List.getElem?_map] at e
  cases e2 : (l.zip m)[i]? with
  | none => rw [e2] at e; cases e
  | some p =>
    rw [e2] at e
    simp at e
    subst e
    rw [List.getElem?_zip_eq_some] at e2
    exact ⟨p.1, p.2, e2.1, e2.2, rfl⟩
theorem itv_ok {w : Wd} {l : List D} {G : Grd} {a : Addr} (h : ∀ Z S H, Nz w ⟨Z, S, H⟩ → Rel c Z S H → G S → ∃ vs, SqL c.K H a vs ∧ RepL c Z l vs) : ItOk c w l.reverse G (Itv c.K a l.length) := by
  refine ⟨fun Z S H l' R g => by show l.length ≤ _; simp, fun Z S H i d l' R g e => ?_⟩
  obtain ⟨vs, q, r⟩ := h Z S H l' R g
  have hi : i < l.length := by
    have := (List.getElem?_eq_some_iff.mp e).1
    simpa using this
  rw [List.getElem?_reverse hi] at e
  obtain ⟨v, hv, rv⟩ := r.get e
  refine ⟨⟨hi, vs, v, q, hv⟩, fun x' H' y => ?_⟩
  obtain ⟨rfl, y⟩ := y
  have := y vs q
  rw [hv] at this; cases this
  exact ⟨Z, Nx.refl _, R, rv⟩
theorem itvT_ok {w : Wd} {l : List D} {G : Grd} {a : Addr} (h : ∀ Z S H, Nz w ⟨Z, S, H⟩ → Rel c Z S H → ∃ vs, SqT c.K H a vs ∧ RepL c Z l vs) : ItOk c w l.reverse G (RT.ItvT c.K a l.length) := by
  refine ⟨fun Z S H l' R g => by show l.length ≤ _; simp, fun Z S H i d l' R g e => ?_⟩
  obtain ⟨vs, q, r⟩ := h Z S H l' R
  have hi : i < l.length := by
    have := (List.getElem?_eq_some_iff.mp e).1
    simpa using this
  rw [List.getElem?_reverse hi] at e
  obtain ⟨v, hv, rv⟩ := r.get e
  refine ⟨⟨hi, vs, v, q, hv⟩, fun x' H' y => ?_⟩
  obtain ⟨rfl, y⟩ := y
  have := y vs q
  rw [hv] at this; cases this
  exact ⟨Z, Nx.refl _, R, rv⟩
theorem si_rev {b : Expr} {wb : WE} {p : Pos} (hK : X.K = c.K) (hg : Gl X "reversed") (hm : X.mg "reversed" = none) (hs : noStar [b] = true) (hb : SE c X W b wb) :
    PI X tg (.Call (.Name "reversed" p) [b] [] pos) (LI c W (fun ρ S K E => wb ρ S (fun d S1 => wSeqG d S1 fun l G => K l.reverse G S1) E)) :=
  PI.imp (RT.pi_revA hg hm hb (star1 X.env hs).1) fun σ H R' h => by
    obtain ⟨Z, S, ρ, KD, ED, R, RE, hw, hq, hx⟩ := h
    refine ⟨Z, S, ρ, _, ED, R, RE, hw, fun d x Z1 S1 H1 l1 R1 rx kk => ?_, hx⟩
    obtain ⟨d, rx, kk, np⟩ := unP rx kk
    have lists : (wLstG d S1 fun l G => KD l.reverse G S1) → ∃ (a : Addr) (xs : List V), x = .ref a ∧ ((SqL X.K H1 a xs ∧ R' (Itv X.K a xs.length) H1) ∨ (SqT X.K H1 a xs ∧ R' (RT.ItvT X.K a xs.length) H1)) := fun kk => by
      obtain ⟨a, vs, l, G, rfl, q, r, kk, st⟩ := of_wLstG R1 rx kk
      refine ⟨a, vs, rfl, .inl ⟨by rw [hK]; exact q, ?_⟩⟩
      rw [hK, r.length]
      exact hq _ _ _ Z1 S1 H1 l1 R1 (itv_ok st) kk
    cases d with
    | ptup l => exact absurd rfl (np l)
    | tup l =>
      obtain ⟨a, vs, rfl, q, r⟩ := rx
      refine ⟨a, vs, rfl, .inr ⟨by rw [hK]; exact SqT.le R1.fz q, ?_⟩⟩
      rw [hK, r.length]
      exact hq _ _ _ Z1 S1 H1 l1 R1 (itvT_ok fun Z2 S2 H2 l2' R2 => ⟨vs, SqT.le R2.fz (SqT.le l2'.le q), RepL.le l2'.le r⟩) kk
    | _ => exact lists kk
theorem its_ok {w : Wd} {x : Str} {G : Grd} : ItOk c w (x.cps.toList.map fun ch => .str ⟨#[ch]⟩) G (Its x) := by
  refine ⟨fun Z S H l' R g => ?_, fun Z S H i d l' R g e => ?_⟩
  · show x.cps.size ≤ _; simp
  · rw [List.getElem?_map] at e
    cases e2 : x.cps.toList[i]? with
    | none => rw [e2] at e; cases e
    | some ch =>
      rw [e2] at e
      cases e
      have hi := (List.getElem?_eq_some_iff.mp e2).1
      refine ⟨by show i < x.cps.size; simpa using hi, fun x' H' y => ?_⟩
      obtain ⟨rfl, ch', hc, rfl⟩ := y
      have : ch' = ch := by
        have h2 : x.cps[i]? = some ch := by simpa using e2
        rw [hc] at h2
        exact Option.some.inj h2
      subst this
      exact ⟨Z, Nx.refl _, R, rfl⟩
theorem si_sgn {b : Expr} {wb : WE} (hb : SE c X W b wb) :
    PI X tg b (LI c W (fun ρ S K E => wb ρ S (fun d S1 => ∃ x : Str, d = .str x ∧ K (x.cps.toList.map fun c => .str ⟨#[c]⟩) (fun _ => True) S1) E)) :=
  PI.imp (pi_str hb) fun σ H R' h => by
    obtain ⟨Z, S, ρ, KD, ED, R, RE, hw, hq, hx⟩ := h
    refine ⟨Z, S, ρ, _, ED, R, RE, hw, fun d v Z1 S1 H1 l1 R1 rx kk => ?_, hx⟩
    obtain ⟨x, rfl, kk⟩ := kk
    cases rx
    exact ⟨x, rfl, hq _ _ _ Z1 S1 H1 l1 R1 its_ok kk⟩
def tgH (K : PySem.W.Frag) : CT → TG
  | .nm i => gName i
  | .tp is => gTup K is.length (is.foldr (fun i r => gCons (gName i) r) gNil)
theorem names_ok {Z : Hp} {H : Hp} : ∀ (is : List Nat) (l : List D) (vs : List V) (ρ : Env) (σ : L2.St) (Q : L2.St → Hp → Prop), l.length = is.length → RepL c Z l vs → REnv c Z ρ σ →
    (∀ σ2, REnv c Z ((is.zip l).foldl (fun r p => sto r p.1 p.2) ρ) σ2 → Q σ2 H) → (is.foldr (fun i r => gCons (gName i) r) gNil) vs σ H Q
  | [], [], _, ρ, σ, Q, _, r, RE, h => by cases r; exact ⟨rfl, h σ RE⟩
  | i :: is, d :: l, _, ρ, σ, Q, e, r, RE, h => by
    obtain ⟨v, t, rfl, q, r⟩ := r
    refine ⟨v, t, rfl, ?_⟩
    refine names_ok is l t (sto ρ i d) _ Q (by simpa using e) r ?_ h
    rw [sto_eq]
    exact RE.set i q
  | [], _ :: _, _, _, _, _, e, _, _, _ => by cases e
  | _ :: _, [], _, _, _, _, e, _, _, _ => by cases e
theorem tg_ok {t : CT} {Z : Hp} {S : Store} {H : Hp} {d : D} {v : V} {ρ : Env} {σ : L2.St} {K : Env → Store → Prop} {Q : L2.St → Hp → Prop} (hw : tgW t d ρ S K) (R : Rel c Z S H) (RE : REnv c Z ρ σ) (r : RepD c Z d v)
    (h : ∀ ρ2 σ2, REnv c Z ρ2 σ2 → K ρ2 S → Q σ2 H) : tgH c.K t v σ H Q := by
  cases t with
  | nm i =>
    refine h _ _ ?_ hw
    rw [sto_eq]
    exact RE.set i r
  | tp is =>
    obtain ⟨l, rfl, hl, hw⟩ := of_wTup hw
    obtain ⟨a, vs, rfl, q, r⟩ := r
    exact ⟨a, vs, rfl, SqT.le R.fz q, by rw [r.length, hl], names_ok is l vs ρ σ Q hl r RE fun σ2 RE2 => h _ σ2 RE2 hw⟩
def FnB (X : Cx) (os : Scope) : Prop := ∀ x, locB os x = true → L2.Loc X.env.scope x ∧ (X.fn x = true ∨ X.env.scope.names.lookup x = some .local)
theorem pg_names {sc : Scope} (ok : XOk c k X) (hsc : FnB X sc) : ∀ (ts : List Expr) (is : List Nat), ts.length = is.length → ((ts.zip is).all fun p => match p.1 with
    | .Name x _ => decide (X.N[p.2]? = some x) && locB sc x
    | _ => false) = true → PGs X ts (is.foldr (fun i r => gCons (gName i) r) gNil)
  | [], [], _, _ => pgs_nil
  | t :: ts, i :: is, e, h => by
    simp only [List.zip_cons_cons, List.all_cons, Bool.and_eq_true] at h
    obtain ⟨h1, h2⟩ := h
    cases t with
    | Name x p =>
      simp only [Bool.and_eq_true, decide_eq_true_eq] at h1
      have hl := hsc x h1.2
      exact pgs_cons (pg_name ok.nd h1.1 hl.1 hl.2) (pg_names ok hsc ts is (by simpa using e) h2)
    | _ => cases h1
  | [], _ :: _, e, _ => by cases e
  | _ :: _, [], e, _ => by cases e
theorem assign_plain (env : PySem.Env) : ∀ {es : List Expr}, noStar es = true → (assignEach es env).length = es.length ∧ (assignEach es env).findIdx? (·.1) = none
  | [], _ => ⟨rfl, rfl⟩
  | e :: es, h => by
    have e1 : assignEach (e :: es) env = (false, assign e env) :: assignEach es env ∧ noStar es = true := by
      cases e <;> first | exact ⟨rfl, h⟩ | (simp [noStar] at h)
    obtain ⟨h1, h2⟩ := assign_plain env e1.2
    rw [e1.1]
    refine ⟨by simp [h1], ?_⟩
    rw [List.findIdx?_cons, h2]
    rfl
theorem names_plain {N : List Str} {sc : Scope} : ∀ (ts : List Expr) (is : List Nat), ts.length = is.length → ((ts.zip is).all fun p => match p.1 with
    | .Name x _ => decide (N[p.2]? = some x) && locB sc x
    | _ => false) = true → noStar ts = true
  | [], _, _, _ => rfl
  | t :: ts, i :: is, e, h => by
    simp only [List.zip_cons_cons, List.all_cons, Bool.and_eq_true] at h
    obtain ⟨h1, h2⟩ := h
    have := names_plain ts is (by simpa using e) h2
    cases t <;> first | exact this | cases h1
  | _ :: _, [], e, _ => by cases e
theorem pg_ct {sc : Scope} (ok : XOk c k X) (hsc : FnB X sc) {e : Expr} {t : CT} (h : mT X.N sc e t = true) : PG X e (tgH c.K t) := by
  cases t with
  | nm i =>
    unfold mT at h
    cases e with
    | Name x p =>
      simp only [Bool.and_eq_true, decide_eq_true_eq] at h
      have hl := hsc x h.2
      exact pg_name ok.nd h.1 hl.1 hl.2
    | _ => cases h
  | tp is =>
    unfold mT at h
    cases e with
    | Tuple ts kk p =>
      simp only [Bool.and_eq_true, decide_eq_true_eq] at h
      obtain ⟨a1, a2⟩ := assign_plain X.env (names_plain ts is h.1 h.2)
      have := pg_tup (k := kk) (n := is.length) (pos := p) ok.calm (pg_names ok hsc ts is h.1 h.2) (a1.trans h.1) a2
      exact ok.hK ▸ this
    | _ => cases h
end
end L3
namespace L3
open PySem PySem.Spec PyProof.Rows L2
section
variable {c : Ctx} {k : Nat} {X : Cx} {W : WX} {pos : Pos}
def SS (c : Ctx) (X : Cx) (W : WX) (s : Stmt) (w : WS) : Prop := PS X s (LS c W w)
def SB (c : Ctx) (X : Cx) (W : WX) (s : List Stmt) (w : WS) : Prop := PSs X s (LS c W w)
theorem LkS.x {Z : Hp} {S : Store} {H : Hp} {E : EndsD} {Dn : Ends} {ρ : Env} {σ : L2.St} (L : LkS c ⟨Z, S, H⟩ E W Dn) (RE : REnv c Z ρ σ) : LkX c ⟨Z, S, H⟩ (E.ex ρ) (fun cls dd H' => W cls dd σ H') :=
  fun x Z' S' H' cls dd l R r e => L.ex ρ x Z' S' H' σ cls dd l R (RE.le l.le) r e
theorem LS.bind {α β : Type} {R1 : Hp → α → β → Prop} {w1 : Env → Store → (α → Store → Prop) → QX → Prop} {kk : α → EndsD → Env → Store → Prop} {t2 : β → Ends → L2.St → Hp → Prop}
    (h2 : ∀ d v σ H Dn Z S ρ E, Rel c Z S H → REnv c Z ρ σ → R1 Z d v → kk d E ρ S → LkS c ⟨Z, S, H⟩ E W Dn → t2 v Dn σ H) {Dn : Ends} {σ : L2.St} {H : Hp}
    (h : LS c W (fun E ρ S => w1 ρ S (fun d S1 => kk d E ρ S1) (E.ex ρ)) Dn σ H) : LG c W R1 w1 σ H (fun v H1 => t2 v Dn σ H1) := by
  obtain ⟨Z, S, ρ, E, R, RE, hw, L⟩ := h
  exact ⟨Z, S, ρ, _, E.ex ρ, R, RE, hw, fun d v Z' S' H' l R' r q => h2 d v σ H' Dn Z' S' ρ E R' (RE.le l.le) r q (L.le l), L.x RE⟩
theorem sb_nil : SB c X W [] (fun E ρ S => E.nx ρ S) := PSs.imp pss_nil fun Dn σ H h => by
  obtain ⟨Z, S, ρ, E, R, RE, hw, L⟩ := h
  exact L.nx ρ Z S H σ (Nx.refl _) R RE hw
theorem sb_cons {s : Stmt} {ss : List Stmt} {w1 w2 : WS} (h1 : SS c X W s w1) (h2 : SB c X W ss w2) : SB c X W (s :: ss) (fun E ρ S => w1 { E with nx := fun ρ1 S1 => w2 E ρ1 S1 } ρ S) :=
  PSs.imp (pss_cons h1 h2) fun Dn σ H h => by
    obtain ⟨Z, S, ρ, E, R, RE, hw, L⟩ := h
    exact ⟨Z, S, ρ, _, R, RE, hw, fun ρ' Z' S' H' σ' l R' RE' q => ⟨Z', S', ρ', E, R', RE', q, L.le l⟩, L.rt, L.ex⟩
theorem ss_pass : SS c X W (.Pass pos) (fun E ρ S => E.nx ρ S) := PS.imp ps_pass fun Dn σ H h => by
  obtain ⟨Z, S, ρ, E, R, RE, hw, L⟩ := h
  exact L.nx ρ Z S H σ (Nx.refl _) R RE hw
theorem ss_retN : SS c X W (.Return none pos) (fun E ρ S => E.rt .non S) := PS.imp ps_retN fun Dn σ H h => by
  obtain ⟨Z, S, ρ, E, R, RE, hw, L⟩ := h
  exact L.rt.go R (d := .non) rfl hw
theorem ss_ret {e : Expr} {we : WE} (he : SE c X W e we) : SS c X W (.Return (some e) pos) (fun E ρ S => we ρ S E.rt (E.ex ρ)) := PS.imp (ps_ret he) fun Dn σ H h => by
  obtain ⟨Z, S, ρ, E, R, RE, hw, L⟩ := h
  exact ⟨Z, S, ρ, _, E.ex ρ, R, RE, hw, L.rt, L.x RE⟩
theorem ss_expr {e : Expr} {we : WE} (he : SE c X W e we) (hs : swapsWith e none pos.line X.env = Pure.pure false) : SS c X W (.Expr e pos) (fun E ρ S => we ρ S (fun _ S1 => E.nx ρ S1) (E.ex ρ)) := PS.imp (ps_expr he hs) fun Dn σ H h =>
  LS.bind (R1 := RepD c) (w1 := we) (kk := fun _ E ρ S => E.nx ρ S) (t2 := fun _ Dn σ H => Dn.nx σ H) (fun d v σ H Dn Z S ρ E R RE rd q L => L.nx ρ Z S H σ (Nx.refl _) R RE q) h
theorem ss_if {t : Expr} {a b : List Stmt} {wt : WT} {wa wb : WS} (ht : ST c X W t wt) (ha : SB c X W a wa) (hb : SB c X W b wb) :
    SS c X W (.If t a b pos) (fun E ρ S => wt ρ S (fun c S1 => if c = true then wa E ρ S1 else wb E ρ S1) (E.ex ρ)) := PS.imp (ps_if ht ha hb) fun Dn σ H h =>
  LS.bind (R1 := SEq) (w1 := wt) (kk := fun c E ρ S => if c = true then wa E ρ S else wb E ρ S) (t2 := fun b Dn σ H => if b = true then LS c W wa Dn σ H else LS c W wb Dn σ H) (fun d v σ H Dn Z S ρ E R RE rd q L => by
    cases rd
    by_cases hd : d = true
    · rw [if_pos hd] at q ⊢; exact ⟨Z, S, ρ, E, R, RE, q, L⟩
    · rw [if_neg hd] at q ⊢; exact ⟨Z, S, ρ, E, R, RE, q, L⟩) h
theorem ss_for {t : CT} {tg iter : Expr} {body : List Stmt} {wi : WI} {wb : WS} (ok : XOk c k X) (hp : PassesOwn (model X.prog X.w) X.A X.env X.xe) (hi : PI X tg iter (LI c W wi)) (hg : PG X tg (tgH c.K t)) (hb : SB c X W body wb)
    (hs : ∀ x, foldedSetIterable iter X.env x = Pure.pure x) :
    SS c X W (.For tg iter body [] pos) (fun E ρ S => wi ρ S (fun its G S1 => forL (fun d E' ρ' S' => tgW t d ρ' S' fun ρ2 S2 => wb E' ρ2 S2) G its E ρ S1) (E.ex ρ)) := PS.imp (ps_for hp ok.calm hi hg hb hs) fun Dn σ H h => by
  obtain ⟨Z, S, ρ, E, R, RE, hw, L⟩ := h
  refine ⟨Z, S, ρ, _, E.ex ρ, R, RE, hw, fun its G J Z1 S1 H1 l1 R1 io kk => ?_, L.x RE⟩
  refine ⟨fun i m σ' H' => ∃ Z' S' ρ', Nx ⟨Z1, S1, H1⟩ ⟨Z', S', H'⟩ ∧ Rel c Z' S' H' ∧ REnv c Z' ρ' σ' ∧ i ≤ its.length ∧ m = its.length - i ∧
    forL (fun d E' ρ' S' => tgW t d ρ' S' fun ρ2 S2 => wb E' ρ2 S2) G (its.drop i) E ρ' S', ⟨its.length, Z1, S1, ρ, Nx.refl _, R1, RE.le l1.le, Nat.zero_le _, rfl, kk⟩, ?_⟩
  rintro i m σ' H' ⟨Z', S', ρ', l', R', RE', hi, rfl, f⟩
  by_cases hlt : i < its.length
  · have ed : its.drop i = its[i] :: its.drop (i + 1) := List.drop_eq_getElem_cons hlt
    rw [ed] at f
    obtain ⟨g, f⟩ := f
    have hget : its[i]? = some its[i] := List.getElem?_eq_getElem hlt
    obtain ⟨go, y⟩ := io.step Z' S' H' i _ (.of l') R' g hget
    refine .inr ⟨go, fun σ2 H2 => ∃ m', m' < its.length - i ∧ ∃ Z' S' ρ', Nx ⟨Z1, S1, H1⟩ ⟨Z', S', H2⟩ ∧ Rel c Z' S' H2 ∧ REnv c Z' ρ' σ2 ∧ i + 1 ≤ its.length ∧ m' = its.length - (i + 1) ∧
      forL (fun d E' ρ' S' => tgW t d ρ' S' fun ρ2 S2 => wb E' ρ2 S2) G (its.drop (i + 1)) E ρ' S', fun _ _ z => z, fun x H'' yl => ?_⟩
    obtain ⟨Z2, l2', R2, r2⟩ := y x H'' yl
    refine tg_ok f R2 (RE'.le l2'.le) r2 fun ρ2 σ2 RE2 hb2 => ?_
    refine ⟨Z2, S', ρ2, _, R2, RE2, hb2, fun ρ3 Z3 S3 H3 σ3 l3 R3 RE3 q => ?_, ((L.le l1).le (l'.trans l2')).rt, ((L.le l1).le (l'.trans l2')).ex⟩
    obtain ⟨S4, sb, q⟩ := q
    exact ⟨its.length - (i + 1), by omega, Z3, S4, ρ3, ((l'.trans l2').trans l3).trans (Nx.sub sb), R3.sub sb, RE3, hlt, rfl, q⟩
  · have e : i = its.length := by omega
    subst e
    rw [List.drop_length] at f
    exact .inl ⟨io.stop Z' S' H' (.of l') R' f.1, L.nx ρ' Z' S' H' σ' (l1.trans l') R' RE' f.2⟩
theorem ss_whl {t : Expr} {body : List Stmt} {wt : WT} {wb : WS} (hp : PassesOwn (model X.prog X.w) X.A X.env X.xe) (ht : ST c X W t wt) (hb : SB c X W body wb) :
    SS c X W (.While t body [] pos) (fun E ρ S => ∃ n, whileL wt wb n E ρ S) := PS.imp (ps_while hp ht hb) fun Dn σ H h => by
  obtain ⟨Z, S, ρ, E, R, RE, ⟨n, hw⟩, L⟩ := h
  refine ⟨fun m σ' H' => ∃ Z' S' ρ', Nx ⟨Z, S, H⟩ ⟨Z', S', H'⟩ ∧ Rel c Z' S' H' ∧ REnv c Z' ρ' σ' ∧ whileL wt wb m E ρ' S', ⟨n, Z, S, ρ, Nx.refl _, R, RE, hw⟩, ?_⟩
  rintro m σ' H' ⟨Z', S', ρ', l', R', RE', f⟩
  cases m with
  | zero => exact f.elim
  | succ m =>
    refine ⟨Z', S', ρ', _, E.ex ρ', R', RE', f, fun b b' Z2 S2 H2 l2' R2 eb q => ?_, (L.le l').x RE'⟩
    cases eb
    dsimp only at q
    by_cases hb' : b = true
    · rw [if_pos hb'] at q ⊢
      refine ⟨fun σ3 H3 => ∃ Z' S' ρ', Nx ⟨Z, S, H⟩ ⟨Z', S', H3⟩ ∧ Rel c Z' S' H3 ∧ REnv c Z' ρ' σ3 ∧ whileL wt wb m E ρ' S', fun σ3 H3 z => ⟨m, by omega, z⟩, ?_⟩
      refine ⟨Z2, S2, ρ', _, R2, RE'.le l2'.le, q, fun ρ3 Z3 S3 H3 σ3 l3 R3 RE3 q => ?_, ((L.le l').le l2').rt, ((L.le l').le l2').ex⟩
      obtain ⟨S4, sb, q⟩ := q
      exact ⟨Z3, S4, ρ3, ((l'.trans l2').trans l3).trans (Nx.sub sb), R3.sub sb, RE3, q⟩
    · rw [if_neg hb'] at q ⊢
      exact L.nx ρ' Z2 S2 H2 σ' (l'.trans l2') R2 (RE'.le l2'.le) q
theorem wipe_set {σ : L2.St} {v : Option V} : ∀ {vs : List Nat} {i : Nat}, i ∈ vs → L2.wipe (σ.set i v) vs = L2.wipe σ vs
  | [], _, h => by cases h
  | w :: vs, i, h => by
    unfold L2.wipe
    by_cases e : i ∈ vs
    · rw [wipe_set e]
    · have : i = w := by simpa [e] using h
      subst this
      have comm : ∀ (vs : List Nat) (σ : L2.St), i ∉ vs → L2.wipe (σ.set i v) vs = (L2.wipe σ vs).set i v := by
        intro vs
        induction vs with
        | nil => intro σ _; rfl
        | cons w vs ih =>
          intro σ hn
          have h1 : i ≠ w := fun z => hn (by simp [z])
          have h2 : i ∉ vs := fun z => hn (by simp [z])
          unfold L2.wipe
          rw [ih σ h2]
          exact List.set_comm _ _ h1
      rw [comm vs σ e, List.set_set]
theorem wipe_wipe {σ : L2.St} : ∀ {vs ws : List Nat}, (∀ i ∈ vs, i ∈ ws) → L2.wipe (L2.wipe σ vs) ws = L2.wipe σ ws
  | [], _, _ => rfl
  | v :: vs, ws, h => by
    show L2.wipe ((L2.wipe σ vs).set v none) ws = _
    rw [wipe_set (h v (by simp)), wipe_wipe fun i hi => h i (by simp [hi])]
theorem names_ok' {Z : Hp} {H : Hp} {ws : List Nat} : ∀ (is : List Nat) (l : List D) (vs : List V) (ρ : Env) (σ : L2.St) (Q : L2.St → Hp → Prop), (∀ i ∈ is, i ∈ ws) → l.length = is.length → RepL c Z l vs → REnv c Z ρ σ →
    (∀ σ2, REnv c Z ((is.zip l).foldl (fun r p => sto r p.1 p.2) ρ) σ2 → L2.wipe σ2 ws = L2.wipe σ ws → Q σ2 H) → (is.foldr (fun i r => gCons (gName i) r) gNil) vs σ H Q
  | [], [], _, ρ, σ, Q, _, _, r, RE, h => by cases r; exact ⟨rfl, h σ RE rfl⟩
  | i :: is, d :: l, _, ρ, σ, Q, hw, e, r, RE, h => by
    obtain ⟨v, t, rfl, q, r⟩ := r
    refine ⟨v, t, rfl, ?_⟩
    refine names_ok' is l t (sto ρ i d) _ Q (fun j hj => hw j (by simp [hj])) (by simpa using e) r ?_ fun σ2 a b => h σ2 a (b.trans (wipe_set (hw i (by simp))))
    rw [sto_eq]
    exact RE.set i q
  | [], _ :: _, _, _, _, _, _, e, _, _, _ => by cases e
  | _ :: _, [], _, _, _, _, _, e, _, _, _ => by cases e
theorem tg_ok' {t : CT} {Z : Hp} {S : Store} {H : Hp} {d : D} {v : V} {ρ : Env} {σ : L2.St} {ws : List Nat} {K : Env → Store → Prop} {Q : L2.St → Hp → Prop} (hc : ctIn ws t = true) (hw : tgW t d ρ S K) (R : Rel c Z S H) (RE : REnv c Z ρ σ) (r : RepD c Z d v)
    (h : ∀ ρ2 σ2, REnv c Z ρ2 σ2 → L2.wipe σ2 ws = L2.wipe σ ws → K ρ2 S → Q σ2 H) : tgH c.K t v σ H Q := by
  cases t with
  | nm i =>
    refine h _ _ ?_ (wipe_set (by simpa [ctIn] using hc)) hw
    rw [sto_eq]
    exact RE.set i r
  | tp is =>
    obtain ⟨l, rfl, hl, hw⟩ := of_wTup hw
    obtain ⟨a, vs, rfl, q, r⟩ := r
    have hc' : ∀ i ∈ is, i ∈ ws := by simpa [ctIn] using hc
    exact ⟨a, vs, rfl, SqT.le R.fz q, by rw [r.length, hl], names_ok' is l vs ρ σ Q hc' hl r RE fun σ2 RE2 e => h _ σ2 RE2 e hw⟩
abbrev W0 : WX := fun _ _ _ _ => False
theorem noXk {w : Wd} {σ : L2.St} : LkX c w noX (fun cls dd H' => W0 cls dd σ H') := fun _ _ _ _ _ _ _ _ _ z => z.elim
theorem comp_ok {t : CT} {wi : WI} {wt : WT} {we : WE} {own : List Nat} {σ : L2.St} {H : Hp} {Q : VK} {K : List D → Store → QE → Prop} (hc : ctIn own t = true)
    (h : LG c W (RepD c) (fun ρ S Q E => wi ρ S (fun its G S1 => leW its.length big (compL (tgW t) wt we G (wipeD ρ own) its [] S1 (fun l S2 => K l S2 Q))) E) σ H Q)
    (hK : ∀ l S QD Z H vs D Q w, K l S QD → Rel c Z S H → Z D = none → S D = none → H D = some (.lst vs) → RepL c Z l vs → Nx w ⟨Z, S, H⟩ → w.H D = none → Lk c w (RepD c) QD Q → Q (.ref D) H) :
    tLc (LI c W wi) (tgH c.K t) (LG c W0 SEq wt) (LG c W0 (RepD c) we) own σ H Q := by
  obtain ⟨Z, S, ρ, QD, ED, R, RE, hw, hq, hx⟩ := h
  refine ⟨Z, S, ρ, _, ED, R, RE, hw, fun its G J Z1 S1 H1 l1 R1 io kk => ?_, hx⟩
  intro D nD
  obtain ⟨hbig, kk⟩ := of_leW kk
  have z1 := R1.new nD
  refine ⟨fun i m H' => ∃ Z' S' acc vs, Nx ⟨Z1, S1, H1⟩ ⟨Z', S', H'⟩ ∧ Rel c Z' S' H' ∧ Z' D = none ∧ S' D = none ∧ H' D = some (.lst vs) ∧ RepL c Z' acc vs ∧ i ≤ its.length ∧ vs.length ≤ i ∧ m = its.length - i ∧
    compL (tgW t) wt we G (wipeD ρ own) (its.drop i) acc S' (fun l S2 => K l S2 QD), ⟨its.length, Z1, S1, [], [], Nx.beside nD _, R1.beside z1.2 z1.1 _ (no_tame nD), z1.2, z1.1, upd_same, rfl, Nat.zero_le _, Nat.le_refl _, rfl, kk⟩, ?_⟩
  rintro i m H' ⟨Z', S', acc, vs, l0, R', zD, sD, hD, ra, hi, hv, rfl, f⟩
  by_cases hlt : i < its.length
  · have ed : its.drop i = its[i] :: its.drop (i + 1) := List.drop_eq_getElem_cons hlt
    rw [ed] at f
    obtain ⟨g, f⟩ := f
    have hget : its[i]? = some its[i] := List.getElem?_eq_getElem hlt
    obtain ⟨go, y⟩ := io.step Z' S' H' i _ (.of l0) R' g hget
    refine .inr ⟨go, fun H2 => ∃ m', m' < its.length - i ∧ ∃ Z' S' acc vs, Nx ⟨Z1, S1, H1⟩ ⟨Z', S', H2⟩ ∧ Rel c Z' S' H2 ∧ Z' D = none ∧ S' D = none ∧ H2 D = some (.lst vs) ∧ RepL c Z' acc vs ∧ i + 1 ≤ its.length ∧ vs.length ≤ i + 1 ∧ m' = its.length - (i + 1) ∧
      compL (tgW t) wt we G (wipeD ρ own) (its.drop (i + 1)) acc S' (fun l S2 => K l S2 QD), fun _ z => z, fun x H'' yl => ?_⟩
    obtain ⟨Z2, l2', R2, r2⟩ := y x H'' yl
    have RE1 : REnv c Z2 (wipeD ρ own) (L2.wipe σ own) := (RE.le ((l1.trans l0).trans l2').le).wipe own
    refine tg_ok' hc f R2 RE1 r2 fun ρ2 σ2 RE2 ew hb2 => ⟨ew.trans (wipe_wipe fun _ z => z), ?_⟩
    refine ⟨Z2, S', ρ2, _, noX, R2, RE2, hb2, fun b b' Z3 S3 H3 l3 R3 eb q => ?_, noXk⟩
    cases eb
    dsimp only at q
    by_cases hb' : b = true
    · rw [if_pos hb'] at q ⊢
      refine ⟨Z3, S3, ρ2, _, noX, R3, RE2.le l3.le, q, fun d v Z4 S4 H4 l4 R4 rd q => ?_, noXk⟩
      obtain ⟨S5, sb, q⟩ := q
      obtain ⟨hD4, sD4, zD4⟩ := ((l2'.trans l3).trans l4).fm D _ hD tame_lst sD
      have sD5 : S5 D = none := ((Nx.sub (Z := Z4) (H := H4) sb).fm D _ hD4 tame_lst sD4).2.1
      have hs : its.length ≤ sizeLine := big_le hbig
      refine ⟨vs, hD4, by omega, its.length - (i + 1), by omega, Z4, S5, acc ++ [d], vs ++ [v], ?_, (R4.sub sb).beside (zD4 zD) sD5 _ (tame_at hD4 tame_lst), zD4 zD, sD5, upd_same, ?_, hlt, by simp; omega, rfl, q⟩
      · exact ((((l0.trans l2').trans l3).trans l4).trans (Nx.sub sb)).touch nD _
      · exact RepL.append (RepL.le ((l2'.trans l3).trans l4).le ra) ⟨v, [], rfl, rd, rfl⟩
    · rw [if_neg hb'] at q ⊢
      obtain ⟨S5, sb, q⟩ := q
      obtain ⟨hD3, sD3, zD3⟩ := (l2'.trans l3).fm D _ hD tame_lst sD
      have sD5 : S5 D = none := ((Nx.sub (Z := Z3) (H := H3) sb).fm D _ hD3 tame_lst sD3).2.1
      exact ⟨its.length - (i + 1), by omega, Z3, S5, acc, vs, ((l0.trans l2').trans l3).trans (Nx.sub sb), R3.sub sb, zD3 zD, sD5, hD3, RepL.le (l2'.trans l3).le ra, hlt, by omega, rfl, q⟩
  · have e : i = its.length := by omega
    subst e
    rw [List.drop_length] at f
    refine .inl ⟨io.stop Z' S' H' (.of l0) R' f.1, ?_⟩
    exact hK acc S' QD Z' H' vs D Q _ f.2 R' zD sD hD ra l0 nD (hq.le l1)
theorem newL_own {m : Bool} {l : List D} {S : Store} {QD : QE} {Z H : Hp} {vs : List V} {D : Addr} {Q : VK} {w : Wd} (h : newL m l S QD) (R : Rel c Z S H) (zD : Z D = none) (sD : S D = none) (hD : H D = some (.lst vs)) (r : RepL c Z l vs)
    (l0 : Nx w ⟨Z, S, H⟩) (nD : w.H D = none) (hq : Lk c w (RepD c) QD Q) : Q (.ref D) H := by
  cases m with
  | false =>
    have le : Le Z (upd Z D (.lst vs)) := le_upd zD
    refine hq (.fl l) (.ref D) (upd Z D (.lst vs)) S H ⟨l0.le.trans le, fun a o e t f => ?_⟩ ⟨fun a o e => ?_, fun a x e => ?_, nt_upd R.nt tame_lst.1, R.tb⟩ ⟨D, vs, rfl, upd_same, RepL.le le r⟩ h
    · have : a ≠ D := by intro z; subst z; rw [e] at nD; cases nD
      obtain ⟨h1, h2, h3⟩ := l0.fm a o e t f
      exact ⟨h1, h2, fun z => by show upd Z D _ a = none; rw [upd_ne this]; exact h3 z⟩
    · by_cases z : a = D
      · subst z; rw [upd_same] at e; rw [hD]; exact e
      · rw [upd_ne z] at e; exact R.fz a o e
    · have z : a ≠ D := by intro z; subst z; rw [sD] at e; cases e
      obtain ⟨n, o, q, r⟩ := R.cl a x e
      exact ⟨by rw [upd_ne z]; exact n, o, q, RepC.le le r⟩
  | true =>
    refine hq (.ref D) (.ref D) Z (put S D (.lst l)) H ⟨l0.le, fun a o e t f => ?_⟩ ⟨R.fz, fun a x e => ?_, R.nt, R.tb⟩ rfl (h D sD)
    · have : a ≠ D := by intro z; subst z; rw [e] at nD; cases nD
      obtain ⟨h1, h2, h3⟩ := l0.fm a o e t f
      exact ⟨h1, by show put S D _ a = none; rw [put_ne this]; exact h2, h3⟩
    · by_cases z : a = D
      · subst z; rw [put_same] at e; cases e; exact ⟨zD, _, hD, vs, rfl, r⟩
      · rw [put_ne z] at e; exact R.cl a x e
theorem RepK.any {Z : Hp} {kx : Str} : ∀ {l : List (Str × D)} {kvs : List (Key × V)}, RepK c Z l kvs → (kvs.any fun kv => decide (kv.1 = (Sum.inr kx : Key))) = (l.any fun kv => decide (kv.1 = kx))
  | [], _, r => by cases r; rfl
  | (j, x) :: l, _, r => by
    obtain ⟨w, t, rfl, p, r⟩ := r
    rw [List.any_cons, List.any_cons, RepK.any r]
    have : decide ((Sum.inr j : Key) = Sum.inr kx) = decide (j = kx) := by simp
    rw [this]
theorem RepK.map {Z : Hp} {kx : Str} {d : D} {v : V} (q : RepD c Z d v) : ∀ {l : List (Str × D)} {kvs : List (Key × V)}, RepK c Z l kvs →
    RepK c Z (l.map fun kv => if kv.1 = kx then (kv.1, d) else kv) (kvs.map fun kv => if kv.1 = (Sum.inr kx : Key) then (kv.1, v) else kv)
  | [], _, r => by cases r; rfl
  | (j, x) :: l, _, r => by
    obtain ⟨w, t, rfl, p, r⟩ := r
    rw [List.map_cons, List.map_cons]
    by_cases e : j = kx
    · subst e
      simp only [if_true]
      exact ⟨v, _, rfl, q, RepK.map q r⟩
    · have e' : ¬ ((Sum.inr j : Key) = Sum.inr kx) := fun z => e (Sum.inr.inj z)
      simp only [if_neg e, if_neg e']
      exact ⟨w, _, rfl, p, RepK.map q r⟩
theorem RepK.snoc {Z : Hp} {kx : Str} {d : D} {v : V} (q : RepD c Z d v) : ∀ {l : List (Str × D)} {kvs : List (Key × V)}, RepK c Z l kvs → RepK c Z (l ++ [(kx, d)]) (kvs ++ [(Sum.inr kx, v)])
  | [], _, r => by cases r; exact ⟨v, [], rfl, q, rfl⟩
  | (j, x) :: l, _, r => by
    obtain ⟨w, t, rfl, p, r⟩ := r
    exact ⟨w, _, rfl, p, RepK.snoc q r⟩
theorem RepK.put {Z : Hp} {kx : Str} {d : D} {v : V} (q : RepD c Z d v) {l : List (Str × D)} {kvs : List (Key × V)} (r : RepK c Z l kvs) : RepK c Z (putS kx d l) (putK kvs (Sum.inr kx) v) := by
  unfold putS putK
  rw [RepK.any r]
  split
  · exact RepK.map q r
  · exact RepK.snoc q r
theorem RepK.length {Z : Hp} : ∀ {l : List (Str × D)} {kvs : List (Key × V)}, RepK c Z l kvs → kvs.length = l.length
  | [], _, r => by cases r; rfl
  | (j, x) :: fs, _, r => by obtain ⟨w, t, rfl, p, r⟩ := r; simp [RepK.length r]
theorem putS_len (kx : Str) (d : D) (l : List (Str × D)) : (putS kx d l).length ≤ l.length + 1 := by
  unfold putS
  split <;> simp
theorem dcomp_ok {t : CT} {wi : WI} {wk wv : WE} {own : List Nat} {σ : L2.St} {H : Hp} {Q : VK} (hc : ctIn own t = true)
    (h : LG c W (RepD c) (fun ρ S Q E => wi ρ S (fun its G S1 => leW its.length big (dcompL (tgW t) wk wv G (wipeD ρ own) its [] S1 (fun l S2 => Q (.dk l) S2))) E) σ H Q) :
    tDc (LI c W wi) (tgH c.K t) tYes (LG c W0 (RepD c) wk) (LG c W0 (RepD c) wv) own σ H Q := by
  obtain ⟨Z, S, ρ, QD, ED, R, RE, hw, hq, hx⟩ := h
  refine ⟨Z, S, ρ, _, ED, R, RE, hw, fun its G J Z1 S1 H1 l1 R1 io kk => ?_, hx⟩
  intro D nD
  obtain ⟨hbig, kk⟩ := of_leW kk
  have z1 := R1.new nD
  refine ⟨fun i m H' => ∃ Z' S' acc kvs, Nx ⟨Z1, S1, H1⟩ ⟨Z', S', H'⟩ ∧ Rel c Z' S' H' ∧ Z' D = none ∧ S' D = none ∧ H' D = some (.dK kvs) ∧ RepK c Z' acc kvs ∧ i ≤ its.length ∧ acc.length ≤ i ∧ m = its.length - i ∧
    dcompL (tgW t) wk wv G (wipeD ρ own) (its.drop i) acc S' (fun l S2 => QD (.dk l) S2), ⟨its.length, Z1, S1, [], [], Nx.beside nD _, R1.beside z1.2 z1.1 _ (no_tame nD), z1.2, z1.1, upd_same, rfl, Nat.zero_le _, Nat.le_refl _, rfl, kk⟩, ?_⟩
  rintro i m H' ⟨Z', S', acc, kvs, l0, R', zD, sD, hD, ra, hi, hv, rfl, f⟩
  by_cases hlt : i < its.length
  · have ed : its.drop i = its[i] :: its.drop (i + 1) := List.drop_eq_getElem_cons hlt
    rw [ed] at f
    obtain ⟨g, f⟩ := f
    have hget : its[i]? = some its[i] := List.getElem?_eq_getElem hlt
    obtain ⟨go, y⟩ := io.step Z' S' H' i _ (.of l0) R' g hget
    refine .inr ⟨go, fun H2 => ∃ m', m' < its.length - i ∧ ∃ Z' S' acc kvs, Nx ⟨Z1, S1, H1⟩ ⟨Z', S', H2⟩ ∧ Rel c Z' S' H2 ∧ Z' D = none ∧ S' D = none ∧ H2 D = some (.dK kvs) ∧ RepK c Z' acc kvs ∧ i + 1 ≤ its.length ∧ acc.length ≤ i + 1 ∧ m' = its.length - (i + 1) ∧
      dcompL (tgW t) wk wv G (wipeD ρ own) (its.drop (i + 1)) acc S' (fun l S2 => QD (.dk l) S2), fun _ z => z, fun x H'' yl => ?_⟩
    obtain ⟨Z2, l2', R2, r2⟩ := y x H'' yl
    have RE1 : REnv c Z2 (wipeD ρ own) (L2.wipe σ own) := (RE.le ((l1.trans l0).trans l2').le).wipe own
    refine tg_ok' hc f R2 RE1 r2 fun ρ2 σ2 RE2 ew hb2 => ⟨ew.trans (wipe_wipe fun _ z => z), ?_⟩
    show LG c W0 (RepD c) wk σ2 H'' _
    refine ⟨Z2, S', ρ2, _, noX, R2, RE2, hb2, fun dk vk Z3 S3 H3 l3 R3 rk q => ?_, noXk⟩
    refine ⟨Z3, S3, ρ2, _, noX, R3, RE2.le l3.le, q, fun d v Z4 S4 H4 l4 R4 rd q => ?_, noXk⟩
    obtain ⟨kx, S5, rfl, sb, q⟩ := q
    cases rk
    obtain ⟨hD4, sD4, zD4⟩ := ((l2'.trans l3).trans l4).fm D (.dK kvs) hD tame_dK sD
    have sD5 : S5 D = none := ((Nx.sub (Z := Z4) (H := H4) sb).fm D (.dK kvs) hD4 tame_dK sD4).2.1
    have hs : its.length ≤ sizeLine := big_le hbig
    have rk4 := RepK.le ((l2'.trans l3).trans l4).le ra
    have hl := putS_len kx d acc
    refine ⟨kvs, Sum.inr kx, rfl, hD4, by rw [rk4.length]; omega, its.length - (i + 1), by omega, Z4, S5, putS kx d acc, putK kvs (Sum.inr kx) v, ?_, (R4.sub sb).beside (zD4 zD) sD5 _ (tame_at hD4 tame_dK), zD4 zD, sD5, upd_same, RepK.put rd rk4, hlt, by omega, rfl, q⟩
    exact ((((l0.trans l2').trans l3).trans l4).trans (Nx.sub sb)).touch nD _
  · have e : i = its.length := by omega
    subst e
    rw [List.drop_length] at f
    refine .inl ⟨io.stop Z' S' H' (.of l0) R' f.1, ?_⟩
    have le : Le Z' (upd Z' D (.dK kvs)) := le_upd zD
    refine (hq.le l1) (.dk acc) (.ref D) (upd Z' D (.dK kvs)) S' H' ⟨l0.le.trans le, fun a o e t f => ?_⟩ ⟨fun a o e => ?_, fun a x e => ?_, nt_upd R'.nt tame_dK.1, R'.tb⟩ ⟨D, kvs, rfl, upd_same, RepK.le le ra⟩ f.2
    · have : a ≠ D := by intro z; subst z; exact absurd (e.symm.trans nD) (by simp)
      obtain ⟨h1, h2, h3⟩ := l0.fm a o e t f
      exact ⟨h1, h2, fun z => by show upd Z' D _ a = none; rw [upd_ne this]; exact h3 z⟩
    · by_cases z : a = D
      · subst z; rw [upd_same] at e; rw [hD]; exact e
      · rw [upd_ne z] at e; exact R'.fz a o e
    · have z : a ≠ D := by intro z; subst z; rw [sD] at e; cases e
      obtain ⟨n, o, q, r⟩ := R'.cl a x e
      exact ⟨by rw [upd_ne z]; exact n, o, q, RepC.le le r⟩
theorem blk_ok {s : Shared} {H : Hp} {scope : Scope} {C : Addr} {cl : List (Str × Addr)} {fp : List Addr} (ok : XOk c k X) : XOk c k (X.blk s H scope (compEnvC scope cl C X.env) fp) := ⟨ok.hK, ok.hmg, ok.calm, ok.room, ok.nd, ok.hp, ok.lam, ok.eg, ok.tp⟩
theorem blk_fn {s : Shared} {H : Hp} {scope : Scope} {C : Addr} {cl : List (Str × Addr)} {fp : List Addr} : FnB (X.blk s H scope (compEnvC scope cl C X.env) fp) scope := fun x hx => by
  unfold locB at hx
  cases e : scope.names.lookup x with
  | none => rw [e] at hx; cases hx
  | some q =>
    rw [e] at hx
    cases q with
    | «local» => exact ⟨.inl (lookup_relabel_local e), .inr (lookup_relabel_local e)⟩
    | cell => exact ⟨.inr (lookup_relS_keep (sc := X.env.scope) (k := .cell) (by decide) e), .inl (by show (scope.names.lookup x == some .cell) = true; rw [e]; rfl)⟩
    | _ => cases hx
theorem takesW0 {Y : Cx} : Takes Y W0 := takes0
end
end L3
set_option maxHeartbeats 2000000
namespace L3
open PySem PySem.Spec PyProof.Rows L2
theorem call_form {o : Expr} {m : Str} {apos pos : Pos} {args : List Expr} {env : PySem.Env} (hb : attributeBase o m env (eval o env) = eval o env)
    (hf : ((backTo pos (starEach args env)).all (fun x => !x.1) && (backToKw pos (keywordEach [] env)).all (fun x => x.1.isSome)
      && decide (args.length + ([] : List Keyword).length + (if ([] : List Keyword).isEmpty then 0 else 1) < 30)) = true) (hl : (apos.endLine == pos.line) = true) :
    ∃ pl, eval (.Call (.Attribute o m apos) args [] pos) env = (do
      let ov ← eval o env
      standAt apos.atName
      let (f, first) ← holding [ov] (getMethod ov m pl)
      callWith pos f first (backTo pos (starEach args env)) (backToKw pos (keywordEach [] env))) := by
  refine ⟨?_, ?_⟩
  rotate_left
  · rw [arm_eval_Call, hb]
    have hform : methodCallForm (args.length + ([] : List Keyword).length) (backTo pos (starEach args env)) (backToKw pos (keywordEach [] env)) = true := by
      have := hf
      unfold methodCallForm
      exact this
    have hpos : methodCallPos true o env apos pos = pure pos := by unfold methodCallPos; simp [hl]
    unfold methodCall
    rw [hform, hpos]
    simp only [pure_bind]
    rfl
section
variable {X : Cx} {CX : CXT} {k : Nat} {f C : Addr} {fd : FuncData} {ps : List Str} {sp : Sp} {dvs : List V} {ds : List Value} {E : L2.St → XK} {x m : Str} {p pos apos : Pos} {e o : Expr} {es : List Expr} {ta : TE} {t : TA}
def tMakeSD (C : Addr) (sp : Sp) (dvs : List V) (E : L2.St → XK) (t : TA) : TE := fun σ H Q => t σ H fun vs H1 => ∀ x dx, H1 x = none → H1 dx = none → dx ≠ x →
  sp (.ref x :: (vs ++ dvs)) (upd (upd H1 dx (.own x)) x (.ins C dx [])) (fun v H2 => v = .non ∧ Q (.ref x) H2) (E σ)
theorem run_makeSD {pins : List (Addr × Obj)} {σ : L2.St} {H : Hp} {s : Shared} {Q : VK} {us : List Value} {vs : List V} (M : Mk X.K C f) (F : FnOk X.prog X.w X.K X.mg X.base CX k f fd ps sp) (hr : Room (k + 1) X.A) (hb : Binds X.K fd ps ds) (hd : Vals dvs ds)
    (hx : PassesAt CX X σ (E σ)) (I : Inv X pins σ H s) (r : Vals vs us)
    (h : ∀ x dx, H x = none → H dx = none → dx ≠ x → sp (.ref x :: (vs ++ dvs)) (upd (upd H dx (.own x)) x (.ins C dx [])) (fun v H2 => v = .non ∧ Q (.ref x) H2) (E σ)) :
    wpAny (model X.prog X.w) X.A (call (.ref C) us) (EP X pins σ Q) X.xe s := by
  have hq := h (s.heap.objs.size + 1) s.heap.objs.size (I.hok.fresh (Nat.le_succ _)) (I.hok.fresh (Nat.le_refl _)) (Nat.ne_of_lt (Nat.lt_succ_self _))
  have J := Inv.made (C := C) I
  have q2 : Vals (V.ref (s.heap.objs.size + 1) :: (vs ++ dvs)) (Value.ref (s.heap.objs.size + 1) :: (us ++ ds)) := .cons rfl (r.append hd)
  have hl : (Value.ref (s.heap.objs.size + 1) :: us ++ ds).length = ps.length := by
    have z := q2.length
    rw [F.len _ _ _ _ hq] at z
    exact z.symm
  refine wpAny_call (make_map (f := f) I.kIn M.makes M.init (beq_iff_eq.mp M.fn) (codeAny_mono (F.run _ X.stack _ _ ⟨Value.ref (s.heap.objs.size + 1) :: us, []⟩ (Value.ref (s.heap.objs.size + 1) :: (us ++ ds)) _ _ (E σ) (hr.make C us [])
    (J.env0.make C us []) (hb _ (Value.ref (s.heap.objs.size + 1) :: us) J.kIn hl) q2 hq) fun r s' hq' => ?_))
  cases r with
  | error e => exact hx pins _ _ e s' J hq'
  | ok fl =>
    cases fl with
    | ret u =>
      obtain ⟨v, H', I3, rv, ev, q3⟩ := J.after hq'
      subst ev
      exact ⟨rv, ⟨V.ref (s.heap.objs.size + 1), H', I3, rfl, q3⟩⟩
    | next => exact False.elim hq'
    | brk => exact False.elim hq'
    | cont => exact False.elim hq'
theorem pe_makeSD (M : Mk X.K C f) (F : FnOk X.prog X.w X.K X.mg X.base CX k f fd ps sp) (hr : Room (k + 1) X.A) (hg : Gl X x) (hm : X.mg x = some (.ref C)) (hb : Binds X.K fd ps ds) (hd : Vals dvs ds) (hx : ∀ σ, PassesAt CX X σ (E σ))
    (ha : PA X (e :: es) t) (hdb : (x == ("__debug__" : Str)) = false) (he : starEach (e :: es) X.env = (false, eval e X.env) :: starEach es X.env) (hpl : (backTo pos (starEach es X.env)).any (·.1) = false) :
    PE X (.Call (.Name x p) (e :: es) [] pos) (tMakeSD C sp dvs E t) :=
  ⟨fun pins s σ H Q I h => wpAny_Call_Name_kw (ld_glob I hg hm (PySem.W.callWith_K (h₀ := X.base) I.ok.mod.kin M.kp (thn (ha.run pos pins s σ H _ I h) fun us s1 ⟨vs, H1, I1, r, q⟩ => ⟨I1.kIn, run_makeSD M F hr hb hd (hx σ) I1 r q⟩) he hpl) hdb)⟩
def tMethSD (C : Addr) (m : Str) (sp : Sp) (dvs : List V) (E : L2.St → XK) (ta : TE) (t : TA) : TE := fun σ H Q => ta σ H fun x H1 => ∃ a dx fs, x = .ref a ∧ H1 a = some (.ins C dx fs) ∧ fs.lookup m = none ∧
  t σ H1 fun vs H2 => sp (x :: (vs ++ dvs)) H2 Q (E σ)
theorem pe_methSD {pl : Sem Bool} (he : PE X o ta) (c : Cls X.K C) (hm : Meth X.K C m f) (F : FnOk X.prog X.w X.K X.mg X.base CX k f fd ps sp) (hr : Room k X.A) (hb : Binds X.K fd ps ds) (hd : Vals dvs ds) (hx : ∀ σ, PassesAt CX X σ (E σ)) (ha : PA X (e :: es) t)
    (hst : starEach (e :: es) X.env = (false, eval e X.env) :: starEach es X.env) (hpl : (backTo pos (starEach es X.env)).any (·.1) = false)
    (ht : eval (.Call (.Attribute o m apos) (e :: es) [] pos) X.env = (do
      let ov ← eval o X.env
      standAt apos.atName
      let (f, first) ← holding [ov] (getMethod ov m pl)
      callWith pos f first (backTo pos (starEach (e :: es) X.env)) (backToKw pos (keywordEach [] X.env)))) :
    PE X (.Call (.Attribute o m apos) (e :: es) [] pos) (tMethSD C m sp dvs E ta t) := by
  refine ⟨fun pins s σ H Q I h => ?_⟩
  refine PySem.W.methodCall_KW (pl := pl) (thn (he.run pins s σ H _ I h) fun u s1 ⟨x, H1, I1, rx, a, dx, fs, ex, ea, l, q⟩ => ?_) ht
  subst ex
  obtain rfl : u = Value.ref a := rx
  refine getmeth_ok I1 ea c hm l ?_
  refine PySem.W.callWith_K (first := [.ref a]) (h₀ := X.base) I.ok.mod.kin hm.kp (thn (ha.run pos pins s1 σ H1 _ I1 q) fun us s2 ⟨vs, H2, I2, r, q2⟩ => ⟨I2.kIn, ?_⟩) hst hpl
  exact run_fnSD (us := .ref a :: us) (vs := .ref a :: vs) F hr hb hd (hx σ) I2 (.cons rfl r) q2
theorem pe_methSD0 {pl : Sem Bool} (he : PE X o ta) (c : Cls X.K C) (hm : Meth X.K C m f) (F : FnOk X.prog X.w X.K X.mg X.base CX k f fd ps sp) (hr : Room k X.A) (hb : Binds X.K fd ps ds) (hd : Vals dvs ds) (hx : ∀ σ, PassesAt CX X σ (E σ))
    (ht : eval (.Call (.Attribute o m apos) [] [] pos) X.env = (do
      let ov ← eval o X.env
      standAt apos.atName
      let (f, first) ← holding [ov] (getMethod ov m pl)
      callWith pos f first (backTo pos (starEach [] X.env)) (backToKw pos (keywordEach [] X.env)))) :
    PE X (.Call (.Attribute o m apos) [] [] pos) (tMethSD C m sp dvs E ta tNil) := by
  refine ⟨fun pins s σ H Q I h => ?_⟩
  refine PySem.W.methodCall_KW (pl := pl) (thn (he.run pins s σ H _ I h) fun u s1 ⟨x, H1, I1, rx, a, dx, fs, ex, ea, l, q⟩ => ?_) ht
  subst ex
  obtain rfl : u = Value.ref a := rx
  refine getmeth_ok I1 ea c hm l ?_
  exact PySem.W.callWith_K0 (first := [.ref a]) I1.kIn hm.kp (run_fnSD (us := [.ref a]) (vs := [.ref a]) F hr hb hd (hx σ) I1 (.cons rfl .nil) q)
end
section
variable {c : Ctx} {k : Nat} {X : Cx} {W : WX} {pos : Pos}
theorem lift_of {sp : DSp} {spH : Sp} {dvs : List V} (hi : ∀ vs H Q E, liftSp c sp vs H Q E → spH (vs ++ dvs) H Q E) {Z : Hp} {S : Store} {H : Hp} {ds : List D} {vs : List V} {QD : QE} {ED : QX} {Q : VK} {E : XK} (R : Rel c Z S H) (rd : RepL c Z ds vs)
    (h : sp ds S QD ED) (hq : Lk c ⟨Z, S, H⟩ (RepD c) QD Q) (hx : LkX c ⟨Z, S, H⟩ ED E) : spH (vs ++ dvs) H Q E := hi _ _ _ _ ⟨Z, S, ds, QD, ED, R, rd, h, hq, hx⟩
theorem se_mk {x : Str} {p : Pos} {e : Expr} {es : List Expr} {m : Bool} {cl : Nat} {sp : DSp} {wl : WA} (ok : XOk c k X) (tk : Takes X W) (km : KMk c k (rn X) x cl sp) (hg : Gl X x) (hn : okN x = true) (hs : noStar (e :: es) = true) (ha : SA c X W (e :: es) wl) :
    SE c X W (.Call (.Name x p) (e :: es) [] pos) (wMk m cl sp wl) := by
  obtain ⟨C, f, k', hk, hC, hm, M, fd, ps, ds, dvs, spH, F, hb, hd, hi⟩ := km
  obtain ⟨h1, h2⟩ := star1 X.env hs
  refine PE.imp (pe_makeSD M F (ok.room.mono hk) hg hm hb hd (E := fun σ cls d H => W cls d σ H) (fun σ => passAt tk σ) ha (ok1 hn) h1 (star2 X.env pos h2)) fun σ H Q h => ?_
  refine LG.bind (R1 := RepL c) (R2 := RepD c) (w1 := wl) (k := fun ds ρ S Q E => wMk1 m cl sp ds S Q E)
    (t2 := fun vs σ H Q => ∀ x dx, H x = none → H dx = none → dx ≠ x → spH (.ref x :: (vs ++ dvs)) (upd (upd H dx (.own x)) x (.ins C dx [])) (fun v H2 => v = .non ∧ Q (.ref x) H2) (fun cls d H => W cls d σ H))
    (fun ds vs σ H Q Z S ρ QD ED R RE rd kk hq hx => ?_) h
  intro x dx nx ndx ne
  have nx' : (upd H dx (HO.own x)) x = none := by rw [upd_ne (Ne.symm ne)]; exact nx
  obtain ⟨z1, z2⟩ := R.new ndx
  have R1 := R.beside z2 z1 (.own x) (no_tame ndx)
  have l1 : Nx ⟨Z, S, H⟩ ⟨Z, S, upd H dx (.own x)⟩ := Nx.beside ndx _
  obtain ⟨sx, R2⟩ := R1.fresh nx' (o := .ins C dx []) (x := .ins cl []) ⟨C, dx, [], rfl, hC, rfl⟩
  have l2 := l1.trans (Nx.fresh (Z := Z) (S := S) nx' (.ins C dx []) (.ins cl []))
  refine lift_of (vs := .ref x :: vs) (ds := .ref x :: ds) hi R2 ⟨_, _, rfl, rfl, rd⟩ (kk x sx) ?_ ?_
  · rintro d v Z' S' H' l R' rd' ⟨rfl, q⟩
    cases rd'
    refine ⟨rfl, ?_⟩
    cases m with
    | true => exact hq (.ref x) (.ref x) Z' S' H' (l2.trans l) R' rfl q
    | false =>
      obtain ⟨fs, S3, e3, sb, q⟩ := q
      obtain ⟨o, ho, rc, le, R3⟩ := R'.freeze e3
      obtain ⟨C', dx', vfs, rfl, hc', rf⟩ := rc
      obtain ⟨zn, _⟩ := R'.cl _ _ e3
      exact hq (.obj cl fs) (.ref x) _ S3 H' (((l2.trans l).trans (Nx.freeze e3 zn _)).trans (Nx.sub sb)) (R3.sub sb) ⟨x, C', dx', vfs, rfl, hc', upd_same, RepF.le le rf⟩ q
  · rintro xx Z' S' H' cls dd l R' rx ⟨S3, sb, q⟩
    exact hx xx Z' S3 H' cls dd ((l2.trans l).trans (Nx.sub sb)) (R'.sub sb) rx q
theorem se_prop {cl : Nat} {x : Str} {sp : DSp} {o : Expr} {wo : WE} (ok : XOk c k X) (hb : baseOk o = true) (kp : KProp c k (rn X) cl x sp) (ho : SE c X W o wo) :
    SE c X W (.Attribute o x pos) (fun ρ S Q E => wo ρ S (fun d S1 => wFld cl d S1 fun _ => sp [d] S1 Q noX) E) := by
  obtain ⟨C, p, g, k', hk, hC, hcl, hp, fd, ps, ds, dvs, spH, F, hbi, hd, hi⟩ := kp
  refine PE.imp (pe_prop (E := fun _ _ _ => False) ho hcl hp F (ok.room.mono hk) hbi hd passL (base_ok hb _)) fun σ H Q h => ?_
  refine LG.bind (R1 := RepD c) (R2 := RepD c) (w1 := wo) (k := fun d ρ S Q E => wFld cl d S fun _ => sp [d] S Q noX)
    (t2 := fun x σ H Q => ∃ a dx fs, x = .ref a ∧ H a = some (.ins C dx fs) ∧ spH (.ref a :: dvs) H Q (fun _ _ _ => False)) (fun d v σ H Q Z S ρ QD ED R RE rd kk hq hx => ?_) h
  obtain ⟨a, C', dx, vfs, fs, rfl, hc, hH, rf, kk⟩ := fld_of R rd kk
  rw [hC] at hc; cases hc
  exact ⟨a, dx, vfs, rfl, hH, lift_of (vs := [.ref a]) (ds := [d]) hi R ⟨_, _, rfl, rd, rfl⟩ kk hq fun _ _ _ _ _ _ _ _ _ z => z.elim⟩
theorem RepF.noF {Z : Hp} {i : Nat} (hi : ∀ j, c.nm j = c.nm i → j = i) : ∀ {fs : List (Nat × D)} {vfs : List (Str × V)} {K : Prop}, RepF c Z fs vfs → noF i fs K → vfs.lookup (c.nm i) = none ∧ K
  | [], _, _, r, h => by cases r; exact ⟨rfl, h⟩
  | (j, d) :: fs, _, K, r, h => by
    obtain ⟨v, t, rfl, q, r⟩ := r
    unfold L3.noF at h
    by_cases e : j = i
    · rw [if_pos e] at h; exact h.elim
    · rw [if_neg e] at h
      obtain ⟨h1, h2⟩ := RepF.noF hi r h
      refine ⟨?_, h2⟩
      have : (c.nm i == c.nm j) = false := by
        rw [beq_eq_false_iff_ne]
        intro z; exact e (hi j z.symm)
      rw [List.lookup_cons, this]
      exact h1
theorem omet_of {cl i : Nat} {sp : DSp} {spH : Sp} {dvs : List V} {C : Addr} {wo : WE} {wl : WA} {ta : TA} (hC : c.cn cl = some C) (hnm : ∀ j, c.nm j = c.nm i → j = i) (hi : ∀ vs H Q E, liftSp c sp vs H Q E → spH (vs ++ dvs) H Q E)
    (hta : ∀ σ H Q, LG c W (RepL c) wl σ H Q → ta σ H Q) {σ : L2.St} {H : Hp} {Q : VK}
    (h : LG c W (RepD c) (fun ρ S Q E => wo ρ S (fun d S1 => wFld cl d S1 fun fs => noF i fs (wl ρ S1 (fun ds S2 => sp (d :: ds) S2 Q E) E)) E) σ H Q) :
    tMethSD C (c.nm i) spH dvs (fun σ cls d H => W cls d σ H) (LG c W (RepD c) wo) ta σ H Q := by
  refine LG.bind (R1 := RepD c) (R2 := RepD c) (w1 := wo) (k := fun d ρ S Q E => wFld cl d S fun fs => noF i fs (wl ρ S (fun ds S2 => sp (d :: ds) S2 Q E) E))
    (t2 := fun x σ H Q => ∃ a dx fs, x = .ref a ∧ H a = some (.ins C dx fs) ∧ fs.lookup (c.nm i) = none ∧ ta σ H fun vs H2 => spH (x :: (vs ++ dvs)) H2 Q (fun cls d H => W cls d σ H)) (fun d v σ H Q Z S ρ QD ED R RE rd kk hq hx => ?_) h
  obtain ⟨a, C', dx, vfs, fs, rfl, hc, hH, rf, kk⟩ := fld_of R rd kk
  rw [hC] at hc; cases hc
  obtain ⟨hl, kk⟩ := RepF.noF hnm rf kk
  refine ⟨a, dx, vfs, rfl, hH, hl, hta _ _ _ ⟨Z, S, ρ, _, ED, R, RE, kk, ?_, hx⟩⟩
  rintro ds vs Z' S' H' l R' rl q
  exact lift_of (vs := .ref a :: vs) (ds := d :: ds) hi R' ⟨_, _, rfl, RepD.le l.le rd, rl⟩ q (hq.le l) (hx.le l)
theorem se_omet {cl i : Nat} {sp : DSp} {o e : Expr} {es : List Expr} {apos : Pos} {wo : WE} {wl : WA} (ok : XOk c k X) (tk : Takes X W) (hb : baseOk o = true) (hl : (apos.endLine == pos.line) = true) (hlen : (e :: es).length < 29) (hs : noStar (e :: es) = true)
    (km : KMeth c k (rn X) cl i sp) (ho : SE c X W o wo) (ha : SA c X W (e :: es) wl) :
    SE c X W (.Call (.Attribute o (c.nm i) apos) (e :: es) [] pos) (fun ρ S Q E => wo ρ S (fun d S1 => wFld cl d S1 fun fs => noF i fs (wl ρ S1 (fun ds S2 => sp (d :: ds) S2 Q E) E)) E) := by
  obtain ⟨C, f, k', hk, hC, hcl, hm, hnm, fd, ps, ds, dvs, spH, F, hbi, hd, hi⟩ := km
  obtain ⟨h1, h2⟩ := star1 X.env hs
  have few : ((backTo pos (starEach (e :: es) X.env)).all (fun x => !x.1) && (backToKw pos (keywordEach [] X.env)).all (fun x => x.1.isSome)
      && decide ((e :: es).length + ([] : List Keyword).length + (if ([] : List Keyword).isEmpty then 0 else 1) < 30)) = true := by
    rw [star3 X.env pos hs]
    have : decide ((e :: es).length + ([] : List Keyword).length + (if ([] : List Keyword).isEmpty then 0 else 1) < 30) = true := by
      refine decide_eq_true ?_
      show (e :: es).length + 0 + 0 < 30
      omega
    rw [this]
    rfl
  obtain ⟨pl, ht⟩ := call_form (base_ok hb (eval o X.env)) few hl
  exact PE.imp (pe_methSD ho hcl hm F (ok.room.mono hk) hbi hd (E := fun σ cls d H => W cls d σ H) (fun σ => passAt tk σ) ha h1 (star2 X.env pos h2) ht) fun σ H Q h => omet_of hC hnm hi (fun _ _ _ z => z) h
theorem se_omet0 {cl i : Nat} {sp : DSp} {o : Expr} {apos : Pos} {wo : WE} (ok : XOk c k X) (tk : Takes X W) (hb : baseOk o = true) (hl : (apos.endLine == pos.line) = true)
    (km : KMeth c k (rn X) cl i sp) (ho : SE c X W o wo) :
    SE c X W (.Call (.Attribute o (c.nm i) apos) [] [] pos) (fun ρ S Q E => wo ρ S (fun d S1 => wFld cl d S1 fun fs => noF i fs (sp [d] S1 Q E)) E) := by
  obtain ⟨C, f, k', hk, hC, hcl, hm, hnm, fd, ps, ds, dvs, spH, F, hbi, hd, hi⟩ := km
  obtain ⟨pl, ht⟩ := call_form (args := []) (base_ok hb (eval o X.env)) rfl hl
  exact PE.imp (pe_methSD0 ho hcl hm F (ok.room.mono hk) hbi hd (E := fun σ cls d H => W cls d σ H) (fun σ => passAt tk σ) ht) fun σ H Q h => omet_of (wl := fun _ S Q _ => Q [] S) hC hnm hi (fun σ H Q h => h.pure fun Z S ρ QD ED R RE hw hq hx => hq.go R (d := []) rfl hw) h
end
end L3
namespace L3
open PySem PySem.Spec PyProof.Rows L2
section
variable {c : Ctx} {k : Nat} {X : Cx} {W : WX} {pos : Pos}
theorem of_memW {j : Nat} : ∀ {ks : List Nat} {K : Prop}, memW j ks K → j ∈ ks ∧ K
  | [], _, h => h.elim
  | i :: r, K, h => by
    unfold memW at h
    by_cases e : Nat.beq i j = true
    · rw [if_pos e] at h
      exact ⟨by rw [Nat.eq_of_beq_eq_true e]; exact List.mem_cons_self, h⟩
    · rw [if_neg e] at h
      exact ⟨List.mem_cons_of_mem _ (of_memW h).1, (of_memW h).2⟩
theorem se_isi {T : IsT} {ks : List Nat} {o : Expr} {p p2 : Pos} {wo : WE} (ok : XOk c k X) (ki : KIsi c (rn X) T ks) (hg : Gl X "isinstance") (hg2 : Gl X T.name) (hn2 : okN T.name = true) (hnm : T.name ≠ "__name__") (hs : noStar [o, .Name T.name p2] = true) (ho : SE c X W o wo) :
    SE c X W (.Call (.Name "isinstance" p) [o, .Name T.name p2] [] pos) (fun ρ S Q E => wo ρ S (fun d S1 => isW T ks d S1 fun b => Q (.bl b) S1) E) := by
  obtain ⟨s1, s2⟩ := star1 X.env hs
  obtain ⟨s3, s4⟩ := star1 X.env s2
  obtain ⟨hi, vc, uc, kc, hname, hbt, hins⟩ := ki
  have hc : PE X (.Name T.name p2) (tC vc) := by
    rcases hname with ⟨h1, n, h2, rfl⟩ | ⟨h1, h2⟩
    · exact pe_bltn hg2 h1 h2 rfl hnm (ok1 hn2)
    · exact pe_glob hg2 h1 h2 (ok1 hn2)
  refine PE.imp (pe_callB call_isi hg hi (by decide +kernel) (pa_cons ho (pa_cons hc pa_nil s3) s1) (by decide) (by decide) s1 (star2 X.env pos s2)) fun σ H Q h => ?_
  refine LG.bind (R1 := RepD c) (R2 := RepD c) (w1 := wo) (k := fun d ρ S Q E => isW T ks d S fun b => Q (.bl b) S) (t2 := fun x σ H Q => rIsi X.K [x, vc] H Q) (fun d v σ H Q Z S ρ QD ED R RE rd kk hq hx => ?_) h
  have fin : ∀ {t : String}, t ∈ tyNames → TyX X.K H v (.type t) → QD (.bl (T.ans t)) S → rIsi X.K [v, vc] H Q := fun {t} ht ty q => ⟨v, vc, .type t, uc, T.ans t, rfl, kc, ty, hbt t ht, hq.go R (d := .bl _) rfl q⟩
  have ins : ∀ {a C dx : Addr} {fs : List (Str × V)} {j : Nat}, v = .ref a → c.cn j = some C → H a = some (.ins C dx fs) → j ∈ ks → QD (.bl (T.ansO j)) S → rIsi X.K [v, vc] H Q := fun {a C dx fs j} ev hC hH hj q => by
    subst ev
    obtain ⟨cl, ha, hn, htk, hm, hko⟩ := hins j hj C hC
    exact ⟨_, vc, .ref C, uc, T.ansO j, rfl, kc, .base (.ins hH cl ha hn htk hm), hko, hq.go R (d := .bl _) rfl q⟩
  cases d with
  | non => cases rd; exact fin (by decide) (.base .non) kk
  | bl b => cases rd; exact fin (by decide) (.base (.bl b)) kk
  | int i => cases rd; exact fin (by decide) (.base (.int i)) kk
  | str y => cases rd; exact fin (by decide) (.base (.str y)) kk
  | tup l =>
    obtain ⟨a, vs, rfl, q, r⟩ := rd
    refine fin (by decide) ?_ kk
    rcases SqT.le R.fz q with (e | ⟨o, e⟩) | ⟨o, its, n, hk, hc, _⟩
    · exact .base (.tup e)
    · exact .fTuple e
    · exact .kTuple (by rw [ok.hK]; exact hk) hc
  | fl l =>
    obtain ⟨a, vs, rfl, q, r⟩ := rd
    exact fin (by decide) (.base (.lst (R.fz _ _ q))) kk
  | kl l =>
    obtain ⟨a, vs, rfl, q, r⟩ := rd
    refine fin (by decide) ?_ kk
    rcases SqL.le R.fz q with (e | ⟨o, e⟩) | ⟨o, its, n, hk, hc, _⟩
    · exact .base (.lst e)
    · exact .base (.frz e)
    · exact .kList (by rw [ok.hK]; exact hk) hc
  | dk l =>
    obtain ⟨a, kvs, rfl, q, r⟩ := rd
    exact fin (by decide) (.base (.dK (R.fz _ _ q))) kk
  | obj j fs =>
    obtain ⟨a, C, dx, vfs, rfl, hC, hz, rf⟩ := rd
    obtain ⟨hj, q⟩ := of_memW kk
    exact ins rfl hC (R.fz _ _ hz) hj q
  | ref a =>
    cases rd
    obtain ⟨x, e, kk⟩ := kk
    obtain ⟨_, ob, hH, rc⟩ := R.cl a x e
    cases x with
    | lst l => obtain ⟨vs, rfl, _⟩ := rc; exact fin (by decide) (.base (.lst hH)) kk
    | dct l => obtain ⟨vs, rfl, _⟩ := rc; exact fin (by decide) (.base (.dK hH)) kk
    | ins j fs =>
      obtain ⟨C, dx, vfs, rfl, hC, rf⟩ := rc
      obtain ⟨hj, q⟩ := of_memW kk
      exact ins rfl hC hH hj q
  | _ => exact kk.elim
end
end L3
namespace L3
open PySem PySem.Spec PyProof.Rows L2
def QEq : Hp → Str → Str → Prop := fun _ a b => a = b
section
variable {c : Ctx} {k : Nat} {X : Cx} {W : WX} {pos : Pos}
theorem empty_app (y : Str) : Str.empty ++ y = y := by
  cases y
  show Str.mk (#[] ++ _) = _
  simp
theorem fmt_of {we : WE} {σ : L2.St} {H : Hp} {Q : VK} (h : LG c W (RepD c) (fun ρ S Q E => we ρ S (fun d S1 => fmtW d fun y => Q (.str y) S1) E) σ H Q) : tFmt (LG c W (RepD c) we) σ H Q := by
  refine LG.bind (R1 := RepD c) (R2 := RepD c) (w1 := we) (k := fun d ρ S Q E => fmtW d fun y => Q (.str y) S) (t2 := fun x σ H1 Q => (∃ y : Str, x = .str y ∧ y.length ≤ sizeLine ∧ Q (.str y) H1) ∨ ∃ i : Int, x = .int i ∧ i.natAbs.log2 < 1920 ∧ Q (.str (toString i)) H1)
    (fun d v σ H Q Z S ρ QD ED R RE rd kk hq hx => ?_) h
  cases d with
  | str y =>
    cases rd
    obtain ⟨h1, h2⟩ := of_leW kk
    exact .inl ⟨y, rfl, h1, hq.go R (d := .str y) rfl h2⟩
  | int i =>
    cases rd
    exact .inr ⟨i, rfl, kk.1, hq.go R (d := .str _) rfl kk.2⟩
  | _ => exact kk.elim
theorem se_lit {y : Str} {u : Nat} {p : Pos} : PE X (.Constant (.str y) u p) (tC (.str y)) := pe_str
theorem lit_of {y : Str} {σ : L2.St} {H : Hp} {Q : VK} (h : LG c W (RepD c) (fun ρ S Q E => wC (.str y) ρ S (fun d S1 => fmtW d fun y => Q (.str y) S1) E) σ H Q) : tC (.str y) σ H Q :=
  h.pure fun Z S ρ QD ED R RE hw hq hx => hq.go R (d := .str y) rfl (of_leW hw).2
def jQ (acc : Str) (wr : Str → Env → Store → (Str → Store → Prop) → QX → Prop) (ρ : Env) (Q : Str → Store → Prop) (E : QX) : QE := fun d S1 => match d with
  | .str y => leW (acc ++ y).length big (wr (acc ++ y) ρ S1 Q E)
  | _ => False
theorem js_cons {e : Expr} {t : TE} {es : List Expr} {we : WE} {wr : Str → Env → Store → (Str → Store → Prop) → QX → Prop} (he : PE X e t)
    (ht : ∀ σ H Q, LG c W (RepD c) (fun ρ S Q E => we ρ S (fun d S1 => fmtW d fun y => Q (.str y) S1) E) σ H Q → t σ H Q)
    (hr : ∃ ts, PJ X es ts ∧ ∀ acc' σ H Q, LG c W QEq (wr acc') σ H Q → tJs ts acc' σ H Q) :
    ∃ ts, PJ X (e :: es) ts ∧ ∀ acc σ H Q, LG c W QEq (fun ρ S Q E => we ρ S (fun d S1 => fmtW d fun y => leW (acc ++ y).length big (wr (acc ++ y) ρ S1 Q E)) E) σ H Q → tJs ts acc σ H Q := by
  obtain ⟨ts, hp, hi⟩ := hr
  refine ⟨t :: ts, .cons he hp, fun acc σ H Q h => ht σ H _ ?_⟩
  obtain ⟨Z, S, ρ, QD, ED, R, RE, hw, hq, hx⟩ := h
  refine ⟨Z, S, ρ, jQ acc wr ρ QD ED, ED, R, RE, hw, ?_, hx⟩
  rintro d v Z' S' H' l R' rd q
  cases d with
  | str y =>
    cases rd
    obtain ⟨h1, h2⟩ := of_leW q
    exact ⟨y, rfl, h1, hi _ σ H' Q ⟨Z', S', ρ, QD, ED, R', RE.le l.le, h2, hq.le l, hx.le l⟩⟩
  | _ => exact q.elim
theorem se_fstr {a : Expr} {r : List Expr} {ts : List TE} {w : Env → Store → (Str → Store → Prop) → QX → Prop} (hj : PJ X (a :: r) ts) (hi : ∀ σ H Q, LG c W QEq w σ H Q → tJs ts Str.empty σ H Q) :
    SE c X W (.JoinedStr (a :: r) pos) (fun ρ S Q E => w ρ S (fun out S1 => Q (.str out) S1) E) := by
  have key : ∀ σ H (Q : VK), LG c W (RepD c) (fun ρ S Q E => w ρ S (fun out S1 => Q (.str out) S1) E) σ H Q → tJs ts Str.empty σ H fun out H1 => Q (.str out) H1 := fun σ H Q h => by
    obtain ⟨Z, S, ρ, QD, ED, R, RE, hw, hq, hx⟩ := h
    refine hi σ H _ ⟨Z, S, ρ, _, ED, R, RE, hw, ?_, hx⟩
    rintro out out' Z' S' H' l R' rfl q
    exact hq (.str out) (.str out) Z' S' H' l R' rfl q
  cases hj with
  | @cons _ t _ ts' h rr =>
    cases rr with
    | nil =>
      refine ⟨fun pins s σ H Q I hh => wpAny_mono ((pe_joined1 h).run pins s σ H _ I (key σ H Q hh)) (fun v s' ⟨x, H1, I1, r, y, ex, _, q⟩ => ⟨x, H1, I1, r, ?_⟩) fun _ _ z => z⟩
      subst ex
      have q : Q (.str (Str.empty ++ y)) H1 := q
      rw [empty_app] at q
      exact q
    | @cons e2 t2 es2 ts2 h2 r2 => exact PE.imp (pe_joined (.cons h (.cons h2 r2))) key
end
end L3
namespace L3
open PySem PySem.Spec PyProof.Rows L2
section
variable {X : Cx} {CX : CXT} {k n : Nat} {f C : Addr} {fd : FuncData} {ps ks : List Str} {sp : Sp} {E : L2.St → XK} {x : Str} {p pos : Pos} {e : Expr} {es : List Expr} {kws : List Keyword} {t tk : TA} {g : List Value → List Value → List Value} {gV : List V → List V → List V}
theorem run_makeKSD {pins : List (Addr × Obj)} {σ : L2.St} {H : Hp} {s : Shared} {Q : VK} {us ws : List Value} {vs zs : List V} (M : Mk X.K C f) (F : FnOk X.prog X.w X.K X.mg X.base CX k f fd ps sp) (hr : Room (k + 1) X.A) (hb : KBn X.K fd ps (n + 1) ks g gV) (hx : PassesAt CX X σ (E σ))
    (I : Inv X pins σ H s) (r : Vals vs us) (rz : Vals zs ws) (l1 : vs.length = n) (l2 : zs.length = ks.length)
    (h : ∀ x dx, H x = none → H dx = none → dx ≠ x → sp (gV (.ref x :: vs) zs) (upd (upd H dx (.own x)) x (.ins C dx [])) (fun v H2 => v = .non ∧ Q (.ref x) H2) (E σ)) :
    wpAny (model X.prog X.w) X.A (call (.ref C) us (ks.zip ws)) (EP X pins σ Q) X.xe s := by
  have hq := h (s.heap.objs.size + 1) s.heap.objs.size (I.hok.fresh (Nat.le_succ _)) (I.hok.fresh (Nat.le_refl _)) (Nat.ne_of_lt (Nat.lt_succ_self _))
  have J := Inv.made (C := C) I
  have q1 : Vals (V.ref (s.heap.objs.size + 1) :: vs) (Value.ref (s.heap.objs.size + 1) :: us) := .cons rfl r
  have q2 := hb.rel q1 rz
  have n1 : (Value.ref (s.heap.objs.size + 1) :: us).length = n + 1 := by
    rw [List.length_cons, ← r.length, l1]
  refine wpAny_call (make_map (f := f) I.kIn M.makes M.init (beq_iff_eq.mp M.fn) (codeAny_mono (F.run _ X.stack _ _ ⟨Value.ref (s.heap.objs.size + 1) :: us, ks.zip ws⟩ (g (Value.ref (s.heap.objs.size + 1) :: us) ws) _ _ (E σ) (hr.make C us (ks.zip ws))
    (J.env0.make C us (ks.zip ws)) (hb.to _ (Value.ref (s.heap.objs.size + 1) :: us) ws J.kIn n1 (rz.length.symm.trans l2)) q2 hq) fun r s' hq' => ?_))
  cases r with
  | error e => exact hx pins _ _ e s' J hq'
  | ok fl =>
    cases fl with
    | ret u =>
      obtain ⟨v, H', I3, rv, ev, q3⟩ := J.after hq'
      subst ev
      exact ⟨rv, ⟨V.ref (s.heap.objs.size + 1), H', I3, rfl, q3⟩⟩
    | next => exact False.elim hq'
    | brk => exact False.elim hq'
    | cont => exact False.elim hq'
def tMakeKSD (C : Addr) (m : Nat) (sp : Sp) (gV : List V → List V → List V) (E : L2.St → XK) (tk : TA) : TE := fun σ H Q => tk σ H fun zs H2 => zs.length = m ∧ ∀ x dx, H2 x = none → H2 dx = none → dx ≠ x →
  sp (gV [.ref x] zs) (upd (upd H2 dx (.own x)) x (.ins C dx [])) (fun v H3 => v = .non ∧ Q (.ref x) H3) (E σ)
theorem pe_makeKSD0 (M : Mk X.K C f) (F : FnOk X.prog X.w X.K X.mg X.base CX k f fd ps sp) (hr : Room (k + 1) X.A) (hg : Gl X x) (hm : X.mg x = some (.ref C)) (hb : KBn X.K fd ps 1 ks g gV) (hx : ∀ σ, PassesAt CX X σ (E σ)) (hkw : PK X kws tk)
    (hall : (backToKw pos (keywordEach kws X.env)).all (·.1.isSome) = true) (hks : (backToKw pos (keywordEach kws X.env)).filterMap (·.1) = ks) (hdb : (x == ("__debug__" : Str)) = false)
    (hpl : ((backTo pos (starEach [] X.env)).any (·.1) || (backToKw pos (keywordEach kws X.env)).any (·.1.isNone)) = false) :
    PE X (.Call (.Name x p) [] kws pos) (tMakeKSD C ks.length sp gV E tk) := by
  refine ⟨fun pins s σ H Q I h => ?_⟩
  refine wpAny_Call_Name_kw (ld_glob I hg hm ?_ hdb)
  refine PySem.W.callWith_KW0 (h₀ := X.base) I.ok.mod.kin M.kp hall ?_ hpl
  refine thn (hkw.run pos pins s σ H _ I h) fun ws s2 ⟨zs, H2, I2, rz, l2, q2⟩ => ⟨I2.kIn, ?_⟩
  rw [hks]
  exact run_makeKSD (us := []) (vs := []) M F hr hb (hx σ) I2 .nil rz rfl l2 q2
end
section
variable {c : Ctx} {k : Nat} {X : Cx} {W : WX} {pos : Pos}
theorem mK_all : ∀ {kws : List Keyword} {ks : List Str}, mK kws ks = true → ∀ (env : PySem.Env) (pos : Pos), (backToKw pos (keywordEach kws env)).all (·.1.isSome) = true ∧ (backToKw pos (keywordEach kws env)).filterMap (·.1) = ks ∧ (backToKw pos (keywordEach kws env)).any (·.1.isNone) = false
  | [], [], _, _, _ => ⟨rfl, rfl, rfl⟩
  | [], _ :: _, h, _, _ => by cases h
  | ⟨none, v, p⟩ :: r, [], h, _, _ => by cases h
  | ⟨none, v, p⟩ :: r, _ :: _, h, _, _ => by cases h
  | ⟨some y, v, p⟩ :: r, [], h, _, _ => by cases h
  | ⟨some y, v, p⟩ :: r, x :: ks, h, env, pos => by
    unfold mK at h
    simp only [Bool.and_eq_true, decide_eq_true_eq] at h
    obtain ⟨⟨rfl, _⟩, h⟩ := h
    obtain ⟨h1, h2, h3⟩ := mK_all h env pos
    unfold backToKw at h1 h2 h3 ⊢
    rw [keywordEach]
    refine ⟨?_, ?_, ?_⟩
    · simpa using h1
    · simpa using h2
    · simpa using h3
theorem mk_go {m : Bool} {cl : Nat} {sp : DSp} {spH : Sp} {C : Addr} {Z : Hp} {S : Store} {H : Hp} {ds : List D} {vs : List V} {QD : QE} {ED : QX} {Q : VK} {W' : Value → Option Addr → Hp → Prop} (hi : ∀ vs H Q E, liftSp c sp vs H Q E → spH vs H Q E) (hC : c.cn cl = some C) (R : Rel c Z S H) (rd : RepL c Z ds vs)
    (kk : wMk1 m cl sp ds S QD ED) (hq : Lk c ⟨Z, S, H⟩ (RepD c) QD Q) (hx : LkX c ⟨Z, S, H⟩ ED W') :
    ∀ x dx, H x = none → H dx = none → dx ≠ x → spH ([.ref x] ++ vs) (upd (upd H dx (.own x)) x (.ins C dx [])) (fun v H2 => v = .non ∧ Q (.ref x) H2) W' := by
  intro x dx nx ndx ne
  have nx' : (upd H dx (HO.own x)) x = none := by rw [upd_ne (Ne.symm ne)]; exact nx
  obtain ⟨z1, z2⟩ := R.new ndx
  have R1 := R.beside z2 z1 (.own x) (no_tame ndx)
  have l1 : Nx ⟨Z, S, H⟩ ⟨Z, S, upd H dx (.own x)⟩ := Nx.beside ndx _
  obtain ⟨sx, R2⟩ := R1.fresh nx' (o := .ins C dx []) (x := .ins cl []) ⟨C, dx, [], rfl, hC, rfl⟩
  have l2 := l1.trans (Nx.fresh (Z := Z) (S := S) nx' (.ins C dx []) (.ins cl []))
  have rd' : RepL c Z (.ref x :: ds) (.ref x :: vs) := ⟨_, _, rfl, rfl, rd⟩
  refine hi _ _ _ _ ⟨Z, _, .ref x :: ds, _, _, R2, rd', kk x sx, ?_, ?_⟩
  · rintro d v Z' S' H' l R' rd' ⟨rfl, q⟩
    cases rd'
    refine ⟨rfl, ?_⟩
    cases m with
    | true => exact hq (.ref x) (.ref x) Z' S' H' (l2.trans l) R' rfl q
    | false =>
      obtain ⟨fs, S3, e3, sb, q⟩ := q
      obtain ⟨o, ho, rc, le, R3⟩ := R'.freeze e3
      obtain ⟨C', dx', vfs, rfl, hc', rf⟩ := rc
      obtain ⟨zn, _⟩ := R'.cl _ _ e3
      exact hq (.obj cl fs) (.ref x) _ S3 H' (((l2.trans l).trans (Nx.freeze e3 zn _)).trans (Nx.sub sb)) (R3.sub sb) ⟨x, C', dx', vfs, rfl, hc', upd_same, RepF.le le rf⟩ q
  · rintro xx Z' S' H' cls dd l R' rx ⟨S3, sb, q⟩
    exact hx xx Z' S3 H' cls dd ((l2.trans l).trans (Nx.sub sb)) (R'.sub sb) rx q
theorem sk_nil : PK X [] (LG c W (RepL c) (fun _ S Q _ => Q [] S)) := ⟨fun pos pins s σ H Q I h => pk_nil.run pos pins s σ H Q I (h.pure fun Z S ρ QD ED R RE hw hq hx => hq.go R (d := []) rfl hw)⟩
theorem sk_cons {e : Expr} {nm : Option Str} {kp : Pos} {kws : List Keyword} {we : WE} {wr : WA} (he : SE c X W e we) (hr : PK X kws (LG c W (RepL c) wr)) :
    PK X (⟨nm, e, kp⟩ :: kws) (LG c W (RepL c) (fun ρ S Q E => we ρ S (fun d S1 => wr ρ S1 (fun ds S2 => Q (d :: ds) S2) E) E)) :=
  ⟨fun pos pins s σ H Q I h => (pk_cons he hr).run pos pins s σ H Q I (by
    refine LG.bind (R1 := RepD c) (R2 := RepL c) (w1 := we) (k := fun d ρ S Q E => wr ρ S (fun ds S2 => Q (d :: ds) S2) E)
      (t2 := fun x σ H Q => LG c W (RepL c) wr σ H fun xs H2 => Q (x :: xs) H2) (fun d v σ H Q Z S ρ QD ED R RE rd kk hq hx => ?_) h
    refine ⟨Z, S, ρ, fun ds S2 => QD (d :: ds) S2, ED, R, RE, kk, ?_, hx⟩
    intro d2 v2 Z' S' H' l R' r2 q
    exact hq (d :: d2) (v :: v2) Z' S' H' l R' ⟨v, v2, rfl, RepD.le l.le rd, r2⟩ q)⟩
theorem se_mkK {x : Str} {p : Pos} {kws : List Keyword} {m : Bool} {cl : Nat} {ks : List Str} {sp : DSp} {wl : WA} (ok : XOk c k X) (tk : Takes X W) (km : KMkK c k (rn X) x cl ks sp) (hg : Gl X x) (hn : okN x = true) (hk : mK kws ks = true) (ha : PK X kws (LG c W (RepL c) wl)) :
    SE c X W (.Call (.Name x p) [] kws pos) (fun ρ S Q E => wl ρ S (fun ds S1 => eqW ds.length ks.length (wMk1 m cl sp ds S1 Q E)) E) := by
  obtain ⟨C, f, k', hkk, hC, hm, M, fd, ps, spH, F, hb, hi⟩ := km
  obtain ⟨h1, h2, h3⟩ := mK_all hk X.env pos
  refine PE.imp (pe_makeKSD0 M F (ok.room.mono hkk) hg hm hb (E := fun σ cls d H => W cls d σ H) (fun σ => passAt tk σ) ha h1 h2 (ok1 hn) (by rw [h3]; rfl)) fun σ H Q h => ?_
  refine LG.bind (R1 := RepL c) (R2 := RepD c) (w1 := wl) (k := fun ds ρ S Q E => eqW ds.length ks.length (wMk1 m cl sp ds S Q E))
    (t2 := fun vs σ H Q => vs.length = ks.length ∧ ∀ x dx, H x = none → H dx = none → dx ≠ x → spH ([.ref x] ++ vs) (upd (upd H dx (.own x)) x (.ins C dx [])) (fun v H2 => v = .non ∧ Q (.ref x) H2) (fun cls d H => W cls d σ H))
    (fun ds vs σ H Q Z S ρ QD ED R RE rd kk hq hx => ?_) h
  obtain ⟨el, kk⟩ := of_eqW kk
  refine ⟨by rw [rd.length]; exact el, ?_⟩
  exact mk_go hi hC R rd kk hq hx
end
end L3
namespace L3
open PySem PySem.Spec PyProof.Rows L2
section
variable {X : Cx} {C : Addr}
def ClsC (X : Cx) (C : Addr) (kw : List Value → List (Str × Value)) (pos : List Value → List Value) : L2.St → List V → Hp → VK → Prop := fun σ vs H Q => ∀ (pins : List (Addr × Obj)) (s : Shared) (us : List Value), L2.Inv X pins σ H s → Vals vs us → wpAny (model X.prog X.w) X.A (call (.ref C) (pos us) (kw us)) (EP X pins σ Q) X.xe s
theorem pe_cls {x : Str} {e : Expr} {es : List Expr} {ta : TA} {p pos : Pos} (gC : X.mg x = some (.ref C)) (kC : PySem.W.keepIn X.K (.ref C) = true) (ha : PA X (e :: es) ta) (hg : Gl X x) (hd : (x == ("__debug__" : Str)) = false) (hn : noStar (e :: es) = true) :
    PE X (.Call (.Name x p) (e :: es) [] pos) (fun σ H Q => ta σ H fun vs H1 => ClsC X C (fun _ => []) id σ vs H1 Q) := by
  refine ⟨fun pins s σ H Q I h => ?_⟩
  refine wpAny_Call_Name_kw (ld_glob I hg gC ?_ hd)
  refine PySem.W.callWith_K (h₀ := X.base) I.ok.mod.kin kC (thn (ha.run pos pins s σ H _ I h) fun us s1 hh => ?_) (star1 X.env hn).1 (star2 X.env pos (star1 X.env hn).2)
  obtain ⟨vs, H1, I1, r1, q1⟩ := hh
  exact ⟨I1.kIn, q1 pins s1 us I1 r1⟩
theorem pe_cls0 {x : Str} {p pos : Pos} (gC : X.mg x = some (.ref C)) (kC : PySem.W.keepIn X.K (.ref C) = true) (hg : Gl X x) (hd : (x == ("__debug__" : Str)) = false) :
    PE X (.Call (.Name x p) [] [] pos) (fun σ H Q => ClsC X C (fun _ => []) id σ [] H Q) := by
  refine ⟨fun pins s σ H Q I h => ?_⟩
  refine wpAny_Call_Name_kw (ld_glob I hg gC ?_ hd)
  exact PySem.W.callWith_K0 (first := []) I.kIn kC (h pins s [] I .nil)
theorem pe_clsK {x : Str} {kws : List Keyword} {nms : List Str} {tk : TA} {p pos : Pos} (gC : X.mg x = some (.ref C)) (kC : PySem.W.keepIn X.K (.ref C) = true) (hkw : PK X kws tk) (hg : Gl X x) (hd : (x == ("__debug__" : Str)) = false) (hk : mK kws nms = true) :
    PE X (.Call (.Name x p) [] kws pos) (fun σ H Q => tk σ H fun vs H1 => ClsC X C (fun us => nms.zip us) (fun _ => []) σ vs H1 Q) := by
  obtain ⟨h1, h2, h3⟩ := mK_all hk X.env pos
  refine ⟨fun pins s σ H Q I h => ?_⟩
  refine wpAny_Call_Name_kw (ld_glob I hg gC ?_ hd)
  refine PySem.W.callWith_KW0 (h₀ := X.base) I.ok.mod.kin kC h1 ?_ (by rw [h3]; rfl)
  refine thn (hkw.run pos pins s σ H _ I h) fun ws s2 ⟨zs, H2, I2, rz, q2⟩ => ⟨I2.kIn, ?_⟩
  rw [h2]
  exact q2 pins s2 ws I2 rz
end
section
variable {c : Ctx} {k : Nat} {X : Cx} {W : WX} {pos : Pos}
theorem made0 {C : Addr} {j : Nat} (hC : c.cn j = some C) {Z H : Hp} {S : Store} {QD : QE} {Q : VK} (R : Rel c Z S H) (hq : Lk c ⟨Z, S, H⟩ (RepD c) QD Q) (kk : QD (.exv j []) S) : ∀ e, H e = none → Q (.ref e) (upd H e (exo e C none)) := fun e he => by
  obtain ⟨l1, R1⟩ := R.frozen he (exo e C none) (fun ps => exo_tbl)
  exact hq (.exv j []) (.ref e) _ S _ (Nx.frozen (R.new he).2 he _) R1 ⟨e, C, [], rfl, hC, rfl, .inl ⟨rfl, upd_same⟩⟩ kk
theorem madeF {C : Addr} {j : Nat} (hC : c.cn j = some C) {Z H : Hp} {S : Store} {QD : QE} {Q : VK} (R : Rel c Z S H) (hq : Lk c ⟨Z, S, H⟩ (RepD c) QD Q) {fs : List (Nat × D)} {vfs : List (Str × V)} (rf : RepF c Z fs vfs) (kk : QD (.exv j fs) S) :
    ∀ e d, H e = none → H d = none → d ≠ e → Q (.ref e) (upd (upd H d (.xd vfs)) e (exo e C (some d))) := fun e d he hd ne => by
  obtain ⟨l1, R1⟩ := R.frozen hd (.xd vfs)
  have he' : (upd H d (HO.xd vfs)) e = none := by rw [upd_ne (Ne.symm ne)]; exact he
  obtain ⟨l2, R2⟩ := R1.frozen he' (exo e C (some d)) (fun ps => exo_tbl)
  exact hq (.exv j fs) (.ref e) _ S _ ((Nx.frozen (R.new hd).2 hd _).trans (Nx.frozen (R1.new he').2 he' _)) R2 ⟨e, C, vfs, rfl, hC, RepF.le (l1.trans l2) rf, .inr ⟨d, upd_same, by rw [upd_ne ne]; exact upd_same⟩⟩ kk
theorem se_mkx0 {y : Str} {px : Pos} {j : Nat} {ks : List Nat} (ok : XOk c k X) (kn : KMx c (rn X) y j ks) (hg : Gl X y) (hn : okN y = true) :
    SE c X W (.Call (.Name y px) [] [] pos) (fun ρ S Q E => wL .nil ρ S (fun ds S1 => eqW ds.length ks.length (Q (.exv j (ks.zip ds)) S1)) E) := by
  obtain ⟨C, hC, hm, kC, alt⟩ := kn
  refine PE.imp (pe_cls0 hm kC hg (ok1 hn)) fun σ H Q h => ?_
  refine h.pure fun Z S ρ QD ED R RE hw hq hx => ?_
  obtain ⟨el, kk⟩ := of_eqW (show eqW ([] : List D).length ks.length _ from hw)
  intro pins s us I r
  cases r
  rcases alt with ⟨rfl, T⟩ | ⟨a, g, rfl, hf, T⟩ | ⟨a, b, g, rfl, e1, e2, T⟩
  · exact run_mkx0 T I (made0 hC R hq kk)
  · cases el
  · cases el
theorem se_mkx {y : Str} {px : Pos} {a : Expr} {as : List Expr} {j : Nat} {ks : List Nat} {wl : WA} (ok : XOk c k X) (kn : KMx c (rn X) y j ks) (hg : Gl X y) (hn : okN y = true) (hs : noStar (a :: as) = true) (ha : SA c X W (a :: as) wl) :
    SE c X W (.Call (.Name y px) (a :: as) [] pos) (fun ρ S Q E => wl ρ S (fun ds S1 => eqW ds.length ks.length (Q (.exv j (ks.zip ds)) S1)) E) := by
  obtain ⟨C, hC, hm, kC, alt⟩ := kn
  refine PE.imp (pe_cls hm kC ha hg (ok1 hn) hs) fun σ H Q h => ?_
  refine LG.bind (R1 := RepL c) (R2 := RepD c) (w1 := wl) (k := fun ds ρ S Q E => eqW ds.length ks.length (Q (.exv j (ks.zip ds)) S)) (t2 := fun vs σ H Q => ClsC X C (fun _ => []) id σ vs H Q) (fun ds vs σ H Q Z S ρ QD ED R RE rd kk hq hx => ?_) h
  obtain ⟨el, kk⟩ := of_eqW kk
  intro pins s us I r
  have dp : X.A.depth + 1 < recursionLimit := by have := ok.room.b.dp; omega
  rcases alt with ⟨rfl, T⟩ | ⟨a, g, rfl, hf, T⟩ | ⟨a, b, g, rfl, e1, e2, T⟩
  · obtain rfl := List.length_eq_zero_iff.mp el
    cases rd
    cases r
    exact run_mkx0 T I (made0 hC R hq kk)
  · match ds, el, rd, kk with
    | [d], _, rd, kk =>
      obtain ⟨v, _, rfl, rv, rfl⟩ := rd
      cases r with
      | cons ru rr =>
        cases rr
        exact run_mkx1 T hf I ru (.inl ⟨rfl, rfl⟩) dp (madeF hC R hq (fs := [(a, d)]) ⟨v, [], rfl, rv, rfl⟩ kk)
  · match ds, el, rd, kk with
    | [d, d2], _, rd, kk =>
      obtain ⟨v, _, rfl, rv, v2, _, rfl, rv2, rfl⟩ := rd
      cases r with
      | cons ru rr =>
        cases rr with
        | cons ru2 rr =>
          cases rr
          exact run_mkx2 T I ru ru2 (.inl ⟨rfl, rfl⟩) dp (madeF hC R hq (fs := [(a, d), (b, d2)]) ⟨v, _, by rw [e1], rv, v2, [], by rw [e2], rv2, rfl⟩ kk)
theorem se_mkxK {y : Str} {px : Pos} {kws : List Keyword} {j : Nat} {ks pm : List Nat} {nms : List Str} {wl : WA} (ok : XOk c k X) (kn : KMxK c (rn X) y j ks pm nms) (hg : Gl X y) (hn : okN y = true) (hk : mK kws nms = true) (ha : PK X kws (LG c W (RepL c) wl)) :
    SE c X W (.Call (.Name y px) [] kws pos) (fun ρ S Q E => wl ρ S (fun ds S1 => eqW ds.length pm.length (Q (.exv j (ks.zip (permD pm ds))) S1)) E) := by
  obtain ⟨⟨C, hC, hm, kC, alt⟩, shape⟩ := kn
  refine PE.imp (pe_clsK hm kC ha hg (ok1 hn) hk) fun σ H Q h => ?_
  refine LG.bind (R1 := RepL c) (R2 := RepD c) (w1 := wl) (k := fun ds ρ S Q E => eqW ds.length pm.length (Q (.exv j (ks.zip (permD pm ds))) S)) (t2 := fun vs σ H Q => ClsC X C (fun us => nms.zip us) (fun _ => []) σ vs H Q) (fun ds vs σ H Q Z S ρ QD ED R RE rd kk hq hx => ?_) h
  obtain ⟨el, kk⟩ := of_eqW kk
  intro pins s us I r
  have dp : X.A.depth + 1 < recursionLimit := by have := ok.room.b.dp; omega
  rcases shape with ⟨a, rfl, rfl, rfl⟩ | ⟨a, b, rfl, rfl, rfl⟩
  · rcases alt with ⟨z, T⟩ | ⟨a', g, z, hf, T⟩ | ⟨a', b', g, z, e1, e2, T⟩
    · cases z
    · cases z
      match ds, el, rd, kk with
      | [d], _, rd, kk =>
        obtain ⟨v, _, rfl, rv, rfl⟩ := rd
        cases r with
        | cons ru rr =>
          cases rr
          exact run_mkx1 T hf I ru (.inr ⟨rfl, rfl⟩) dp (madeF hC R hq (fs := [(a, d)]) ⟨v, [], rfl, rv, rfl⟩ kk)
    · cases z
  · rcases alt with ⟨z, T⟩ | ⟨a', g, z, hf, T⟩ | ⟨a', b', g, z, e1, e2, T⟩
    · cases z
    · cases z
    · cases z
      match ds, el, rd, kk with
      | [d, d2], _, rd, kk =>
        obtain ⟨v, _, rfl, rv, v2, _, rfl, rv2, rfl⟩ := rd
        cases r with
        | cons ru rr =>
          cases rr with
          | cons ru2 rr =>
            cases rr
            exact run_mkx2 T I ru2 ru (.inr ⟨rfl, rfl⟩) dp (madeF hC R hq (fs := [(a, d2), (b, d)]) ⟨v2, _, by rw [e1], rv2, v, [], by rw [e2], rv, rfl⟩ kk)
end
end L3
set_option maxHeartbeats 1000000
namespace L3Y
open PySem
open PySem.Sem (wp)
abbrev Sr := Bool × Addr × Addr
def Itr (h : Heap) (t : Sr) (i : Nat) : Prop := match t with
  | (true, it, l) => h.IsTupleIter it l i
  | (false, it, l) => h.IsListIter it l i
def Src (h : Heap) (t : Sr) (xs : Array Value) : Prop := match t with
  | (true, _, l) => h.IsTuple l xs
  | (false, _, l) => h.IsList l xs
theorem Itr.to {h h' : Heap} {t : Sr} {i : Nat} (x : Itr h t i) (k : ∀ o, h.get? t.2.1 = some o → h'.get? t.2.1 = some o) : Itr h' t i := by
  obtain ⟨b, it, l⟩ := t
  cases b with
  | true => obtain ⟨o, e, r⟩ := x; exact ⟨o, k o e, r⟩
  | false => obtain ⟨o, e, r⟩ := x; exact ⟨o, k o e, r⟩
theorem Src.to {h h' : Heap} {t : Sr} {xs : Array Value} (x : Src h t xs) (k : ∀ o, h.get? t.2.2 = some o → h'.get? t.2.2 = some o) : Src h' t xs := by
  obtain ⟨b, it, l⟩ := t
  cases b with
  | true => obtain ⟨o, e, r⟩ := x; exact ⟨o, k o e, r⟩
  | false => obtain ⟨o, e, r⟩ := x; exact ⟨o, k o e, r⟩
theorem Itr.obj {h : Heap} {t : Sr} {i : Nat} (x : Itr h t i) : ∃ o fs, h.get? t.2.1 = some o ∧ o.data = .fields fs := by
  obtain ⟨b, it, l⟩ := t
  cases b with
  | true => obtain ⟨o, e, _, r⟩ := x; exact ⟨o, _, e, r⟩
  | false => obtain ⟨o, e, _, r⟩ := x; exact ⟨o, _, e, r⟩
abbrev IsSeq (h : Heap) (T : Addr) (vs : Array Value) : Prop := h.get? T = some { cls := .type "tuple", data := .seq vs }
structure Apt (z TI TO : Addr) (ts : List Sr) : Prop where
  TIz : TI ≠ z
  TOz : TO ≠ z
  TITO : TI ≠ TO
  it : ∀ t ∈ ts, t.2.1 ≠ z ∧ t.2.1 ≠ TI ∧ t.2.1 ≠ TO
  l : ∀ t ∈ ts, t.2.2 ≠ z ∧ t.2.2 ≠ TO ∧ ∀ u ∈ ts, t.2.2 ≠ u.2.1
  nd : (ts.map (·.2.1)).Nodup
section
variable {prog : Program} {w : World} {A : Around} {E : Value → Shared → Prop} {s : Shared}
theorem next_item {t : Sr} {i : Nat} {items : Array Value} {x : Value} {Q : Value → Shared → Prop} (hit : Itr s.heap t i) (hl : Src s.heap t items) (hx : items[i]? = some x)
    (hQ : ∀ h', Itr h' t (i + 1) → Heap.SameBut t.2.1 s.heap h' → Q x { s with heap := h' }) : wpAny (model prog w) A (Builtin.SmallTypes.nextOf (.ref t.2.1)) Q E s := by
  obtain ⟨b, it, l⟩ := t
  cases b with
  | true => exact RZ.nextOf_tuple_item hit hl hx hQ
  | false => exact wpAny_nextOf_list_item hit hl hx hQ
theorem next_end {t : Sr} {i : Nat} {items : Array Value} {Q : Value → Shared → Prop} (hh : A.handled = none) (hit : Itr s.heap t i) (hl : Src s.heap t items) (hx : items[i]? = none)
    (hE : ∀ h' e, Heap.ExtBut t.2.1 s.heap h' → (∃ o, h'.get? e = some o ∧ o.cls = .type "StopIteration") → E (.ref e) { s with heap := h' }) :
    wpAny (model prog w) A (Builtin.SmallTypes.nextOf (.ref t.2.1)) Q E s := by
  obtain ⟨b, it, l⟩ := t
  cases b with
  | true => exact RZ.nextOf_tuple_end hh hit hl hx hE
  | false => exact wpAny_nextOf_list_end hh hit hl hx hE
theorem upd_seq {T : Addr} {vs : Array Value} {x : Value} {k : Nat} {Q : Unit → Shared → Prop} (hT : IsSeq s.heap T vs) (hz : vs.size ≤ sizeLine)
    (h : ∀ h', IsSeq h' T (vs.setIfInBounds k x) → Heap.SameBut T s.heap h' → Q () { s with heap := h' }) :
    wpAny (model prog w) A (updateSeq T (·.setIfInBounds k x)) Q E s := by
  refine wpAny_updateSeq hT rfl (h _ ?_ (Heap.SameBut.update ..)) hz (by rw [Array.size_setIfInBounds]; omega)
  show Heap.get? _ _ = _
  rw [Heap.get?_update_self _ hT rfl]
  simp [Obj.mapSeq]
abbrev IsZF (h : Heap) (z TI TO : Addr) (f0 : Value) (f1 : Bool) : Prop :=
  h.get? z = some { cls := .type "zip", dict := none, data := .fields #[f0, .bool f1, .bool false, .ref TI, .ref TO], slots := #[] }
def Free (h : Heap) (f0 : Value) : Prop := f0 = .none ∨ ∃ T : Addr, f0 = rawInt (T : Nat) ∧ h.get? T = none
def Held (h : Heap) (f0 : Value) : Prop := ∃ (T : Addr) (o : Obj), f0 = rawInt (T : Nat) ∧ h.get? T = some o
theorem alive_ok {a : Addr} {Q : Option Obj → Shared → Prop} (h : Q (s.heap.get? a) s) : wpAny (model prog w) A (loadIfAlive a) Q E s := fun _ _ _ => h
theorem free_ok {z TI TO : Addr} {f0 : Value} {f1 : Bool} {Q : Bool → Shared → Prop} (hz : IsZF s.heap z TI TO f0 f1) (hf : Free s.heap f0) (h : Q true s) :
    wpAny (model prog w) A (Builtin.SmallTypes.ownedTupleIsFree (.ref z)) Q E s := by
  unfold Builtin.SmallTypes.ownedTupleIsFree
  refine wpAny_bind (wpAny_field hz rfl (x := f0) rfl ?_)
  rcases hf with rfl | ⟨T, rfl, hT⟩
  · exact wpAny_pure h
  · show wpAny _ _ (loadIfAlive ((T : Int).toNat) >>= _) _ _ _
    rw [Int.toNat_natCast]
    refine wpAny_bind (alive_ok ?_)
    rw [hT]
    exact wpAny_pure h
theorem held_ok {z TI TO : Addr} {f0 : Value} {f1 : Bool} {Q : Bool → Shared → Prop} (hz : IsZF s.heap z TI TO f0 f1) (hf : Held s.heap f0)
    (h : ∀ h', IsZF h' z TI TO f0 true → Heap.SameBut z s.heap h' → Q false { s with heap := h' }) :
    wpAny (model prog w) A (Builtin.SmallTypes.ownedTupleIsFree (.ref z)) Q E s := by
  unfold Builtin.SmallTypes.ownedTupleIsFree
  refine wpAny_bind (wpAny_field hz rfl (x := f0) rfl ?_)
  obtain ⟨T, o, rfl, hT⟩ := hf
  show wpAny _ _ (loadIfAlive ((T : Int).toNat) >>= _) _ _ _
  rw [Int.toNat_natCast]
  refine wpAny_bind (alive_ok ?_)
  rw [hT]
  simp only [Option.isNone_some, Bool.false_eq_true, if_false]
  refine wpAny_bind (wpAny_field hz rfl (x := .bool f1) rfl ?_)
  cases f1 with
  | true =>
    rw [if_neg (show ¬ ((Value.bool true != Value.bool true) = true) from Bool.false_ne_true)]
    exact wpAny_pure (h s.heap hz (Heap.SameBut.refl _ _))
  | false =>
    rw [if_pos (show (Value.bool false != Value.bool true) = true from rfl)]
    exact wpAny_bind (wpAny_setField_rec hz (by simp) fun h₁ hz₁ hs₁ => wpAny_pure (h h₁ hz₁ hs₁))
structure Amid (f1 : Bool) (h0 h : Heap) (z TI TO : Addr) (ts : List Sr) (i : Nat) (xs : List Value) (k : Nat) : Prop where
  zip : IsZF h z TI TO .ellipsis f1
  own : ∃ vs, IsSeq h TO vs ∧ vs.size = ts.length ∧ ∀ j, j < k → vs[j]? = xs[j]?
  its : ∀ (j : Nat) t, ts[j]? = some t → Itr h t (if j < k then i + 1 else i)
  keep : ∀ c o, c ≠ z → c ≠ TO → (∀ t ∈ ts, c ≠ t.2.1) → h0.get? c = some o → h.get? c = some o
  size : h.objs.size = h0.objs.size
theorem Amid.step {f1 : Bool} {h0 h h2 h3 : Heap} {z TI TO : Addr} {ts : List Sr} {i k : Nat} {xs : List Value} {t : Sr} {x : Value} {vs : Array Value} (D : Apt z TI TO ts) (M : Amid f1 h0 h z TI TO ts i xs k) (ht : ts[k]? = some t) (hx : xs[k]? = some x)
    (i2 : Itr h2 t (i + 1)) (s2 : Heap.SameBut t.2.1 h h2) (hv : IsSeq h2 TO vs) (i3 : IsSeq h3 TO (vs.setIfInBounds k x)) (s3 : Heap.SameBut TO h2 h3) : Amid f1 h0 h3 z TI TO ts i xs (k + 1) := by
  have tm : t ∈ ts := List.mem_of_getElem? ht
  obtain ⟨tz, tI, tO⟩ := D.it t tm
  refine ⟨?_, ⟨_, i3, ?_, ?_⟩, ?_, ?_, ?_⟩
  · exact s3.extBut _ _ D.TOz.symm (s2.extBut _ _ tz.symm M.zip)
  · obtain ⟨vs', e, sz, _⟩ := M.own
    have : IsSeq h2 TO vs' := s2.extBut _ _ tO.symm e
    rw [IsSeq, hv] at this
    cases this
    rw [Array.size_setIfInBounds]; exact sz
  · obtain ⟨vs', e, sz, q⟩ := M.own
    have : IsSeq h2 TO vs' := s2.extBut _ _ tO.symm e
    rw [IsSeq, hv] at this
    cases this
    intro j hj
    rw [Array.getElem?_setIfInBounds]
    by_cases e : k = j
    · subst e
      have : k < vs.size := by rw [sz]; exact (List.getElem?_eq_some_iff.mp ht).1
      rw [if_pos rfl, if_pos this, hx]
    · rw [if_neg e]; exact q j (by omega)
  · intro j u hu
    have um : u ∈ ts := List.mem_of_getElem? hu
    obtain ⟨uz, uI, uO⟩ := D.it u um
    by_cases e : j = k
    · subst e
      rw [ht] at hu; cases hu
      rw [if_pos (Nat.lt_succ_self _)]
      exact i2.to fun o q => s3.extBut _ _ uO q
    · have ne : u.2.1 ≠ t.2.1 := by
        intro z
        have h1 : (ts.map (·.2.1))[j]? = some u.2.1 := by rw [List.getElem?_map, hu]; rfl
        have h2 : (ts.map (·.2.1))[k]? = some t.2.1 := by rw [List.getElem?_map, ht]; rfl
        obtain ⟨hj, e1⟩ := List.getElem?_eq_some_iff.mp h1
        obtain ⟨hk, e2⟩ := List.getElem?_eq_some_iff.mp h2
        rcases Nat.lt_or_gt_of_ne e with l | l
        · exact (List.pairwise_iff_getElem.mp D.nd j k hj hk l) (e1.trans (z.trans e2.symm))
        · exact (List.pairwise_iff_getElem.mp D.nd k j hk hj l) (e2.trans (z.symm.trans e1.symm))
      have := M.its j u hu
      have ee : (if j < k + 1 then i + 1 else i) = (if j < k then i + 1 else i) := by
        by_cases l : j < k
        · rw [if_pos l, if_pos (by omega)]
        · rw [if_neg l, if_neg (by omega)]
      rw [ee]
      exact this.to fun o q => s3.extBut _ _ uO (s2.extBut _ _ ne q)
  · exact fun c o c1 c2 c3 e => s3.extBut _ _ c2 (s2.extBut _ _ (c3 t tm) (M.keep c o c1 c2 c3 e))
  · rw [s3.1, s2.1, M.size]
theorem zip_item {f0 : Value} {f1 : Bool} {z TI TO : Addr} {ts : List Sr} {i : Nat} {us : Array Value} {xs : List Value} {Q : Value → Shared → Prop} (D : Apt z TI TO ts) (hn : ts ≠ []) (hlen : ts.length ≤ 1000)
    (hz : IsZF s.heap z TI TO f0 f1) (hf : Free s.heap f0) (hTI : IsSeq s.heap TI (ts.map fun t => Value.ref t.2.1).toArray) (hTO : IsSeq s.heap TO us) (hu : us.size = ts.length)
    (hit : ∀ t ∈ ts, Itr s.heap t i) (hxl : xs.length = ts.length) (hsrc : ∀ (j : Nat) t, ts[j]? = some t → ∃ items x, Src s.heap t items ∧ items[i]? = some x ∧ xs[j]? = some x)
    (hQ : ∀ h', IsZip h' z TI TO (rawInt s.heap.objs.size) → (∃ vs, IsSeq h' TO vs ∧ vs.size = ts.length) → (∀ t ∈ ts, Itr h' t (i + 1)) → IsSeq h' s.heap.objs.size xs.toArray → h'.objs.size = s.heap.objs.size + 1 →
      (∀ c o, c ≠ z → c ≠ TO → (∀ t ∈ ts, c ≠ t.2.1) → s.heap.get? c = some o → h'.get? c = some o) → Q (.ref s.heap.objs.size) { s with heap := h' }) :
    wpAny (model prog w) A (Builtin.«zip.__next__» ⟨[.ref z], []⟩) (fun fin s' => ∃ v, fin = .done (.ret v) ∧ Q v s') E s := by
  show wpAny _ _ (field (.ref z) 2 >>= _) _ _ _
  refine wpAny_bind (wpAny_field hz rfl (x := .bool false) rfl ?_)
  show wpAny _ _ (field (.ref z) 3 >>= _) _ _ _
  refine wpAny_bind (wpAny_field hz rfl (x := .ref TI) rfl ?_)
  refine wpAny_bind (wpAny_seqItems hTI rfl ?_)
  have hne : (ts.map fun t => Value.ref t.2.1).toArray.isEmpty = false := by
    cases ts with
    | nil => exact absurd rfl hn
    | cons _ _ => rfl
  simp only [hne, Bool.false_eq_true, if_false]
  show wpAny _ _ (Builtin.SmallTypes.ownedTupleIsFree (.ref z) >>= _) _ _ _
  refine wpAny_bind ?_
  refine free_ok hz hf ?_
  simp only [if_true]
  refine wpAny_bind (wpAny_rule ?_)
  refine wpAny_bind (wpAny_field hz rfl (x := .ref TO) rfl ?_)
  refine wpAny_bind (wpAny_setField_rec hz (by simp) fun h₁ hz₁ hs₁ => ?_)
  replace hz₁ : IsZF h₁ z TI TO .ellipsis f1 := hz₁
  refine wpAny_bind ?_
  have hL : ((ts.map fun t => Value.ref t.2.1).zipIdx).length = ts.length := by simp
  refine wpAny_forIn_list _ (fun rest b s' => b = (none, ()) ∧ ∃ k h', k ≤ ts.length ∧ rest = ((ts.map fun t => Value.ref t.2.1).zipIdx).drop k ∧ s' = { s with heap := h' } ∧ Amid f1 s.heap h' z TI TO ts i xs k) _ ?turn ?fin _ _ ?h
  case h =>
    refine ⟨rfl, 0, h₁, Nat.zero_le _, rfl, rfl, hz₁, ⟨us, hs₁.extBut _ _ D.TOz hTO, hu, fun j hj => absurd hj (Nat.not_lt_zero _)⟩, fun j t ht => ?_, fun c o c1 _ _ e => hs₁.extBut _ _ c1 e, hs₁.1⟩
    have tm : t ∈ ts := List.mem_of_getElem? ht
    rw [if_neg (Nat.not_lt_zero _)]
    exact (hit t tm).to fun o q => hs₁.extBut _ _ (D.it t tm).1 q
  case turn =>
    rintro ⟨x, k'⟩ rest b s' ⟨rfl, k, h', hk, hr, rfl, M⟩
    have hlt : k < ts.length := by
      rcases Nat.lt_or_ge k ts.length with l | l
      · exact l
      · rw [List.drop_of_length_le (by rw [hL]; exact l)] at hr; cases hr
    rw [List.drop_eq_getElem_cons (by rw [hL]; exact hlt)] at hr
    injection hr with hx hrest
    rw [List.getElem_zipIdx] at hx
    obtain ⟨rfl, rfl⟩ := Prod.mk.inj hx
    simp only [Nat.zero_add, List.getElem_map]
    have ht : ts[k]? = some ts[k] := List.getElem?_eq_getElem hlt
    have tm : ts[k] ∈ ts := List.mem_of_getElem? ht
    obtain ⟨items, y, q1, q2, q3⟩ := hsrc k _ ht
    have i1 := M.its k _ ht
    rw [if_neg (Nat.lt_irrefl _)] at i1
    have l1 := D.l _ tm
    refine wpAny_bind (wpAny_onRaise ?_)
    show wpAny _ _ (Builtin.SmallTypes.nextOf (.ref ts[k].2.1) >>= _) _ _ _
    refine wpAny_bind (next_item (t := ts[k]) i1 (q1.to fun o e => M.keep _ o l1.1 l1.2.1 l1.2.2 e) q2 fun h2 i2 s2 => wpAny_pure ?_)
    obtain ⟨vs, e, sz, _⟩ := M.own
    have hv : IsSeq h2 TO vs := s2.extBut _ _ (D.it _ tm).2.2.symm e
    refine wpAny_bind (wpAny_seqItems hv rfl ?_)
    refine wpAny_bind (upd_seq hv (by show _ ≤ 16777216; omega) fun h3 i3 s3 => ?_)
    refine wpAny_bind (wpAny_letGo (wpAny_pure ?_))
    refine ⟨rfl, k + 1, h3, hlt, hrest, rfl, M.step D ht q3 i2 s2 hv i3 s3⟩
  case fin =>
    rintro b s' ⟨rfl, k, h', hk, hr, rfl, M⟩
    have hkk : k = ts.length := by
      rcases Nat.lt_or_ge k ts.length with l | l
      · rw [List.drop_eq_getElem_cons (by rw [hL]; exact l)] at hr; cases hr
      · omega
    subst hkk
    obtain ⟨vs, e, sz, q⟩ := M.own
    have evs : vs = xs.toArray := by
      apply Array.ext_getElem?
      intro j
      by_cases l : j < ts.length
      · have := q j l; simpa using this
      · rw [Array.getElem?_eq_none (by omega), Array.getElem?_eq_none (by simp; omega)]
    subst evs
    refine wpAny_bind (wpAny_seqItems e rfl ?_)
    refine wpAny_bind (wpAny_newTuple ?_)
    have hzlt : z < h'.objs.size := Heap.lt_size M.zip
    have hTOlt : TO < h'.objs.size := Heap.lt_size e
    show wpAny _ _ (Builtin.SmallTypes.ownedTupleHandOut (.ref z) (.ref h'.objs.size) >>= _) _ _ _
    refine wpAny_bind ?_
    unfold Builtin.SmallTypes.ownedTupleHandOut
    have hz6 : IsZF (h'.push { cls := .type "tuple", data := .seq xs.toArray.toList.toArray }) z TI TO .ellipsis f1 := Heap.get?_push_of_some _ M.zip
    refine wpAny_bind (wpAny_setField_rec hz6 (by simp) fun h7 hz7 hs7 => ?_)
    replace hz7 : IsZF h7 z TI TO (rawInt h'.objs.size) f1 := hz7
    refine wpAny_setField_rec hz7 (by simp) fun h8 hz8 hs8 => ?_
    replace hz8 : IsZip h8 z TI TO (rawInt h'.objs.size) := hz8
    have up : ∀ c o, c ≠ z → h'.get? c = some o → h8.get? c = some o := fun c o c1 e => hs8.extBut _ _ c1 (hs7.extBut _ _ c1 (Heap.get?_push_of_some _ e))
    have hT8 : IsSeq h8 h'.objs.size xs.toArray := hs8.extBut _ _ (Nat.ne_of_gt hzlt) (hs7.extBut _ _ (Nat.ne_of_gt hzlt) (Heap.get?_push_size _ rfl))
    have hzz : h8.objs.size = h'.objs.size + 1 := by rw [hs8.1, hs7.1, Heap.size_push]
    rw [M.size] at hz8 hT8 hzz
    refine wpAny_pure ⟨_, rfl, ?_⟩
    show Q (.ref h'.objs.size) _
    rw [M.size]
    refine hQ h8 hz8 ⟨_, up _ _ D.TOz e, sz⟩ (fun t tm => ?_) hT8 hzz fun c o c1 c2 c3 q => up c o c1 (M.keep c o c1 c2 c3 q)
    obtain ⟨j, hj⟩ := List.mem_iff_getElem?.mp tm
    have i1 := M.its j t hj
    rw [if_pos (List.getElem?_eq_some_iff.mp hj).1] at i1
    exact i1.to fun o q => up _ o (D.it t tm).1 q
theorem zip_end {f0 : Value} {f1 : Bool} {z TI TO : Addr} {ts : List Sr} {i : Nat} {us : Array Value} {arrs : List (Array Value)} {Q : Fin → Shared → Prop} (hh : A.handled = none) (D : Apt z TI TO ts) (hlen : ts.length ≤ 1000)
    (hz : IsZF s.heap z TI TO f0 f1) (hf : Free s.heap f0) (hTI : IsSeq s.heap TI (ts.map fun t => Value.ref t.2.1).toArray) (hTO : IsSeq s.heap TO us) (hu : us.size = ts.length)
    (hit : ∀ t ∈ ts, Itr s.heap t i) (hal : arrs.length = ts.length) (hsrc : ∀ (j : Nat) t items, ts[j]? = some t → arrs[j]? = some items → Src s.heap t items) (hend : ∃ items ∈ arrs, items[i]? = none)
    (hE : ∀ h' e, (∀ c o, c ≠ z → c ≠ TO → (∀ t ∈ ts, c ≠ t.2.1) → s.heap.get? c = some o → h'.get? c = some o) → (∃ o, h'.get? e = some o ∧ o.cls = .type "StopIteration") → E (.ref e) { s with heap := h' }) :
    wpAny (model prog w) A (Builtin.«zip.__next__» ⟨[.ref z], []⟩) Q E s := by
  show wpAny _ _ (field (.ref z) 2 >>= _) _ _ _
  refine wpAny_bind (wpAny_field hz rfl (x := .bool false) rfl ?_)
  show wpAny _ _ (field (.ref z) 3 >>= _) _ _ _
  refine wpAny_bind (wpAny_field hz rfl (x := .ref TI) rfl ?_)
  refine wpAny_bind (wpAny_seqItems hTI rfl ?_)
  have hne : (ts.map fun t => Value.ref t.2.1).toArray.isEmpty = false := by
    obtain ⟨items, hm, _⟩ := hend
    cases ts with
    | nil => cases arrs with
      | nil => cases hm
      | cons _ _ => cases hal
    | cons _ _ => rfl
  simp only [hne, Bool.false_eq_true, if_false]
  show wpAny _ _ (Builtin.SmallTypes.ownedTupleIsFree (.ref z) >>= _) _ _ _
  refine wpAny_bind ?_
  refine free_ok hz hf ?_
  simp only [if_true]
  refine wpAny_bind (wpAny_rule ?_)
  refine wpAny_bind (wpAny_field hz rfl (x := .ref TO) rfl ?_)
  refine wpAny_bind (wpAny_setField_rec hz (by simp) fun h₁ hz₁ hs₁ => ?_)
  replace hz₁ : IsZF h₁ z TI TO .ellipsis f1 := hz₁
  refine wpAny_bind ?_
  have hL : ((ts.map fun t => Value.ref t.2.1).zipIdx).length = ts.length := by simp
  refine wpAny_forIn_list _ (fun rest b s' => b = (none, ()) ∧ ∃ k h', k ≤ ts.length ∧ rest = ((ts.map fun t => Value.ref t.2.1).zipIdx).drop k ∧ s' = { s with heap := h' } ∧ Amid f1 s.heap h' z TI TO ts i (arrs.map fun a => a[i]?.getD .none) k ∧
    ∀ j items, j < k → arrs[j]? = some items → items[i]? ≠ none) _ ?turn ?fin _ _ ?h
  case h =>
    refine ⟨rfl, 0, h₁, Nat.zero_le _, rfl, rfl, ⟨hz₁, ⟨us, hs₁.extBut _ _ D.TOz hTO, hu, fun j hj => absurd hj (Nat.not_lt_zero _)⟩, fun j t ht => ?_, fun c o c1 _ _ e => hs₁.extBut _ _ c1 e, hs₁.1⟩, fun j _ hj => absurd hj (Nat.not_lt_zero _)⟩
    have tm : t ∈ ts := List.mem_of_getElem? ht
    rw [if_neg (Nat.not_lt_zero _)]
    exact (hit t tm).to fun o q => hs₁.extBut _ _ (D.it t tm).1 q
  case turn =>
    rintro ⟨x, k'⟩ rest b s' ⟨rfl, k, h', hk, hr, rfl, M, hno⟩
    have hlt : k < ts.length := by
      rcases Nat.lt_or_ge k ts.length with l | l
      · exact l
      · rw [List.drop_of_length_le (by rw [hL]; exact l)] at hr; cases hr
    rw [List.drop_eq_getElem_cons (by rw [hL]; exact hlt)] at hr
    injection hr with hx hrest
    rw [List.getElem_zipIdx] at hx
    obtain ⟨rfl, rfl⟩ := Prod.mk.inj hx
    simp only [Nat.zero_add, List.getElem_map]
    have ht : ts[k]? = some ts[k] := List.getElem?_eq_getElem hlt
    have tm : ts[k] ∈ ts := List.mem_of_getElem? ht
    have ha : arrs[k]? = some (arrs[k]'(by omega)) := List.getElem?_eq_getElem _
    generalize arrs[k]'(by omega) = items at ha
    have q1 := hsrc k _ _ ht ha
    have i1 := M.its k _ ht
    rw [if_neg (Nat.lt_irrefl _)] at i1
    have l1 := D.l _ tm
    obtain ⟨tz, tI, tO⟩ := D.it _ tm
    refine wpAny_bind (wpAny_onRaise ?_)
    show wpAny _ _ (Builtin.SmallTypes.nextOf (.ref ts[k].2.1) >>= _) _ _ _
    cases q2 : items[i]? with
    | none =>
      refine wpAny_bind (next_end (t := ts[k]) hh i1 (q1.to fun o e => M.keep _ o l1.1 l1.2.1 l1.2.2 e) q2 fun h₂ e hs₂ he => ?_)
      obtain ⟨oe, hoe, hce⟩ := he
      have hz₂ : IsZF h₂ z TI TO .ellipsis f1 := hs₂ _ _ tz.symm M.zip
      have hez : e ≠ z := fun x => by subst x; rw [hz₂] at hoe; cases hoe; simp at hce
      refine wpAny_setField_rec hz₂ (by simp) fun h₃ _ hs₃ => hE h₃ e (fun c o c1 c2 c3 x => hs₃.extBut _ _ c1 (hs₂ _ _ (c3 _ tm) (M.keep c o c1 c2 c3 x))) ⟨oe, hs₃.extBut _ _ hez hoe, hce⟩
    | some y =>
      refine wpAny_bind (next_item (t := ts[k]) i1 (q1.to fun o e => M.keep _ o l1.1 l1.2.1 l1.2.2 e) q2 fun h2 i2 s2 => wpAny_pure ?_)
      obtain ⟨vs, e, sz, _⟩ := M.own
      have hv : IsSeq h2 TO vs := s2.extBut _ _ tO.symm e
      refine wpAny_bind (wpAny_seqItems hv rfl ?_)
      refine wpAny_bind (upd_seq hv (by show _ ≤ 16777216; omega) fun h3 i3 s3 => ?_)
      refine wpAny_bind (wpAny_letGo (wpAny_pure ?_))
      refine ⟨rfl, k + 1, h3, hlt, hrest, rfl, M.step D ht (by rw [List.getElem?_map, ha]; simp [q2]) i2 s2 hv i3 s3, fun j it hj e => ?_⟩
      by_cases l : j = k
      · subst l
        rw [ha] at e; cases e
        rw [q2]; simp
      · exact hno j it (by omega) e
  case fin =>
    rintro b s' ⟨rfl, k, h', hk, hr, rfl, M, hno⟩
    exfalso
    have hkk : k = ts.length := by
      rcases Nat.lt_or_ge k ts.length with l | l
      · rw [List.drop_eq_getElem_cons (by rw [hL]; exact l)] at hr; cases hr
      · omega
    obtain ⟨items, hm, hn⟩ := hend
    obtain ⟨j, hj⟩ := List.mem_iff_getElem?.mp hm
    exact hno j items (by have := (List.getElem?_eq_some_iff.mp hj).1; omega) hj hn
theorem pyNext_item {f0 : Value} {f1 : Bool} {z TI TO : Addr} {ts : List Sr} {i : Nat} {us : Array Value} {xs : List Value} {Q : Option Value → Shared → Prop} (D : Apt z TI TO ts) (hn : ts ≠ []) (hlen : ts.length ≤ 1000)
    (hz : IsZF s.heap z TI TO f0 f1) (hf : Free s.heap f0) (hTI : IsSeq s.heap TI (ts.map fun t => Value.ref t.2.1).toArray) (hTO : IsSeq s.heap TO us) (hu : us.size = ts.length)
    (hit : ∀ t ∈ ts, Itr s.heap t i) (hxl : xs.length = ts.length) (hsrc : ∀ (j : Nat) t, ts[j]? = some t → ∃ items x, Src s.heap t items ∧ items[i]? = some x ∧ xs[j]? = some x)
    (hQ : ∀ h', IsZip h' z TI TO (rawInt s.heap.objs.size) → (∃ vs, IsSeq h' TO vs ∧ vs.size = ts.length) → (∀ t ∈ ts, Itr h' t (i + 1)) → IsSeq h' s.heap.objs.size xs.toArray → h'.objs.size = s.heap.objs.size + 1 →
      (∀ c o, c ≠ z → c ≠ TO → (∀ t ∈ ts, c ≠ t.2.1) → s.heap.get? c = some o → h'.get? c = some o) → Q (some (.ref s.heap.objs.size)) { s with heap := h' }) :
    wpAny (model prog w) A (pyNext (.ref z)) Q E s := by
  have hT : s.TypeIs (.ref z) "zip" := ⟨_, hz, rfl⟩
  unfold pyNext
  exact wpAny_bind (wpAny_attempt (wpAny_callSpecial?_slot (name := Str.ofString "__next__") hT F.slot_zip_next
    (wpAny_call_entry F.slot_zip_next hT F.entry_zip_next
      (zip_item D hn hlen hz hf hTI hTO hu hit hxl hsrc fun h' a1 a2 a3 a4 a5 a6 => wpAny_pure (hQ h' a1 a2 a3 a4 a5 a6)) (F.args_zip_next_1 _))))
theorem pyNext_end {f0 : Value} {f1 : Bool} {z TI TO : Addr} {ts : List Sr} {i : Nat} {us : Array Value} {arrs : List (Array Value)} {Q : Option Value → Shared → Prop} (hh : A.handled = none) (D : Apt z TI TO ts) (hlen : ts.length ≤ 1000)
    (hz : IsZF s.heap z TI TO f0 f1) (hf : Free s.heap f0) (hTI : IsSeq s.heap TI (ts.map fun t => Value.ref t.2.1).toArray) (hTO : IsSeq s.heap TO us) (hu : us.size = ts.length)
    (hit : ∀ t ∈ ts, Itr s.heap t i) (hal : arrs.length = ts.length) (hsrc : ∀ (j : Nat) t items, ts[j]? = some t → arrs[j]? = some items → Src s.heap t items) (hend : ∃ items ∈ arrs, items[i]? = none)
    (hQ : ∀ h', (∀ c o, c ≠ z → c ≠ TO → (∀ t ∈ ts, c ≠ t.2.1) → s.heap.get? c = some o → h'.get? c = some o) → Q none { s with heap := h' }) : wpAny (model prog w) A (pyNext (.ref z)) Q E s := by
  have hT : s.TypeIs (.ref z) "zip" := ⟨_, hz, rfl⟩
  unfold pyNext
  refine wpAny_bind (wpAny_attempt (wpAny_callSpecial?_slot (name := Str.ofString "__next__") hT F.slot_zip_next
    (wpAny_call_entry F.slot_zip_next hT F.entry_zip_next (zip_end hh D hlen hz hf hTI hTO hu hit hal hsrc hend fun h' e hk he => ?_) (F.args_zip_next_1 _))))
  obtain ⟨o, ho, hc⟩ := he
  refine wpAny_bind (wpAny_isInstance (T := "StopIteration") (b := true) ⟨o, ho, hc⟩ isSubtype_stop ?_)
  exact wpAny_pure (hQ _ hk)
structure AmidH (f0 : Value) (h0 h : Heap) (z TI TO : Addr) (ts : List Sr) (i : Nat) (k : Nat) : Prop where
  zip : IsZF h z TI TO f0 true
  its : ∀ (j : Nat) t, ts[j]? = some t → Itr h t (if j < k then i + 1 else i)
  keep : ∀ c o, c ≠ z → (∀ t ∈ ts, c ≠ t.2.1) → h0.get? c = some o → h.get? c = some o
  size : h.objs.size = h0.objs.size
theorem AmidH.step {f0 : Value} {h0 h h2 : Heap} {z TI TO : Addr} {ts : List Sr} {i k : Nat} {t : Sr} (D : Apt z TI TO ts) (M : AmidH f0 h0 h z TI TO ts i k) (ht : ts[k]? = some t)
    (i2 : Itr h2 t (i + 1)) (s2 : Heap.SameBut t.2.1 h h2) : AmidH f0 h0 h2 z TI TO ts i (k + 1) := by
  have tm : t ∈ ts := List.mem_of_getElem? ht
  obtain ⟨tz, tI, tO⟩ := D.it t tm
  refine ⟨s2.extBut _ _ tz.symm M.zip, ?_, fun c o c1 c3 e => s2.extBut _ _ (c3 t tm) (M.keep c o c1 c3 e), by rw [s2.1, M.size]⟩
  intro j u hu
  have um : u ∈ ts := List.mem_of_getElem? hu
  by_cases e : j = k
  · subst e
    rw [ht] at hu; cases hu
    rw [if_pos (Nat.lt_succ_self _)]
    exact i2
  · have ne : u.2.1 ≠ t.2.1 := by
      intro z
      have h1 : (ts.map (·.2.1))[j]? = some u.2.1 := by rw [List.getElem?_map, hu]; rfl
      have h2 : (ts.map (·.2.1))[k]? = some t.2.1 := by rw [List.getElem?_map, ht]; rfl
      obtain ⟨hj, e1⟩ := List.getElem?_eq_some_iff.mp h1
      obtain ⟨hk, e2⟩ := List.getElem?_eq_some_iff.mp h2
      rcases Nat.lt_or_gt_of_ne e with l | l
      · exact (List.pairwise_iff_getElem.mp D.nd j k hj hk l) (e1.trans (z.trans e2.symm))
      · exact (List.pairwise_iff_getElem.mp D.nd k j hk hj l) (e2.trans (z.symm.trans e1.symm))
    have := M.its j u hu
    have ee : (if j < k + 1 then i + 1 else i) = (if j < k then i + 1 else i) := by
      by_cases l : j < k
      · rw [if_pos l, if_pos (by omega)]
      · rw [if_neg l, if_neg (by omega)]
    rw [ee]
    exact this.to fun o q => s2.extBut _ _ ne q
theorem zip_itemH {f0 : Value} {f1 : Bool} {z TI TO : Addr} {ts : List Sr} {i : Nat} {xs : List Value} {Q : Value → Shared → Prop} (D : Apt z TI TO ts) (hn : ts ≠ []) (hlen : ts.length ≤ 1000)
    (hz : IsZF s.heap z TI TO f0 f1) (hf : Held s.heap f0) (hTI : IsSeq s.heap TI (ts.map fun t => Value.ref t.2.1).toArray)
    (hit : ∀ t ∈ ts, Itr s.heap t i) (hxl : xs.length = ts.length) (hsrc : ∀ (j : Nat) t, ts[j]? = some t → ∃ items x, Src s.heap t items ∧ items[i]? = some x ∧ xs[j]? = some x)
    (hQ : ∀ h', IsZF h' z TI TO f0 true → (∀ t ∈ ts, Itr h' t (i + 1)) → IsSeq h' s.heap.objs.size xs.toArray → h'.objs.size = s.heap.objs.size + 1 →
      (∀ c o, c ≠ z → (∀ t ∈ ts, c ≠ t.2.1) → s.heap.get? c = some o → h'.get? c = some o) → Q (.ref s.heap.objs.size) { s with heap := h' }) :
    wpAny (model prog w) A (Builtin.«zip.__next__» ⟨[.ref z], []⟩) (fun fin s' => ∃ v, fin = .done (.ret v) ∧ Q v s') E s := by
  show wpAny _ _ (field (.ref z) 2 >>= _) _ _ _
  refine wpAny_bind (wpAny_field hz rfl (x := .bool false) rfl ?_)
  show wpAny _ _ (field (.ref z) 3 >>= _) _ _ _
  refine wpAny_bind (wpAny_field hz rfl (x := .ref TI) rfl ?_)
  refine wpAny_bind (wpAny_seqItems hTI rfl ?_)
  have hne : (ts.map fun t => Value.ref t.2.1).toArray.isEmpty = false := by
    cases ts with
    | nil => exact absurd rfl hn
    | cons _ _ => rfl
  simp only [hne, Bool.false_eq_true, if_false]
  show wpAny _ _ (Builtin.SmallTypes.ownedTupleIsFree (.ref z) >>= _) _ _ _
  refine wpAny_bind (held_ok hz hf fun h₁ hz₁ hs₁ => ?_)
  simp only [Bool.false_eq_true, if_false]
  refine wpAny_bind ?_
  rw [← Array.forIn_toList]
  simp only [List.toList_toArray]
  have hL : (ts.map fun t => Value.ref t.2.1).length = ts.length := by simp
  refine wpAny_forIn_list _ (fun rest b s' => ∃ k h', k ≤ ts.length ∧ b = (none, (xs.take k).toArray) ∧ rest = (ts.map fun t => Value.ref t.2.1).drop k ∧ s' = { s with heap := h' } ∧ AmidH f0 s.heap h' z TI TO ts i k) _ ?turn ?fin _ _ ?h
  case h =>
    refine ⟨0, h₁, Nat.zero_le _, rfl, rfl, rfl, hz₁, fun j t ht => ?_, fun c o c1 _ e => hs₁.extBut _ _ c1 e, hs₁.1⟩
    have tm : t ∈ ts := List.mem_of_getElem? ht
    rw [if_neg (Nat.not_lt_zero _)]
    exact (hit t tm).to fun o q => hs₁.extBut _ _ (D.it t tm).1 q
  case turn =>
    rintro x rest b s' ⟨k, h', hk, rfl, hr, rfl, M⟩
    have hlt : k < ts.length := by
      rcases Nat.lt_or_ge k ts.length with l | l
      · exact l
      · rw [List.drop_of_length_le (by rw [hL]; exact l)] at hr; cases hr
    rw [List.drop_eq_getElem_cons (by rw [hL]; exact hlt)] at hr
    injection hr with hx hrest
    rw [List.getElem_map] at hx
    subst hx
    have ht : ts[k]? = some ts[k] := List.getElem?_eq_getElem hlt
    have tm : ts[k] ∈ ts := List.mem_of_getElem? ht
    obtain ⟨items, y, q1, q2, q3⟩ := hsrc k _ ht
    have i1 := M.its k _ ht
    rw [if_neg (Nat.lt_irrefl _)] at i1
    have l1 := D.l _ tm
    refine wpAny_bind (wpAny_holding ?_)
    show wpAny _ _ (Builtin.SmallTypes.nextOf (.ref ts[k].2.1) >>= _) _ _ _
    refine wpAny_bind (next_item (t := ts[k]) i1 (q1.to fun o e => M.keep _ o l1.1 l1.2.2 e) q2 fun h2 i2 s2 => wpAny_pure ?_)
    refine wpAny_pure ⟨k + 1, h2, hlt, ?_, hrest, rfl, M.step D ht i2 s2⟩
    have : xs.take (k + 1) = xs.take k ++ [y] := by
      rw [List.take_add_one, q3]; rfl
    rw [this]; simp
  case fin =>
    rintro b s' ⟨k, h', hk, rfl, hr, rfl, M⟩
    have hkk : k = ts.length := by
      rcases Nat.lt_or_ge k ts.length with l | l
      · rw [List.drop_eq_getElem_cons (by rw [hL]; exact l)] at hr; cases hr
      · omega
    subst hkk
    rw [List.take_of_length_le (by omega)]
    show wpAny _ _ (newTuple xs.toArray.toList >>= _) _ _ _
    refine wpAny_bind (wpAny_newTuple ?_)
    have hzz : (h'.push { cls := .type "tuple", data := .seq xs.toArray.toList.toArray }).objs.size = h'.objs.size + 1 := Heap.size_push ..
    have hT8 : IsSeq (h'.push { cls := .type "tuple", data := .seq xs.toArray.toList.toArray }) h'.objs.size xs.toArray := Heap.get?_push_size _ rfl
    rw [M.size] at hzz hT8
    refine wpAny_pure ⟨_, rfl, ?_⟩
    show Q (.ref h'.objs.size) _
    rw [M.size]
    refine hQ _ (Heap.get?_push_of_some _ M.zip) (fun t tm => ?_) hT8 hzz fun c o c1 c3 q => Heap.get?_push_of_some _ (M.keep c o c1 c3 q)
    obtain ⟨j, hj⟩ := List.mem_iff_getElem?.mp tm
    have i1 := M.its j t hj
    rw [if_pos (List.getElem?_eq_some_iff.mp hj).1] at i1
    exact i1.to fun o q => Heap.get?_push_of_some _ q
theorem zip_endH {f0 : Value} {f1 : Bool} {z TI TO : Addr} {ts : List Sr} {i : Nat} {arrs : List (Array Value)} {Q : Fin → Shared → Prop} (hh : A.handled = none) (D : Apt z TI TO ts) (hlen : ts.length ≤ 1000)
    (hz : IsZF s.heap z TI TO f0 f1) (hf : Held s.heap f0) (hTI : IsSeq s.heap TI (ts.map fun t => Value.ref t.2.1).toArray)
    (hit : ∀ t ∈ ts, Itr s.heap t i) (hal : arrs.length = ts.length) (hsrc : ∀ (j : Nat) t items, ts[j]? = some t → arrs[j]? = some items → Src s.heap t items) (hend : ∃ items ∈ arrs, items[i]? = none)
    (hE : ∀ h' e, (∀ c o, c ≠ z → (∀ t ∈ ts, c ≠ t.2.1) → s.heap.get? c = some o → h'.get? c = some o) → (∃ o, h'.get? e = some o ∧ o.cls = .type "StopIteration") → E (.ref e) { s with heap := h' }) :
    wpAny (model prog w) A (Builtin.«zip.__next__» ⟨[.ref z], []⟩) Q E s := by
  show wpAny _ _ (field (.ref z) 2 >>= _) _ _ _
  refine wpAny_bind (wpAny_field hz rfl (x := .bool false) rfl ?_)
  show wpAny _ _ (field (.ref z) 3 >>= _) _ _ _
  refine wpAny_bind (wpAny_field hz rfl (x := .ref TI) rfl ?_)
  refine wpAny_bind (wpAny_seqItems hTI rfl ?_)
  have hne : (ts.map fun t => Value.ref t.2.1).toArray.isEmpty = false := by
    obtain ⟨items, hm, _⟩ := hend
    cases ts with
    | nil => cases arrs with
      | nil => cases hm
      | cons _ _ => cases hal
    | cons _ _ => rfl
  simp only [hne, Bool.false_eq_true, if_false]
  show wpAny _ _ (Builtin.SmallTypes.ownedTupleIsFree (.ref z) >>= _) _ _ _
  refine wpAny_bind (held_ok hz hf fun h₁ hz₁ hs₁ => ?_)
  simp only [Bool.false_eq_true, if_false]
  refine wpAny_bind ?_
  rw [← Array.forIn_toList]
  simp only [List.toList_toArray]
  have hL : (ts.map fun t => Value.ref t.2.1).length = ts.length := by simp
  refine wpAny_forIn_list _ (fun rest b s' => ∃ k h' acc, k ≤ ts.length ∧ b = (none, acc) ∧ rest = (ts.map fun t => Value.ref t.2.1).drop k ∧ s' = { s with heap := h' } ∧ AmidH f0 s.heap h' z TI TO ts i k ∧
    ∀ j items, j < k → arrs[j]? = some items → items[i]? ≠ none) _ ?turn ?fin _ _ ?h
  case h =>
    refine ⟨0, h₁, _, Nat.zero_le _, rfl, rfl, rfl, ⟨hz₁, fun j t ht => ?_, fun c o c1 _ e => hs₁.extBut _ _ c1 e, hs₁.1⟩, fun j _ hj => absurd hj (Nat.not_lt_zero _)⟩
    have tm : t ∈ ts := List.mem_of_getElem? ht
    rw [if_neg (Nat.not_lt_zero _)]
    exact (hit t tm).to fun o q => hs₁.extBut _ _ (D.it t tm).1 q
  case turn =>
    rintro x rest b s' ⟨k, h', acc, hk, rfl, hr, rfl, M, hno⟩
    have hlt : k < ts.length := by
      rcases Nat.lt_or_ge k ts.length with l | l
      · exact l
      · rw [List.drop_of_length_le (by rw [hL]; exact l)] at hr; cases hr
    rw [List.drop_eq_getElem_cons (by rw [hL]; exact hlt)] at hr
    injection hr with hx hrest
    rw [List.getElem_map] at hx
    subst hx
    have ht : ts[k]? = some ts[k] := List.getElem?_eq_getElem hlt
    have tm : ts[k] ∈ ts := List.mem_of_getElem? ht
    have ha : arrs[k]? = some (arrs[k]'(by omega)) := List.getElem?_eq_getElem _
    generalize arrs[k]'(by omega) = items at ha
    have q1 := hsrc k _ _ ht ha
    have i1 := M.its k _ ht
    rw [if_neg (Nat.lt_irrefl _)] at i1
    have l1 := D.l _ tm
    obtain ⟨tz, tI, tO⟩ := D.it _ tm
    refine wpAny_bind (wpAny_holding ?_)
    show wpAny _ _ (Builtin.SmallTypes.nextOf (.ref ts[k].2.1) >>= _) _ _ _
    cases q2 : items[i]? with
    | none =>
      exact wpAny_bind (next_end (t := ts[k]) hh i1 (q1.to fun o e => M.keep _ o l1.1 l1.2.2 e) q2 fun h₂ e hs₂ he => hE h₂ e (fun c o c1 c3 x => hs₂ _ _ (c3 _ tm) (M.keep c o c1 c3 x)) he)
    | some y =>
      refine wpAny_bind (next_item (t := ts[k]) i1 (q1.to fun o e => M.keep _ o l1.1 l1.2.2 e) q2 fun h2 i2 s2 => wpAny_pure ?_)
      refine wpAny_pure ⟨k + 1, h2, _, hlt, rfl, hrest, rfl, M.step D ht i2 s2, fun j it hj e => ?_⟩
      by_cases l : j = k
      · subst l
        rw [ha] at e; cases e
        rw [q2]; simp
      · exact hno j it (by omega) e
  case fin =>
    rintro b s' ⟨k, h', acc, hk, rfl, hr, rfl, M, hno⟩
    exfalso
    have hkk : k = ts.length := by
      rcases Nat.lt_or_ge k ts.length with l | l
      · rw [List.drop_eq_getElem_cons (by rw [hL]; exact l)] at hr; cases hr
      · omega
    obtain ⟨items, hm, hn⟩ := hend
    obtain ⟨j, hj⟩ := List.mem_iff_getElem?.mp hm
    exact hno j items (by have := (List.getElem?_eq_some_iff.mp hj).1; omega) hj hn
theorem pyNext_itemH {f0 : Value} {f1 : Bool} {z TI TO : Addr} {ts : List Sr} {i : Nat} {xs : List Value} {Q : Option Value → Shared → Prop} (D : Apt z TI TO ts) (hn : ts ≠ []) (hlen : ts.length ≤ 1000)
    (hz : IsZF s.heap z TI TO f0 f1) (hf : Held s.heap f0) (hTI : IsSeq s.heap TI (ts.map fun t => Value.ref t.2.1).toArray)
    (hit : ∀ t ∈ ts, Itr s.heap t i) (hxl : xs.length = ts.length) (hsrc : ∀ (j : Nat) t, ts[j]? = some t → ∃ items x, Src s.heap t items ∧ items[i]? = some x ∧ xs[j]? = some x)
    (hQ : ∀ h', IsZF h' z TI TO f0 true → (∀ t ∈ ts, Itr h' t (i + 1)) → IsSeq h' s.heap.objs.size xs.toArray → h'.objs.size = s.heap.objs.size + 1 →
      (∀ c o, c ≠ z → (∀ t ∈ ts, c ≠ t.2.1) → s.heap.get? c = some o → h'.get? c = some o) → Q (some (.ref s.heap.objs.size)) { s with heap := h' }) :
    wpAny (model prog w) A (pyNext (.ref z)) Q E s := by
  have hT : s.TypeIs (.ref z) "zip" := ⟨_, hz, rfl⟩
  unfold pyNext
  exact wpAny_bind (wpAny_attempt (wpAny_callSpecial?_slot (name := Str.ofString "__next__") hT F.slot_zip_next
    (wpAny_call_entry F.slot_zip_next hT F.entry_zip_next
      (zip_itemH D hn hlen hz hf hTI hit hxl hsrc fun h' a1 a3 a4 a5 a6 => wpAny_pure (hQ h' a1 a3 a4 a5 a6)) (F.args_zip_next_1 _))))
theorem pyNext_endH {f0 : Value} {f1 : Bool} {z TI TO : Addr} {ts : List Sr} {i : Nat} {arrs : List (Array Value)} {Q : Option Value → Shared → Prop} (hh : A.handled = none) (D : Apt z TI TO ts) (hlen : ts.length ≤ 1000)
    (hz : IsZF s.heap z TI TO f0 f1) (hf : Held s.heap f0) (hTI : IsSeq s.heap TI (ts.map fun t => Value.ref t.2.1).toArray)
    (hit : ∀ t ∈ ts, Itr s.heap t i) (hal : arrs.length = ts.length) (hsrc : ∀ (j : Nat) t items, ts[j]? = some t → arrs[j]? = some items → Src s.heap t items) (hend : ∃ items ∈ arrs, items[i]? = none)
    (hQ : ∀ h', (∀ c o, c ≠ z → (∀ t ∈ ts, c ≠ t.2.1) → s.heap.get? c = some o → h'.get? c = some o) → Q none { s with heap := h' }) : wpAny (model prog w) A (pyNext (.ref z)) Q E s := by
  have hT : s.TypeIs (.ref z) "zip" := ⟨_, hz, rfl⟩
  unfold pyNext
  refine wpAny_bind (wpAny_attempt (wpAny_callSpecial?_slot (name := Str.ofString "__next__") hT F.slot_zip_next
    (wpAny_call_entry F.slot_zip_next hT F.entry_zip_next (zip_endH hh D hlen hz hf hTI hit hal hsrc hend fun h' e hk he => ?_) (F.args_zip_next_1 _))))
  obtain ⟨o, ho, hc⟩ := he
  refine wpAny_bind (wpAny_isInstance (T := "StopIteration") (b := true) ⟨o, ho, hc⟩ isSubtype_stop ?_)
  exact wpAny_pure (hQ _ hk)
def SrcB (h : Heap) (c : Bool × Addr) (xs : Array Value) : Prop := Src h (c.1, 0, c.2) xs
theorem iter_one {c : Bool × Addr} {xs : Array Value} {Q : Value → Shared → Prop} (hs : SrcB s.heap c xs)
    (h : ∀ h', Itr h' (c.1, s.heap.objs.size, c.2) 0 → h'.objs.size = s.heap.objs.size + 1 → (∀ a o, s.heap.get? a = some o → h'.get? a = some o) → Q (.ref s.heap.objs.size) { s with heap := h' }) :
    wpAny (model prog w) A (pyIter (.ref c.2)) Q E s := by
  obtain ⟨b, l⟩ := c
  cases b with
  | true => exact wpAny_pyIter_tuple hs (h _ ⟨_, Heap.get?_push_size _ rfl, rfl, rfl⟩ (Heap.size_push ..) fun a o e => Heap.get?_push_of_some _ e)
  | false => exact wpAny_pyIter_list hs (h _ ⟨_, Heap.get?_push_size _ rfl, rfl, rfl⟩ (Heap.size_push ..) fun a o e => Heap.get?_push_of_some _ e)
theorem iterAll_ok {cs : List (Bool × Addr)} {Q : List Value → Shared → Prop} (hs : ∀ c ∈ cs, ∃ xs, SrcB s.heap c xs)
    (h : ∀ h', (∀ (j : Nat) c, cs[j]? = some c → Itr h' (c.1, s.heap.objs.size + j, c.2) 0) → h'.objs.size = s.heap.objs.size + cs.length → (∀ a o, s.heap.get? a = some o → h'.get? a = some o) →
      Q ((List.range cs.length).map fun j => Value.ref (s.heap.objs.size + j)) { s with heap := h' }) :
    wpAny (model prog w) A (Builtin.SmallTypes.iterAll (cs.map fun c => .ref c.2)) Q E s := by
  unfold Builtin.SmallTypes.iterAll
  refine wpAny_bind ?_
  refine wpAny_forIn_list _ (fun rest b s' => ∃ k h', k ≤ cs.length ∧ rest = (cs.map fun c => Value.ref c.2).drop k ∧ b = ((List.range k).map fun j => Value.ref (s.heap.objs.size + j)).toArray ∧ s' = { s with heap := h' } ∧
    (∀ (j : Nat) c, j < k → cs[j]? = some c → Itr h' (c.1, s.heap.objs.size + j, c.2) 0) ∧ h'.objs.size = s.heap.objs.size + k ∧ (∀ a o, s.heap.get? a = some o → h'.get? a = some o)) _ ?turn ?fin _ _ ?h
  case h => exact ⟨0, s.heap, Nat.zero_le _, rfl, rfl, rfl, fun j _ hj => absurd hj (Nat.not_lt_zero _), rfl, fun _ _ e => e⟩
  case turn =>
    rintro x rest b s' ⟨k, h', hk, hr, rfl, rfl, hi, hz, hkeep⟩
    have hlt : k < cs.length := by
      rcases Nat.lt_or_ge k cs.length with l | l
      · exact l
      · rw [List.drop_of_length_le (by simpa using l)] at hr; cases hr
    rw [List.drop_eq_getElem_cons (by simpa using hlt)] at hr
    injection hr with hx hrest
    rw [List.getElem_map] at hx
    subst hx
    have hc : cs[k]? = some cs[k] := List.getElem?_eq_getElem hlt
    obtain ⟨xs, hs'⟩ := hs _ (List.mem_of_getElem? hc)
    refine wpAny_bind (wpAny_holding (iter_one (c := cs[k]) (xs := xs) (s := { s with heap := h' }) (hs'.to fun o e => hkeep _ o e) fun h2 i2 z2 k2 => wpAny_pure ?_))
    refine ⟨k + 1, h2, hlt, hrest, ?_, rfl, fun j c hj e => ?_, by rw [z2]; show h'.objs.size + 1 = _; rw [hz]; omega, fun a o e => k2 a o (hkeep a o e)⟩
    · show ((List.range k).map _).toArray.push (Value.ref h'.objs.size) = _
      rw [List.range_succ, List.map_append, hz]
      simp
    · by_cases l : j = k
      · subst l
        rw [hc] at e; cases e
        have : Itr h2 (cs[j].1, h'.objs.size, cs[j].2) 0 := i2
        rw [hz] at this
        exact this
      · exact (hi j c (by omega) e).to fun o q => k2 _ o q
  case fin =>
    rintro b s' ⟨k, h', hk, hr, rfl, rfl, hi, hz, hkeep⟩
    have hkk : k = cs.length := by
      rcases Nat.lt_or_ge k cs.length with l | l
      · rw [List.drop_eq_getElem_cons (by simpa using l)] at hr; cases hr
      · omega
    subst hkk
    refine wpAny_pure ?_
    have := h h' (fun j c e => hi j c (List.getElem?_eq_some_iff.mp e).1 e) hz hkeep
    simpa using this
theorem rec_new {its : List Value} (hl : its.length ≤ 1000) {Q : Fin → Shared → Prop}
    (h : ∀ h', IsZip h' (s.heap.objs.size + 2) s.heap.objs.size (s.heap.objs.size + 1) .none → IsSeq h' s.heap.objs.size its.toArray → IsSeq h' (s.heap.objs.size + 1) (its.map fun _ => Value.none).toArray →
      (∀ a o, s.heap.get? a = some o → h'.get? a = some o) → Q (.done (.ret (.ref (s.heap.objs.size + 2)))) { s with heap := h' }) :
    wpAny (model prog w) A (do
      let a ← newTuple its
      let b ← newTuple (its.map fun _ => Value.none)
      let r ← Builtin.SmallTypes.newRecord (Value.type "zip") (Builtin.SmallTypes.ownedTupleFields ++ [Value.bool false, a, b])
      ret r) Q E s := by
  refine wpAny_bind (wpAny_newTuple ?_ (by show _ ≤ 16777216; omega))
  refine wpAny_bind (wpAny_newTuple ?_ (by show _ ≤ 16777216; rw [List.length_map]; omega))
  unfold Builtin.SmallTypes.newRecord
  refine wpAny_bind (wpAny_newObj_type (wpAny_pure ?_) (by show (5 : Nat) ≤ 16777218; decide))
  generalize e1 : s.heap.push { cls := .type "tuple", data := .seq its.toArray } = h1
  have s1 : h1.objs.size = s.heap.objs.size + 1 := by rw [← e1, Heap.size_push]
  have k1 : ∀ a o, s.heap.get? a = some o → h1.get? a = some o := fun a o q => by rw [← e1]; exact Heap.get?_push_of_some _ q
  have g1 : IsSeq h1 s.heap.objs.size its.toArray := by rw [← e1]; exact Heap.get?_push_size _ rfl
  generalize e2 : h1.push { cls := .type "tuple", data := .seq (its.map fun _ => Value.none).toArray } = h2
  have s2 : h2.objs.size = s.heap.objs.size + 2 := by rw [← e2, Heap.size_push, s1]
  have k2 : ∀ a o, h1.get? a = some o → h2.get? a = some o := fun a o q => by rw [← e2]; exact Heap.get?_push_of_some _ q
  have g2 : IsSeq h2 h1.objs.size (its.map fun _ => Value.none).toArray := by rw [← e2]; exact Heap.get?_push_size _ rfl
  have g3 : IsZip (h2.push { cls := .type "zip", data := .fields #[.none, .bool false, .bool false, .ref s.heap.objs.size, .ref h1.objs.size] }) h2.objs.size s.heap.objs.size h1.objs.size .none := Heap.get?_push_size _ rfl
  have k3 : ∀ a o, h2.get? a = some o → (h2.push { cls := .type "zip", data := .fields #[.none, .bool false, .bool false, .ref s.heap.objs.size, .ref h1.objs.size] }).get? a = some o := fun a o q => Heap.get?_push_of_some _ q
  have q := h _ (by rw [← s2, ← s1]; exact g3) (k3 _ _ (k2 _ _ g1)) (by rw [← s1]; exact k3 _ _ g2) fun a o e => k3 _ _ (k2 _ _ (k1 _ _ e))
  rw [← s2] at q
  exact q
theorem meets_new (cs : List (Bool × Addr)) (hl : cs.length ≤ 1000) :
    Meets (Builtin.«zip.__new__» ⟨.type "zip" :: (cs.map fun c => Value.ref c.2), []⟩) (fun _ R s => (∀ c ∈ cs, ∃ xs, SrcB s.heap c xs) ∧
      ∀ h', IsZip h' (s.heap.objs.size + cs.length + 2) (s.heap.objs.size + cs.length) (s.heap.objs.size + cs.length + 1) .none → IsSeq h' (s.heap.objs.size + cs.length) ((List.range cs.length).map fun j => Value.ref (s.heap.objs.size + j)).toArray →
        IsSeq h' (s.heap.objs.size + cs.length + 1) (((List.range cs.length).map fun j => Value.ref (s.heap.objs.size + j)).map fun _ => Value.none).toArray → (∀ (j : Nat) c, cs[j]? = some c → Itr h' (c.1, s.heap.objs.size + j, c.2) 0) →
        (∀ a o, s.heap.get? a = some o → h'.get? a = some o) → R (.ok (.ret (.ref (s.heap.objs.size + cs.length + 2)))) { s with heap := h' }) :=
  .of_wp fun prog w A R s h => by
    obtain ⟨hp, g, d, tk, os⟩ := s; obtain ⟨hs, h⟩ := h
    have hsub := sub_zip
    unfold Builtin.«zip.__new__»
    wp_walk using iterAll_ok (s := ⟨hp, g, d, tk, os⟩) hs
    intro h' hi hz hk
    have hz : h'.objs.size = hp.objs.size + cs.length := hz
    refine rec_new (s := ⟨h', g, d, tk, os⟩) (by simp; omega) fun h'' z1 z2 z3 z4 => ⟨_, rfl, ?_⟩
    have hz' : (⟨h', g, d, tk, os⟩ : Shared).heap.objs.size = hp.objs.size + cs.length := hz
    rw [hz'] at z1 z2 z3 ⊢
    exact h h'' z1 z2 z3 (fun j c e => (hi j c e).to fun o q => z4 _ o q) fun a o e => z4 a o (hk a o e)
theorem call_zipN {cs : List (Bool × Addr)} {Q : Value → Shared → Prop} (hl : cs.length ≤ 1000) (hct : checkTypeCall "zip" ⟨cs.map fun c => Value.ref c.2, []⟩ = pure ()) (hcn : checkBuiltinCall "zip.__new__" ⟨.type "zip" :: cs.map fun c => Value.ref c.2, []⟩ = pure ())
    (hok : ∀ obj, argsOk "object.__init__" ⟨obj :: cs.map fun c => Value.ref c.2, []⟩) (hs : ∀ c ∈ cs, ∃ xs, SrcB s.heap c xs)
    (h : ∀ h', IsZip h' (s.heap.objs.size + cs.length + 2) (s.heap.objs.size + cs.length) (s.heap.objs.size + cs.length + 1) .none → IsSeq h' (s.heap.objs.size + cs.length) ((List.range cs.length).map fun j => Value.ref (s.heap.objs.size + j)).toArray →
        IsSeq h' (s.heap.objs.size + cs.length + 1) (((List.range cs.length).map fun j => Value.ref (s.heap.objs.size + j)).map fun _ => Value.none).toArray → (∀ (j : Nat) c, cs[j]? = some c → Itr h' (c.1, s.heap.objs.size + j, c.2) 0) →
        (∀ a o, s.heap.get? a = some o → h'.get? a = some o) → Q (.ref (s.heap.objs.size + cs.length + 2)) { s with heap := h' }) :
    wpAny (model prog w) A (call (.type "zip") (cs.map fun c => Value.ref c.2)) Q E s :=
  callType_new F.called_zip (by decide) hct hcn hok F.entry_zip_new (meets_new cs hl) ⟨hs, fun h' a1 a2 a3 a4 a5 => ⟨⟨_, a1, rfl⟩, h h' a1 a2 a3 a4 a5⟩⟩
end
end L3Y
set_option maxHeartbeats 2000000
namespace L3Y
open PySem PySem.Spec PyProof.Rows L2
def SqB (K : PySem.W.Frag) (H : Hp) (c : Bool × Addr) (xs : List V) : Prop := match c with
  | (true, a) => SqT K H a xs
  | (false, a) => SqL K H a xs
theorem SqB.src {X : Cx} {pins : List (Addr × Obj)} {σ : L2.St} {H : Hp} {s : Shared} {c : Bool × Addr} {xs : List V} (I : Inv X pins σ H s) (h : SqB X.K H c xs) : ∃ us : List Value, Vals xs us ∧ SrcB s.heap c us.toArray ∧ c.2 < s.heap.objs.size := by
  obtain ⟨b, a⟩ := c
  cases b with
  | true => obtain ⟨its, r, p, _⟩ := I.tuple h; exact ⟨its, r, p, by obtain ⟨o, e, _⟩ := p; exact Heap.lt_size e⟩
  | false => obtain ⟨its, r, p, _⟩ := I.list h; exact ⟨its, r, p.isList, p.lt⟩
theorem SqB.inj {X : Cx} {pins : List (Addr × Obj)} {σ : L2.St} {H : Hp} {s : Shared} {c : Bool × Addr} {xs ys : List V} (I : Inv X pins σ H s) (h : SqB X.K H c xs) (h' : SqB X.K H c ys) : xs = ys := by
  obtain ⟨b, a⟩ := c
  cases b with
  | true => exact I.tuple_inj h h'
  | false => exact I.list_inj h h'
theorem SrcB.to {h : Heap} {c : Bool × Addr} {xs : Array Value} (x : SrcB h c xs) (it : Addr) : Src h (c.1, it, c.2) xs := by
  obtain ⟨b, a⟩ := c
  cases b <;> exact x
def mkT (b : Nat) : List (Bool × Addr) → List Sr
  | [] => []
  | c :: r => (c.1, b, c.2) :: mkT (b + 1) r
theorem mkT_len : ∀ (b : Nat) (cs : List (Bool × Addr)), (mkT b cs).length = cs.length
  | _, [] => rfl
  | b, c :: r => by show (mkT (b + 1) r).length + 1 = _; rw [mkT_len]; rfl
theorem mkT_get : ∀ (b : Nat) (cs : List (Bool × Addr)) (j : Nat), (mkT b cs)[j]? = (cs[j]?).map fun c => (c.1, b + j, c.2)
  | _, [], j => by simp [mkT]
  | b, c :: r, 0 => by simp [mkT]
  | b, c :: r, j + 1 => by
    show (mkT (b + 1) r)[j]? = (r[j]?).map _
    rw [mkT_get, show b + 1 + j = b + (j + 1) from by omega]
theorem mkT_its (b : Nat) (cs : List (Bool × Addr)) : ((mkT b cs).map fun t => Value.ref t.2.1) = (List.range cs.length).map fun j => Value.ref (b + j) := by
  apply List.ext_getElem?
  intro j
  rw [List.getElem?_map, mkT_get, List.getElem?_map]
  by_cases l : j < cs.length
  · simp [l]
  · have l' : cs.length ≤ j := Nat.le_of_not_lt l
    rw [List.getElem?_eq_none l', List.getElem?_eq_none (by simpa using l')]; rfl
theorem mkT_mem {b : Nat} {cs : List (Bool × Addr)} {t : Sr} (h : t ∈ mkT b cs) : ∃ j c, cs[j]? = some c ∧ t = (c.1, b + j, c.2) := by
  obtain ⟨j, hj⟩ := List.mem_iff_getElem?.mp h
  rw [mkT_get] at hj
  obtain ⟨c, hc, e⟩ := Option.map_eq_some_iff.mp hj
  exact ⟨j, c, hc, e.symm⟩
theorem mkT_apt {b : Nat} {cs : List (Bool × Addr)} (hl : ∀ c ∈ cs, c.2 < b) : Apt (b + cs.length + 2) (b + cs.length) (b + cs.length + 1) (mkT b cs) where
  TIz := (show (b + cs.length : Nat) ≠ b + cs.length + 2 by omega)
  TOz := (show (b + cs.length + 1 : Nat) ≠ b + cs.length + 2 by omega)
  TITO := (show (b + cs.length : Nat) ≠ b + cs.length + 1 by omega)
  it := fun t ht => by
    obtain ⟨j, c, hc, rfl⟩ := mkT_mem ht
    have := (List.getElem?_eq_some_iff.mp hc).1
    exact ⟨(show (b + j : Nat) ≠ b + cs.length + 2 by omega), (show (b + j : Nat) ≠ b + cs.length by omega), (show (b + j : Nat) ≠ b + cs.length + 1 by omega)⟩
  l := fun t ht => by
    obtain ⟨j, c, hc, rfl⟩ := mkT_mem ht
    have hb : (c.2 : Nat) < b := hl c (List.mem_of_getElem? hc)
    refine ⟨Nat.ne_of_lt (Nat.lt_of_lt_of_le hb (show b ≤ b + cs.length + 2 by omega)), Nat.ne_of_lt (Nat.lt_of_lt_of_le hb (show b ≤ b + cs.length + 1 by omega)), fun u hu => ?_⟩
    obtain ⟨j', c', hc', rfl⟩ := mkT_mem hu
    exact Nat.ne_of_lt (Nat.lt_of_lt_of_le hb (show b ≤ b + j' by omega))
  nd := by
    rw [List.Nodup, List.pairwise_iff_getElem]
    intro i j hi hj hij e
    have h1 : ((mkT b cs).map (·.2.1))[i]? = some _ := List.getElem?_eq_getElem hi
    have h2 : ((mkT b cs).map (·.2.1))[j]? = some _ := List.getElem?_eq_getElem hj
    rw [List.getElem?_map, mkT_get] at h1 h2
    rw [e] at h1
    rw [← h2] at h1
    have li : i < cs.length := by rw [List.length_map, mkT_len] at hi; exact hi
    have lj : j < cs.length := by rw [List.length_map, mkT_len] at hj; exact hj
    rw [List.getElem?_eq_getElem li, List.getElem?_eq_getElem lj] at h1
    simp at h1
    omega
def ItzN (K : PySem.W.Frag) (cs : List (Bool × Addr)) : It :=
  ⟨fun i H => ∃ ys : List V, ys.length = cs.length ∧ ∀ (j : Nat) c, cs[j]? = some c → ∃ xs y, SqB K H c xs ∧ xs[i]? = some y ∧ ys[j]? = some y,
    fun i H v H' => ∃ (T : Addr) (ys : List V), v = .ref T ∧ H T = none ∧ H' = upd H T (.tup ys) ∧ ys.length = cs.length ∧ ∀ (j : Nat) c xs, cs[j]? = some c → SqB K H c xs → ∃ y, xs[i]? = some y ∧ ys[j]? = some y,
    fun i H => ∃ xss : List (List V), xss.length = cs.length ∧ (∀ (j : Nat) c xs, cs[j]? = some c → xss[j]? = some xs → SqB K H c xs) ∧ ∃ xs ∈ xss, xs.length ≤ i⟩
theorem vals_all {P : Nat → Value → Prop} : ∀ {ys : List V}, (∀ (j : Nat) y, ys[j]? = some y → ∃ u, RelV y u ∧ P j u) → ∃ us : List Value, Vals ys us ∧ ∀ (j : Nat) u, us[j]? = some u → P j u := by
  intro ys
  induction ys generalizing P with
  | nil => intro _; exact ⟨[], .nil, fun j u e => by simp at e⟩
  | cons y ys ih =>
    intro h
    obtain ⟨u, r, p⟩ := h 0 y rfl
    obtain ⟨us, r', q⟩ := ih (P := fun j u => P (j + 1) u) fun j y e => h (j + 1) y (by simpa using e)
    refine ⟨u :: us, .cons r r', fun j w e => ?_⟩
    cases j with
    | zero => simp at e; subst e; exact p
    | succ j => exact q j w (by simpa using e)
theorem all_of {α β : Type} {P : Nat → α → β → Prop} : ∀ {xs : List α}, (∀ (j : Nat) x, xs[j]? = some x → ∃ u, P j x u) → ∃ us : List β, us.length = xs.length ∧ ∀ (j : Nat) x u, xs[j]? = some x → us[j]? = some u → P j x u := by
  intro xs
  induction xs generalizing P with
  | nil => intro _; exact ⟨[], rfl, fun j x u e => by simp at e⟩
  | cons y ys ih =>
    intro h
    obtain ⟨u, p⟩ := h 0 y rfl
    obtain ⟨us, l, q⟩ := ih (P := fun j x u => P (j + 1) x u) fun j y e => h (j + 1) y (by simpa using e)
    refine ⟨u :: us, by simp [l], fun j x w e e' => ?_⟩
    cases j with
    | zero => simp at e e'; subst e; subst e'; exact p
    | succ j => exact q j x w (by simpa using e) (by simpa using e')
def Tn (z TI TO : Addr) (ts : List Sr) (i : Nat) (h : Heap) : Prop :=
  IsZip h z TI TO .none ∧ IsSeq h TI (ts.map fun t => Value.ref t.2.1).toArray ∧ (∃ vs, IsSeq h TO vs ∧ vs.size = ts.length) ∧ ∀ t ∈ ts, Itr h t i
theorem turn_zipN {P : Program} {w : World} {K : PySem.W.Frag} {elts : List Expr} {kk : Nat} {tpos : Pos} {z TI TO : Addr} {b : Nat} {cs : List (Bool × Addr)} (hn : cs ≠ []) (hlen : cs.length ≤ 1000) (D : Apt z TI TO (mkT b cs)) :
    Turn P w K (.Tuple elts kk tpos) (ItzN K cs) (z :: TI :: TO :: (mkT b cs).map (·.2.1)) z (Tn z TI TO (mkT b cs)) where
  mem := by simp
  obj := fun i h st c hc => by
    obtain ⟨hz, hTI, ⟨vs, hTO, _⟩, hi⟩ := st
    rcases List.mem_cons.mp hc with q | hc
    · rw [q]; exact ⟨_, hz, fun v q => nomatch q⟩
    rcases List.mem_cons.mp hc with q | hc
    · rw [q]; exact ⟨_, hTI, fun v q => nomatch q⟩
    rcases List.mem_cons.mp hc with q | hc
    · rw [q]; exact ⟨_, hTO, fun v q => nomatch q⟩
    obtain ⟨t, ht, rfl⟩ := List.mem_map.mp hc
    obtain ⟨o, fs, e, d⟩ := (hi t ht).obj
    exact ⟨o, e, fun v q => by rw [d] at q; cases q⟩
  keep := fun i h h' st k => by
    obtain ⟨hz, hTI, ⟨vs, hTO, sz⟩, hi⟩ := st
    exact ⟨k z (by simp) _ hz, k TI (by simp) _ hTI, ⟨vs, k TO (by simp) _ hTO, sz⟩, fun t ht => (hi t ht).to fun o q => k _ (by simp only [List.mem_cons]; exact .inr (.inr (.inr (List.mem_map_of_mem ht)))) o q⟩
  item := by
    intro X hP hw hK hc i pins s σ H E I hf st hg
    subst hP hw hK
    obtain ⟨hz, hTI, ⟨vs, hTO, sz⟩, hi⟩ := st
    obtain ⟨ys, hyl, hys⟩ := hg
    have hT := mkT_len b cs
    obtain ⟨us, rv, hus⟩ := vals_all (ys := ys) (P := fun j u => ∀ t, (mkT b cs)[j]? = some t → ∃ items, Src s.heap t items ∧ items[i]? = some u) (fun j y hy => by
      have hj : j < cs.length := by rw [← hyl]; exact (List.getElem?_eq_some_iff.mp hy).1
      have hc : cs[j]? = some cs[j] := List.getElem?_eq_getElem hj
      obtain ⟨xs, y', q, hx, hy'⟩ := hys j _ hc
      rw [hy] at hy'; cases hy'
      obtain ⟨its, r, p, _⟩ := q.src I
      obtain ⟨u, hu, ru⟩ := r.get hx
      refine ⟨u, ru, fun t ht => ?_⟩
      rw [mkT_get, hc] at ht
      simp at ht
      subst ht
      exact ⟨its.toArray, p.to _, by simpa using hu⟩)
    have hul : us.length = (mkT b cs).length := by rw [← rv.length, hyl, hT]
    have hzl : z < s.heap.objs.size := Heap.lt_size hz
    refine pyNext_item D (by intro z; rw [z] at hT; cases cs with | nil => exact hn rfl | cons _ _ => cases hT) (by rw [hT]; exact hlen) hz (.inl rfl) hTI hTO sz hi hul (fun j t ht => ?_) fun h' z' TO' hi' hR hsz hk => ?_
    · have hj : j < us.length := by rw [hul]; exact (List.getElem?_eq_some_iff.mp ht).1
      have hu : us[j]? = some us[j] := List.getElem?_eq_getElem hj
      obtain ⟨items, q1, q2⟩ := hus j _ hu t ht
      exact ⟨items, us[j], q1, q2, hu⟩
    · refine ⟨_, rfl, wpAny_letOwnedTupleGo_zip (s := { s with heap := h' }) z' fun h'' z'' sb => ?_⟩
      have hT2 : h''.get? s.heap.objs.size = some { cls := .type "tuple", data := .seq us.toArray } := (sb.2 _ (Nat.ne_of_gt hzl)).trans hR
      have new : ObjOk X.prog X.w (upd H s.heap.objs.size (.tup ys)) h'' s.heap.objs.size (.tup ys) :=
        ⟨by show ys.length ≤ 16777216; omega, us, rv, ⟨_, hT2, rfl, _, rfl⟩⟩
      have mem : ∀ {c : Addr}, c ∉ (z :: TI :: TO :: (mkT b cs).map (·.2.1)) → c ≠ z ∧ c ≠ TO ∧ ∀ t ∈ mkT b cs, c ≠ t.2.1 := fun {c} hb => ⟨fun q => hb (by simp [q]), fun q => hb (by simp [q]), fun t ht q => hb (by
        simp only [List.mem_cons]; exact .inr (.inr (.inr (by rw [q]; exact List.mem_map_of_mem ht))))⟩
      have I1 : Inv X pins σ (upd H s.heap.objs.size (.tup ys)) { s with heap := h'' } :=
        I.turnedNew (t' := s.toks) (ch := z :: TI :: TO :: (mkT b cs).map (·.2.1)) (fun c o hb q => (sb.2 c (mem hb).1).trans (hk c o (mem hb).1 (mem hb).2.1 (mem hb).2.2 q)) hf (Nat.le_refl _) new
      refine ⟨.ref s.heap.objs.size, _, I1, rfl, ⟨_, ys, rfl, I.hok.fresh (Nat.le_refl _), rfl, hyl, fun j c xs hcj hq => ?_⟩, ⟨z'', ?_, ?_, fun t ht => ?_⟩, fun c hcm => ?_⟩
      · obtain ⟨xs', y, q, hx, hy⟩ := hys j c hcj
        rw [hq.inj I q]
        exact ⟨y, hx, hy⟩
      · exact (sb.2 _ D.TIz).trans (hk _ _ D.TIz D.TITO (fun t ht => (D.it t ht).2.1.symm) hTI)
      · obtain ⟨vs', e, z⟩ := TO'
        exact ⟨vs', (sb.2 _ D.TOz).trans e, z⟩
      · exact (hi' t ht).to fun o q => (sb.2 _ (D.it t ht).1).trans q
      · have hlt : c < s.heap.objs.size := by
          rcases List.mem_cons.mp hcm with q | hcm
          · rw [q]; exact hzl
          rcases List.mem_cons.mp hcm with q | hcm
          · rw [q]; exact Heap.lt_size hTI
          rcases List.mem_cons.mp hcm with q | hcm
          · rw [q]; exact Heap.lt_size hTO
          obtain ⟨t, ht, rfl⟩ := List.mem_map.mp hcm
          obtain ⟨o, fs, e, _⟩ := (hi t ht).obj
          exact Heap.lt_size e
        rw [upd_ne (Nat.ne_of_lt hlt)]
        exact (hf c hcm).1
  done := by
    intro X hP hw hK hc i pins s σ H E I hf st hg
    subst hP hw hK
    obtain ⟨hz, hTI, ⟨vs, hTO, sz⟩, hi⟩ := st
    obtain ⟨xss, hxl, hq, xs0, hm0, hend⟩ := hg
    have hT := mkT_len b cs
    obtain ⟨arrs, hal, ha⟩ := all_of (xs := xss) (P := fun j xs (arr : Array Value) => xs.length = arr.size ∧ ∀ c, cs[j]? = some c → SrcB s.heap c arr) (fun j xs hx => by
      have hj : j < cs.length := by rw [← hxl]; exact (List.getElem?_eq_some_iff.mp hx).1
      have hc : cs[j]? = some cs[j] := List.getElem?_eq_getElem hj
      obtain ⟨its, r, p, _⟩ := (hq j _ xs hc hx).src I
      exact ⟨its.toArray, by simpa using r.length, fun c e => by rw [hc] at e; cases e; exact p⟩)
    have mem : ∀ {c : Addr}, c ∉ (z :: TI :: TO :: (mkT b cs).map (·.2.1)) → c ≠ z ∧ c ≠ TO ∧ ∀ t ∈ mkT b cs, c ≠ t.2.1 := fun {c} hb => ⟨fun q => hb (by simp [q]), fun q => hb (by simp [q]), fun t ht q => hb (by
      simp only [List.mem_cons]; exact .inr (.inr (.inr (by rw [q]; exact List.mem_map_of_mem ht))))⟩
    refine pyNext_end (arrs := arrs) (I.ok.hd hc) D (by rw [hT]; exact hlen) hz (.inl rfl) hTI hTO sz hi (by rw [hal, hxl, hT]) (fun j t items ht hi => ?_) ?_ fun h' hk => ⟨rfl, I.turnedL (t' := s.toks) (ch := z :: TI :: TO :: (mkT b cs).map (·.2.1)) (fun c o hb q => hk c o (mem hb).1 (mem hb).2.1 (mem hb).2.2 q) hf⟩
    · have hj : j < xss.length := by rw [← hal]; exact (List.getElem?_eq_some_iff.mp hi).1
      rw [mkT_get] at ht
      obtain ⟨c, hc, rfl⟩ := Option.map_eq_some_iff.mp ht
      exact ((ha j _ items (List.getElem?_eq_getElem hj) hi).2 c hc).to _
    · obtain ⟨j, hj⟩ := List.mem_iff_getElem?.mp hm0
      have hj' : j < arrs.length := by rw [hal]; exact (List.getElem?_eq_some_iff.mp hj).1
      have e := List.getElem?_eq_getElem hj'
      refine ⟨arrs[j], List.mem_of_getElem? e, ?_⟩
      rw [Array.getElem?_eq_none (by rw [← (ha j _ _ hj e).1]; exact hend)]
  self := fun A i s Q E st h => wpAny_pyIter_zip st.1 h
structure ZFit (us : List Value) : Prop where
  ct : checkTypeCall "zip" ⟨us, []⟩ = pure ()
  cn : checkBuiltinCall "zip.__new__" ⟨.type "zip" :: us, []⟩ = pure ()
  ok : ∀ obj, argsOk "object.__init__" ⟨obj :: us, []⟩
theorem zfit2 (a b : Value) : ZFit [a, b] := ⟨F.typeCall_zip_2 _ _, F.newCall_zip_2 _ _, fun obj => F.args_object_init_3 obj _ _⟩
theorem zfit3 (a b c : Value) : ZFit [a, b, c] := ⟨by kernel_rfl, by kernel_rfl, fun obj => by
  unfold argsOk; rw [signature?_of (id := "object.__init__") (n := ['_', '_', 't', 'i', 'n', 'i', '_', '_']) (o := ['t', 'c', 'e', 'j', 'b', 'o']) (by kernel_rfl) PySem.F.owner_object]; kernel_rfl⟩
def iZipN (K : PySem.W.Frag) (ta : TA) : TI := fun σ H R => ta σ H fun vs H1 => ∃ cs : List (Bool × Addr), vs = cs.map (fun c => V.ref c.2) ∧ cs ≠ [] ∧ cs.length ≤ 1000 ∧ ZFit (cs.map fun c => Value.ref c.2) ∧ (∀ c ∈ cs, ∃ xs, SqB K H1 c xs) ∧ R (ItzN K cs) H1
theorem vals_refs : ∀ {cs : List (Bool × Addr)} {us : List Value}, Vals (cs.map fun c => V.ref c.2) us → us = cs.map fun c => Value.ref c.2
  | [], _, .nil => rfl
  | c :: cs, _, .cons r t => by cases r; rw [vals_refs t]; rfl
theorem pi_zipN {X : Cx} {e : Expr} {es : List Expr} {ta : TA} {p pos tpos : Pos} {elts : List Expr} {kk : Nat} (hg : Gl X "zip") (hm : X.mg "zip" = none) (ha : PA X (e :: es) ta)
    (hs : starEach (e :: es) X.env = (false, eval e X.env) :: starEach es X.env) (hpl : (backTo pos (starEach es X.env)).any (·.1) = false) :
    PI X (.Tuple elts kk tpos) (.Call (.Name "zip" p) (e :: es) [] pos) (iZipN X.K ta) := by
  refine ⟨fun pins s σ H R I h => ?_⟩
  refine Call_ (ld_blt I hg hm PyProof.Rows.boot_zip (PyProof.Rows.callWith_type1 (thn (ha.run pos pins s σ H _ I h) fun us s1 ⟨vs, H1, I1, r1, q1⟩ => ?_) hs hpl))
  obtain ⟨cs, rfl, hn, hl, zf, hsq, q⟩ := q1
  obtain rfl := vals_refs r1
  refine call_zipN hl zf.ct zf.cn zf.ok (fun c hc => by obtain ⟨xs, q⟩ := hsq c hc; obtain ⟨us, _, p, _⟩ := q.src I1; exact ⟨_, p⟩) fun h' hz hTI hTO hi hk => wpAny_pyIter_zip hz ?_
  have I2 : Inv X pins σ H1 { s1 with heap := h' } := I1.kept (t' := s1.toks) hk
  have D : Apt (s1.heap.objs.size + cs.length + 2) (s1.heap.objs.size + cs.length) (s1.heap.objs.size + cs.length + 1) (mkT s1.heap.objs.size cs) := mkT_apt fun c hc => by obtain ⟨xs, q⟩ := hsq c hc; obtain ⟨us, _, _, l⟩ := q.src I1; exact l
  refine ⟨_, _, _, _, H1, rfl, I2, turn_zipN (b := s1.heap.objs.size) hn hl D, ⟨hz, ?_, ⟨_, hTO, ?_⟩, fun t ht => ?_⟩, fun c hcm => ?_, q⟩
  · rw [mkT_its]; exact hTI
  · simp [mkT_len]
  · obtain ⟨j, c, hc, rfl⟩ := mkT_mem ht
    exact hi j c hc
  · have hle : s1.heap.objs.size ≤ c := by
      rcases List.mem_cons.mp hcm with q | hcm
      · rw [q]; exact Nat.le_trans (Nat.le_add_right _ _) (Nat.le_add_right _ 2)
      rcases List.mem_cons.mp hcm with q | hcm
      · rw [q]; exact Nat.le_add_right _ _
      rcases List.mem_cons.mp hcm with q | hcm
      · rw [q]; exact Nat.le_trans (Nat.le_add_right _ _) (Nat.le_add_right _ 1)
      obtain ⟨t, ht, rfl⟩ := List.mem_map.mp hcm
      obtain ⟨j, c, hc, rfl⟩ := mkT_mem ht
      exact Nat.le_add_right _ _
    exact I1.fpOk hle (I1.hok.fresh hle)
end L3Y
set_option maxHeartbeats 1000000
namespace L3
open PySem PySem.Spec PyProof.Rows L2 L3Y
section
variable {c : Ctx} {k : Nat} {X : Cx} {W : WX} {pos : Pos} {tg : Expr}
structure ZipsTo (its : List D) (ls : List (List D)) : Prop where
  get : ∀ (i : Nat) d, its[i]? = some d → ∃ ds, d = .tup ds ∧ ds.length = ls.length ∧ ∀ (j : Nat) l, ls[j]? = some l → ∃ x, l[i]? = some x ∧ ds[j]? = some x
  stop : ∃ l ∈ ls, l.length ≤ its.length
theorem RepL.of {Z : Hp} : ∀ {ds : List D} {vs : List V}, ds.length = vs.length → (∀ (j : Nat) d, ds[j]? = some d → ∃ v, vs[j]? = some v ∧ RepD c Z d v) → RepL c Z ds vs
  | [], [], _, _ => rfl
  | [], _ :: _, e, _ => by cases e
  | _ :: _, [], e, _ => by cases e
  | d :: ds, v :: vs, e, h => by
    obtain ⟨v', e', r⟩ := h 0 d rfl
    simp at e'
    subst e'
    exact ⟨v, vs, rfl, r, RepL.of (by simpa using e) fun j d q => by simpa using h (j + 1) d (by simpa using q)⟩
theorem itzN_ok {w : Wd} {its : List D} {ls : List (List D)} {cs : List (Bool × Addr)} {G : Grd} (hl : cs.length = ls.length) (zt : ZipsTo its ls)
    (h : ∀ Z S H, Nz w ⟨Z, S, H⟩ → Rel c Z S H → G S → ∀ (j : Nat) e l, cs[j]? = some e → ls[j]? = some l → ∃ vs, SqB c.K H e vs ∧ RepL c Z l vs) : ItOk c w its G (ItzN c.K cs) := by
  refine ⟨fun Z S H l' R g => ?_, fun Z S H i d l' R g e => ?_⟩
  · obtain ⟨xss, e1, e2⟩ := all_of (xs := cs) (P := fun j e xs => SqB c.K H e xs ∧ ∀ l, ls[j]? = some l → xs.length = l.length) (fun j e he => by
      have hj : j < ls.length := by rw [← hl]; exact (List.getElem?_eq_some_iff.mp he).1
      have hlj : ls[j]? = some ls[j] := List.getElem?_eq_getElem hj
      obtain ⟨vs, q, r⟩ := h Z S H l' R g j e _ he hlj
      exact ⟨vs, q, fun l q => by rw [hlj] at q; cases q; exact r.length⟩)
    obtain ⟨l0, hm, hle⟩ := zt.stop
    obtain ⟨j, hj⟩ := List.mem_iff_getElem?.mp hm
    have hjl : j < cs.length := by rw [hl]; exact (List.getElem?_eq_some_iff.mp hj).1
    have hjx : j < xss.length := by rw [e1]; exact hjl
    have a1 := List.getElem?_eq_getElem hjx
    have a2 := List.getElem?_eq_getElem hjl
    exact ⟨xss, e1, fun j e xs he hx => (e2 j e xs he hx).1, _, List.mem_of_getElem? a1, by rw [(e2 j _ _ a2 a1).2 l0 hj]; exact hle⟩
  · obtain ⟨ds, rfl, hds, hd⟩ := zt.get i d e
    have key : ∀ (j : Nat) e, cs[j]? = some e → ∃ y, ∃ xs, SqB c.K H e xs ∧ xs[i]? = some y ∧ ∃ x, ds[j]? = some x ∧ RepD c Z x y := fun j e he => by
      have hj : j < ls.length := by rw [← hl]; exact (List.getElem?_eq_some_iff.mp he).1
      have hlj : ls[j]? = some ls[j] := List.getElem?_eq_getElem hj
      obtain ⟨vs, q, r⟩ := h Z S H l' R g j e _ he hlj
      obtain ⟨x, hx, hx'⟩ := hd j _ hlj
      obtain ⟨v, hv, rv⟩ := r.get hx
      exact ⟨v, vs, q, hv, x, hx', rv⟩
    obtain ⟨ys, e1, e2⟩ := all_of (xs := cs) (P := fun j e y => ∃ xs, SqB c.K H e xs ∧ xs[i]? = some y ∧ ∃ x, ds[j]? = some x ∧ RepD c Z x y) key
    refine ⟨⟨ys, e1, fun j e he => ?_⟩, fun x' H' y' => ?_⟩
    · have hj : j < ys.length := by rw [e1]; exact (List.getElem?_eq_some_iff.mp he).1
      have a1 := List.getElem?_eq_getElem hj
      obtain ⟨xs, q, hx, _⟩ := e2 j e _ he a1
      exact ⟨xs, _, q, hx, a1⟩
    · obtain ⟨T, us, rfl, nT, rfl, hul, hu⟩ := y'
      obtain ⟨h1, h2⟩ := R.frozen nT (.tup us)
      refine ⟨_, Nx.frozen (R.new nT).2 nT _, h2, T, us, rfl, SqT.of upd_same, RepL.of (by rw [hds, hul, hl]) fun j d hj => ?_⟩
      have hjl : j < cs.length := by rw [hl, ← hds]; exact (List.getElem?_eq_some_iff.mp hj).1
      have a2 := List.getElem?_eq_getElem hjl
      obtain ⟨y, xs, q, hx, x, hx', rx⟩ := key j _ a2
      obtain ⟨y', hy', hu'⟩ := hu j _ xs a2 q
      rw [hx] at hy'; cases hy'
      rw [hj] at hx'; cases hx'
      exact ⟨y, hu', RepD.le h1 rx⟩
theorem of_wSeqB {d : D} {v : V} {Z : Hp} {S : Store} {H : Hp} {K : List D → Grd → Prop} (R : Rel c Z S H) (r : RepD c Z d v) (h : wSeqG d S K) :
    ∃ (e : Bool × Addr) (l : List D) (G : Grd), v = .ref e.2 ∧ K l G ∧ G S ∧ ∀ Z' S' H', Nz ⟨Z, S, H⟩ ⟨Z', S', H'⟩ → Rel c Z' S' H' → G S' → ∃ vs, SqB c.K H' e vs ∧ RepL c Z' l vs := by
  obtain ⟨d, r, h, np⟩ := unP r h
  cases d with
  | ptup l => exact absurd rfl (np l)
  | tup l =>
    obtain ⟨a, vs, rfl, q, r⟩ := r
    exact ⟨(true, a), l, _, rfl, h, trivial, fun Z' S' H' l' R' _ => ⟨vs, SqT.le R'.fz (SqT.le l'.le q), RepL.le l'.le r⟩⟩
  | fl l =>
    obtain ⟨a, vs, rfl, q, r⟩ := r
    exact ⟨(false, a), l, _, rfl, h, trivial, fun Z' S' H' l' R' _ => ⟨vs, SqL.of (R'.fz _ _ (l'.le _ _ q)), RepL.le l'.le r⟩⟩
  | kl l =>
    obtain ⟨a, vs, rfl, q, r⟩ := r
    exact ⟨(false, a), l, _, rfl, h, trivial, fun Z' S' H' l' R' _ => ⟨vs, SqL.le R'.fz (SqL.le l'.le q), RepL.le l'.le r⟩⟩
  | ref a =>
    cases r
    obtain ⟨l, e, h⟩ := h
    refine ⟨(false, a), l, _, rfl, h, e, fun Z' S' H' l' R' g => ?_⟩
    obtain ⟨_, o, q, vs, rfl, r⟩ := R'.cl a _ g
    exact ⟨vs, SqL.of q, r⟩
  | _ => exact h.elim
theorem zips2 (l m : List D) : ZipsTo ((l.zip m).map fun p => .tup [p.1, p.2]) [l, m] := by
  refine ⟨fun i d e => ?_, ?_⟩
  · obtain ⟨x, y, e1, e2, rfl⟩ := zip_get e
    refine ⟨_, rfl, rfl, fun j l' hj => ?_⟩
    match j, hj with
    | 0, hj => cases hj; exact ⟨x, e1, rfl⟩
    | 1, hj => cases hj; exact ⟨y, e2, rfl⟩
    | j + 2, hj => simp at hj
  · rcases Nat.le_total l.length m.length with h | h
    · exact ⟨l, by simp, by simp; omega⟩
    · exact ⟨m, by simp, by simp; omega⟩
theorem zips3 (l m n : List D) : ZipsTo ((l.zip (m.zip n)).map fun p => .tup [p.1, p.2.1, p.2.2]) [l, m, n] := by
  refine ⟨fun i d e => ?_, ?_⟩
  · rw [List.getElem?_map] at e
    cases e2 : (l.zip (m.zip n))[i]? with
    | none => rw [e2] at e; cases e
    | some p =>
      rw [e2] at e
      simp at e
      subst e
      rw [List.getElem?_zip_eq_some, List.getElem?_zip_eq_some] at e2
      refine ⟨_, rfl, rfl, fun j l' hj => ?_⟩
      match j, hj with
      | 0, hj => cases hj; exact ⟨p.1, e2.1, rfl⟩
      | 1, hj => cases hj; exact ⟨p.2.1, e2.2.1, rfl⟩
      | 2, hj => cases hj; exact ⟨p.2.2, e2.2.2, rfl⟩
      | j + 3, hj => simp at hj
  · by_cases h1 : l.length ≤ m.length ∧ l.length ≤ n.length
    · exact ⟨l, by simp, by simp; omega⟩
    · by_cases h2 : m.length ≤ n.length
      · exact ⟨m, by simp, by simp; omega⟩
      · exact ⟨n, by simp, by simp; omega⟩
theorem si_zip2 {a b : Expr} {wa wb : WE} {p tp : Pos} {elts : List Expr} {kk : Nat} (hK : X.K = c.K) (hg : Gl X "zip") (hm : X.mg "zip" = none) (hs : noStar [a, b] = true) (ha : SE c X W a wa) (hb : SE c X W b wb) :
    PI X (.Tuple elts kk tp) (.Call (.Name "zip" p) [a, b] [] pos) (LI c W (fun ρ S K E => wa ρ S (fun x S1 => wb ρ S1 (fun y S2 => wSeqG x S2 fun l G => wSeqG y S2 fun m G' => K ((l.zip m).map fun p => .tup [p.1, p.2]) (fun S' => G S' ∧ G' S') S2) E) E)) := by
  obtain ⟨s1, s2⟩ := star1 X.env hs
  obtain ⟨s3, s4⟩ := star1 X.env s2
  refine PI.imp (pi_zipN hg hm (pa_cons ha (pa_cons hb pa_nil s3) s1) s1 (star2 X.env pos s2)) fun σ H R' h => ?_
  obtain ⟨Z, S, ρ, KD, ED, R, RE, hw, hq, hx⟩ := h
  refine ⟨Z, S, ρ, _, ED, R, RE, hw, fun x vx Z1 S1 H1 l1 R1 rx kk => ?_, hx⟩
  refine ⟨Z1, S1, ρ, _, ED, R1, RE.le l1.le, kk, fun y vy Z2 S2 H2 l2' R2 ry kk => ?_, hx.le l1⟩
  obtain ⟨e1, l, G, rfl, kk, g1, st⟩ := of_wSeqB R2 (RepD.le l2'.le rx) kk
  obtain ⟨e2, m, G', rfl, kk, g2, st'⟩ := of_wSeqB R2 ry kk
  rw [hK]
  have now := st Z2 S2 H2 (Nz.refl _) R2 g1
  have now' := st' Z2 S2 H2 (Nz.refl _) R2 g2
  refine ⟨[e1, e2], rfl, by simp, by simp, zfit2 _ _, fun e he => ?_, hq _ _ _ Z2 S2 H2 (l1.trans l2') R2 (itzN_ok (ls := [l, m]) rfl (zips2 l m) fun Z3 S3 H3 l3 R3 g j e l' he hl => ?_) kk⟩
  · simp at he
    rcases he with rfl | rfl
    · obtain ⟨vs, q, _⟩ := now; exact ⟨vs, q⟩
    · obtain ⟨vs, q, _⟩ := now'; exact ⟨vs, q⟩
  · match j, he, hl with
    | 0, he, hl => cases he; cases hl; exact st Z3 S3 H3 l3 R3 g.1
    | 1, he, hl => cases he; cases hl; exact st' Z3 S3 H3 l3 R3 g.2
    | j + 2, he, hl => simp at he
theorem si_zip3 {a b d : Expr} {wa wb wd : WE} {p tp : Pos} {elts : List Expr} {kk : Nat} (hK : X.K = c.K) (hg : Gl X "zip") (hm : X.mg "zip" = none) (hs : noStar [a, b, d] = true) (ha : SE c X W a wa) (hb : SE c X W b wb) (hd : SE c X W d wd) :
    PI X (.Tuple elts kk tp) (.Call (.Name "zip" p) [a, b, d] [] pos) (LI c W (fun ρ S K E => wa ρ S (fun x S1 => wb ρ S1 (fun y S2 => wd ρ S2 (fun z S3 => wSeqG x S3 fun l G => wSeqG y S3 fun m G' => wSeqG z S3 fun n G'' =>
      K ((l.zip (m.zip n)).map fun p => .tup [p.1, p.2.1, p.2.2]) (fun S' => G S' ∧ G' S' ∧ G'' S') S3) E) E) E)) := by
  obtain ⟨s1, s2⟩ := star1 X.env hs
  obtain ⟨s3, s4⟩ := star1 X.env s2
  obtain ⟨s5, s6⟩ := star1 X.env s4
  refine PI.imp (pi_zipN hg hm (pa_cons ha (pa_cons hb (pa_cons hd pa_nil s5) s3) s1) s1 (star2 X.env pos s2)) fun σ H R' h => ?_
  obtain ⟨Z, S, ρ, KD, ED, R, RE, hw, hq, hx⟩ := h
  refine ⟨Z, S, ρ, _, ED, R, RE, hw, fun x vx Z1 S1 H1 l1 R1 rx kk => ?_, hx⟩
  refine ⟨Z1, S1, ρ, _, ED, R1, RE.le l1.le, kk, fun y vy Z2 S2 H2 l2' R2 ry kk => ?_, hx.le l1⟩
  refine ⟨Z2, S2, ρ, _, ED, R2, RE.le (l1.trans l2').le, kk, fun z vz Z3 S3 H3 l3 R3 rz kk => ?_, hx.le (l1.trans l2')⟩
  obtain ⟨e1, l, G, rfl, kk, g1, st⟩ := of_wSeqB R3 (RepD.le (l2'.trans l3).le rx) kk
  obtain ⟨e2, m, G', rfl, kk, g2, st'⟩ := of_wSeqB R3 (RepD.le l3.le ry) kk
  obtain ⟨e3, n, G'', rfl, kk, g3, st''⟩ := of_wSeqB R3 rz kk
  rw [hK]
  have now := st Z3 S3 H3 (Nz.refl _) R3 g1
  have now' := st' Z3 S3 H3 (Nz.refl _) R3 g2
  have now'' := st'' Z3 S3 H3 (Nz.refl _) R3 g3
  refine ⟨[e1, e2, e3], rfl, by simp, by simp, zfit3 _ _ _, fun e he => ?_, hq _ _ _ Z3 S3 H3 ((l1.trans l2').trans l3) R3 (itzN_ok (ls := [l, m, n]) rfl (zips3 l m n) fun Z4 S4 H4 l4 R4 g j e l' he hl => ?_) kk⟩
  · simp at he
    rcases he with rfl | rfl | rfl
    · obtain ⟨vs, q, _⟩ := now; exact ⟨vs, q⟩
    · obtain ⟨vs, q, _⟩ := now'; exact ⟨vs, q⟩
    · obtain ⟨vs, q, _⟩ := now''; exact ⟨vs, q⟩
  · match j, he, hl with
    | 0, he, hl => cases he; cases hl; exact st Z4 S4 H4 l4 R4 g.1
    | 1, he, hl => cases he; cases hl; exact st' Z4 S4 H4 l4 R4 g.2.1
    | 2, he, hl => cases he; cases hl; exact st'' Z4 S4 H4 l4 R4 g.2.2
    | j + 3, he, hl => simp at he
end
end L3
set_option maxHeartbeats 2000000
namespace L3Y
open PySem
open PySem.Sem (wp)
section
variable {prog : Program} {w : World} {A : Around} {E : Value → Shared → Prop} {s : Shared}
theorem enum_next {e : Addr} {t : Sr} {n : Nat} {vs : Array Value} {x old : Value} {Q : Value → Shared → Prop}
    (he : IsEnum s.heap e t.2.1 n old) (hi : Itr s.heap t n) (hl : Src s.heap t vs) (hx : vs[n]? = some x) (ne : e ≠ t.2.1)
    (hq : ∀ g, IsEnumOut g e t.2.1 ((n : Int) + 1) x s.heap.objs.size → Itr g t (n + 1) →
      g.get? s.heap.objs.size = some { cls := .type "tuple", data := .seq #[.int n s.toks, x] } → g.objs.size = s.heap.objs.size + 1 →
      (∀ a o, a ≠ e → a ≠ t.2.1 → s.heap.get? a = some o → g.get? a = some o) → Q (.ref s.heap.objs.size) { s with heap := g, toks := s.toks + 1 }) :
    wpAny (model prog w) A (Builtin.«enumerate.__next__» ⟨[.ref e], []⟩) (fun r s' => ∃ v, r = .done (.ret v) ∧ Q v s') E s := by
  obtain ⟨h0, gn, dr, tk, os⟩ := s
  show wpAny _ _ (field (.ref e) 2 >>= _) _ _ _
  refine wpAny_bind (wpAny_field he rfl (x := .ref t.2.1) rfl (wpAny_bind (next_item hi hl hx fun h1 i1 s1 => ?_)))
  have s1 : Heap.SameBut t.2.1 h0 h1 := s1
  have e1 : IsEnum h1 e t.2.1 n old := (s1.2 e ne).trans he
  show wpAny _ _ (field (.ref e) 3 >>= _) _ _ (⟨h1, gn, dr, tk, os⟩ : Shared)
  refine wpAny_bind (wpAny_field e1 rfl (x := rawInt n) rfl ?_)
  show wpAny _ _ (field (.ref e) 4 >>= _) _ _ (⟨h1, gn, dr, tk, os⟩ : Shared)
  refine wpAny_bind (wpAny_field e1 rfl (x := .none) rfl ?_)
  show wpAny _ _ (mkInt n >>= _) _ _ (⟨h1, gn, dr, tk, os⟩ : Shared)
  refine wpAny_bind (wpAny_mkInt ?_)
  show wpAny _ _ (setField (.ref e) 3 (rawInt ((n : Int) + 1)) >>= _) _ _ (⟨h1, gn, dr, tk + 1, os⟩ : Shared)
  refine wpAny_bind (wpAny_setField_rec e1 (by simp) fun h2 e2 s2 => ?_)
  have s2 : Heap.SameBut e h1 h2 := s2
  have e2 : IsEnum h2 e t.2.1 ((n : Int) + 1) old := e2
  show wpAny _ _ (setField (.ref e) 4 .none >>= _) _ _ (⟨h2, gn, dr, tk + 1, os⟩ : Shared)
  refine wpAny_bind (wpAny_setField_rec e2 (by simp) fun h3 e3 s3 => ?_)
  have s3 : Heap.SameBut e h2 h3 := s3
  have e3 : IsEnum h3 e t.2.1 ((n : Int) + 1) old := e3
  show wpAny _ _ (newTuple [.int n tk, x] >>= _) _ _ (⟨h3, gn, dr, tk + 1, os⟩ : Shared)
  refine wpAny_bind (wpAny_newTuple ?_)
  have e4 : IsEnum (h3.push { cls := .type "tuple", data := .seq #[.int n tk, x] }) e t.2.1 ((n : Int) + 1) old := Heap.get?_push_of_some _ e3
  generalize q4 : h3.push { cls := .type "tuple", data := .seq #[.int n tk, x] } = h4 at e4
  have z3 : h3.objs.size = h0.objs.size := by rw [s3.1, s2.1, s1.1]
  have le : e < h0.objs.size := Heap.lt_size he
  have t4 : h4.get? h0.objs.size = some { cls := .type "tuple", data := .seq #[.int n tk, x] } := by rw [← q4, ← z3]; exact Heap.get?_push_size _ rfl
  have z4 : h4.objs.size = h0.objs.size + 1 := by rw [← q4, Heap.size_push, z3]
  have k4 : ∀ a o, a ≠ e → a ≠ t.2.1 → h0.get? a = some o → h4.get? a = some o := fun a o n1 n2 q => by
    rw [← q4]; exact Heap.get?_push_of_some _ (s3.extBut a o n1 (s2.extBut a o n1 (s1.extBut a o n2 q)))
  have i4 : Itr h4 t (n + 1) := i1.to fun o q => by
    rw [← q4]; exact Heap.get?_push_of_some _ (s3.extBut _ o (Ne.symm ne) (s2.extBut _ o (Ne.symm ne) q))
  show wpAny _ _ (Builtin.SmallTypes.ownedTupleIsFree (.ref e) >>= _) _ _ (⟨h4, gn, dr, tk + 1, os⟩ : Shared)
  rw [z3]
  refine wpAny_bind ?_
  unfold Builtin.SmallTypes.ownedTupleIsFree
  refine wpAny_bind (wpAny_field e4 rfl (x := .none) rfl (wpAny_pure ?_))
  simp only [if_true]
  refine wpAny_bind (wpAny_rule (wpAny_bind (wpAny_field e4 rfl (x := old) rfl (wpAny_bind (wpAny_setField_rec e4 (by simp) fun h5 e5 s5 => ?_)))))
  have s5 : Heap.SameBut e h4 h5 := s5
  have e5 : IsEnum h5 e t.2.1 ((n : Int) + 1) x := e5
  show wpAny _ _ (Builtin.SmallTypes.ownedTupleHandOut (.ref e) (.ref h0.objs.size) >>= _) _ _ (⟨h5, gn, dr, tk + 1, os⟩ : Shared)
  refine wpAny_bind ?_
  unfold Builtin.SmallTypes.ownedTupleHandOut
  refine wpAny_bind (wpAny_setField_rec e5 (by simp) fun h6 e6 s6 => ?_)
  have s6 : Heap.SameBut e h5 h6 := s6
  have e6 : IsEnumOut h6 e t.2.1 ((n : Int) + 1) x h0.objs.size := e6
  refine wpAny_setField_rec e6 (by simp) fun h7 e7 s7 => ?_
  have s7 : Heap.SameBut e h6 h7 := s7
  have e7 : IsEnumOut h7 e t.2.1 ((n : Int) + 1) x h0.objs.size := e7
  refine wpAny_bind (wpAny_letGo (wpAny_pure ⟨_, rfl, hq h7 e7 ?_ ?_ ?_ ?_⟩))
  · exact i4.to fun o q => s7.extBut _ o (Ne.symm ne) (s6.extBut _ o (Ne.symm ne) (s5.extBut _ o (Ne.symm ne) q))
  · exact s7.extBut _ _ (Nat.ne_of_gt le) (s6.extBut _ _ (Nat.ne_of_gt le) (s5.extBut _ _ (Nat.ne_of_gt le) t4))
  · rw [s7.1, s6.1, s5.1, z4]
  · exact fun a o n1 n2 q => s7.extBut a o n1 (s6.extBut a o n1 (s5.extBut a o n1 (k4 a o n1 n2 q)))
theorem enum_item {e : Addr} {t : Sr} {n : Nat} {vs : Array Value} {x old : Value} {Q : Option Value → Shared → Prop}
    (he : IsEnum s.heap e t.2.1 n old) (hi : Itr s.heap t n) (hl : Src s.heap t vs) (hx : vs[n]? = some x) (ne : e ≠ t.2.1)
    (hq : ∀ g, IsEnumOut g e t.2.1 ((n : Int) + 1) x s.heap.objs.size → Itr g t (n + 1) →
      g.get? s.heap.objs.size = some { cls := .type "tuple", data := .seq #[.int n s.toks, x] } → g.objs.size = s.heap.objs.size + 1 →
      (∀ a o, a ≠ e → a ≠ t.2.1 → s.heap.get? a = some o → g.get? a = some o) → Q (some (.ref s.heap.objs.size)) { s with heap := g, toks := s.toks + 1 }) :
    wpAny (model prog w) A (pyNext (.ref e)) Q E s := by
  have ty : s.TypeIs (.ref e) "enumerate" := ⟨_, he, rfl⟩
  unfold pyNext
  exact wpAny_bind (wpAny_attempt (wpAny_callSpecial?_slot (name := Str.ofString "__next__") ty F.slot_enumerate_next (wpAny_call_entry F.slot_enumerate_next ty F.entry_enumerate_next
    (enum_next he hi hl hx ne fun g a b c d f => wpAny_pure (hq g a b c d f)) (F.args_enumerate_next_1 _))))
theorem enum_end {e : Addr} {t : Sr} {n : Nat} {vs : Array Value} {old : Value} {Q : Option Value → Shared → Prop} (hh : A.handled = none)
    (he : IsEnum s.heap e t.2.1 n old) (hi : Itr s.heap t n) (hl : Src s.heap t vs) (hx : vs[n]? = none)
    (hq : ∀ g, Heap.ExtBut t.2.1 s.heap g → Q none { s with heap := g }) : wpAny (model prog w) A (pyNext (.ref e)) Q E s := by
  have ty : s.TypeIs (.ref e) "enumerate" := ⟨_, he, rfl⟩
  unfold pyNext
  refine wpAny_bind (wpAny_attempt (wpAny_callSpecial?_slot (name := Str.ofString "__next__") ty F.slot_enumerate_next (wpAny_call_entry F.slot_enumerate_next ty F.entry_enumerate_next ?_ (F.args_enumerate_next_1 _))))
  show wpAny _ _ (field (.ref e) 2 >>= _) _ _ _
  refine wpAny_bind (wpAny_field he rfl (x := .ref t.2.1) rfl (wpAny_bind (next_end hh hi hl hx fun g y hg ⟨o, ho, hc⟩ => ?_)))
  exact wpAny_bind (wpAny_isInstance (T := "StopIteration") (b := true) ⟨o, ho, hc⟩ isSubtype_stop (wpAny_pure (hq _ hg)))
theorem enum_newT (l : Addr) (items : Array Value) :
    Meets (Builtin.«enumerate.__new__» ⟨[.type "enumerate", .ref l], []⟩) (fun _ R s => s.heap.IsTuple l items ∧
      R (.ok (.ret (.ref (s.heap.push { cls := .type "tuple_iterator", data := .fields #[.ref l, .int 0 0] }).objs.size)))
        { s with heap := (s.heap.push { cls := .type "tuple_iterator", data := .fields #[.ref l, .int 0 0] }).push { cls := .type "enumerate", data := .fields #[.none, .bool false, .ref s.heap.objs.size, rawInt 0, .none, .none] } }) :=
  .of_wp fun prog w A R s h => by
    obtain ⟨hp, g, d, tk, os⟩ := s; obtain ⟨hT, h⟩ := h
    have hsub := sub_enumerate
    obtain ⟨ol, hl, hc, n, hd⟩ := id hT
    wp_walk using AutoSeq1.wpAny_loadPart' hl
    refine wpAny_stack_any fun st => wpAny_pure ?_
    split
    · rename_i c _ _ _ _ _
      cases (c == Value.type "enumerate") <;>
      (wp_walk using AutoSeq1.wpAny_loadPart' hl, wpAny_pyIter_tuple hT
       exact ⟨_, rfl, h⟩)
    · wp_walk using AutoSeq1.wpAny_loadPart' hl, wpAny_pyIter_tuple hT
      exact ⟨_, rfl, h⟩
theorem call_enumT {l : Addr} {items : Array Value} {Q : Value → Shared → Prop} (hT : s.heap.IsTuple l items)
    (h : ∀ g, IsEnum g (s.heap.objs.size + 1) s.heap.objs.size 0 .none → g.IsTupleIter s.heap.objs.size l 0 →
      (∀ a o, s.heap.get? a = some o → g.get? a = some o) → Q (.ref (s.heap.objs.size + 1)) { s with heap := g }) :
    wpAny (model prog w) A (call (.type "enumerate") [.ref l]) Q E s := by
  refine callType_new F.called_enumerate (by decide) (F.typeCall_enumerate_1 _) (F.newCall_enumerate_1 _) (fun obj => F.args_object_init_2 obj _) F.entry_enumerate_new (enum_newT l items) ⟨hT, ?_⟩
  have hz : (s.heap.push { cls := .type "tuple_iterator", data := .fields #[.ref l, .int 0 0] }).objs.size = s.heap.objs.size + 1 := Heap.size_push ..
  show _ ∧ _
  rw [hz]
  have he : IsEnum ((s.heap.push { cls := .type "tuple_iterator", data := .fields #[.ref l, .int 0 0] }).push
      { cls := .type "enumerate", data := .fields #[.none, .bool false, .ref s.heap.objs.size, rawInt 0, .none, .none] }) (s.heap.objs.size + 1) s.heap.objs.size 0 .none := by
    have := Heap.get?_push_size (s.heap.push { cls := .type "tuple_iterator", data := .fields #[.ref l, .int 0 0] })
      (o := { cls := .type "enumerate", data := .fields #[.none, .bool false, .ref s.heap.objs.size, rawInt 0, .none, .none] }) rfl
    rw [hz] at this; exact this
  exact ⟨⟨_, he, rfl⟩, h _ he ⟨_, Heap.get?_push_of_some _ (Heap.get?_push_size _ rfl), rfl, rfl⟩ fun a o x => Heap.get?_push_of_some _ (Heap.get?_push_of_some _ x)⟩
end
end L3Y
namespace L3
open PySem PySem.Spec PyProof.Rows L2 L3Y
def IteT (K : PySem.W.Frag) (a : Addr) : It :=
  ⟨fun i H => ∃ (xs : List V) (x : V), SqT K H a xs ∧ xs[i]? = some x, fun i H v H' => ∃ T x, v = .ref T ∧ H T = none ∧ H' = upd H T (.tup [.int (i : Nat), x]) ∧ ∀ xs, SqT K H a xs → xs[i]? = some x, fun i H => ∃ xs : List V, SqT K H a xs ∧ xs.length ≤ i⟩
theorem turn_enumT {P : Program} {w : World} {K : PySem.W.Frag} {elts : List Expr} {kk : Nat} {tpos : Pos} (a e it : Addr) :
    Turn P w K (.Tuple elts kk tpos) (IteT K a) [e, it] e (fun i h => (∃ old, IsEnum h e it ((i : Nat) : Int) old) ∧ Itr h (true, it, a) i ∧ e ≠ it) where
  mem := by simp
  obj := fun i h st b hb => by
    obtain ⟨⟨old, he⟩, hi, _⟩ := st
    rcases (show b = e ∨ b = it by simpa using hb) with z | z
    · rw [z]; exact ⟨_, he, fun v q => nomatch q⟩
    · obtain ⟨o, fs, ho, hd⟩ := hi.obj
      rw [z]; exact ⟨o, ho, fun v q => by rw [hd] at q; cases q⟩
  keep := fun i h h' st k => let ⟨⟨old, he⟩, hi, hne⟩ := st; ⟨⟨old, k e (by simp) _ he⟩, hi.to fun o q => k it (by simp) o q, hne⟩
  item := by
    intro X hP hw hK hc i pins s σ H E I hf st hg
    subst hP hw hK
    obtain ⟨⟨old, he⟩, hit, hne⟩ := st
    obtain ⟨xs, x, hq, hx⟩ := hg
    obtain ⟨us, rv, src, _⟩ := SqB.src (c := (true, a)) I hq
    obtain ⟨u, hu, ru⟩ := rv.get hx
    have le1 : e < s.heap.objs.size := Heap.lt_size he
    have le2 : it < s.heap.objs.size := by obtain ⟨_, _, q, _⟩ := hit.obj; exact Heap.lt_size q
    refine enum_item (t := (true, it, a)) he hit (src.to it) (x := u) (by simpa using hu) hne fun g out i2 hT sz hk => ?_
    refine ⟨_, rfl, wpAny_letOwnedTupleGo_enum (s := { s with heap := g, toks := s.toks + 1 }) out fun g2 e2 sb => ?_⟩
    have hT2 : g2.get? s.heap.objs.size = some { cls := .type "tuple", data := .seq #[.int i s.toks, u] } := (sb.2 _ (Nat.ne_of_gt le1)).trans hT
    have new : ObjOk X.prog X.w (upd H s.heap.objs.size (.tup [.int (i : Nat), x])) g2 s.heap.objs.size (.tup [.int (i : Nat), x]) := ⟨by show 2 ≤ sizeLine; decide, [.int i s.toks, u], .cons ⟨_, rfl⟩ (.cons ru .nil), ⟨_, hT2, rfl, _, rfl⟩⟩
    have I1 : Inv X pins σ (upd H s.heap.objs.size (.tup [.int (i : Nat), x])) { s with heap := g2, toks := s.toks + 1 } :=
      I.turnedNew (ch := [e, it]) (fun b ob hb q => (sb.2 b (fun z => hb (by simp [z]))).trans (hk b ob (fun z => hb (by simp [z])) (fun z => hb (by simp [z])) q)) hf (Nat.le_refl _) new
    refine ⟨.ref s.heap.objs.size, _, I1, rfl, ⟨_, x, rfl, I.hok.fresh (Nat.le_refl _), rfl, fun ys hy => by rw [SqB.inj (c := (true, a)) I hy hq]; exact hx⟩, ⟨⟨u, ?_⟩, i2.to fun o q => (sb.2 it (Ne.symm hne)).trans q, hne⟩, fun b hb => ?_⟩
    · rw [show ((i + 1 : Nat) : Int) = (i : Int) + 1 by omega]; exact e2
    · have lb : b < s.heap.objs.size := by
        rcases (show b = e ∨ b = it by simpa using hb) with z | z
        · rw [z]; exact le1
        · rw [z]; exact le2
      rw [upd_ne (Nat.ne_of_lt lb)]; exact (hf b hb).1
  done := by
    intro X hP hw hK hc i pins s σ H E I hf st hg
    subst hP hw hK
    obtain ⟨⟨old, he⟩, hit, hne⟩ := st
    obtain ⟨xs, hq, hx⟩ := hg
    obtain ⟨us, rv, src, _⟩ := SqB.src (c := (true, a)) I hq
    obtain ⟨f0, f1, f2, f3, f4, f5⟩ := hf it (by simp)
    have hl := rv.length
    exact enum_end (t := (true, it, a)) (I.ok.hd hc) he hit (src.to it) (by simp; omega) fun g eb => ⟨rfl, I.turned (t' := s.toks) (fun b o hb q => eb b o hb q) f0 f1 f3 f4 f5⟩
  self := fun A i s Q E st h => let ⟨⟨_, he⟩, _⟩ := st; wpAny_pyIter_enum he h
def iEnumB (K : PySem.W.Frag) (ta : TA) : TI := fun σ H R => ta σ H fun vs H1 => ∃ a xs, vs = [.ref a] ∧ ((SqL K H1 a xs ∧ R (Ite K a) H1) ∨ (SqT K H1 a xs ∧ R (IteT K a) H1))
theorem pi_enumB {X : Cx} {e : Expr} {ta : TA} {p pos tpos : Pos} {elts : List Expr} {kk : Nat} (hg : Gl X "enumerate") (hm : X.mg "enumerate" = none) (ha : PA X [e] ta) (hs : starEach [e] X.env = [(false, eval e X.env)]) :
    PI X (.Tuple elts kk tpos) (.Call (.Name "enumerate" p) [e] [] pos) (iEnumB X.K ta) := by
  refine ⟨fun pins s σ H R I h => Call_ (ld_blt I hg hm boot_enumerate (PyProof.Rows.callWith_type1 (thn (ha.run pos pins s σ H _ I h) fun us s1 ⟨vs, H1, I1, r1, q1⟩ => ?_) hs rfl))⟩
  obtain ⟨a, xs, rfl, q⟩ := q1
  obtain ⟨u, rfl, ru⟩ := r1.one
  cases (show u = Value.ref a from ru)
  have fp : ∀ b, b ∈ [s1.heap.objs.size + 1, s1.heap.objs.size] → s1.heap.objs.size ≤ b := fun b hb => by
    rcases (show b = s1.heap.objs.size + 1 ∨ b = s1.heap.objs.size by simpa using hb) with z | z
    · rw [z]; exact Nat.le_add_right _ _
    · rw [z]; exact Nat.le_refl _
  rcases q with ⟨hq, q⟩ | ⟨hq, q⟩
  · obtain ⟨its, rv, p', hz⟩ := I1.list hq
    refine call_enumerate_list p'.isList fun g he hit hsz hk => wpAny_pyIter_enum he ?_
    have I2 : Inv X pins σ H1 { s1 with heap := g } := I1.kept (t' := s1.toks) hk
    exact ⟨s1.heap.objs.size + 1, [s1.heap.objs.size + 1, s1.heap.objs.size], _, _, H1, rfl, I2, turn_enum a (s1.heap.objs.size + 1) s1.heap.objs.size, ⟨⟨.none, he⟩, hit, Nat.succ_ne_self _⟩, fun b hb => I1.fpOk (fp b hb) (I1.hok.fresh (fp b hb)), q⟩
  · obtain ⟨us, rv, src, _⟩ := SqB.src (c := (true, a)) I1 hq
    refine call_enumT (items := us.toArray) src fun g he hit hk => wpAny_pyIter_enum he ?_
    have I2 : Inv X pins σ H1 { s1 with heap := g } := I1.kept (t' := s1.toks) hk
    exact ⟨s1.heap.objs.size + 1, [s1.heap.objs.size + 1, s1.heap.objs.size], _, _, H1, rfl, I2, turn_enumT a (s1.heap.objs.size + 1) s1.heap.objs.size, ⟨⟨.none, he⟩, hit, Nat.succ_ne_self _⟩, fun b hb => I1.fpOk (fp b hb) (I1.hok.fresh (fp b hb)), q⟩
section
variable {c : Ctx} {k : Nat} {X : Cx} {W : WX} {pos : Pos}
theorem iteT_ok {w : Wd} {l : List D} {G : Grd} {a : Addr} (h : ∀ Z S H, Nz w ⟨Z, S, H⟩ → Rel c Z S H → ∃ vs, SqT c.K H a vs ∧ RepL c Z l vs) : ItOk c w (l.zipIdx.map fun p => .tup [.int p.2, p.1]) G (IteT c.K a) := by
  refine ⟨fun Z S H l' R g => ?_, fun Z S H i d l' R g e => ?_⟩
  · obtain ⟨vs, q, r⟩ := h Z S H l' R
    exact ⟨vs, q, by simp [r.length]⟩
  · obtain ⟨vs, q, r⟩ := h Z S H l' R
    rw [List.getElem?_map, List.getElem?_zipIdx] at e
    cases e2 : l[i]? with
    | none => rw [e2] at e; cases e
    | some x =>
      rw [e2] at e
      simp at e
      subst e
      obtain ⟨v, hv, rv⟩ := r.get e2
      refine ⟨⟨vs, v, q, hv⟩, fun x' H' y => ?_⟩
      obtain ⟨T, v', rfl, nT, rfl, y⟩ := y
      have := y vs q
      rw [hv] at this; cases this
      obtain ⟨h1, h2⟩ := R.frozen nT (.tup [.int (i : Nat), v])
      exact ⟨_, Nx.frozen (R.new nT).2 nT _, h2, T, _, rfl, SqT.of upd_same, _, _, rfl, rfl, _, _, rfl, RepD.le h1 rv, rfl⟩
theorem si_enumB {b : Expr} {wb : WE} {p tp : Pos} {elts : List Expr} {kk : Nat} (hK : X.K = c.K) (hg : Gl X "enumerate") (hm : X.mg "enumerate" = none) (hs : noStar [b] = true) (hb : SE c X W b wb) :
    PI X (.Tuple elts kk tp) (.Call (.Name "enumerate" p) [b] [] pos) (LI c W (fun ρ S K E => wb ρ S (fun d S1 => wSeqG d S1 fun l G => K (l.zipIdx.map fun p => .tup [.int p.2, p.1]) G S1) E)) :=
  PI.imp (pi_enumB hg hm (pa_cons hb pa_nil (star1 X.env hs).1) (star1 X.env hs).1) fun σ H R' h => by
    obtain ⟨Z, S, ρ, KD, ED, R, RE, hw, hq, hx⟩ := h
    refine ⟨Z, S, ρ, _, ED, R, RE, hw, fun d x Z1 S1 H1 l1 R1 rx kk => ?_, hx⟩
    obtain ⟨d, rx, kk, np⟩ := unP rx kk
    have lists : (wLstG d S1 fun l G => KD (l.zipIdx.map fun p => .tup [.int p.2, p.1]) G S1) → ∃ (a : Addr) (xs : List V), [x] = [V.ref a] ∧ ((SqL X.K H1 a xs ∧ R' (Ite X.K a) H1) ∨ (SqT X.K H1 a xs ∧ R' (IteT X.K a) H1)) := fun kk => by
      obtain ⟨a, vs, l, G, rfl, q, r, kk, st⟩ := of_wLstG R1 rx kk
      refine ⟨a, vs, rfl, .inl ⟨by rw [hK]; exact q, ?_⟩⟩
      rw [hK]
      exact hq _ _ _ Z1 S1 H1 l1 R1 (ite_ok st) kk
    cases d with
    | ptup l => exact absurd rfl (np l)
    | tup l =>
      obtain ⟨a, vs, rfl, q, r⟩ := rx
      refine ⟨a, vs, rfl, .inr ⟨by rw [hK]; exact SqT.le R1.fz q, ?_⟩⟩
      rw [hK]
      exact hq _ _ _ Z1 S1 H1 l1 R1 (iteT_ok fun Z2 S2 H2 l2' R2 => ⟨vs, SqT.le R2.fz (SqT.le l2'.le q), RepL.le l2'.le r⟩) kk
    | _ => exact lists kk
end
end L3
namespace L3
open PySem PySem.Spec PyProof.Rows L2
section
variable {X : Cx} {CX : CXT} {k n : Nat} {f C : Addr} {fd : FuncData} {ps ks : List Str} {sp : Sp} {E : L2.St → XK} {x m : Str} {p pos apos : Pos} {e o : Expr} {es : List Expr} {kws : List Keyword} {t tk : TA} {ta : TE} {g : List Value → List Value → List Value} {gV : List V → List V → List V}
theorem run_fnKSD {pins : List (Addr × Obj)} {σ : L2.St} {H : Hp} {s : Shared} {Q : VK} {us ws : List Value} {vs zs : List V} (F : FnOk X.prog X.w X.K X.mg X.base CX k f fd ps sp) (room : Room k X.A) (hb : KBn X.K fd ps n ks g gV) (pass : PassesAt CX X σ (E σ))
    (I : Inv X pins σ H s) (r : Vals vs us) (rz : Vals zs ws) (l1 : vs.length = n) (l2 : zs.length = ks.length) (h : sp (gV vs zs) H Q (E σ)) : wpAny (model X.prog X.w) X.A (call (.ref f) us (ks.zip ws)) (EP X pins σ Q) X.xe s := by
  refine wpAny_call (codeAny_mono (F.run X.A X.stack s H ⟨us, ks.zip ws⟩ (g us ws) _ Q (E σ) room I.env0 (hb.to s us ws I.kIn (r.length.symm.trans l1) (rz.length.symm.trans l2)) (hb.rel r rz) h) ?_)
  rintro (er | fl) s' z
  · exact pass pins H s er s' I z
  · cases fl with
    | ret u => exact I.after z
    | _ => exact z.elim
def tCallKSD (n m : Nat) (sp : Sp) (gV : List V → List V → List V) (E : L2.St → XK) (t tk : TA) : TE := fun σ H Q => t σ H fun vs H1 => tk σ H1 fun zs H2 => vs.length = n ∧ zs.length = m ∧ sp (gV vs zs) H2 Q (E σ)
theorem pe_callKSD (F : FnOk X.prog X.w X.K X.mg X.base CX k f fd ps sp) (hr : Room k X.A) (hg : Gl X x) (hm : X.mg x = some (.ref f)) (hk : PySem.W.keepIn X.K (.ref f) = true) (hb : KBn X.K fd ps n ks g gV) (hx : ∀ σ, PassesAt CX X σ (E σ))
    (ha : PA X (e :: es) t) (hkw : PK X kws tk) (hall : (backToKw pos (keywordEach kws X.env)).all (·.1.isSome) = true) (hks : (backToKw pos (keywordEach kws X.env)).filterMap (·.1) = ks)
    (hdb : (x == ("__debug__" : Str)) = false) (he : starEach (e :: es) X.env = (false, eval e X.env) :: starEach es X.env)
    (hpl : ((backTo pos (starEach (e :: es) X.env)).any (·.1) || (backToKw pos (keywordEach kws X.env)).any (·.1.isNone)) = false) : PE X (.Call (.Name x p) (e :: es) kws pos) (tCallKSD n ks.length sp gV E t tk) := by
  refine ⟨fun pins s σ H Q I h => wpAny_Call_Name_kw (ld_glob I hg hm (PySem.W.callWith_KW (h₀ := X.base) I.ok.mod.kin hk hall (thn (ha.run pos pins s σ H _ I h) fun us s1 ⟨vs, H1, I1, r, q⟩ => ?_) hpl he) hdb)⟩
  refine thn (hkw.run pos pins s1 σ H1 _ I1 q) fun ws s2 ⟨zs, H2, I2, rz, l1, l2, q2⟩ => ⟨I2.kIn, ?_⟩
  rw [hks]
  exact run_fnKSD F hr hb (hx σ) I2 r rz l1 l2 q2
theorem pe_callKSD0 (F : FnOk X.prog X.w X.K X.mg X.base CX k f fd ps sp) (hr : Room k X.A) (hg : Gl X x) (hm : X.mg x = some (.ref f)) (hk : PySem.W.keepIn X.K (.ref f) = true) (hb : KBn X.K fd ps n ks g gV) (hx : ∀ σ, PassesAt CX X σ (E σ))
    (hkw : PK X kws tk) (hall : (backToKw pos (keywordEach kws X.env)).all (·.1.isSome) = true) (hks : (backToKw pos (keywordEach kws X.env)).filterMap (·.1) = ks)
    (hdb : (x == ("__debug__" : Str)) = false) (hpl : ((backTo pos (starEach [] X.env)).any (·.1) || (backToKw pos (keywordEach kws X.env)).any (·.1.isNone)) = false) : PE X (.Call (.Name x p) [] kws pos) (tCallKSD n ks.length sp gV E tNil tk) := by
  refine ⟨fun pins s σ H Q I h => wpAny_Call_Name_kw (ld_glob I hg hm (PySem.W.callWith_KW0 (h₀ := X.base) I.ok.mod.kin hk hall ?_ hpl) hdb)⟩
  refine thn (hkw.run pos pins s σ H _ I h) fun ws s2 ⟨zs, H2, I2, rz, l1, l2, q2⟩ => ⟨I2.kIn, ?_⟩
  rw [hks]
  exact run_fnKSD (us := []) F hr hb (hx σ) I2 .nil rz l1 l2 q2
def tMethKSD (C : Addr) (m : Str) (n : Nat) (sp : Sp) (gV : List V → List V → List V) (E : L2.St → XK) (ta : TE) (tk : TA) : TE := fun σ H Q => ta σ H fun x H1 => ∃ a dx fs, x = .ref a ∧ H1 a = some (.ins C dx fs) ∧ fs.lookup m = none ∧
  tk σ H1 fun zs H2 => zs.length = n ∧ sp (gV [x] zs) H2 Q (E σ)
theorem pe_methKSD {pl : Sem Bool} (he : PE X o ta) (c : Cls X.K C) (hm : Meth X.K C m f) (F : FnOk X.prog X.w X.K X.mg X.base CX k f fd ps sp) (hr : Room k X.A) (hb : KBn X.K fd ps 1 ks g gV) (hx : ∀ σ, PassesAt CX X σ (E σ))
    (hkw : PK X kws tk) (hall : (backToKw pos (keywordEach kws X.env)).all (·.1.isSome) = true) (hks : (backToKw pos (keywordEach kws X.env)).filterMap (·.1) = ks)
    (hpl : ((backTo pos (starEach [] X.env)).any (·.1) || (backToKw pos (keywordEach kws X.env)).any (·.1.isNone)) = false)
    (ht : eval (.Call (.Attribute o m apos) [] kws pos) X.env = (do
      let ov ← eval o X.env
      standAt apos.atName
      let (f, first) ← holding [ov] (getMethod ov m pl)
      callWith pos f first (backTo pos (starEach [] X.env)) (backToKw pos (keywordEach kws X.env)))) :
    PE X (.Call (.Attribute o m apos) [] kws pos) (tMethKSD C m ks.length sp gV E ta tk) := by
  refine ⟨fun pins s σ H Q I h => PySem.W.methodCall_KW (pl := pl) (thn (he.run pins s σ H _ I h) fun u s1 ⟨x, H1, I1, rx, a, dx, fs, ex, ea, l, q⟩ => ?_) ht⟩
  subst ex
  obtain rfl : u = Value.ref a := rx
  refine getmeth_ok I1 ea c hm l (PySem.W.callWith_KW0 (first := [.ref a]) (h₀ := X.base) I1.ok.mod.kin hm.kp hall ?_ hpl)
  refine thn (hkw.run pos pins s1 σ H1 _ I1 q) fun ws s2 ⟨zs, H2, I2, rz, l2, q2⟩ => ⟨I2.kIn, ?_⟩
  rw [hks]
  exact run_fnKSD (us := [.ref a]) (vs := [.ref a]) F hr hb (hx σ) I2 (.cons rfl .nil) rz rfl l2 q2
end
theorem callK_form {o : Expr} {m : Str} {apos pos : Pos} {kws : List Keyword} {env : PySem.Env} (hb : attributeBase o m env (eval o env) = eval o env)
    (hf : methodCallForm (([] : List Expr).length + kws.length) (backTo pos (starEach [] env)) (backToKw pos (keywordEach kws env)) = true) (hl : (apos.endLine == pos.line) = true) :
    ∃ pl, eval (.Call (.Attribute o m apos) [] kws pos) env = (do
      let ov ← eval o env
      standAt apos.atName
      let (f, first) ← holding [ov] (getMethod ov m pl)
      callWith pos f first (backTo pos (starEach [] env)) (backToKw pos (keywordEach kws env))) := by
  refine ⟨?_, ?_⟩
  rotate_left
  · rw [arm_eval_Call, hb]
    have hpos : methodCallPos true o env apos pos = pure pos := by unfold methodCallPos; simp [hl]
    unfold methodCall
    rw [hf, hpos]
    simp only [pure_bind]
    rfl
section
variable {c : Ctx} {k : Nat} {X : Cx} {W : WX} {pos : Pos}
theorem perm_rep {Z : Hp} {pm : List Nat} {ds : List D} {vs : List V} (r : RepL c Z ds vs) : RepL c Z (permD pm ds) (pm.map fun i => vs.getD i .non) := by
  unfold permD
  induction pm with
  | nil => rfl
  | cons i pm ih =>
    refine ⟨_, _, rfl, ?_, ih⟩
    dsimp only
    rw [List.getD_eq_getElem?_getD, List.getD_eq_getElem?_getD]
    cases e : ds[i]? with
    | some d =>
      obtain ⟨v, hv, rv⟩ := r.get e
      rw [hv]; exact rv
    | none =>
      have : vs[i]? = none := by
        rw [List.getElem?_eq_none_iff] at e ⊢
        rw [r.length]; exact e
      rw [this]; rfl
theorem callK_key {n : Nat} {ks : List Str} {pm : List Nat} {sp : DSp} {spH : Sp} {dvs : List V} {gV : List V → List V → List V} {wa wk : WA} (hp : ∀ vs zs : List V, vs.length = n → zs.length = ks.length → gV vs zs = (pm.map fun i => (vs ++ zs).getD i .non) ++ dvs) (hi : ∀ vs H Q E, liftSp c sp vs H Q E → spH (vs ++ dvs) H Q E) :
    ∀ σ H Q, LG c W (RepD c) (fun ρ S Q E => wa ρ S (fun ds S1 => wk ρ S1 (fun zs S2 => eqW ds.length n (eqW zs.length ks.length (sp (permD pm (ds ++ zs)) S2 Q E))) E) E) σ H Q → tCallKSD n ks.length spH gV (fun σ cls d H => W cls d σ H) (LG c W (RepL c) wa) (LG c W (RepL c) wk) σ H Q := by
  intro σ H Q h
  obtain ⟨Z, S, ρ, QD, ED, R, RE, hw, hq, hx⟩ := h
  refine ⟨Z, S, ρ, _, ED, R, RE, hw, fun ds vs Z1 S1 H1 l1 R1 rd kk => ?_, hx⟩
  refine ⟨Z1, S1, ρ, _, ED, R1, RE.le l1.le, kk, fun es zs Z2 S2 H2 l2' R2 re kk => ?_, hx.le l1⟩
  obtain ⟨e1, kk⟩ := of_eqW kk
  obtain ⟨e2, kk⟩ := of_eqW kk
  have n1 : vs.length = n := by rw [rd.length]; exact e1
  have n2 : zs.length = ks.length := by rw [re.length]; exact e2
  refine ⟨n1, n2, ?_⟩
  rw [hp vs zs n1 n2]
  exact hi _ _ _ _ ⟨Z2, S2, _, QD, ED, R2, perm_rep (RepL.append (RepL.le l2'.le rd) re), kk, hq.le (l1.trans l2'), hx.le (l1.trans l2')⟩
theorem se_callK {f : Str} {n : Nat} {ks : List Str} {pm : List Nat} {sp : DSp} {p : Pos} {e : Expr} {es : List Expr} {kws : List Keyword} {wa wk : WA} (ok : XOk c k X) (tk : Takes X W) (kf : KFunK c k (rn X) f n ks pm sp) (hg : Gl X f) (hn : okN f = true) (hs : noStar (e :: es) = true) (hk : mK kws ks = true)
    (ha : SA c X W (e :: es) wa) (hkw : PK X kws (LG c W (RepL c) wk)) :
    SE c X W (.Call (.Name f p) (e :: es) kws pos) (fun ρ S Q E => wa ρ S (fun ds S1 => wk ρ S1 (fun zs S2 => eqW ds.length n (eqW zs.length ks.length (sp (permD pm (ds ++ zs)) S2 Q E))) E) E) := by
  obtain ⟨a, fd, ps, dvs, g, gV, spH, F, hm, kp, hb, hp, hi⟩ := kf
  obtain ⟨h1, h2, h3⟩ := mK_all hk X.env pos
  obtain ⟨s1, s2⟩ := star1 X.env hs
  exact PE.imp (pe_callKSD F ok.room hg hm kp hb (E := fun σ cls d H => W cls d σ H) (fun σ => passAt tk σ) ha hkw h1 h2 (ok1 hn) s1 (by rw [star2 X.env pos hs, h3]; rfl)) (callK_key hp hi)
theorem se_callK0 {f : Str} {n : Nat} {ks : List Str} {pm : List Nat} {sp : DSp} {p : Pos} {kws : List Keyword} {wk : WA} (ok : XOk c k X) (tk : Takes X W) (kf : KFunK c k (rn X) f n ks pm sp) (hg : Gl X f) (hn : okN f = true) (hk : mK kws ks = true)
    (hkw : PK X kws (LG c W (RepL c) wk)) :
    SE c X W (.Call (.Name f p) [] kws pos) (fun ρ S Q E => (fun _ S Q _ => Q [] S : WA) ρ S (fun ds S1 => wk ρ S1 (fun zs S2 => eqW ds.length n (eqW zs.length ks.length (sp (permD pm (ds ++ zs)) S2 Q E))) E) E) := by
  obtain ⟨a, fd, ps, dvs, g, gV, spH, F, hm, kp, hb, hp, hi⟩ := kf
  obtain ⟨h1, h2, h3⟩ := mK_all hk X.env pos
  refine PE.imp (pe_callKSD0 F ok.room hg hm kp hb (E := fun σ cls d H => W cls d σ H) (fun σ => passAt tk σ) hkw h1 h2 (ok1 hn) (by rw [h3]; rfl)) fun σ H Q h => ?_
  have := callK_key (wa := fun _ S Q _ => Q [] S) hp hi σ H Q h
  exact LG.pure this fun Z S ρ QD ED R RE hw hq hx => hq.go R (d := []) rfl hw
theorem se_ometK {cl i : Nat} {ks : List Str} {pm : List Nat} {sp : DSp} {o : Expr} {apos : Pos} {kws : List Keyword} {wo : WE} {wk : WA} (ok : XOk c k X) (tk : Takes X W) (hb : baseOk o = true) (hl : (apos.endLine == pos.line) = true) (h28 : kws.length < 28) (hne : kws ≠ [])
    (km : KMethK c k (rn X) cl i ks pm sp) (ho : SE c X W o wo) (hk : mK kws ks = true) (hkw : PK X kws (LG c W (RepL c) wk)) :
    SE c X W (.Call (.Attribute o (c.nm i) apos) [] kws pos) (fun ρ S Q E => wo ρ S (fun d S1 => wFld cl d S1 fun fs => noF i fs (wk ρ S1 (fun ds S2 => eqW ds.length ks.length (sp (d :: permD pm ds) S2 Q E)) E)) E) := by
  obtain ⟨C, f, k', hkk, hC, hcl, hm, hnm, fd, ps, dvs, g, gV, spH, F, hbn, hp, hi⟩ := km
  obtain ⟨h1, h2, h3⟩ := mK_all hk X.env pos
  have form : methodCallForm (([] : List Expr).length + kws.length) (backTo pos (starEach [] X.env)) (backToKw pos (keywordEach kws X.env)) = true := by
    unfold methodCallForm
    have hl2 : (backToKw pos (keywordEach kws X.env)).isEmpty = false := by
      cases kws with
      | nil => exact absurd rfl hne
      | cons a r =>
        obtain ⟨nm, v, p⟩ := a
        cases nm <;> rfl
    rw [hl2]
    have e1 : (backTo pos (starEach [] X.env)).all (fun x => !x.1) = true := rfl
    have e2 : (backToKw pos (keywordEach kws X.env)).all (fun x => x.1.isSome) = true := h1
    have e3 : decide ((([] : List Expr).length + kws.length) + (if false = true then 0 else 1) < 30) = true := by
      refine decide_eq_true ?_
      show 0 + kws.length + 1 < 30
      omega
    rw [e1, e2, e3]; rfl
  obtain ⟨pl, ht⟩ := callK_form (apos := apos) (pos := pos) (base_ok hb (eval o X.env)) form hl
  refine PE.imp (pe_methKSD ho hcl hm F (ok.room.mono hkk) hbn (E := fun σ cls d H => W cls d σ H) (fun σ => passAt tk σ) hkw h1 h2 (by rw [h3]; rfl) ht) fun σ H Q h => ?_
  obtain ⟨Z, S, ρ, QD, ED, R, RE, hw, hq, hx⟩ := h
  refine ⟨Z, S, ρ, _, ED, R, RE, hw, fun d v Z1 S1 H1 l1 R1 rd kk => ?_, hx⟩
  obtain ⟨a, C', dx, vfs, fs, rfl, hc', hH, rf, kk⟩ := fld_of R1 rd kk
  rw [hC] at hc'; cases hc'
  obtain ⟨hlk, kk⟩ := RepF.noF hnm rf kk
  refine ⟨a, dx, vfs, rfl, hH, hlk, ?_⟩
  refine ⟨Z1, S1, ρ, _, ED, R1, RE.le l1.le, kk, fun es zs Z2 S2 H2 l2' R2 re kk => ?_, hx.le l1⟩
  obtain ⟨e2, kk⟩ := of_eqW kk
  have n2 : zs.length = ks.length := by rw [re.length]; exact e2
  refine ⟨n2, ?_⟩
  rw [hp _ zs n2]
  exact hi (V.ref a :: (pm.map fun i => zs.getD i .non)) _ _ _ ⟨Z2, S2, d :: permD pm es, QD, ED, R2, ⟨_, _, rfl, RepD.le l2'.le rd, perm_rep re⟩, kk, hq.le (l1.trans l2'), hx.le (l1.trans l2')⟩
theorem se_empM : SE c X W (.Dict [] [] pos) (fun _ S Q _ => ∀ p, S p = none → Q (.ref p) (put S p (.dct []))) :=
  PE.imp pe_dnewK fun σ H Q h => h.pure fun Z S ρ QD ED R RE hw hq hx p hp => by
    obtain ⟨h1, h2⟩ := R.fresh hp (o := .dK []) (x := .dct []) ⟨[], rfl, rfl⟩
    exact hq (.ref p) (.ref p) Z _ _ (Nx.fresh hp _ _) h2 rfl (hw p h1)
theorem revD_of {m : Bool} {d : D} {S : Store} {Q : QE} (h : revD m d S Q) : ∃ l, lstOf S d = some l ∧ newL m l.reverse S Q := by
  cases d with
  | fl l => exact ⟨l, rfl, h⟩
  | kl l => exact ⟨l, rfl, h⟩
  | ref a => obtain ⟨l, e, h⟩ := h; exact ⟨l, by simp [lstOf, e], h⟩
  | _ => exact h.elim
theorem se_revs {m : Bool} {e : Expr} {kk : Nat} {p1 p2 p3 : Pos} {we : WE} (ok : XOk c k X) (he : SE c X W e we) : SE c X W (.Subscript e (.Slice none none (some (.UnaryOp .USub (.Constant (.int 1) kk p1) p2)) p3) pos) (fun ρ S Q E => we ρ S (fun d S1 => revD m d S1 Q) E) :=
  PE.imp (pe_revL he) fun σ H Q h => by
    refine LG.bind (R1 := RepD c) (R2 := RepD c) (w1 := we) (k := fun d ρ S Q E => revD m d S Q)
      (t2 := fun x σ H Q => ∃ a xs, x = V.ref a ∧ SqL X.K H a xs ∧ ∀ p, H p = none → Q (.ref p) (upd H p (.lst xs.reverse))) (fun d v σ H Q Z S ρ QD ED R RE rd kk hq hx => ?_) h
    obtain ⟨l, e, kk⟩ := revD_of kk
    obtain ⟨a, vs, rfl, q, r⟩ := lstOf_ok R rd e
    exact ⟨a, vs, rfl, by rw [ok.hK]; exact q, fun p hp => newL_ok kk R hq r.reverse hp⟩
theorem rg_rep {c : Ctx} {Z : Hp} {j : Int} : RepL c Z (rngL 0 j.toNat) (rgV 0 j) := by
  unfold rngL rgV
  rw [Int.sub_zero]
  generalize List.range j.toNat = l
  induction l with
  | nil => rfl
  | cons a l ih => exact ⟨_, _, rfl, rfl, ih⟩
theorem se_lrng {m : Bool} {e : Expr} {p p1 p2 : Pos} {we : WE} (ok : XOk c k X) (hg : Gl X "list") (hm : X.mg "list" = none) (hg2 : Gl X "range") (hm2 : X.mg "range" = none) (hs1 : noStar [.Call (.Name "range" p1) [e] [] p2] = true) (hs2 : noStar [e] = true) (he : SE c X W e we) :
    SE c X W (.Call (.Name "list" p) [.Call (.Name "range" p1) [e] [] p2] [] pos) (fun ρ S Q E => we ρ S (fun d S1 => wInt d fun j => 0 ≤ j ∧ j ≤ 16777216 ∧ newL m (rngL 0 j.toNat) S1 Q) E) :=
  PE.imp (pe_listRg ok.calm hg hm (prg_1 hg2 hm2 he (star1 X.env hs2).1) (star1 X.env hs1).1) fun σ H Q h => by
    refine LG.bind (R1 := RepD c) (R2 := RepD c) (w1 := we) (k := fun d ρ S Q E => wInt d fun j => 0 ≤ j ∧ j ≤ 16777216 ∧ newL m (rngL 0 j.toNat) S Q)
      (t2 := fun x σ H Q => ∃ n, x = V.int n ∧ RgOk 0 n ∧ ∀ p, H p = none → Q (.ref p) (upd H p (.lst (rgV 0 n)))) (fun d v σ H Q Z S ρ QD ED R RE rd kk hq hx => ?_) h
    cases d with
    | int j =>
      cases rd
      obtain ⟨h1, h2, kk⟩ := kk
      exact ⟨j, rfl, ⟨by omega, by omega, by omega, by omega, by omega⟩, fun p hp => newL_ok kk R hq rg_rep hp⟩
    | _ => exact kk.elim
end
end L3
namespace L3
open PySem PySem.Spec PyProof.Rows L2
theorem se_dun {c : Ctx} {X : Cx} {W : WX} {x : Str} {j x1 : Nat} {p1 p2 pos : Pos} : SE c X W (.Dict [some (.Constant (.str x) j p1)] [.Tuple [] x1 p2] pos) (wC (.dk [(x, .tup [])])) :=
  PE.imp (pe_disp (pps_cons pe_str (pe_tup pa_nil) pps_nil) rfl rfl (by simp) (by simp)) fun σ H Q h => h.pure fun Z S ρ QD ED R RE hw hq hx p hp => by
    have hw : QD (.dk [(x, .tup [])]) S := hw
    show ([] : List V).length ≤ sizeLine ∧ _
    refine ⟨by decide, fun q hq' => ?_⟩
    have npq : p ≠ q := fun z => by rw [← z, upd_same] at hq'; cases hq'
    have hHq : H q = none := by rw [upd_ne (Ne.symm npq)] at hq'; exact hq'
    have hHp : upd H q (.tup []) p = none := by rw [upd_ne npq]; exact hp
    refine ⟨by rw [upd_ne npq, upd_same], [(.inr x, .ref q)], rfl, by simp, ?_⟩
    have e : upd (upd (upd H p (.dK [])) q (.tup [])) p (.dK (mergeK [] [(.inr x, .ref q)])) = upd (upd H q (.tup [])) p (.dK [(.inr x, .ref q)]) := by
      funext b
      by_cases hb : b = p
      · subst hb; rw [upd_same, upd_same]; rfl
      · rw [upd_ne hb, upd_ne hb]
        by_cases hb2 : b = q
        · subst hb2; rw [upd_same, upd_same]
        · rw [upd_ne hb2, upd_ne hb2, upd_ne hb]
    rw [e]
    obtain ⟨h1, h2⟩ := R.frozen hHq (.tup [])
    obtain ⟨h3, h4⟩ := h2.frozen hHp (.dK [(.inr x, .ref q)])
    refine hq (.dk [(x, .tup [])]) (.ref p) _ S _ ((Nx.frozen (R.new hHq).2 hHq _).trans (Nx.frozen (h2.new hHp).2 hHp _)) h4 ⟨p, _, rfl, upd_same, .ref q, [], rfl, ⟨q, [], rfl, SqT.le h3 (SqT.of upd_same), rfl⟩, rfl⟩ hw
end L3
set_option maxHeartbeats 4000000
namespace L3
open PySem PySem.Spec PyProof.Rows L2
theorem uniqS_app (xs : List Str) (x : Str) : uniqS (xs ++ [x]) = oneS (uniqS xs) x := by
  unfold uniqS
  rw [List.foldl_append]
  rfl
theorem uniqS_take {xs : List Str} {i : Nat} (h : i < xs.length) : uniqS (xs.take (i + 1)) = oneS (uniqS (xs.take i)) (xs.getD i Str.empty) := by
  rw [List.take_add_one, List.getElem?_eq_getElem h, List.getD_eq_getElem?_getD, List.getElem?_eq_getElem h]
  exact uniqS_app _ _
theorem oneS_len (acc : List Str) (x : Str) : (oneS acc x).length ≤ acc.length + 1 := by
  unfold oneS
  split
  · omega
  · simp
theorem uniqS_le (xs : List Str) : ∀ i, (uniqS (xs.take i)).length ≤ i
  | 0 => Nat.le_refl _
  | i + 1 => by
    by_cases h : i < xs.length
    · rw [uniqS_take h]
      have := oneS_len (uniqS (xs.take i)) (xs.getD i Str.empty)
      have := uniqS_le xs i
      omega
    · have e : xs.take (i + 1) = xs.take i := by rw [List.take_of_length_le (by omega), List.take_of_length_le (by omega)]
      rw [e]
      have := uniqS_le xs i
      omega
section
variable {prog : Program} {w : World} {A : Around} {R : Result → Shared → Prop} {I : Addr} {fp wr : List Addr} {G : Array GenState → Array GenState → Prop} {n : Nat} {P : Nat → Value → Prop} {St : Nat → Shared → Prop}
abbrev SetS (prog : Program) (w : World) (h : Heap) (a : Addr) (l : List Str) : Prop := h.SetOf (PySem.strKind prog w) a (fun k => l.any (· == k)) l.length
theorem SetS.at {h h' : Heap} {a : Addr} {l : List Str} (H : SetS prog w h a l) (k : ∀ o, h.get? a = some o → h'.get? a = some o) : SetS prog w h' a l := by
  obtain ⟨o, es, ep, t, ho, rest⟩ := H
  exact ⟨o, es, ep, t, k o ho, rest⟩
theorem set_fill (W : WalksS prog w A.in1 I fp wr G n P St) (S : Addr) (hSf : S ∉ fp) (xs : List Str) (hsz : xs.length = n) (hb : n ≤ 4000) (hval : ∀ i v, P i v → ∃ t, v = .str (xs.getD i Str.empty) t) :
    ∀ (k i : Nat) (s : Shared), n - i = k → i ≤ n → St i s → SetS prog w s.heap S (uniqS (xs.take i)) →
      (∀ s', Moved (S :: wr) G s s' → SetS prog w s'.heap S (uniqS xs) → R (.ok (.ret .none)) s') →
      codeAny (model prog w) A (.builtin "set.update.loop" ⟨[.ref S, .ref I], []⟩) R s := by
  have hSw : S ∉ wr := fun h => hSf (W.sub _ h)
  have up : ∀ b ∈ wr, b ∈ S :: wr := fun b hb => List.mem_cons_of_mem _ hb
  intro k
  induction k with
  | zero =>
    intro i s hk hi hst hS hR
    obtain rfl : i = n := by omega
    refine codeAny_builtin PyProof.Rows.F.entry_set_update_loop ?_
    rw [Around.under_plainId PyProof.Rows.F.plain_set_update_loop _]
    show wpAny _ A.in1 (pyNext (.ref I) >>= _) _ _ s
    refine wpAny_bind (W.done s _ _ hst fun s' hm => ?_)
    show wpAny _ A.in1 (ret Value.none) _ _ s'
    rw [List.take_of_length_le (by omega)] at hS
    exact wpAny_pure (hR s' (hm.mono up) (hS.at fun o e => hm.heap S o hSw e))
  | succ k ih =>
    intro i s hk hi hst hS hR
    have hlt : i < n := by omega
    refine codeAny_builtin PyProof.Rows.F.entry_set_update_loop ?_
    rw [Around.under_plainId PyProof.Rows.F.plain_set_update_loop _]
    show wpAny _ A.in1 (pyNext (.ref I) >>= _) _ _ s
    refine wpAny_bind (W.item i s _ _ hlt hst fun v s' hP hst' hm => ?_)
    obtain ⟨t, rfl⟩ := hval i v hP
    have hS' : SetS prog w s'.heap S (uniqS (xs.take i)) := hS.at fun o e => hm.heap S o hSw e
    show wpAny _ A.in1 (holding [Value.str (xs.getD i Str.empty) t] (setAdd S (.str (xs.getD i Str.empty) t)) >>= _) _ _ s'
    refine wpAny_bind (wpAny_holding ?_)
    unfold setAdd
    refine wpAny_holding (wpAny_bind ((PySem.strKind prog w).pyHash (k := xs.getD i Str.empty) (strKind_is _ _ _ _) ?_))
    have room := uniqS_le xs i
    refine wpAny_setAddHashed_of (knd := PySem.strKind prog w) (s := { s' with toks := s'.toks + 1 }) (strKind_is _ _ _ _) rfl hS' (by unfold scanBound; omega) fun h' hsb hS2 => ?_
    have hSi : SetS prog w h' S (uniqS (xs.take (i + 1))) := by
      rw [uniqS_take (by omega)]
      generalize xs.getD i Str.empty = x at hS2 ⊢
      generalize uniqS (xs.take i) = acc at hS2 ⊢
      unfold oneS
      cases hx : acc.any (· == x) with
      | true =>
        simp only [hx, if_true] at hS2 ⊢
        refine SetOf_congr hS2 (fun k' => ?_) rfl
        by_cases e : k' = x
        · subst e; simp [hx]
        · simp [e]
      | false =>
        simp only [hx, Bool.false_eq_true, if_false] at hS2 ⊢
        refine SetOf_congr hS2 (fun k' => ?_) (by simp)
        rw [List.any_append]
        congr 1
        by_cases e : k' = x
        · subst e; simp
        · have hb : (x == k') = false := beq_eq_false_iff_ne.mpr fun h => e h.symm
          simp [hb, e]
    refine wpAny_pure ⟨plainId_quiet PyProof.Rows.F.plain_set_update_loop _, ih (i + 1) _ (by omega) hlt (W.frame _ s' _ _ hst' (Nat.le_succ _) fun b hb o e => ?_) hSi fun s'' hm'' hS'' => ?_⟩
    · rw [hsb.2 b (fun h : b = S => hSf (by rw [← h]; exact hb))]; exact e
    · refine hR s'' (Moved.trans W.gtrans ((hm.mono up).then_heap (Nat.le_succ _) fun b o hb e => ?_) hm'') hS''
      rw [hsb.2 b (fun h : b = S => hb (by rw [h]; exact List.mem_cons_self))]; exact e
end
section
variable {prog : Program} {w : World} {A : Around} {E : Value → Shared → Prop} {s : Shared}
set_option maxHeartbeats 6400000 in
theorem set_texts {l : Addr} {items : Array Value} {xs : List Str} {Q : Value → Shared → Prop}
    (hh : A.handled = none) (hl : s.heap.IsList l items) (hi : PyProof.Rows.StrsAre items.toList xs) (hn : xs.length ≤ 4000)
    (h : ∀ (h' : Heap) (tk : Nat), SetS prog w h' s.heap.objs.size (uniqS xs) →
      (∀ b o, b < s.heap.objs.size → s.heap.get? b = some o → h'.get? b = some o) → Q (.ref s.heap.objs.size) { s with heap := h', toks := tk }) :
    wpAny (model prog w) A (call (.type "set") [.ref l]) Q E s := by
  obtain ⟨c, tl, hmro⟩ := PySem.F.called_set.mro
  have hmade := PySem.F.called_set.made
  have hsub := PySem.F.called_set.sub
  refine wpAny_call (codeAny_of_tree ?_)
  show wpAny _ _ (callAny (.type "set") _) _ _ _
  refine wpAny_pure ⟨Code.quiet_builtin _ (by decide +kernel), codeAny_builtin PySem.F.entry_type_call ?_⟩
  rw [Around.under_plain (weight_type_call_type "set" [.ref l] []) rfl]
  have h1 := PySem.F.called_set.notType
  have h2 := PySem.F.called_set.canCreate
  have hct := PySem.F.typeCall_set_1 (.ref l)
  repeat (any_goals (first | assumption | wp_step))
  refine codeAny_mono (code_set_new_1 (.ref l) (E := E) (Q₁ := fun obj s₁ => ∃ led : Bool, obj = .ref s.heap.objs.size ∧ s₁ = { s with heap := s.heap.push { cls := .type "set", dict := none, data := .set #[] 0 (.fresh 0 0 led) } }) fun led => ⟨led, rfl, rfl⟩) fun r s₁ hr => ?_
  cases r with
  | error e => exact hr
  | ok fl =>
    cases fl with
    | ret obj =>
      obtain ⟨led, rfl, rfl⟩ := hr
      have hS : (s.heap.push { cls := .type "set", dict := none, data := .set #[] 0 (.fresh 0 0 led) }).get? s.heap.objs.size = some { cls := .type "set", dict := none, data := .set #[] 0 (.fresh 0 0 led) } := Heap.get?_push_size _ rfl
      have hT : Shared.TypeIs { s with heap := s.heap.push { cls := .type "set", dict := none, data := .set #[] 0 (.fresh 0 0 led) } } (.ref s.heap.objs.size) "set" := ⟨_, hS, rfl⟩
      have hli := PySem.F.called_set.init.lookup
      have hbi := PySem.F.called_set.init.bind (.ref s.heap.objs.size)
      repeat (any_goals (first | assumption | wp_step))
      refine codeAny_mono (codeAny_call_builtin (R := wants (fun r s₂ => r = .none ∧ ∃ h' tk, s₂ = { s with heap := h', toks := tk } ∧
          SetS prog w h' s.heap.objs.size (uniqS xs) ∧
          (∀ b o, b < s.heap.objs.size → s.heap.get? b = some o → h'.get? b = some o)) E) PySem.F.called_set.init.plain PySem.F.entry_set_init (check_set_init_1 hT ?_)) fun r₂ s₂ hr₂ => ?_
      · obtain ⟨ol, hol, hcl, nl, hdl⟩ := hl
        obtain ⟨ocls, odict, odata, oslots⟩ := ol
        simp only at hcl hdl
        subst hcl; subst hdl
        have hol' : (s.heap.push { cls := .type "set", dict := none, data := .set #[] 0 (.fresh 0 0 led) }).get? l = some { cls := .type "list", dict := odict, data := .seq items nl, slots := oslots } := Heap.get?_push_of_some _ hol
        have hsls := PySem.F.sub_list_set
        have hslf := PySem.F.sub_list_frozenset
        have hne : (Value.type "list" == Value.type "dict") = false := by decide
        have hl1 : (s.heap.push { cls := .type "set", dict := none, data := .set #[] 0 (.fresh 0 0 led) }).IsList l items := ⟨_, hol', rfl, nl, rfl⟩
        unfold Builtin.«set.__init__» noKeywords Builtin.Frozenset.updateFrom
        generalize hPI : pyIter = PI
        wp_walk
        subst hPI
        refine wpAny_pyIter_list hl1 ?_
        refine wpAny_bind (wpAny_runValue ?_)
        have hlS : l < s.heap.objs.size := Heap.lt_size hol
        have hh3 : A.in1.in1.in1.handled = none := by simp [hh]
        have hneI : l ≠ (s.heap.push { cls := .type "set", dict := none, data := .set #[] 0 (.fresh 0 0 led) }).objs.size := by
          rw [Heap.size_push]; exact Nat.ne_of_lt (Nat.lt_succ_of_lt hlS)
        have hSf : s.heap.objs.size ∉ [(s.heap.push { cls := .type "set", dict := none, data := .set #[] 0 (.fresh 0 0 led) }).objs.size, l] := by
          rw [Heap.size_push]; simp only [List.mem_cons, List.mem_singleton, List.not_mem_nil, or_false, not_or]
          exact ⟨Nat.ne_of_lt (Nat.lt_succ_self _), Nat.ne_of_gt hlS⟩
        have hsz : xs.length = items.size := by rw [← StrsAre.len_eq hi, Array.length_toList]
        have hval : ∀ (i : Nat) (v : Value), items[i]? = some v → ∃ t, v = .str (xs.getD i Str.empty) t := fun i v hv => SS.strs_at hi i v (by rw [Array.getElem?_toList]; exact hv)
        refine set_fill ((Walks.list hh3 _ l hneI items).toS) s.heap.objs.size
          hSf xs hsz (by rw [← hsz]; exact hn) hval (items.size - 0) 0 _ (by omega) (Nat.zero_le _)
          ⟨⟨_, Heap.get?_push_size _ rfl, rfl, rfl⟩, (hl1.push _)⟩ ?hS0 ?hR
        case hS0 =>
          have hget : ((s.heap.push { cls := .type "set", dict := none, data := .set #[] 0 (.fresh 0 0 led) }).push { cls := .type "list_iterator", data := .fields #[.ref l, .int 0 0] }).get? s.heap.objs.size
              = some { cls := .type "set", dict := none, data := .set #[] 0 (.fresh 0 0 led) } := Heap.get?_push_of_some _ hS
          exact PyProof.Rows.SetOf_congr ((PyProof.Rows.setObjOf_fresh (knd := PySem.strKind prog w) led).setOf hget (by unfold scanBound; omega)) (fun _ => rfl) rfl
        case hR =>
          intro s' hm hS'
          obtain ⟨h', g', d', tk', os'⟩ := s'
          have eg : g' = s.gens := hm.gens
          have ed : d' = s.drawn := hm.drawn
          have eo : os' = s.os := hm.os
          subst eg; subst ed; subst eo
          show wpAny _ _ _ _ _ _
          refine wpAny_pure ?_
          show wpAny _ _ (ret Value.none) _ _ _
          refine wpAny_pure ⟨rfl, h', tk', rfl, hS', fun b o hb e => ?_⟩
          have hb1 : b ≠ s.heap.objs.size := Nat.ne_of_lt hb
          have hb2 : b ≠ (s.heap.push { cls := .type "set", dict := none, data := .set #[] 0 (.fresh 0 0 led) }).objs.size := by
            rw [Heap.size_push]; exact Nat.ne_of_lt (Nat.lt_succ_of_lt hb)
          exact hm.heap b o (by simp only [List.mem_cons, List.mem_singleton, List.not_mem_nil, or_false, not_or]; exact ⟨hb1, hb2⟩) (Heap.get?_push_of_some _ (Heap.get?_push_of_some _ e))
      · cases r₂ with
        | error e => exact hr₂
        | ok fl₂ =>
          cases fl₂ with
          | ret r =>
            obtain ⟨rfl, h', tk, rfl, hS', hk'⟩ := hr₂
            repeat (any_goals (first | assumption | wp_step))
            exact h _ _ hS' hk'
          | _ => exact hr₂.elim
    | _ => exact hr.elim
end
section
variable {X : Cx}
def tSetN (K : PySem.W.Frag) (ta : TE) : TE := fun σ H Q => ta σ H fun x H1 => ∃ (l : Addr) (xs : List Str), x = .ref l ∧ SqL K H1 l (xs.map V.str) ∧ xs.length ≤ 4000 ∧ Q (.int (uniqS xs).length) H1
theorem pe_setN {a : Expr} {ta : TE} {p p2 q pos : Pos} (hc : X.calm = true) (hg : Gl X "len") (hm : X.mg "len" = none) (hg2 : Gl X "set") (hm2 : X.mg "set" = none) (ha : PE X a ta)
    (na : starEach [a] X.env = (false, eval a X.env) :: starEach [] X.env) (na2 : starEach [.Call (.Name "set" p2) [a] [] q] X.env = (false, eval (.Call (.Name "set" p2) [a] [] q) X.env) :: starEach [] X.env) : PE X (.Call (.Name "len" p) [.Call (.Name "set" p2) [a] [] q] [] pos) (tSetN X.K ta) := by
  refine ⟨fun pins s σ H Q I h => ?_⟩
  refine Call_ (ld_blt I hg hm boot_len ?_)
  refine PyProof.Rows.callWith_builtin1 (PyProof.Rows.args_cons ?_ na2) na2 rfl
  refine Call_ (ld_blt I hg2 hm2 boot_set ?_)
  refine PyProof.Rows.callWith_type1 (PyProof.Rows.args_cons (thn (ha.run pins s σ H _ I h) fun v s1 ⟨x, H1, I1, r1, q1⟩ => PyProof.Rows.args_nil ?_) na) na rfl
  obtain ⟨l, xs, rfl, hq, hl, q1⟩ := q1
  cases r1
  obtain ⟨its, r, pl, hz⟩ := I1.list hq
  refine set_texts (I1.ok.hd hc) pl.isList (by simpa using strsAre_of r) hl fun h' tk hS hk => PyProof.Rows.args_nil ?_
  obtain ⟨o, es, ep, t, ho, hex, hd, _, _, _, hf, hn⟩ := hS
  have I2 : Inv X pins σ H1 { s1 with heap := h', toks := tk } := I1.kept fun b o e => hk b o (Heap.lt_size e) e
  have hu : (uniqS xs).length ≤ xs.length := by
    have := uniqS_le xs xs.length
    rwa [List.take_length] at this
  exact call_len_set ho hex hd hf (by rw [hn] <;> omega) ⟨.int (uniqS xs).length, H1, I2.tok _, ⟨_, by rw [hn]⟩, q1⟩
end
section
variable {c : Ctx} {k : Nat} {X : Cx} {W : WX} {pos : Pos}
theorem texts_of {Z : Hp} : ∀ {bs : List Str} {vs : List V}, RepL c Z (bs.map D.str) vs → vs = bs.map V.str
  | [], _, r => by cases r; rfl
  | b :: bs, _, r => by
    obtain ⟨v, t, rfl, q, r⟩ := r
    cases q
    rw [texts_of r]
    rfl
theorem lset_of {d : D} {S : Store} {Q : QE} (h : wLset d S Q) : ∃ (xs : List Str), lstOf S d = some (xs.map D.str) ∧ xs.length ≤ 4000 ∧ Q (.int (uniqS xs).length) S := by
  obtain ⟨xs, e, h1, h2⟩ := h
  exact ⟨xs, e, h1, h2⟩
theorem se_lset {e : Expr} {p p1 p2 : Pos} {we : WE} (ok : XOk c k X) (hg : Gl X "len") (hm : X.mg "len" = none) (hg2 : Gl X "set") (hm2 : X.mg "set" = none) (hs1 : noStar [.Call (.Name "set" p1) [e] [] p2] = true) (hs2 : noStar [e] = true) (he : SE c X W e we) :
    SE c X W (.Call (.Name "len" p) [.Call (.Name "set" p1) [e] [] p2] [] pos) (fun ρ S Q E => we ρ S (fun d S1 => wLset d S1 Q) E) :=
  PE.imp (pe_setN ok.calm hg hm hg2 hm2 he (star1 X.env hs2).1 (star1 X.env hs1).1) fun σ H Q h => by
    refine LG.bind (R1 := RepD c) (R2 := RepD c) (w1 := we) (k := fun d ρ S Q E => wLset d S Q)
      (t2 := fun x σ H Q => ∃ (l : Addr) (xs : List Str), x = .ref l ∧ SqL X.K H l (xs.map V.str) ∧ xs.length ≤ 4000 ∧ Q (.int (uniqS xs).length) H) (fun d v σ H Q Z S ρ QD ED R RE rd kk hq hx => ?_) h
    obtain ⟨xs, e, hl, hw⟩ := lset_of kk
    obtain ⟨a, vs, rfl, q, r⟩ := lstOf_ok R rd e
    have := texts_of r
    subst this
    exact ⟨a, xs, rfl, by rw [ok.hK]; exact q, hl, hq.go R (d := .int _) rfl hw⟩
end
end L3
set_option maxHeartbeats 2000000
namespace L3
open PySem PySem.Spec PyProof.Rows L2
section
variable {c : Ctx} {k : Nat} {X : Cx} {W : WX} {pos : Pos}
theorem tYes_of {σ : L2.St} {H : Hp} {A B : Hp → Prop} (h : A H) : tYes σ H (fun b H1 => if b = true then A H1 else B H1) := by
  show (if true = true then A H else B H)
  rw [if_pos rfl]; exact h
theorem comp2_ok {t t2 : CT} {wi wi2 : WI} {we : WE} {own own2 : List Nat} {σ : L2.St} {H : Hp} {Q : VK} {K : List D → Store → QE → Prop} (hc : ctIn own t = true) (hc2 : ctIn own2 t2 = true)
    (h : LG c W (RepD c) (fun ρ S Q E => wi ρ S (fun its G S1 => comp2L (tgW t) wi2 (tgW t2) we own2 G (wipeD ρ own) its [] S1 (fun l S2 => K l S2 Q)) E) σ H Q)
    (hK : ∀ l S QD Z H vs D Q w, K l S QD → Rel c Z S H → Z D = none → S D = none → H D = some (.lst vs) → RepL c Z l vs → Nx w ⟨Z, S, H⟩ → w.H D = none → Lk c w (RepD c) QD Q → Q (.ref D) H) :
    tLc2 (LI c W wi) (tgH c.K t) tYes (LI c W0 wi2) (tgH c.K t2) tYes (LG c W0 (RepD c) we) own own2 σ H Q := by
  obtain ⟨Z, S, ρ, QD, ED, R, RE, hw, hq, hx⟩ := h
  refine ⟨Z, S, ρ, _, ED, R, RE, hw, fun its G J Z1 S1 H1 l1 R1 io kk => ?_, hx⟩
  intro D nD
  have z1 := R1.new nD
  refine ⟨fun i m H' => ∃ Z' S' acc vs, Nx ⟨Z1, S1, H1⟩ ⟨Z', S', H'⟩ ∧ Rel c Z' S' H' ∧ Z' D = none ∧ S' D = none ∧ H' D = some (.lst vs) ∧ RepL c Z' acc vs ∧ i ≤ its.length ∧ m = its.length - i ∧
    comp2L (tgW t) wi2 (tgW t2) we own2 G (wipeD ρ own) (its.drop i) acc S' (fun l S2 => K l S2 QD), ⟨its.length, Z1, S1, [], [], Nx.beside nD _, R1.beside z1.2 z1.1 _ (no_tame nD), z1.2, z1.1, upd_same, rfl, Nat.zero_le _, rfl, kk⟩, ?_⟩
  rintro i m H' ⟨Z', S', acc, vs, l0, R', zD, sD, hD, ra, hi, rfl, f⟩
  by_cases hlt : i < its.length
  · have ed : its.drop i = its[i] :: its.drop (i + 1) := List.drop_eq_getElem_cons hlt
    rw [ed] at f
    obtain ⟨g, f⟩ := f
    have hget : its[i]? = some its[i] := List.getElem?_eq_getElem hlt
    obtain ⟨go, y⟩ := io.step Z' S' H' i _ (.of l0) R' g hget
    refine .inr ⟨go, fun H2 => ∃ m', m' < its.length - i ∧ ∃ Z' S' acc vs, Nx ⟨Z1, S1, H1⟩ ⟨Z', S', H2⟩ ∧ Rel c Z' S' H2 ∧ Z' D = none ∧ S' D = none ∧ H2 D = some (.lst vs) ∧ RepL c Z' acc vs ∧ i + 1 ≤ its.length ∧ m' = its.length - (i + 1) ∧
      comp2L (tgW t) wi2 (tgW t2) we own2 G (wipeD ρ own) (its.drop (i + 1)) acc S' (fun l S2 => K l S2 QD), fun _ z => z, fun x H'' yl => ?_⟩
    obtain ⟨Z2, l2', R2, r2⟩ := y x H'' yl
    have RE1 : REnv c Z2 (wipeD ρ own) (L2.wipe σ own) := (RE.le ((l1.trans l0).trans l2').le).wipe own
    refine tg_ok' hc f R2 RE1 r2 fun ρ2 σ2 RE2 ew hb2 => ⟨ew.trans (wipe_wipe fun _ z => z), ?_⟩
    refine tYes_of ?_
    obtain ⟨hD2, sD2, zD2⟩ := l2'.fm D _ hD tame_lst sD
    refine ⟨Z2, S', ρ2, _, noX, R2, RE2, hb2, fun its2 G2 J1 Z3 S3 H3 l3 R3 io2 kk2 => ?_, noXk⟩
    obtain ⟨hD3, sD3, zD3⟩ := l3.fm D _ hD2 tame_lst sD2
    have l03 := (l0.trans l2').trans l3
    refine ⟨fun j k H' => ∃ Z' S' acc vs, Nz ⟨Z3, S3, H3⟩ ⟨Z', S', H'⟩ ∧ Nx ⟨Z1, S1, H1⟩ ⟨Z', S', H'⟩ ∧ Le Z3 Z' ∧ Rel c Z' S' H' ∧ Z' D = none ∧ S' D = none ∧ H' D = some (.lst vs) ∧ RepL c Z' acc vs ∧ j ≤ its2.length ∧ k = its2.length - j ∧
      innL (tgW t2) we G2 (wipeD ρ2 own2) (its2.drop j) acc S' (fun acc' S4 => ∃ S5, Sub S5 S4 ∧ comp2L (tgW t) wi2 (tgW t2) we own2 G (wipeD ρ own) (its.drop (i + 1)) acc' S5 (fun l S2 => K l S2 QD)),
      ⟨its2.length, Z3, S3, acc, vs, Nz.refl _, l03, Le.refl _, R3, zD3 (zD2 zD), sD3, hD3, RepL.le (l2'.trans l3).le ra, Nat.zero_le _, rfl, kk2⟩, ?_⟩
    rintro j kx H4 ⟨Z4, S4, acc4, vs4, l34, l04, le4, R4, zD4, sD4, hD4, ra4, hj, rfl, f4⟩
    by_cases hlt2 : j < its2.length
    · have ed2 : its2.drop j = its2[j] :: its2.drop (j + 1) := List.drop_eq_getElem_cons hlt2
      rw [ed2] at f4
      obtain ⟨g4, f4⟩ := f4
      have hget2 : its2[j]? = some its2[j] := List.getElem?_eq_getElem hlt2
      obtain ⟨go2, y2⟩ := io2.step Z4 S4 H4 j _ l34 R4 g4 hget2
      refine .inr ⟨go2, fun H2 => ∃ k', k' < its2.length - j ∧ ∃ Z' S' acc vs, Nz ⟨Z3, S3, H3⟩ ⟨Z', S', H2⟩ ∧ Nx ⟨Z1, S1, H1⟩ ⟨Z', S', H2⟩ ∧ Le Z3 Z' ∧ Rel c Z' S' H2 ∧ Z' D = none ∧ S' D = none ∧ H2 D = some (.lst vs) ∧ RepL c Z' acc vs ∧ j + 1 ≤ its2.length ∧ k' = its2.length - (j + 1) ∧
        innL (tgW t2) we G2 (wipeD ρ2 own2) (its2.drop (j + 1)) acc S' (fun acc' S4 => ∃ S5, Sub S5 S4 ∧ comp2L (tgW t) wi2 (tgW t2) we own2 G (wipeD ρ own) (its.drop (i + 1)) acc' S5 (fun l S2 => K l S2 QD)), fun _ z => z, fun x2 H5 yl2 => ?_⟩
      obtain ⟨Z5, l45, R5, r5⟩ := y2 x2 H5 yl2
      have RE5 : REnv c Z5 (wipeD ρ2 own2) (L2.wipe σ2 own2) := (RE2.le ((l3.le).trans (le4.trans l45.le))).wipe own2
      refine tg_ok' hc2 f4 R5 RE5 r5 fun ρ3 σ3 RE3 ew3 hb3 => ⟨ew3.trans (wipe_wipe fun _ z => z), ?_⟩
      refine tYes_of ?_
      refine ⟨Z5, S4, ρ3, _, noX, R5, RE3, hb3, fun d v Z6 S6 H6 l6 R6 rd q => ?_, noXk⟩
      obtain ⟨S7, hb, sb, q⟩ := q
      obtain ⟨hD6, sD6, zD6⟩ := (l45.trans l6).fm D _ hD4 tame_lst sD4
      have sD7 : S7 D = none := ((Nx.sub (Z := Z6) (H := H6) sb).fm D _ hD6 tame_lst sD6).2.1
      have hl : vs4.length < sizeLine := by rw [ra4.length, sizeLine_eq]; exact hb
      refine ⟨vs4, hD6, hl, its2.length - (j + 1), by omega, Z6, S7, acc4 ++ [d], vs4 ++ [v], ?_, ?_, le4.trans (l45.trans l6).le, (R6.sub sb).beside (zD6 zD4) sD7 _ (tame_at hD6 tame_lst), zD6 zD4, sD7, upd_same, ?_, hlt2, rfl, q⟩
      · exact ⟨le4.trans (l45.trans l6).le⟩
      · exact ((((l04.trans l45).trans l6)).trans (Nx.sub sb)).touch nD _
      · exact RepL.append (RepL.le (l45.trans l6).le ra4) ⟨v, [], rfl, rd, rfl⟩
    · have e : j = its2.length := by omega
      subst e
      rw [List.drop_length] at f4
      refine .inl ⟨io2.stop Z4 S4 H4 l34 R4 f4.1, ?_⟩
      obtain ⟨S5, sb, q⟩ := f4.2
      refine ⟨its.length - (i + 1), by omega, Z4, S5, acc4, vs4, l04.trans (Nx.sub sb), R4.sub sb, zD4, ((Nx.sub (Z := Z4) (H := H4) sb).fm D _ hD4 tame_lst sD4).2.1, hD4, ra4, hlt, rfl, q⟩
  · have e : i = its.length := by omega
    subst e
    rw [List.drop_length] at f
    refine .inl ⟨io.stop Z' S' H' (.of l0) R' f.1, ?_⟩
    exact hK acc S' QD Z' H' vs D Q _ f.2 R' zD sD hD ra l0 nD (hq.le l1)
end
end L3
set_option maxHeartbeats 1000000
namespace L3Y
open PySem PySem.Spec PyProof.Rows L2
def TnM (z TI TO : Addr) (ts : List Sr) (i : Nat) (h : Heap) : Prop :=
  (∃ f0 f1, IsZF h z TI TO f0 f1 ∧ (f0 = .none ∨ ∃ T : Addr, f0 = rawInt (T : Nat))) ∧ IsSeq h TI (ts.map fun t => Value.ref t.2.1).toArray ∧ (∃ vs, IsSeq h TO vs ∧ vs.size = ts.length) ∧ ∀ t ∈ ts, Itr h t i
theorem free_or {h : Heap} {f0 : Value} (k : f0 = .none ∨ ∃ T : Addr, f0 = rawInt (T : Nat)) : Free h f0 ∨ Held h f0 := by
  rcases k with e | ⟨T, e⟩
  · exact .inl (.inl e)
  · cases q : h.get? T with
    | none => exact .inl (.inr ⟨T, e, q⟩)
    | some o => exact .inr ⟨T, o, e, q⟩
theorem turn_zipM {P : Program} {w : World} {K : PySem.W.Frag} {x : Str} {px : Pos} {z TI TO : Addr} {b : Nat} {cs : List (Bool × Addr)} (hn : cs ≠ []) (hlen : cs.length ≤ 1000) (D : Apt z TI TO (mkT b cs)) :
    Turn P w K (.Name x px) (ItzN K cs) (z :: TI :: TO :: (mkT b cs).map (·.2.1)) z (TnM z TI TO (mkT b cs)) where
  mem := by simp
  obj := fun i h st c hc => by
    obtain ⟨⟨f0, f1, hz, _⟩, hTI, ⟨vs, hTO, _⟩, hi⟩ := st
    rcases List.mem_cons.mp hc with q | hc
    · rw [q]; exact ⟨_, hz, fun v q => nomatch q⟩
    rcases List.mem_cons.mp hc with q | hc
    · rw [q]; exact ⟨_, hTI, fun v q => nomatch q⟩
    rcases List.mem_cons.mp hc with q | hc
    · rw [q]; exact ⟨_, hTO, fun v q => nomatch q⟩
    obtain ⟨t, ht, rfl⟩ := List.mem_map.mp hc
    obtain ⟨o, fs, e, d⟩ := (hi t ht).obj
    exact ⟨o, e, fun v q => by rw [d] at q; cases q⟩
  keep := fun i h h' st k => by
    obtain ⟨⟨f0, f1, hz, hf⟩, hTI, ⟨vs, hTO, sz⟩, hi⟩ := st
    exact ⟨⟨f0, f1, k z (by simp) _ hz, hf⟩, k TI (by simp) _ hTI, ⟨vs, k TO (by simp) _ hTO, sz⟩, fun t ht => (hi t ht).to fun o q => k _ (by simp only [List.mem_cons]; exact .inr (.inr (.inr (List.mem_map_of_mem ht)))) o q⟩
  item := by
    intro X hP hw hK hc i pins s σ H E I hf st hg
    subst hP hw hK
    obtain ⟨⟨f0, f1, hz, hf0⟩, hTI, ⟨vs, hTO, sz⟩, hi⟩ := st
    obtain ⟨ys, hyl, hys⟩ := hg
    have hT := mkT_len b cs
    obtain ⟨us, rv, hus⟩ := vals_all (ys := ys) (P := fun j u => ∀ t, (mkT b cs)[j]? = some t → ∃ items, Src s.heap t items ∧ items[i]? = some u) (fun j y hy => by
      have hj : j < cs.length := by rw [← hyl]; exact (List.getElem?_eq_some_iff.mp hy).1
      have hc : cs[j]? = some cs[j] := List.getElem?_eq_getElem hj
      obtain ⟨xs, y', q, hx, hy'⟩ := hys j _ hc
      rw [hy] at hy'; cases hy'
      obtain ⟨its, r, p, _⟩ := q.src I
      obtain ⟨u, hu, ru⟩ := r.get hx
      refine ⟨u, ru, fun t ht => ?_⟩
      rw [mkT_get, hc] at ht
      simp at ht
      subst ht
      exact ⟨its.toArray, p.to _, by simpa using hu⟩)
    have hul : us.length = (mkT b cs).length := by rw [← rv.length, hyl, hT]
    have hzl : z < s.heap.objs.size := Heap.lt_size hz
    have hnT : mkT b cs ≠ [] := by intro z; rw [z] at hT; cases cs with | nil => exact hn rfl | cons _ _ => cases hT
    have hsrc : ∀ (j : Nat) t, (mkT b cs)[j]? = some t → ∃ items x, Src s.heap t items ∧ items[i]? = some x ∧ us[j]? = some x := fun j t ht => by
      have hj : j < us.length := by rw [hul]; exact (List.getElem?_eq_some_iff.mp ht).1
      have hu : us[j]? = some us[j] := List.getElem?_eq_getElem hj
      obtain ⟨items, q1, q2⟩ := hus j _ hu t ht
      exact ⟨items, us[j], q1, q2, hu⟩
    have fin : ∀ (h' : Heap) (g0 : Value) (g1 : Bool), IsZF h' z TI TO g0 g1 → (g0 = .none ∨ ∃ T : Addr, g0 = rawInt (T : Nat)) → IsSeq h' TI ((mkT b cs).map fun t => Value.ref t.2.1).toArray → (∃ vs, IsSeq h' TO vs ∧ vs.size = (mkT b cs).length) → (∀ t ∈ mkT b cs, Itr h' t (i + 1)) →
        IsSeq h' s.heap.objs.size us.toArray → (∀ c o, c ≠ z → c ≠ TO → (∀ t ∈ mkT b cs, c ≠ t.2.1) → s.heap.get? c = some o → h'.get? c = some o) →
        ∃ u, some (Value.ref s.heap.objs.size) = some u ∧ wpAny (model X.prog X.w) X.A (letOwnedTupleGo (.Name x px) (.ref z) u) (fun _ s2 => ∃ x H', Inv X pins σ H' s2 ∧ RelV x u ∧ (ItzN X.K cs).yld i H x H' ∧ TnM z TI TO (mkT b cs) (i + 1) s2.heap ∧ ∀ b_1 ∈ (z :: TI :: TO :: (mkT b cs).map (·.2.1)), H' b_1 = none) E { s with heap := h' } := by
      intro h' g0 g1 z' hg0 tI' tO' hi' hR hk
      refine ⟨_, rfl, wpAny_pure ?_⟩
      have new : ObjOk X.prog X.w (upd H s.heap.objs.size (.tup ys)) h' s.heap.objs.size (.tup ys) :=
        ⟨by show ys.length ≤ 16777216; omega, us, rv, ⟨_, hR, rfl, _, rfl⟩⟩
      have mem : ∀ {c : Addr}, c ∉ (z :: TI :: TO :: (mkT b cs).map (·.2.1)) → c ≠ z ∧ c ≠ TO ∧ ∀ t ∈ mkT b cs, c ≠ t.2.1 := fun {c} hb => ⟨fun q => hb (by simp [q]), fun q => hb (by simp [q]), fun t ht q => hb (by
        simp only [List.mem_cons]; exact .inr (.inr (.inr (by rw [q]; exact List.mem_map_of_mem ht))))⟩
      have I1 : Inv X pins σ (upd H s.heap.objs.size (.tup ys)) { s with heap := h' } :=
        I.turnedNew (t' := s.toks) (ch := z :: TI :: TO :: (mkT b cs).map (·.2.1)) (fun c o hb q => hk c o (mem hb).1 (mem hb).2.1 (mem hb).2.2 q) hf (Nat.le_refl _) new
      refine ⟨.ref s.heap.objs.size, _, I1, rfl, ⟨_, ys, rfl, I.hok.fresh (Nat.le_refl _), rfl, hyl, fun j c xs hcj hq => ?_⟩, ⟨⟨g0, g1, z', hg0⟩, tI', tO', hi'⟩, fun c hcm => ?_⟩
      · obtain ⟨xs', y, q, hx, hy⟩ := hys j c hcj
        rw [hq.inj I q]
        exact ⟨y, hx, hy⟩
      · have hlt : c < s.heap.objs.size := by
          rcases List.mem_cons.mp hcm with q | hcm
          · rw [q]; exact hzl
          rcases List.mem_cons.mp hcm with q | hcm
          · rw [q]; exact Heap.lt_size hTI
          rcases List.mem_cons.mp hcm with q | hcm
          · rw [q]; exact Heap.lt_size hTO
          obtain ⟨t, ht, rfl⟩ := List.mem_map.mp hcm
          obtain ⟨o, fs, e, _⟩ := (hi t ht).obj
          exact Heap.lt_size e
        rw [upd_ne (Nat.ne_of_lt hlt)]
        exact (hf c hcm).1
    rcases free_or hf0 with fr | he
    · refine pyNext_item D hnT (by rw [hT]; exact hlen) hz fr hTI hTO sz hi hul hsrc fun h' z' TO' hi' hR hsz hk => ?_
      exact fin h' _ _ z' (.inr ⟨_, rfl⟩) (hk _ _ D.TIz D.TITO (fun t ht => (D.it t ht).2.1.symm) hTI) TO' hi' hR hk
    · refine pyNext_itemH D hnT (by rw [hT]; exact hlen) hz he hTI hi hul hsrc fun h' z' hi' hR hsz hk => ?_
      exact fin h' _ _ z' hf0 (hk _ _ D.TIz (fun t ht => (D.it t ht).2.1.symm) hTI) ⟨vs, hk _ _ D.TOz (fun t ht => (D.it t ht).2.2.symm) hTO, sz⟩ hi' hR fun c o c1 _ c3 q => hk c o c1 c3 q
  done := by
    intro X hP hw hK hc i pins s σ H E I hf st hg
    subst hP hw hK
    obtain ⟨⟨f0, f1, hz, hf0⟩, hTI, ⟨vs, hTO, sz⟩, hi⟩ := st
    obtain ⟨xss, hxl, hq, xs0, hm0, hend⟩ := hg
    have hT := mkT_len b cs
    obtain ⟨arrs, hal, ha⟩ := all_of (xs := xss) (P := fun j xs (arr : Array Value) => xs.length = arr.size ∧ ∀ c, cs[j]? = some c → SrcB s.heap c arr) (fun j xs hx => by
      have hj : j < cs.length := by rw [← hxl]; exact (List.getElem?_eq_some_iff.mp hx).1
      have hc : cs[j]? = some cs[j] := List.getElem?_eq_getElem hj
      obtain ⟨its, r, p, _⟩ := (hq j _ xs hc hx).src I
      exact ⟨its.toArray, by simpa using r.length, fun c e => by rw [hc] at e; cases e; exact p⟩)
    have mem : ∀ {c : Addr}, c ∉ (z :: TI :: TO :: (mkT b cs).map (·.2.1)) → c ≠ z ∧ c ≠ TO ∧ ∀ t ∈ mkT b cs, c ≠ t.2.1 := fun {c} hb => ⟨fun q => hb (by simp [q]), fun q => hb (by simp [q]), fun t ht q => hb (by
      simp only [List.mem_cons]; exact .inr (.inr (.inr (by rw [q]; exact List.mem_map_of_mem ht))))⟩
    have hsrc : ∀ (j : Nat) t items, (mkT b cs)[j]? = some t → arrs[j]? = some items → Src s.heap t items := fun j t items ht hi => by
      have hj : j < xss.length := by rw [← hal]; exact (List.getElem?_eq_some_iff.mp hi).1
      rw [mkT_get] at ht
      obtain ⟨c, hc, rfl⟩ := Option.map_eq_some_iff.mp ht
      exact ((ha j _ items (List.getElem?_eq_getElem hj) hi).2 c hc).to _
    have hend' : ∃ items ∈ arrs, items[i]? = none := by
      obtain ⟨j, hj⟩ := List.mem_iff_getElem?.mp hm0
      have hj' : j < arrs.length := by rw [hal]; exact (List.getElem?_eq_some_iff.mp hj).1
      have e := List.getElem?_eq_getElem hj'
      refine ⟨arrs[j], List.mem_of_getElem? e, ?_⟩
      rw [Array.getElem?_eq_none (by rw [← (ha j _ _ hj e).1]; exact hend)]
    rcases free_or hf0 with fr | he
    · exact pyNext_end (arrs := arrs) (I.ok.hd hc) D (by rw [hT]; exact hlen) hz fr hTI hTO sz hi (by rw [hal, hxl, hT]) hsrc hend' fun h' hk => ⟨rfl, I.turnedL (t' := s.toks) (ch := z :: TI :: TO :: (mkT b cs).map (·.2.1)) (fun c o hb q => hk c o (mem hb).1 (mem hb).2.1 (mem hb).2.2 q) hf⟩
    · exact pyNext_endH (arrs := arrs) (I.ok.hd hc) D (by rw [hT]; exact hlen) hz he hTI hi (by rw [hal, hxl, hT]) hsrc hend' fun h' hk => ⟨rfl, I.turnedL (t' := s.toks) (ch := z :: TI :: TO :: (mkT b cs).map (·.2.1)) (fun c o hb q => hk c o (mem hb).1 (mem hb).2.2 q) hf⟩
  self := fun A i s Q E st h => by
    obtain ⟨⟨f0, f1, hz, _⟩, _⟩ := st
    have hT : s.TypeIs (.ref z) "zip" := ⟨_, hz, rfl⟩
    exact wpAny_pyIter_slot hT F.slot_zip_iter (wpAny_call_entry F.slot_zip_iter hT F.entry_zip_iter (wpAny_pure ⟨_, rfl, "zip", _, hT, F.slot_zip_next.lookup, h⟩) (F.args_zip_iter_1 _))
end L3Y
namespace L3Y
open PySem PySem.Spec PyProof.Rows L2
theorem zfitN : ∀ {us : List Value}, us ≠ [] → us.length ≤ 6 → ZFit us
  | [a], _, _ => ⟨by kernel_rfl, by kernel_rfl, fun obj => by
    unfold argsOk; rw [signature?_of (id := "object.__init__") (n := ['_', '_', 't', 'i', 'n', 'i', '_', '_']) (o := ['t', 'c', 'e', 'j', 'b', 'o']) (by kernel_rfl) PySem.F.owner_object]; kernel_rfl⟩
  | [a, b], _, _ => zfit2 a b
  | [a, b, c], _, _ => zfit3 a b c
  | [a, b, c, d], _, _ => ⟨by kernel_rfl, by kernel_rfl, fun obj => by
    unfold argsOk; rw [signature?_of (id := "object.__init__") (n := ['_', '_', 't', 'i', 'n', 'i', '_', '_']) (o := ['t', 'c', 'e', 'j', 'b', 'o']) (by kernel_rfl) PySem.F.owner_object]; kernel_rfl⟩
  | [a, b, c, d, e], _, _ => ⟨by kernel_rfl, by kernel_rfl, fun obj => by
    unfold argsOk; rw [signature?_of (id := "object.__init__") (n := ['_', '_', 't', 'i', 'n', 'i', '_', '_']) (o := ['t', 'c', 'e', 'j', 'b', 'o']) (by kernel_rfl) PySem.F.owner_object]; kernel_rfl⟩
  | [a, b, c, d, e, f], _, _ => ⟨by kernel_rfl, by kernel_rfl, fun obj => by
    unfold argsOk; rw [signature?_of (id := "object.__init__") (n := ['_', '_', 't', 'i', 'n', 'i', '_', '_']) (o := ['t', 'c', 'e', 'j', 'b', 'o']) (by kernel_rfl) PySem.F.owner_object]; kernel_rfl⟩
  | [], h, _ => absurd rfl h
  | _ :: _ :: _ :: _ :: _ :: _ :: _ :: _, _, h => by simp at h
theorem looks_type {M : Model} {h : Heap} {T : String} : PySem.W.Looks M h (keeperOf (.type T)) .machine := fun A Q E s k q => wpAny_pure q
theorem pi_zipS {X : Cx} {e : Expr} {te : TE} {x : Str} {p sp pos px : Pos} (hg : Gl X "zip") (hm : X.mg "zip" = none) (he : PE X e te) :
    PI X (.Name x px) (.Call (.Name "zip" p) [.Starred e sp] [] pos) (fun σ H R => te σ H fun y H1 => ∃ (a : Addr) (cs : List (Bool × Addr)), y = V.ref a ∧ (SqT X.K H1 a (cs.map fun c => V.ref c.2) ∨ SqL X.K H1 a (cs.map fun c => V.ref c.2)) ∧ cs ≠ [] ∧ cs.length ≤ 6 ∧ (∀ c ∈ cs, ∃ xs, SqB X.K H1 c xs) ∧ R (ItzN X.K cs) H1) := by
  refine ⟨fun pins s σ H R I h => ?_⟩
  refine Call_ (ld_blt I hg hm PyProof.Rows.boot_zip ?_)
  show wpAny _ _ (callWith pos (.type "zip") [] (backTo pos [(true, eval e X.env)]) []) _ _ _
  refine PySem.W.ks_call (P := fun _ => True) rfl (fun h _ => ⟨.machine, .inr (.inl rfl), looks_type⟩) (PySem.W.ks_lone (thn (he.run pins s σ H _ I h) fun v s0 ⟨y, H1, I0, ry, a, cs, ey, hx, hn, hl, hsq, q⟩ => ?_))
  subst ey
  obtain rfl : v = Value.ref a := ry
  refine StX.star_any I0 hx fun us s1 I1 r1 => ⟨trivial, ?_⟩
  obtain rfl := vals_refs r1
  have zf : ZFit (cs.map fun c => Value.ref c.2) := zfitN (by cases cs with | nil => exact absurd rfl hn | cons _ _ => simp) (by simpa using hl)
  refine call_zipN (by omega) zf.ct zf.cn zf.ok (fun c hc => by obtain ⟨xs, q⟩ := hsq c hc; obtain ⟨us, _, p, _⟩ := q.src I1; exact ⟨_, p⟩) fun h' hz hTI hTO hi hk => wpAny_pyIter_zip hz ?_
  have I2 : Inv X pins σ H1 { s1 with heap := h' } := I1.kept (t' := s1.toks) hk
  have D : Apt (s1.heap.objs.size + cs.length + 2) (s1.heap.objs.size + cs.length) (s1.heap.objs.size + cs.length + 1) (mkT s1.heap.objs.size cs) := mkT_apt fun c hc => by obtain ⟨xs, q⟩ := hsq c hc; obtain ⟨us, _, _, l⟩ := q.src I1; exact l
  refine ⟨_, _, _, _, H1, rfl, I2, turn_zipM (b := s1.heap.objs.size) hn (by omega) D, ⟨⟨.none, false, hz, .inl rfl⟩, ?_, ⟨_, hTO, ?_⟩, fun t ht => ?_⟩, fun c hcm => ?_, q⟩
  · rw [mkT_its]; exact hTI
  · simp [mkT_len]
  · obtain ⟨j, c, hc, rfl⟩ := mkT_mem ht
    exact hi j c hc
  · have hle : s1.heap.objs.size ≤ c := by
      rcases List.mem_cons.mp hcm with q | hcm
      · rw [q]; exact Nat.le_trans (Nat.le_add_right _ _) (Nat.le_add_right _ 2)
      rcases List.mem_cons.mp hcm with q | hcm
      · rw [q]; exact Nat.le_add_right _ _
      rcases List.mem_cons.mp hcm with q | hcm
      · rw [q]; exact Nat.le_trans (Nat.le_add_right _ _) (Nat.le_add_right _ 1)
      obtain ⟨t, ht, rfl⟩ := List.mem_map.mp hcm
      obtain ⟨j, c, hc, rfl⟩ := mkT_mem ht
      exact Nat.le_add_right _ _
    exact I1.fpOk hle (I1.hok.fresh hle)
end L3Y
namespace L3
open PySem PySem.Spec PyProof.Rows L2 L3Y
section
variable {c : Ctx} {k : Nat} {X : Cx} {W : WX} {pos : Pos}
theorem of_fls {Z : Hp} : ∀ {ls : List (List D)} {vs : List V}, RepL c Z (ls.map D.fl) vs → ∃ cs : List (Bool × Addr), vs = cs.map (fun e => V.ref e.2) ∧ cs.length = ls.length ∧ ∀ (j : Nat) e l, cs[j]? = some e → ls[j]? = some l → e.1 = false ∧ ∃ xs, Z e.2 = some (.lst xs) ∧ RepL c Z l xs
  | [], _, r => by cases r; exact ⟨[], rfl, rfl, fun j e l h => by simp at h⟩
  | l :: ls, _, r => by
    obtain ⟨v, t, rfl, q, r⟩ := r
    obtain ⟨a, xs, rfl, hz, rl⟩ := q
    obtain ⟨cs, rfl, hl, h⟩ := of_fls r
    refine ⟨(false, a) :: cs, rfl, by simp [hl], fun j e l' he hl' => ?_⟩
    cases j with
    | zero => cases he; cases hl'; exact ⟨rfl, xs, hz, rl⟩
    | succ j => exact h j e l' (by simpa using he) (by simpa using hl')
theorem zipsS {ls : List (List D)} {n : Nat} (hn : ls ≠ []) (h : ∀ l ∈ ls, l.length = n) : ZipsTo ((List.range n).map fun i => .tup (ls.map fun l => l.getD i .non)) ls := by
  refine ⟨fun i d e => ?_, ?_⟩
  · rw [List.getElem?_map, Option.map_eq_some_iff] at e
    obtain ⟨i', hi, rfl⟩ := e
    have hin : i < n := by have := (List.getElem?_eq_some_iff.mp hi).1; simpa using this
    have hii : i' = i := by rw [List.getElem?_range hin] at hi; cases hi; rfl
    subst hii
    refine ⟨_, rfl, by simp, fun j l hj => ?_⟩
    have hl : i' < l.length := by rw [h l (List.mem_of_getElem? hj)]; exact hin
    exact ⟨l[i'], List.getElem?_eq_getElem hl, by rw [List.getElem?_map, hj]; simp [List.getD_eq_getElem?_getD, hl]⟩
  · cases ls with
    | nil => exact absurd rfl hn
    | cons l ls => exact ⟨l, by simp, by rw [h l (by simp)]; simp⟩
theorem si_zipS {a : Expr} {wa : WE} {x : Str} {p sp px : Pos} (hK : X.K = c.K) (hg : Gl X "zip") (hm : X.mg "zip" = none) (ha : SE c X W a wa) :
    PI X (.Name x px) (.Call (.Name "zip" p) [.Starred a sp] [] pos) (LI c W (fun ρ S K E => wa ρ S (fun d S1 => ∃ (ls : List (List D)) (n : Nat), d = .fl (ls.map D.fl) ∧ ls ≠ [] ∧ ls.length ≤ 6 ∧ (∀ l ∈ ls, l.length = n) ∧ K ((List.range n).map fun i => .tup (ls.map fun l => l.getD i .non)) (fun _ => True) S1) E)) := by
  refine PI.imp (pi_zipS hg hm ha) fun σ H R' h => ?_
  obtain ⟨Z, S, ρ, KD, ED, R, RE, hw, hq, hx⟩ := h
  refine ⟨Z, S, ρ, _, ED, R, RE, hw, fun d v Z1 S1 H1 l1 R1 rd kk => ?_, hx⟩
  obtain ⟨ls, n, rfl, hn, hl, hw, kk⟩ := kk
  obtain ⟨b, vs, rfl, hz, rl⟩ := rd
  obtain ⟨cs, rfl, hcl, hcs⟩ := of_fls rl
  rw [hK]
  have now : ∀ Z2 S2 H2, Nz ⟨Z1, S1, H1⟩ ⟨Z2, S2, H2⟩ → Rel c Z2 S2 H2 → ∀ (j : Nat) e l, cs[j]? = some e → ls[j]? = some l → ∃ xs, SqB c.K H2 e xs ∧ RepL c Z2 l xs := fun Z2 S2 H2 l2 R2 j e l he hl => by
    obtain ⟨e1, xs, hx, rx⟩ := hcs j e l he hl
    obtain ⟨e1', e2⟩ := e
    obtain rfl : e1' = false := e1
    exact ⟨xs, SqL.of (R2.fz _ _ (l2.le _ _ hx)), RepL.le l2.le rx⟩
  refine ⟨b, cs, rfl, .inr (SqL.of (R1.fz _ _ hz)), by intro z; rw [z] at hcl; cases ls with | nil => exact hn rfl | cons _ _ => simp at hcl, by omega, fun e he => ?_, hq _ _ _ Z1 S1 H1 l1 R1 (itzN_ok hcl (zipsS hn hw) fun Z2 S2 H2 l2 R2 _ j e l he hl => now Z2 S2 H2 l2 R2 j e l he hl) kk⟩
  obtain ⟨j, hj⟩ := List.mem_iff_getElem?.mp he
  have hjl : j < ls.length := by rw [← hcl]; exact (List.getElem?_eq_some_iff.mp hj).1
  obtain ⟨xs, q, _⟩ := now Z1 S1 H1 (Nz.refl _) R1 j e _ hj (List.getElem?_eq_getElem hjl)
  exact ⟨xs, q⟩
end
end L3
set_option maxHeartbeats 2000000
namespace L3
open PySem PySem.Spec PyProof.Rows L2
theorem opEq {a b : Operator} (h : (a == b) = true) : a = b := by cases a <;> cases b <;> first | rfl | cases h
theorem unEq {a b : UnaryOp} (h : (a == b) = true) : a = b := by cases a <;> cases b <;> first | rfl | cases h
theorem cmEq {a b : CmpOp} (h : (a == b) = true) : a = b := by cases a <;> cases b <;> first | rfl | cases h
def isBool : Expr → Bool
  | .BoolOp _ _ _ => true
  | _ => false
theorem relSc_eq {X : Cx} {scope sc : Scope} {cl : List (Str × Addr)} {C : Addr} (h : X.env.scope = sc) : (compEnvC scope cl C X.env).scope = relSc scope sc := by
  subst h; rfl
theorem st_ife {c : Ctx} {X : Cx} {W : WX} {pos : Pos} {t a b : Expr} {wt wa wb : WT} (ht : ST c X W t wt) (ha : ST c X W a wa) (hb : ST c X W b wb) :
    ST c X W (.IfExp t a b pos) (fun ρ S Q E => wt ρ S (fun c S1 => if c = true then wa ρ S1 Q E else wb ρ S1 Q E) E) := by
  refine ⟨fun pins s σ H Q I h => ?_⟩
  show wpAny _ _ (do if ← isTrue t X.env (eval t X.env) then isTrue a X.env (eval a X.env) else isTrue b X.env (eval b X.env)) _ _ _
  obtain ⟨Z, S, ρ, QD, ED, R, RE, hw, hq, hx⟩ := h
  refine wpAny_bind (wpAny_mono (ht.run pins s σ H (fun cc H1 => if cc = true then LG c W SEq wa σ H1 Q else LG c W SEq wb σ H1 Q) I ⟨Z, S, ρ, _, ED, R, RE, hw, fun d v Z' S' H' l R' e q => ?_, hx⟩) (fun bv s1 hv => ?_) fun _ _ z => z)
  · cases e
    dsimp only at q
    by_cases hd : d = true
    · rw [if_pos hd] at q ⊢; exact ⟨Z', S', ρ, QD, ED, R', RE.le l.le, q, hq.le l, hx.le l⟩
    · rw [if_neg hd] at q ⊢; exact ⟨Z', S', ρ, QD, ED, R', RE.le l.le, q, hq.le l, hx.le l⟩
  · obtain ⟨H1, I1, q⟩ := hv
    cases bv with
    | true => exact ha.run pins s1 σ H1 Q I1 q
    | false => exact hb.run pins s1 σ H1 Q I1 q
theorem plainIx_ok {b : Expr} (h : plainIx b = true) : PlainIx b := by
  cases b <;> first | (intro o i; rfl) | (cases h)
theorem tup_of {ci : CI} {t : Expr} (h : fitT ci t = true) : (needTup ci = true → isTupE t = true) ∧ (needNm ci = true → isNmE t = true) := by
  unfold fitT at h
  rw [Bool.and_eq_true] at h
  exact ⟨fun e => by rw [e] at h; exact h.1, fun e => by rw [e] at h; exact h.2⟩
theorem notSet_ok {e : Expr} {env : PySem.Env} (h : notSet e = true) (x : Value) : foldedSetIterable e env x = pure x := by
  cases e <;> first | rfl | cases h
theorem mI_ns {fnm : Nat → Str} {N : List Str} {sc : Scope} {e : Expr} {ci : CI} (h : mI fnm N sc e ci = true) : ∀ (env : PySem.Env) (x : Value), foldedSetIterable e env x = pure x := by
  intro env x
  cases ci <;> simp only [mI, Bool.and_eq_true] at h
  case seq c => exact notSet_ok h.1 x
  case sgn c => exact notSet_ok h.1 x
  all_goals
    split at h
    · rfl
    · exact Bool.noConfusion h
theorem ctIn_self (t : CT) : ctIn (slotsOf t) t = true := by
  cases t with
  | nm i => simp [slotsOf, ctIn]
  | tp is => simp [slotsOf, ctIn]
theorem ctIn_sub {own : List Nat} {t : CT} (h : ctIn own t = true) : ∀ i ∈ slotsOf t, i ∈ own := by
  cases t with
  | nm i => simpa [slotsOf, ctIn] using h
  | tp is => simpa [slotsOf, ctIn] using h
section
variable {c : Ctx} {k : Nat} {N : List Str}
mutual
theorem sE : ∀ (ce : CE) (c : Ctx) (k : Nat) (e : Expr) (X : Cx) (W : WX) (sc : Scope), XOk c k X → Takes X W → X.N = N → X.env.scope = sc → mE c.nm N sc e ce = true → knE c k (rn X) ce → SE c X W e (wE ce)
  | .var i, c, k, e, X, W, sc, ok, tk, hN, hsc, h, kn => by
    simp only [mE] at h
    split at h
    · rename_i x p
      simp only [Bool.and_eq_true, decide_eq_true_eq] at h
      subst hN; subst hsc
      exact se_var h.1.1 (vis_of h.1.2) h.2
    · exact Bool.noConfusion h
  | .int i, c, k, e, X, W, sc, ok, tk, hN, hsc, h, kn => by
    simp only [mE] at h
    split at h
    · rename_i j kk p
      simp only [decide_eq_true_eq] at h
      subst h; exact se_c pe_int fun _ => rfl
    · exact Bool.noConfusion h
  | .str z, c, k, e, X, W, sc, ok, tk, hN, hsc, h, kn => by
    simp only [mE] at h
    split at h
    · rename_i j kk p
      simp only [decide_eq_true_eq] at h
      subst h; exact se_c pe_str fun _ => rfl
    · exact Bool.noConfusion h
  | .bl b, c, k, e, X, W, sc, ok, tk, hN, hsc, h, kn => by
    simp only [mE] at h
    split at h
    · rename_i j kk p
      simp only [beq_iff_eq] at h
      subst h; exact se_c pe_bl fun _ => rfl
    · exact Bool.noConfusion h
  | .non, c, k, e, X, W, sc, ok, tk, hN, hsc, h, kn => by
    simp only [mE] at h
    split at h
    · rename_i kk p
      exact se_c pe_non fun _ => rfl
    · exact Bool.noConfusion h
  | .glo y d, c, k, e, X, W, sc, ok, tk, hN, hsc, h, kn => by
    simp only [mE] at h
    split at h
    · rename_i x p
      simp only [Bool.and_eq_true, decide_eq_true_eq] at h
      obtain ⟨⟨rfl, h2⟩, h3⟩ := h
      subst hsc
      obtain ⟨u, v, hm, r, rd⟩ := kn
      exact se_c (pe_glob (gl_of h2) hm r (ok1 h3)) rd
    · exact Bool.noConfusion h
  | .bval y n, c, k, e, X, W, sc, ok, tk, hN, hsc, h, kn => by
    simp only [mE] at h
    split at h
    · rename_i x p
      simp only [Bool.and_eq_true, decide_eq_true_eq] at h
      obtain ⟨⟨⟨rfl, h2⟩, h3⟩, h4⟩ := h
      subst hsc
      exact se_c (v := .ty n) (pe_bltn (gl_of h2) kn.1 kn.2 rfl (by simpa using h4) (ok1 h3)) fun _ => rfl
    · exact Bool.noConfusion h
  | .op o a b, c, k, e, X, W, sc, ok, tk, hN, hsc, h, kn => by
    simp only [mE] at h
    split at h
    · rename_i x f y p
      simp only [Bool.and_eq_true] at h
      have e1 := opEq h.1.1
      subst e1
      exact se_op ok.o (sE a _ _ x X W sc ok tk hN hsc h.1.2 kn.1) (sE b _ _ y X W sc ok tk hN hsc h.2 kn.2)
    · exact Bool.noConfusion h
  | .un o a, c, k, e, X, W, sc, ok, tk, hN, hsc, h, kn => by
    simp only [mE] at h
    split at h
    · rename_i f x p
      simp only [Bool.and_eq_true] at h
      have e1 := unEq h.1
      subst e1
      exact se_un ok.o (sE a _ _ x X W sc ok tk hN hsc h.2 kn)
    · exact Bool.noConfusion h
  | .cmp o a b, c, k, e, X, W, sc, ok, tk, hN, hsc, h, kn => by
    simp only [mE] at h
    split at h
    · rename_i x f y p
      simp only [Bool.and_eq_true, Bool.not_eq_true'] at h
      have e1 := cmEq h.1.1.1
      subst e1
      exact se_cmp ok.o h.1.1.2 (sE a _ _ x X W sc ok tk hN hsc h.1.2 kn.1) (sE b _ _ y X W sc ok tk hN hsc h.2 kn.2)
    · exact Bool.noConfusion h
  | .opF o a b, c, k, e, X, W, sc, ok, tk, hN, hsc, h, kn => by
    simp only [mE] at h
    split at h
    · rename_i x f y p
      simp only [Bool.and_eq_true] at h
      have e1 := opEq h.1.1
      subst e1
      exact se_opG (o.ok c k X ok kn.1) (sE a _ _ x X W sc ok tk hN hsc h.1.2 kn.2.1) (sE b _ _ y X W sc ok tk hN hsc h.2 kn.2.2)
    · exact Bool.noConfusion h
  | .cmpF o a b, c, k, e, X, W, sc, ok, tk, hN, hsc, h, kn => by
    simp only [mE] at h
    split at h
    · rename_i x f y p
      simp only [Bool.and_eq_true, Bool.not_eq_true'] at h
      have e1 := cmEq h.1.1.1
      subst e1
      exact se_cmpG (o.ok c k X ok kn.1) h.1.1.2 (sE a _ _ x X W sc ok tk hN hsc h.1.2 kn.2.1) (sE b _ _ y X W sc ok tk hN hsc h.2 kn.2.2)
    · exact Bool.noConfusion h
  | .chain o o' a b d, c, k, e, X, W, sc, ok, tk, hN, hsc, h, kn => by
    simp only [mE] at h
    split at h
    · rename_i x f g y z p
      simp only [Bool.and_eq_true, Bool.not_eq_true'] at h
      have e1 := cmEq h.1.1.1.1.1
      have e2 := cmEq h.1.1.1.1.2
      subst e1; subst e2
      exact se_chain ok h.1.1.1.2 (sE a _ _ x X W sc ok tk hN hsc h.1.1.2 kn.1) (sE b _ _ y X W sc ok tk hN hsc h.1.2 kn.2.1) (sE d _ _ z X W sc ok tk hN hsc h.2 kn.2.2)
    · exact Bool.noConfusion h
  | .and_ a b, c, k, e, X, W, sc, ok, tk, hN, hsc, h, kn => by
    simp only [mE] at h
    split at h
    · rename_i x y r p
      simp only [Bool.and_eq_true] at h
      obtain ⟨h1, h2⟩ := h
      cases r with
      | nil => exact se_and ok.hK (sE a _ _ x X W sc ok tk hN hsc h1 kn.1) (pe_one (sE b _ _ y X W sc ok tk hN hsc h2 kn.2))
      | cons z r => exact se_and ok.hK (sE a _ _ x X W sc ok tk hN hsc h1 kn.1) (sE b _ _ _ X W sc ok tk hN hsc h2 kn.2)
    · exact Bool.noConfusion h
  | .or_ a b, c, k, e, X, W, sc, ok, tk, hN, hsc, h, kn => by
    simp only [mE] at h
    split at h
    · rename_i x y r p
      simp only [Bool.and_eq_true] at h
      obtain ⟨h1, h2⟩ := h
      cases r with
      | nil => exact se_or ok.hK (sE a _ _ x X W sc ok tk hN hsc h1 kn.1) (pe_one (sE b _ _ y X W sc ok tk hN hsc h2 kn.2))
      | cons z r => exact se_or ok.hK (sE a _ _ x X W sc ok tk hN hsc h1 kn.1) (sE b _ _ _ X W sc ok tk hN hsc h2 kn.2)
    · exact Bool.noConfusion h
  | .not_ a, c, k, e, X, W, sc, ok, tk, hN, hsc, h, kn => by
    simp only [mE] at h
    split at h
    · rename_i x p
      exact se_not ok.hK (sE a _ _ x X W sc ok tk hN hsc h kn)
    · exact Bool.noConfusion h
  | .ife t a b, c, k, e, X, W, sc, ok, tk, hN, hsc, h, kn => by
    simp only [mE] at h
    split at h
    · rename_i x y z p
      simp only [Bool.and_eq_true] at h
      exact se_ife (sQ t _ _ x X W sc ok tk hN hsc h.1.1 kn.1).1 (sE a _ _ y X W sc ok tk hN hsc h.1.2 kn.2.1) (sE b _ _ z X W sc ok tk hN hsc h.2 kn.2.2)
    · exact Bool.noConfusion h
  | .tup es, c, k, e, X, W, sc, ok, tk, hN, hsc, h, kn => by
    simp only [mE] at h
    split at h
    · rename_i xs kk p
      exact se_tup (sL es _ _ xs X W sc ok tk hN hsc h kn)
    · exact Bool.noConfusion h
  | .lst m es, c, k, e, X, W, sc, ok, tk, hN, hsc, h, kn => by
    simp only [mE] at h
    split at h
    · rename_i xs p
      exact se_lst (sL es _ _ xs X W sc ok tk hN hsc h kn)
    · exact Bool.noConfusion h
  | .call f sp es, c, k, e, X, W, sc, ok, tk, hN, hsc, h, kn => by
    simp only [mE] at h
    split at h
    · rename_i x px a as p
      simp only [Bool.and_eq_true, decide_eq_true_eq] at h
      obtain ⟨⟨⟨⟨rfl, h2⟩, h3⟩, h4⟩, h5⟩ := h
      subst hsc
      exact se_call ok tk kn.1 (gl_of h2) h3 h4 (sL es _ _ (a :: as) X W _ ok tk hN rfl h5 kn.2)
    · exact Bool.noConfusion h
  | .blt b es, c, k, e, X, W, sc, ok, tk, hN, hsc, h, kn => by
    simp only [mE] at h
    split at h
    · rename_i x px a as p
      simp only [Bool.and_eq_true, decide_eq_true_eq] at h
      obtain ⟨⟨⟨⟨rfl, h2⟩, h3⟩, h4⟩, h5⟩ := h
      subst hsc
      exact se_blt ok kn.1 (gl_of h2) h3 h4 (sL es _ _ (a :: as) X W _ ok tk hN rfl h5 kn.2)
    · exact Bool.noConfusion h
  | .bltF b es, c, k, e, X, W, sc, ok, tk, hN, hsc, h, kn => by
    simp only [mE] at h
    split at h
    · rename_i x px a as p
      simp only [Bool.and_eq_true, decide_eq_true_eq] at h
      obtain ⟨⟨⟨⟨rfl, h2⟩, h3⟩, h4⟩, h5⟩ := h
      subst hsc
      exact se_bltF ok kn.1 kn.2.1 (gl_of h2) h3 h4 (sL es _ _ (a :: as) X W _ ok tk hN rfl h5 kn.2.2)
    · exact Bool.noConfusion h
  | .met m o es, c, k, e, X, W, sc, ok, tk, hN, hsc, h, kn => by
    simp only [mE] at h
    split at h
    · rename_i oe nm ap a as p
      simp only [Bool.and_eq_true, decide_eq_true_eq] at h
      obtain ⟨⟨⟨⟨⟨⟨rfl, h2⟩, h3⟩, h4⟩, h5⟩, h6⟩, h7⟩ := h
      exact se_met ok.o h2 h3 h4 h5 (sE o _ _ oe X W sc ok tk hN hsc h6 kn.1) (sL es _ _ (a :: as) X W sc ok tk hN hsc h7 kn.2)
    · rename_i oe nm ap p
      simp only [Bool.and_eq_true, decide_eq_true_eq] at h
      obtain ⟨⟨⟨⟨rfl, h2⟩, h3⟩, h4⟩, h5⟩ := h
      cases es with
      | nil => exact se_met0 ok.o h2 h3 (sE o _ _ oe X W sc ok tk hN hsc h4 kn.1)
      | cons _ _ => simp [mL] at h5
      | star _ _ => simp [mL] at h5
    · exact Bool.noConfusion h
  | .idx o a i, c, k, e, X, W, sc, ok, tk, hN, hsc, h, kn => by
    simp only [mE] at h
    split at h
    · rename_i x y p
      simp only [Bool.and_eq_true] at h
      exact se_idx ok.o (plainIx_ok h.1.1) (sE a _ _ x X W sc ok tk hN hsc h.1.2 kn.1) (sE i _ _ y X W sc ok tk hN hsc h.2 kn.2)
    · exact Bool.noConfusion h
  | .rev a, c, k, e, X, W, sc, ok, tk, hN, hsc, h, kn => by
    simp only [mE] at h
    split at h
    · exact se_rev ok (sE a _ _ _ X W sc ok tk hN hsc h kn)
    · exact Bool.noConfusion h
  | .rpl _ _ _, c, k, e, X, W, sc, ok, tk, hN, hsc, h, kn => by
    simp only [mE] at h
    exact Bool.noConfusion h
  | .slc o a lo hi, c, k, e, X, W, sc, ok, tk, hN, hsc, h, kn => by
    simp only [mE] at h
    split at h
    · rename_i x l u p2 p
      simp only [Bool.and_eq_true] at h
      exact se_slc ok (sE a _ _ x X W sc ok tk hN hsc h.1.1 kn.1) (sO lo _ _ l X W sc ok tk hN hsc h.1.2 kn.2.1) (sO hi _ _ u X W sc ok tk hN hsc h.2 kn.2.2)
    · exact Bool.noConfusion h
  | .comp m own elt tg it cond, c, k, e, X, W, sc, ok, tk, hN, hsc, h, kn => by
    simp only [mE] at h
    split at h
    · rename_i x t ie ifs isA scope p
      simp only [Bool.and_eq_true, decide_eq_true_eq] at h
      obtain ⟨⟨⟨⟨⟨⟨⟨rfl, h0⟩, h1⟩, h2⟩, h3⟩, h4⟩, h5⟩, h6⟩ := h
      have hI := sI it _ _ ie X W _ t ok tk hN hsc (tup_of h0) h5 kn.2.1
      have h1 : blkC X.N X.env.scope scope own = true := by rw [hN, hsc]; exact h1
      refine PE.imp (pe_lc (te := LG c W0 (RepD c) (wE elt)) (tt := LG c W0 SEq (wC' cond)) (g := tgH c.K tg) ok.calm ok.nd hI.1 (blkOk_by h1) (fun s H C cl fp => ?_) (fun s H C cl fp => ?_) (fun s H C cl fp => ?_) hI.2) fun σ H Q hh => ?_
      · exact pg_ct (blk_ok ok) blk_fn (by show mT X.N scope t tg = true; rw [hN]; exact h4)
      · exact sC cond _ _ ifs _ W0 _ (blk_ok ok) takesW0 hN (relSc_eq hsc) h6 kn.2.2
      · exact sE elt _ _ x _ W0 _ (blk_ok ok) takesW0 hN (relSc_eq hsc) h3 kn.1
      · exact comp_ok h2 hh fun l S QD Z H vs D Q w a1 a2 a3 a4 a5 a6 a7 a8 a9 => newL_own a1 a2 a3 a4 a5 a6 a7 a8 a9
    · exact Bool.noConfusion h
  | .comp2 m own elt tg it tg2 it2, c, k, e, X, W, sc, ok, tk, hN, hsc, h, kn => by
    simp only [mE] at h
    split at h
    · rename_i x t ie isA t2 ie2 isB scope p
      simp only [Bool.and_eq_true, decide_eq_true_eq] at h
      obtain ⟨⟨⟨⟨⟨⟨⟨⟨⟨⟨rfl, rfl⟩, h0⟩, h0'⟩, h1⟩, h2⟩, h2', h3⟩, h4⟩, h4'⟩, h5⟩, h5'⟩ := h
      have hI := sI it _ _ ie X W _ t ok tk hN hsc (tup_of h0) h5 kn.2.1
      have h1 : blkC X.N X.env.scope scope own = true := by rw [hN, hsc]; exact h1
      refine PE.imp (pe_lc2 (te := LG c W0 (RepD c) (wE elt)) (tt := tYes) (tt1 := tYes) (wi1 := LI c W0 (wI it2)) (g := tgH c.K tg) (g1 := tgH c.K tg2) (vs1 := slotsOf tg2) ok.calm ok.nd hI.1 (blkOk_by h1) (ctIn_sub h2') (fun s H C cl fp => ?_) (fun s H C cl fp => pts_nil) (fun s H C cl fp => ?_) (fun s H C cl fp => ?_) (fun s H C cl fp => pts_nil) (fun s H C cl fp => ?_) hI.2 (mI_ns h5')) fun σ H Q hh => ?_
      · exact pg_ct (blk_ok ok) blk_fn (by show mT X.N scope t tg = true; rw [hN]; exact h4)
      · exact (sI it2 _ _ ie2 _ W0 _ t2 (blk_ok ok) takesW0 hN (relSc_eq hsc) (tup_of h0') h5' kn.2.2).1
      · exact pg_ct (blk_ok ok) blk_fn (by show mT X.N scope t2 tg2 = true; rw [hN]; exact h4')
      · exact sE elt _ _ x _ W0 _ (blk_ok ok) takesW0 hN (relSc_eq hsc) h3 kn.1
      · exact comp2_ok h2 (ctIn_self tg2) hh fun l S QD Z H vs D Q w a1 a2 a3 a4 a5 a6 a7 a8 a9 => newL_own a1 a2 a3 a4 a5 a6 a7 a8 a9
    · exact Bool.noConfusion h
  | .callK f n ks pm sp pl es, c, k, e, X, W, sc, ok, tk, hN, hsc, h, kn => by
    simp only [mE] at h
    split at h
    · rename_i x px xs a r p
      simp only [Bool.and_eq_true, decide_eq_true_eq] at h
      obtain ⟨⟨⟨⟨⟨⟨rfl, h2⟩, h3⟩, h4⟩, h5⟩, h6⟩, h7⟩ := h
      subst hsc
      have hk := sK es _ _ (a :: r) ks X W _ ok tk hN rfl h5 h7 kn.2.2
      cases xs with
      | nil =>
        cases pl with
        | nil => exact se_callK0 ok tk kn.1 (gl_of h2) h3 h5 hk
        | cons _ _ => simp [mL] at h6
        | star _ _ => simp [mL] at h6
      | cons e es => exact se_callK ok tk kn.1 (gl_of h2) h3 h4 h5 (sL pl _ _ (e :: es) X W _ ok tk hN rfl h6 kn.2.1) hk
    · exact Bool.noConfusion h
  | .ometK cl i ks pm sp o es, c, k, e, X, W, sc, ok, tk, hN, hsc, h, kn => by
    simp only [mE] at h
    split at h
    · rename_i oe nm ap a r p
      simp only [Bool.and_eq_true, decide_eq_true_eq] at h
      obtain ⟨⟨⟨⟨⟨⟨rfl, h2⟩, h3⟩, h4⟩, h5⟩, h6⟩, h7⟩ := h
      exact se_ometK ok tk h2 h3 h4 (List.cons_ne_nil _ _) kn.1 (sE o _ _ oe X W sc ok tk hN hsc h6 kn.2.1) h5 (sK es _ _ (a :: r) ks X W sc ok tk hN hsc h5 h7 kn.2.2)
    · exact Bool.noConfusion h
  | .revs m o, c, k, e, X, W, sc, ok, tk, hN, hsc, h, kn => by
    simp only [mE] at h
    split at h
    · rename_i x i kk p1 p2 p3 p
      simp only [Bool.and_eq_true, decide_eq_true_eq] at h
      obtain ⟨rfl, h2⟩ := h
      exact se_revs ok (sE o _ _ x X W sc ok tk hN hsc h2 kn)
    · exact Bool.noConfusion h
  | .lrng m o, c, k, e, X, W, sc, ok, tk, hN, hsc, h, kn => by
    simp only [mE] at h
    split at h
    · rename_i x p y p1 z q p2
      simp only [Bool.and_eq_true, decide_eq_true_eq] at h
      obtain ⟨⟨⟨⟨⟨⟨⟨⟨rfl, h2⟩, _⟩, rfl⟩, h3⟩, _⟩, h4⟩, h5⟩, h6⟩ := h
      subst hsc
      exact se_lrng ok (gl_of h2) kn.1 (gl_of h3) kn.2.1 h4 h5 (sE o _ _ z X W _ ok tk hN rfl h6 kn.2.2)
    · exact Bool.noConfusion h
  | .stp j o, c, k, e, X, W, sc, ok, tk, hN, hsc, h, kn => by
    simp only [mE] at h
    split at h
    · rename_i x i k1 p1 i2 k2 p2 p3 p
      simp only [Bool.and_eq_true, decide_eq_true_eq] at h
      obtain ⟨⟨rfl, rfl⟩, h2⟩ := h
      exact se_stp ok (sE o _ _ x X W sc ok tk hN hsc h2 kn)
    · exact Bool.noConfusion h
  | .lset o, c, k, e, X, W, sc, ok, tk, hN, hsc, h, kn => by
    simp only [mE] at h
    split at h
    · rename_i x p y p1 z q p2
      simp only [Bool.and_eq_true, decide_eq_true_eq] at h
      obtain ⟨⟨⟨⟨⟨⟨⟨⟨rfl, h2⟩, _⟩, rfl⟩, h3⟩, _⟩, h4⟩, h5⟩, h6⟩ := h
      subst hsc
      exact se_lset ok (gl_of h2) kn.1 (gl_of h3) kn.2.1 h4 h5 (sE o _ _ z X W _ ok tk hN rfl h6 kn.2.2)
    · exact Bool.noConfusion h
  | .isx y j js o, c, k, e, X, W, sc, ok, tk, hN, hsc, h, kn => by
    simp only [mE] at h
    split at h
    · rename_i x p z u p2 p3
      simp only [Bool.and_eq_true, decide_eq_true_eq] at h
      obtain ⟨⟨⟨⟨⟨⟨rfl, h2⟩, rfl⟩, h3⟩, h4⟩, h5⟩, h6⟩ := h
      subst hsc
      exact se_isx ok.o kn.1 (gl_of h2) (gl_of h3) h4 h5 (sE o c k z X W _ ok tk hN rfl h6 kn.2)
    · exact Bool.noConfusion h
  | .attx i js o, c, k, e, X, W, sc, ok, tk, hN, hsc, h, kn => by
    simp only [mE] at h
    split at h
    · rename_i z f p
      simp only [Bool.and_eq_true, decide_eq_true_eq] at h
      obtain ⟨⟨rfl, h2⟩, h3⟩ := h
      exact se_attx ok.o kn.1 h2 (sE o c k z X W sc ok tk hN hsc h3 kn.2)
    · exact Bool.noConfusion h
  | .told f sp1 sp2 o, c, k, e, X, W, sc, ok, tk, hN, hsc, h, kn => by
    simp only [mE] at h
    split at h
    · rename_i x p body scope p2 p3
      simp only [Bool.and_eq_true, decide_eq_true_eq] at h
      obtain ⟨⟨⟨⟨rfl, h2⟩, h3⟩, h4⟩, h5⟩ := h
      subst hsc
      obtain ⟨k', rfl, kt, hl, kb⟩ := kn
      exact se_told ok hl kt (gl_of h2) h3 h4 fun X' W' ok' tk' hN' hs' hr => sE o { c with lam := none } k' body X' W' scope ok' tk' (hN'.trans hN) hs' h5 (by rw [hr]; exact kb)
    · exact Bool.noConfusion h
  | .empM, c, k, e, X, W, sc, ok, tk, hN, hsc, h, kn => by
    simp only [mE] at h
    split at h
    · exact se_empM
    · exact Bool.noConfusion h
  | .dun x, c, k, e, X, W, sc, ok, tk, hN, hsc, h, kn => by
    simp only [mE] at h
    split at h
    · cases of_decide_eq_true h
      exact se_dun
    · exact Bool.noConfusion h
  | .dcomp own key val tg it, c, k, e, X, W, sc, ok, tk, hN, hsc, h, kn => by
    simp only [mE] at h
    split at h
    · rename_i x y t ie isA scope p
      simp only [Bool.and_eq_true, decide_eq_true_eq] at h
      obtain ⟨⟨⟨⟨⟨⟨⟨rfl, h0⟩, h1⟩, h2⟩, h3⟩, h3'⟩, h4⟩, h5⟩ := h
      have hI := sI it _ _ ie X W _ t ok tk hN hsc (tup_of h0) h5 kn.2.2
      have h1 : blkC X.N X.env.scope scope own = true := by rw [hN, hsc]; exact h1
      refine PE.imp (pe_dc (tk := LG c W0 (RepD c) (wE key)) (tv := LG c W0 (RepD c) (wE val)) (tt := tYes) (g := tgH c.K tg) ok.calm ok.nd hI.1 (blkOk_by h1) (fun s H C cl fp => ?_) (fun s H C cl fp => pts_nil) (fun s H C cl fp => ?_) (fun s H C cl fp => ?_) hI.2) fun σ H Q hh => ?_
      · exact pg_ct (blk_ok ok) blk_fn (by show mT X.N scope t tg = true; rw [hN]; exact h4)
      · exact sE key _ _ x _ W0 _ (blk_ok ok) takesW0 hN (relSc_eq hsc) h3 kn.1
      · exact sE val _ _ y _ W0 _ (blk_ok ok) takesW0 hN (relSc_eq hsc) h3' kn.2.1
      · exact dcomp_ok h2 hh
    · exact Bool.noConfusion h
  | .nev, c, k, e, X, W, sc, ok, tk, hN, hsc, h, kn => PE.imp (t := fun _ _ _ => False) ⟨fun _ _ _ _ _ _ z => z.elim⟩ fun σ H Q h => h.pure fun _ _ _ _ _ _ _ hw _ _ => hw
  | .emp, c, k, e, X, W, sc, ok, tk, hN, hsc, h, kn => by
    simp only [mE] at h
    split at h
    · exact se_emp
    · exact Bool.noConfusion h
  | .dget y kvs a b, c, k, e, X, W, sc, ok, tk, hN, hsc, h, kn => by
    simp only [mE] at h
    split at h
    · rename_i x px m apos u v p
      simp only [Bool.and_eq_true, decide_eq_true_eq] at h
      obtain ⟨⟨⟨⟨⟨⟨⟨rfl, h2⟩, h3⟩, rfl⟩, h5⟩, h6⟩, h7⟩, h8⟩ := h
      subst hsc
      exact se_dget ok (gl_of h2) h3 rfl h5 h6 kn.1 (sE a _ _ u X W _ ok tk hN rfl h7 kn.2.1) (sE b _ _ v X W _ ok tk hN rfl h8 kn.2.2)
    · exact Bool.noConfusion h
  | .att cl i o, c, k, e, X, W, sc, ok, tk, hN, hsc, h, kn => by
    simp only [mE] at h
    split at h
    · rename_i x f p
      simp only [Bool.and_eq_true, decide_eq_true_eq] at h
      obtain ⟨⟨rfl, h2⟩, h3⟩ := h
      exact se_att ok h2 kn.1 (sE o _ _ x X W sc ok tk hN hsc h3 kn.2)
    · exact Bool.noConfusion h
  | .isi T ks o, c, k, e, X, W, sc, ok, tk, hN, hsc, h, kn => by
    simp only [mE] at h
    split at h
    · rename_i x px y z p2 p
      simp only [Bool.and_eq_true, decide_eq_true_eq] at h
      obtain ⟨⟨⟨⟨⟨⟨⟨rfl, h2⟩, rfl⟩, h4⟩, h5⟩, h6⟩, h7⟩, h8⟩ := h
      subst hsc
      exact se_isi ok kn.1 (gl_of h2) (gl_of h4) h5 (by simpa using h6) h7 (sE o _ _ y X W _ ok tk hN rfl h8 kn.2)
    · exact Bool.noConfusion h
  | .mkx y j ks es, c, k, e, X, W, sc, ok, tk, hN, hsc, h, kn => by
    simp only [mE] at h
    split at h
    · rename_i x px as p
      simp only [Bool.and_eq_true, decide_eq_true_eq] at h
      obtain ⟨⟨⟨⟨rfl, h2⟩, h3⟩, h4⟩, h5⟩ := h
      subst hsc
      cases as with
      | nil =>
        cases es with
        | nil => exact se_mkx0 ok kn.1 (gl_of h2) h3
        | _ => simp [mL] at h5
      | cons a as => exact se_mkx ok kn.1 (gl_of h2) h3 h4 (sL es _ _ (a :: as) X W _ ok tk hN rfl h5 kn.2)
    · exact Bool.noConfusion h
  | .mkxK y j ks pm nms es, c, k, e, X, W, sc, ok, tk, hN, hsc, h, kn => by
    simp only [mE] at h
    split at h
    · rename_i x px a r p
      simp only [Bool.and_eq_true, decide_eq_true_eq] at h
      obtain ⟨⟨⟨⟨rfl, h2⟩, h3⟩, h4⟩, h5⟩ := h
      subst hsc
      exact se_mkxK ok kn.1 (gl_of h2) h3 h4 (sK es _ _ (a :: r) nms X W _ ok tk hN rfl h4 h5 kn.2)
    · exact Bool.noConfusion h
  | .mkK m y cl ks sp es, c, k, e, X, W, sc, ok, tk, hN, hsc, h, kn => by
    simp only [mE] at h
    split at h
    · rename_i x px a r p
      simp only [Bool.and_eq_true, decide_eq_true_eq] at h
      obtain ⟨⟨⟨⟨rfl, h2⟩, h3⟩, h4⟩, h5⟩ := h
      subst hsc
      exact se_mkK ok tk kn.1 (gl_of h2) h3 h4 (sK es _ _ (a :: r) ks X W _ ok tk hN rfl h4 h5 kn.2)
    · exact Bool.noConfusion h
  | .prop cl y sp o, c, k, e, X, W, sc, ok, tk, hN, hsc, h, kn => by
    simp only [mE] at h
    split at h
    · rename_i x f p
      simp only [Bool.and_eq_true, decide_eq_true_eq] at h
      obtain ⟨⟨rfl, h2⟩, h3⟩ := h
      exact se_prop ok h2 kn.1 (sE o _ _ x X W sc ok tk hN hsc h3 kn.2)
    · exact Bool.noConfusion h
  | .omet cl i sp o es, c, k, e, X, W, sc, ok, tk, hN, hsc, h, kn => by
    simp only [mE] at h
    split at h
    · rename_i oe nm ap a as p
      simp only [Bool.and_eq_true, decide_eq_true_eq] at h
      obtain ⟨⟨⟨⟨⟨⟨rfl, h2⟩, h3⟩, h4⟩, h5⟩, h6⟩, h7⟩ := h
      exact se_omet ok tk h2 h3 h4 h5 kn.1 (sE o _ _ oe X W sc ok tk hN hsc h6 kn.2.1) (sL es _ _ (a :: as) X W sc ok tk hN hsc h7 kn.2.2)
    · rename_i oe nm ap p
      simp only [Bool.and_eq_true, decide_eq_true_eq] at h
      obtain ⟨⟨⟨⟨rfl, h2⟩, h3⟩, h4⟩, h5⟩ := h
      cases es with
      | nil => exact se_omet0 ok tk h2 h3 kn.1 (sE o _ _ oe X W sc ok tk hN hsc h4 kn.2.1)
      | cons _ _ => simp [mL] at h5
      | star _ _ => simp [mL] at h5
    · exact Bool.noConfusion h
  | .mk m y cl sp es, c, k, e, X, W, sc, ok, tk, hN, hsc, h, kn => by
    simp only [mE] at h
    split at h
    · rename_i x px a as p
      simp only [Bool.and_eq_true, decide_eq_true_eq] at h
      obtain ⟨⟨⟨⟨rfl, h2⟩, h3⟩, h4⟩, h5⟩ := h
      subst hsc
      exact se_mk ok tk kn.1 (gl_of h2) h3 h4 (sL es _ _ (a :: as) X W _ ok tk hN rfl h5 kn.2)
    · exact Bool.noConfusion h
  | .fstr es, c, k, e, X, W, sc, ok, tk, hN, hsc, h, kn => by
    simp only [mE] at h
    split at h
    · rename_i a r p
      obtain ⟨ts, hj, hi⟩ := sJ es _ _ (a :: r) X W sc ok tk hN hsc h kn
      exact se_fstr hj (hi Str.empty)
    · exact Bool.noConfusion h
theorem sQ : ∀ (ce : CE) (c : Ctx) (k : Nat) (e : Expr) (X : Cx) (W : WX) (sc : Scope), XOk c k X → Takes X W → X.N = N → X.env.scope = sc → mE c.nm N sc e ce = true → knE c k (rn X) ce → ST c X W e (wQ ce) ∧ (isBool e = true → SW c X W e (wQ ce))
  | .and_ a b, c, k, e, X, W, sc, ok, tk, hN, hsc, h, kn => by
    simp only [mE] at h
    split at h
    · rename_i x y r p
      simp only [Bool.and_eq_true] at h
      obtain ⟨h1, h2⟩ := h
      cases r with
      | nil =>
        have r := sw_and (sQ a _ _ x X W sc ok tk hN hsc h1 kn.1).1 (pw_and1 (pos := p) (sQ b _ _ y X W sc ok tk hN hsc h2 kn.2).1)
        exact ⟨r.pt, fun _ => r⟩
      | cons z r =>
        have r := sw_and (sQ a _ _ x X W sc ok tk hN hsc h1 kn.1).1 ((sQ b _ _ _ X W sc ok tk hN hsc h2 kn.2).2 rfl)
        exact ⟨r.pt, fun _ => r⟩
    · exact Bool.noConfusion h
  | .or_ a b, c, k, e, X, W, sc, ok, tk, hN, hsc, h, kn => by
    simp only [mE] at h
    split at h
    · rename_i x y r p
      simp only [Bool.and_eq_true] at h
      obtain ⟨h1, h2⟩ := h
      cases r with
      | nil =>
        have r := sw_or (sQ a _ _ x X W sc ok tk hN hsc h1 kn.1).1 (pw_or1 (pos := p) (sQ b _ _ y X W sc ok tk hN hsc h2 kn.2).1)
        exact ⟨r.pt, fun _ => r⟩
      | cons z r =>
        have r := sw_or (sQ a _ _ x X W sc ok tk hN hsc h1 kn.1).1 ((sQ b _ _ _ X W sc ok tk hN hsc h2 kn.2).2 rfl)
        exact ⟨r.pt, fun _ => r⟩
    · exact Bool.noConfusion h
  | .not_ a, c, k, e, X, W, sc, ok, tk, hN, hsc, h, kn => by
    simp only [mE] at h
    split at h
    · rename_i x p
      exact ⟨st_not (sQ a _ _ x X W sc ok tk hN hsc h kn).1, fun z => Bool.noConfusion z⟩
    · exact Bool.noConfusion h
  | .ife t a b, c, k, e, X, W, sc, ok, tk, hN, hsc, h, kn => by
    simp only [mE] at h
    split at h
    · rename_i x y z p
      simp only [Bool.and_eq_true] at h
      exact ⟨st_ife (sQ t _ _ x X W sc ok tk hN hsc h.1.1 kn.1).1 (sQ a _ _ y X W sc ok tk hN hsc h.1.2 kn.2.1).1 (sQ b _ _ z X W sc ok tk hN hsc h.2 kn.2.2).1, fun z => Bool.noConfusion z⟩
    · exact Bool.noConfusion h
  | .cmp o a b, c, k, e, X, W, sc, ok, tk, hN, hsc, h, kn => by
    simp only [mE] at h
    split at h
    · rename_i x f y p
      simp only [Bool.and_eq_true, Bool.not_eq_true'] at h
      have e1 := cmEq h.1.1.1
      subst e1
      exact ⟨st_cmp ok.o h.1.1.2 (sE a _ _ x X W sc ok tk hN hsc h.1.2 kn.1) (sE b _ _ y X W sc ok tk hN hsc h.2 kn.2), fun z => Bool.noConfusion z⟩
    · exact Bool.noConfusion h
  | .cmpF o a b, c, k, e, X, W, sc, ok, tk, hN, hsc, h, kn => by
    simp only [mE] at h
    split at h
    · rename_i x f y p
      simp only [Bool.and_eq_true, Bool.not_eq_true'] at h
      have e1 := cmEq h.1.1.1
      subst e1
      exact ⟨st_cmpG (o.ok c k X ok kn.1) h.1.1.2 (sE a _ _ x X W sc ok tk hN hsc h.1.2 kn.2.1) (sE b _ _ y X W sc ok tk hN hsc h.2 kn.2.2), fun z => Bool.noConfusion z⟩
    · exact Bool.noConfusion h
  | .chain o o' a b d, c, k, e, X, W, sc, ok, tk, hN, hsc, h, kn => by
    simp only [mE] at h
    split at h
    · rename_i x f g y z p
      simp only [Bool.and_eq_true, Bool.not_eq_true'] at h
      have e1 := cmEq h.1.1.1.1.1
      have e2 := cmEq h.1.1.1.1.2
      subst e1; subst e2
      exact ⟨st_chain ok h.1.1.1.2 (sE a _ _ x X W sc ok tk hN hsc h.1.1.2 kn.1) (sE b _ _ y X W sc ok tk hN hsc h.1.2 kn.2.1) (sE d _ _ z X W sc ok tk hN hsc h.2 kn.2.2), fun z => Bool.noConfusion z⟩
    · exact Bool.noConfusion h
  | .var i, c, k, e, X, W, sc, ok, tk, hN, hsc, h, kn => by
    simp only [mE] at h
    split at h
    · rename_i x p
      simp only [Bool.and_eq_true, decide_eq_true_eq] at h
      subst hN; subst hsc
      exact ⟨st_tru ok.hK (se_var h.1.1 (vis_of h.1.2) h.2) fun _ => rfl, fun z => Bool.noConfusion z⟩
    · exact Bool.noConfusion h
  | .op o a b, c, k, e, X, W, sc, ok, tk, hN, hsc, h, kn => by
    simp only [mE] at h
    split at h
    · rename_i x f y p
      simp only [Bool.and_eq_true] at h
      have e1 := opEq h.1.1
      subst e1
      exact ⟨st_tru ok.hK (se_op ok.o (sE a _ _ x X W sc ok tk hN hsc h.1.2 kn.1) (sE b _ _ y X W sc ok tk hN hsc h.2 kn.2)) fun _ => rfl, fun z => Bool.noConfusion z⟩
    · exact Bool.noConfusion h
  | .call f sp es, c, k, e, X, W, sc, ok, tk, hN, hsc, h, kn => by
    simp only [mE] at h
    split at h
    · rename_i x px a as p
      simp only [Bool.and_eq_true, decide_eq_true_eq] at h
      obtain ⟨⟨⟨⟨rfl, h2⟩, h3⟩, h4⟩, h5⟩ := h
      subst hsc
      exact ⟨st_tru ok.hK (se_call ok tk kn.1 (gl_of h2) h3 h4 (sL es _ _ (a :: as) X W _ ok tk hN rfl h5 kn.2)) fun _ => rfl, fun z => Bool.noConfusion z⟩
    · exact Bool.noConfusion h
  | .blt b es, c, k, e, X, W, sc, ok, tk, hN, hsc, h, kn => by
    simp only [mE] at h
    split at h
    · rename_i x px a as p
      simp only [Bool.and_eq_true, decide_eq_true_eq] at h
      obtain ⟨⟨⟨⟨rfl, h2⟩, h3⟩, h4⟩, h5⟩ := h
      subst hsc
      exact ⟨st_tru ok.hK (se_blt ok kn.1 (gl_of h2) h3 h4 (sL es _ _ (a :: as) X W _ ok tk hN rfl h5 kn.2)) fun _ => rfl, fun z => Bool.noConfusion z⟩
    · exact Bool.noConfusion h
  | .bltF b es, c, k, e, X, W, sc, ok, tk, hN, hsc, h, kn => by
    simp only [mE] at h
    split at h
    · rename_i x px a as p
      simp only [Bool.and_eq_true, decide_eq_true_eq] at h
      obtain ⟨⟨⟨⟨rfl, h2⟩, h3⟩, h4⟩, h5⟩ := h
      subst hsc
      exact ⟨st_tru ok.hK (se_bltF ok kn.1 kn.2.1 (gl_of h2) h3 h4 (sL es _ _ (a :: as) X W _ ok tk hN rfl h5 kn.2.2)) fun _ => rfl, fun z => Bool.noConfusion z⟩
    · exact Bool.noConfusion h
  | .met m o es, c, k, e, X, W, sc, ok, tk, hN, hsc, h, kn => by
    simp only [mE] at h
    split at h
    · rename_i oe nm ap a as p
      simp only [Bool.and_eq_true, decide_eq_true_eq] at h
      obtain ⟨⟨⟨⟨⟨⟨rfl, h2⟩, h3⟩, h4⟩, h5⟩, h6⟩, h7⟩ := h
      exact ⟨st_tru ok.hK (se_met ok.o h2 h3 h4 h5 (sE o _ _ oe X W sc ok tk hN hsc h6 kn.1) (sL es _ _ (a :: as) X W sc ok tk hN hsc h7 kn.2)) fun _ => rfl, fun z => Bool.noConfusion z⟩
    · rename_i oe nm ap p
      simp only [Bool.and_eq_true, decide_eq_true_eq] at h
      obtain ⟨⟨⟨⟨rfl, h2⟩, h3⟩, h4⟩, h5⟩ := h
      cases es with
      | nil => exact ⟨st_tru ok.hK (se_met0 ok.o h2 h3 (sE o _ _ oe X W sc ok tk hN hsc h4 kn.1)) fun _ => rfl, fun z => Bool.noConfusion z⟩
      | cons _ _ => simp [mL] at h5
      | star _ _ => simp [mL] at h5
    · exact Bool.noConfusion h
  | .idx o a i, c, k, e, X, W, sc, ok, tk, hN, hsc, h, kn => by
    simp only [mE] at h
    split at h
    · rename_i x y p
      simp only [Bool.and_eq_true] at h
      exact ⟨st_tru ok.hK (se_idx ok.o (plainIx_ok h.1.1) (sE a _ _ x X W sc ok tk hN hsc h.1.2 kn.1) (sE i _ _ y X W sc ok tk hN hsc h.2 kn.2)) fun _ => rfl, fun z => Bool.noConfusion z⟩
    · exact Bool.noConfusion h
  | .int _, c, k, e, X, W, sc, ok, tk, hN, hsc, h, kn => ⟨⟨fun pins s σ H Q I h => (LG.pure h fun _ _ _ _ _ _ _ hw _ _ => (hw : False)).elim⟩, fun _ => ⟨fun _ pins s σ H Q I h => (LG.pure h fun _ _ _ _ _ _ _ hw _ _ => (hw : False)).elim⟩⟩
  | .str _, c, k, e, X, W, sc, ok, tk, hN, hsc, h, kn => ⟨⟨fun pins s σ H Q I h => (LG.pure h fun _ _ _ _ _ _ _ hw _ _ => (hw : False)).elim⟩, fun _ => ⟨fun _ pins s σ H Q I h => (LG.pure h fun _ _ _ _ _ _ _ hw _ _ => (hw : False)).elim⟩⟩
  | .bl _, c, k, e, X, W, sc, ok, tk, hN, hsc, h, kn => ⟨⟨fun pins s σ H Q I h => (LG.pure h fun _ _ _ _ _ _ _ hw _ _ => (hw : False)).elim⟩, fun _ => ⟨fun _ pins s σ H Q I h => (LG.pure h fun _ _ _ _ _ _ _ hw _ _ => (hw : False)).elim⟩⟩
  | .non, c, k, e, X, W, sc, ok, tk, hN, hsc, h, kn => ⟨⟨fun pins s σ H Q I h => (LG.pure h fun _ _ _ _ _ _ _ hw _ _ => (hw : False)).elim⟩, fun _ => ⟨fun _ pins s σ H Q I h => (LG.pure h fun _ _ _ _ _ _ _ hw _ _ => (hw : False)).elim⟩⟩
  | .glo .., c, k, e, X, W, sc, ok, tk, hN, hsc, h, kn => ⟨⟨fun pins s σ H Q I h => (LG.pure h fun _ _ _ _ _ _ _ hw _ _ => (hw : False)).elim⟩, fun _ => ⟨fun _ pins s σ H Q I h => (LG.pure h fun _ _ _ _ _ _ _ hw _ _ => (hw : False)).elim⟩⟩
  | .bval .., c, k, e, X, W, sc, ok, tk, hN, hsc, h, kn => ⟨⟨fun pins s σ H Q I h => (LG.pure h fun _ _ _ _ _ _ _ hw _ _ => (hw : False)).elim⟩, fun _ => ⟨fun _ pins s σ H Q I h => (LG.pure h fun _ _ _ _ _ _ _ hw _ _ => (hw : False)).elim⟩⟩
  | .opF .., c, k, e, X, W, sc, ok, tk, hN, hsc, h, kn => ⟨⟨fun pins s σ H Q I h => (LG.pure h fun _ _ _ _ _ _ _ hw _ _ => (hw : False)).elim⟩, fun _ => ⟨fun _ pins s σ H Q I h => (LG.pure h fun _ _ _ _ _ _ _ hw _ _ => (hw : False)).elim⟩⟩
  | .un .., c, k, e, X, W, sc, ok, tk, hN, hsc, h, kn => ⟨⟨fun pins s σ H Q I h => (LG.pure h fun _ _ _ _ _ _ _ hw _ _ => (hw : False)).elim⟩, fun _ => ⟨fun _ pins s σ H Q I h => (LG.pure h fun _ _ _ _ _ _ _ hw _ _ => (hw : False)).elim⟩⟩
  | .tup .., c, k, e, X, W, sc, ok, tk, hN, hsc, h, kn => ⟨⟨fun pins s σ H Q I h => (LG.pure h fun _ _ _ _ _ _ _ hw _ _ => (hw : False)).elim⟩, fun _ => ⟨fun _ pins s σ H Q I h => (LG.pure h fun _ _ _ _ _ _ _ hw _ _ => (hw : False)).elim⟩⟩
  | .lst .., c, k, e, X, W, sc, ok, tk, hN, hsc, h, kn => ⟨⟨fun pins s σ H Q I h => (LG.pure h fun _ _ _ _ _ _ _ hw _ _ => (hw : False)).elim⟩, fun _ => ⟨fun _ pins s σ H Q I h => (LG.pure h fun _ _ _ _ _ _ _ hw _ _ => (hw : False)).elim⟩⟩
  | .rev .., c, k, e, X, W, sc, ok, tk, hN, hsc, h, kn => ⟨⟨fun pins s σ H Q I h => (LG.pure h fun _ _ _ _ _ _ _ hw _ _ => (hw : False)).elim⟩, fun _ => ⟨fun _ pins s σ H Q I h => (LG.pure h fun _ _ _ _ _ _ _ hw _ _ => (hw : False)).elim⟩⟩
  | .rpl .., c, k, e, X, W, sc, ok, tk, hN, hsc, h, kn => ⟨⟨fun pins s σ H Q I h => (LG.pure h fun _ _ _ _ _ _ _ hw _ _ => (hw : False)).elim⟩, fun _ => ⟨fun _ pins s σ H Q I h => (LG.pure h fun _ _ _ _ _ _ _ hw _ _ => (hw : False)).elim⟩⟩
  | .slc .., c, k, e, X, W, sc, ok, tk, hN, hsc, h, kn => ⟨⟨fun pins s σ H Q I h => (LG.pure h fun _ _ _ _ _ _ _ hw _ _ => (hw : False)).elim⟩, fun _ => ⟨fun _ pins s σ H Q I h => (LG.pure h fun _ _ _ _ _ _ _ hw _ _ => (hw : False)).elim⟩⟩
  | .comp .., c, k, e, X, W, sc, ok, tk, hN, hsc, h, kn => ⟨⟨fun pins s σ H Q I h => (LG.pure h fun _ _ _ _ _ _ _ hw _ _ => (hw : False)).elim⟩, fun _ => ⟨fun _ pins s σ H Q I h => (LG.pure h fun _ _ _ _ _ _ _ hw _ _ => (hw : False)).elim⟩⟩
  | .comp2 .., c, k, e, X, W, sc, ok, tk, hN, hsc, h, kn => ⟨⟨fun pins s σ H Q I h => (LG.pure h fun _ _ _ _ _ _ _ hw _ _ => (hw : False)).elim⟩, fun _ => ⟨fun _ pins s σ H Q I h => (LG.pure h fun _ _ _ _ _ _ _ hw _ _ => (hw : False)).elim⟩⟩
  | .dcomp .., c, k, e, X, W, sc, ok, tk, hN, hsc, h, kn => ⟨⟨fun pins s σ H Q I h => (LG.pure h fun _ _ _ _ _ _ _ hw _ _ => (hw : False)).elim⟩, fun _ => ⟨fun _ pins s σ H Q I h => (LG.pure h fun _ _ _ _ _ _ _ hw _ _ => (hw : False)).elim⟩⟩
  | .dget .., c, k, e, X, W, sc, ok, tk, hN, hsc, h, kn => ⟨⟨fun pins s σ H Q I h => (LG.pure h fun _ _ _ _ _ _ _ hw _ _ => (hw : False)).elim⟩, fun _ => ⟨fun _ pins s σ H Q I h => (LG.pure h fun _ _ _ _ _ _ _ hw _ _ => (hw : False)).elim⟩⟩
  | .nev, c, k, e, X, W, sc, ok, tk, hN, hsc, h, kn => ⟨⟨fun pins s σ H Q I h => (LG.pure h fun _ _ _ _ _ _ _ hw _ _ => (hw : False)).elim⟩, fun _ => ⟨fun _ pins s σ H Q I h => (LG.pure h fun _ _ _ _ _ _ _ hw _ _ => (hw : False)).elim⟩⟩
  | .emp, c, k, e, X, W, sc, ok, tk, hN, hsc, h, kn => ⟨⟨fun pins s σ H Q I h => (LG.pure h fun _ _ _ _ _ _ _ hw _ _ => (hw : False)).elim⟩, fun _ => ⟨fun _ pins s σ H Q I h => (LG.pure h fun _ _ _ _ _ _ _ hw _ _ => (hw : False)).elim⟩⟩
  | .att .., c, k, e, X, W, sc, ok, tk, hN, hsc, h, kn => ⟨⟨fun pins s σ H Q I h => (LG.pure h fun _ _ _ _ _ _ _ hw _ _ => (hw : False)).elim⟩, fun _ => ⟨fun _ pins s σ H Q I h => (LG.pure h fun _ _ _ _ _ _ _ hw _ _ => (hw : False)).elim⟩⟩
  | .prop .., c, k, e, X, W, sc, ok, tk, hN, hsc, h, kn => ⟨⟨fun pins s σ H Q I h => (LG.pure h fun _ _ _ _ _ _ _ hw _ _ => (hw : False)).elim⟩, fun _ => ⟨fun _ pins s σ H Q I h => (LG.pure h fun _ _ _ _ _ _ _ hw _ _ => (hw : False)).elim⟩⟩
  | .omet cl i sp o es, c, k, e, X, W, sc, ok, tk, hN, hsc, h, kn => by
    simp only [mE] at h
    split at h
    · rename_i oe nm ap a as p
      simp only [Bool.and_eq_true, decide_eq_true_eq] at h
      obtain ⟨⟨⟨⟨⟨⟨rfl, h2⟩, h3⟩, h4⟩, h5⟩, h6⟩, h7⟩ := h
      exact ⟨st_tru ok.hK (se_omet ok tk h2 h3 h4 h5 kn.1 (sE o _ _ oe X W sc ok tk hN hsc h6 kn.2.1) (sL es _ _ (a :: as) X W sc ok tk hN hsc h7 kn.2.2)) fun _ => rfl, fun z => Bool.noConfusion z⟩
    · rename_i oe nm ap p
      simp only [Bool.and_eq_true, decide_eq_true_eq] at h
      obtain ⟨⟨⟨⟨rfl, h2⟩, h3⟩, h4⟩, h5⟩ := h
      cases es with
      | nil => exact ⟨st_tru ok.hK (se_omet0 ok tk h2 h3 kn.1 (sE o _ _ oe X W sc ok tk hN hsc h4 kn.2.1)) fun _ => rfl, fun z => Bool.noConfusion z⟩
      | cons _ _ => simp [mL] at h5
      | star _ _ => simp [mL] at h5
    · exact Bool.noConfusion h
  | .isi T ks o, c, k, e, X, W, sc, ok, tk, hN, hsc, h, kn => by
    simp only [mE] at h
    split at h
    · rename_i x px y z p2 p
      simp only [Bool.and_eq_true, decide_eq_true_eq] at h
      obtain ⟨⟨⟨⟨⟨⟨⟨rfl, h2⟩, rfl⟩, h4⟩, h5⟩, h6⟩, h7⟩, h8⟩ := h
      subst hsc
      exact ⟨st_tru ok.hK (se_isi ok kn.1 (gl_of h2) (gl_of h4) h5 (by simpa using h6) h7 (sE o _ _ y X W _ ok tk hN rfl h8 kn.2)) fun _ => rfl, fun z => Bool.noConfusion z⟩
    · exact Bool.noConfusion h
  | .mk .., c, k, e, X, W, sc, ok, tk, hN, hsc, h, kn => ⟨⟨fun pins s σ H Q I h => (LG.pure h fun _ _ _ _ _ _ _ hw _ _ => (hw : False)).elim⟩, fun _ => ⟨fun _ pins s σ H Q I h => (LG.pure h fun _ _ _ _ _ _ _ hw _ _ => (hw : False)).elim⟩⟩
  | .mkK .., c, k, e, X, W, sc, ok, tk, hN, hsc, h, kn => ⟨⟨fun pins s σ H Q I h => (LG.pure h fun _ _ _ _ _ _ _ hw _ _ => (hw : False)).elim⟩, fun _ => ⟨fun _ pins s σ H Q I h => (LG.pure h fun _ _ _ _ _ _ _ hw _ _ => (hw : False)).elim⟩⟩
  | .mkx .., c, k, e, X, W, sc, ok, tk, hN, hsc, h, kn => ⟨⟨fun pins s σ H Q I h => (LG.pure h fun _ _ _ _ _ _ _ hw _ _ => (hw : False)).elim⟩, fun _ => ⟨fun _ pins s σ H Q I h => (LG.pure h fun _ _ _ _ _ _ _ hw _ _ => (hw : False)).elim⟩⟩
  | .mkxK .., c, k, e, X, W, sc, ok, tk, hN, hsc, h, kn => ⟨⟨fun pins s σ H Q I h => (LG.pure h fun _ _ _ _ _ _ _ hw _ _ => (hw : False)).elim⟩, fun _ => ⟨fun _ pins s σ H Q I h => (LG.pure h fun _ _ _ _ _ _ _ hw _ _ => (hw : False)).elim⟩⟩
  | .fstr .., c, k, e, X, W, sc, ok, tk, hN, hsc, h, kn => ⟨⟨fun pins s σ H Q I h => (LG.pure h fun _ _ _ _ _ _ _ hw _ _ => (hw : False)).elim⟩, fun _ => ⟨fun _ pins s σ H Q I h => (LG.pure h fun _ _ _ _ _ _ _ hw _ _ => (hw : False)).elim⟩⟩
  | .ometK .., c, k, e, X, W, sc, ok, tk, hN, hsc, h, kn => ⟨⟨fun pins s σ H Q I h => (LG.pure h fun _ _ _ _ _ _ _ hw _ _ => (hw : False)).elim⟩, fun _ => ⟨fun _ pins s σ H Q I h => (LG.pure h fun _ _ _ _ _ _ _ hw _ _ => (hw : False)).elim⟩⟩
  | .revs .., c, k, e, X, W, sc, ok, tk, hN, hsc, h, kn => ⟨⟨fun pins s σ H Q I h => (LG.pure h fun _ _ _ _ _ _ _ hw _ _ => (hw : False)).elim⟩, fun _ => ⟨fun _ pins s σ H Q I h => (LG.pure h fun _ _ _ _ _ _ _ hw _ _ => (hw : False)).elim⟩⟩
  | .lrng .., c, k, e, X, W, sc, ok, tk, hN, hsc, h, kn => ⟨⟨fun pins s σ H Q I h => (LG.pure h fun _ _ _ _ _ _ _ hw _ _ => (hw : False)).elim⟩, fun _ => ⟨fun _ pins s σ H Q I h => (LG.pure h fun _ _ _ _ _ _ _ hw _ _ => (hw : False)).elim⟩⟩
  | .lset .., c, k, e, X, W, sc, ok, tk, hN, hsc, h, kn => ⟨⟨fun pins s σ H Q I h => (LG.pure h fun _ _ _ _ _ _ _ hw _ _ => (hw : False)).elim⟩, fun _ => ⟨fun _ pins s σ H Q I h => (LG.pure h fun _ _ _ _ _ _ _ hw _ _ => (hw : False)).elim⟩⟩
  | .stp .., c, k, e, X, W, sc, ok, tk, hN, hsc, h, kn => ⟨⟨fun pins s σ H Q I h => (LG.pure h fun _ _ _ _ _ _ _ hw _ _ => (hw : False)).elim⟩, fun _ => ⟨fun _ pins s σ H Q I h => (LG.pure h fun _ _ _ _ _ _ _ hw _ _ => (hw : False)).elim⟩⟩
  | .isx .., c, k, e, X, W, sc, ok, tk, hN, hsc, h, kn => ⟨⟨fun pins s σ H Q I h => (LG.pure h fun _ _ _ _ _ _ _ hw _ _ => (hw : False)).elim⟩, fun _ => ⟨fun _ pins s σ H Q I h => (LG.pure h fun _ _ _ _ _ _ _ hw _ _ => (hw : False)).elim⟩⟩
  | .attx .., c, k, e, X, W, sc, ok, tk, hN, hsc, h, kn => ⟨⟨fun pins s σ H Q I h => (LG.pure h fun _ _ _ _ _ _ _ hw _ _ => (hw : False)).elim⟩, fun _ => ⟨fun _ pins s σ H Q I h => (LG.pure h fun _ _ _ _ _ _ _ hw _ _ => (hw : False)).elim⟩⟩
  | .told .., c, k, e, X, W, sc, ok, tk, hN, hsc, h, kn => ⟨⟨fun pins s σ H Q I h => (LG.pure h fun _ _ _ _ _ _ _ hw _ _ => (hw : False)).elim⟩, fun _ => ⟨fun _ pins s σ H Q I h => (LG.pure h fun _ _ _ _ _ _ _ hw _ _ => (hw : False)).elim⟩⟩
  | .empM, c, k, e, X, W, sc, ok, tk, hN, hsc, h, kn => ⟨⟨fun pins s σ H Q I h => (LG.pure h fun _ _ _ _ _ _ _ hw _ _ => (hw : False)).elim⟩, fun _ => ⟨fun _ pins s σ H Q I h => (LG.pure h fun _ _ _ _ _ _ _ hw _ _ => (hw : False)).elim⟩⟩
  | .dun _, c, k, e, X, W, sc, ok, tk, hN, hsc, h, kn => ⟨⟨fun pins s σ H Q I h => (LG.pure h fun _ _ _ _ _ _ _ hw _ _ => (hw : False)).elim⟩, fun _ => ⟨fun _ pins s σ H Q I h => (LG.pure h fun _ _ _ _ _ _ _ hw _ _ => (hw : False)).elim⟩⟩
  | .callK f n ks pm sp pl es, c, k, e, X, W, sc, ok, tk, hN, hsc, h, kn => by
    simp only [mE] at h
    split at h
    · rename_i x px xs a r p
      simp only [Bool.and_eq_true, decide_eq_true_eq] at h
      obtain ⟨⟨⟨⟨⟨⟨rfl, h2⟩, h3⟩, h4⟩, h5⟩, h6⟩, h7⟩ := h
      subst hsc
      have hk := sK es _ _ (a :: r) ks X W _ ok tk hN rfl h5 h7 kn.2.2
      cases xs with
      | nil =>
        cases pl with
        | nil => exact ⟨st_tru ok.hK (se_callK0 ok tk kn.1 (gl_of h2) h3 h5 hk) fun _ => rfl, fun z => Bool.noConfusion z⟩
        | cons _ _ => simp [mL] at h6
        | star _ _ => simp [mL] at h6
      | cons e es => exact ⟨st_tru ok.hK (se_callK ok tk kn.1 (gl_of h2) h3 h4 h5 (sL pl _ _ (e :: es) X W _ ok tk hN rfl h6 kn.2.1) hk) fun _ => rfl, fun z => Bool.noConfusion z⟩
    · exact Bool.noConfusion h
theorem sC : ∀ (cl : CL) (c : Ctx) (k : Nat) (es : List Expr) (X : Cx) (W : WX) (sc : Scope), XOk c k X → Takes X W → X.N = N → X.env.scope = sc → mC c.nm N sc es cl = true → knL c k (rn X) cl → PTs X es (LG c W SEq (wC' cl))
  | .nil, c, k, es, X, W, sc, ok, tk, hN, hsc, h, kn => by
    simp only [mC] at h
    split at h
    · exact ⟨fun pins s σ H Q I hw => pts_nil.run pins s σ H Q I (hw.pure fun Z S ρ QD ED R RE hw hq hx => hq.go R rfl hw)⟩
    · exact Bool.noConfusion h
  | .cons ce .nil, c, k, es, X, W, sc, ok, tk, hN, hsc, h, kn => by
    simp only [mC] at h
    split at h
    · rename_i e
      refine ⟨fun pins s σ H Q I hw => (pts_one (sQ ce _ _ e X W sc ok tk hN hsc h kn.1).1).run pins s σ H Q I ?_⟩
      obtain ⟨Z, S, ρ, QD, ED, R, RE, hw, hq, hx⟩ := hw
      refine ⟨Z, S, ρ, _, ED, R, RE, hw, fun d v Z' S' H' l R' e q => ?_, hx⟩
      cases e
      cases d with
      | true => exact hq true true Z' S' H' l R' rfl q
      | false => exact hq false false Z' S' H' l R' rfl q
    · exact Bool.noConfusion h
  | .cons _ (.cons _ _), c, k, es, X, W, sc, ok, tk, hN, hsc, h, kn => by simp only [mC] at h; exact Bool.noConfusion h
  | .cons _ (.star _ _), c, k, es, X, W, sc, ok, tk, hN, hsc, h, kn => by simp only [mC] at h; exact Bool.noConfusion h
  | .star _ _, c, k, es, X, W, sc, ok, tk, hN, hsc, h, kn => by simp only [mC] at h; exact Bool.noConfusion h
theorem sJ : ∀ (cl : CL) (c : Ctx) (k : Nat) (es : List Expr) (X : Cx) (W : WX) (sc : Scope), XOk c k X → Takes X W → X.N = N → X.env.scope = sc → mJ c.nm N sc es cl = true → knL c k (rn X) cl → ∃ ts, PJ X es ts ∧ ∀ acc σ H Q, LG c W QEq (wJ cl acc) σ H Q → tJs ts acc σ H Q
  | .nil, c, k, es, X, W, sc, ok, tk, hN, hsc, h, kn => by
    simp only [mJ] at h
    split at h
    · exact ⟨[], .nil, fun acc σ H Q h => h.pure fun Z S ρ QD ED R RE hw hq hx => hq.go R rfl hw⟩
    · exact Bool.noConfusion h
  | .cons ce r, c, k, es, X, W, sc, ok, tk, hN, hsc, h, kn => by
    simp only [mJ] at h
    split at h
    · rename_i x kk p es
      simp only [Bool.and_eq_true, decide_eq_true_eq] at h
      obtain ⟨⟨rfl, h1⟩, h2⟩ := h
      exact js_cons (pe_fmt (sE ce _ _ x X W sc ok tk hN hsc h1 kn.1)) (fun σ H Q h => fmt_of h) (sJ r _ _ es X W sc ok tk hN hsc h2 kn.2)
    · rename_i y u p es
      simp only [Bool.and_eq_true] at h
      obtain ⟨h1, h2⟩ := h
      unfold isSL at h1
      split at h1
      · rename_i z
        simp only [decide_eq_true_eq] at h1
        subst h1
        exact js_cons se_lit (fun σ H Q h => lit_of h) (sJ r _ _ es X W sc ok tk hN hsc h2 kn.2)
      · exact Bool.noConfusion h1
    · exact Bool.noConfusion h
  | .star ce r, c, k, es, X, W, sc, ok, tk, hN, hsc, h, kn => by simp only [mJ] at h; exact Bool.noConfusion h
theorem sK : ∀ (cl : CL) (c : Ctx) (k : Nat) (kws : List Keyword) (ks : List Str) (X : Cx) (W : WX) (sc : Scope), XOk c k X → Takes X W → X.N = N → X.env.scope = sc → mK kws ks = true → mL c.nm N sc (kws.map kwVal) cl = true → knL c k (rn X) cl → PK X kws (LG c W (RepL c) (wL cl))
  | .nil, c, k, kws, ks, X, W, sc, ok, tk, hN, hsc, hk, h, kn => by
    cases kws with
    | nil => exact sk_nil
    | cons a r => simp [mL] at h
  | .cons ce r, c, k, kws, ks, X, W, sc, ok, tk, hN, hsc, hk, h, kn => by
    cases kws with
    | nil => simp [mL] at h
    | cons a rest =>
      obtain ⟨nm, v, p⟩ := a
      cases nm with
      | none => cases ks <;> simp [mK] at hk
      | some y =>
        cases ks with
        | nil => simp [mK] at hk
        | cons x ks =>
          simp only [mK, Bool.and_eq_true, decide_eq_true_eq] at hk
          simp only [List.map_cons, kwVal, mL] at h
          split at h
          · exact Bool.noConfusion h
          · rename_i e es hne heq
            cases heq
            simp only [Bool.and_eq_true] at h
            exact sk_cons (sE ce _ _ v X W sc ok tk hN hsc h.1 kn.1) (sK r _ _ rest ks X W sc ok tk hN hsc hk.2 h.2 kn.2)
          · exact Bool.noConfusion h
  | .star ce r, c, k, kws, ks, X, W, sc, ok, tk, hN, hsc, hk, h, kn => by
    cases kws with
    | nil => simp [mL] at h
    | cons a rest =>
      obtain ⟨nm, v, p⟩ := a
      cases nm with
      | none => cases ks <;> simp [mK] at hk
      | some y =>
        cases ks with
        | nil => simp [mK] at hk
        | cons x ks =>
          simp only [mK, Bool.and_eq_true, decide_eq_true_eq] at hk
          simp only [List.map_cons, kwVal] at h
          cases v <;> simp_all [mL, noStar]
theorem sL : ∀ (cl : CL) (c : Ctx) (k : Nat) (es : List Expr) (X : Cx) (W : WX) (sc : Scope), XOk c k X → Takes X W → X.N = N → X.env.scope = sc → mL c.nm N sc es cl = true → knL c k (rn X) cl → SA c X W es (wL cl)
  | .nil, c, k, es, X, W, sc, ok, tk, hN, hsc, h, kn => by
    simp only [mL] at h
    split at h
    · exact sa_nil
    · exact Bool.noConfusion h
  | .cons ce r, c, k, es, X, W, sc, ok, tk, hN, hsc, h, kn => by
    simp only [mL] at h
    split at h
    · exact Bool.noConfusion h
    · rename_i e es hne
      simp only [Bool.and_eq_true] at h
      refine sa_cons (sE ce _ _ e X W sc ok tk hN hsc h.1 kn.1) (sL r _ _ es X W sc ok tk hN hsc h.2 kn.2) ?_
      cases e <;> first | rfl | (exact (hne _ _ _ rfl rfl).elim) | (exact (hne _ _ _ rfl).elim)| (exact (hne _ _ rfl).elim) | (exact (hne _ _ rfl rfl).elim)
    · exact Bool.noConfusion h
  | .star ce r, c, k, es, X, W, sc, ok, tk, hN, hsc, h, kn => by
    simp only [mL] at h
    split at h
    · rename_i e p es
      simp only [Bool.and_eq_true] at h
      exact sa_star ok.hK (sE ce _ _ e X W sc ok tk hN hsc h.1 kn.1) (sL r _ _ es X W sc ok tk hN hsc h.2 kn.2)
    · exact Bool.noConfusion h
theorem sO : ∀ (co : CO) (c : Ctx) (k : Nat) (e : Option Expr) (X : Cx) (W : WX) (sc : Scope), XOk c k X → Takes X W → X.N = N → X.env.scope = sc → mO c.nm N sc e co = true → knO c k (rn X) co → SO c X W e (wO co)
  | .none, c, k, e, X, W, sc, ok, tk, hN, hsc, h, kn => by
    simp only [mO] at h
    split at h
    · exact so_none
    · exact Bool.noConfusion h
  | .some ce, c, k, e, X, W, sc, ok, tk, hN, hsc, h, kn => by
    simp only [mO] at h
    split at h
    · rename_i e
      exact so_some (sE ce _ _ e X W sc ok tk hN hsc h kn)
    · exact Bool.noConfusion h
theorem sI : ∀ (ci : CI) (c : Ctx) (k : Nat) (e : Expr) (X : Cx) (W : WX) (sc : Scope) (tg : Expr), XOk c k X → Takes X W → X.N = N → X.env.scope = sc → ((needTup ci = true → isTupE tg = true) ∧ (needNm ci = true → isNmE tg = true)) → mI c.nm N sc e ci = true → knI c k (rn X) ci → PI X tg e (LI c W (wI ci)) ∧ ∀ x, foldedSetIterable e X.env x = pure x
  | .seq ce, c, k, e, X, W, sc, tg, ok, tk, hN, hsc, _, h, kn => by
    simp only [mI, Bool.and_eq_true] at h
    exact ⟨si_seq ok.hK (sE ce _ _ e X W sc ok tk hN hsc h.2 kn), notSet_ok h.1⟩
  | .rng1 b, c, k, e, X, W, sc, tg, ok, tk, hN, hsc, _, h, kn => by
    simp only [mI] at h
    split at h
    · rename_i x px y p
      simp only [Bool.and_eq_true, decide_eq_true_eq] at h
      obtain ⟨⟨⟨rfl, h2⟩, h3⟩, h4⟩ := h
      subst hsc
      exact ⟨si_rng1 (gl_of h2) kn.1 h3 (sE b _ _ y X W _ ok tk hN rfl h4 kn.2), fun _ => rfl⟩
    · exact Bool.noConfusion h
  | .rng2 a b, c, k, e, X, W, sc, tg, ok, tk, hN, hsc, _, h, kn => by
    simp only [mI] at h
    split at h
    · rename_i x px y z p
      simp only [Bool.and_eq_true, decide_eq_true_eq] at h
      obtain ⟨⟨⟨⟨rfl, h2⟩, h3⟩, h4⟩, h5⟩ := h
      subst hsc
      exact ⟨si_rng2 (gl_of h2) kn.1 h3 (sE a _ _ y X W _ ok tk hN rfl h4 kn.2.1) (sE b _ _ z X W _ ok tk hN rfl h5 kn.2.2), fun _ => rfl⟩
    · exact Bool.noConfusion h
  | .rng3 a b s, c, k, e, X, W, sc, tg, ok, tk, hN, hsc, _, h, kn => by
    simp only [mI] at h
    split at h
    · rename_i x px y z u p
      simp only [Bool.and_eq_true, decide_eq_true_eq] at h
      obtain ⟨⟨⟨⟨⟨rfl, h2⟩, h3⟩, h4⟩, h5⟩, h6⟩ := h
      subst hsc
      exact ⟨si_rng3 (gl_of h2) kn.1 h3 (sE a _ _ y X W _ ok tk hN rfl h4 kn.2.1) (sE b _ _ z X W _ ok tk hN rfl h5 kn.2.2.1) (sE s _ _ u X W _ ok tk hN rfl h6 kn.2.2.2), fun _ => rfl⟩
    · exact Bool.noConfusion h
  | .enum a, c, k, e, X, W, sc, tg, ok, tk, hN, hsc, ht, h, kn => by
    simp only [mI] at h
    split at h
    · rename_i x px y p
      simp only [Bool.and_eq_true, decide_eq_true_eq] at h
      obtain ⟨⟨⟨rfl, h2⟩, h3⟩, h4⟩ := h
      subst hsc
      have ht := ht.1 rfl
      cases tg with
      | Tuple elts kk tp => exact ⟨si_enumB ok.hK (gl_of h2) kn.1 h3 (sE a _ _ y X W _ ok tk hN rfl h4 kn.2), fun _ => rfl⟩
      | _ => exact Bool.noConfusion ht
    · exact Bool.noConfusion h
  | .zip2 a b, c, k, e, X, W, sc, tg, ok, tk, hN, hsc, ht, h, kn => by
    simp only [mI] at h
    split at h
    · rename_i x px y z p
      simp only [Bool.and_eq_true, decide_eq_true_eq] at h
      obtain ⟨⟨⟨⟨rfl, h2⟩, h3⟩, h4⟩, h5⟩ := h
      subst hsc
      have ht := ht.1 rfl
      cases tg with
      | Tuple elts kk tp => exact ⟨si_zip2 ok.hK (gl_of h2) kn.1 h3 (sE a _ _ y X W _ ok tk hN rfl h4 kn.2.1) (sE b _ _ z X W _ ok tk hN rfl h5 kn.2.2), fun _ => rfl⟩
      | _ => exact Bool.noConfusion ht
    · exact Bool.noConfusion h
  | .zip3 a b d, c, k, e, X, W, sc, tg, ok, tk, hN, hsc, ht, h, kn => by
    simp only [mI] at h
    split at h
    · rename_i x px y z u p
      simp only [Bool.and_eq_true, decide_eq_true_eq] at h
      obtain ⟨⟨⟨⟨⟨rfl, h2⟩, h3⟩, h4⟩, h5⟩, h6⟩ := h
      subst hsc
      have ht := ht.1 rfl
      cases tg with
      | Tuple elts kk tp => exact ⟨si_zip3 ok.hK (gl_of h2) kn.1 h3 (sE a _ _ y X W _ ok tk hN rfl h4 kn.2.1) (sE b _ _ z X W _ ok tk hN rfl h5 kn.2.2.1) (sE d _ _ u X W _ ok tk hN rfl h6 kn.2.2.2), fun _ => rfl⟩
      | _ => exact Bool.noConfusion ht
    · exact Bool.noConfusion h
  | .zipS a, c, k, e, X, W, sc, tg, ok, tk, hN, hsc, ht, h, kn => by
    simp only [mI] at h
    split at h
    · rename_i x px y ps p
      simp only [Bool.and_eq_true, decide_eq_true_eq] at h
      obtain ⟨⟨rfl, h2⟩, h3⟩ := h
      subst hsc
      have ht := ht.2 rfl
      cases tg with
      | Name x px => exact ⟨si_zipS ok.hK (gl_of h2) kn.1 (sE a _ _ y X W _ ok tk hN rfl h3 kn.2), fun _ => rfl⟩
      | _ => exact Bool.noConfusion ht
    · exact Bool.noConfusion h
  | .rev a, c, k, e, X, W, sc, tg, ok, tk, hN, hsc, _, h, kn => by
    simp only [mI] at h
    split at h
    · rename_i x px y p
      simp only [Bool.and_eq_true, decide_eq_true_eq] at h
      obtain ⟨⟨⟨rfl, h2⟩, h3⟩, h4⟩ := h
      subst hsc
      exact ⟨si_rev ok.hK (gl_of h2) kn.1 h3 (sE a _ _ y X W _ ok tk hN rfl h4 kn.2), fun _ => rfl⟩
    · exact Bool.noConfusion h
  | .sgn a, c, k, e, X, W, sc, tg, ok, tk, hN, hsc, _, h, kn => by
    simp only [mI, Bool.and_eq_true] at h
    exact ⟨si_sgn (sE a _ _ e X W sc ok tk hN hsc h.2 kn), notSet_ok h.1⟩
end
end
end L3
namespace L3
open PySem PySem.Spec PyProof.Rows L2
def isLc (e : Expr) : Bool := match e with
  | .ListComp .. => true
  | .SetComp .. => true
  | .DictComp .. => true
  | _ => false
def swapB (sc : Scope) (t v : Expr) : Bool := match t, v with
  | .Name y py, .ListComp _ _ scope pos => decide (sc.names.lookup y = some .local) && (py.line == pos.line) && !(scope.names.any fun (n, k) => n == y && (k == .local || k == .cell))
  | _, _ => false
def cellT (sc : Scope) (t : Expr) : Bool := match t with
  | .Name y _ => decide (sc.names.lookup y = some .cell)
  | _ => false
def starred (e : Expr) : Bool := match e with
  | .Starred .. => true
  | _ => false
def nmsOf (sc : Scope) (line : Nat) (ts : List Expr) : List Str := ts.filterMap fun
  | .Name id pos => if sc.names.lookup id == some .local && pos.line == line then some id else none
  | _ => none
def plainSt (sc : Scope) (t v : Expr) : Bool := match t, v with
  | .Tuple ts _ _, .Tuple vs _ _ => !(ts.length == 2 || ts.length == 3) || vs.length != ts.length || vs.any starred || (nmsOf sc ((ts.head?.map (·.pos.line)).getD 0) ts).length != ts.length || vs.all (foldedForSure 8)
  | .List .., .Tuple .. => false
  | _, _ => true
mutual
def mA (fnm : Nat → Str) (N : List Str) (sc : Scope) (e : Expr) : CA → Bool
  | .nm i => (match e with
    | .Name x _ => decide (N[i]? = some x) && locB sc x
    | _ => false)
  | .sub _ o i => (match e with
    | .Subscript x y _ => plainIx y && mE fnm N sc x o && mE fnm N sc y i
    | _ => false)
  | .att _ k o => (match e with
    | .Attribute x f _ => decide (f = fnm k) && mE fnm N sc x o
    | _ => false)
  | .tp ts => (match e with
    | .Tuple xs _ _ => noStar xs && decide (xs.length = calLen ts) && mAs fnm N sc xs ts
    | _ => false)
def mAs (fnm : Nat → Str) (N : List Str) (sc : Scope) (es : List Expr) : CAL → Bool
  | .nil => (match es with
    | [] => true
    | _ => false)
  | .cons t r => (match es with
    | e :: es => mA fnm N sc e t && mAs fnm N sc es r
    | [] => false)
end
def locL (sc : Scope) (x : Str) : Bool := decide (sc.names.lookup x = some .local)
mutual
def mS (fnm : Nat → Str) (N : List Str) (sc : Scope) (s : Stmt) : CS → Bool
  | .expr e => (match s with
    | .Expr v _ => !(isLc v) && mE fnm N sc v e
    | _ => false)
  | .asg t e => (match s with
    | .Assign [tg] v _ => (if isLc v then (match tg with
      | .Name _ _ => swapB sc tg v || cellT sc tg
      | _ => true) else true) && plainSt sc tg v && mA fnm N sc tg t && mE fnm N sc v e
    | _ => false)
  | .par2 i j a b => (match s with
    | .Assign [.Tuple [.Name x px, .Name y py] _ _] (.Tuple [u, v] _ _) _ => decide (N[i]? = some x) && decide (N[j]? = some y) && decide (i ≠ j) && locL sc x && locL sc y && (py.line == px.line) && decide (x ≠ y) &&
        noStar [u, v] && !([u, v].all (foldedForSure 8)) && !([u, v].all (constantsAlone 8)) && mE fnm N sc u a && mE fnm N sc v b
    | _ => false)
  | .par3 i j l a b d => (match s with
    | .Assign [.Tuple [.Name x px, .Name y py, .Name z pz] _ _] (.Tuple [u, v, w] _ _) _ => decide (N[i]? = some x) && decide (N[j]? = some y) && decide (N[l]? = some z) && decide (i ≠ j) && decide (i ≠ l) && decide (j ≠ l) && (locL sc x && locL sc y && locL sc z) && (py.line == px.line) && (pz.line == px.line) && decide (x ≠ y) && decide (x ≠ z) && decide (y ≠ z) &&
        (noStar [u, v, w] && !([u, v, w].all (foldedForSure 8)) && !([u, v, w].all (constantsAlone 8))) && mE fnm N sc u a && mE fnm N sc v b && mE fnm N sc w d
    | _ => false)
  | .ret e => (match s with
    | .Return (some v) _ => mE fnm N sc v e
    | _ => false)
  | .retN => (match s with
    | .Return none _ => true
    | _ => false)
  | .if_ t a b => (match s with
    | .If c x y _ => mE fnm N sc c t && mB fnm N sc x a && mB fnm N sc y b
    | _ => false)
  | .for_ t it b => (match s with
    | .For tg ie body [] _ => fitT it tg && mT N sc tg t && mI fnm N sc ie it && mB fnm N sc body b
    | _ => false)
  | .whl t b => (match s with
    | .While c body [] _ => mE fnm N sc c t && mB fnm N sc body b
    | _ => false)
  | .pass => (match s with
    | .Pass _ => true
    | _ => false)
  | .raise_ _ _ _ => true
  | .raz y _ i e => (match s with
    | .Raise (some (.Call (.Name x _) [z] [] _)) none _ => decide (x = y) && glB sc x && okN x && noStar [z] && mE fnm N sc z e
    | _ => false)
  | .nev => true
def mB (fnm : Nat → Str) (N : List Str) (sc : Scope) (ss : List Stmt) : CB → Bool
  | .nil => (match ss with
    | [] => true
    | _ => false)
  | .cons s r => (match ss with
    | x :: xs => mS fnm N sc x s && mB fnm N sc xs r
    | [] => false)
  | .frz _ r => mB fnm N sc ss r
end
mutual
def knA (c : Ctx) (k : Nat) (X : Rn) : CA → Prop
  | .nm _ => True
  | .sub _ o i => knE c k X o ∧ knE c k X i
  | .att cl i o => KAtt c X cl i ∧ knE c k X o
  | .tp ts => knAs c k X ts
def knAs (c : Ctx) (k : Nat) (X : Rn) : CAL → Prop
  | .nil => True
  | .cons t r => knA c k X t ∧ knAs c k X r
end
def KRaz (c : Ctx) (X : Rn) (y : Str) (cl i : Nat) : Prop := ∃ C g, c.cn cl = some C ∧ X.mg y = some (.ref C) ∧ OwnX X.K C g (c.nm i)
mutual
def knS (c : Ctx) (k : Nat) (X : Rn) : CS → Prop
  | .expr e => knE c k X e
  | .asg t e => knA c k X t ∧ knE c k X e
  | .par2 _ _ a b => knE c k X a ∧ knE c k X b
  | .par3 _ _ _ a b d => knE c k X a ∧ knE c k X b ∧ knE c k X d
  | .ret e => knE c k X e
  | .retN => True
  | .if_ t a b => knE c k X t ∧ knB c k X a ∧ knB c k X b
  | .for_ _ it b => knI c k X it ∧ knB c k X b
  | .whl t b => knE c k X t ∧ knB c k X b
  | .pass => True
  | .raise_ _ _ es => knL c k X es
  | .raz y cl i e => KRaz c X y cl i ∧ knE c k X e
  | .nev => True
def knB (c : Ctx) (k : Nat) (X : Rn) : CB → Prop
  | .nil => True
  | .cons s r => knS c k X s ∧ knB c k X r
  | .frz _ r => knB c k X r
end
def LGt (c : Ctx) (wg : D → Env → Store → (Env → Store → Prop) → Prop) : TG := fun v σ H Q =>
  ∃ Z S ρ d K, Rel c Z S H ∧ REnv c Z ρ σ ∧ RepD c Z d v ∧ wg d ρ S K ∧ (∀ ρ' Z' S' H' σ', Nx ⟨Z, S, H⟩ ⟨Z', S', H'⟩ → Rel c Z' S' H' → REnv c Z' ρ' σ' → K ρ' S' → Q σ' H')
def LGts (c : Ctx) (wg : List D → Env → Store → (Env → Store → Prop) → Prop) : TGs := fun vs σ H Q =>
  ∃ Z S ρ ds K, Rel c Z S H ∧ REnv c Z ρ σ ∧ RepL c Z ds vs ∧ wg ds ρ S K ∧ (∀ ρ' Z' S' H' σ', Nx ⟨Z, S, H⟩ ⟨Z', S', H'⟩ → Rel c Z' S' H' → REnv c Z' ρ' σ' → K ρ' S' → Q σ' H')
section
variable {c : Ctx} {k : Nat} {X : Cx} {W : WX} {pos : Pos}
theorem PG.imp {e : Expr} {t t' : TG} (h : PG X e t) (k : ∀ v σ H Q, t' v σ H Q → t v σ H Q) : PG X e t' := ⟨fun pins s σ H v u Q I r q => h.run pins s σ H v u Q I r (k _ _ _ _ q)⟩
theorem PGs.imp {e : List Expr} {t t' : TGs} (h : PGs X e t) (k : ∀ v σ H Q, t' v σ H Q → t v σ H Q) : PGs X e t' := ⟨fun pins s σ H v u Q I r q => h.run pins s σ H v u Q I r (k _ _ _ _ q)⟩
theorem sg_nm {i : Nat} {x : Str} (ok : XO0 c X) (hi : X.N[i]? = some x) (hf : L2.Loc X.env.scope x ∧ (X.fn x = true ∨ X.env.scope.names.lookup x = some .local)) : PG X (.Name x pos) (LGt c (wG (.nm i))) :=
  PG.imp (pg_name ok.nd hi hf.1 hf.2) fun v σ H Q h => by
    obtain ⟨Z, S, ρ, d, K, R, RE, r, hw, hq⟩ := h
    refine hq (sto ρ i d) Z S H _ (Nx.refl _) R ?_ hw
    rw [sto_eq]
    exact RE.set i r
theorem sg_sub {s : St3} {x y : Expr} {o i : CE} (ok : XOk c k X) (hp : plainIx y = true) (ho : SE c X W0 x (wE o)) (hi : SE c X W0 y (wE i)) : PG X (.Subscript x y pos) (LGt c (wG (.sub s o i))) := by
  refine PG.imp (pg_sub ho hi (s.ok c k X ok) (by intro v; cases y <;> first | rfl | cases hp)) fun v σ H Q h => ?_
  obtain ⟨Z, S, ρ, d, K, R, RE, r, hw, hq⟩ := h
  refine ⟨Z, S, ρ, _, noX, R, RE, hw, fun dx vx Z1 S1 H1 l1 R1 rx kk => ?_, noXk⟩
  refine ⟨Z1, S1, ρ, _, noX, R1, RE.le l1.le, kk, fun dy vy Z2 S2 H2 l2' R2 ry kk => ?_, noXk⟩
  exact ⟨Z2, S2, dx, dy, d, _, R2, RepD.le l2'.le rx, ry, RepD.le (l1.trans l2').le r, kk, fun Z3 S3 H3 l3 R3 q => hq ρ Z3 S3 H3 σ ((l1.trans l2').trans l3) R3 (RE.le ((l1.trans l2').trans l3).le) q⟩
theorem sg_att {x : Expr} {cl i : Nat} {o : CE} (ok : XOk c k X) (ka : KAtt c (rn X) cl i) (ho : SE c X W0 x (wE o)) : PG X (.Attribute x (c.nm i) pos) (LGt c (wG (.att cl i o))) := by
  refine ⟨fun pins s σ H v u Q I ru h => ?_⟩
  obtain ⟨Z, S, ρ, d, K, R, RE, r, hw, hq⟩ := h
  obtain ⟨C0, hC, hcl, hno, hi⟩ := ka
  show wpAny _ _ (do
    let ov ← holding [u] (eval x X.env)
    standAt pos.atName
    holding [u, ov] (setAttr ov (c.nm i) u)
    release [u, ov] []) _ _ _
  refine wpAny_bind (wpAny_holding (wpAny_mono (ho.run pins s σ H (fun vx H1 => ∃ a C dx fs, vx = .ref a ∧ H1 a = some (.ins C dx fs) ∧ C = C0 ∧ fs.length < 1000 ∧ Q σ (upd H1 a (.ins C dx (putF (c.nm i) v fs)))) I ?_) (fun ov s1 hv => ?_) fun _ _ z => z))
  · refine ⟨Z, S, ρ, _, noX, R, RE, hw, fun dx vx Z1 S1 H1 l1 R1 rx kk => ?_, noXk⟩
    obtain ⟨a, fs, rfl, e, hl, kk⟩ := kk
    cases rx
    obtain ⟨_, ob, q, C, dxx, vfs, rfl, hc, rf⟩ := R1.cl a _ e
    rw [hC] at hc; cases hc
    refine ⟨a, C0, dxx, vfs, rfl, q, rfl, by rw [rf.length]; exact hl, ?_⟩
    have rput : RepC c Z1 (.ins cl (putN i d fs)) (.ins C0 dxx (putF (c.nm i) v vfs)) := ⟨C0, dxx, _, rfl, hC, RepF.put hi (RepD.le l1.le r) rf⟩
    exact hq ρ Z1 _ _ σ (l1.trans (Nx.write e _ _)) (R1.write e rput) (RE.le l1.le) kk
  · obtain ⟨vx, H1, I1, rx, a, C, dx, fs, rfl, q, rfl, hl, kk⟩ := hv
    cases rx
    refine wpAny_bind (wpAny_standAt (wpAny_bind (wpAny_holding (setattr_ok I1 q hcl hno hl ru fun s3 I3 => ?_))))
    exact wpAny_release ⟨σ, _, I3, kk⟩
theorem sg_tp {xs : List Expr} {ts : CAL} {kk : Nat} (ok : XOk c k X) (hs : noStar xs = true) (hlen : xs.length = calLen ts) (h : PGs X xs (LGts c (wGs ts))) : PG X (.Tuple xs kk pos) (LGt c (wG (.tp ts))) := by
  obtain ⟨a1, a2⟩ := assign_plain X.env hs
  refine ⟨fun pins s σ H v u Q I ru h' => ?_⟩
  obtain ⟨Z, S, ρ, d, K, R, RE, r, hw, hq⟩ := h'
  cases d with
  | fl l =>
    obtain ⟨hl, hw⟩ := of_eqW hw
    obtain ⟨a, vs, rfl, q, r⟩ := r
    exact (pg_unl (k := kk) (n := xs.length) (pos := pos) ok.calm h a1 a2).run pins s σ H _ u Q I ru ⟨a, vs, rfl, by rw [ok.hK]; exact SqL.le R.fz (.inl (.inl q)), by rw [r.length, hl, hlen], Z, S, ρ, l, K, R, RE, r, hw, hq⟩
  | tup l =>
    obtain ⟨hl, hw⟩ := of_eqW hw
    obtain ⟨a, vs, rfl, q, r⟩ := r
    exact (pg_tup (k := kk) (n := xs.length) (pos := pos) ok.calm h a1 a2).run pins s σ H _ u Q I ru ⟨a, vs, rfl, by rw [ok.hK]; exact SqT.le R.fz q, by rw [r.length, hl, hlen], Z, S, ρ, l, K, R, RE, r, hw, hq⟩
  | _ => exact hw.elim
theorem sgs_nil : PGs X [] (LGts c (wGs .nil)) := PGs.imp pgs_nil fun v σ H Q h => by
  obtain ⟨Z, S, ρ, ds, K, R, RE, r, hw, hq⟩ := h
  cases ds with
  | cons _ _ => exact hw.elim
  | nil =>
  cases r
  exact ⟨rfl, hq ρ Z S H σ (Nx.refl _) R RE hw⟩
theorem sgs_cons {e : Expr} {es : List Expr} {t : CA} {ts : CAL} (h1 : PG X e (LGt c (wG t))) (h2 : PGs X es (LGts c (wGs ts))) (hs : noStar (e :: es) = true) : PGs X (e :: es) (LGts c (wGs (.cons t ts))) := by
  have e1 : assignEach (e :: es) X.env = (false, assign e X.env) :: assignEach es X.env := by
    cases e <;> first | rfl | (simp [noStar] at hs)
  refine PGs.imp (pgs_cons h1 h2 (by rw [e1]; rfl)) fun v σ H Q h => ?_
  obtain ⟨Z, S, ρ, ds, K, R, RE, r, hw, hq⟩ := h
  cases ds with
  | nil => exact hw.elim
  | cons d ds =>
    obtain ⟨x, t, rfl, q, r⟩ := r
    refine ⟨x, t, rfl, Z, S, ρ, d, _, R, RE, q, hw, fun ρ1 Z1 S1 H1 σ1 l1 R1 RE1 kk => ?_⟩
    exact ⟨Z1, S1, ρ1, ds, K, R1, RE1, RepL.le l1.le r, kk, fun ρ2 Z2 S2 H2 σ2 l2' => hq ρ2 Z2 S2 H2 σ2 (l1.trans l2')⟩
theorem swaps_not {v : Expr} {t : Option Expr} {l : Nat} {env : PySem.Env} (h : isLc v = false) : swapsWith v t l env = Pure.pure false := by
  unfold swapsWith
  cases v <;> first | rfl | cases h
theorem swaps_cell {v : Expr} {y : Str} {py : Pos} {l : Nat} {env : PySem.Env} (h : env.scope.names.lookup y = some .cell) : swapsWith v (some (.Name y py)) l env = Pure.pure false := by
  have ky : env.kindOf y = some .cell := h
  unfold swapsWith
  have e : (NameKind.cell == NameKind.local) = false := by decide
  cases v <;> first | rfl | (simp only [ky, show (some NameKind.cell == some NameKind.local) = false from by decide, Bool.and_false, Bool.false_and])
theorem swaps_tg {v t : Expr} {l : Nat} {env : PySem.Env} (h : (match t with
    | .Name _ _ => true
    | _ => false) = false) : swapsWith v (some t) l env = Pure.pure false := by
  unfold swapsWith
  cases v <;> first | rfl | (cases t <;> first | rfl | cases h)
theorem stores_eq {ts vs : List Expr} {k1 k2 : Nat} {p1 p2 : Pos} {env : PySem.Env} : swappedStores [.Tuple ts k1 p1] (.Tuple vs k2 p2) env =
    (if (!(ts.length == 2 || ts.length == 3) || vs.length != ts.length || env.blockKind != .function) = true then Pure.pure none
    else if vs.any starred = true then Pure.pure none
    else if ((nmsOf env.scope ((ts.head?.map (·.pos.line)).getD 0) ts).length != ts.length || (nmsOf env.scope ((ts.head?.map (·.pos.line)).getD 0) ts).eraseDups.length != (nmsOf env.scope ((ts.head?.map (·.pos.line)).getD 0) ts).length) = true then Pure.pure none
    else if vs.all (foldedForSure 8) = true then Pure.pure none
    else if vs.all (constantsAlone 8) = true then (do
      (unsupported "assign.tuple-of-constant-expressions:order-of-the-stores" : Sem Unit)
      Pure.pure (some (nmsOf env.scope ((ts.head?.map (·.pos.line)).getD 0) ts)))
    else Pure.pure (some (nmsOf env.scope ((ts.head?.map (·.pos.line)).getD 0) ts))) := rfl
theorem stores_none {t v : Expr} {env : PySem.Env} (h : plainSt env.scope t v = true) : swappedStores [t] v env = Pure.pure none := by
  cases v with
  | Tuple vs k2 p2 =>
    cases t with
    | Tuple ts k1 p1 =>
      simp only [plainSt, Bool.or_eq_true] at h
      rw [stores_eq]
      split
      · rfl
      · rename_i c1
        split
        · rfl
        · rename_i c2
          split
          · rfl
          · rename_i c3
            have c4 : vs.all (foldedForSure 8) = true := by
              simp only [Bool.or_eq_true, not_or] at c1 c3
              rcases h with (((h | h) | h) | h) | h
              · exact absurd h c1.1.1
              · exact absurd h c1.1.2
              · exact absurd h c2
              · exact absurd h c3.1
              · exact h
            rw [if_pos c4]
    | _ => first | rfl | cases h
  | _ => first | rfl | (cases t <;> rfl)
theorem ss_asg {t v : Expr} {ct : CA} {we : WE} (hs : swapsWith v (some t) pos.line X.env = Pure.pure false) (hw : plainSt X.env.scope t v = true) (hg : PG X t (LGt c (wG ct))) (he : SE c X W v we) (h1 : (assignEach [t] X.env).map (·.2) = [assign t X.env]) :
    SS c X W (.Assign [t] v pos) (fun E ρ S => we ρ S (fun d S1 => wG ct d ρ S1 E.nx) (E.ex ρ)) := PS.imp (ps_asg he hg hs (stores_none hw) h1) fun Dn σ H h =>
  LS.bind (R1 := RepD c) (w1 := we) (kk := fun d E ρ S => wG ct d ρ S E.nx) (t2 := fun x Dn σ H => LGt c (wG ct) x σ H Dn.nx) (fun d v σ H Dn Z S ρ E R RE rd q L => ⟨Z, S, ρ, d, E.nx, R, RE, rd, q, L.nx⟩) h
theorem stores_two {x y : Str} {a b : Expr} {px py pt : Pos} {kt k2 pt2} {env : PySem.Env} (hk : env.scope.kind = .function) (hx : env.scope.names.lookup x = some .local) (hy : env.scope.names.lookup y = some .local) (hl : (py.line == px.line) = true) (hne : x ≠ y)
    (hs : noStar [a, b] = true) (hf : [a, b].all (foldedForSure 8) = false) (hc : [a, b].all (constantsAlone 8) = false) :
    swappedStores [.Tuple [.Name x px, .Name y py] kt pt] (.Tuple [a, b] k2 pt2) env = Pure.pure (some [x, y]) := by
  have st : [a, b].any starred = false := by
    have h1 := (star1 env hs).2
    have ha : starred a = false := by cases a <;> first | rfl | cases hs
    have hb : starred b = false := by cases b <;> first | rfl | cases h1
    simp [ha, hb]
  have nm : nmsOf env.scope px.line [.Name x px, .Name y py] = [x, y] := by
    unfold nmsOf
    simp [hx, hy, eq_of_beq hl]
  have ed : [x, y].eraseDups = [x, y] := by
    have : (y == x) = false := by simp [Ne.symm hne]
    simp [List.eraseDups_cons, this]
  have bk : env.blockKind = .function := by unfold Env.blockKind; rw [hk]; rfl
  have nm' : nmsOf env.scope (([Expr.Name x px, Expr.Name y py].head?.map (·.pos.line)).getD 0) [.Name x px, .Name y py] = [x, y] := nm
  rw [stores_eq, nm', ed, st, hf, hc, bk]
  rfl
theorem ss_par {i j : Nat} {x y : Str} {a b : Expr} {px py pt : Pos} {kt k2 pt2} {wa wb : WE} (ok : XOk c k X) (hk : X.env.scope.kind = .function) (hi : X.N[i]? = some x) (hj : X.N[j]? = some y) (hij : i ≠ j) (hx : X.env.scope.names.lookup x = some .local) (hy : X.env.scope.names.lookup y = some .local)
    (hl : (py.line == px.line) = true) (hne : x ≠ y) (hs : noStar [a, b] = true) (hf : [a, b].all (foldedForSure 8) = false) (hc : [a, b].all (constantsAlone 8) = false) (ha : SE c X W a wa) (hb : SE c X W b wb) :
    SS c X W (.Assign [.Tuple [.Name x px, .Name y py] kt pt] (.Tuple [a, b] k2 pt2) pos) (fun E ρ S => wa ρ S (fun x S1 => wb ρ S1 (fun y S2 => E.nx (sto (sto ρ i x) j y) S2) (E.ex ρ)) (E.ex ρ)) := by
  obtain ⟨s1, s2⟩ := star1 X.env hs
  obtain ⟨s3, s4⟩ := star1 X.env s2
  refine PS.imp (ps_par ok.calm ok.nd hi hj hij hx hy (pa_cons ha (pa_cons hb pa_nil s3) s1) (stores_two hk hx hy hl hne hs hf hc) rfl) fun Dn σ H h => ?_
  obtain ⟨Z, S, ρ, E, R, RE, hw, L⟩ := h
  refine ⟨Z, S, ρ, _, E.ex ρ, R, RE, hw, fun dx vx Z1 S1 H1 l1 R1 rx kk => ?_, L.x RE⟩
  refine ⟨Z1, S1, ρ, _, E.ex ρ, R1, RE.le l1.le, kk, fun dy vy Z2 S2 H2 l2' R2 ry kk => ⟨vx, vy, rfl, ?_⟩, (L.le l1).x (RE.le l1.le)⟩
  refine L.nx _ Z2 S2 H2 _ (l1.trans l2') R2 ?_ kk
  rw [sto_eq, sto_eq]
  exact ((RE.le (l1.trans l2').le).set i (RepD.le l2'.le rx)).set j ry
theorem stores_three {x y z : Str} {a b d : Expr} {px py pz pt : Pos} {kt k2 pt2} {env : PySem.Env} (hk : env.scope.kind = .function) (hx : env.scope.names.lookup x = some .local) (hy : env.scope.names.lookup y = some .local) (hz : env.scope.names.lookup z = some .local) (hl : (py.line == px.line) = true) (hl2 : (pz.line == px.line) = true) (hne : x ≠ y) (hnz : x ≠ z) (hyz : y ≠ z)
    (hs : noStar [a, b, d] = true) (hf : [a, b, d].all (foldedForSure 8) = false) (hc : [a, b, d].all (constantsAlone 8) = false) :
    swappedStores [.Tuple [.Name x px, .Name y py, .Name z pz] kt pt] (.Tuple [a, b, d] k2 pt2) env = Pure.pure (some [x, y, z]) := by
  have st : [a, b, d].any starred = false := by
    have h1 := (star1 env hs).2
    have h2 := (star1 env h1).2
    have ha : starred a = false := by cases a <;> first | rfl | cases hs
    have hb : starred b = false := by cases b <;> first | rfl | cases h1
    have hd : starred d = false := by cases d <;> first | rfl | cases h2
    simp [ha, hb, hd]
  have nm : nmsOf env.scope px.line [.Name x px, .Name y py, .Name z pz] = [x, y, z] := by
    unfold nmsOf
    simp [hx, hy, hz, eq_of_beq hl, eq_of_beq hl2]
  have ed : [x, y, z].eraseDups = [x, y, z] := by
    have h1 : (y == x) = false := by simp [Ne.symm hne]
    have h2 : (z == x) = false := by simp [Ne.symm hnz]
    have h3 : (z == y) = false := by simp [Ne.symm hyz]
    simp [List.eraseDups_cons, h1, h2, h3]
  have bk : env.blockKind = .function := by unfold Env.blockKind; rw [hk]; rfl
  have nm' : nmsOf env.scope (([Expr.Name x px, Expr.Name y py, Expr.Name z pz].head?.map (·.pos.line)).getD 0) [.Name x px, .Name y py, .Name z pz] = [x, y, z] := nm
  rw [stores_eq, nm', ed, st, hf, hc, bk]
  rfl
theorem ss_par3 {i j l : Nat} {x y z : Str} {a b d : Expr} {px py pz pt : Pos} {kt k2 pt2} {wa wb wd : WE} (ok : XOk c k X) (hk : X.env.scope.kind = .function) (hi : X.N[i]? = some x) (hj : X.N[j]? = some y) (hll : X.N[l]? = some z) (hij : i ≠ j) (hil : i ≠ l) (hjl : j ≠ l)
    (hx : X.env.scope.names.lookup x = some .local) (hy : X.env.scope.names.lookup y = some .local) (hz : X.env.scope.names.lookup z = some .local)
    (hl : (py.line == px.line) = true) (hl2 : (pz.line == px.line) = true) (hne : x ≠ y) (hnz : x ≠ z) (hyz : y ≠ z) (hs : noStar [a, b, d] = true) (hf : [a, b, d].all (foldedForSure 8) = false) (hc : [a, b, d].all (constantsAlone 8) = false) (ha : SE c X W a wa) (hb : SE c X W b wb) (hd : SE c X W d wd) :
    SS c X W (.Assign [.Tuple [.Name x px, .Name y py, .Name z pz] kt pt] (.Tuple [a, b, d] k2 pt2) pos) (fun E ρ S => wa ρ S (fun x S1 => wb ρ S1 (fun y S2 => wd ρ S2 (fun z S3 => E.nx (sto (sto (sto ρ i x) j y) l z) S3) (E.ex ρ)) (E.ex ρ)) (E.ex ρ)) := by
  obtain ⟨s1, s2⟩ := star1 X.env hs
  obtain ⟨s3, s4⟩ := star1 X.env s2
  obtain ⟨s5, s6⟩ := star1 X.env s4
  refine PS.imp (ps_par3 ok.calm ok.nd hi hj hll hij hil hjl hx hy hz (pa_cons ha (pa_cons hb (pa_cons hd pa_nil s5) s3) s1) (stores_three hk hx hy hz hl hl2 hne hnz hyz hs hf hc) rfl) fun Dn σ H h => ?_
  obtain ⟨Z, S, ρ, E, R, RE, hw, L⟩ := h
  refine ⟨Z, S, ρ, _, E.ex ρ, R, RE, hw, fun dx vx Z1 S1 H1 l1 R1 rx kk => ?_, L.x RE⟩
  refine ⟨Z1, S1, ρ, _, E.ex ρ, R1, RE.le l1.le, kk, fun dy vy Z2 S2 H2 l2' R2 ry kk => ?_, (L.le l1).x (RE.le l1.le)⟩
  refine ⟨Z2, S2, ρ, _, E.ex ρ, R2, RE.le (l1.trans l2').le, kk, fun dz vz Z3 S3 H3 l3' R3 rz kk => ⟨vx, vy, vz, rfl, ?_⟩, (L.le (l1.trans l2')).x (RE.le (l1.trans l2').le)⟩
  refine L.nx _ Z3 S3 H3 _ ((l1.trans l2').trans l3') R3 ?_ kk
  rw [sto_eq, sto_eq, sto_eq]
  exact (((RE.le ((l1.trans l2').trans l3').le).set i (RepD.le (l2'.trans l3').le rx)).set j (RepD.le l3'.le ry)).set l rz
end
end L3
namespace L3
open PySem PySem.Spec PyProof.Rows L2
theorem ss_setLc {c : Ctx} {k : Nat} {X : Cx} {W : WX} {pos : Pos} {N : List Str} {sc : Scope} {i : Nat} {y : Str} {py p : Pos} {x t ie : Expr} {ifs : List Expr} {scope : Scope} {own : List (Str × Nat)} {m : Bool} {elt : CE} {tg : CT} {it : CI} {cond : CL}
    (ok : XOk c k X) (tk : Takes X W) (hk : X.env.scope.kind = .function) (hN : X.N = N) (hsc : X.env.scope = sc) (hi : N[i]? = some y) (hl : sc.names.lookup y = some .local) (hln : (py.line == p.line) = true)
    (hno : (scope.names.any fun (n, k) => n == y && (k == .local || k == .cell)) = false) (h : mE c.nm N sc (.ListComp x [⟨t, ie, ifs, 0⟩] scope p) (.comp m own elt tg it cond) = true) (kn : knE c k (rn X) (.comp m own elt tg it cond)) :
    SS c X W (.Assign [.Name y py] (.ListComp x [⟨t, ie, ifs, 0⟩] scope p) pos) (fun E ρ S => wE (.comp m own elt tg it cond) ρ S (fun d S1 => wG (.nm i) d ρ S1 E.nx) (E.ex ρ)) := by
  simp only [mE, Bool.and_eq_true, decide_eq_true_eq] at h
  obtain ⟨⟨⟨⟨⟨⟨⟨_, h0⟩, h1⟩, h2⟩, h3⟩, h4⟩, h5⟩, h6⟩ := h
  have hI := sI it _ _ ie X W _ t ok tk hN hsc (tup_of h0) h5 kn.2.1
  have h1 : blkC X.N X.env.scope scope own = true := by rw [hN, hsc]; exact h1
  refine PS.imp (ps_setLc (te := LG c W0 (RepD c) (wE elt)) (tt := LG c W0 SEq (wC' cond)) (g := tgH c.K tg) ok.calm ok.nd (by rw [hN]; exact hi) (by rw [hsc]; exact hl) (sw_true hk (by rw [hsc]; exact hl) hln hno) hI.1 (blkOk_by h1) (fun s H C cl fp => ?_) (fun s H C cl fp => ?_) (fun s H C cl fp => ?_) hI.2) fun Dn σ H hh => ?_
  · exact pg_ct (blk_ok ok) blk_fn (by show mT X.N scope t tg = true; rw [hN]; exact h4)
  · exact sC cond _ _ ifs _ W0 _ (blk_ok ok) takesW0 hN (relSc_eq hsc) h6 kn.2.2
  · exact sE elt _ _ x _ W0 _ (blk_ok ok) takesW0 hN (relSc_eq hsc) h3 kn.1
  · refine comp_ok (K := newL m) (Q := fun v H => gName i v σ H Dn.nx) h2 ?_ fun l S QD Z H vs D Q w a1 a2 a3 a4 a5 a6 a7 a8 a9 => newL_own a1 a2 a3 a4 a5 a6 a7 a8 a9
    exact LS.bind (R1 := RepD c) (w1 := wE (.comp m own elt tg it cond)) (kk := fun d E ρ S => E.nx (sto ρ i d) S) (t2 := fun v Dn σ H => gName i v σ H Dn.nx) (fun d v σ H Dn Z S ρ E R RE rd q L => by
      refine L.nx _ Z S H _ (Nx.refl _) R ?_ q
      rw [sto_eq]
      exact RE.set i rd) hh
theorem ss_setLc2 {c : Ctx} {k : Nat} {X : Cx} {W : WX} {pos : Pos} {N : List Str} {sc : Scope} {i : Nat} {y : Str} {py p : Pos} {x t ie t2 ie2 : Expr} {scope : Scope} {own : List (Str × Nat)} {m : Bool} {elt : CE} {tg tg2 : CT} {it it2 : CI}
    (ok : XOk c k X) (tk : Takes X W) (hk : X.env.scope.kind = .function) (hN : X.N = N) (hsc : X.env.scope = sc) (hi : N[i]? = some y) (hl : sc.names.lookup y = some .local) (hln : (py.line == p.line) = true)
    (hno : (scope.names.any fun (n, k) => n == y && (k == .local || k == .cell)) = false) (h : mE c.nm N sc (.ListComp x [⟨t, ie, [], 0⟩, ⟨t2, ie2, [], 0⟩] scope p) (.comp2 m own elt tg it tg2 it2) = true) (kn : knE c k (rn X) (.comp2 m own elt tg it tg2 it2)) :
    SS c X W (.Assign [.Name y py] (.ListComp x [⟨t, ie, [], 0⟩, ⟨t2, ie2, [], 0⟩] scope p) pos) (fun E ρ S => wE (.comp2 m own elt tg it tg2 it2) ρ S (fun d S1 => wG (.nm i) d ρ S1 E.nx) (E.ex ρ)) := by
  simp only [mE, Bool.and_eq_true, decide_eq_true_eq] at h
  obtain ⟨⟨⟨⟨⟨⟨⟨⟨⟨⟨_, _⟩, h0⟩, h0'⟩, h1⟩, h2⟩, h2', h3⟩, h4⟩, h4'⟩, h5⟩, h5'⟩ := h
  have hI := sI it _ _ ie X W _ t ok tk hN hsc (tup_of h0) h5 kn.2.1
  have h1 : blkC X.N X.env.scope scope own = true := by rw [hN, hsc]; exact h1
  refine PS.imp (ps_setLc2 (te := LG c W0 (RepD c) (wE elt)) (tt := tYes) (tt1 := tYes) (wi1 := LI c W0 (wI it2)) (g := tgH c.K tg) (g1 := tgH c.K tg2) (vs1 := slotsOf tg2) ok.calm ok.nd (by rw [hN]; exact hi) (by rw [hsc]; exact hl) (sw_true hk (by rw [hsc]; exact hl) hln hno) hI.1 (blkOk_by h1) (ctIn_sub h2') (fun s H C cl fp => ?_) (fun s H C cl fp => pts_nil) (fun s H C cl fp => ?_) (fun s H C cl fp => ?_) (fun s H C cl fp => pts_nil) (fun s H C cl fp => ?_) hI.2 (mI_ns h5')) fun Dn σ H hh => ?_
  · exact pg_ct (blk_ok ok) blk_fn (by show mT X.N scope t tg = true; rw [hN]; exact h4)
  · exact (sI it2 _ _ ie2 _ W0 _ t2 (blk_ok ok) takesW0 hN (relSc_eq hsc) (tup_of h0') h5' kn.2.2).1
  · exact pg_ct (blk_ok ok) blk_fn (by show mT X.N scope t2 tg2 = true; rw [hN]; exact h4')
  · exact sE elt _ _ x _ W0 _ (blk_ok ok) takesW0 hN (relSc_eq hsc) h3 kn.1
  · refine comp2_ok (K := newL m) (Q := fun v H => gName i v σ H Dn.nx) h2 (ctIn_self tg2) ?_ fun l S QD Z H vs D Q w a1 a2 a3 a4 a5 a6 a7 a8 a9 => newL_own a1 a2 a3 a4 a5 a6 a7 a8 a9
    exact LS.bind (R1 := RepD c) (w1 := wE (.comp2 m own elt tg it tg2 it2)) (kk := fun d E ρ S => E.nx (sto ρ i d) S) (t2 := fun v Dn σ H => gName i v σ H Dn.nx) (fun d v σ H Dn Z S ρ E R RE rd q L => by
      refine L.nx _ Z S H _ (Nx.refl _) R ?_ q
      rw [sto_eq]
      exact RE.set i rd) hh
theorem lcOnly {c : Ctx} {fnm : Nat → Str} {N : List Str} {sc : Scope} {v : Expr} {e : CE} (h : mE fnm N sc v e = true) (hl : ∃ x g s p, v = .ListComp x g s p) :
    (∃ m own elt tg it cond x t ie ifs s p, e = .comp m own elt tg it cond ∧ v = .ListComp x [⟨t, ie, ifs, 0⟩] s p) ∨ ∃ m own elt tg it tg2 it2 x t ie t2 ie2 s p, e = .comp2 m own elt tg it tg2 it2 ∧ v = .ListComp x [⟨t, ie, [], 0⟩, ⟨t2, ie2, [], 0⟩] s p := by
  obtain ⟨x, g, s, p, rfl⟩ := hl
  cases e <;> simp only [mE] at h <;> first | (exact Bool.noConfusion h) | (cases h; done) | skip
  all_goals split at h
  · rename_i heq
    cases heq
    simp only [Bool.and_eq_true, decide_eq_true_eq] at h
    obtain ⟨⟨⟨⟨⟨⟨⟨rfl, _⟩, _⟩, _⟩, _⟩, _⟩, _⟩, _⟩ := h
    exact .inl ⟨_, _, _, _, _, _, _, _, _, _, _, _, rfl, rfl⟩
  · exact Bool.noConfusion h
  · rename_i heq
    cases heq
    simp only [Bool.and_eq_true, decide_eq_true_eq] at h
    obtain ⟨⟨⟨⟨⟨⟨⟨⟨⟨⟨rfl, rfl⟩, _⟩, _⟩, _⟩, _⟩, _⟩, _⟩, _⟩, _⟩, _⟩ := h
    exact .inr ⟨_, _, _, _, _, _, _, _, _, _, _, _, _, _, rfl, rfl⟩
  · exact Bool.noConfusion h
theorem ss_raz {c : Ctx} {k : Nat} {X : Cx} {W : WX} {y : Str} {cl i : Nat} {z : Expr} {we : WE} {p1 p2 p3 : Pos} (ok : XOk c k X) (tk : Takes X W) (kn : KRaz c (rn X) y cl i) (hg : Gl X y) (hn : okN y = true) (hs : noStar [z] = true) (he : SE c X W z we) :
    SS c X W (.Raise (some (.Call (.Name y p1) [z] [] p2)) none p3) (fun E ρ S => we ρ S (fun d S1 => E.ex ρ (.own cl [(i, d)]) S1) (E.ex ρ)) := by
  obtain ⟨C, g, hC, hm, T⟩ := kn
  refine PS.imp (ps_raise ok.calm tk (pmk_x T hm ok.room (pa_cons he pa_nil (star1 X.env hs).1) hg (ok1 hn) hs)) fun Dn σ H h => ?_
  obtain ⟨Z, S, ρ, E, R, RE, hw, L⟩ := h
  refine ⟨Z, S, ρ, _, _, R, RE, hw, fun d v Z' S' H' l R' rd q => ?_, fun x Z' S' H' cls dd l R' rx q => L.ex ρ x Z' S' H' σ cls dd l R' (RE.le l.le) rx q⟩
  refine ⟨v, rfl, fun a na => ?_⟩
  obtain ⟨le, R2⟩ := R'.frozen na (.xd [(c.nm i, v)])
  exact L.ex ρ (.own cl [(i, d)]) _ S' _ σ _ _ (l.trans (Nx.frozen (R'.new na).2 na _)) R2 ((RE.le l.le).le le) ⟨C, hC, rfl, .inr ⟨a, _, rfl, upd_same, v, [], rfl, RepD.le le rd, rfl⟩⟩ q
section
variable {c : Ctx} {k : Nat} {N : List Str}
mutual
theorem sGm : ∀ (ca : CA) (e : Expr) (X : Cx) (os : Scope), XOk c k X → X.N = N → X.env.scope = os → FnB X os → mA c.nm N os e ca = true → knA c k (rn X) ca → PG X e (LGt c (wG ca))
  | .nm i, e, X, os, ok, hN, hsc, hf, h, kn => by
    unfold mA at h
    split at h
    · rename_i x p
      simp only [Bool.and_eq_true, decide_eq_true_eq] at h
      exact sg_nm ok.o (by rw [hN]; exact h.1) (hf x h.2)
    · exact Bool.noConfusion h
  | .sub s o i, e, X, os, ok, hN, hsc, hf, h, kn => by
    unfold mA at h
    split at h
    · rename_i x y p
      simp only [Bool.and_eq_true] at h
      exact sg_sub ok h.1.1 (sE o _ _ x X W0 os ok takesW0 hN hsc h.1.2 kn.1) (sE i _ _ y X W0 os ok takesW0 hN hsc h.2 kn.2)
    · exact Bool.noConfusion h
  | .att cl i o, e, X, os, ok, hN, hsc, hf, h, kn => by
    unfold mA at h
    split at h
    · rename_i x f p
      simp only [Bool.and_eq_true, decide_eq_true_eq] at h
      obtain ⟨rfl, h2⟩ := h
      exact sg_att ok kn.1 (sE o _ _ x X W0 os ok takesW0 hN hsc h2 kn.2)
    · exact Bool.noConfusion h
  | .tp ts, e, X, os, ok, hN, hsc, hf, h, kn => by
    unfold mA at h
    split at h
    · rename_i xs kk p
      simp only [Bool.and_eq_true, decide_eq_true_eq] at h
      exact sg_tp ok h.1.1 h.1.2 (sGs ts xs X os ok hN hsc hf h.1.1 h.2 kn)
    · exact Bool.noConfusion h
theorem sGs : ∀ (ts : CAL) (es : List Expr) (X : Cx) (os : Scope), XOk c k X → X.N = N → X.env.scope = os → FnB X os → noStar es = true → mAs c.nm N os es ts = true → knAs c k (rn X) ts → PGs X es (LGts c (wGs ts))
  | .nil, es, X, os, ok, hN, hsc, hf, hs, h, kn => by
    unfold mAs at h
    split at h
    · exact sgs_nil
    · exact Bool.noConfusion h
  | .cons t r, es, X, os, ok, hN, hsc, hf, hs, h, kn => by
    unfold mAs at h
    split at h
    · rename_i e es
      simp only [Bool.and_eq_true] at h
      exact sgs_cons (sGm t e X os ok hN hsc hf h.1 kn.1) (sGs r es X os ok hN hsc hf (star1 X.env hs).2 h.2 kn.2) hs
    · exact Bool.noConfusion h
end
mutual
theorem sS : ∀ (cs : CS) (s : Stmt) (X : Cx) (W : WX) (sc : Scope), XOk c k X → Takes X W → PassesOwn (model X.prog X.w) X.A X.env X.xe → sc.kind = .function → X.N = N → X.env.scope = sc → FnB X sc → mS c.nm N sc s cs = true → knS c k (rn X) cs → SS c X W s (wS cs)
  | .expr e, s, X, W, sc, ok, tk, hp, hk, hN, hsc, hf, h, kn => by
    unfold mS at h
    split at h
    · rename_i v p
      simp only [Bool.and_eq_true, Bool.not_eq_true'] at h
      exact ss_expr (sE e _ _ v X W sc ok tk hN hsc h.2 kn) (swaps_not h.1)
    · exact Bool.noConfusion h
  | .asg t e, s, X, W, sc, ok, tk, hp, hk, hN, hsc, hf, h, kn => by
    unfold mS at h
    split at h
    · rename_i tg v p
      simp only [Bool.and_eq_true] at h
      obtain ⟨⟨⟨h1, h2⟩, h3⟩, h4⟩ := h
      have gen : swapsWith v (some tg) p.line X.env = Pure.pure false → SS c X W (.Assign [tg] v p) (wS (.asg t e)) := fun hs => by
        refine ss_asg hs (by rw [hsc]; exact h2) (sGm t tg X sc ok hN hsc hf h3 kn.1) (sE e _ _ v X W sc ok tk hN hsc h4 kn.2) ?_
        cases tg <;> first | rfl | (cases t <;> unfold mA at h3 <;> exact Bool.noConfusion h3)
      by_cases hl : isLc v = true
      · rw [if_pos hl] at h1
        cases tg with
        | Name y py =>
          have h0 : (swapB sc (.Name y py) v || cellT sc (.Name y py)) = true := h1
          by_cases hc : sc.names.lookup y = some .cell
          · exact gen (swaps_cell (by rw [hsc]; exact hc))
          have hsw : swapB sc (.Name y py) v = true := by simpa [cellT, hc] using h0
          clear h0 h1
          cases v with
          | ListComp x g scope pp =>
            simp only [swapB, Bool.and_eq_true, decide_eq_true_eq, Bool.not_eq_true'] at hsw
            rcases lcOnly (c := c) h4 ⟨_, _, _, _, rfl⟩ with ⟨m, own, elt, ct, it, cond, x', t', ie, ifs, s', p', rfl, ev⟩ | ⟨m, own, elt, ct, it, ct2, it2, x', t', ie, t2', ie2, s', p', rfl, ev⟩
            · cases ev
              cases t with
              | nm i =>
                unfold mA at h3; simp only [Bool.and_eq_true, decide_eq_true_eq] at h3
                exact ss_setLc ok tk (by rw [hsc]; exact hk) hN hsc h3.1 hsw.1.1 hsw.1.2 hsw.2 h4 kn.2
              | _ => unfold mA at h3; exact Bool.noConfusion h3
            · cases ev
              cases t with
              | nm i =>
                unfold mA at h3; simp only [Bool.and_eq_true, decide_eq_true_eq] at h3
                exact ss_setLc2 ok tk (by rw [hsc]; exact hk) hN hsc h3.1 hsw.1.1 hsw.1.2 hsw.2 h4 kn.2
              | _ => unfold mA at h3; exact Bool.noConfusion h3
          | _ => first | (exact Bool.noConfusion hsw) | (cases hl)
        | _ => exact gen (swaps_tg rfl)
      · exact gen (swaps_not (by simpa using hl))
    · exact Bool.noConfusion h
  | .par2 i j a b, s, X, W, sc, ok, tk, hp, hk, hN, hsc, hf, h, kn => by
    unfold mS at h
    split at h
    · rename_i x px y py _ _ u v _ _ p
      simp only [Bool.and_eq_true, decide_eq_true_eq, Bool.not_eq_true', locL] at h
      obtain ⟨⟨⟨⟨⟨⟨⟨⟨⟨⟨⟨h1, h2⟩, h3⟩, h4⟩, h5⟩, h6⟩, h7⟩, h8⟩, h9⟩, h10⟩, h11⟩, h12⟩ := h
      exact ss_par ok (by rw [hsc]; exact hk) (by rw [hN]; exact h1) (by rw [hN]; exact h2) h3 (by rw [hsc]; exact h4) (by rw [hsc]; exact h5) h6 h7 h8 h9 h10 (sE a _ _ u X W sc ok tk hN hsc h11 kn.1) (sE b _ _ v X W sc ok tk hN hsc h12 kn.2)
    · exact Bool.noConfusion h
  | .par3 i j l a b d, s, X, W, sc, ok, tk, hp, hk, hN, hsc, hf, h, kn => by
    unfold mS at h
    split at h
    · rename_i x px y py z pz _ _ u v w _ _ p
      simp only [Bool.and_eq_true, decide_eq_true_eq, Bool.not_eq_true', locL] at h
      obtain ⟨⟨⟨⟨⟨⟨⟨⟨⟨⟨⟨⟨⟨⟨⟨h1, h2⟩, h3⟩, h4⟩, h5⟩, h6⟩, ⟨⟨g1, g2⟩, g3⟩⟩, h7⟩, h8⟩, h9⟩, h10⟩, h11⟩, ⟨⟨f1, f2⟩, f3⟩⟩, e1⟩, e2⟩, e3⟩ := h
      exact ss_par3 ok (by rw [hsc]; exact hk) (by rw [hN]; exact h1) (by rw [hN]; exact h2) (by rw [hN]; exact h3) h4 h5 h6 (by rw [hsc]; exact g1) (by rw [hsc]; exact g2) (by rw [hsc]; exact g3) h7 h8 h9 h10 h11 f1 f2 f3 (sE a _ _ u X W sc ok tk hN hsc e1 kn.1) (sE b _ _ v X W sc ok tk hN hsc e2 kn.2.1) (sE d _ _ w X W sc ok tk hN hsc e3 kn.2.2)
    · exact Bool.noConfusion h
  | .ret e, s, X, W, sc, ok, tk, hp, hk, hN, hsc, hf, h, kn => by
    unfold mS at h
    split at h
    · rename_i v p
      exact ss_ret (sE e _ _ v X W sc ok tk hN hsc h kn)
    · exact Bool.noConfusion h
  | .retN, s, X, W, sc, ok, tk, hp, hk, hN, hsc, hf, h, kn => by
    unfold mS at h
    split at h
    · exact ss_retN
    · exact Bool.noConfusion h
  | .if_ t a b, s, X, W, sc, ok, tk, hp, hk, hN, hsc, hf, h, kn => by
    unfold mS at h
    split at h
    · rename_i x y z p
      simp only [Bool.and_eq_true] at h
      exact ss_if (sQ t _ _ x X W sc ok tk hN hsc h.1.1 kn.1).1 (sB a y X W sc ok tk hp hk hN hsc hf h.1.2 kn.2.1) (sB b z X W sc ok tk hp hk hN hsc hf h.2 kn.2.2)
    · exact Bool.noConfusion h
  | .for_ t it b, s, X, W, sc, ok, tk, hp, hk, hN, hsc, hf, h, kn => by
    unfold mS at h
    split at h
    · rename_i tg ie body p
      simp only [Bool.and_eq_true] at h
      have hI := sI it _ _ ie X W sc tg ok tk hN hsc (tup_of h.1.1.1) h.1.2 kn.1
      exact ss_for ok hp hI.1 (pg_ct ok hf (by rw [hN]; exact h.1.1.2)) (sB b body X W sc ok tk hp hk hN hsc hf h.2 kn.2) hI.2
    · exact Bool.noConfusion h
  | .whl t b, s, X, W, sc, ok, tk, hp, hk, hN, hsc, hf, h, kn => by
    unfold mS at h
    split at h
    · rename_i x body p
      simp only [Bool.and_eq_true] at h
      exact ss_whl hp (sQ t _ _ x X W sc ok tk hN hsc h.1 kn.1).1 (sB b body X W sc ok tk hp hk hN hsc hf h.2 kn.2)
    · exact Bool.noConfusion h
  | .pass, s, X, W, sc, ok, tk, hp, hk, hN, hsc, hf, h, kn => by
    unfold mS at h
    split at h
    · exact ss_pass
    · exact Bool.noConfusion h
  | .raise_ _ _ _, s, X, W, sc, ok, tk, hp, hk, hN, hsc, hf, h, kn => PS.imp ps_never fun Dn σ H h => by obtain ⟨_, _, _, _, _, _, hw, _⟩ := h; exact hw.elim
  | .raz y cl i e, s, X, W, sc, ok, tk, hp, hk, hN, hsc, hf, h, kn => by
    unfold mS at h
    split at h
    · rename_i x p1 z p2 p3
      simp only [Bool.and_eq_true, decide_eq_true_eq] at h
      obtain ⟨⟨⟨⟨rfl, h2⟩, h3⟩, h4⟩, h5⟩ := h
      subst hsc
      exact ss_raz ok tk kn.1 (gl_of h2) h3 h4 (sE e _ _ z X W _ ok tk hN rfl h5 kn.2)
    · exact Bool.noConfusion h
  | .nev, s, X, W, sc, ok, tk, hp, hk, hN, hsc, hf, h, kn => PS.imp ps_never fun Dn σ H h => by obtain ⟨_, _, _, _, _, _, hw, _⟩ := h; exact hw.elim
theorem sB : ∀ (cb : CB) (ss : List Stmt) (X : Cx) (W : WX) (sc : Scope), XOk c k X → Takes X W → PassesOwn (model X.prog X.w) X.A X.env X.xe → sc.kind = .function → X.N = N → X.env.scope = sc → FnB X sc → mB c.nm N sc ss cb = true → knB c k (rn X) cb → SB c X W ss (wB cb)
  | .nil, ss, X, W, sc, ok, tk, hp, hk, hN, hsc, hf, h, kn => by
    unfold mB at h
    split at h
    · exact sb_nil
    · exact Bool.noConfusion h
  | .cons s r, ss, X, W, sc, ok, tk, hp, hk, hN, hsc, hf, h, kn => by
    unfold mB at h
    split at h
    · rename_i x xs
      simp only [Bool.and_eq_true] at h
      have hc := sb_cons (sS s x X W sc ok tk hp hk hN hsc hf h.1 kn.1) (sB r xs X W sc ok tk hp hk hN hsc hf h.2 kn.2)
      exact hc
    · exact Bool.noConfusion h
  | .frz i r, ss, X, W, sc, ok, tk, hp, hk, hN, hsc, hf, h, kn => by
    unfold mB at h
    refine PSs.imp (sB r ss X W sc ok tk hp hk hN hsc hf h kn) fun Dn σ H hh => ?_
    obtain ⟨Z, S, ρ, E, R, RE, hw, L⟩ := hh
    unfold wB at hw
    unfold frzW at hw
    split at hw
    · rename_i d hd
      obtain ⟨d', F, S', f1, f2, hw⟩ := hw
      rw [lk_eq] at hd
      have hd' : ρ[i]? = some (some d) := by
        cases e : ρ[i]? with
        | none => rw [e] at hd; cases hd
        | some x => rw [e] at hd; simp at hd; rw [hd]
      obtain ⟨v, hv, rd⟩ := RE.at_ i d hd'
      refine ⟨zF F Z H, S', sto ρ i d', E, R.fzS f2, ?_, hw, L.le (Nx.fzS R f2)⟩
      rw [sto_eq]
      have := (RE.le (zF_le (F := F) R)).set i (Fz.rep R f1 rd)
      have e : σ.set i (some v) = σ := by
        apply List.ext_getElem?
        intro j
        rw [List.getElem?_set]
        split
        · rename_i z; subst z
          rw [hv]
          split
          · rfl
          · rename_i z
            have := (List.getElem?_eq_some_iff.mp hv).1
            exact absurd this z
        · rfl
      rw [e] at this
      exact this
    · exact hw.elim
end
end
end L3
namespace L3
open PySem PySem.Spec PyProof.Rows L2
def startD (n : Nat) (ds : List D) : Env := ds.map some ++ List.replicate (n - ds.length) none
theorem start_rep {c : Ctx} {Z : Hp} {ds : List D} {vs : List V} {N : List Str} (r : RepL c Z ds vs) : REnv c Z (startD N.length ds) (L2.start N vs) := by
  have hl := r.length
  refine ⟨by simp [startD, L2.start, hl], fun i d e => ?_⟩
  unfold startD at e
  unfold L2.start
  by_cases hi : i < ds.length
  · rw [List.getElem?_append_left (by simpa using hi)] at e
    rw [List.getElem?_append_left (by simpa [hl] using hi)]
    rw [List.getElem?_map] at e ⊢
    cases q : ds[i]? with
    | none => rw [q] at e; cases e
    | some d' =>
      rw [q] at e
      simp at e
      subst e
      obtain ⟨v, h1, h2⟩ := r.get q
      exact ⟨v, by rw [h1]; rfl, h2⟩
  · rw [List.getElem?_append_right (by simpa using hi), List.getElem?_replicate] at e
    split at e <;> cases e
def bodyW (n : Nat) (cb : CB) : DSp := fun ds S Q E => wB cb { nx := fun _ S1 => ∃ S2, Sub S2 S1 ∧ Q .non S2, rt := fun d S1 => ∃ d' F S2, Fz S1 F d d' ∧ FzS S1 F S2 ∧ Q d' S2, ex := fun _ x S1 => ∃ S2, Sub S2 S1 ∧ E x S2 } (startD n ds) S
theorem def_ok {P : Program} {w : World} {K : PySem.W.Frag} {mg : Str → Option Value} {base : Heap} {c : Ctx} {x qual : Str} {params : Arguments} {body : List Stmt} {scope : Scope} {dvs : List V} {kws : List (Str × V)} {f : Addr} {fd : FuncData} {N ps : List Str} {k : Nat} {sp : DSp} {cb : CB}
    (hK : c.K = K) (hmg : c.mg = mg) (hpin : c.pin = none) (hlam : c.lam = none) (F : FunD K x qual params body scope dvs kws f fd) (S : FnScope N ps scope) (m : mB c.nm N scope body cb = true) (kn : knB c k ⟨P, w, K, mg, base⟩ cb)
    (len : ∀ ds S Q E, sp ds S Q E → ds.length = ps.length) (h : ∀ ds S Q E, sp ds S Q E → bodyW N.length cb ds S Q E) : FnOk P w K mg base (L2.CX P w) (k + 1) f fd ps (liftSp c sp) := by
  refine funD_ok F S (fun vs H Q E q => ?_) fun cdv A outer s H vs Q E hr hsp => ?_
  · obtain ⟨Z, St, ds, QD, ED, R, r, q, _⟩ := q
    rw [r.length]; exact len _ _ _ _ q
  · refine ⟨LS c (fun cls d _ H => E cls d H) (wB cb), ?_, ?_⟩
    · refine sB cb body (cxOf (L2.CX P w) P w K mg base N qual scope f cdv A outer s H E) _ scope ⟨hK.symm, hmg.symm, rfl, hr, S.nd, hpin, fun t e => (by rw [hlam] at e; cases e), ⟨rfl, rfl⟩, TopF.deeper S.gen S.co rfl rfl⟩ (takes_of rfl rfl rfl rfl) (passes_of rfl) S.kind rfl rfl (fun x hx => ⟨loc_of hx, .inl rfl⟩) m kn
    · obtain ⟨Z, St, ds, QD, ED, R, r, q, hq, hx⟩ := hsp
      refine ⟨Z, St, _, _, R, start_rep r, h _ _ _ _ q, fun ρ' Z' S' H' σ' l R' _ z => ?_, fun d v Z' S' H' l R' rd z => ?_, fun ρ' y Z' S' H' σ' cls dd l R' _ rx z => ?_⟩
      · obtain ⟨S2, sb, z⟩ := z
        exact hq .non .non Z' S2 H' (l.trans (Nx.sub sb)) (R'.sub sb) rfl z
      · obtain ⟨d', F, S2, f1, f2, z⟩ := z
        exact hq d' v _ S2 H' (l.trans (Nx.fzS R' f2)) (R'.fzS f2) (Fz.rep R' f1 rd) z
      · obtain ⟨S2, sb, z⟩ := z
        exact hx y Z' S2 H' cls dd (l.trans (Nx.sub sb)) (R'.sub sb) rx z
theorem fun_ok {R : Rn} {c : Ctx} {x : Str} {f : Addr} {fd : FuncData} {ps : List Str} {k : Nat} {sp : DSp} (F : FnOk R.prog R.w R.K R.mg R.base (L2.CX R.prog R.w) k f fd ps (liftSp c sp)) (hm : R.mg x = some (.ref f)) (hk : PySem.W.keepIn R.K (.ref f) = true) (hb : Binds R.K fd ps []) : KFun c k R x sp :=
  ⟨f, fd, ps, [], [], _, F, hm, hk, hb, .nil, fun vs H Q E q => by rw [List.append_nil]; exact q⟩
theorem KFun.mono {R : Rn} {c : Ctx} {x : Str} {j k : Nat} {sp : DSp} (h : KFun c j R x sp) (l : j ≤ k) : KFun c k R x sp := by
  obtain ⟨a, fd, ps, ds, dvs, spH, F, h⟩ := h
  exact ⟨a, fd, ps, ds, dvs, spH, F.mono l, h⟩
end L3
namespace L3
open PySem PySem.Spec PyProof.Rows L2
def wOpt {α : Type} (o : Option α) (k : α → Prop) : Prop := match o with
  | some a => k a
  | none => False
theorem wOpt_some {α : Type} {o : Option α} {k : α → Prop} {a : α} (h : o = some a) (q : k a) : wOpt o k := by rw [h]; exact q
theorem of_wOpt {α : Type} {o : Option α} {k : α → Prop} (h : wOpt o k) : ∃ a, o = some a ∧ k a := by
  cases o with
  | none => exact h.elim
  | some a => exact ⟨a, rfl, h⟩
def wSeq (d : D) (S : Store) (k : List D → Prop) : Prop := match d with
  | .tup l => k l
  | .fl l => k l
  | .kl l => k l
  | .ref a => ∃ l, S a = some (.lst l) ∧ k l
  | _ => False
theorem of_wSeq {d : D} {S : Store} {k : List D → Prop} (h : wSeq d S k) : ∃ l, seqOf S d = some l ∧ k l := by
  cases d with
  | tup l => exact ⟨l, rfl, h⟩
  | fl l => exact ⟨l, rfl, h⟩
  | kl l => exact ⟨l, rfl, h⟩
  | ref a => obtain ⟨l, e, q⟩ := h; exact ⟨l, by simp [seqOf, lstOf, e], q⟩
  | _ => exact h.elim
def wLst (d : D) (S : Store) (k : List D → Prop) : Prop := match d with
  | .fl l => k l
  | .ref a => ∃ l, S a = some (.lst l) ∧ k l
  | _ => False
theorem of_wLst {c : Ctx} {Z : Hp} {S : Store} {H : Hp} {d : D} {v : V} {k : List D → Prop} (R : Rel c Z S H) (r : RepD c Z d v) (h : wLst d S k) : ∃ a vs l, v = .ref a ∧ H a = some (.lst vs) ∧ RepL c Z l vs ∧ k l := by
  cases d with
  | fl l => obtain ⟨a, vs, rfl, q, r⟩ := r; exact ⟨a, vs, l, rfl, R.fz _ _ q, r, h⟩
  | ref a =>
    cases r
    obtain ⟨l, e, q⟩ := h
    obtain ⟨_, o, q', vs, rfl, r⟩ := R.cl a _ e
    exact ⟨a, vs, l, rfl, q', r, q⟩
  | _ => exact h.elim
section
variable {c : Ctx} {k : Nat} {X : Cx}
def wI2 (f : Int → Int → QE → Store → Prop) : D → D → Store → QE → Prop := fun x y S Q => match x, y with
  | .int a, .int b => f a b Q S
  | _, _ => False
theorem i2_ok {op : Value → Value → Sem Value} {C : Int → Int → Prop} {g : Int → Int → V} {g' : Int → Int → D} (h : OpR X op (rI C g)) (hg : ∀ a b Z, RepD c Z (g' a b) (g a b)) : OpR X op (l2 c (wI2 fun a b Q S => C a b ∧ Q (g' a b) S)) := by
  intro pins s σ H x y v u Q I rx ry hh
  obtain ⟨Z, S, dx, dy, QD, R, r1, r2, hw, hq⟩ := hh
  cases dx with
  | int a =>
    cases dy with
    | int b =>
      cases r1; cases r2
      exact h pins s σ H _ _ v u Q I rx ry ⟨a, b, rfl, rfl, hw.1, hq.go R (hg a b Z) hw.2⟩
    | _ => exact hw.elim
  | _ => exact hw.elim
theorem i2_ok0 {op : Value → Value → Sem Value} {g : Int → Int → V} {g' : Int → Int → D} (h : OpR X op (rI0 g)) (hg : ∀ a b Z, RepD c Z (g' a b) (g a b)) : OpR X op (l2 c (wI2 fun a b Q S => Q (g' a b) S)) := by
  intro pins s σ H x y v u Q I rx ry hh
  obtain ⟨Z, S, dx, dy, QD, R, r1, r2, hw, hq⟩ := hh
  cases dx with
  | int a =>
    cases dy with
    | int b =>
      cases r1; cases r2
      exact h pins s σ H _ _ v u Q I rx ry ⟨a, b, rfl, rfl, hq.go R (hg a b Z) hw⟩
    | _ => exact hw.elim
  | _ => exact hw.elim
end
def oSub : Op2 := ⟨.Sub, _, fun c k X ok => i2_ok0 (g' := fun i j => .int (i - j)) op_sub fun _ _ _ => rfl⟩
def oMod : Op2 := ⟨.Mod, _, fun c k X ok => i2_ok (g' := fun i j => .int (i.fmod j)) op_modN fun _ _ _ => rfl⟩
def fdOk (i j : Int) : Prop := j ≠ 0 ∧ j.natAbs.log2 < 9000
theorem op_fdivG {X : Cx} : OpR X (binaryOp .FloorDiv) (rI fdOk fun i j => .int (i.fdiv j)) := opI fun i j _ _ _ _ _ hc q => floordiv_int hc.1 q (.inl (PyProof.noPylong_of_log2 hc.2))
def oFdiv : Op2 := ⟨.FloorDiv, _, fun c k X ok => i2_ok (g' := fun i j => .int (i.fdiv j)) op_fdivG fun _ _ _ => rfl⟩
def mulOk (i j : Int) : Prop := CMul i j ∨ CMulW i j
theorem mulOk.ok {i j : Int} (h : mulOk i j) : IntMulOk i j := h.elim CMul.ok CMulW.ok
theorem op_mulG {X : Cx} : OpR X (binaryOp .Mult) (rI mulOk fun i j => .int (i * j)) := opI fun _ _ _ _ _ _ _ hc q => mul_int q hc.ok
def oMul : Op2 := ⟨.Mult, _, fun c k X ok => i2_ok (g' := fun i j => .int (i * j)) op_mulG fun _ _ _ => rfl⟩
def oPow : Op2 := ⟨.Pow, _, fun c k X ok => i2_ok (g' := fun i j => .int (i ^ j.toNat)) op_pow fun _ _ _ => rfl⟩
def cLt : Cm2 := ⟨.Lt, _, fun c k X ok => i2_ok0 (g' := fun i j => .bl (decide (i < j))) op_lt fun _ _ _ => rfl⟩
def cLe : Cm2 := ⟨.LtE, _, fun c k X ok => i2_ok0 (g' := fun i j => .bl (decide (i ≤ j))) op_le fun _ _ _ => rfl⟩
def cGt : Cm2 := ⟨.Gt, _, fun c k X ok => i2_ok0 (g' := fun i j => .bl (decide (j < i))) op_gt fun _ _ _ => rfl⟩
def cGe : Cm2 := ⟨.GtE, _, fun c k X ok => i2_ok0 (g' := fun i j => .bl (decide (j ≤ i))) op_ge fun _ _ _ => rfl⟩
def wNeg : D → Store → QE → Prop := fun x S Q => match x with
  | .int i => Q (.int (-i)) S
  | _ => False
def uNeg : Un1 := ⟨.USub, wNeg, fun c k X ok => by
  intro pins s σ H x v Q I rx hh
  obtain ⟨Z, S, dx, QD, R, r1, hw, hq⟩ := hh
  cases dx with
  | int a => cases r1; exact un_neg pins s σ H _ v Q I rx ⟨a, rfl, hq.go R (d := .int (-a)) rfl hw⟩
  | _ => exact hw.elim⟩
def wAdd (m : Bool) : D → D → Store → QE → Prop := fun x y S Q => match x, y with
  | .int a, .int b => Q (.int (a + b)) S
  | .str a, .str b => a.length + b.length ≤ big ∧ Q (.str (a ++ b)) S
  | .tup a, .tup b => a.length + b.length ≤ big ∧ Q (.tup (a ++ b)) S
  | x, y => wLst x S fun a => wLst y S fun b => a.length + b.length ≤ big ∧ newL m (a ++ b) S Q
theorem rep_nil {c : Ctx} {Z : Hp} {l : List D} (r : RepL c Z l []) : l = [] := by
  cases l with
  | nil => rfl
  | cons _ _ => obtain ⟨_, _, e, _⟩ := r; cases e
def oAdd (m : Bool) : Op2 := ⟨.Add, wAdd m, fun c k X ok => by
  intro pins s σ H x y v u Q I rx ry hh
  obtain ⟨Z, S, dx, dy, QD, R, r1, r2, hw, hq⟩ := hh
  have lists : (wLst dx S fun a => wLst dy S fun b => a.length + b.length ≤ big ∧ newL m (a ++ b) S QD) → wpAny (model X.prog X.w) X.A (binaryOp .Add v u) (EP X pins σ Q) X.xe s := fun hw => by
    obtain ⟨a, vs, l, rfl, ha, ra, hw⟩ := of_wLst R r1 hw
    obtain ⟨b, us, l', rfl, hb, rb, hw⟩ := of_wLst R r2 hw
    refine op_cat pins s σ H _ _ v u Q I rx ry ⟨a, b, vs, us, rfl, rfl, ha, hb, by rw [ra.length, rb.length]; exact big_le hw.1, fun p hp => ?_⟩
    exact newL_ok hw.2 R hq (RepL.append ra rb) hp
  cases dx with
  | int a =>
    cases dy with
    | int b => cases r1; cases r2; exact op_add pins s σ H _ _ v u Q I rx ry ⟨a, b, rfl, rfl, hq.go R (d := .int (a + b)) rfl hw⟩
    | _ => exact lists hw
  | str a =>
    cases dy with
    | str b => cases r1; cases r2; exact op_add_str pins s σ H _ _ v u Q I rx ry ⟨a, b, rfl, rfl, big_le hw.1, hq.go R (d := .str (a ++ b)) rfl hw.2⟩
    | _ => exact lists hw
  | tup a =>
    cases dy with
    | tup b =>
      obtain ⟨p, vs, rfl, q1, ra⟩ := r1
      obtain ⟨p', us, rfl, q2, rb⟩ := r2
      have q1' : SqT X.K H p vs := by rw [ok.hK]; exact SqT.le R.fz q1
      have q2' : SqT X.K H p' us := by rw [ok.hK]; exact SqT.le R.fz q2
      refine op_catA pins s σ H _ _ v u Q I rx ry ⟨p, p', vs, us, rfl, rfl, q1', q2', by rw [ra.length, rb.length]; exact big_le hw.1, fun e => ?_, fun e1 e2 => ?_, fun _ _ a0 ha0 => ?_⟩
      · subst e
        have := rep_nil ra
        subst this
        exact hq.go R (d := .tup b) ⟨p', us, rfl, q2, rb⟩ hw.2
      · subst e2
        have := rep_nil rb
        subst this
        have hw2 := hw.2
        rw [List.append_nil] at hw2
        exact hq.go R (d := .tup a) ⟨p, vs, rfl, q1, ra⟩ hw2
      · obtain ⟨h1, h2⟩ := R.frozen ha0 (.tup (vs ++ us))
        exact hq (.tup (a ++ b)) (.ref a0) _ S _ (Nx.frozen (R.new ha0).2 ha0 _) h2 ⟨a0, vs ++ us, rfl, SqT.of upd_same, RepL.le h1 (RepL.append ra rb)⟩ hw.2
    | _ => exact lists hw
  | _ => exact lists hw⟩
def wIx : D → D → Store → QE → Prop := fun x y S Q => match y with
  | .int i => (match x with
    | .str z => z.length ≤ big ∧ wOpt (atI z.cps.toList i) fun ch => Q (.str ⟨#[ch]⟩) S
    | .di l => wOpt (l.lookup i) fun d => Q d S
    | x => wSeq x S fun l => wOpt (atI l i) fun d => Q d S)
  | .str z => (match x with
    | .dk l => wOpt (l.lookup z) fun d => Q d S
    | .ref a => ∃ l, S a = some (.dct l) ∧ wOpt (l.lookup z) fun d => Q d S
    | _ => False)
  | _ => False
theorem XO0.uu {c : Ctx} {X : Cx} (ok : XO0 c X) : X.A.units + 1 < cLine := by have := ok.un; omega
theorem ix_dict {X : Cx} (hu : X.A.units + 1 < cLine) : IxR X (fun x y H Q => ∃ a v, x = .ref a ∧ DGet H a y (some v) ∧ Q v H) := by
  intro value slice pins s σ H x y v u Q I rx ry h hsub
  obtain ⟨a, w, rfl, g, q⟩ := h
  cases (show v = Value.ref a from rx)
  have hT := dict_typeIs I g
  unfold subscriptTail
  refine wpAny_bind ?_
  rw [getitemInPython_of_ne hT.not_modules]
  refine wpAny_bind (wpAny_specialOf hT PySem.F.slot_dict_getitem.lookup ?_)
  have fin : wpAny (model X.prog X.w) X.A (subscripted slice false (.ref a) u) (fun r s3 => wpAny (model X.prog X.w) X.A (letTemporaryGo value (.ref a) r >>= fun _ => pure r) (EP X pins σ Q) X.xe s3) X.xe s := by
    rw [hsub]
    exact wpAny_operating (wpAny_mono (d_getItem hu I g ry fun w' s3 I3 rw' => ⟨w, H, I3, rw', q⟩) (fun r s3 h3 => wpAny_bind (wpAny_letTemporaryGo (wpAny_pure h3))) fun _ _ x => x)
  first
    | exact wpAny_pure (wpAny_bind fin)
    | exact wpAny_bind (wpAny_pure (wpAny_bind fin))
    | exact wpAny_bind fin
theorem RepK.find {c : Ctx} {Z : Hp} {z : Str} {d : D} : ∀ {l : List (Str × D)} {kvs : List (Key × V)}, RepK c Z l kvs → l.lookup z = some d → ∃ v, valV kvs (Sum.inr z) = some v ∧ RepD c Z d v
  | [], _, _, h => by cases h
  | (j, x) :: l, _, r, h => by
    obtain ⟨v, t, rfl, q, r⟩ := r
    rw [List.lookup_cons] at h
    by_cases e : z = j
    · subst e
      simp at h
      subst h
      exact ⟨v, valV_pos (p := ((Sum.inr z : Key), v)) rfl, q⟩
    · have : (z == j) = false := beq_eq_false_iff_ne.mpr e
      rw [this] at h
      obtain ⟨v', h1, h2⟩ := RepK.find r h
      refine ⟨v', ?_, h2⟩
      rw [valV_neg (p := ((Sum.inr j : Key), v)) (fun q => e (Sum.inr.inj q).symm)]
      exact h1
theorem RepI.find {c : Ctx} {Z : Hp} {z : Int} {d : D} : ∀ {l : List (Int × D)} {kvs : List (Key × V)}, RepI c Z l kvs → l.lookup z = some d → ∃ v, valV kvs (Sum.inl z) = some v ∧ RepD c Z d v
  | [], _, _, h => by cases h
  | (j, x) :: l, _, r, h => by
    obtain ⟨v, t, rfl, q, r⟩ := r
    rw [List.lookup_cons] at h
    by_cases e : z = j
    · subst e
      simp at h
      subst h
      exact ⟨v, valV_pos (p := ((Sum.inl z : Key), v)) rfl, q⟩
    · have : (z == j) = false := beq_eq_false_iff_ne.mpr e
      rw [this] at h
      obtain ⟨v', h1, h2⟩ := RepI.find r h
      refine ⟨v', ?_, h2⟩
      rw [valV_neg (p := ((Sum.inl j : Key), v)) (fun q => e (Sum.inl.inj q).symm)]
      exact h1
theorem RepL.at {c : Ctx} {Z : Hp} {l : List D} {vs : List V} {i : Int} {d : D} (r : RepL c Z l vs) (h : atI l i = some d) : ∃ v, atI vs i = some v ∧ RepD c Z d v := by
  unfold atI at h ⊢
  rw [r.length]
  cases e : ixN l.length i with
  | none => rw [e] at h; cases h
  | some j => rw [e] at h; exact r.get h
def iAt : Ix2 := ⟨wIx, fun c k X ok => by
  intro ve se pins s σ H x y v u Q I rx ry hh
  obtain ⟨Z, S, dx, dy, QD, R, r1, r2, hw, hq⟩ := hh
  cases dy with
  | int i =>
    cases r2
    have sq : (wSeq dx S fun l => wOpt (atI l i) fun d => QD d S) → rIx X.K x (.int i) H Q := fun hw => by
      obtain ⟨l, e, hw⟩ := of_wSeq hw
      obtain ⟨d, e2, hw⟩ := of_wOpt hw
      obtain ⟨a, vs, rfl, q, r⟩ := seqOf_ok R r1 e
      obtain ⟨w, e3, rw'⟩ := r.at e2
      rcases q with q | q
      · exact .inl ⟨a, vs, i, w, rfl, rfl, by rw [ok.hK]; exact q, e3, hq.go R rw' hw⟩
      · exact .inr (.inl ⟨a, vs, i, w, rfl, rfl, by rw [ok.hK]; exact q, e3, hq.go R rw' hw⟩)
    cases dx with
    | str z =>
      cases r1
      obtain ⟨ch, e2, hw2⟩ := of_wOpt hw.2
      exact ix_seq ve se pins s σ H _ _ v u Q I rx ry (.inr (.inr ⟨z, i, ch, rfl, rfl, big_le hw.1, e2, hq.go R (d := .str ⟨#[ch]⟩) rfl hw2⟩))
    | di l =>
      obtain ⟨d, e, hw⟩ := of_wOpt hw
      obtain ⟨a, kvs, rfl, q, r⟩ := r1
      obtain ⟨w, e2, rw'⟩ := r.find e
      exact ix_dict ok.uu ve se pins s σ H _ _ v u Q I rx ry ⟨a, w, rfl, .inl ⟨kvs, Sum.inl i, .inl (R.fz _ _ q), rfl, e2.symm⟩, hq.go R rw' hw⟩
    | _ => exact ix_seq ve se pins s σ H _ _ v u Q I rx ry (sq hw)
  | str z =>
    cases r2
    cases dx with
    | dk l =>
      obtain ⟨d, e, hw⟩ := of_wOpt hw
      obtain ⟨a, kvs, rfl, q, r⟩ := r1
      obtain ⟨w, e2, rw'⟩ := r.find e
      exact ix_dict ok.uu ve se pins s σ H _ _ v u Q I rx ry ⟨a, w, rfl, .inl ⟨kvs, Sum.inr z, .inl (R.fz _ _ q), rfl, e2.symm⟩, hq.go R rw' hw⟩
    | ref a =>
      cases r1
      obtain ⟨l, ea, hw⟩ := hw
      obtain ⟨d, e, hw⟩ := of_wOpt hw
      obtain ⟨_, o, q, kvs, rfl, r⟩ := R.cl a _ ea
      obtain ⟨w, e2, rw'⟩ := r.find e
      exact ix_dict ok.uu ve se pins s σ H _ _ v u Q I rx ry ⟨a, w, rfl, .inl ⟨kvs, Sum.inr z, .inl q, rfl, e2.symm⟩, hq.go R rw' hw⟩
    | _ => exact hw.elim
  | _ => exact hw.elim⟩
def cutD (l : List D) (lo hi : Option Int) : List D := (l.drop (HT.sIx l.length 0 lo)).take (HT.sIx l.length l.length hi - HT.sIx l.length 0 lo)
theorem RepL.cut {c : Ctx} {Z : Hp} {l : List D} {vs : List V} (r : RepL c Z l vs) (lo hi : Option Int) : RepL c Z (cutD l lo hi) (cutV vs lo hi) := by
  unfold cutD cutV
  rw [r.length]
  exact (r.drop _).take _
def wSlc (m : Bool) : D → Option Int → Option Int → Store → QE → Prop := fun x lo hi S Q => match x with
  | .str z => z.length ≤ big ∧ Q (.str (cutS z lo hi)) S
  | .tup l => Q (.tup (cutD l lo hi)) S
  | .fl l => newL m (cutD l lo hi) S Q
  | .kl l => newL m (cutD l lo hi) S Q
  | .ref a => ∃ l, S a = some (.lst l) ∧ newL m (cutD l lo hi) S Q
  | _ => False
theorem cut_all {l : List D} {lo hi : Option Int} (h : HT.sIx l.length 0 lo = 0 ∧ HT.sIx l.length l.length hi = l.length) : cutD l lo hi = l := by
  unfold cutD
  rw [h.1, h.2]
  simp
def sCut (m : Bool) : Sl := ⟨wSlc m, fun c k X ok => by
  intro pins s σ H x v vl vu lo hi sl Q I rx hs pl pu hh
  obtain ⟨Z, S, dx, QD, R, r1, hw, hq⟩ := hh
  have lists : ∀ l, lstOf S dx = some l → newL m (cutD l lo hi) S QD → rSlL X.K x lo hi H Q := fun l e hw => by
    obtain ⟨a, vs, rfl, q, r⟩ := lstOf_ok R r1 e
    exact ⟨a, vs, rfl, by rw [ok.hK]; exact q, fun p hp => newL_ok hw R hq (r.cut lo hi) hp⟩
  cases dx with
  | str z => cases r1; exact sl_str pins s σ H _ v vl vu lo hi sl Q I rx hs pl pu ⟨z, rfl, big_le hw.1, hq.go R (d := .str (cutS z lo hi)) rfl hw.2⟩
  | tup l =>
    obtain ⟨a, vs, rfl, q, r⟩ := r1
    refine sl_tupA pins s σ H _ v vl vu lo hi sl Q I rx hs pl pu ⟨a, vs, rfl, by rw [ok.hK]; exact SqT.le R.fz q, fun e => ?_, fun _ p hp => ?_⟩
    · rw [r.length] at e
      rw [show wSlc m (.tup l) lo hi S QD = QD (.tup (cutD l lo hi)) S from rfl, cut_all e] at hw
      exact hq.go R (d := .tup l) ⟨a, vs, rfl, q, r⟩ hw
    · obtain ⟨h1, h2⟩ := R.frozen hp (.tup (cutV vs lo hi))
      exact hq (.tup (cutD l lo hi)) (.ref p) _ S _ (Nx.frozen (R.new hp).2 hp _) h2 ⟨p, _, rfl, SqT.of upd_same, RepL.le h1 (r.cut lo hi)⟩ hw
  | fl l => exact sl_list pins s σ H _ v vl vu lo hi sl Q I rx hs pl pu (lists l rfl hw)
  | kl l => exact sl_list pins s σ H _ v vl vu lo hi sl Q I rx hs pl pu (lists l rfl hw)
  | ref a =>
    obtain ⟨l, e, hw⟩ := hw
    exact sl_list pins s σ H _ v vl vu lo hi sl Q I rx hs pl pu (lists l (by simp [lstOf, e]) hw)
  | _ => exact hw.elim⟩
def wSet : D → D → D → Store → (Store → Prop) → Prop := fun o i v S Q => match o, i with
  | .ref a, .int k => ∃ l, S a = some (.lst l) ∧ wOpt (ixN l.length k) fun j => Q (put S a (.lst (l.set j v)))
  | .ref a, .str z => ∃ l, S a = some (.dct l) ∧ l.length < big ∧ Q (put S a (.dct (putS z v l)))
  | _, _ => False
def tSet : St3 := ⟨wSet, fun c k X ok => by
  intro pins s σ H o i v ov iv u Q I ro ri rv hh
  obtain ⟨Z, S, d1, d2, d3, QD, R, r1, r2, r3, hw, hq⟩ := hh
  cases d1 with
  | ref a =>
    cases d2 with
    | int kk =>
      cases r1; cases r2
      obtain ⟨l, e, hw⟩ := hw
      obtain ⟨j, ej, hw⟩ := of_wOpt hw
      obtain ⟨_, ob, q, vs, rfl, r⟩ := R.cl a _ e
      refine set_list pins s σ H _ _ v ov iv u Q I ro ri rv ⟨a, vs, kk, j, rfl, rfl, q, by rw [r.length]; exact ej, ?_⟩
      have rr : RepC c Z (.lst (l.set j d3)) (.lst (vs.set j v)) := ⟨_, rfl, r.set r3 j⟩
      exact hq Z _ _ (Nx.write e _ _) (R.write e rr) hw
    | str z =>
      cases r1; cases r2
      obtain ⟨l, e, hl, hw⟩ := hw
      obtain ⟨_, ob, q, kvs, rfl, r⟩ := R.cl a _ e
      cases (show ov = Value.ref a from ro)
      refine d_setItem ok.o.uu I (H' := upd H a (.dK (putK kvs (Sum.inr z) v))) (.inl ⟨kvs, Sum.inr z, q, rfl, ?_, rfl⟩) ri rv fun s4 I4 => ⟨_, I4, ?_⟩
      · rw [RepK.length r, sizeLine_eq]; exact hl
      · have rr : RepC c Z (.dct (putS z d3 l)) (.dK (putK kvs (Sum.inr z) v)) := ⟨_, rfl, RepK.put r3 r⟩
        exact hq Z _ _ (Nx.write e _ _) (R.write e rr) hw
    | _ => exact hw.elim
  | _ => exact hw.elim⟩
end L3
namespace L3
open PySem PySem.Spec PyProof.Rows L2
mutual
def pyD (rf : Addr → Option PyData) : D → Option PyData
  | .non => some .none
  | .bl b => some (.bool b)
  | .int i => some (.int i)
  | .str x => some (.str x)
  | .tup l => (pyL rf l).map .tuple
  | .fl l => (pyL rf l).map .list
  | .kl l => (pyL rf l).map .list
  | .ref a => rf a
  | _ => none
def pyL (rf : Addr → Option PyData) : List D → Option (List PyData)
  | [] => some []
  | d :: ds => (pyD rf d).bind fun p => (pyL rf ds).map fun r => p :: r
end
def rfN : Nat → Store → Addr → Option PyData
  | 0, _, _ => none
  | n + 1, S, a => match S a with
    | some (.lst l) => (pyL (rfN n S) l).map .list
    | _ => none
def py (S : Store) (d : D) : Option PyData := pyD (rfN 3 S) d
mutual
theorem pyD_ok {c : Ctx} {Z : Hp} {S : Store} {H : Hp} (R : Rel c Z S H) {rf : Addr → Option PyData} (hr : ∀ a p, rf a = some p → Dp c.K H (.ref a) p) : ∀ {d : D} {v : V} {p : PyData}, RepD c Z d v → pyD rf d = some p → Dp c.K H v p
  | .non, _, _, r, e => by cases r; cases e; exact .non
  | .bl b, _, _, r, e => by cases r; cases e; exact .bl b
  | .int i, _, _, r, e => by cases r; cases e; exact .int i
  | .str x, _, _, r, e => by cases r; cases e; exact .str x
  | .tup l, _, _, r, e => by
    obtain ⟨a, vs, rfl, q, r⟩ := r
    simp only [pyD, Option.map_eq_some_iff] at e
    obtain ⟨ds, e, rfl⟩ := e
    exact .tup (SqT.le R.fz q) (pyL_ok R hr r e)
  | .fl l, _, _, r, e => by
    obtain ⟨a, vs, rfl, q, r⟩ := r
    simp only [pyD, Option.map_eq_some_iff] at e
    obtain ⟨ds, e, rfl⟩ := e
    exact .lst (SqL.of (R.fz _ _ q)) (pyL_ok R hr r e)
  | .kl l, _, _, r, e => by
    obtain ⟨a, vs, rfl, q, r⟩ := r
    simp only [pyD, Option.map_eq_some_iff] at e
    obtain ⟨ds, e, rfl⟩ := e
    exact .lst (SqL.le R.fz q) (pyL_ok R hr r e)
  | .ref a, _, _, r, e => by cases r; exact hr a _ e
  | .obj _ _, _, _, _, e => by cases e
  | .ptup _, _, _, _, e => by cases e
  | .dk _, _, _, _, e => by cases e
  | .di _, _, _, _, e => by cases e
  | .ty _, _, _, _, e => by cases e
  | .cls _, _, _, _, e => by cases e
  | .exc _ _, _, _, _, e => by cases e
  | .exv _ _, _, _, _, e => by cases e
theorem pyL_ok {c : Ctx} {Z : Hp} {S : Store} {H : Hp} (R : Rel c Z S H) {rf : Addr → Option PyData} (hr : ∀ a p, rf a = some p → Dp c.K H (.ref a) p) : ∀ {l : List D} {vs : List V} {ps : List PyData}, RepL c Z l vs → pyL rf l = some ps → DpAll c.K H vs ps
  | [], _, _, r, e => by cases r; cases e; exact .nil
  | d :: ds, _, _, r, e => by
    obtain ⟨v, t, rfl, q, r⟩ := r
    simp only [pyL, Option.bind_eq_some_iff, Option.map_eq_some_iff] at e
    obtain ⟨p, e1, ps, e2, rfl⟩ := e
    exact .cons (pyD_ok R hr q e1) (pyL_ok R hr r e2)
end
theorem rfN_ok {c : Ctx} {Z : Hp} {S : Store} {H : Hp} (R : Rel c Z S H) : ∀ (n : Nat) (a : Addr) (p : PyData), rfN n S a = some p → Dp c.K H (.ref a) p
  | 0, _, _, e => by cases e
  | n + 1, a, p, e => by
    simp only [rfN] at e
    cases q : S a with
    | none => rw [q] at e; cases e
    | some x =>
      rw [q] at e
      cases x with
      | lst l =>
        simp only [Option.map_eq_some_iff] at e
        obtain ⟨ds, e, rfl⟩ := e
        obtain ⟨_, o, q', vs, rfl, r⟩ := R.cl a _ q
        exact .lst (SqL.of q') (pyL_ok R (rfN_ok R n) r e)
      | ins _ _ => cases e
      | dct _ => cases e
theorem py_ok {c : Ctx} {Z : Hp} {S : Store} {H : Hp} (R : Rel c Z S H) {d : D} {v : V} {p : PyData} (r : RepD c Z d v) (e : py S d = some p) : Dp c.K H v p := pyD_ok R (rfN_ok R 3) r e
def wEqB (f : Bool → Bool) : D → D → Store → QE → Prop := fun x y S Q => match x, y with
  | .int a, .int b => Q (.bl (f (decide (a = b)))) S
  | .str a, .str b => Q (.bl (f (decide (a = b)))) S
  | x, y => wOpt (py S x) fun d => wOpt (py S y) fun e => SeqAt.shaped d = true ∧ SeqAt.shaped e = true ∧ Q (.bl (f (PyData.eqv d e))) S
theorem eqB_ok {c : Ctx} {X : Cx} {op : Value → Value → Sem Value} {f : Bool → Bool} (hK : X.K = c.K) (h1 : OpR X op (fun x y H Q => scal x y = true ∧ Q (.bl (f (decide (x = y)))) H))
    (h2 : OpR X op (fun x y H Q => ∃ d e, Dp X.K H x d ∧ Dp X.K H y e ∧ SeqAt.shaped d = true ∧ SeqAt.shaped e = true ∧ Q (.bl (f (PyData.eqv d e))) H)) : OpR X op (l2 c (wEqB f)) := by
  intro pins s σ H x y v u Q I rx ry hh
  obtain ⟨Z, S, dx, dy, QD, R, r1, r2, hw, hq⟩ := hh
  have gen : (wOpt (py S dx) fun d => wOpt (py S dy) fun e => SeqAt.shaped d = true ∧ SeqAt.shaped e = true ∧ QD (.bl (f (PyData.eqv d e))) S) → wpAny (model X.prog X.w) X.A (op v u) (EP X pins σ Q) X.xe s := fun hw => by
    obtain ⟨d, e1, hw⟩ := of_wOpt hw
    obtain ⟨e, e2, a1, a2, hw⟩ := of_wOpt hw
    exact h2 pins s σ H x y v u Q I rx ry ⟨d, e, by rw [hK]; exact py_ok R r1 e1, by rw [hK]; exact py_ok R r2 e2, a1, a2, hq.go R (d := .bl _) rfl hw⟩
  cases dx with
  | int a =>
    cases dy with
    | int b =>
      cases r1; cases r2
      refine h1 pins s σ H _ _ v u Q I rx ry ⟨rfl, ?_⟩
      have : decide (V.int a = V.int b) = decide (a = b) := by simp
      rw [this]
      exact hq.go R (d := .bl _) rfl hw
    | _ => exact gen hw
  | str a =>
    cases dy with
    | str b =>
      cases r1; cases r2
      refine h1 pins s σ H _ _ v u Q I rx ry ⟨rfl, ?_⟩
      have : decide (V.str a = V.str b) = decide (a = b) := by simp
      rw [this]
      exact hq.go R (d := .bl _) rfl hw
    | _ => exact gen hw
  | _ => exact gen hw
theorem XO0.u65 {c : Ctx} {X : Cx} (ok : XO0 c X) : X.A.units + 65 < cLine := by have := ok.un; omega
theorem XO0.u64 {c : Ctx} {X : Cx} (ok : XO0 c X) : X.A.units + 64 < cLine := by have := ok.un; omega
def cEq : Cm2 := ⟨.Eq, wEqB id, fun c k X ok => eqB_ok ok.hK op_eq (op_eqD ok.u64)⟩
def cNe : Cm2 := ⟨.NotEq, wEqB not, fun c k X ok => eqB_ok ok.hK op_ne (op_neD ok.u64)⟩
def isNon : D → Bool
  | .non => true
  | _ => false
theorem isNon_ok {c : Ctx} {Z : Hp} {d : D} {v : V} (r : RepD c Z d v) : decide (v = .non) = isNon d := by
  cases d with
  | non => cases r; rfl
  | bl _ => cases r; rfl
  | int _ => cases r; rfl
  | str _ => cases r; rfl
  | tup _ => obtain ⟨a, vs, rfl, _⟩ := r; rfl
  | fl _ => obtain ⟨a, vs, rfl, _⟩ := r; rfl
  | kl _ => obtain ⟨a, vs, rfl, _⟩ := r; rfl
  | ptup _ => obtain ⟨a, vs, o, rfl, _⟩ := r; rfl
  | obj _ _ => obtain ⟨a, C, dx, vs, rfl, _⟩ := r; rfl
  | dk _ => obtain ⟨a, kvs, rfl, _⟩ := r; rfl
  | di _ => obtain ⟨a, kvs, rfl, _⟩ := r; rfl
  | ref _ => cases r; rfl
  | ty _ => cases r; rfl
  | cls _ => obtain ⟨C, _, rfl⟩ := r; rfl
  | exc _ _ => obtain ⟨a, C, oe, dd, fv, vs, rfl, _⟩ := r; rfl
  | exv _ _ => obtain ⟨a, C, vs, rfl, _⟩ := r; rfl
def wIsB (f : Bool → Bool) : D → D → Store → QE → Prop := fun x y S Q => match y with
  | .non => Q (.bl (f (isNon x))) S
  | _ => False
def cIs : Cm2 := ⟨.Is, wIsB id, fun c k X ok => by
  intro pins s σ H x y v u Q I rx ry hh
  obtain ⟨Z, S, dx, dy, QD, R, r1, r2, hw, hq⟩ := hh
  cases dy with
  | non => cases r2; exact op_isN pins s σ H x _ v u Q I rx ry ⟨rfl, by rw [isNon_ok r1]; exact hq.go R (d := .bl _) rfl hw⟩
  | _ => exact hw.elim⟩
def cIsNot : Cm2 := ⟨.IsNot, wIsB not, fun c k X ok => by
  intro pins s σ H x y v u Q I rx ry hh
  obtain ⟨Z, S, dx, dy, QD, R, r1, r2, hw, hq⟩ := hh
  cases dy with
  | non => cases r2; exact op_notN pins s σ H x _ v u Q I rx ry ⟨rfl, by rw [isNon_ok r1]; exact hq.go R (d := .bl _) rfl hw⟩
  | _ => exact hw.elim⟩
def flatD : D → Bool
  | .non => true
  | .bl _ => true
  | .int _ => true
  | .str _ => true
  | _ => false
def vOf : D → V
  | .non => .non
  | .bl b => .bl b
  | .int i => .int i
  | .str x => .str x
  | _ => .non
theorem flat_ok {c : Ctx} {Z : Hp} {d : D} {v : V} (f : flatD d = true) (r : RepD c Z d v) : v = vOf d ∧ flatV v = true := by
  cases d <;> first | (cases f; done) | (cases r; exact ⟨rfl, rfl⟩)
theorem flatL_ok {c : Ctx} {Z : Hp} : ∀ {l : List D} {vs : List V}, l.all flatD = true → RepL c Z l vs → vs = l.map vOf ∧ vs.all flatV = true
  | [], _, _, r => by cases r; exact ⟨rfl, rfl⟩
  | d :: ds, _, f, r => by
    obtain ⟨v, t, rfl, q, r⟩ := r
    simp only [List.all_cons, Bool.and_eq_true] at f
    obtain ⟨rfl, h2⟩ := flat_ok f.1 q
    obtain ⟨rfl, h4⟩ := flatL_ok f.2 r
    exact ⟨rfl, by simp only [List.all_cons, h2, h4]; rfl⟩
def inF (x : D) (l : List D) : Bool := l.any fun y => eqV (vOf y) (vOf x)
def wInB (f : Bool → Bool) : D → D → Store → QE → Prop := fun x y S Q => match y with
  | .str z => ∃ ch : Nat, x = .str ⟨#[ch]⟩ ∧ Q (.bl (f (decide (ch ∈ z.cps.toList)))) S
  | .tup l => flatD x = true ∧ l.all flatD = true ∧ Q (.bl (f (inF x l))) S
  | .fl l => (flatD x = true ∧ l.all flatD = true ∧ Q (.bl (f (inF x l))) S) ∨ wOpt (py S x) fun d => wOpt (pyL (rfN 3 S) l) fun ds => SeqAt.shaped d = true ∧ SeqAt.shaped (.list ds) = true ∧ Q (.bl (f (ds.any fun z => PyData.eqv z d))) S
  | y => wOpt (py S x) fun d => wOpt (py S y) fun e => ∃ ds, e = .list ds ∧ SeqAt.shaped d = true ∧ SeqAt.shaped e = true ∧ Q (.bl (f (ds.any fun z => PyData.eqv z d))) S
theorem inB_ok {c : Ctx} {X : Cx} {op : Value → Value → Sem Value} {f : Bool → Bool} (hK : X.K = c.K) (h1 : OpR X op (fun x y H Q => ∃ (c : Nat) (z : Str), x = .str ⟨#[c]⟩ ∧ y = .str z ∧ Q (.bl (f (decide (c ∈ z.cps.toList)))) H))
    (h2 : OpR X op (fun x y H Q => ∃ p xs, y = .ref p ∧ (SqL X.K H p xs ∨ SqT X.K H p xs) ∧ flatV x = true ∧ xs.all flatV = true ∧ Q (.bl (f (inV x xs))) H))
    (h3 : OpR X op (fun x y H Q => ∃ d ds, Dp X.K H x d ∧ Dp X.K H y (.list ds) ∧ SeqAt.shaped d = true ∧ SeqAt.shaped (.list ds) = true ∧ Q (.bl (f (ds.any fun z => PyData.eqv z d))) H)) : OpR X op (l2 c (wInB f)) := by
  intro pins s σ H x y v u Q I rx ry hh
  obtain ⟨Z, S, dx, dy, QD, R, r1, r2, hw, hq⟩ := hh
  have gen : (wOpt (py S dx) fun d => wOpt (py S dy) fun e => ∃ ds, e = .list ds ∧ SeqAt.shaped d = true ∧ SeqAt.shaped e = true ∧ QD (.bl (f (ds.any fun z => PyData.eqv z d))) S) → wpAny (model X.prog X.w) X.A (op v u) (EP X pins σ Q) X.xe s := fun hw => by
    obtain ⟨d, e1, hw⟩ := of_wOpt hw
    obtain ⟨e, e2, ds, rfl, a1, a2, hw⟩ := of_wOpt hw
    exact h3 pins s σ H x y v u Q I rx ry ⟨d, ds, by rw [hK]; exact py_ok R r1 e1, by rw [hK]; exact py_ok R r2 e2, a1, a2, hq.go R (d := .bl _) rfl hw⟩
  cases dy with
  | str z =>
    obtain ⟨ch, rfl, hw⟩ := hw
    cases r1; cases r2
    exact h1 pins s σ H _ _ v u Q I rx ry ⟨ch, z, rfl, rfl, hq.go R (d := .bl _) rfl hw⟩
  | tup l =>
    obtain ⟨a1, a2, hw⟩ := hw
    obtain ⟨rfl, b1⟩ := flat_ok a1 r1
    obtain ⟨p, vs, rfl, q, r⟩ := r2
    obtain ⟨rfl, b2⟩ := flatL_ok a2 r
    refine h2 pins s σ H _ _ v u Q I rx ry ⟨p, _, rfl, .inr (by rw [hK]; exact SqT.le R.fz q), b1, b2, ?_⟩
    have : inV (vOf dx) (l.map vOf) = inF dx l := by unfold inV inF; rw [List.any_map]; rfl
    rw [this]
    exact hq.go R (d := .bl _) rfl hw
  | fl l =>
    rcases hw with ⟨a1, a2, hw⟩ | hw
    · obtain ⟨rfl, b1⟩ := flat_ok a1 r1
      obtain ⟨p, vs, rfl, q, r⟩ := r2
      obtain ⟨rfl, b2⟩ := flatL_ok a2 r
      refine h2 pins s σ H _ _ v u Q I rx ry ⟨p, _, rfl, .inl (SqL.of (R.fz _ _ q)), b1, b2, ?_⟩
      have : inV (vOf dx) (l.map vOf) = inF dx l := by unfold inV inF; rw [List.any_map]; rfl
      rw [this]
      exact hq.go R (d := .bl _) rfl hw
    · refine gen ?_
      obtain ⟨d, e1, hw⟩ := of_wOpt hw
      obtain ⟨ds, e2, hw⟩ := of_wOpt hw
      refine wOpt_some e1 (wOpt_some (a := .list ds) (show (pyL (rfN 3 S) l).map PyData.list = some (.list ds) by rw [e2]; rfl) ⟨ds, rfl, hw⟩)
  | _ => exact gen hw
def cIn : Cm2 := ⟨.In, wInB id, fun c k X ok => inB_ok ok.hK op_in_sign (by
  intro pins s σ H x y v u Q I rx ry ⟨p, xs, a, b, cc, d, e⟩
  exact op_in_seq pins s σ H x y v u Q I rx ry ⟨p, xs, a, b, cc, d, e⟩) (op_inD ok.u65)⟩
def cNotIn : Cm2 := ⟨.NotIn, wInB not, fun c k X ok => inB_ok ok.hK op_notIn_sign (by
  intro pins s σ H x y v u Q I rx ry ⟨p, xs, a, b, cc, d, e⟩
  exact op_notIn_seq pins s σ H x y v u Q I rx ry ⟨p, xs, a, b, cc, d, e⟩) (op_notInD ok.u65)⟩
end L3
namespace L3
open PySem PySem.Spec PyProof.Rows L2
section
variable {c : Ctx} {Z : Hp}
theorem RepL.one {d : D} {vs : List V} (r : RepL c Z [d] vs) : ∃ v, vs = [v] ∧ RepD c Z d v := by
  obtain ⟨v, t, rfl, q, r⟩ := r
  cases r
  exact ⟨v, rfl, q⟩
theorem RepL.two {d e : D} {vs : List V} (r : RepL c Z [d, e] vs) : ∃ v w, vs = [v, w] ∧ RepD c Z d v ∧ RepD c Z e w := by
  obtain ⟨v, t, rfl, q, r⟩ := r
  obtain ⟨w, rfl, q'⟩ := r.one
  exact ⟨v, w, rfl, q, q'⟩
theorem RepL.bls : ∀ {l : List D} {bs : List Bool} {vs : List V}, l = bs.map D.bl → RepL c Z l vs → vs = bs.map V.bl
  | _, [], _, e, r => by subst e; cases r; rfl
  | _, b :: bs, _, e, r => by
    subst e
    obtain ⟨v, t, rfl, q, r⟩ := r
    cases q
    rw [RepL.bls rfl r]
    rfl
theorem RepL.strs : ∀ {l : List D} {bs : List Str} {vs : List V}, l = bs.map D.str → RepL c Z l vs → vs = bs.map V.str
  | _, [], _, e, r => by subst e; cases r; rfl
  | _, b :: bs, _, e, r => by
    subst e
    obtain ⟨v, t, rfl, q, r⟩ := r
    cases q
    rw [RepL.strs rfl r]
    rfl
theorem RepL.ofStrs : ∀ (bs : List Str), RepL c Z (bs.map D.str) (bs.map V.str)
  | [] => rfl
  | b :: bs => ⟨_, _, rfl, rfl, RepL.ofStrs bs⟩
end
def w1 (f : D → Store → QE → Prop) : List D → Store → QE → Prop := fun ds S Q => match ds with
  | [d] => f d S Q
  | _ => False
def w2 (f : D → D → Store → QE → Prop) : List D → Store → QE → Prop := fun ds S Q => match ds with
  | [d, e] => f d e S Q
  | _ => False
theorem c1_ok {c : Ctx} {X : Cx} {fv : Value} {f : D → Store → QE → Prop} {r : List V → Hp → VK → Prop} (hc : CallR X fv r)
    (h : ∀ Z S H d v QD Q, Rel c Z S H → RepD c Z d v → f d S QD → Lk c ⟨Z, S, H⟩ (RepD c) QD Q → r [v] H Q) : CallR X fv (ln c (w1 f)) := by
  intro pins s σ H xs us Q I rx hh
  obtain ⟨Z, S, ds, QD, R, r, hw, hq⟩ := hh
  match ds, hw, r with
  | [d], hw, r =>
    obtain ⟨v, rfl, rr⟩ := r.one
    exact hc pins s σ H _ us Q I rx (h Z S H d v QD Q R rr hw hq)
theorem c2_ok {c : Ctx} {X : Cx} {fv : Value} {f : D → D → Store → QE → Prop} {r : List V → Hp → VK → Prop} (hc : CallR X fv r)
    (h : ∀ Z S H d e v w QD Q, Rel c Z S H → RepD c Z d v → RepD c Z e w → f d e S QD → Lk c ⟨Z, S, H⟩ (RepD c) QD Q → r [v, w] H Q) : CallR X fv (ln c (w2 f)) := by
  intro pins s σ H xs us Q I rx hh
  obtain ⟨Z, S, ds, QD, R, r, hw, hq⟩ := hh
  match ds, hw, r with
  | [d, e], hw, r =>
    obtain ⟨v, w, rfl, rr, rr'⟩ := r.two
    exact hc pins s σ H _ us Q I rx (h Z S H d e v w QD Q R rr rr' hw hq)
def wLen0 : D → Store → QE → Prop := fun d S Q => match d with
  | .str x => x.length ≤ big ∧ Q (.int x.length) S
  | d => wSeq d S fun l => Q (.int l.length) S
theorem len_ok0 {c : Ctx} {k : Nat} {X : Cx} (ok : XOk c k X) : CallR X (.builtin "len") (ln c (w1 wLen0)) := c1_ok call_len fun Z S H d v QD Q R r hw hq => by
  have sq : (wSeq d S fun l => QD (.int l.length) S) → ∃ x n, [v] = [x] ∧ LenV X.K x H n ∧ Q (.int n) H := fun hw => by
    obtain ⟨l, e, hw⟩ := of_wSeq hw
    obtain ⟨a, vs, rfl, s, rl⟩ := seqOf_ok R r e
    rw [← rl.length] at hw
    refine ⟨.ref a, vs.length, rfl, ?_, hq.go R (d := .int _) rfl hw⟩
    rw [ok.hK]
    exact s.elim (fun s => .inl ⟨vs, s, rfl⟩) fun s => .inr ⟨vs, s, rfl⟩
  cases d with
  | str x => cases r; exact ⟨.str x, x.length, rfl, ⟨big_le hw.1, rfl⟩, hq.go R (d := .int _) rfl hw.2⟩
  | _ => exact sq hw
def wLen : D → Store → QE → Prop := fun d S Q => match d with
  | .str x => x.length ≤ big ∧ Q (.int x.length) S
  | .dk l => Q (.int l.length) S
  | d => wSeq d S fun l => Q (.int l.length) S
def bLen : Bl := ⟨"len", .builtin "len", .inl ⟨_, rfl⟩, PySem.boot_len, by decide, w1 wLen, fun c k X ok => by
  intro pins s σ H xs us Q I rx hh
  obtain ⟨Z, S, ds, QD, R, r, hw, hq⟩ := hh
  match ds, hw, r with
  | [d], hw, r =>
    obtain ⟨v, rfl, rr⟩ := r.one
    have old : wLen0 d S QD → wpAny (model X.prog X.w) X.A (call (.builtin "len") us) (EP X pins σ Q) X.xe s := fun hw =>
      len_ok0 ok pins s σ H _ us Q I rx ⟨Z, S, [d], QD, R, r, hw, hq⟩
    cases d with
    | dk l =>
      obtain ⟨a, kvs, rfl, q, rk⟩ := rr
      refine call_lenD pins s σ H _ us Q I rx ⟨a, kvs, rfl, R.fz _ _ q, ?_⟩
      rw [rk.length]
      exact hq.go R (d := .int _) rfl hw
    | _ => exact old hw⟩
def wAbs : D → Store → QE → Prop := fun d S Q => match d with
  | .int i => Q (.int i.natAbs) S
  | _ => False
def bAbs : Bl := ⟨"abs", .builtin "abs", .inl ⟨_, rfl⟩, by decide +kernel, by decide, w1 wAbs, fun c k X ok => c1_ok call_abs fun Z S H d v QD Q R r hw hq => by
  cases d with
  | int i =>
    cases r
    refine ⟨i, rfl, ?_⟩
    have e : (if i < 0 then -i else i) = (i.natAbs : Int) := by split <;> omega
    rw [e]
    exact hq.go R (d := .int _) rfl hw
  | _ => exact hw.elim⟩
def wDivmod : D → D → Store → QE → Prop := fun d e S Q => match d, e with
  | .int i, .int j => 0 < j ∧ j.natAbs < 1073741824 ∧ Q (.tup [.int (i / j), .int (i % j)]) S
  | _, _ => False
def bDivmod : Bl := ⟨"divmod", .builtin "divmod", .inl ⟨_, rfl⟩, by decide +kernel, by decide, w2 wDivmod, fun c k X ok => c2_ok call_divmodW fun Z S H d e v w QD Q R r r' hw hq => by
  cases d with
  | int i =>
    cases e with
    | int j =>
      cases r; cases r'
      refine ⟨i, j, rfl, ⟨hw.1, PyProof.noPylong_small hw.2.1⟩, fun p hp => ?_⟩
      obtain ⟨h1, h2⟩ := R.frozen hp (.tup [.int (i / j), .int (i % j)])
      exact hq (.tup [.int (i / j), .int (i % j)]) (.ref p) _ S _ (Nx.frozen (R.new hp).2 hp _) h2 ⟨p, _, rfl, SqT.of upd_same, _, _, rfl, rfl, _, _, rfl, rfl, rfl⟩ hw.2.2
    | _ => exact hw.elim
  | _ => exact hw.elim⟩
def wMax : D → D → Store → QE → Prop := fun d e S Q => match d, e with
  | .int i, .int j => Q (.int (max i j)) S
  | _, _ => False
def bMax : Bl := ⟨"max", .builtin "max", .inl ⟨_, rfl⟩, by decide +kernel, by decide, w2 wMax, fun c k X ok => c2_ok (call_max2 ok.calm) fun Z S H d e v w QD Q R r r' hw hq => by
  cases d with
  | int i =>
    cases e with
    | int j =>
      cases r; cases r'
      refine ⟨i, j, rfl, ?_⟩
      have e : (if j > i then j else i) = max i j := by rw [Int.max_def]; split <;> split <;> omega
      rw [e]
      exact hq.go R (d := .int _) rfl hw
    | _ => exact hw.elim
  | _ => exact hw.elim⟩
def wMin : D → D → Store → QE → Prop := fun d e S Q => match d, e with
  | .int i, .int j => Q (.int (min i j)) S
  | _, _ => False
def bMin : Bl := ⟨"min", .builtin "min", .inl ⟨_, rfl⟩, by decide +kernel, by decide, w2 wMin, fun c k X ok => c2_ok (call_min2 ok.calm) fun Z S H d e v w QD Q R r r' hw hq => by
  cases d with
  | int i =>
    cases e with
    | int j =>
      cases r; cases r'
      refine ⟨i, j, rfl, ?_⟩
      have e : (if j < i then j else i) = min i j := by rw [Int.min_def]; split <;> split <;> omega
      rw [e]
      exact hq.go R (d := .int _) rfl hw
    | _ => exact hw.elim
  | _ => exact hw.elim⟩
def boolsOf : List D → Option (List Bool)
  | [] => some []
  | .bl b :: r => (boolsOf r).map (b :: ·)
  | _ :: _ => none
theorem boolsOf_eq : ∀ {l : List D} {bs : List Bool}, boolsOf l = some bs → l = bs.map D.bl
  | [], _, e => by cases e; rfl
  | .bl b :: r, _, e => by
    simp only [boolsOf, Option.map_eq_some_iff] at e
    obtain ⟨bs, e, rfl⟩ := e
    rw [boolsOf_eq e]; rfl
  | .non :: _, _, e => by cases e
  | .int _ :: _, _, e => by cases e
  | .str _ :: _, _, e => by cases e
  | .tup _ :: _, _, e => by cases e
  | .fl _ :: _, _, e => by cases e
  | .kl _ :: _, _, e => by cases e
  | .ptup _ :: _, _, e => by cases e
  | .obj _ _ :: _, _, e => by cases e
  | .dk _ :: _, _, e => by cases e
  | .di _ :: _, _, e => by cases e
  | .ref _ :: _, _, e => by cases e
  | .ty _ :: _, _, e => by cases e
  | .cls _ :: _, _, e => by cases e
  | .exc _ _ :: _, _, e => by cases e
  | .exv _ _ :: _, _, e => by cases e
theorem boolsOf_map (bs : List Bool) : boolsOf (bs.map D.bl) = some bs := by
  induction bs with
  | nil => rfl
  | cons b bs ih => simp [boolsOf, ih]
def wBls (f : List Bool → Bool) : D → Store → QE → Prop := fun d S Q => wOpt (lstOf S d) fun l => wOpt (boolsOf l) fun bs => Q (.bl (f bs)) S
def bAll : Bl := ⟨"all", .builtin "all", .inl ⟨_, rfl⟩, by decide +kernel, by decide, w1 (wBls fun bs => bs.all id), fun c k X ok => c1_ok (cr_all ok.calm) fun Z S H d v QD Q R r hw hq => by
  obtain ⟨l, e, hw⟩ := of_wOpt hw
  obtain ⟨bs, e2, hw⟩ := of_wOpt hw
  obtain ⟨a, vs, rfl, s, rl⟩ := lstOf_ok R r e
  have := rl.bls (boolsOf_eq e2)
  subst this
  exact ⟨a, bs, rfl, by rw [ok.hK]; exact s, hq.go R (d := .bl _) rfl hw⟩⟩
def wTuple : D → Store → QE → Prop := fun d S Q => wSeq d S fun l => Q (.tup l) S
def bTuple : Bl := ⟨"tuple", .type "tuple", .inr ⟨_, rfl⟩, by decide +kernel, by decide, w1 wTuple, fun c k X ok => c1_ok call_tuple_of fun Z S H d v QD Q R r hw hq => by
  have lists : ∀ l, lstOf S d = some l → QD (.tup l) S → ∃ p ys, [v] = [.ref p] ∧ ((SqL X.K H p ys ∧ ∀ l, H l = none → Q (.ref l) (upd H l (.tup ys))) ∨ (SqT X.K H p ys ∧ Q (.ref p) H)) := fun l e hw => by
    obtain ⟨a, vs, rfl, s, rl⟩ := lstOf_ok R r e
    refine ⟨a, vs, rfl, .inl ⟨by rw [ok.hK]; exact s, fun p hp => ?_⟩⟩
    obtain ⟨h1, h2⟩ := R.frozen hp (.tup vs)
    exact hq (.tup l) (.ref p) _ S _ (Nx.frozen (R.new hp).2 hp _) h2 ⟨p, _, rfl, SqT.of upd_same, RepL.le h1 rl⟩ hw
  cases d with
  | tup l =>
    obtain ⟨a, vs, rfl, q, rl⟩ := r
    exact ⟨a, vs, rfl, .inr ⟨by rw [ok.hK]; exact SqT.le R.fz q, hq.go R (d := .tup l) ⟨a, vs, rfl, q, rl⟩ hw⟩⟩
  | fl l => exact lists l rfl hw
  | kl l => exact lists l rfl hw
  | ref a =>
    obtain ⟨l, e, hw⟩ := hw
    exact lists l (by simp [lstOf, e]) hw
  | _ => exact hw.elim⟩
def wList (m : Bool) : D → Store → QE → Prop := fun d S Q => wSeq d S fun l => newL m l S Q
def bList (m : Bool) : Bl := ⟨"list", .type "list", .inr ⟨_, rfl⟩, by decide +kernel, by decide, w1 (wList m), fun c k X ok => c1_ok call_list_of fun Z S H d v QD Q R r hw hq => by
  obtain ⟨l, e, hw⟩ := of_wSeq hw
  obtain ⟨a, vs, rfl, s, rl⟩ := seqOf_ok R r e
  exact ⟨a, vs, rfl, by rw [ok.hK]; exact s, fun p hp => newL_ok hw R hq rl hp⟩⟩
def wIntB : D → Store → QE → Prop := fun d S Q => match d with
  | .int i => Q (.int i) S
  | .bl b => Q (.int (if b then 1 else 0)) S
  | .str x => x.length ≤ 640 ∧ wOpt (PySem.intText? x) fun n => Q (.int n) S
  | _ => False
def bInt : Bl := ⟨"int", .type "int", .inr ⟨_, rfl⟩, by decide +kernel, by decide, w1 wIntB, fun c k X ok => by
  intro pins s σ H xs us Q I rx hh
  obtain ⟨Z, S, ds, QD, R, r, hw, hq⟩ := hh
  match ds, hw, r with
  | [d], hw, r =>
    obtain ⟨v, rfl, rr⟩ := r.one
    cases d with
    | int i => cases rr; exact call_int1 pins s σ H _ us Q I rx (.inl ⟨i, rfl, hq.go R (d := .int i) rfl hw⟩)
    | bl b => cases rr; exact call_int1 pins s σ H _ us Q I rx (.inr ⟨b, rfl, hq.go R (d := .int _) rfl hw⟩)
    | str x =>
      cases rr
      obtain ⟨n, e, hw2⟩ := of_wOpt hw.2
      exact call_int_str pins s σ H _ us Q I rx ⟨x, n, rfl, e, hw.1, hq.go R (d := .int n) rfl hw2⟩
    | _ => exact hw.elim⟩
def wStrB : D → Store → QE → Prop := fun d S Q => match d with
  | .int i => i.natAbs.log2 < 1920 ∧ Q (.str (toString i)) S
  | .str x => Q (.str x) S
  | _ => False
def bStr : Bl := ⟨"str", .type "str", .inr ⟨_, rfl⟩, by decide +kernel, by decide, w1 wStrB, fun c k X ok => by
  intro pins s σ H xs us Q I rx hh
  obtain ⟨Z, S, ds, QD, R, r, hw, hq⟩ := hh
  match ds, hw, r with
  | [d], hw, r =>
    obtain ⟨v, rfl, rr⟩ := r.one
    cases d with
    | int i => cases rr; exact call_str_int pins s σ H _ us Q I rx ⟨i, rfl, hw.1, hq.go R (d := .str _) rfl hw.2⟩
    | str x => cases rr; exact SkE.call_str_str pins s σ H _ us Q I rx ⟨x, rfl, hq.go R (d := .str x) rfl hw⟩
    | _ => exact hw.elim⟩
def tyLst (d : D) (S : Store) : Prop := match d with
  | .fl _ => True
  | .kl _ => True
  | .ref a => ∃ l, S a = some (.lst l)
  | _ => False
theorem tyLst_ok (c : Ctx) (Z : Hp) (S : Store) (H : Hp) (d : D) (v : V) (R : Rel c Z S H) (r : RepD c Z d v) (h : tyLst d S) : tyX c.K "list" v H := by
  have : ∃ l, lstOf S d = some l := by
    cases d with
    | fl l => exact ⟨l, rfl⟩
    | kl l => exact ⟨l, rfl⟩
    | ref a => obtain ⟨l, e⟩ := h; exact ⟨l, by simp [lstOf, e]⟩
    | _ => exact h.elim
  obtain ⟨l, e⟩ := this
  obtain ⟨a, vs, rfl, s, _⟩ := lstOf_ok R r e
  exact .inl (.inl ⟨rfl, vs, s⟩)
def tyStr (d : D) (_ : Store) : Prop := match d with
  | .str _ => True
  | _ => False
theorem tyStr_ok (c : Ctx) (Z : Hp) (S : Store) (H : Hp) (d : D) (v : V) (R : Rel c Z S H) (r : RepD c Z d v) (h : tyStr d S) : tyX c.K "str" v H := by
  cases d with
  | str x => cases r; exact .inl rfl
  | _ => exact h.elim
def wApp : D → List D → Store → QE → Prop := fun d ds S Q => match d, ds with
  | .ref a, [x] => ∃ l, S a = some (.lst l) ∧ l.length < big ∧ Q .non (put S a (.lst (l ++ [x])))
  | _, _ => False
def mAppend : Mt := ⟨"append", "list", "list.append", PySem.F.plainAttrs_list, PySem.F.slot_list_append, PySem.F.type_list_append, tyLst, tyLst_ok, wApp, fun c k X ok => by
  intro pins s σ H x xs v us Q I rx rxs hh
  obtain ⟨Z, S, d, ds, QD, R, r1, r2, hw, hq⟩ := hh
  cases d with
  | ref a =>
    match ds, hw, r2 with
    | [y], hw, r2 =>
      obtain ⟨w, rfl, rr2⟩ := r2.one
      cases r1
      obtain ⟨l, e, hl, hw⟩ := hw
      obtain ⟨_, ob, q, vs, rfl, r⟩ := R.cl a _ e
      have hz : vs.length < sizeLine := by rw [r.length, sizeLine_eq]; exact hl
      refine mt_append pins s σ H _ _ v us Q I rx rxs ⟨a, vs, w, rfl, rfl, q, hz, ?_⟩
      have rr : RepC c Z (.lst (l ++ [y])) (.lst (vs ++ [w])) := ⟨_, rfl, RepL.append r ⟨w, [], rfl, rr2, rfl⟩⟩
      exact hq .non .non Z _ _ (Nx.write e _ _) (R.write e rr) rfl hw
  | _ => exact hw.elim⟩
def wPopAt : D → List D → Store → QE → Prop := fun d ds S Q => match d, ds with
  | .ref a, [.int i] => ∃ l, S a = some (.lst l) ∧ -(2 ^ 63) ≤ i ∧ i < 2 ^ 63 ∧ wOpt (seqIndex? i l.length) fun j => wOpt l[j]? fun y => Q y (put S a (.lst (l.eraseIdx j)))
  | _, _ => False
theorem RepL.erase {c : Ctx} {Z : Hp} : ∀ {l : List D} {vs : List V} (n : Nat), RepL c Z l vs → RepL c Z (l.eraseIdx n) (vs.eraseIdx n)
  | [], _, _, r => by cases r; exact rfl
  | _ :: _, _, 0, r => by obtain ⟨v, t, rfl, q, r⟩ := r; exact r
  | _ :: _, _, n + 1, r => by obtain ⟨v, t, rfl, q, r⟩ := r; exact ⟨v, _, rfl, q, RepL.erase n r⟩
def mPopAt : Mt := ⟨"pop", "list", "list.pop", PySem.F.plainAttrs_list, PySem.F.slot_list_pop, PySem.F.type_list_pop, tyLst, tyLst_ok, wPopAt, fun c k X ok => by
  intro pins s σ H x xs v us Q I rx rxs hh
  obtain ⟨Z, S, d, ds, QD, R, r1, r2, hw, hq⟩ := hh
  cases d with
  | ref a =>
    match ds, hw, r2 with
    | [.int i], hw, r2 =>
      obtain ⟨w, rfl, rr2⟩ := r2.one
      cases r1; cases rr2
      obtain ⟨l, e, h1, h2, hw⟩ := hw
      obtain ⟨j, e2, hw⟩ := of_wOpt hw
      obtain ⟨y, e3, hw⟩ := of_wOpt hw
      obtain ⟨_, ob, q, vs, rfl, r⟩ := R.cl a _ e
      obtain ⟨vy, e4, ry⟩ := r.get e3
      refine mt_popAt pins s σ H _ _ v us Q I rx rxs ⟨a, vs, i, j, vy, rfl, rfl, q, h1, h2, by rw [r.length]; exact e2, e4, ?_⟩
      have rr : RepC c Z (.lst (l.eraseIdx j)) (.lst (vs.eraseIdx j)) := ⟨_, rfl, r.erase j⟩
      exact hq y vy Z _ _ (Nx.write e _ _) (R.write e rr) ry hw
  | _ => exact hw.elim⟩
def wIndex : D → List D → Store → QE → Prop := fun d ds S Q => match ds with
  | [y] => flatD y = true ∧ ∃ l, lstOf S d = some l ∧ l.all flatD = true ∧ wOpt (l.findIdx? fun z => eqV (vOf z) (vOf y)) fun j => Q (.int j) S
  | _ => False
def mIndex : Mt := ⟨"index", "list", "list.index", PySem.F.plainAttrs_list, PySem.F.slot_list_index, PySem.F.type_list_index, tyLst, tyLst_ok, wIndex, fun c k X ok => by
  intro pins s σ H x xs v us Q I rx rxs hh
  obtain ⟨Z, S, d, ds, QD, R, r1, r2, hw, hq⟩ := hh
  match ds, hw, r2 with
  | [y], hw, r2 =>
    obtain ⟨w, rfl, rr2⟩ := r2.one
    obtain ⟨f1, l, e, f2, hw⟩ := hw
    obtain ⟨j, e2, hw⟩ := of_wOpt hw
    obtain ⟨a, vs, rfl, s', rl⟩ := lstOf_ok R r1 e
    obtain ⟨rfl, b1⟩ := flat_ok f1 rr2
    obtain ⟨rfl, b2⟩ := flatL_ok f2 rl
    rw [List.findIdx?_eq_some_iff_getElem] at e2
    obtain ⟨hj, t1, t2⟩ := e2
    refine mt_index pins s σ H _ _ v us Q I rx rxs ⟨a, _, _, j, vOf l[j], rfl, rfl, by rw [ok.hK]; exact s', b1, b2, by simp [hj], t1, fun m z' hm hz => ?_, hq.go R (d := .int _) rfl hw⟩
    have hm' : m < l.length := by omega
    simp [hm'] at hz
    subst hz
    have := t2 m hm
    simpa using this⟩
def wSplit : D → List D → Store → QE → Prop := fun d ds S Q => match d, ds with
  | .str a, [.str b] => (b.length == 0) = false ∧ a.length + 2 ≤ big ∧ Q (.fl ((Txt.split a b).map D.str)) S
  | _, _ => False
def mSplit : Mt := ⟨"split", "str", "str.split", PySem.F.plainAttrs_str, PySem.F.slot_str_split, PySem.F.type_str_split, tyStr, tyStr_ok, wSplit, fun c k X ok => by
  intro pins s σ H x xs v us Q I rx rxs hh
  obtain ⟨Z, S, d, ds, QD, R, r1, r2, hw, hq⟩ := hh
  cases d with
  | str a =>
    match ds, hw, r2 with
    | [.str b], hw, r2 =>
      obtain ⟨w, rfl, rr2⟩ := r2.one
      cases r1; cases rr2
      exact mt_split pins s σ H _ _ v us Q I rx rxs ⟨a, b, rfl, rfl, hw.1, big_le hw.2.1, fun p hp => newL_ok (m := false) hw.2.2 R hq (RepL.ofStrs _) hp⟩
  | _ => exact hw.elim⟩
def wPart : D → List D → Store → QE → Prop := fun d ds S Q => match d, ds with
  | .str a, [.str b] => (b.length == 0) = false ∧ a.length ≤ big ∧ Q (.tup [.str (Txt.partition a b).1, .str (Txt.partition a b).2.1, .str (Txt.partition a b).2.2]) S
  | _, _ => False
def mPart : Mt := ⟨"partition", "str", "str.partition", PySem.F.plainAttrs_str, PySem.F.slot_str_partition, PySem.F.type_str_partition, tyStr, tyStr_ok, wPart, fun c k X ok => by
  intro pins s σ H x xs v us Q I rx rxs hh
  obtain ⟨Z, S, d, ds, QD, R, r1, r2, hw, hq⟩ := hh
  cases d with
  | str a =>
    match ds, hw, r2 with
    | [.str b], hw, r2 =>
      obtain ⟨w, rfl, rr2⟩ := r2.one
      cases r1; cases rr2
      refine mt_partition pins s σ H _ _ v us Q I rx rxs ⟨a, b, rfl, rfl, hw.1, big_le hw.2.1, fun p hp => ?_⟩
      obtain ⟨h1, h2⟩ := R.frozen hp (.tup [.str (Txt.partition a b).1, .str (Txt.partition a b).2.1, .str (Txt.partition a b).2.2])
      exact hq (.tup [.str (Txt.partition a b).1, .str (Txt.partition a b).2.1, .str (Txt.partition a b).2.2]) (.ref p) _ S _ (Nx.frozen (R.new hp).2 hp _) h2 ⟨p, _, rfl, SqT.of upd_same, _, _, rfl, rfl, _, _, rfl, rfl, _, _, rfl, rfl, rfl⟩ hw.2.2
  | _ => exact hw.elim⟩
def strsOf : List D → Option (List Str)
  | [] => some []
  | .str b :: r => (strsOf r).map (b :: ·)
  | _ :: _ => none
theorem strsOf_eq : ∀ {l : List D} {bs : List Str}, strsOf l = some bs → l = bs.map D.str
  | [], _, e => by cases e; rfl
  | .str b :: r, _, e => by
    simp only [strsOf, Option.map_eq_some_iff] at e
    obtain ⟨bs, e, rfl⟩ := e
    rw [strsOf_eq e]; rfl
  | .non :: _, _, e => by cases e
  | .int _ :: _, _, e => by cases e
  | .bl _ :: _, _, e => by cases e
  | .tup _ :: _, _, e => by cases e
  | .fl _ :: _, _, e => by cases e
  | .kl _ :: _, _, e => by cases e
  | .ptup _ :: _, _, e => by cases e
  | .obj _ _ :: _, _, e => by cases e
  | .dk _ :: _, _, e => by cases e
  | .di _ :: _, _, e => by cases e
  | .ref _ :: _, _, e => by cases e
  | .ty _ :: _, _, e => by cases e
  | .cls _ :: _, _, e => by cases e
  | .exc _ _ :: _, _, e => by cases e
  | .exv _ _ :: _, _, e => by cases e
theorem strsOf_map (bs : List Str) : strsOf (bs.map D.str) = some bs := by
  induction bs with
  | nil => rfl
  | cons b bs ih => simp [strsOf, ih]
def wJoin : D → List D → Store → QE → Prop := fun d ds S Q => match d, ds with
  | .str a, [e] => wSeq e S fun l => wOpt (strsOf l) fun ys => (ys.map (·.length)).sum + ys.length * a.length ≤ 16777216 ∧ Q (.str (Txt.join a ys)) S
  | _, _ => False
def mJoin : Mt := ⟨"join", "str", "str.join", PySem.F.plainAttrs_str, PySem.F.slot_str_join, PySem.F.type_str_join, tyStr, tyStr_ok, wJoin, fun c k X ok => by
  intro pins s σ H x xs v us Q I rx rxs hh
  obtain ⟨Z, S, d, ds, QD, R, r1, r2, hw, hq⟩ := hh
  cases d with
  | str a =>
    match ds, hw, r2 with
    | [e], hw, r2 =>
      obtain ⟨w, rfl, rr2⟩ := r2.one
      cases r1
      obtain ⟨l, e1, hw⟩ := of_wSeq hw
      obtain ⟨ys, e2, hl, hw⟩ := of_wOpt hw
      obtain ⟨p, vs, rfl, s', rl⟩ := seqOf_ok R rr2 e1
      have := rl.strs (strsOf_eq e2)
      subst this
      exact mt_join pins s σ H _ _ v us Q I rx rxs ⟨a, p, ys, rfl, rfl, by rw [ok.hK]; exact s', hl, hq.go R (d := .str _) rfl hw⟩
  | _ => exact hw.elim⟩
end L3
namespace L3
open PySem PySem.Spec PyProof.Rows L2
section
variable {X : Cx} {k : Nat} {C g : Addr} {fd : FuncData} {ps : List Str} {sp : Sp} {dvs : List V} {ds : List Value}
theorem run_below {A : Around} {pins : List (Addr × Obj)} {σ : L2.St} {H : Hp} {s : Shared} {Q : VK} {us : List Value} {vs : List V} {E' : Value → Shared → Prop} (F : FnOk X.prog X.w X.K X.mg X.base (L2.CX X.prog X.w) k g fd ps sp)
    (room : Room k A) (e0 : Env0 X.prog X.w X.K X.mg X.base A X.stack s H) (hb : Binds X.K fd ps ds) (hd : Vals dvs ds) (I : Inv X pins σ H s) (r : Vals vs us)
    (h : sp (vs ++ dvs) H Q (fun _ _ _ => False)) : wpAny (model X.prog X.w) A (call (.ref g) us) (EP X pins σ Q) E' s := by
  have ra := r.append hd
  have n1 : (us ++ ds).length = ps.length := ra.length.symm.trans (F.len _ _ _ _ h)
  refine wpAny_call (codeAny_mono (F.run A X.stack s H ⟨us, []⟩ _ _ Q _ room e0 (hb s us I.kIn n1) ra h) ?_)
  rintro (er | fl) s' z
  · exact (passL (X := X.nox) pins σ H s er s' (I.wish _) z).elim
  · cases fl with
    | ret u => exact I.after z
    | _ => exact z.elim
structure Own (K : PySem.W.Frag) (C : Addr) (m : Str) (g : Addr) : Prop where
  at_ : PySem.W.findIn K (.ref C) m = some (some (.ref g))
  fn : PySem.W.isFn K (.ref g) = true
theorem inst_of {pins : List (Addr × Obj)} {σ : L2.St} {H : Hp} {s : Shared} {a dx : Addr} {fs : List (Str × V)} (I : Inv X pins σ H s) (ea : H a = some (.ins C dx fs)) : ∃ od, PySem.W.InstAt s.heap a (PySem.W.instObj C dx) C (some od) := by
  obtain ⟨mA, O, _⟩ := ins_get I.hok ea
  obtain ⟨od, J, _⟩ := O.look
  exact ⟨od, J⟩
def TyL (K : PySem.W.Frag) (H : Hp) (y : V) (tb : Value) : Prop := TyX K H y tb ∨ ∃ b C dy gs, y = .ref b ∧ H b = some (.ins C dy gs) ∧ tb = .ref C
theorem TyL.looks {pins : List (Addr × Obj)} {σ : L2.St} {H : Hp} {s : Shared} {y : V} {u tb : Value} (I : Inv X pins σ H s) (ry : RelV y u) (h : TyL X.K H y tb) : PySem.W.Looks (model X.prog X.w) s.heap (typeOf u) tb := by
  rcases h with h | ⟨b, C, dy, gs, rfl, e, rfl⟩
  · obtain ⟨P, Z, p, _⟩ := kit_of I ry h
    exact Z.ty _ _ I.kIn p
  · cases (show u = Value.ref b from ry)
    obtain ⟨od, J⟩ := inst_of I e
    exact J.type
def rEqOwn (K : PySem.W.Frag) (C : Addr) (sp : Sp) (dvs : List V) (neg : Bool) : R2 := fun x y H Q => ∃ a dx fs tb, x = .ref a ∧ H a = some (.ins C dx fs) ∧ TyL K H y tb ∧ PySem.W.notFirst K C tb = true ∧
  sp ([x, y] ++ dvs) H (fun v H' => ∃ b, v = .bl b ∧ Q (.bl (neg != b)) H') fun _ _ _ => False
theorem bool_inst {A : Around} {s : Shared} {E : Value → Shared → Prop} {ox : Obj} {od : Option Obj} {a : Addr} {prog : Program} {w : World} {K : PySem.W.Frag} {Q : Value → Shared → Prop} (inK : K.In s.heap) (J : PySem.W.InstAt s.heap a ox C od)
    (o : Own K C "__bool__" g) (h : wpAny (model prog w) A.in1.in1 (call (.ref g) [.ref a]) (fun v s' => ∃ b, v = .bool b ∧ Q (.bool b) s') E s) : wpAny (model prog w) A (call (.type "bool") [.ref a]) Q E s := by
  refine callType_codes (T := "bool") (Bi := Builtin.«object.__init__») (Q₁ := fun r s₁ => ∃ b, r = .bool b ∧ Q r s₁) PySem.F.called_bool (PySem.F.typeCall_bool_1 _) PySem.F.entry_object_init ?_ ?_
  · refine codeAny_of_tree ?_
    show wpAny _ A.in1.in1 (do checkBuiltinCall "bool.__new__" ⟨[.type "bool", .ref a], []⟩; again (.builtin "bool.__new__" ⟨[.type "bool", .ref a], []⟩)) _ _ s
    refine wpAny_bind (wpAny_of_eq (PySem.F.newCall_bool_1 _) (wpAny_pure ⟨plainId_quiet (by decide +kernel) _, codeAny_builtin PySem.F.entry_bool_new ?_⟩))
    rw [Around.under_plainId (by decide +kernel) _]
    have f1 := PySem.F.conv_sub_bool
    unfold Builtin.«bool.__new__»
    refine wpAny_bind (wpAny_of_eq (a := true) rfl ?_)
    refine PySem.W.KFB.if_not rfl ?_
    refine wpAny_bind (wpAny_of_eq (a := true) f1 ?_)
    refine PySem.W.KFB.if_not rfl ?_
    refine wpAny_bind (m := someArgs "bool" 0 1 _) (wpAny_pure ?_)
    refine wpAny_bind (m := truthy (.ref a)) ?_
    unfold truthy
    refine wpAny_bind (m := callSpecial? (.ref a) (Str.ofString "__bool__")) (PySem.W.special_fn inK J o.at_ (beq_iff_eq.mp o.fn) (wpAny_mono h (fun r s' z => ?_) fun _ _ y => y))
    obtain ⟨b, rfl, q⟩ := z
    exact wpAny_pure (wpAny_pure ⟨b, rfl, q⟩)
  · rintro obj s₁ ⟨b, rfl, q⟩
    exact ⟨PySem.typeIs_bool _ _, PySem.F.args_object_init_2 _ _, object_init_meets PySem.F.called_bool.init.lookup PySem.F.called_bool.made (by decide) prog w A.in1 _ s₁ ⟨PySem.typeIs_bool _ _, rfl, q⟩⟩
inductive SpF where
  | str | repr | bool | len
def SpF.nm : SpF → Str
  | .str => "str"
  | .repr => "repr"
  | .bool => "bool"
  | .len => "len"
def SpF.m : SpF → Str
  | .str => "__str__"
  | .repr => "__repr__"
  | .bool => "__bool__"
  | .len => "__len__"
def SpF.val : SpF → Value
  | .str => .type "str"
  | .repr => .builtin "repr"
  | .bool => .type "bool"
  | .len => .builtin "len"
def SpF.res : SpF → V → Prop
  | .str, v => ∃ x, v = .str x
  | .repr, v => ∃ x, v = .str x
  | .bool, v => ∃ b, v = .bl b
  | .len, v => ∃ n : Nat, v = .int n ∧ n < 2 ^ 62
theorem call_own (f : SpF) (o : Own X.K C f.m g) (F : FnOk X.prog X.w X.K X.mg X.base (L2.CX X.prog X.w) k g fd ps sp) (room : Room (k + 2) X.A) (hb : Binds X.K fd ps ds) (hd : Vals dvs ds) :
    CallR X f.val (fun xs H Q => ∃ a dx fs, xs = [.ref a] ∧ H a = some (.ins C dx fs) ∧ sp (.ref a :: dvs) H (fun v H' => f.res v ∧ Q v H') fun _ _ _ => False) := by
  intro pins s σ H xs us Q I r h
  obtain ⟨a, dx, fs, rfl, ea, q⟩ := h
  obtain ⟨u, rfl, ru⟩ := r.one
  cases (show u = Value.ref a from ru)
  obtain ⟨od, J⟩ := inst_of I ea
  obtain ⟨m, hF⟩ := I.fr
  have r1 : Vals [V.ref a] [Value.ref a] := .cons rfl .nil
  have u1 : X.A.in1.in1.units < cLine := by have := room.b.un; show X.A.units + 1 + 1 < cLine; omega
  have b1 : wpAny (model X.prog X.w) X.A.in1 (call (.ref g) [.ref a]) (EP X pins σ fun v H' => f.res v ∧ Q v H') X.xe s :=
    run_below (A := X.A.in1) F ((room.in1).mono (Nat.le_succ k)) I.env0.in1 hb hd I r1 q
  have b2 : wpAny (model X.prog X.w) X.A.in1.in1 (call (.ref g) [.ref a]) (EP X pins σ fun v H' => f.res v ∧ Q v H') X.xe s :=
    run_below (A := X.A.in1.in1) F room.in1.in1 I.env0.in1.in1 hb hd I r1 q
  cases f with
  | str =>
    refine PySem.W.kso_call u1 I.kIn J o.at_ o.fn (wpAny_mono b2 (fun w s' z => ?_) fun _ _ y => y)
    obtain ⟨v, H', I', rv, ⟨x, rfl⟩, q'⟩ := z
    obtain ⟨t, rfl⟩ := rv
    exact ⟨.str x, H', I', ⟨t, rfl⟩, q'⟩
  | repr =>
    refine PySem.W.repr_K (by have := room.b.un; show X.A.units + 1 < cLine; omega) hF I.ok.mod.kin J o.at_ o.fn (wpAny_mono b1 (fun w s' z => ?_) fun _ _ y => y)
    obtain ⟨v, H', I', rv, ⟨x, rfl⟩, q'⟩ := z
    obtain ⟨t, rfl⟩ := rv
    exact ⟨.str x, H', I', ⟨t, rfl⟩, q'⟩
  | bool =>
    refine bool_inst I.kIn J o (wpAny_mono b2 (fun w s' z => ?_) fun _ _ y => y)
    obtain ⟨v, H', I', rv, ⟨b, rfl⟩, q'⟩ := z
    cases rv
    exact ⟨b, rfl, .bl b, H', I', rfl, q'⟩
  | len =>
    refine PySem.W.len_K hF I.ok.mod.kin J o.at_ o.fn (wpAny_mono b1 (fun w s' z => ?_) fun _ _ y => y)
    obtain ⟨v, H', I', rv, ⟨n, rfl, hn⟩, q'⟩ := z
    obtain ⟨t, rfl⟩ := rv
    exact ⟨⟨by omega, by omega⟩, .int n, H', I'.tok _, ⟨_, rfl⟩, q'⟩
end
end L3
namespace L3
open PySem PySem.Spec PyProof.Rows L2
def KOwn (c : Ctx) (k : Nat) (X : Rn) (cl : Nat) (m : Str) (sp : DSp) : Prop :=
  ∃ (C g : Addr) (k' : Nat), k' + 2 ≤ k ∧ c.cn cl = some C ∧ Own X.K C m g ∧ KF c k' X g sp
def tyW (ks : List Nat) (y : D) (S : Store) (K : Prop) : Prop := match y with
  | .non => K
  | .bl _ => K
  | .int _ => K
  | .str _ => K
  | .tup _ => K
  | .fl _ => K
  | .kl _ => K
  | .dk _ => K
  | .obj k _ => memW k ks K
  | .ref a => ∃ x, S a = some x ∧ match x with
    | .lst _ => K
    | .dct _ => K
    | .ins k _ => memW k ks K
  | _ => False
theorem tyW_ok {c : Ctx} {K0 : PySem.W.Frag} {Z : Hp} {S : Store} {H : Hp} {ks : List Nat} {y : D} {v : V} {K : Prop} (hK : K0 = c.K) (R : Rel c Z S H) (rd : RepD c Z y v) (h : tyW ks y S K) :
    K ∧ ((∃ t ∈ tyNames, TyX K0 H v (.type t)) ∨ ∃ b j D dy gs, v = .ref b ∧ H b = some (.ins D dy gs) ∧ j ∈ ks ∧ c.cn j = some D) := by
  cases y with
  | non => cases rd; exact ⟨h, .inl ⟨_, by decide, .base .non⟩⟩
  | bl b => cases rd; exact ⟨h, .inl ⟨_, by decide, .base (.bl b)⟩⟩
  | int i => cases rd; exact ⟨h, .inl ⟨_, by decide, .base (.int i)⟩⟩
  | str x => cases rd; exact ⟨h, .inl ⟨_, by decide, .base (.str x)⟩⟩
  | tup l =>
    obtain ⟨a, vs, rfl, q, r⟩ := rd
    refine ⟨h, .inl ⟨"tuple", by decide, ?_⟩⟩
    rcases SqT.le R.fz q with (e | ⟨o, e⟩) | ⟨o, its, n, hk, hc, _⟩
    · exact .base (.tup e)
    · exact .fTuple e
    · exact .kTuple (by rw [hK]; exact hk) hc
  | fl l =>
    obtain ⟨a, vs, rfl, q, r⟩ := rd
    exact ⟨h, .inl ⟨"list", by decide, .base (.lst (R.fz _ _ q))⟩⟩
  | kl l =>
    obtain ⟨a, vs, rfl, q, r⟩ := rd
    refine ⟨h, .inl ⟨"list", by decide, ?_⟩⟩
    rcases SqL.le R.fz q with (e | ⟨o, e⟩) | ⟨o, its, n, hk, hc, _⟩
    · exact .base (.lst e)
    · exact .base (.frz e)
    · exact .kList (by rw [hK]; exact hk) hc
  | dk l =>
    obtain ⟨a, kvs, rfl, q, r⟩ := rd
    exact ⟨h, .inl ⟨"dict", by decide, .base (.dK (R.fz _ _ q))⟩⟩
  | obj j fs =>
    obtain ⟨a, C, dx, vfs, rfl, hC, hz, rf⟩ := rd
    obtain ⟨hj, q⟩ := of_memW h
    exact ⟨q, .inr ⟨a, j, C, dx, vfs, rfl, R.fz _ _ hz, hj, hC⟩⟩
  | ref a =>
    cases rd
    obtain ⟨x, e, h⟩ := h
    obtain ⟨_, ob, hH, rc⟩ := R.cl a x e
    cases x with
    | lst l => obtain ⟨vs, rfl, _⟩ := rc; exact ⟨h, .inl ⟨_, by decide, .base (.lst hH)⟩⟩
    | dct l => obtain ⟨vs, rfl, _⟩ := rc; exact ⟨h, .inl ⟨_, by decide, .base (.dK hH)⟩⟩
    | ins j fs =>
      obtain ⟨C, dx, vfs, rfl, hC, rf⟩ := rc
      obtain ⟨hj, q⟩ := of_memW h
      exact ⟨q, .inr ⟨a, j, C, dx, vfs, rfl, hH, hj, hC⟩⟩
  | _ => exact h.elim
theorem wFld_ins {c : Ctx} {Z : Hp} {S : Store} {H : Hp} {cl : Nat} {d : D} {v : V} {k : List (Nat × D) → Prop} (R : Rel c Z S H) (rd : RepD c Z d v) (h : wFld cl d S k) :
    ∃ a C dx vfs fs, v = .ref a ∧ H a = some (.ins C dx vfs) ∧ c.cn cl = some C ∧ k fs := by
  cases d with
  | obj j fs =>
    obtain ⟨a, C, dx, vfs, rfl, hC, hz, rf⟩ := rd
    obtain ⟨rfl, q⟩ := h
    exact ⟨a, C, dx, vfs, fs, rfl, R.fz _ _ hz, hC, q⟩
  | ref a =>
    cases rd
    obtain ⟨fs, e, q⟩ := h
    obtain ⟨_, ob, hH, rc⟩ := R.cl a _ e
    obtain ⟨C, dx, vfs, rfl, hC, rf⟩ := rc
    exact ⟨a, C, dx, vfs, fs, rfl, hH, hC, q⟩
  | _ => exact h.elim
def wEqO (cl : Nat) (ks : List Nat) (sp : DSp) (neg : Bool) : D → D → Store → QE → Prop := fun x y S Q =>
  wFld cl x S fun _ => tyW ks y S (sp [x, y] S (fun d S' => ∃ b, d = .bl b ∧ Q (.bl (neg != b)) S') noX)
def nfOk (c : Ctx) (X : Rn) (cl : Nat) (ks : List Nat) : Prop := ∀ C, c.cn cl = some C → (∀ t ∈ tyNames, PySem.W.notFirst X.K C (.type t) = true) ∧ ∀ j ∈ ks, ∀ D, c.cn j = some D → PySem.W.notFirst X.K C (.ref D) = true
theorem eqO_ok {c : Ctx} {k : Nat} {X : Cx} {cl : Nat} {ks : List Nat} {sp : DSp} {neg : Bool} {op : CmpOp} (ok : XOk c k X) (nf : nfOk c (rn X) cl ks) (ko : KOwn c k (rn X) cl "__eq__" sp)
    (hop : ∀ (C g : Addr) (k' : Nat) (fd : FuncData) (ps : List Str) (spH : Sp) (dvs : List V) (ds : List Value), Own X.K C "__eq__" g → c.cn cl = some C → FnOk X.prog X.w X.K X.mg X.base (L2.CX X.prog X.w) k' g fd ps spH → Room (k' + 2) X.A →
      Binds X.K fd ps ds → Vals dvs ds → OpR X (compareOp op) (rEqOwn X.K C spH dvs neg)) : OpR X (compareOp op) (l2 c (wEqO cl ks sp neg)) := by
  obtain ⟨C, g, k', hk, hC, o, fd, ps, ds, dvs, spH, F, hb, hd, hi⟩ := ko
  intro pins s σ H x y v u Q I rx ry hh
  obtain ⟨Z, S, dx, dy, QD, R, r1, r2, hw, hq⟩ := hh
  obtain ⟨a, C', dxx, vfs, fs, rfl, ea, hC', hw⟩ := wFld_ins R r1 hw
  rw [hC] at hC'; cases hC'
  obtain ⟨hw, ht⟩ := tyW_ok ok.hK R r2 hw
  obtain ⟨nf1, nf2⟩ := nf C hC
  have tl : ∃ tb, TyL X.K H y tb ∧ PySem.W.notFirst X.K C tb = true := by
    rcases ht with ⟨t, m, ty⟩ | ⟨b, j, D, dy, gs, rfl, eb, hj, hD⟩
    · exact ⟨_, .inl ty, nf1 t m⟩
    · exact ⟨_, .inr ⟨b, D, dy, gs, rfl, eb, rfl⟩, nf2 j hj D hD⟩
  obtain ⟨tb, t1, t2⟩ := tl
  refine hop C g k' fd ps spH dvs ds o hC F (ok.room.mono hk) hb hd pins s σ H _ y v u Q I rx ry ⟨a, dxx, vfs, tb, rfl, ea, t1, t2, ?_⟩
  have r12 : RepL c Z [dx, dy] [V.ref a, y] := ⟨_, _, rfl, r1, _, _, rfl, r2, rfl⟩
  refine lift_of hi R r12 hw ?_ ?_
  · rintro d v' Z' S' H' l R' rd ⟨b, rfl, q⟩
    cases rd
    exact ⟨b, rfl, hq (.bl (neg != b)) _ Z' S' H' l R' rfl q⟩
  · intro z Z' S' H' cls dd l R' rx' q
    exact q
def SfOk (c : Ctx) (X : Rn) (cl : Nat) : Prop := ∀ C, c.cn cl = some C → PySem.W.selfFirst X.K C = true
theorem SpF.bt (f : SpF) : bootBuiltins f.nm = some f.val := by cases f <;> decide +kernel
theorem SpF.kd (f : SpF) : (∃ id, f.val = .builtin id) ∨ ∃ T, f.val = .type T := by cases f <;> first | exact .inl ⟨_, rfl⟩ | exact .inr ⟨_, rfl⟩
end L3
namespace L3
open PySem PySem.Spec PyProof.Rows L2
section
variable {S : Store} {Q : QE} {E : QX} {a b : Int} {x y : Str}
theorem w_sub : oSub.w (.int a) (.int b) S Q = Q (.int (a - b)) S := rfl
theorem w_add {m : Bool} : (oAdd m).w (.int a) (.int b) S Q = Q (.int (a + b)) S := rfl
theorem w_adds {m : Bool} : (oAdd m).w (.str x) (.str y) S Q = (x.length + y.length ≤ big ∧ Q (.str (x ++ y)) S) := rfl
theorem w_addt {m : Bool} {l k : List D} : (oAdd m).w (.tup l) (.tup k) S Q = (l.length + k.length ≤ big ∧ Q (.tup (l ++ k)) S) := rfl
theorem w_addl {m : Bool} {l k : List D} : (oAdd m).w (.fl l) (.fl k) S Q = (l.length + k.length ≤ big ∧ newL m (l ++ k) S Q) := rfl
theorem w_mul : oMul.w (.int a) (.int b) S Q = (mulOk a b ∧ Q (.int (a * b)) S) := rfl
theorem w_mod : oMod.w (.int a) (.int b) S Q = (b ≠ 0 ∧ Q (.int (a.fmod b)) S) := rfl
theorem w_fdiv : oFdiv.w (.int a) (.int b) S Q = (fdOk a b ∧ Q (.int (a.fdiv b)) S) := rfl
theorem w_pow : oPow.w (.int a) (.int b) S Q = (CPow a b ∧ Q (.int (a ^ b.toNat)) S) := rfl
theorem w_neg : uNeg.w (.int a) S Q = Q (.int (-a)) S := rfl
theorem w_lt : cLt.w (.int a) (.int b) S Q = Q (.bl (decide (a < b))) S := rfl
theorem w_le : cLe.w (.int a) (.int b) S Q = Q (.bl (decide (a ≤ b))) S := rfl
theorem w_gt : cGt.w (.int a) (.int b) S Q = Q (.bl (decide (b < a))) S := rfl
theorem w_ge : cGe.w (.int a) (.int b) S Q = Q (.bl (decide (b ≤ a))) S := rfl
theorem w_eq : cEq.w (.int a) (.int b) S Q = Q (.bl (decide (a = b))) S := rfl
theorem w_ne : cNe.w (.int a) (.int b) S Q = Q (.bl (!decide (a = b))) S := rfl
theorem w_eqs : cEq.w (.str x) (.str y) S Q = Q (.bl (decide (x = y))) S := rfl
theorem w_nes : cNe.w (.str x) (.str y) S Q = Q (.bl (!decide (x = y))) S := rfl
theorem w_is {d : D} : cIs.w d .non S Q = Q (.bl (isNon d)) S := rfl
theorem w_isn {d : D} : cIsNot.w d .non S Q = Q (.bl (!isNon d)) S := rfl
theorem w_abs : bAbs.w [.int a] S Q = Q (.int a.natAbs) S := rfl
theorem w_lens : bLen.w [.str x] S Q = (x.length ≤ big ∧ Q (.int x.length) S) := rfl
theorem w_lent {l : List D} : bLen.w [.tup l] S Q = Q (.int l.length) S := rfl
theorem w_lenl {l : List D} : bLen.w [.fl l] S Q = Q (.int l.length) S := rfl
theorem w_lenk {l : List D} : bLen.w [.kl l] S Q = Q (.int l.length) S := rfl
theorem w_lend {l : List (Str × D)} : bLen.w [.dk l] S Q = Q (.int l.length) S := rfl
theorem w_lenr {p : Addr} : bLen.w [.ref p] S Q = ∃ l, S p = some (.lst l) ∧ Q (.int l.length) S := rfl
theorem w_divmod : bDivmod.w [.int a, .int b] S Q = (0 < b ∧ b.natAbs < 1073741824 ∧ Q (.tup [.int (a / b), .int (a % b)]) S) := rfl
theorem w_max : bMax.w [.int a, .int b] S Q = Q (.int (max a b)) S := rfl
theorem w_min : bMin.w [.int a, .int b] S Q = Q (.int (min a b)) S := rfl
theorem w_int : bInt.w [.int a] S Q = Q (.int a) S := rfl
theorem w_intb {t : Bool} : bInt.w [.bl t] S Q = Q (.int (if t then 1 else 0)) S := rfl
theorem w_ints : bInt.w [.str x] S Q = (x.length ≤ 640 ∧ wOpt (PySem.intText? x) fun n => Q (.int n) S) := rfl
theorem w_str : bStr.w [.int a] S Q = (a.natAbs.log2 < 1920 ∧ Q (.str (toString a)) S) := rfl
theorem w_strs : bStr.w [.str x] S Q = Q (.str x) S := rfl
theorem w_tupl {l : List D} : bTuple.w [.fl l] S Q = Q (.tup l) S := rfl
theorem w_tupt {l : List D} : bTuple.w [.tup l] S Q = Q (.tup l) S := rfl
theorem w_tupr {p : Addr} : bTuple.w [.ref p] S Q = ∃ l, S p = some (.lst l) ∧ Q (.tup l) S := rfl
theorem w_lstl {m : Bool} {l : List D} : (bList m).w [.fl l] S Q = newL m l S Q := rfl
theorem w_lstt {m : Bool} {l : List D} : (bList m).w [.tup l] S Q = newL m l S Q := rfl
theorem w_all {l : List Bool} : bAll.w [.fl (l.map D.bl)] S Q = Q (.bl (l.all id)) S := by
  show wOpt (boolsOf (l.map D.bl)) _ = _
  rw [boolsOf_map]; rfl
theorem w_ixt {l : List D} : iAt.w (.tup l) (.int a) S Q = wOpt (atI l a) fun d => Q d S := rfl
theorem w_ixl {l : List D} : iAt.w (.fl l) (.int a) S Q = wOpt (atI l a) fun d => Q d S := rfl
theorem w_ixk {l : List D} : iAt.w (.kl l) (.int a) S Q = wOpt (atI l a) fun d => Q d S := rfl
theorem w_ixr {p : Addr} : iAt.w (.ref p) (.int a) S Q = ∃ l, S p = some (.lst l) ∧ wOpt (atI l a) fun d => Q d S := rfl
theorem w_ixs : iAt.w (.str x) (.int a) S Q = (x.length ≤ big ∧ wOpt (atI x.cps.toList a) fun ch => Q (.str ⟨#[ch]⟩) S) := rfl
theorem w_cuts {m : Bool} {lo hi : Option Int} : (sCut m).w (.str x) lo hi S Q = (x.length ≤ big ∧ Q (.str (cutS x lo hi)) S) := rfl
theorem w_cutt {m : Bool} {l : List D} {lo hi : Option Int} : (sCut m).w (.tup l) lo hi S Q = Q (.tup (cutD l lo hi)) S := rfl
theorem w_cutl {m : Bool} {l : List D} {lo hi : Option Int} : (sCut m).w (.fl l) lo hi S Q = newL m (cutD l lo hi) S Q := rfl
theorem w_cutk {m : Bool} {l : List D} {lo hi : Option Int} : (sCut m).w (.kl l) lo hi S Q = newL m (cutD l lo hi) S Q := rfl
theorem w_set {p : Addr} {d : D} {k : Store → Prop} : tSet.w (.ref p) (.int a) d S k = ∃ l, S p = some (.lst l) ∧ wOpt (ixN l.length a) fun j => k (put S p (.lst (l.set j d))) := rfl
theorem w_app {p : Addr} {d : D} : mAppend.w (.ref p) [d] S Q = ∃ l, S p = some (.lst l) ∧ l.length < big ∧ Q .non (put S p (.lst (l ++ [d]))) := rfl
theorem ty_app {p : Addr} : mAppend.ty (.ref p) S = ∃ l, S p = some (.lst l) := rfl
theorem w_popat {p : Addr} : mPopAt.w (.ref p) [.int a] S Q = ∃ l, S p = some (.lst l) ∧ -(2 ^ 63) ≤ a ∧ a < 2 ^ 63 ∧ wOpt (seqIndex? a l.length) fun j => wOpt l[j]? fun y => Q y (put S p (.lst (l.eraseIdx j))) := rfl
theorem ty_popat {p : Addr} : mPopAt.ty (.ref p) S = ∃ l, S p = some (.lst l) := rfl
theorem ty_split : mSplit.ty (.str x) S = True := rfl
theorem w_split : mSplit.w (.str x) [.str y] S Q = ((y.length == 0) = false ∧ x.length + 2 ≤ big ∧ Q (.fl ((Txt.split x y).map D.str)) S) := rfl
theorem ty_part : mPart.ty (.str x) S = True := rfl
theorem w_part : mPart.w (.str x) [.str y] S Q = ((y.length == 0) = false ∧ x.length ≤ big ∧ Q (.tup [.str (Txt.partition x y).1, .str (Txt.partition x y).2.1, .str (Txt.partition x y).2.2]) S) := rfl
theorem ty_join : mJoin.ty (.str x) S = True := rfl
theorem w_joinl {l : List Str} : mJoin.w (.str x) [.fl (l.map D.str)] S Q = ((l.map (·.length)).sum + l.length * x.length ≤ 16777216 ∧ Q (.str (Txt.join x l)) S) := by
  show wOpt (strsOf (l.map D.str)) _ = _
  rw [strsOf_map]; rfl
theorem w_joinr {p : Addr} : mJoin.w (.str x) [.ref p] S Q = ∃ l, S p = some (.lst l) ∧ wOpt (strsOf l) fun ys => (ys.map (·.length)).sum + ys.length * x.length ≤ 16777216 ∧ Q (.str (Txt.join x ys)) S := rfl
theorem ty_indexl {l : List D} : mIndex.ty (.fl l) S = True := rfl
theorem wOpt_s {α : Type} {d : α} {k : α → Prop} : wOpt (some d) k = k d := rfl
theorem leW_iff {n m : Nat} {K : Prop} : leW n m K = (n ≤ m ∧ K) := propext ⟨of_leW, fun h => leW_of h.1 h.2⟩
theorem eqW_iff {n m : Nat} {K : Prop} : eqW n m K = (n = m ∧ K) := propext ⟨of_eqW, fun h => eqW_of h.1 h.2⟩
theorem newL_f {l : List D} : newL false l S Q = Q (.fl l) S := rfl
theorem newL_t {l : List D} : newL true l S Q = ∀ p, S p = none → Q (.ref p) (put S p (.lst l)) := rfl
theorem wInt_i {k : Int → Prop} : wInt (.int a) k = k a := rfl
theorem fmt_s {k : Str → Prop} : fmtW (.str x) k = leW x.length big (k x) := rfl
theorem fmt_i {k : Str → Prop} : fmtW (.int a) k = (a.natAbs.log2 < 1920 ∧ k (toString a)) := rfl
theorem wTup_t {l : List D} {n : Nat} {k : List D → Prop} : wTup (.tup l) n k = eqW l.length n (k l) := rfl
theorem bolD_b {t : Bool} {k : Bool → Prop} : bolD (.bl t) k = k t := rfl
theorem big_eq : big = 16777216 := rfl
end
section
variable {S : Store} {Q : QE} {x y : Str}
theorem w_ins {c : Nat} : cIn.w (.str ⟨#[c]⟩) (.str y) S Q = Q (.bl (decide (c ∈ y.cps.toList))) S := by
  show (∃ ch : Nat, D.str ⟨#[c]⟩ = .str ⟨#[ch]⟩ ∧ Q (.bl (decide (ch ∈ y.cps.toList))) S) = _
  apply propext
  constructor
  · rintro ⟨ch, e, h⟩
    simp only [D.str.injEq, Str.mk.injEq, Array.mk.injEq, List.cons.injEq, and_true] at e
    subst e; exact h
  · intro h; exact ⟨c, rfl, h⟩
theorem w_notins {c : Nat} : cNotIn.w (.str ⟨#[c]⟩) (.str y) S Q = Q (.bl (!decide (c ∈ y.cps.toList))) S := by
  show (∃ ch : Nat, D.str ⟨#[c]⟩ = .str ⟨#[ch]⟩ ∧ Q (.bl (!decide (ch ∈ y.cps.toList))) S) = _
  apply propext
  constructor
  · rintro ⟨ch, e, h⟩
    simp only [D.str.injEq, Str.mk.injEq, Array.mk.injEq, List.cons.injEq, and_true] at e
    subst e; exact h
  · intro h; exact ⟨c, rfl, h⟩
theorem inF_str {l : List Str} : inF (.str x) (l.map D.str) = decide (x ∈ l) := by
  unfold inF
  rw [List.any_map]
  induction l with
  | nil => rfl
  | cons z l ih =>
    rw [List.any_cons, ih]
    show (z == x || _) = _
    by_cases h : z = x
    · subst h; simp
    · have : ¬ x = z := fun e => h e.symm
      simp [h, this]
theorem flat_strs {l : List Str} : (l.map D.str).all flatD = true := by
  rw [List.all_map]; exact List.all_eq_true.mpr fun _ _ => rfl
theorem w_in_strt {l : List Str} : cIn.w (.str x) (.tup (l.map D.str)) S Q = Q (.bl (decide (x ∈ l))) S := by
  show (flatD (.str x) = true ∧ (l.map D.str).all flatD = true ∧ Q (.bl (id (inF (.str x) (l.map D.str)))) S) = _
  rw [flat_strs, inF_str]
  simp [flatD]
theorem w_nin_strt {l : List Str} : cNotIn.w (.str x) (.tup (l.map D.str)) S Q = Q (.bl (!decide (x ∈ l))) S := by
  show (flatD (.str x) = true ∧ (l.map D.str).all flatD = true ∧ Q (.bl (!(inF (.str x) (l.map D.str)))) S) = _
  rw [flat_strs, inF_str]
  simp [flatD]
theorem isW_strE {n : Str} {m : String} {ks : List Nat} {k : Bool → Prop} : isW (.bt n m) ks (.str x) S k = k (tySub "str" m) := rfl
theorem isW_tupE {n : Str} {m : String} {l : List D} {ks : List Nat} {k : Bool → Prop} : isW (.bt n m) ks (.tup l) S k = k (tySub "tuple" m) := rfl
theorem isW_intE {n : Str} {m : String} {i : Int} {ks : List Nat} {k : Bool → Prop} : isW (.bt n m) ks (.int i) S k = k (tySub "int" m) := rfl
theorem ty_ss : tySub "str" "str" = true := by decide
theorem ty_tt : tySub "tuple" "tuple" = true := by decide
theorem ty_ii : tySub "int" "int" = true := by decide
theorem ty_ib : tySub "int" "bool" = false := by decide
end
theorem wB_of {s : CS} {r : CB} {E : EndsD} {ρ : Env} {S : Store} (h : wS s { E with nx := fun ρ1 S1 => wB r E ρ1 S1 } ρ S) : wB (.cons s r) E ρ S := h
theorem wB_nil {E : EndsD} {ρ : Env} {S : Store} : wB .nil E ρ S = E.nx ρ S := rfl
def defE (S0 : Store) (Q : QE) (E : QX) : EndsD := { nx := fun _ S1 => ∃ S2, Sub S2 S1 ∧ Q .non S2, rt := fun d S1 => ∃ d' F S2, Fz S1 F d d' ∧ FzS S1 F S2 ∧ Q d' S2, ex := fun _ x S1 => ∃ S2, Sub S2 S1 ∧ E x S2 }
theorem bodyW_of {n : Nat} {cb : CB} {ds : List D} {S : Store} {Q : QE} {E : QX} (h : wB cb (defE S Q E) (startD n ds) S) : bodyW n cb ds S Q E := h
theorem dE_rt {S0 S : Store} {Q : QE} {E : QX} {d : D} : (defE S0 Q E).rt d S = ∃ d' F S2, Fz S F d d' ∧ FzS S F S2 ∧ Q d' S2 := rfl
theorem dE_nx {S0 S : Store} {Q : QE} {E : QX} {ρ : Env} : (defE S0 Q E).nx ρ S = ∃ S2, Sub S2 S ∧ Q .non S2 := rfl
theorem dE_ex {S0 S : Store} {Q : QE} {E : QX} {ρ : Env} {x : Exc} : (defE S0 Q E).ex ρ x S = ∃ S2, Sub S2 S ∧ E x S2 := rfl
theorem rt_plain {d : D} {S1 S2 : Store} {Q : QE} (h : Sub S2 S1) (q : Q d S2) : ∃ d' F S2, Fz S1 F d d' ∧ FzS S1 F S2 ∧ Q d' S2 := ⟨d, _, S2, .rfl d, FzS.none h, q⟩
theorem rt_same {d : D} {S : Store} {Q : QE} (q : Q d S) : ∃ d' F S2, Fz S F d d' ∧ FzS S F S2 ∧ Q d' S2 := rt_plain (Sub.refl S) q
theorem put_put {S : Store} {p : Addr} {x y : Cell} : put (put S p x) p y = put S p y := by
  funext b; unfold put; split <;> rfl
theorem Sub.puts {S0 S : Store} {p : Addr} {x : Cell} (h : Sub S0 S) (hp : S0 p = none) : Sub S0 (L3.put S p x) := fun a y e => by
  have z : a ≠ p := by intro z; subst z; rw [hp] at e; cases e
  rw [put_ne z]; exact h a y e
theorem w_eqfr {a b c d : Int} {S : Store} {Q : QE} : cEq.w (.tup [.int a, .int b]) (.tup [.int c, .int d]) S Q = Q (.bl (decide (a = c ∧ b = d))) S := by
  show (wOpt (py S (.tup [.int a, .int b])) fun u => wOpt (py S (.tup [.int c, .int d])) fun v => SeqAt.shaped u = true ∧ SeqAt.shaped v = true ∧ Q (.bl (PyData.eqv u v)) S) = _
  show (SeqAt.shaped (.tuple [.int a, .int b]) = true ∧ SeqAt.shaped (.tuple [.int c, .int d]) = true ∧ Q (.bl (PyData.eqv (.tuple [.int a, .int b]) (.tuple [.int c, .int d]))) S) = _
  have h1 : ∀ x y : Int, SeqAt.shaped (.tuple [.int x, .int y]) = true := fun x y => by
    simp [SeqAt.shaped, PyData.canLay0, PyData.canLayAll0, PyData.depth, PyData.depthAll]
  have h2 : PyData.eqv (.tuple [.int a, .int b]) (.tuple [.int c, .int d]) = decide (a = c ∧ b = d) := by
    simp [PyData.eqv, PyData.eqvAll, Bool.decide_and]
    rfl
  rw [h1, h1, h2]; simp
theorem w_nefr {a b c d : Int} {S : Store} {Q : QE} : cNe.w (.tup [.int a, .int b]) (.tup [.int c, .int d]) S Q = Q (.bl (!decide (a = c ∧ b = d))) S := by
  show (wOpt (py S (.tup [.int a, .int b])) fun u => wOpt (py S (.tup [.int c, .int d])) fun v => SeqAt.shaped u = true ∧ SeqAt.shaped v = true ∧ Q (.bl (!PyData.eqv u v)) S) = _
  show (SeqAt.shaped (.tuple [.int a, .int b]) = true ∧ SeqAt.shaped (.tuple [.int c, .int d]) = true ∧ Q (.bl (!PyData.eqv (.tuple [.int a, .int b]) (.tuple [.int c, .int d]))) S) = _
  have h1 : ∀ x y : Int, SeqAt.shaped (.tuple [.int x, .int y]) = true := fun x y => by
    simp [SeqAt.shaped, PyData.canLay0, PyData.canLayAll0, PyData.depth, PyData.depthAll]
  have h2 : PyData.eqv (.tuple [.int a, .int b]) (.tuple [.int c, .int d]) = decide (a = c ∧ b = d) := by
    simp [PyData.eqv, PyData.eqvAll, Bool.decide_and]
    rfl
  rw [h1, h1, h2]; simp
theorem for_by {α : Type} {en : α → D} {st : D → WS} {E : EndsD} {G : Grd} (I : List α → Env → Store → Prop) (gd : ∀ l ρ S, I l ρ S → G S)
    (step : ∀ x l ρ S, I (x :: l) ρ S → ∀ K : Env → Store → Prop, (∀ ρ' S' S'', Sub S'' S' → I l ρ' S'' → K ρ' S') → st (en x) { E with nx := K } ρ S) (fin : ∀ ρ S, I [] ρ S → E.nx ρ S) :
    ∀ (l : List α) (ρ : Env) (S : Store), I l ρ S → forL st G (l.map en) E ρ S
  | [], ρ, S, i => ⟨gd _ _ _ i, fin _ _ i⟩
  | x :: l, ρ, S, i => ⟨gd _ _ _ i, step x l ρ S i _ fun ρ' S' S'' s i' => ⟨S'', s, for_by I gd step fin l _ _ i'⟩⟩
theorem comp_map {α : Type} {en : α → D} {f : α → D} {tg : D → Env → Store → (Env → Store → Prop) → Prop} {elt : WE} {G : Grd} {ρ : Env} {S : Store} {Q : List D → Store → Prop} (g : G S) :
    ∀ (l : List α) (acc : List D), (∀ x ∈ l, ∀ K : QE, K (f x) S → tg (en x) ρ S fun ρ2 S2 => elt ρ2 S2 K noX) → Q (acc ++ l.map f) S → compL tg (wC' .nil) elt G ρ (l.map en) acc S Q
  | [], acc, h, q => by
    refine ⟨g, ?_⟩
    simpa using q
  | x :: l, acc, h, q => by
    have ht := h x List.mem_cons_self (fun d S4 => ∃ S5, Sub S5 S4 ∧ compL tg (wC' .nil) elt G ρ (l.map en) (acc ++ [d]) S5 Q)
      ⟨S, Sub.refl S, comp_map g l (acc ++ [f x]) (fun y hy => h y (List.mem_cons_of_mem _ hy)) (by simpa using q)⟩
    exact ⟨g, ht⟩
theorem comp_st {α : Type} {en : α → D} {tg : D → Env → Store → (Env → Store → Prop) → Prop} {elt : WE} {G : Grd} {ρ : Env} {Q : List D → Store → Prop} (I : List α → List D → Store → Prop) (gd : ∀ l acc S, I l acc S → G S)
    (step : ∀ x l acc S (K : QE), I (x :: l) acc S → (∀ d S' S'', Sub S'' S' → I l (acc ++ [d]) S'' → K d S') → tg (en x) ρ S fun ρ2 S2 => elt ρ2 S2 K noX) (fin : ∀ acc S, I [] acc S → Q acc S) :
    ∀ (l : List α) (acc : List D) (S : Store), I l acc S → compL tg (wC' .nil) elt G ρ (l.map en) acc S Q
  | [], acc, S, i => ⟨gd _ _ _ i, fin _ _ i⟩
  | x :: l, acc, S, i => ⟨gd _ _ _ i, step x l acc S _ i fun d S' S'' s i' => ⟨S'', s, comp_st I gd step fin l _ _ i'⟩⟩
end L3
namespace L3
open PySem PySem.Spec PyProof.Rows L2
section
variable {prog : Program} {w : World} {A : Around} {E : Value → Shared → Prop} {s : Shared}
end
end L3
namespace L3
open PySem PySem.Spec PyProof.Rows L2
theorem rep_rep {c : Ctx} {Z : Hp} {l : List D} {vs : List V} (r : RepL c Z l vs) : ∀ n : Nat, RepL c Z (List.replicate n l).flatten (List.replicate n vs).flatten
  | 0 => rfl
  | n + 1 => by
    rw [List.replicate_succ, List.replicate_succ, List.flatten_cons, List.flatten_cons]
    exact r.append (rep_rep r n)
def wRep (m : Bool) : D → D → Store → QE → Prop := fun x y S Q => match y with
  | .int k => wLst x S fun l => 0 ≤ k ∧ k < 2 ^ 62 ∧ l.length * k.toNat ≤ big ∧ newL m (List.replicate k.toNat l).flatten S Q
  | _ => False
def oRep (m : Bool) : Op2 := ⟨.Mult, wRep m, fun c k X ok => by
  intro pins s σ H x y v u Q I rx ry hh
  obtain ⟨Z, S, dx, dy, QD, R, r1, r2, hw, hq⟩ := hh
  cases dy with
  | int n =>
    cases r2
    obtain ⟨a, vs, l, rfl, ha, ra, h0, h1, h2, hw⟩ := of_wLst R r1 hw
    refine op_rep pins s σ H _ _ v u Q I rx ry ⟨a, n, vs, rfl, rfl, ha, by omega, by omega, by rw [ra.length] at *; exact big_le h2, fun p hp => ?_⟩
    exact newL_ok hw R hq (rep_rep ra n.toNat) hp
  | _ => exact hw.elim⟩
end L3
namespace L3
open PySem PySem.Spec PyProof.Rows L2
end L3
namespace L3
open PySem PySem.Spec PyProof.Rows L2
def HotB (b : Bl) : Prop := ∀ (c : Ctx) (X : Cx), XO0 c X → CallR X b.val (ln c b.w)
def HotF (b : BlF) : Prop := ∀ (c : Ctx) (k : Nat) (X : Cx), XO0 c X → L2H.RoomH k X.A → b.kn c k (rn X) → CallR X b.val (ln c b.w)
mutual
def hotE : CE → Prop
  | .var _ => True
  | .int _ => True
  | .str _ => True
  | .bl _ => True
  | .lst _ es => hotL es
  | .op _ a b => hotE a ∧ hotE b
  | .cmp _ a b => hotE a ∧ hotE b
  | .ife t a b => hotQ t ∧ hotE a ∧ hotE b
  | .idx _ a i => hotE a ∧ hotE i
  | .met _ o es => hotE o ∧ hotL es
  | .blt b es => HotB b ∧ hotL es
  | .bltF b es => HotF b ∧ hotL es
  | .isx _ _ _ o => hotE o
  | .attx _ _ o => hotE o
  | .nev => True
  | _ => False
def hotL : CL → Prop
  | .nil => True
  | .cons e r => hotE e ∧ hotL r
  | .star _ _ => False
def hotQ : CE → Prop
  | .or_ a b => hotQ a ∧ hotQ b
  | .cmp _ a b => hotE a ∧ hotE b
  | _ => False
end
section
variable {c : Ctx} {k : Nat} {X : Cx} {W : WX} {pos : Pos}
theorem se_blt0 {b : Bl} {p : Pos} {e : Expr} {es : List Expr} {wl : WA} (hc : CallR X b.val (ln c b.w)) (hm : X.mg b.nm = none) (hg : Gl X b.nm) (hn : okN b.nm = true) (hs : noStar (e :: es) = true) (ha : SA c X W (e :: es) wl) :
    SE c X W (.Call (.Name b.nm p) (e :: es) [] pos) (fun ρ S Q E => wl ρ S (fun ds S1 => b.w ds S1 Q) E) := by
  obtain ⟨h1, h2⟩ := star1 X.env hs
  have key : ∀ σ H Q, LG c W (RepD c) (fun ρ S Q E => wl ρ S (fun ds S1 => b.w ds S1 Q) E) σ H Q → tCB (ln c b.w) (LG c W (RepL c) wl) σ H Q := fun σ H Q h =>
    LG.bind (R1 := RepL c) (R2 := RepD c) (w1 := wl) (k := fun ds ρ S Q E => b.w ds S Q) (t2 := fun vs σ H Q => ln c b.w vs H Q)
      (fun d v σ H Q Z S ρ QD ED R RE rd kk hq hx => ⟨Z, S, d, QD, R, rd, kk, hq⟩) h
  rcases b.kind with ⟨id, e1⟩ | ⟨T, e1⟩
  · rw [e1] at hc
    exact PE.imp (pe_callB hc hg hm (by rw [b.boot, e1]) ha b.nn (ok1 hn) h1 (star2 X.env pos h2)) key
  · rw [e1] at hc
    exact PE.imp (pe_callTy hc hg hm (by rw [b.boot, e1]) ha b.nn (ok1 hn) h1 (star2 X.env pos h2)) key
theorem se_bltF0 {b : BlF} {p : Pos} {e : Expr} {es : List Expr} {wl : WA} (hc : CallR X b.val (ln c b.w)) (hm : X.mg b.nm = none) (hg : Gl X b.nm) (hn : okN b.nm = true) (hs : noStar (e :: es) = true) (ha : SA c X W (e :: es) wl) :
    SE c X W (.Call (.Name b.nm p) (e :: es) [] pos) (fun ρ S Q E => wl ρ S (fun ds S1 => b.w ds S1 Q) E) := by
  obtain ⟨h1, h2⟩ := star1 X.env hs
  have key : ∀ σ H Q, LG c W (RepD c) (fun ρ S Q E => wl ρ S (fun ds S1 => b.w ds S1 Q) E) σ H Q → tCB (ln c b.w) (LG c W (RepL c) wl) σ H Q := fun σ H Q h =>
    LG.bind (R1 := RepL c) (R2 := RepD c) (w1 := wl) (k := fun ds ρ S Q E => b.w ds S Q) (t2 := fun vs σ H Q => ln c b.w vs H Q)
      (fun d v σ H Q Z S ρ QD ED R RE rd kk hq hx => ⟨Z, S, d, QD, R, rd, kk, hq⟩) h
  rcases b.kind with ⟨id, e1⟩ | ⟨T, e1⟩
  · rw [e1] at hc
    exact PE.imp (pe_callB hc hg hm (by rw [b.boot, e1]) ha b.nn (ok1 hn) h1 (star2 X.env pos h2)) key
  · rw [e1] at hc
    exact PE.imp (pe_callTy hc hg hm (by rw [b.boot, e1]) ha b.nn (ok1 hn) h1 (star2 X.env pos h2)) key
end
section
variable {c : Ctx} {k : Nat} {N : List Str} {X : Cx} {W : WX}
mutual
theorem hE : ∀ (ce : CE) (e : Expr) (sc : Scope), hotE ce → XO0 c X → L2H.RoomH k X.A → X.N = N → X.env.scope = sc → mE c.nm N sc e ce = true → knE c k (rn X) ce → SE c X W e (wE ce)
  | .var i, e, sc, ht, ok, rm, hN, hsc, h, kn => by
    simp only [mE] at h
    split at h
    · rename_i x p
      simp only [Bool.and_eq_true, decide_eq_true_eq] at h
      subst hN; subst hsc
      exact se_var h.1.1 (vis_of h.1.2) h.2
    · exact Bool.noConfusion h
  | .int i, e, sc, ht, ok, rm, hN, hsc, h, kn => by
    simp only [mE] at h
    split at h
    · rename_i j kk p
      simp only [decide_eq_true_eq] at h
      subst h; exact se_c pe_int fun _ => rfl
    · exact Bool.noConfusion h
  | .str z, e, sc, ht, ok, rm, hN, hsc, h, kn => by
    simp only [mE] at h
    split at h
    · rename_i j kk p
      simp only [decide_eq_true_eq] at h
      subst h; exact se_c pe_str fun _ => rfl
    · exact Bool.noConfusion h
  | .bl b, e, sc, ht, ok, rm, hN, hsc, h, kn => by
    simp only [mE] at h
    split at h
    · rename_i j kk p
      simp only [beq_iff_eq] at h
      subst h; exact se_c pe_bl fun _ => rfl
    · exact Bool.noConfusion h
  | .non .., e, sc, ht, ok, rm, hN, hsc, h, kn => False.elim ht
  | .glo .., e, sc, ht, ok, rm, hN, hsc, h, kn => False.elim ht
  | .bval .., e, sc, ht, ok, rm, hN, hsc, h, kn => False.elim ht
  | .op o a b, e, sc, ht, ok, rm, hN, hsc, h, kn => by
    simp only [mE] at h
    split at h
    · rename_i x f y p
      simp only [Bool.and_eq_true] at h
      have e1 := opEq h.1.1
      subst e1
      exact se_op ok (hE a x _ ht.1 ok rm hN hsc h.1.2 kn.1) (hE b y _ ht.2 ok rm hN hsc h.2 kn.2)
    · exact Bool.noConfusion h
  | .un .., e, sc, ht, ok, rm, hN, hsc, h, kn => False.elim ht
  | .cmp o a b, e, sc, ht, ok, rm, hN, hsc, h, kn => by
    simp only [mE] at h
    split at h
    · rename_i x f y p
      simp only [Bool.and_eq_true, Bool.not_eq_true'] at h
      have e1 := cmEq h.1.1.1
      subst e1
      exact se_cmp ok h.1.1.2 (hE a x _ ht.1 ok rm hN hsc h.1.2 kn.1) (hE b y _ ht.2 ok rm hN hsc h.2 kn.2)
    · exact Bool.noConfusion h
  | .chain .., e, sc, ht, ok, rm, hN, hsc, h, kn => False.elim ht
  | .and_ .., e, sc, ht, ok, rm, hN, hsc, h, kn => False.elim ht
  | .or_ .., e, sc, ht, ok, rm, hN, hsc, h, kn => False.elim ht
  | .not_ .., e, sc, ht, ok, rm, hN, hsc, h, kn => False.elim ht
  | .ife t a b, e, sc, ht, ok, rm, hN, hsc, h, kn => by
    simp only [mE] at h
    split at h
    · rename_i x y z p
      simp only [Bool.and_eq_true] at h
      exact se_ife (hQ t x _ ht.1 ok rm hN hsc h.1.1 kn.1).1 (hE a y _ ht.2.1 ok rm hN hsc h.1.2 kn.2.1) (hE b z _ ht.2.2 ok rm hN hsc h.2 kn.2.2)
    · exact Bool.noConfusion h
  | .tup .., e, sc, ht, ok, rm, hN, hsc, h, kn => False.elim ht
  | .lst m es, e, sc, ht, ok, rm, hN, hsc, h, kn => by
    simp only [mE] at h
    split at h
    · rename_i xs p
      exact se_lst (hL es xs _ ht ok rm hN hsc h kn)
    · exact Bool.noConfusion h
  | .call .., e, sc, ht, ok, rm, hN, hsc, h, kn => False.elim ht
  | .blt b es, e, sc, ht, ok, rm, hN, hsc, h, kn => by
    simp only [mE] at h
    split at h
    · rename_i x px a as p
      simp only [Bool.and_eq_true, decide_eq_true_eq] at h
      obtain ⟨⟨⟨⟨rfl, h2⟩, h3⟩, h4⟩, h5⟩ := h
      subst hsc
      exact se_blt0 (ht.1 c X ok) kn.1 (gl_of h2) h3 h4 (hL es (a :: as) _ ht.2 ok rm hN rfl h5 kn.2)
    · exact Bool.noConfusion h
  | .met m o es, e, sc, ht, ok, rm, hN, hsc, h, kn => by
    simp only [mE] at h
    split at h
    · rename_i oe nm ap a as p
      simp only [Bool.and_eq_true, decide_eq_true_eq] at h
      obtain ⟨⟨⟨⟨⟨⟨rfl, h2⟩, h3⟩, h4⟩, h5⟩, h6⟩, h7⟩ := h
      exact se_met ok h2 h3 h4 h5 (hE o oe _ ht.1 ok rm hN hsc h6 kn.1) (hL es (a :: as) _ ht.2 ok rm hN hsc h7 kn.2)
    · rename_i oe nm ap p
      simp only [Bool.and_eq_true, decide_eq_true_eq] at h
      obtain ⟨⟨⟨⟨rfl, h2⟩, h3⟩, h4⟩, h5⟩ := h
      cases es with
      | nil => exact se_met0 ok h2 h3 (hE o oe _ ht.1 ok rm hN hsc h4 kn.1)
      | cons _ _ => simp [mL] at h5
      | star _ _ => simp [mL] at h5
    · exact Bool.noConfusion h
  | .idx o a i, e, sc, ht, ok, rm, hN, hsc, h, kn => by
    simp only [mE] at h
    split at h
    · rename_i x y p
      simp only [Bool.and_eq_true] at h
      exact se_idx ok (plainIx_ok h.1.1) (hE a x _ ht.1 ok rm hN hsc h.1.2 kn.1) (hE i y _ ht.2 ok rm hN hsc h.2 kn.2)
    · exact Bool.noConfusion h
  | .slc .., e, sc, ht, ok, rm, hN, hsc, h, kn => False.elim ht
  | .rev .., e, sc, ht, ok, rm, hN, hsc, h, kn => False.elim ht
  | .rpl .., e, sc, ht, ok, rm, hN, hsc, h, kn => False.elim ht
  | .comp .., e, sc, ht, ok, rm, hN, hsc, h, kn => False.elim ht
  | .comp2 .., e, sc, ht, ok, rm, hN, hsc, h, kn => False.elim ht
  | .dcomp .., e, sc, ht, ok, rm, hN, hsc, h, kn => False.elim ht
  | .nev, e, sc, ht, ok, rm, hN, hsc, h, kn => PE.imp (t := fun _ _ _ => False) ⟨fun _ _ _ _ _ _ z => z.elim⟩ fun σ H Q h => h.pure fun _ _ _ _ _ _ _ hw _ _ => hw
  | .dget .., e, sc, ht, ok, rm, hN, hsc, h, kn => False.elim ht
  | .emp .., e, sc, ht, ok, rm, hN, hsc, h, kn => False.elim ht
  | .att .., e, sc, ht, ok, rm, hN, hsc, h, kn => False.elim ht
  | .prop .., e, sc, ht, ok, rm, hN, hsc, h, kn => False.elim ht
  | .omet .., e, sc, ht, ok, rm, hN, hsc, h, kn => False.elim ht
  | .mk .., e, sc, ht, ok, rm, hN, hsc, h, kn => False.elim ht
  | .mkK .., e, sc, ht, ok, rm, hN, hsc, h, kn => False.elim ht
  | .mkx .., e, sc, ht, ok, rm, hN, hsc, h, kn => False.elim ht
  | .mkxK .., e, sc, ht, ok, rm, hN, hsc, h, kn => False.elim ht
  | .fstr .., e, sc, ht, ok, rm, hN, hsc, h, kn => False.elim ht
  | .isi .., e, sc, ht, ok, rm, hN, hsc, h, kn => False.elim ht
  | .cmpF .., e, sc, ht, ok, rm, hN, hsc, h, kn => False.elim ht
  | .opF .., e, sc, ht, ok, rm, hN, hsc, h, kn => False.elim ht
  | .bltF b es, e, sc, ht, ok, rm, hN, hsc, h, kn => by
    simp only [mE] at h
    split at h
    · rename_i x px a as p
      simp only [Bool.and_eq_true, decide_eq_true_eq] at h
      obtain ⟨⟨⟨⟨rfl, h2⟩, h3⟩, h4⟩, h5⟩ := h
      subst hsc
      exact se_bltF0 (ht.1 c k X ok rm kn.2.1) kn.1 (gl_of h2) h3 h4 (hL es (a :: as) _ ht.2 ok rm hN rfl h5 kn.2.2)
    · exact Bool.noConfusion h
  | .callK .., e, sc, ht, ok, rm, hN, hsc, h, kn => False.elim ht
  | .ometK .., e, sc, ht, ok, rm, hN, hsc, h, kn => False.elim ht
  | .revs .., e, sc, ht, ok, rm, hN, hsc, h, kn => False.elim ht
  | .lrng .., e, sc, ht, ok, rm, hN, hsc, h, kn => False.elim ht
  | .lset .., e, sc, ht, ok, rm, hN, hsc, h, kn => False.elim ht
  | .stp .., e, sc, ht, ok, rm, hN, hsc, h, kn => False.elim ht
  | .empM .., e, sc, ht, ok, rm, hN, hsc, h, kn => False.elim ht
  | .dun .., e, sc, ht, ok, rm, hN, hsc, h, kn => False.elim ht
  | .isx y j js o, e, sc, ht, ok, rm, hN, hsc, h, kn => by
    simp only [mE] at h
    split at h
    · rename_i x p z u p2 p3
      simp only [Bool.and_eq_true, decide_eq_true_eq] at h
      obtain ⟨⟨⟨⟨⟨⟨rfl, h2⟩, rfl⟩, h3⟩, h4⟩, h5⟩, h6⟩ := h
      subst hsc
      exact se_isx ok kn.1 (gl_of h2) (gl_of h3) h4 h5 (hE o z _ ht ok rm hN rfl h6 kn.2)
    · exact Bool.noConfusion h
  | .attx i js o, e, sc, ht, ok, rm, hN, hsc, h, kn => by
    simp only [mE] at h
    split at h
    · rename_i z f p
      simp only [Bool.and_eq_true, decide_eq_true_eq] at h
      obtain ⟨⟨rfl, h2⟩, h3⟩ := h
      exact se_attx ok kn.1 h2 (hE o z _ ht ok rm hN hsc h3 kn.2)
    · exact Bool.noConfusion h
  | .told .., e, sc, ht, ok, rm, hN, hsc, h, kn => False.elim ht
theorem hQ : ∀ (ce : CE) (e : Expr) (sc : Scope), hotQ ce → XO0 c X → L2H.RoomH k X.A → X.N = N → X.env.scope = sc → mE c.nm N sc e ce = true → knE c k (rn X) ce → ST c X W e (wQ ce) ∧ (isBool e = true → SW c X W e (wQ ce))
  | .var .., e, sc, ht, ok, rm, hN, hsc, h, kn => False.elim ht
  | .int .., e, sc, ht, ok, rm, hN, hsc, h, kn => False.elim ht
  | .str .., e, sc, ht, ok, rm, hN, hsc, h, kn => False.elim ht
  | .bl .., e, sc, ht, ok, rm, hN, hsc, h, kn => False.elim ht
  | .non .., e, sc, ht, ok, rm, hN, hsc, h, kn => False.elim ht
  | .glo .., e, sc, ht, ok, rm, hN, hsc, h, kn => False.elim ht
  | .bval .., e, sc, ht, ok, rm, hN, hsc, h, kn => False.elim ht
  | .op .., e, sc, ht, ok, rm, hN, hsc, h, kn => False.elim ht
  | .un .., e, sc, ht, ok, rm, hN, hsc, h, kn => False.elim ht
  | .cmp o a b, e, sc, ht, ok, rm, hN, hsc, h, kn => by
    simp only [mE] at h
    split at h
    · rename_i x f y p
      simp only [Bool.and_eq_true, Bool.not_eq_true'] at h
      have e1 := cmEq h.1.1.1
      subst e1
      exact ⟨st_cmp ok h.1.1.2 (hE a x _ ht.1 ok rm hN hsc h.1.2 kn.1) (hE b y _ ht.2 ok rm hN hsc h.2 kn.2), fun z => Bool.noConfusion z⟩
    · exact Bool.noConfusion h
  | .chain .., e, sc, ht, ok, rm, hN, hsc, h, kn => False.elim ht
  | .and_ .., e, sc, ht, ok, rm, hN, hsc, h, kn => False.elim ht
  | .or_ a b, e, sc, ht, ok, rm, hN, hsc, h, kn => by
    simp only [mE] at h
    split at h
    · rename_i x y r p
      simp only [Bool.and_eq_true] at h
      obtain ⟨h1, h2⟩ := h
      cases r with
      | nil =>
        have r := sw_or (hQ a x _ ht.1 ok rm hN hsc h1 kn.1).1 (pw_or1 (pos := p) (hQ b y _ ht.2 ok rm hN hsc h2 kn.2).1)
        exact ⟨r.pt, fun _ => r⟩
      | cons z r =>
        have r := sw_or (hQ a x _ ht.1 ok rm hN hsc h1 kn.1).1 ((hQ b _ _ ht.2 ok rm hN hsc h2 kn.2).2 rfl)
        exact ⟨r.pt, fun _ => r⟩
    · exact Bool.noConfusion h
  | .not_ .., e, sc, ht, ok, rm, hN, hsc, h, kn => False.elim ht
  | .ife .., e, sc, ht, ok, rm, hN, hsc, h, kn => False.elim ht
  | .tup .., e, sc, ht, ok, rm, hN, hsc, h, kn => False.elim ht
  | .lst .., e, sc, ht, ok, rm, hN, hsc, h, kn => False.elim ht
  | .call .., e, sc, ht, ok, rm, hN, hsc, h, kn => False.elim ht
  | .blt .., e, sc, ht, ok, rm, hN, hsc, h, kn => False.elim ht
  | .met .., e, sc, ht, ok, rm, hN, hsc, h, kn => False.elim ht
  | .idx .., e, sc, ht, ok, rm, hN, hsc, h, kn => False.elim ht
  | .slc .., e, sc, ht, ok, rm, hN, hsc, h, kn => False.elim ht
  | .rev .., e, sc, ht, ok, rm, hN, hsc, h, kn => False.elim ht
  | .rpl .., e, sc, ht, ok, rm, hN, hsc, h, kn => False.elim ht
  | .comp .., e, sc, ht, ok, rm, hN, hsc, h, kn => False.elim ht
  | .comp2 .., e, sc, ht, ok, rm, hN, hsc, h, kn => False.elim ht
  | .dcomp .., e, sc, ht, ok, rm, hN, hsc, h, kn => False.elim ht
  | .nev .., e, sc, ht, ok, rm, hN, hsc, h, kn => False.elim ht
  | .dget .., e, sc, ht, ok, rm, hN, hsc, h, kn => False.elim ht
  | .emp .., e, sc, ht, ok, rm, hN, hsc, h, kn => False.elim ht
  | .att .., e, sc, ht, ok, rm, hN, hsc, h, kn => False.elim ht
  | .prop .., e, sc, ht, ok, rm, hN, hsc, h, kn => False.elim ht
  | .omet .., e, sc, ht, ok, rm, hN, hsc, h, kn => False.elim ht
  | .mk .., e, sc, ht, ok, rm, hN, hsc, h, kn => False.elim ht
  | .mkK .., e, sc, ht, ok, rm, hN, hsc, h, kn => False.elim ht
  | .mkx .., e, sc, ht, ok, rm, hN, hsc, h, kn => False.elim ht
  | .mkxK .., e, sc, ht, ok, rm, hN, hsc, h, kn => False.elim ht
  | .fstr .., e, sc, ht, ok, rm, hN, hsc, h, kn => False.elim ht
  | .isi .., e, sc, ht, ok, rm, hN, hsc, h, kn => False.elim ht
  | .cmpF .., e, sc, ht, ok, rm, hN, hsc, h, kn => False.elim ht
  | .opF .., e, sc, ht, ok, rm, hN, hsc, h, kn => False.elim ht
  | .bltF .., e, sc, ht, ok, rm, hN, hsc, h, kn => False.elim ht
  | .callK .., e, sc, ht, ok, rm, hN, hsc, h, kn => False.elim ht
  | .ometK .., e, sc, ht, ok, rm, hN, hsc, h, kn => False.elim ht
  | .revs .., e, sc, ht, ok, rm, hN, hsc, h, kn => False.elim ht
  | .lrng .., e, sc, ht, ok, rm, hN, hsc, h, kn => False.elim ht
  | .lset .., e, sc, ht, ok, rm, hN, hsc, h, kn => False.elim ht
  | .stp .., e, sc, ht, ok, rm, hN, hsc, h, kn => False.elim ht
  | .empM .., e, sc, ht, ok, rm, hN, hsc, h, kn => False.elim ht
  | .dun .., e, sc, ht, ok, rm, hN, hsc, h, kn => False.elim ht
  | .isx .., e, sc, ht, ok, rm, hN, hsc, h, kn => False.elim ht
  | .attx .., e, sc, ht, ok, rm, hN, hsc, h, kn => False.elim ht
  | .told .., e, sc, ht, ok, rm, hN, hsc, h, kn => False.elim ht
theorem hL : ∀ (cl : CL) (es : List Expr) (sc : Scope), hotL cl → XO0 c X → L2H.RoomH k X.A → X.N = N → X.env.scope = sc → mL c.nm N sc es cl = true → knL c k (rn X) cl → SA c X W es (wL cl)
  | .nil, es, sc, ht, ok, rm, hN, hsc, h, kn => by
    simp only [mL] at h
    split at h
    · exact sa_nil
    · exact Bool.noConfusion h
  | .cons ce r, es, sc, ht, ok, rm, hN, hsc, h, kn => by
    simp only [mL] at h
    split at h
    · exact Bool.noConfusion h
    · rename_i e es hne
      simp only [Bool.and_eq_true] at h
      refine sa_cons (hE ce e _ ht.1 ok rm hN hsc h.1 kn.1) (hL r es _ ht.2 ok rm hN hsc h.2 kn.2) ?_
      cases e <;> first | rfl | (exact (hne _ _ _ rfl rfl).elim) | (exact (hne _ _ _ rfl).elim)| (exact (hne _ _ rfl).elim) | (exact (hne _ _ rfl rfl).elim)
    · exact Bool.noConfusion h
  | .star _ _, es, sc, ht, ok, rm, hN, hsc, h, kn => False.elim ht
end
end
def hotA : CA → Prop
  | .nm _ => True
  | _ => False
mutual
def hotS : CS → Prop
  | .asg t e => hotA t ∧ hotE e ∧ (match e with
    | .nev => False
    | _ => True)
  | .ret e => hotE e
  | .if_ t a b => hotQ t ∧ hotC a ∧ hotC b
  | .nev => True
  | _ => False
def hotC : CB → Prop
  | .nil => True
  | .cons s r => hotS s ∧ hotC r
  | .frz _ _ => False
end
section
variable {c : Ctx} {k : Nat} {N : List Str} {X : Cx} {W : WX}
mutual
theorem hS : ∀ (cs : CS) (s : Stmt) (sc : Scope), hotS cs → XO0 c X → L2H.RoomH k X.A → X.N = N → X.env.scope = sc → FnB X sc → mS c.nm N sc s cs = true → knS c k (rn X) cs → SS c X W s (wS cs)
  | .asg t e, s, sc, ht, ok, rm, hN, hsc, hf, h, kn => by
    unfold mS at h
    split at h
    · rename_i tg v p
      simp only [Bool.and_eq_true] at h
      obtain ⟨⟨⟨h1, h2⟩, h3⟩, h4⟩ := h
      have he := hE (W := W) e v _ ht.2.1 ok rm hN hsc h4 kn.2
      cases t with
      | nm i =>
        unfold mA at h3
        split at h3
        · rename_i x p2
          simp only [Bool.and_eq_true, decide_eq_true_eq] at h3
          have hl : isLc v = false := by
            cases v <;> first | rfl | (cases e <;> first | exact ht.2.1.elim | exact ht.2.2.elim | (simp [mE] at h4; done))
          exact ss_asg (swaps_not hl) (by rw [hsc]; exact h2) (sg_nm ok (by rw [hN]; exact h3.1) (hf x h3.2)) he rfl
        · exact Bool.noConfusion h3
      | _ => exact ht.1.elim
    · exact Bool.noConfusion h
  | .ret e, s, sc, ht, ok, rm, hN, hsc, hf, h, kn => by
    unfold mS at h
    split at h
    · rename_i v p
      exact ss_ret (hE e v _ ht ok rm hN hsc h kn)
    · exact Bool.noConfusion h
  | .if_ t a b, s, sc, ht, ok, rm, hN, hsc, hf, h, kn => by
    unfold mS at h
    split at h
    · rename_i x y z p
      simp only [Bool.and_eq_true] at h
      exact ss_if (hQ t x _ ht.1 ok rm hN hsc h.1.1 kn.1).1 (hC a y _ ht.2.1 ok rm hN hsc hf h.1.2 kn.2.1) (hC b z _ ht.2.2 ok rm hN hsc hf h.2 kn.2.2)
    · exact Bool.noConfusion h
  | .nev, s, sc, ht, ok, rm, hN, hsc, hf, h, kn => PS.imp ps_never fun Dn σ H h => by obtain ⟨_, _, _, _, _, _, hw, _⟩ := h; exact hw.elim
  | .expr _, s, sc, ht, ok, rm, hN, hsc, hf, h, kn => False.elim ht
  | .par2 .., s, sc, ht, ok, rm, hN, hsc, hf, h, kn => False.elim ht
  | .par3 .., s, sc, ht, ok, rm, hN, hsc, hf, h, kn => False.elim ht
  | .retN, s, sc, ht, ok, rm, hN, hsc, hf, h, kn => False.elim ht
  | .for_ .., s, sc, ht, ok, rm, hN, hsc, hf, h, kn => False.elim ht
  | .whl .., s, sc, ht, ok, rm, hN, hsc, hf, h, kn => False.elim ht
  | .pass, s, sc, ht, ok, rm, hN, hsc, hf, h, kn => False.elim ht
  | .raise_ .., s, sc, ht, ok, rm, hN, hsc, hf, h, kn => False.elim ht
  | .raz .., s, sc, ht, ok, rm, hN, hsc, hf, h, kn => False.elim ht
theorem hC : ∀ (cb : CB) (ss : List Stmt) (sc : Scope), hotC cb → XO0 c X → L2H.RoomH k X.A → X.N = N → X.env.scope = sc → FnB X sc → mB c.nm N sc ss cb = true → knB c k (rn X) cb → SB c X W ss (wB cb)
  | .nil, ss, sc, ht, ok, rm, hN, hsc, hf, h, kn => by
    unfold mB at h
    split at h
    · exact sb_nil
    · exact Bool.noConfusion h
  | .cons s r, ss, sc, ht, ok, rm, hN, hsc, hf, h, kn => by
    unfold mB at h
    split at h
    · rename_i x xs
      simp only [Bool.and_eq_true] at h
      have hc := sb_cons (hS s x _ ht.1 ok rm hN hsc hf h.1 kn.1) (hC r xs _ ht.2 ok rm hN hsc hf h.2 kn.2)
      exact hc
    · exact Bool.noConfusion h
  | .frz _ _, ss, sc, ht, ok, rm, hN, hsc, hf, h, kn => False.elim ht
end
end
end L3
namespace L3
open PySem PySem.Spec PyProof.Rows L2
end L3
namespace L3
open PySem PySem.Spec PyProof.Rows L2
theorem countU {y : V} : ∀ {ys : List V} {its : List Value}, Vals ys its → ys.all flatV = true → its.countP (eqU y) = ys.countP fun z => eqV z y
  | _, _, .nil, _ => rfl
  | z :: zs, u :: us, .cons r t, f => by
    rw [List.all_cons, Bool.and_eq_true] at f
    rw [List.countP_cons, List.countP_cons, countU t f.2, eqU_of r f.1]
theorem mt_count {X : Cx} : MtR X "list.count" (fun x xs H Q => ∃ a ys y, x = V.ref a ∧ xs = [y] ∧ SqL X.K H a ys ∧ flatV y = true ∧ ys.all flatV = true ∧ Q (.int ((ys.countP fun z => eqV z y : Nat) : Int)) H) := by
  intro pins s σ H x xs v us Q I rx rxs h
  obtain ⟨a, ys, y, rfl, rfl, hs, fy, fys, q⟩ := h
  cases rx
  cases rxs with
  | cons ry rt =>
    cases rt
    obtain ⟨its, rv, ⟨⟨cls, dd, data, sl⟩, n, ho, hc, hdn, hd⟩, hlen⟩ := I.list hs
    simp only at hc hd
    subst hc hd
    refine call_meets PySem.F.slot_list_count ⟨_, ho, rfl⟩ PySem.F.entry_list_count (PySem.F.args_list_count_2 _ _) (PySem.SeqAt.list_countAt a its.toArray n dd sl _ (eqU y)) ⟨ho, fun u' hu' => mem_eqAt ry fy rv fys u' (by simpa using hu'), ?_⟩
    have e : its.toArray.toList.countP (eqU y) = ys.countP fun z => eqV z y := countU rv fys
    rw [e]
    exact ⟨.int _, H, I.tok _, ⟨_, rfl⟩, q⟩
def wCount : D → List D → Store → QE → Prop := fun d ds S Q => match ds with
  | [y] => flatD y = true ∧ ∃ l, lstOf S d = some l ∧ l.all flatD = true ∧ Q (.int ((l.countP fun z => eqV (vOf z) (vOf y) : Nat) : Int)) S
  | _ => False
def mCount : Mt := ⟨"count", "list", "list.count", PySem.F.plainAttrs_list, PySem.F.slot_list_count, PySem.F.type_list_count, tyLst, tyLst_ok, wCount, fun c k X ok => by
  intro pins s σ H x xs v us Q I rx rxs hh
  obtain ⟨Z, S, d, ds, QD, R, r1, r2, hw, hq⟩ := hh
  match ds, hw, r2 with
  | [y], hw, r2 =>
    obtain ⟨w, rfl, rr2⟩ := r2.one
    obtain ⟨f1, l, e, f2, hw⟩ := hw
    obtain ⟨a, vs, rfl, s', rl⟩ := lstOf_ok R r1 e
    obtain ⟨rfl, b1⟩ := flat_ok f1 rr2
    obtain ⟨rfl, b2⟩ := flatL_ok f2 rl
    refine mt_count pins s σ H _ _ v us Q I rx rxs ⟨a, _, _, rfl, rfl, by rw [ok.hK]; exact s', b1, b2, ?_⟩
    rw [List.countP_map]
    exact hq.go R (d := .int _) rfl hw⟩
def xjs : List Nat := List.range' 10 19
theorem mem_xjs {j : Nat} (a : 10 ≤ j) (b : j ≤ 28) : j ∈ xjs := List.mem_range'.mpr ⟨j - 10, by omega, by omega⟩
def gjs : List Nat := [10, 11, 12, 13, 14, 15, 16, 17, 18, 19, 22, 26]
def ijs : List Nat := [20, 21, 25, 27]
def unp : D → D
  | .ptup l => .tup l
  | d => d
theorem rep_unp {c : Ctx} {Z : Hp} {d : D} {v : V} (r : RepD c Z d v) : RepD c Z (unp d) v := by
  cases d with
  | ptup l => exact rep_pt r
  | _ => exact r
theorem repL_unp {c : Ctx} {Z : Hp} : ∀ {ds : List D} {vs : List V}, RepL c Z ds vs → RepL c Z (ds.map unp) vs
  | [], _, r => r
  | d :: ds, _, ⟨v, t, e, q, r⟩ => ⟨v, t, e, rep_unp q, repL_unp r⟩
def spU (sp : DSp) : DSp := fun ds S Q E => sp (ds.map unp) S Q E
theorem KFun.U {c : Ctx} {k : Nat} {X : Rn} {f : Str} {sp : DSp} (h : KFun c k X f sp) : KFun c k X f (spU sp) := by
  obtain ⟨a, fd, qs, ds, dvs, spH, F, h1, h2, h3, h4, h5⟩ := h
  refine ⟨a, fd, qs, ds, dvs, spH, F, h1, h2, h3, h4, fun vs H Q E q => h5 vs H Q E ?_⟩
  obtain ⟨Z, St, ds', QD, ED, R, r, hs, hq, hx⟩ := q
  exact ⟨Z, St, ds'.map unp, QD, ED, R, repL_unp r, hs, hq, hx⟩
end L3
namespace L3
open PySem PySem.Spec PyProof.Rows L2
structure RoomZ (k : Nat) (A : Around) : Prop where
  b : L2H.RoomH k A
  gd : A.guards = some []
theorem RoomZ.mono {j k : Nat} {A : Around} (r : RoomZ k A) (h : j ≤ k) : RoomZ j A := ⟨r.b.mono h, r.gd⟩
theorem RoomZ.deeper {k : Nat} {A : Around} (r : RoomZ (k + 1) A) (env : PySem.Env) : RoomZ k (A.deeper env) := ⟨r.b.deeper env, r.gd⟩
theorem RoomZ.mark {k : Nat} {A : Around} (r : Room k A) (h : Option Value) : RoomZ k (A.mark h) := ⟨⟨r.b.dp, r.b.un⟩, r.gd⟩
structure FnZ (P : Program) (w : World) (K : PySem.W.Frag) (mg : Str → Option Value) (base : Heap) (k : Nat) (f : Addr) (fd : FuncData) (ps : List Str) (sp : Addr × Obj → Sp) : Prop where
  len : ∀ p vs H Q E, sp p vs H Q E → vs.length = ps.length
  run : ∀ (A : Around) (outer : List PySem.Env) (s : Shared) (H : Hp) (args : Args) (us : List Value) (vs : List V) (Q : VK) (p : Addr × Obj), RoomZ k A → L2H.PinOk outer H s p → Env0 P w K mg base A outer s H → BindsTo s fd args (ps.zip us) → Vals vs us → sp p vs H Q C8.E0 →
    codeAny (model P w) A (.call (.ref f) args) (CR C8.CX0 outer P w H s Q C8.E0) s
section
variable {X : Cx} {k : Nat} {f : Addr} {fd : FuncData} {ps : List Str} {sp : Addr × Obj → Sp} {x : Str} {q pos : Pos} {e : Expr} {es : List Expr} {t : TA}
theorem pe_callZ (F : FnZ X.prog X.w X.K X.mg X.base k f fd ps sp) (room : RoomZ k X.A) {p : Addr × Obj} (hp : p ∈ X.pn) (hg : Gl X x) (hm : X.mg x = some (.ref f)) (hk : PySem.W.keepIn X.K (.ref f) = true) (hb : Binds X.K fd ps []) (ha : PA X (e :: es) t) (hd : (x == ("__debug__" : Str)) = false) (hs : noStar (e :: es) = true) :
    PE X (.Call (.Name x q) (e :: es) [] pos) (fun σ H Q => t σ H fun vs H1 => sp p vs H1 Q C8.E0) := by
  obtain ⟨h1, h2⟩ := star1 X.env hs
  refine ⟨fun pins s σ H Q I h => ?_⟩
  refine wpAny_Call_Name_kw (ld_glob I hg hm ?_ hd)
  refine PySem.W.callWith_K (h₀ := X.base) I.ok.mod.kin hk (thn (ha.run pos pins s σ H _ I h) fun us s1 hh => ?_) h1 (star2 X.env pos h2)
  obtain ⟨vs, H1, I1, r, hsp⟩ := hh
  refine ⟨I1.kIn, ?_⟩
  have hl : us.length = ps.length := by rw [← r.length]; exact F.len _ _ _ _ _ hsp
  have b := hb s1 us I1.kIn (by rw [List.append_nil]; exact hl)
  rw [List.append_nil] at b
  have P1 := I1.pin p (List.mem_append_left _ hp)
  have pin : L2H.PinOk X.stack H1 s1 p := ⟨P1.1, P1.2.1, fun hm => (List.mem_cons.mp (I1.stkSub p.1 hm)).elim P1.2.2.1 P1.2.2.2.1, P1.2.2.2.2⟩
  refine wpAny_call (codeAny_mono (F.run X.A X.stack s1 H1 ⟨us, []⟩ us vs Q p room pin I1.env0 b r hsp) fun r s' hq => ?_)
  match r, hq with
  | .error e, hq => exact (show False from hq).elim
  | .ok (.ret u), hq => exact I1.after hq
  | .ok .next, hq => exact False.elim hq
  | .ok .brk, hq => exact False.elim hq
  | .ok .cont, hq => exact False.elim hq
end
end L3
namespace L3
open PySem PySem.Spec PyProof.Rows L2
end L3
namespace L3
open PySem PySem.Spec PyProof.Rows L2
section
variable {prog : Program} {w : World} {K : PySem.W.Frag} {A : Around} {s : Shared} {E : Value → Shared → Prop} {a b C g : Addr} {ox : Obj} {od : Option Obj}
end
section
variable {X : Cx} {pins : List (Addr × Obj)} {σ : L2.St} {H : Hp} {s : Shared} {A : Around} {g a : Addr} {fd : FuncData} {ps : List Str} {sp : V → Hp → Str → Prop} {t : Str} {E : Value → Shared → Prop}
end
end L3
namespace L3
open PySem PySem.Spec PyProof.Rows L2
end L3
namespace L3
open PySem PySem.Spec PyProof.Rows L2
mutual
def pyF : D → Option PyData
  | .non => some .none
  | .bl b => some (.bool b)
  | .int i => some (.int i)
  | .str x => some (.str x)
  | .tup l => (pyFL l).map .tuple
  | _ => none
def pyFL : List D → Option (List PyData)
  | [] => some []
  | d :: ds => (pyF d).bind fun p => (pyFL ds).map fun r => p :: r
end
def pyFK : List (Str × D) → Option (List (PyData × PyData))
  | [] => some []
  | (k, d) :: ds => (pyF d).bind fun p => (pyFK ds).map fun r => (.str k, p) :: r
mutual
def pyX : D → Option PyData
  | .non => some .none
  | .bl b => some (.bool b)
  | .int i => some (.int i)
  | .str x => some (.str x)
  | .tup l => (pyXL l).map .tuple
  | .fl l => (pyXL l).map .list
  | .dk l => (pyFK l).map .dict
  | _ => none
def pyXL : List D → Option (List PyData)
  | [] => some []
  | d :: ds => (pyX d).bind fun p => (pyXL ds).map fun r => p :: r
end
section
variable {c : Ctx} {X : Cx} {pins : List (Addr × Obj)} {σ : L2.St} {H Z : Hp} {S : Store} {s : Shared}
mutual
theorem pyF_reads (hK : X.K = c.K) (I : L2.Inv X pins σ H s) (R : Rel c Z S H) : ∀ {d : D} {v : V} {u : Value} {p : PyData}, RepD c Z d v → pyF d = some p → RelV v u → Reads s.heap u p []
  | .non, _, _, _, r, e, ru => by cases r; cases e; cases ru; exact Reads.none
  | .bl b, _, _, _, r, e, ru => by cases r; cases e; cases ru; exact Reads.bool b
  | .int i, _, _, _, r, e, ru => by cases r; cases e; obtain ⟨t, rfl⟩ := ru; exact Reads.int i t
  | .str x, _, _, _, r, e, ru => by cases r; cases e; obtain ⟨t, rfl⟩ := ru; exact Reads.str x t
  | .tup l, _, _, _, r, e, ru => by
    obtain ⟨a, vs, rfl, q, r⟩ := r
    simp only [pyF, Option.map_eq_some_iff] at e
    obtain ⟨ps, e, rfl⟩ := e
    cases ru
    obtain ⟨its, rv, ⟨o, ho, hc, n, hd⟩, _⟩ := I.tuple (show SqT X.K H a vs by rw [hK]; exact SqT.le R.fz q)
    exact Reads.tuple ho hc hd (pyFL_reads hK I R r e rv)
  | .fl _, _, _, _, _, e, _ => by cases e
  | .kl _, _, _, _, _, e, _ => by cases e
  | .ptup _, _, _, _, _, e, _ => by cases e
  | .obj _ _, _, _, _, _, e, _ => by cases e
  | .dk _, _, _, _, _, e, _ => by cases e
  | .di _, _, _, _, _, e, _ => by cases e
  | .ref _, _, _, _, _, e, _ => by cases e
  | .ty _, _, _, _, _, e, _ => by cases e
  | .cls _, _, _, _, _, e, _ => by cases e
  | .exc _ _, _, _, _, _, e, _ => by cases e
  | .exv _ _, _, _, _, _, e, _ => by cases e
theorem pyFL_reads (hK : X.K = c.K) (I : L2.Inv X pins σ H s) (R : Rel c Z S H) : ∀ {ds : List D} {vs : List V} {us : List Value} {ps : List PyData}, RepL c Z ds vs → pyFL ds = some ps → Vals vs us → ReadsAll s.heap us ps []
  | [], _, _, _, r, e, ru => by cases r; cases e; cases ru; exact ReadsAll.nil
  | d :: ds, _, _, _, r, e, ru => by
    obtain ⟨v, vs, rfl, r1, r2⟩ := r
    simp only [pyFL, Option.bind_eq_some_iff, Option.map_eq_some_iff] at e
    obtain ⟨p, e1, ps, e2, rfl⟩ := e
    cases ru with
    | cons h1 h2 => exact ReadsAll.cons (as := []) (bs := []) (pyF_reads hK I R r1 e1 h1) (pyFL_reads hK I R r2 e2 h2)
end
theorem pyFK_reads (hK : X.K = c.K) (I : L2.Inv X pins σ H s) (R : Rel c Z S H) : ∀ {l : List (Str × D)} {kvs : List (Key × V)} {vs : List (Key × Value)} {es : List DictEntry} {ps : List (PyData × PyData)}, RepK c Z l kvs → KV kvs vs → Pairs (mixKind X.prog X.w) es vs → pyFK l = some ps →
    ReadsAll s.heap (es.map (·.key)) (ps.map (·.1)) [] ∧ ReadsAll s.heap (es.map (·.val)) (ps.map (·.2)) []
  | [], _, _, _, _, r, kv, pr, e => by
    cases r; cases kv; cases pr; cases e
    exact ⟨ReadsAll.nil, ReadsAll.nil⟩
  | (k, d) :: l, _, _, _, _, r, kv, pr, e => by
    obtain ⟨v, vs, rfl, r1, r2⟩ := r
    simp only [pyFK, Option.bind_eq_some_iff, Option.map_eq_some_iff] at e
    obtain ⟨p, e1, ps, e2, rfl⟩ := e
    cases kv with
    | cons h1 h2 =>
      cases pr with
      | cons q1 q3 q2 =>
        rename_i w ws e es
        obtain ⟨a1, a2⟩ := h1
        obtain ⟨g1, g2⟩ := pyFK_reads hK I R r2 h2 q2 e2
        have q1 : keyIs w.1 e.key = true := q1
        rw [← a1] at q1
        rcases keyIs_shape q1 with ⟨i, t, z, _⟩ | ⟨x, t, z, ek⟩
        · cases z
        · cases z
          refine ⟨ReadsAll.cons (as := []) (bs := []) (by show Reads s.heap e.key (PyData.str k) []; rw [ek]; exact Reads.str _ t) g1, ReadsAll.cons (as := []) (bs := []) ?_ g2⟩
          show Reads s.heap e.val p []
          rw [q3]
          exact pyF_reads hK I R r1 e1 a2
def Shw (X : Cx) (h : Heap) (u : Value) (p : PyData) : Prop := (∃ as, Reads h u p as) ∧ (p.showable = true → p.shown.length ≤ sizeLine → ∃ bs, ReadAtMost h p.depth bs ∧ ReprK X.prog X.w bs h p.depth u p.shown)
def ShwL (X : Cx) (h : Heap) (us : List Value) (ps : List PyData) : Prop := (∃ as, ReadsAll h us ps as) ∧ (PyData.showableAll ps = true → (∀ t ∈ PyData.shownAll ps, t.length ≤ sizeLine) → ∃ bs, ReadAtMost h (PyData.depthAll ps) bs ∧ ReprAllK X.prog X.w bs h (PyData.depthAll ps) us (PyData.shownAll ps))
theorem shw_flat {h : Heap} {u : Value} {p : PyData} (r : Reads h u p []) : Shw X h u p := ⟨⟨_, r⟩, fun h1 h2 => ReprK.of_reads r h1 (fun _ => List.not_mem_nil) h2⟩
mutual
theorem pyX_shw (hK : X.K = c.K) (I : L2.Inv X pins σ H s) (R : Rel c Z S H) : ∀ {d : D} {v : V} {u : Value} {p : PyData}, RepD c Z d v → pyX d = some p → RelV v u → Shw X s.heap u p
  | .non, _, _, _, r, e, ru => shw_flat (pyF_reads hK I R (d := .non) r e ru)
  | .bl b, _, _, _, r, e, ru => shw_flat (pyF_reads hK I R (d := .bl b) r e ru)
  | .int i, _, _, _, r, e, ru => shw_flat (pyF_reads hK I R (d := .int i) r e ru)
  | .str x, _, _, _, r, e, ru => shw_flat (pyF_reads hK I R (d := .str x) r e ru)
  | .tup l, _, _, _, r, e, ru => by
    obtain ⟨a, vs, rfl, q, r⟩ := r
    simp only [pyX, Option.map_eq_some_iff] at e
    obtain ⟨ps, e, rfl⟩ := e
    cases ru
    obtain ⟨its, rv, ⟨o, ho, hc, n, hd⟩, _⟩ := I.tuple (show SqT X.K H a vs by rw [hK]; exact SqT.le R.fz q)
    obtain ⟨⟨as, h4⟩, k⟩ := pyXL_shw hK I R r e rv
    have r4 : Reads s.heap (.ref a) (.tuple ps) as := .tuple ho hc hd h4
    refine ⟨⟨_, r4⟩, fun hs hz => ?_⟩
    have hz' : (tupleText (PyData.shownAll ps)).length ≤ sizeLine := by simpa only [PyData.shown] using hz
    obtain ⟨bs, hb, hk⟩ := k (by simpa [PyData.showable] using hs) fun t ht => Nat.le_trans (tupleText_mem_le ht) hz'
    have hna : a ∉ bs := not_mem_of_deeper r4 (by simp only [PyData.depth]; omega) hb
    refine ⟨a :: bs, ReadAtMost.cons r4 (by simp only [PyData.depth]; omega) hb, ?_⟩
    simp only [PyData.depth, PyData.shown]
    exact ReprK.tuple ho hc hd hna hk
  | .fl l, _, _, _, r, e, ru => by
    obtain ⟨a, vs, rfl, q, r⟩ := r
    simp only [pyX, Option.map_eq_some_iff] at e
    obtain ⟨ps, e, rfl⟩ := e
    cases ru
    obtain ⟨its, rv, ⟨o, n, ho, hc, _, hd⟩, _⟩ := I.list (show SqL X.K H a vs from SqL.of (R.fz _ _ q))
    obtain ⟨⟨as, h4⟩, k⟩ := pyXL_shw hK I R r e rv
    have r4 : Reads s.heap (.ref a) (.list ps) (a :: as) := .list ho hc hd h4
    refine ⟨⟨_, r4⟩, fun hs hz => ?_⟩
    have hz' : (listText (PyData.shownAll ps)).length ≤ sizeLine := by simpa only [PyData.shown] using hz
    obtain ⟨bs, hb, hk⟩ := k (by simpa [PyData.showable] using hs) fun t ht => Nat.le_trans (listText_mem_le ht) hz'
    have hna : a ∉ bs := not_mem_of_deeper r4 (by simp only [PyData.depth]; omega) hb
    refine ⟨a :: bs, ReadAtMost.cons r4 (by simp only [PyData.depth]; omega) hb, ?_⟩
    simp only [PyData.depth, PyData.shown]
    cases its with
    | nil =>
      cases h4
      simp only [PyData.shownAll, listText_nil]
      exact ReprK.listEmpty ho hc hd
    | cons x l => exact ReprK.list ho hc hd hna (by simpa using hk.length_eq) fun i y e => hk.item i y (by simpa using e)
  | .dk l, _, _, _, r, e, ru => by
    obtain ⟨a, kvs, rfl, q, r⟩ := r
    simp only [pyX, Option.map_eq_some_iff] at e
    obtain ⟨ps, e, rfl⟩ := e
    cases ru
    obtain ⟨_, hm, vs, kv, o, es, ep, ho, hx, hd, _, hp, _⟩ := dk_of I.hok (R.fz _ _ q)
    obtain ⟨g1, g2⟩ := pyFK_reads hK I R r kv hp e
    have r4 : Reads s.heap (.ref a) (.dict ps) (a :: [] ++ []) := .dict ho hx.1 hd g1 g2
    exact ⟨⟨_, r4⟩, fun hs hz => ReprK.of_reads r4 hs (fun _ hm' => by
      have : sysModules = a := by simpa using hm'
      rw [this] at hm; simp at hm) hz⟩
  | .kl _, _, _, _, _, e, _ => by cases e
  | .ptup _, _, _, _, _, e, _ => by cases e
  | .obj _ _, _, _, _, _, e, _ => by cases e
  | .di _, _, _, _, _, e, _ => by cases e
  | .ref _, _, _, _, _, e, _ => by cases e
  | .ty _, _, _, _, _, e, _ => by cases e
  | .cls _, _, _, _, _, e, _ => by cases e
  | .exc _ _, _, _, _, _, e, _ => by cases e
  | .exv _ _, _, _, _, _, e, _ => by cases e
theorem pyXL_shw (hK : X.K = c.K) (I : L2.Inv X pins σ H s) (R : Rel c Z S H) : ∀ {ds : List D} {vs : List V} {us : List Value} {ps : List PyData}, RepL c Z ds vs → pyXL ds = some ps → Vals vs us → ShwL X s.heap us ps
  | [], _, _, _, r, e, ru => by
    cases r; cases e; cases ru
    exact ⟨⟨_, ReadsAll.nil⟩, fun _ _ => ⟨[], (fun _ h => nomatch h), by simp only [PyData.shownAll]; exact .nil⟩⟩
  | d :: ds, _, _, _, r, e, ru => by
    obtain ⟨v, vs, rfl, r1, r2⟩ := r
    simp only [pyXL, Option.bind_eq_some_iff, Option.map_eq_some_iff] at e
    obtain ⟨p, e1, ps, e2, rfl⟩ := e
    cases ru with
    | cons h1 h2 =>
      obtain ⟨⟨as, a1⟩, k1⟩ := pyX_shw hK I R r1 e1 h1
      obtain ⟨⟨bs, a2⟩, k2⟩ := pyXL_shw hK I R r2 e2 h2
      refine ⟨⟨_, ReadsAll.cons a1 a2⟩, fun hs hz => ?_⟩
      have hs' : p.showable = true ∧ PyData.showableAll ps = true := by simpa [PyData.showableAll] using hs
      obtain ⟨b1, hb1, c1⟩ := k1 hs'.1 (hz _ (by simp only [PyData.shownAll]; exact List.mem_cons_self))
      obtain ⟨b2, hb2, c2⟩ := k2 hs'.2 fun t ht => hz t (by simp only [PyData.shownAll]; exact List.mem_cons_of_mem _ ht)
      refine ⟨b1 ++ b2, ReadAtMost.append (hb1.mono ?_) (hb2.mono ?_), ?_⟩
      · simp only [PyData.depthAll]; exact Nat.le_max_left _ _
      · simp only [PyData.depthAll]; exact Nat.le_max_right _ _
      · simp only [PyData.depthAll, PyData.shownAll]
        exact .cons ((c1.more fun b hb => List.mem_append_left _ hb).level_le (Nat.le_max_left _ _)) (c2.more_le (fun b hb => List.mem_append_right _ hb) (Nat.le_max_right _ _))
end
def reprXT (d : D) : Option Str := match d with
  | .fl l => match pyXL l with
    | some ps => if ps ≠ [] ∧ PyData.showableAll ps = true ∧ PyData.depthAll ps ≤ 100 ∧ (PyData.list ps).shown.length ≤ big then some (PyData.list ps).shown else none
    | none => none
  | _ => none
def wReprX : D → Store → QE → Prop := fun d S Q => wOpt (reprXT d) fun t => Q (.str t) S
theorem reprX_ok (ok : XO0 c X) : CallR X (.builtin "repr") (ln c (w1 wReprX)) := by
  intro pins s σ H xs us Q I r hh
  obtain ⟨Z, S, ds, QD, R, rl, hw, hq⟩ := hh
  match ds, hw, rl with
  | [d], hw, rl =>
    obtain ⟨v, rfl, rd⟩ := rl.one
    obtain ⟨u, rfl, ru⟩ := r.one
    obtain ⟨t, e, hw⟩ := of_wOpt hw
    have hw : QD (.str t) S := hw
    cases d with
    | fl l =>
      simp only [reprXT] at e
      cases ep : pyXL l with
      | none => rw [ep] at e; cases e
      | some ps =>
        rw [ep] at e
        dsimp only at e
        by_cases hc : ps ≠ [] ∧ PyData.showableAll ps = true ∧ PyData.depthAll ps ≤ 100 ∧ (PyData.list ps).shown.length ≤ big
        · rw [if_pos hc] at e
          cases e
          obtain ⟨a, vs, rfl, q, rd⟩ := rd
          cases ru
          obtain ⟨its, rv, ⟨o, n, ho, hc', _, hd⟩, _⟩ := I.list (show SqL X.K H a vs from SqL.of (R.fz _ _ q))
          obtain ⟨⟨as, h4⟩, k⟩ := pyXL_shw ok.hK I R rd ep rv
          have hz' : (listText (PyData.shownAll ps)).length ≤ sizeLine := by simpa only [PyData.shown] using big_le hc.2.2.2
          obtain ⟨bs, hb, hk⟩ := k hc.2.1 fun t ht => Nat.le_trans (listText_mem_le ht) hz'
          have hna : a ∉ bs := not_mem_of_deeper (.list ho hc' hd h4) (by simp only [PyData.depth]; omega) hb
          cases its with
          | nil => cases h4; exact absurd rfl hc.1
          | cons x l =>
            exact call_repr_slot (by have := ok.un; omega) ⟨o, ho, hc'⟩ F.slot_list_repr.toG (call_list_reprK ho hc' hd hna (by simpa using hk.length_eq) (fun i y e => hk.item i y (by simpa using e)) ok.gd (fun b _ => Clear.nil b) (by have := ok.un; have := hc.2.2.1; show X.A.units + 1 + _ < cLine; omega) (fun b o e => e) (fun h' u tk kp => ⟨_, _, rfl, .str (PyData.list ps).shown, H, I.kept kp, ⟨u, by simp only [PyData.shown]⟩, hq.go R (d := .str _) rfl hw⟩) hz')
        · rw [if_neg hc] at e; cases e
    | _ => cases e
  | [], hw, _ => exact hw.elim
  | _ :: _ :: _, hw, _ => exact hw.elim
def bReprX : Bl := ⟨"repr", .builtin "repr", .inl ⟨_, rfl⟩, by decide +kernel, by decide, w1 wReprX, fun c k X ok => reprX_ok ok.o⟩
theorem nb_bReprX : bReprX.nm = ("repr" : Str) := rfl
end
end L3
namespace L3
open PySem PySem.Spec PyProof.Rows L2
abbrev Frg := PySem.W.Frag
def nmL : List Str := [("lines" : Str), "held", "fixed", "table", "line", "parts", "rows", "under", "now", "past", "owner", "found", "given", "index", "number", "cell", "told"] ++
  [("with_constant" : Str), "with_factor", "with_cell", "without", "damped", "turned", "back", "fits", "at", "become", "lead", "go", "until", "enter", "set_constant", "switch", "undo", "attempt", "tried"] ++
  [("put" : Str), "drop", "claim", "lift", "__enter__", "__exit__"]
def nm (i : Nat) : Str := nmL.getD i ""
def clsL : List Str := [("Sheet" : Str), "Way", "Table", "Sizes", "State", "Board", "Attempt", "Desk", "WrongValue", "NoAnswer", "InvalidText", "InvalidFraction", "InvalidNumber", "InvalidName", "InvalidIndex"] ++
  [("InvalidClaim" : Str), "UnknownCell", "NotASheet", "NotAWay", "NotABoard", "InvalidValues", "InvalidLog", "Unfit", "TooMany", "Leaned", "Broken", "UnknownName", "InUse", "NothingToUndo"]
theorem nm_inj : ∀ i, i < 42 → ∀ j, nm j = nm i → j = i := by
  have h : ∀ i, i < 42 → (nm i ≠ "") ∧ ∀ j, j < 42 → nm j = nm i → j = i := by decide +kernel
  intro i hi j e
  by_cases hj : j < 42
  · exact (h i hi).2 j hj e
  · have : nm j = "" := by
      unfold nm
      rw [List.getD_eq_getElem?_getD, List.getElem?_eq_none (by show 42 ≤ j; omega)]; rfl
    rw [this] at e
    exact absurd e.symm (h i hi).1
def cnOf (ps : List Str) (K : Frg) (j : Nat) : Option Addr := match clsL[j]? with
  | some x => (match ps.contains x with
    | true => some (He.ga K x)
    | false => none)
  | none => none
variable [TabsI]
def cxt (ps : List Str) (K : Frg) (mg : Str → Option Value) : Ctx := ⟨K, mg, nm, cnOf ps K, TabsI.tabs, none, none⟩
def atC (ps : List Str) (K : Frg) (j : Nat) (p : Addr → Bool) : Bool := match cnOf ps K j with
  | some C => p C
  | none => false
theorem atC_ok {ps : List Str} {K : Frg} {j : Nat} {p : Addr → Bool} (h : atC ps K j p = true) : ∃ C, cnOf ps K j = some C ∧ p C = true := by
  unfold atC at h
  cases e : cnOf ps K j with
  | none => rw [e] at h; cases h
  | some C => rw [e] at h; exact ⟨C, rfl, h⟩
def allJ (ps : List Str) (K : Frg) (ks : List Nat) (p : Nat → Addr → Bool) : Bool := ks.all fun j => match cnOf ps K j with
  | some C => p j C
  | none => true
theorem allJ_ok {ps : List Str} {K : Frg} {ks : List Nat} {p : Nat → Addr → Bool} (h : allJ ps K ks p = true) : ∀ j ∈ ks, ∀ C, cnOf ps K j = some C → p j C = true := fun j hj C e => by
  have := List.all_eq_true.mp h j hj
  rw [e] at this; exact this
inductive Wh where
  | glo (x : Str) | met (C m : Str) | prp (C x : Str)
def getAd (K : Frg) (C x : Str) : Addr := match PySem.W.recIn K (He.ma K (He.ga K C) x) "property" with
  | some (.ref g :: _) => g
  | _ => 0
def Wh.ad (K : Frg) : Wh → Addr
  | .glo x => He.ga K x
  | .met C m => He.ma K (He.ga K C) m
  | .prp C x => getAd K C x
structure DfP where
  at_ : Wh
  name : Str
  qual : Str
  params : Arguments
  body : List Stmt
  scope : Scope
  dfl : List He.Dv := []
def fnWP (K : Frg) (a : Addr) : He.FnW := match K.lookup a with
  | some ⟨_, _, .func fd, _⟩ => some (fd.name, fd.qualname, fd.params, fd.body, fd.scope, fd.globals, fd.closure, fd.builtins)
  | _ => none
def DfP.val (d : DfP) : He.FnW := some (d.name, d.qual, d.params, .stmts d.body, d.scope, mainGlobals, [], builtinsNs)
def DfP.dvs (K : Frg) (d : DfP) : List V := d.dfl.map (He.Dv.v K)
def DfP.ok (K : Frg) (d : DfP) : Bool := PySem.W.keepIn K (.ref (d.at_.ad K)) && (match K.lookup (d.at_.ad K) with
  | some ⟨_, _, .func fd, _⟩ => PySem.W.codeIn K fd.code d.qual && He.dflB K fd.defaults (d.dvs K)
  | _ => false)
theorem DfP.funD {K : Frg} {d : DfP} (e : fnWP K (d.at_.ad K) = d.val) (c : d.ok K = true) : ∃ fd, FunD K d.name d.qual d.params d.body d.scope (d.dvs K) [] (d.at_.ad K) fd := by
  obtain ⟨kp, c2⟩ := He.ba c
  unfold fnWP at e
  cases q : K.lookup (d.at_.ad K) with
  | none =>
    rw [q] at c2
    cases c2
  | some o =>
    obtain ⟨oc, od, dt, osl⟩ := o
    rw [q] at c2 e
    cases dt with
    | func fd =>
      obtain ⟨n1, n2, n3, n4, n5, n6, n7, n8, n9, n10, n11, n12, n13, n14, n15⟩ := fd
      have e2 : (some (n1, n2, n3, n4, n5, n6, n7, n15) : He.FnW) = some (d.name, d.qual, d.params, .stmts d.body, d.scope, mainGlobals, [], builtinsNs) := e
      simp only [Option.some.injEq, Prod.mk.injEq] at e2
      obtain ⟨h1, h2, h3, h4, h5, h6, h7, h8⟩ := e2
      subst h1 h2 h3 h4 h5 h6 h7 h8
      have c3 : (PySem.W.codeIn K n13 d.qual && He.dflB K n8 (d.dvs K)) = true := c2
      obtain ⟨k1, k2⟩ := He.ba c3
      exact ⟨_, ⟨oc, od, n8, n9, n10, n11, n12, n13, n14, osl, rfl, q, k1, He.dflB_ok k2, .inl rfl⟩, kp⟩
    | _ => cases c2
mutual
def repB (ps : List Str) (K : Frg) : D → Value → Bool
  | .non, u => (match u with
    | .none => true
    | _ => false)
  | .bl b, u => (match u with
    | .bool d => b == d
    | _ => false)
  | .int i, u => (match u with
    | .int j _ => decide (i = j)
    | _ => false)
  | .str x, u => (match u with
    | .str y _ => decide (x = y)
    | _ => false)
  | .tup l, u => (match u with
    | .ref a => (match K.lookup a with
      | some ⟨.type c, _, .seq its _, _⟩ => decide (c = "tuple") && (decide (its.size ≤ sizeLine) && repBL ps K l its.toList)
      | _ => false)
    | _ => false)
  | .cls j, u => (match u with
    | .ref a => (match cnOf ps K j with
      | some C => Nat.beq a C
      | none => false)
    | _ => false)
  | _, _ => false
def repBL (ps : List Str) (K : Frg) : List D → List Value → Bool
  | [], us => (match us with
    | [] => true
    | _ => false)
  | d :: ds, us => (match us with
    | u :: r => repB ps K d u && repBL ps K ds r
    | [] => false)
end
mutual
theorem repB_ok {ps : List Str} {K : Frg} {mg : Str → Option Value} : ∀ {d : D} {u : Value}, repB ps K d u = true → ∃ v, RelV v u ∧ ∀ Z, RepD (cxt ps K mg) Z d v
  | .non, u, h => by
    cases u with
    | none => exact ⟨.non, rfl, fun _ => rfl⟩
    | _ => simp [repB] at h
  | .bl b, u, h => by
    cases u with
    | bool d => simp [repB] at h; subst h; exact ⟨.bl b, rfl, fun _ => rfl⟩
    | _ => simp [repB] at h
  | .int i, u, h => by
    cases u with
    | int j t => simp [repB] at h; subst h; exact ⟨.int i, ⟨t, rfl⟩, fun _ => rfl⟩
    | _ => simp [repB] at h
  | .str x, u, h => by
    cases u with
    | str y t => simp [repB] at h; subst h; exact ⟨.str x, ⟨t, rfl⟩, fun _ => rfl⟩
    | _ => simp [repB] at h
  | .tup l, u, h => by
    cases u with
    | ref a =>
      simp only [repB] at h
      cases q : K.lookup a with
      | none => rw [q] at h; cases h
      | some o =>
        obtain ⟨oc, od, dt, osl⟩ := o
        rw [q] at h
        cases oc with
        | type c =>
          cases dt with
          | seq its n =>
            obtain ⟨h1, h2⟩ := He.ba (show (decide (c = "tuple") && (decide (its.size ≤ sizeLine) && repBL ps K l its.toList)) = true from h)
            obtain ⟨h3, h4⟩ := He.ba h2
            obtain ⟨vs, r, hr⟩ := repBL_ok (mg := mg) h4
            exact ⟨.ref a, rfl, fun Z => ⟨a, vs, rfl, .inr ⟨_, its, n, q, congrArg Value.type (of_decide_eq_true h1), rfl, of_decide_eq_true h3, r⟩, hr Z⟩⟩
          | _ => cases h
        | _ => cases dt <;> cases h
    | _ => simp [repB] at h
  | .cls j, u, h => by
    cases u with
    | ref a =>
      simp only [repB] at h
      cases q : cnOf ps K j with
      | none => rw [q] at h; cases h
      | some C =>
        rw [q] at h
        have := Nat.eq_of_beq_eq_true (show Nat.beq a C = true from h)
        subst this
        exact ⟨.ref a, rfl, fun Z => ⟨a, q, rfl⟩⟩
    | _ => simp [repB] at h
  | .fl _, _, h => by simp [repB] at h
  | .kl _, _, h => by simp [repB] at h
  | .ptup _, _, h => by simp [repB] at h
  | .obj _ _, _, h => by simp [repB] at h
  | .dk _, _, h => by simp [repB] at h
  | .di _, _, h => by simp [repB] at h
  | .ref _, _, h => by simp [repB] at h
  | .ty _, _, h => by simp [repB] at h
  | .exc _ _, _, h => by simp [repB] at h
  | .exv _ _, _, h => by simp [repB] at h
theorem repBL_ok {ps : List Str} {K : Frg} {mg : Str → Option Value} : ∀ {l : List D} {us : List Value}, repBL ps K l us = true → ∃ vs, Vals vs us ∧ ∀ Z, RepL (cxt ps K mg) Z l vs
  | [], us, h => by
    cases us with
    | nil => exact ⟨[], .nil, fun _ => rfl⟩
    | cons u r => simp [repBL] at h
  | d :: ds, us, h => by
    cases us with
    | nil => simp [repBL] at h
    | cons u r =>
      simp only [repBL] at h
      obtain ⟨h1, h2⟩ := He.ba h
      obtain ⟨v, r1, z1⟩ := repB_ok (mg := mg) h1
      obtain ⟨vs, r2, z2⟩ := repBL_ok (mg := mg) h2
      exact ⟨v :: vs, .cons r1 r2, fun Z => ⟨v, vs, rfl, z1 Z, z2 Z⟩⟩
end
def clsB (K : Frg) (C : Addr) : Bool := PySem.W.plainGet K C Str.empty && (PySem.W.hasDictIn K C && (PySem.W.plainOver K C && He.eqO (PySem.W.findIn K (.ref C) "__setattr__") (some (some (.builtin "object.__setattr__")))))
theorem clsB_ok {K : Frg} {C : Addr} (c : clsB K C = true) : Cls K C := by
  obtain ⟨c1, c⟩ := He.ba c
  obtain ⟨c2, c⟩ := He.ba c
  obtain ⟨c3, c4⟩ := He.ba c
  exact ⟨c1, c2, c3, He.eqO_ok c4⟩
def isiUc (ps : List Str) (K : Frg) : IsT → Option Value
  | .bt _ n => some (.type n)
  | .own _ cl => (cnOf ps K cl).map .ref
def isiB (ps : List Str) (K : Frg) (T : IsT) (ks : List Nat) : Bool := He.eqO (PySem.W.nsIn K mainGlobals "isinstance") (some none) && (match isiUc ps K T with
  | some uc => (match T with
      | .bt x n => He.eqO (PySem.W.nsIn K mainGlobals x) (some none) && decide (bootBuiltins x = some (.type n))
      | .own x _ => He.eqO (PySem.W.nsIn K mainGlobals x) (some (some uc))) &&
    ((tyNames.all fun t => decide (PySem.W.kitOne K (.type t) uc = some (T.ans t))) &&
    allJ ps K ks fun j C => clsB K C && (He.eqO (PySem.W.findIn K (.ref C) "__class__") (some (some (.builtin "object.__class__"))) && (He.eqO (PySem.W.specialIn K (.builtin "object.__class__") "__get__") (some (some (.builtin "getset_descriptor.__get__"))) &&
      (decide (PySem.W.takesIn K (.builtin "object.__class__") = some true) && (decide (PySem.W.mroIn K C (.type "object") = some true) && decide (PySem.W.kitOne K (.ref C) uc = some (T.ansO j)))))))
  | none => false)
def slB (n : String) (s : Array (Option Value)) : Bool := match s.toList with
  | [_, _, _, _, some (.builtin m), _] => decide (m = n)
  | _ => false
theorem slB_ok {n : String} {s : Array (Option Value)} (h : slB n s = true) : ∃ k0 k1 k2 k3 k5, s = #[k0, k1, k2, k3, some (.builtin n), k5] := by
  obtain ⟨l⟩ := s
  unfold slB at h
  simp only at h
  split at h
  · have e2 := of_decide_eq_true h
    subst e2
    exact ⟨_, _, _, _, _, rfl⟩
  · cases h
def exB (K : Frg) (C : Addr) : Bool := match K.lookup C with
  | some ⟨.type t, _, .cls ⟨_, _, .ref D :: bm, _, _, true, _, _, _, _, false⟩, sl⟩ => decide (t = "type") && (Nat.beq D C && ((PySem.HandSPX.refsVE bm && slB "ValueError.__new__" sl) || (refsX aeTail bm && slB "ArithmeticError.__new__" sl)))
  | _ => false
theorem exB_ok {K : Frg} {C : Addr} (h : exB K C = true) : ∃ nm q N bs bm sn sub ab col dd k0 k1 k2 k3 k5 newId, K.lookup C = some (excClassObj nm q C N bs bm true sn sub ab col dd k0 k1 k2 k3 k5 newId) ∧ TailOk newId bm := by
  unfold exB at h
  split at h
  · rename_i t dd nm bs D bm N q sn sub ab col sl e
    obtain ⟨h1, h2⟩ := He.ba h
    obtain ⟨h3, h4⟩ := He.ba h2
    have e1 : t = "type" := of_decide_eq_true h1
    have e2 : D = C := Nat.eq_of_beq_eq_true h3
    rcases (Bool.or_eq_true _ _).mp h4 with h4 | h4
    · obtain ⟨h5, h6⟩ := He.ba h4
      obtain ⟨k0, k1, k2, k3, k5, es⟩ := slB_ok h6
      subst e1 e2 es
      exact ⟨nm, q, N, bs, bm, sn, sub, ab, col, dd, k0, k1, k2, k3, k5, _, e, tail_ve h5⟩
    · obtain ⟨h5, h6⟩ := He.ba h4
      obtain ⟨k0, k1, k2, k3, k5, es⟩ := slB_ok h6
      subst e1 e2 es
      exact ⟨nm, q, N, bs, bm, sn, sub, ab, col, dd, k0, k1, k2, k3, k5, _, e, tail_ae h5⟩
  · cases h
def xckB (K : Frg) (C : Addr) : Bool := (PySem.W.clsIn K C).isSome && (He.eqO (PySem.W.findIn K (.ref C) "__getattribute__") (some (some (.builtin "BaseException.__getattribute__"))) && (He.eqO (PySem.W.findIn K (.ref C) "__getattr__") (some none) &&
  (decide (PySem.W.subIn K (.ref C) (.type "BaseException") = some true) && (He.eqO (PySem.W.findIn K (.ref C) "__class__") (some (some (.builtin "object.__class__"))) && (He.eqO (PySem.W.specialIn K (.builtin "object.__class__") "__get__") (some (some (.builtin "getset_descriptor.__get__"))) &&
  (decide (PySem.W.takesIn K (.builtin "object.__class__") = some true) && (decide (PySem.W.mroIn K C (.type "object") = some true) && PySem.W.hasDictIn K C)))))))
theorem xckB_ok {K : Frg} {C : Addr} (h : xckB K C = true) : XcK K C := by
  obtain ⟨h1, h⟩ := He.ba h
  obtain ⟨h2, h⟩ := He.ba h
  obtain ⟨h3, h⟩ := He.ba h
  obtain ⟨h4, h⟩ := He.ba h
  obtain ⟨h5, h⟩ := He.ba h
  obtain ⟨h6, h⟩ := He.ba h
  obtain ⟨h7, h⟩ := He.ba h
  obtain ⟨h8, h9⟩ := He.ba h
  exact ⟨h1, He.eqO_ok h2, He.eqO_ok h3, of_decide_eq_true h4, He.eqO_ok h5, He.eqO_ok h6, of_decide_eq_true h7, of_decide_eq_true h8, h9⟩
def xowB (K : Frg) (C : Addr) (x : Str) (i : Nat) : Bool := exB K C && (He.eqO (PySem.W.findIn K (.ref C) "__setattr__") (some (some (.builtin "object.__setattr__"))) && (xckB K C && (He.eqO (PySem.W.findIn K (.ref C) (nm i)) (some none) &&
  (He.eqO (PySem.W.findIn K (.ref C) "__init__") (some (some (.ref ((Wh.met x "__init__").ad K)))) && (decide (PySem.W.typeIn K (.ref ((Wh.met x "__init__").ad K)) = some (.type "function")) && (PySem.W.keepIn K (.ref C) && (decide (PySem.W.typeIn K (.ref C) = some (.type "type")) && Nat.blt i 42)))))))
def xo2B (K : Frg) (C : Addr) (x : Str) (i h : Nat) : Bool := exB K C && (He.eqO (PySem.W.findIn K (.ref C) "__setattr__") (some (some (.builtin "object.__setattr__"))) && (PySem.W.keepIn K (.ref C) && (He.eqO (PySem.W.findIn K (.ref C) (nm i)) (some none) &&
  (He.eqO (PySem.W.findIn K (.ref C) (nm h)) (some none) && (He.eqO (PySem.W.findIn K (.ref C) "__init__") (some (some (.ref ((Wh.met x "__init__").ad K)))) && decide (PySem.W.typeIn K (.ref ((Wh.met x "__init__").ad K)) = some (.type "function")))))))
def xo0B (K : Frg) (C : Addr) : Bool := (match K.lookup C with
  | some ⟨.type t, _, .cls ⟨_, _, .ref D :: bm, _, _, true, _, _, _, _, false⟩, sl⟩ => decide (t = "type") && (Nat.beq D C && (refsX aeTail bm && slB "ArithmeticError.__new__" sl))
  | _ => false) && (PySem.W.keepIn K (.ref C) && He.eqO (PySem.W.findIn K (.ref C) "__init__") (some (some (.builtin "ArithmeticError.__init__"))))
theorem xo0B_ok {K : Frg} {C : Addr} (h : xo0B K C = true) : Own0 K C := by
  obtain ⟨h, hk⟩ := He.ba h
  obtain ⟨kC, hi⟩ := He.ba hk
  split at h
  · rename_i t dd nm bs D bm N q sn sub ab col sl e
    obtain ⟨h1, h2⟩ := He.ba h
    obtain ⟨h3, h4⟩ := He.ba h2
    have e1 : t = "type" := of_decide_eq_true h1
    have e2 : D = C := Nat.eq_of_beq_eq_true h3
    obtain ⟨h5, h6⟩ := He.ba h4
    obtain ⟨k0, k1, k2, k3, k5, es⟩ := slB_ok h6
    subst e1 e2 es
    exact ⟨⟨nm, q, N, bs, bm, sn, sub, ab, col, dd, k0, k1, k2, k3, k5, _, e, _, _, _, F.excBase_ArithmeticError, (ae_all bm h5).1, He.eqO_ok hi⟩, kC⟩
  · cases h
inductive Fx where
  | fn (x : Str) (a : Wh)
  | free (x : Str)
  | con (x : Str) (d : D)
  | glC (x : Str) (j : Nat)
  | att (j i : Nat)
  | mkr (j : Nat) (x : Str)
  | prop (j : Nat) (x : Str)
  | meth (j : Nat) (m : Str)
  | own (j : Nat) (m : Str)
  | nfo (j : Nat) (ks : List Nat)
  | ne (j : Nat)
  | isi (T : IsT) (ks : List Nat)
  | slf (j : Nat)
  | dct (x : Str) (kvs : List (Str × D))
  | isx (x : Str) (k : Nat) (js : List Nat)
  | atx (i : Nat) (js : List Nat)
  | raz (x : Str) (j i : Nat)
  | two (js : List Nat)
  | isb (x : Str) (k : Nat) (js : List Nat)
  | rz2 (x : Str) (j i h : Nat)
  | rz0 (x : Str) (j : Nat)
def dctB (ps : List Str) (K : Frg) : List (Str × D) → List DictEntry → Bool
  | [], es => (match es with
    | [] => true
    | _ => false)
  | (k, d) :: r, es => (match es with
    | e :: t => (match e.key with
      | .str y _ => decide (y = k) && (repB ps K d e.val && dctB ps K r t)
      | _ => false)
    | [] => false)
theorem dctB_ok {ps : List Str} {K : Frg} {mg : Str → Option Value} : ∀ {kvs : List (Str × D)} {es : List DictEntry}, dctB ps K kvs es = true → es.any (·.refKey) = false ∧ ∀ z : Str, (match es.find? (·.key.isStr z) with
    | some e => ∃ v y, RelV v e.val ∧ kvs.lookup z = some y ∧ ∀ Z, RepD (cxt ps K mg) Z y v
    | none => kvs.lookup z = none)
  | [], es, h => by
    cases es with
    | nil => exact ⟨rfl, fun z => rfl⟩
    | cons e r => cases h
  | (k, d) :: r, es, h => by
    cases es with
    | nil => cases h
    | cons e t =>
      simp only [dctB] at h
      cases ek : e.key with
      | str y tk =>
        rw [ek] at h
        obtain ⟨h1, h2⟩ := He.ba h
        obtain ⟨h3, h4⟩ := He.ba h2
        have e1 : y = k := of_decide_eq_true h1
        subst e1
        obtain ⟨i1, i2⟩ := dctB_ok (mg := mg) h4
        refine ⟨?_, fun z => ?_⟩
        · rw [List.any_cons, i1, Bool.or_false]
          unfold DictEntry.refKey
          rw [ek]
        · rw [List.find?_cons, ek]
          by_cases q : y = z
          · subst q
            have : (Value.str y tk).isStr y = true := by simp [Value.isStr]
            rw [this]
            obtain ⟨v, r1, r2⟩ := repB_ok (mg := mg) h3
            exact ⟨v, d, r1, by rw [List.lookup_cons, beq_self_eq_true], r2⟩
          · have : (Value.str y tk).isStr z = false := by
              simp only [Value.isStr]
              exact beq_eq_false_iff_ne.mpr q
            rw [this]
            have e2 : ((y, d) :: r).lookup z = r.lookup z := by
              rw [List.lookup_cons, show (z == y) = false from beq_eq_false_iff_ne.mpr (Ne.symm q)]
            have := i2 z
            simp only [e2]
            exact this
      | _ => rw [ek] at h; cases h
def Fx.ok (ps : List Str) (K : Frg) : Fx → Bool
  | .fn x a => He.eqO (PySem.W.nsIn K mainGlobals x) (some (some (.ref (a.ad K))))
  | .free x => He.eqO (PySem.W.nsIn K mainGlobals x) (some none)
  | .con x d => (match PySem.W.nsIn K mainGlobals x with
    | some (some u) => repB ps K d u
    | _ => false)
  | .glC x j => atC ps K j fun C => He.eqO (PySem.W.nsIn K mainGlobals x) (some (some (.ref C)))
  | .att j i => atC ps K j fun C => clsB K C && (He.eqO (PySem.W.findIn K (.ref C) (nm i)) (some none) && Nat.blt i 42)
  | .mkr j x => atC ps K j fun C => PySem.W.makesIn K C && (He.eqO (PySem.W.findIn K (.ref C) "__init__") (some (some (.ref ((Wh.met x "__init__").ad K)))) && (PySem.W.isFn K (.ref ((Wh.met x "__init__").ad K)) && PySem.W.keepIn K (.ref C)))
  | .prop j x => atC ps K j fun C => clsB K C && (match clsL[j]? with
    | some y => He.eqO (PySem.W.findIn K (.ref C) x) (some (some (.ref (He.ma K (He.ga K y) x)))) && (He.eqO (PySem.W.specialIn K (.ref (He.ma K (He.ga K y) x)) "__get__") (some (some (.builtin "property.__get__"))) &&
      (decide (PySem.W.takesIn K (.ref (He.ma K (He.ga K y) x)) = some true) && (match PySem.W.recIn K (He.ma K (He.ga K y) x) "property" with
        | some (.ref g :: _) => Nat.beq g (getAd K y x)
        | _ => false)))
    | none => false)
  | .meth j m => atC ps K j fun C => clsB K C && (match clsL[j]? with
    | some y => He.eqO (PySem.W.findIn K (.ref C) m) (some (some (.ref ((Wh.met y m).ad K)))) && (PySem.W.isFn K (.ref ((Wh.met y m).ad K)) && PySem.W.keepIn K (.ref ((Wh.met y m).ad K)))
    | none => false)
  | .own j m => atC ps K j fun C => (match clsL[j]? with
    | some y => He.eqO (PySem.W.findIn K (.ref C) m) (some (some (.ref ((Wh.met y m).ad K)))) && PySem.W.isFn K (.ref ((Wh.met y m).ad K))
    | none => false)
  | .nfo j ks => atC ps K j fun C => (tyNames.all fun t => PySem.W.notFirst K C (.type t)) && allJ ps K ks fun _ E => PySem.W.notFirst K C (.ref E)
  | .ne j => atC ps K j fun C => He.eqO (PySem.W.findIn K (.ref C) "__ne__") (some (some (.builtin "object.__ne__"))) && decide (PySem.W.mroIn K C (.type "object") = some true)
  | .isi T ks => isiB ps K T ks
  | .slf j => atC ps K j fun C => PySem.W.selfFirst K C
  | .dct x kvs => He.eqO (PySem.W.nsIn K mainGlobals x) (some (some (.ref (He.ga K x)))) && (match K.lookup (He.ga K x) with
    | some ⟨_, _, .dict es _, _⟩ => dctB ps K kvs es.toList
    | _ => false)
  | .isx x k js => He.eqO (PySem.W.nsIn K mainGlobals "isinstance") (some none) && atC ps K k fun C => He.eqO (PySem.W.nsIn K mainGlobals x) (some (some (.ref C))) && allJ ps K js fun j D => xckB K D && decide (PySem.W.kitOne K (.ref D) (.ref C) = some (subX j k))
  | .atx i js => Nat.blt i 42 && allJ ps K js fun _ D => xckB K D && He.eqO (PySem.W.findIn K (.ref D) (nm i)) (some none)
  | .raz x j i => atC ps K j fun C => He.eqO (PySem.W.nsIn K mainGlobals x) (some (some (.ref C))) && xowB K C x i
  | .isb x k js => He.eqO (PySem.W.nsIn K mainGlobals "isinstance") (some none) && (He.eqO (PySem.W.nsIn K mainGlobals x) (some none) && allJ ps K js fun j D => xckB K D && decide (PySem.W.kitOne K (.ref D) (.type x.toString) = some (subX j k)))
  | .rz2 x j i h => atC ps K j fun C => He.eqO (PySem.W.nsIn K mainGlobals x) (some (some (.ref C))) && xo2B K C x i h
  | .rz0 x j => atC ps K j fun C => He.eqO (PySem.W.nsIn K mainGlobals x) (some (some (.ref C))) && xo0B K C
  | .two js => He.eqO (PySem.W.nsIn K mainGlobals "WrongValue") (some (some (.ref (He.ga K "WrongValue")))) && (He.eqO (PySem.W.nsIn K mainGlobals "NoAnswer") (some (some (.ref (He.ga K "NoAnswer")))) &&
    allJ ps K js fun _ D => decide (PySem.W.exmAny K (.ref D) [.ref (He.ga K "WrongValue"), .ref (He.ga K "NoAnswer")] = some true))
def tabsO (fx : List Fx) (K : Frg) : List (Option (List (Option (Str × Int)))) := fx.filterMap fun f => match f with
  | .dct x _ => some (He.dicW K (He.ga K x))
  | _ => none
def tabsV (fx : List Fx) (P : Params) : List (Option (List (Option (Str × Int)))) := fx.filterMap fun f => match f with
  | .dct _ kvs => some (some (He.keysIn P (kvs.map (·.1))))
  | _ => none
theorem tabs_at {K : Frg} {P : Params} {x : Str} {kvs : List (Str × D)} : ∀ {fx : List Fx}, tabsO fx K = tabsV fx P → .dct x kvs ∈ fx → He.dicW K (He.ga K x) = some (He.keysIn P (kvs.map (·.1)))
  | [], _, h => by cases h
  | f :: r, e, h => by
    rcases List.mem_cons.mp h with rfl | h
    · simp only [tabsO, tabsV, List.filterMap_cons] at e
      exact (List.cons.inj e).1
    · refine tabs_at (fx := r) ?_ h
      cases f <;> first | exact e | (simp only [tabsO, tabsV, List.filterMap_cons] at e; exact (List.cons.inj e).2)
structure En (cs : List Str) (fx : List Fx) (fn : List DfP) (P : Program) (w : World) (K : Frg) (mg : Str → Option Value) (base : Heap) : Prop where
  ex : (fx.all fun f => f.ok cs K) = true
  okf : (fn.all fun d => d.ok K) = true
  fns : (fn.map fun d => fnWP K (d.at_.ad K)) = fn.map DfP.val
  inK : K.In base
  ns : base.Ns mainGlobals mg
  tb : tabsO fx K = tabsV fx w.params
section
variable {cs : List Str} {fx : List Fx} {fn : List DfP} {P : Program} {w : World} {K : Frg} {mg : Str → Option Value} {base : Heap} {k : Nat}
theorem En.fact (e : En cs fx fn P w K mg base) (i : Nat) {f : Fx} (h : fx[i]? = some f) : f.ok cs K = true := List.all_eq_true.mp e.ex f (List.mem_of_getElem? h)
theorem En.def_ (e : En cs fx fn P w K mg base) (i : Nat) {d : DfP} (h : fn[i]? = some d) : ∃ fd, FunD K d.name d.qual d.params d.body d.scope (d.dvs K) [] (d.at_.ad K) fd := by
  have e2 : (fn.map fun d => fnWP K (d.at_.ad K))[i]? = (fn.map DfP.val)[i]? := by rw [e.fns]
  rw [List.getElem?_map, List.getElem?_map, h] at e2
  exact DfP.funD (Option.some.inj e2) (List.all_eq_true.mp e.okf d (List.mem_of_getElem? h))
abbrev En.R (_ : En cs fx fn P w K mg base) : Rn := ⟨P, w, K, mg, base⟩
theorem En.free (e : En cs fx fn P w K mg base) (i : Nat) {x : Str} (h : fx[i]? = some (.free x)) : mg x = none := PySem.W.mg_none_of e.inK e.ns (He.eqO_ok (e.fact i h))
theorem En.fn_ (e : En cs fx fn P w K mg base) (i : Nat) {x : Str} {a : Wh} (h : fx[i]? = some (.fn x a)) : mg x = some (.ref (a.ad K)) := PySem.W.mg_of e.inK e.ns (He.eqO_ok (e.fact i h))
theorem En.con (e : En cs fx fn P w K mg base) (i : Nat) {x : Str} {d : D} (h : fx[i]? = some (.con x d)) : KGlo (cxt cs K mg) e.R x d := by
  have f := e.fact i h
  simp only [Fx.ok] at f
  cases q : PySem.W.nsIn K mainGlobals x with
  | none => rw [q] at f; cases f
  | some o =>
    rw [q] at f
    cases o with
    | none => cases f
    | some u =>
      obtain ⟨v, r, z⟩ := repB_ok (mg := mg) f
      exact ⟨u, v, PySem.W.mg_of e.inK e.ns q, r, z⟩
theorem En.dct (e : En cs fx fn P w K mg base) (i : Nat) {x : Str} {kvs : List (Str × D)} (h : fx[i]? = some (.dct x kvs)) : KDct (cxt cs K mg) e.R x kvs := by
  obtain ⟨f1, f2⟩ := He.ba (show (He.eqO (PySem.W.nsIn K mainGlobals x) (some (some (.ref (He.ga K x)))) && (match K.lookup (He.ga K x) with
    | some ⟨_, _, .dict es _, _⟩ => dctB cs K kvs es.toList
    | _ => false)) = true from e.fact i h)
  obtain ⟨es, n, D⟩ := He.dicW_ok (tabs_at e.tb (List.mem_of_getElem? h))
  rw [D.at_] at f2
  have f3 : dctB cs K kvs es.toList = true := f2
  obtain ⟨g1, g2⟩ := dctB_ok (mg := mg) f3
  refine ⟨He.ga K x, es, n, PySem.W.mg_of e.inK e.ns (He.eqO_ok f1), D, fun z => ?_⟩
  have g := g2 z
  unfold PySem.W.nsIn
  show ∃ r, (match K.lookup (He.ga K x) with
    | some ⟨_, _, .dict es _, _⟩ => (match es.toList.find? (·.key.isStr z) with
      | some e => some (some e.val)
      | none => if es.toList.any (·.refKey) then none else some none)
    | _ => none) = some r ∧ _
  rw [D.at_]
  dsimp only
  cases q : es.toList.find? (·.key.isStr z) with
  | some e1 =>
    rw [q] at g
    exact ⟨some e1.val, rfl, g⟩
  | none =>
    rw [q] at g
    rw [g1]
    exact ⟨none, rfl, g⟩
theorem En.cls (e : En cs fx fn P w K mg base) (i : Nat) {x : Str} {j : Nat} (h : fx[i]? = some (.glC x j)) : ∃ C, cnOf cs K j = some C ∧ mg x = some (.ref C) := by
  obtain ⟨C, h1, h2⟩ := atC_ok (show atC cs K j _ = true from e.fact i h)
  exact ⟨C, h1, PySem.W.mg_of e.inK e.ns (He.eqO_ok h2)⟩
theorem En.att (e : En cs fx fn P w K mg base) (n : Nat) {j i : Nat} (h : fx[n]? = some (.att j i)) : KAtt (cxt cs K mg) e.R j i := by
  obtain ⟨C, h1, h2⟩ := atC_ok (show atC cs K j _ = true from e.fact n h)
  obtain ⟨h3, h4⟩ := He.ba h2
  obtain ⟨h5, h6⟩ := He.ba h4
  exact ⟨C, h1, clsB_ok h3, He.eqO_ok h5, nm_inj i (Nat.le_of_ble_eq_true h6)⟩
theorem En.isx (e : En cs fx fn P w K mg base) (n : Nat) {x : Str} {q : Nat} {js : List Nat} (h : fx[n]? = some (.isx x q js)) : KIsx (cxt cs K mg) e.R x q js := by
  obtain ⟨f1, f2⟩ := He.ba (show (_ && _) = true from e.fact n h)
  obtain ⟨C, h1, h2⟩ := atC_ok f2
  obtain ⟨h3, h4⟩ := He.ba h2
  refine ⟨PySem.W.mg_none_of e.inK e.ns (He.eqO_ok f1), .ref C, .ref C, .inl ⟨C, h1, PySem.W.mg_of e.inK e.ns (He.eqO_ok h3), rfl, rfl⟩, fun j hj D hD => ?_⟩
  obtain ⟨a1, a2⟩ := He.ba (allJ_ok h4 j hj D hD)
  exact ⟨xckB_ok a1, of_decide_eq_true a2⟩
theorem En.atx (e : En cs fx fn P w K mg base) (n : Nat) {i : Nat} {js : List Nat} (h : fx[n]? = some (.atx i js)) : KAttx (cxt cs K mg) e.R i js := by
  obtain ⟨f1, f2⟩ := He.ba (show (_ && _) = true from e.fact n h)
  refine ⟨nm_inj i (Nat.le_of_ble_eq_true f1), fun j hj D hD => ?_⟩
  obtain ⟨a1, a2⟩ := He.ba (allJ_ok f2 j hj D hD)
  exact ⟨xckB_ok a1, He.eqO_ok a2⟩
theorem En.two (e : En cs fx fn P w K mg base) (n : Nat) {js : List Nat} (h : fx[n]? = some (.two js)) : ∃ C1 C2, mg "WrongValue" = some (.ref C1) ∧ mg "NoAnswer" = some (.ref C2) ∧ ∀ j ∈ js, ∀ D, cnOf cs K j = some D → PySem.W.exmAny K (.ref D) [.ref C1, .ref C2] = some true := by
  obtain ⟨f1, f2⟩ := He.ba (show (_ && _) = true from e.fact n h)
  obtain ⟨f3, f4⟩ := He.ba f2
  exact ⟨_, _, PySem.W.mg_of e.inK e.ns (He.eqO_ok f1), PySem.W.mg_of e.inK e.ns (He.eqO_ok f3), fun j hj D hD => of_decide_eq_true (allJ_ok f4 j hj D hD)⟩
theorem En.raz (e : En cs fx fn P w K mg base) (n : Nat) {d : DfP} {x : Str} {j i : Nat} {p1 p2 q1 q2 q3 q4 : Pos} (h : fx[n]? = some (.raz x j i)) (q : Nat) (hq : fn[q]? = some d) (ha : d.at_ = .met x "__init__") (hn : d.name = "__init__") (hd : d.dfl = []) (hp : d.params = xA (nm i) p1 p2) (hb : d.body = xB (nm i) q1 q2 q3 q4) (hs : d.scope = xS (nm i)) (ns : nm i ≠ "self") (nd : (nm i == ("__debug__" : Str)) = false)
    (b : ∀ (kV doc pm : Value) (an : Option Addr) (cdv ct : Value) (us : List Value), us.length = [("self" : Str), nm i].length → bindArgs (PySem.W.fnOf d.name d.qual d.params d.body d.scope .none kV doc pm an cdv ct) ⟨us, []⟩ = pure ([("self" : Str), nm i].zip us)) : KRaz (cxt cs K mg) e.R x j i := by
  obtain ⟨C, h1, h2⟩ := atC_ok (show atC cs K j _ = true from e.fact n h)
  obtain ⟨h3, h4⟩ := He.ba h2
  obtain ⟨a1, h5⟩ := He.ba h4
  obtain ⟨a2, h5⟩ := He.ba h5
  obtain ⟨a3, h5⟩ := He.ba h5
  obtain ⟨a4, h5⟩ := He.ba h5
  obtain ⟨a5, h5⟩ := He.ba h5
  obtain ⟨a6, h5⟩ := He.ba h5
  obtain ⟨a7, h5⟩ := He.ba h5
  obtain ⟨a8, a9⟩ := He.ba h5
  have X := xckB_ok a3
  obtain ⟨fd, F⟩ := e.def_ q hq
  have e0 : d.dvs K = [] := by unfold DfP.dvs; rw [hd]; rfl
  rw [e0, ha] at F
  have B := F.bindsN b
  rw [hn, hp, hb, hs] at F
  refine ⟨C, _, h1, PySem.W.mg_of e.inK e.ns (He.eqO_ok h3), exB_ok a1, He.eqO_ok a2, X.ga, X.gg, He.eqO_ok a4, He.eqO_ok a5, of_decide_eq_true a6, a7, X.sub, of_decide_eq_true a8, X.hd, ns, nd, fd, d.qual, p1, p2, q1, q2, q3, q4, F, B⟩
theorem KRaz.mx {c : Ctx} {X : Rn} {x : Str} {j i : Nat} (h : KRaz c X x j i) (hi : c.nm i ∈ atN) : KMx c X x j [i] := by
  obtain ⟨C, g, h1, h2, T⟩ := h
  exact ⟨C, h1, h2, T.kC, .inr (.inl ⟨i, g, rfl, hi, T⟩)⟩
theorem En.rz0 (e : En cs fx fn P w K mg base) (n : Nat) {x : Str} {j : Nat} (h : fx[n]? = some (.rz0 x j)) : KMx (cxt cs K mg) e.R x j [] := by
  obtain ⟨C, h1, h2⟩ := atC_ok (show atC cs K j _ = true from e.fact n h)
  obtain ⟨h3, h4⟩ := He.ba h2
  have T := xo0B_ok h4
  exact ⟨C, h1, PySem.W.mg_of e.inK e.ns (He.eqO_ok h3), T.kC, .inl ⟨rfl, T⟩⟩
theorem En.rz2 (e : En cs fx fn P w K mg base) (n : Nat) {d : DfP} {x : Str} {j i h : Nat} {p1 p2 p3 q1 q2 q3 q4 r1 r2 r3 r4 : Pos} (hf : fx[n]? = some (.rz2 x j i h)) (hi : nm i = "index") (hh : nm h = "told") (q : Nat) (hq : fn[q]? = some d) (ha : d.at_ = .met x "__init__") (hn : d.name = "__init__") (hd : d.dfl = [])
    (hp : d.params = xA2 "index" "told" p1 p2 p3) (hb : d.body = xB2 "index" "told" q1 q2 q3 q4 r1 r2 r3 r4) (hs : d.scope = xS2 "index" "told") : KMx (cxt cs K mg) e.R x j [i, h] := by
  obtain ⟨C, h1, h2⟩ := atC_ok (show atC cs K j _ = true from e.fact n hf)
  obtain ⟨h3, h4⟩ := He.ba h2
  obtain ⟨a1, h5⟩ := He.ba h4
  obtain ⟨a2, h5⟩ := He.ba h5
  obtain ⟨a3, h5⟩ := He.ba h5
  obtain ⟨a4, h5⟩ := He.ba h5
  obtain ⟨a5, h5⟩ := He.ba h5
  obtain ⟨a6, a7⟩ := He.ba h5
  obtain ⟨fd, F⟩ := e.def_ q hq
  have e0 : d.dvs K = [] := by unfold DfP.dvs; rw [hd]; rfl
  rw [e0, ha] at F
  rw [hn, hp, hb, hs] at F
  have b4 := He.eqO_ok a4
  have b5 := He.eqO_ok a5
  rw [hi] at b4
  rw [hh] at b5
  exact ⟨C, h1, PySem.W.mg_of e.inK e.ns (He.eqO_ok h3), a3, .inr (.inr ⟨i, h, _, rfl, hi, hh, ⟨⟨exB_ok a1, He.eqO_ok a2, a3⟩, b4, b5, He.eqO_ok a6, of_decide_eq_true a7, by decide, by decide, by decide, by decide, by decide, fd, d.qual, p1, p2, p3, q1, q2, q3, q4, r1, r2, r3, r4, F⟩⟩)⟩
theorem En.isb (e : En cs fx fn P w K mg base) (n : Nat) {x : Str} {q : Nat} {js : List Nat} (h : fx[n]? = some (.isb x q js)) (hb : bootBuiltins x = some (.type x.toString)) (nn : x ≠ "__name__") : KIsx (cxt cs K mg) e.R x q js := by
  obtain ⟨f1, f2⟩ := He.ba (show (_ && _) = true from e.fact n h)
  obtain ⟨f3, f4⟩ := He.ba f2
  refine ⟨PySem.W.mg_none_of e.inK e.ns (He.eqO_ok f1), .ty x.toString, .type x.toString, .inr ⟨x.toString, PySem.W.mg_none_of e.inK e.ns (He.eqO_ok f3), nn, hb, rfl, rfl⟩, fun j hj D hD => ?_⟩
  obtain ⟨a1, a2⟩ := He.ba (allJ_ok f4 j hj D hD)
  exact ⟨xckB_ok a1, of_decide_eq_true a2⟩
def PrA (cs : List Str) (P : Program) (w : World) (K : Frg) (mg : Str → Option Value) (base : Heap) (k : Nat) (a : Addr) (n : Nat) (sp : DSp) : Prop :=
  ∃ (fd : FuncData) (ps : List Str), FnOk P w K mg base (L2.CX P w) k a fd ps (liftSp (cxt cs K mg) sp) ∧ Binds K fd ps [] ∧ ps.length = n ∧ PySem.W.keepIn K (.ref a) = true
theorem PrA.kf {e : En cs fx fn P w K mg base} {a : Addr} {n : Nat} {sp : DSp} (p : PrA cs P w K mg base k a n sp) : KF (cxt cs K mg) k e.R a sp := by
  obtain ⟨fd, ps, F, b, _, _⟩ := p
  exact ⟨fd, ps, [], [], _, F, b, .nil, fun vs H Q E q => by rw [List.append_nil]; exact q⟩
theorem PrA.mono {a : Addr} {n j : Nat} {sp : DSp} (p : PrA cs P w K mg base k a n sp) (h : k ≤ j) : PrA cs P w K mg base j a n sp := by
  obtain ⟨fd, ps, F, b⟩ := p
  exact ⟨fd, ps, F.mono h, b⟩
theorem En.pr (e : En cs fx fn P w K mg base) {d : DfP} {N ps : List Str} {sp : DSp} {cb : CB} (i : Nat) (h : fn[i]? = some d) (hd : d.dfl = []) (S : FnScope N ps d.scope) (m : mB nm N d.scope d.body cb = true) (kn : knB (cxt cs K mg) k e.R cb)
    (len : ∀ ds S Q E, sp ds S Q E → ds.length = ps.length) (v : ∀ ds S Q E, sp ds S Q E → bodyW N.length cb ds S Q E)
    (b : ∀ (kV doc pm : Value) (an : Option Addr) (cdv ct : Value) (us : List Value), us.length = ps.length → bindArgs (PySem.W.fnOf d.name d.qual d.params d.body d.scope .none kV doc pm an cdv ct) ⟨us, []⟩ = pure (ps.zip us)) : PrA cs P w K mg base (k + 1) (d.at_.ad K) ps.length sp := by
  obtain ⟨fd, F⟩ := e.def_ i h
  have e0 : d.dvs K = [] := by unfold DfP.dvs; rw [hd]; rfl
  rw [e0] at F
  exact ⟨fd, ps, def_ok rfl rfl rfl rfl F S m kn len v, F.bindsN b, rfl, F.kp⟩
theorem En.kfun (e : En cs fx fn P w K mg base) (i : Nat) {x : Str} {a : Wh} {n j : Nat} {sp : DSp} (h : fx[i]? = some (.fn x a)) (p : PrA cs P w K mg base j (a.ad K) n sp) (hk : j ≤ k) : KFun (cxt cs K mg) k e.R x sp := by
  obtain ⟨fd, ps, F, b, _, kp⟩ := p
  exact (fun_ok (R := e.R) F (e.fn_ i h) kp b).mono hk
theorem En.nf (e : En cs fx fn P w K mg base) (n : Nat) {j : Nat} {ks : List Nat} (h : fx[n]? = some (.nfo j ks)) : nfOk (cxt cs K mg) e.R j ks := by
  obtain ⟨C, h1, h2⟩ := atC_ok (show atC cs K j _ = true from e.fact n h)
  obtain ⟨h3, h4⟩ := He.ba h2
  intro C' hC
  rw [show cnOf cs K j = some C' from hC] at h1; cases h1
  exact ⟨fun t ht => List.all_eq_true.mp h3 t ht, allJ_ok h4⟩
def NeOk (c : Ctx) (X : Rn) (cl : Nat) : Prop := ∀ C, c.cn cl = some C → PySem.W.findIn X.K (.ref C) "__ne__" = some (some (.builtin "object.__ne__")) ∧ PySem.W.mroIn X.K C (.type "object") = some true
theorem En.slf (e : En cs fx fn P w K mg base) (n : Nat) {j : Nat} (h : fx[n]? = some (.slf j)) : SfOk (cxt cs K mg) e.R j := by
  obtain ⟨C, h1, h2⟩ := atC_ok (show atC cs K j _ = true from e.fact n h)
  intro C' hC
  rw [show cnOf cs K j = some C' from hC] at h1; cases h1
  exact h2
end
abbrev AlP : Type := (Bool × List He.FnW) × List (Option (List (Option (Str × Int))))
def obsP (cs : List Str) (fx : List Fx) (fn : List DfP) (K : Frg) : AlP := (((fx.all fun f => f.ok cs K) && fn.all fun d => d.ok K, fn.map fun d => fnWP K (d.at_.ad K)), tabsO fx K)
def valP (fx : List Fx) (fn : List DfP) (w : World) : AlP := ((true, fn.map DfP.val), tabsV fx w.params)
def SaysP (cs : List Str) (fx : List Fx) (fn : List DfP) (w : World) (K : Frg) : Prop := obsP cs fx fn K = valP fx fn w
def obsPA (as : List Addr) (cs : List Str) (fx : List Fx) (fn : List DfP) (g : Addr → Option Obj) : AlP := obsP cs fx fn (He.frG g as)
def hookA (as : List Addr) (cs : List Str) (fx : List Fx) (fn : List DfP) : PySem.W.Hook where
  α := AlP
  obs := fun s => obsPA as cs fx fn s.heap.get?
  val := fun w => valP fx fn w
  says := fun w h => ∃ K : Frg, K.In h ∧ SaysP cs fx fn w K
  of := fun _ _ e => ⟨_, He.frG_in, e⟩
  keeps := fun _ _ _ ⟨K, hK, c⟩ k => ⟨K, PySem.W.Frag.In.keeps hK k, c⟩
theorem obsPA_eq {as : List Addr} {cs : List Str} {fx : List Fx} {fn : List DfP} {g : Addr → Option Obj} {s : Shared} (h : ∀ a, g a = s.heap.get? a) : obsPA as cs fx fn g = (hookA as cs fx fn).obs s := by
  have e : g = s.heap.get? := funext h
  rw [e] <;> rfl
theorem run2 {α β γ δ : Type} {o : Option α} {f : α → β} {g : α → γ} {h : α → δ} {x : β} {y : γ} {z : δ} (e1 : o.map (fun s => (f s, g s)) = some (x, y)) (e2 : o.map h = some z) : o.map (fun s => (f s, g s, h s)) = some (x, y, z) := by
  cases o with
  | none => cases e1
  | some a =>
    cases e1
    cases e2
    rfl
theorem SaysP.en {cs : List Str} {fx : List Fx} {fn : List DfP} {P : Program} {w : World} {K : Frg} {mg : Str → Option Value} {base : Heap} (c : SaysP cs fx fn w K) (h1 : K.In base) (h2 : base.Ns mainGlobals mg) : En cs fx fn P w K mg base := by
  have c1 : ((fx.all fun f => f.ok cs K) && fn.all fun d => d.ok K, fn.map fun d => fnWP K (d.at_.ad K)) = (true, fn.map DfP.val) := congrArg (fun z : AlP => z.1) c
  obtain ⟨a, b⟩ := He.ba (show ((fx.all fun f => f.ok cs K) && fn.all fun d => d.ok K) = true from congrArg (fun z : Bool × List He.FnW => z.1) c1)
  exact ⟨a, b, congrArg (fun z : Bool × List He.FnW => z.2) c1, h1, h2, congrArg (fun z : AlP => z.2) c⟩
def noTb (H : Hp) : Hp := fun b => match H b with
  | some (.tbl _) => none
  | o => o
theorem noTb_le {H : Hp} {a : Addr} {o : HO} (h : noTb H a = some o) : H a = some o := by
  unfold noTb at h
  split at h
  · cases h
  · exact h
theorem noTb_nt {H : Hp} (a : Addr) (ps : Array Value) : noTb H a ≠ some (.tbl ps) := fun e => by
  have e' := noTb_le e
  unfold noTb at e
  rw [e'] at e
  cases e
theorem noTb_of {H : Hp} {a : Addr} {o : HO} (h : H a = some o) (n : ∀ ps, o ≠ .tbl ps) : noTb H a = some o := by
  unfold noTb
  rw [h]
  split
  · rename_i ps e
    injection e with e
    exact absurd e (n ps)
  · rfl
theorem sqL_noTb {K : PySem.W.Frag} {H : Hp} {a : Addr} {xs : List V} (h : SqL K H a xs) : SqL K (noTb H) a xs := by
  rcases h with (h | ⟨o, h⟩) | h
  · exact .inl (.inl (noTb_of h fun ps z => by cases z))
  · exact .inl (.inr ⟨o, noTb_of h fun ps z => by cases z⟩)
  · exact .inr h
theorem law_spT {c : Ctx} {sp : DSp} {H : Hp} {a : Addr} {ns : List Int} (hS : SqL c.K H a (ns.map V.int)) (hT : ∀ p ∈ c.tabs, LamX.TabS H p.1 p.2) (h : ∀ Q : QE, Q (.bl true) (fun _ => none) → sp [.kl (ns.map .int)] (fun _ => none) Q fun _ _ => False) :
    liftSp c sp [.ref a] H (fun v _ => v = .bl true) fun _ _ _ => False := by
  refine ⟨noTb H, fun _ => none, [.kl (ns.map .int)], fun d _ => d = .bl true, fun _ _ => False, ⟨fun _ _ e => noTb_le e, fun _ _ e => (by cases e), noTb_nt, hT⟩, ⟨.ref a, [], rfl, ⟨a, _, rfl, sqL_noTb hS, RepL.ints ns⟩, rfl⟩, h _ rfl, ?_, ?_⟩
  · rintro d v Z' S' H' l R' rd rfl
    exact rd
  · intro x Z' S' H' cls dd l R' rx z
    exact z
theorem law_sp {c : Ctx} {sp : DSp} {H : Hp} {a : Addr} {ns : List Int} (h0 : c.tabs = []) (hS : SqL c.K H a (ns.map V.int)) (h : ∀ Q : QE, Q (.bl true) (fun _ => none) → sp [.kl (ns.map .int)] (fun _ => none) Q fun _ _ => False) :
    liftSp c sp [.ref a] H (fun v _ => v = .bl true) fun _ _ _ => False := law_spT hS (by rw [h0]; simp) h
theorem cx_none {P : Program} {w : World} {H : Hp} {s : Shared} {e : Value} {s' : Shared} (h : L2.CX P w [] H s (fun _ _ _ => False) e s') : False := by
  obtain ⟨_, _, _, _, _, _, _, _, _, _, _, _, q⟩ := h
  exact q
theorem nb_bLen : bLen.nm = ("len" : Str) := rfl
theorem nb_bAbs : bAbs.nm = ("abs" : Str) := rfl
theorem nb_bAll : bAll.nm = ("all" : Str) := rfl
theorem nb_bInt : bInt.nm = ("int" : Str) := rfl
theorem nb_bDivmod : bDivmod.nm = ("divmod" : Str) := rfl
theorem nb_bMax : bMax.nm = ("max" : Str) := rfl
theorem nb_bMin : bMin.nm = ("min" : Str) := rfl
end L3
namespace L3
open PySem PySem.Spec PyProof.Rows L2
section
variable {c : Ctx} {k : Nat} {X : Cx} {W : WX} {pos : Pos}
theorem PET.imp {e : Expr} {t t' : TE} (h : PET X e t) (g : ∀ σ H Q, t' σ H Q → t σ H Q) : PET X e t' := fun pins s σ H Q h0 I q => h pins s σ H Q h0 I (g _ _ _ q)
theorem PAT.imp {es : List Expr} {t t' : TA} (h : PAT X es t) (g : ∀ σ H Q, t' σ H Q → t σ H Q) : PAT X es t' := fun pos pins s σ H Q h0 I q => h pos pins s σ H Q h0 I (g _ _ _ q)
theorem PST.imp {e : Stmt} {t t' : TS} (h : PST X e t) (g : ∀ E σ H, t' E σ H → t E σ H) : PST X e t' := fun pins s σ H D h0 I q => h pins s σ H D h0 I (g _ _ _ q)
theorem PSsT.imp {e : List Stmt} {t t' : TS} (h : PSsT X e t) (g : ∀ E σ H, t' E σ H → t E σ H) : PSsT X e t' := fun pins s σ H D h0 I q => h pins s σ H D h0 I (g _ _ _ q)
end
section
variable {c : Ctx} {k : Nat} {N : List Str}
end
end L3
namespace L3
variable [TabsI]
open PySem PySem.Spec PyProof.Rows L2
section
variable {cs : List Str} {fx : List Fx} {fn : List DfP} {P : Program} {w : World} {K : PySem.W.Frag} {mg : Str → Option Value} {base : Heap} {k : Nat}
end
end L3
namespace L3
open PySem PySem.Spec PyProof.Rows L2
theorem fly_push {B h : Heap} {l : List PySem.Env} {e : Addr} {Z : Obj → Prop} (f : HandSPX.FlyingZ B l e Z h) (o : Obj) : HandSPX.FlyingZ B l e Z (h.push o) := by
  obtain ⟨f1, f2, f3, oe, vs, T, oT, ts, he, hz, hd, h1, nT, Te, hT, dT, h3⟩ := f
  exact ⟨fun b u hb => Heap.get?_push_of_some _ (f1 b u hb), f2, f3.of_keeps fun b u hb _ => ⟨u, Heap.get?_push_of_some _ hb, rfl⟩, oe, vs, T, oT, ts, Heap.get?_push_of_some _ he, hz, hd, h1, nT, Te, Heap.get?_push_of_some _ hT, dT, h3⟩
theorem up_push {h : Heap} (o : Obj) : h.UpToSlots (h.push o) := fun b u hb _ => ⟨u.slots, Heap.get?_push_of_some _ hb⟩
def wTwo (K : PySem.W.Frag) (c1 c2 : Value) (i : Nat) (ts : Addr → Value → Option Addr → TS) (D : Ends) : WX := fun cls d σ H =>
  PySem.W.exmAny K cls [c1, c2] = some true ∧ ∀ a, H a = none → ts a cls d { nx := fun σ' H' => D.nx (σ'.set i none) H', rt := D.rt, bk := fun σ' H' => D.bk (σ'.set i none) H', ct := fun σ' H' => D.ct (σ'.set i none) H' } (σ.set i (some (.ref a))) H
theorem ps_try2 {X : Cx} {x1 x2 n : Str} {c1 c2 : Value} {i kk : Nat} {body suite : List Stmt} {b₀ : Stmt} {q1 q2 np pos pos' : Pos} {tb : WX → TS} {ts : Addr → Value → Option Addr → TS}
    (hs : X.stack = X.env :: X.outer) (hf : X.env.frame = some X.env.locals) (hN : X.N.Nodup) (hi : X.N[i]? = some n) (hln : X.env.kindOf n = some .local)
    (g1 : Gl X x1) (m1 : X.mg x1 = some c1) (d1 : (x1 == ("__debug__" : Str)) = false) (g2 : Gl X x2) (m2 : X.mg x2 = some c2) (d2 : (x2 == ("__debug__" : Str)) = false)
    (hb : ∀ (W : WX) (pn : List (Addr × Obj)) (xe : Value → Shared → Prop), Takes (X.tr pn xe) W → PassesOwn (model X.prog X.w) X.A X.env xe → PSs (X.tr pn xe) body (tb W))
    (hsu : ∀ (a : Addr) (oe : Obj) (cls : Value) (d : Option Addr) (pn : List (Addr × Obj)), Zc cls d oe → (∃ vs, oe.data = .fields vs) → PSs (X.suite a ((a, oe) :: pn)) (b₀ :: suite) (ts a cls d)) :
    PS X (.Try body [.ExceptHandler (some (.Tuple [.Name x1 q1, .Name x2 q2] kk np)) (some n) (b₀ :: suite) pos'] [] [] pos) (fun D σ H => tb (wTwo X.K c1 c2 i ts D) D σ H) := by
  refine ⟨fun pins s σ H D I h => ?_⟩
  have ok := I.ok
  have fr : X.A.frames = some (X.env :: X.outer) := by rw [ok.frames, hs]
  refine wpAny_Try_except ?_
  refine wpAny_mono ((hb (wTwo X.K c1 c2 i ts D) (X.pn ++ pins) (fun e t1 => wpAny (model X.prog X.w) X.A (noteFrame e X.env) (fun _ t2 => wpAny (model X.prog X.w) X.A (setFlight e none) (fun _ t3 =>
    wpAny (model X.prog X.w) X.A (handleBy e X.env [.ExceptHandler (some (.Tuple [.Name x1 q1, .Name x2 q2] kk np)) (some n) (b₀ :: suite) pos']) (SP X pins D) X.xe t3) X.xe t2) X.xe t1) (fun u s' xx => ?_) PassesOwn.looking).run [] s σ H D (I.toTry _) h) (fun f t1 hsp => ?_) (fun e t1 he => he)
  · obtain ⟨a, B, sI, ps', τ, G, cls, d, rfl, J', nb, up, sky, na, os, ag, hx, yes⟩ := xx
    have J : L2.Inv X pins τ G sI := J'.ofTry ok
    have sky2 : Sky B (X.env :: X.outer) a (Zc cls d) X.env.locals s'.heap := by rw [← hs]; exact sky
    show wpAny _ X.A (noteFrame (.ref a) X.env) _ _ _
    refine Sky.land Zc.steady fr hf sky2 fun h3 fl3 up3 => ?_
    have nofr : ∀ {hp : Heap} {o : Obj} {vs : Array Value}, hp.FunFrames B (X.env :: X.outer) → hp.get? a = some o → o.data = .fields vs → a ∉ frs (X.env :: X.outer) := fun {hp o vs} ff e dd hm => by
      obtain ⟨_, o', e', hnf⟩ := ff.mem hm
      rw [e] at e'
      cases e'
      exact hnf _ dd
    obtain ⟨oe3, vs3, he3, hz3, hd3⟩ := fl3.there
    have out := nofr fl3.2.2.1 he3 hd3
    have nL : a ≠ X.env.locals := fun z => out (List.mem_filterMap.mpr ⟨X.env, List.mem_cons_self, by rw [hf, z]⟩)
    have nF : a ∉ X.fs := fun hm => by
      obtain ⟨e, he, q⟩ := List.mem_filterMap.mp hm
      exact out (List.mem_filterMap.mpr ⟨e, List.mem_cons_of_mem _ he, q⟩)
    have J3 : L2.Inv X pins τ G { s' with heap := h3 } := J.landed nb fl3.1 (up.trans up3) os ag
    have S3 := J3.suite he3 hd3 na nL nF
    refine wpAny_handleBy_cons (codeAny_handlers_test ?_) (by intro q; cases q)
    refine Tuple_ (spliced_more (ld_glob (X := X.suite a ((a, oe3) :: (X.pn ++ pins))) S3 g1 m1 (spliced_more (ld_glob (X := X.suite a ((a, oe3) :: (X.pn ++ pins))) S3 g2 m2 (spliced_none ?_) d2)) d1))
    refine wpAny_newObj_type ?_
    have tup : (h3.push { cls := .type "tuple", dict := none, data := .seq [c1, c2].toArray }).get? h3.objs.size = some { cls := .type "tuple", dict := none, data := .seq [c1, c2].toArray } := Heap.get?_push_size _ rfl
    have fl5 := fly_push fl3 { cls := .type "tuple", dict := none, data := .seq [c1, c2].toArray }
    have J5 : L2.Inv X pins τ G { s' with heap := h3.push { cls := .type "tuple", dict := none, data := .seq [c1, c2].toArray } } := J.landed nb fl5.1 ((up.trans up3).trans (up_push _)) os ag
    have LT : PySem.W.Looks (model X.prog X.w) (h3.push { cls := .type "tuple", dict := none, data := .seq [c1, c2].toArray }) (typeOf (.ref a)) cls := fun A Q E s k q => wpAny_typeOf_ref (k _ _ (Heap.get?_push_of_some _ he3)) (by rw [hz3.1]; exact q)
    refine (PySem.W.exm_tup2 J5.kIn LT tup hx).here ?_
    refine codeAny_handlers_suite_as ?_
    refine HandSPX.lands_againZ fl5 fun h4 fl4 up4 => ?_
    have J4 : L2.Inv X pins τ G { s' with heap := h4 } := J.landed nb fl4.1 (((up.trans up3).trans (up_push _)).trans up4) os ag
    obtain ⟨oe4, vs4, he4, hz4, hd4⟩ := fl4.there
    have S4 := J4.suite he4 hd4 na nL nF
    refine store_ok (X := X.suite a ((a, oe4) :: (X.pn ++ pins))) (v := .ref a) S4 hN hi (.inl hln) rfl (fun s5 S5 => ?_) (.inr hln)
    refine wpAny_mono ((hsu a oe4 cls d (X.pn ++ pins) hz4 ⟨_, hd4⟩).run [] s5 _ G _ S5 (yes a na)) (fun f s6 hsp => ?_) (fun _ _ z => False.elim z)
    have back : ∀ {τ6 : L2.St} {G6 : Hp} {Q : Shared → Prop}, L2.Inv (X.suite a ((a, oe4) :: (X.pn ++ pins))) [] τ6 G6 s6 → (∀ s7, L2.Inv X pins (τ6.set i none) G6 s7 → Q s7) →
        wpAny (model X.prog X.w) X.A (do bindName X.env n .none; unbindBehindTheSuite X.env n pos') (fun _ s7 => Q s7) X.xe s6 := fun {τ6 G6 Q} S6 hq => gone_ok (S6.unsuite ok) hN hi hln hq
    cases f with
    | ret u =>
      obtain ⟨v6, τ6, G6, S6, r6, q6⟩ := hsp
      exact back S6 fun s7 J7 => ⟨_, _, _, J7, r6, q6⟩
    | next =>
      obtain ⟨τ6, G6, S6, q6⟩ := hsp
      exact back S6 fun s7 J7 => ⟨_, _, J7, q6⟩
    | brk =>
      obtain ⟨τ6, G6, S6, q6⟩ := hsp
      exact back S6 fun s7 J7 => ⟨_, _, J7, q6⟩
    | cont =>
      obtain ⟨τ6, G6, S6, q6⟩ := hsp
      exact back S6 fun s7 J7 => ⟨_, _, J7, q6⟩
  · cases f with
    | ret u =>
      obtain ⟨v, τ, G, J', r, q⟩ := hsp
      exact ⟨v, τ, G, J'.ofTry ok, r, q⟩
    | next =>
      obtain ⟨τ, G, J', q⟩ := hsp
      exact wpAny_execs_nil ⟨τ, G, J'.ofTry ok, q⟩
    | brk =>
      obtain ⟨τ, G, J', q⟩ := hsp
      exact ⟨τ, G, J'.ofTry ok, q⟩
    | cont =>
      obtain ⟨τ, G, J', q⟩ := hsp
      exact ⟨τ, G, J'.ofTry ok, q⟩
end L3
namespace L3
open PySem PySem.Spec PyProof.Rows L2
structure Pz where
  (p0 p1 p2 p3 p4 p5 p6 p7 p8 p9 q0 q1 q2 q3 q4 q5 q6 q7 q8 q9 r0 r1 r2 r3 r4 r5 : Pos)
  (k0 k1 k2 k3 : Nat)
def toldB (z : Pz) (a gv e w x1 x2 f1 f2 : Str) : List Stmt :=
  [.Try [.Assign [.Name gv z.p0] (.Call (.Name a z.p1) [] [] z.p2) z.p3]
    [.ExceptHandler (some (.Tuple [.Name x1 z.p4, .Name x2 z.p5] z.k0 z.p6)) (some e)
      [.Assign [.Name w z.p7] (.Call (.Name f1 z.p8) [.Name e z.p9] [] z.q0) z.q1,
       .Return (some (.Tuple [.Name w z.q2, .Call (.Name f2 z.q3) [.Name e z.q4, .Name w z.q5] [] z.q6] z.k1 z.q7)) z.q8] z.q9] [] [] z.r0,
   .Return (some (.Tuple [.Constant (.str "returned") z.k2 z.r1, .Name gv z.r2] z.k3 z.r3)) z.r4]
structure KZ (c : Ctx) (k : Nat) (X : Rn) (f : Str) (n : Nat) (sp : DSp) : Prop where
  ex : ∃ (a : Addr) (fd : FuncData) (ps : List Str), FnZ X.prog X.w X.K X.mg X.base k a fd ps (fun p => liftSp { c with lam := none, pin := some p } sp) ∧ X.mg f = some (.ref a) ∧ PySem.W.keepIn X.K (.ref a) = true ∧ Binds X.K fd ps [] ∧ ps.length = n
theorem PE.wk {X : Cx} {e : Expr} {t : TE} (h : PE X e t) : PE X e (fun σ H Q => ∃ QR : VK, t σ H QR ∧ ∀ v H', QR v H' → Q v H') := ⟨fun pins s σ H Q I hh => by
  obtain ⟨QR, h1, h2⟩ := hh
  refine wpAny_mono (h.run pins s σ H QR I h1) (fun u s1 hu => ?_) fun _ _ z => z
  obtain ⟨v, H1, I1, r, q⟩ := hu
  exact ⟨v, H1, I1, r, h2 _ _ q⟩⟩
theorem told_gives {c : Ctx} {Y : Cx} {Ng : List Str} {x a gv e w x1 x2 f1 f2 q : Str} {sg : Scope} {g C1 C2 : Addr} {cdg : Value} {z : Pz} {k : Nat} {sp1 sp2 : DSp}
    (hN : Ng = [a, gv, e, w]) (nd : Ng.Nodup) (la : Vis sg a) (lg : sg.names.lookup gv = some .local) (le : sg.names.lookup e = some .local) (lw : sg.names.lookup w = some .local)
    (oe' : okN e = true) (ow : okN w = true) (og : okN gv = true) (o1 : okN x1 = true) (o2 : okN x2 = true) (of1 : okN f1 = true) (of2 : okN f2 = true)
    (g1 : glB sg x1 = true) (g2 : glB sg x2 = true) (g3 : glB sg f1 = true) (g4 : glB sg f2 = true)
    (m1 : Y.mg x1 = some (.ref C1)) (m2 : Y.mg x2 = some (.ref C2)) (room : Room (k + 1) Y.A)
    (hx : ∀ j, 10 ≤ j → j ≤ 28 → ∀ C, c.cn j = some C → PySem.W.exmAny Y.K (.ref C) [.ref C1, .ref C2] = some true)
    (z1 : KZ c k (rn Y) f1 1 sp1) (z2 : KZ c k (rn Y) f2 2 sp2) : LamX.GivesTo Y Ng x sg g cdg (toldB z a gv e w x1 x2 f1 f2) a q (TTold c sp1 sp2) := by
  intro f c' s H Q tl act hc h
  obtain ⟨b1, fd1, ps1, F1, n1, kp1, bn1, len1⟩ := z1.ex
  obtain ⟨b2, fd2, ps2, F2, n2, kp2, bn2, len2⟩ := z2.ex
  subst hN
  have room2 : Room k (Y.A.deeper (envOfC x sg s.heap.objs.size g cdg)) := room.deeper _
  have gl : ∀ {y : Str}, glB sg y = true → sg.names.lookup y = some .globalImplicit := fun {y} h => by
    unfold glB at h
    cases e : sg.names.lookup y with
    | none => rw [e] at h; cases h
    | some q => rw [e] at h; cases q <;> first | rfl | cases h
  have h4 : (2 : Nat) ≤ sizeLine := by rw [sizeLine_eq]; decide
  refine ⟨_, pss_cons (ps_try2 (X := (cxOf C8.CX0 Y.prog Y.w Y.K Y.mg Y.base [a, gv, e, w] x sg g cdg Y.A Y.stack s H C8.E0).nox) (c1 := .ref C1) (c2 := .ref C2) (i := 2)
      (tb := fun W D σ H => ∃ Ech : XK, (∀ cls d σ' H', Ech cls d H' → W cls d σ' H') ∧ σ[0]? = some (some (.ref f)) ∧ H c' = some (LamX.CodeO c' q) ∧ ∃ QR : VK, tl Ech H QR ∧ ∀ v H', QR v H' → D.nx (σ.set 1 (some v)) H')
      (ts := fun a0 cls d D σ H => σ.length = 4 → ∀ (oe : Obj) (fv : Array Value), oe.cls = cls → oe.dict = d → oe.data = .fields fv → σ[2]? = some (some (.ref a0)) ∧ liftSp { c with lam := none, pin := some (a0, oe) } sp1 [.ref a0] H (fun v H2 => liftSp { c with lam := none, pin := some (a0, oe) } sp2 [.ref a0, v] H2 (fun t H3 => ∀ p, H3 p = none → D.rt (.ref p) (upd H3 p (.tup [v, t]))) C8.E0) C8.E0)
      rfl rfl nd rfl le (gl g1) m1 (ok1 o1) (gl g2) m2 (ok1 o2) (fun W pn xe tk _ => ?_) (fun a0 oe cls d pn hz hf => ?_)) (pss_one (ps_ret (pe_tup (pa_cons pe_str (pa_cons (pe_var (i := 1) rfl (.inl lg) (ok1 og) (ok2 og)) pa_nil))))), ?_⟩
  · refine ⟨fun pins s' σ H' D I h' => ?_⟩
    obtain ⟨Ech, hW, h1, h2, QR, h3, h5⟩ := h'
    have hq := pss_one (ps_asg (pos := z.p3) (PE.wk (act W pn xe Ech z.p1 z.p2 tk hW)) (pg_name (i := 1) (pos := z.p0) nd rfl (.inl lg)))
    exact hq.run pins s' σ H' D I ⟨QR, ⟨h1, h2, h3⟩, h5⟩
  · have roomZ : RoomZ k (((cxOf C8.CX0 Y.prog Y.w Y.K Y.mg Y.base [a, gv, e, w] x sg g cdg Y.A Y.stack s H C8.E0).nox).suite a0 ((a0, oe) :: pn)).A := RoomZ.mark room2 _
    have ve : ∀ p, PE (((cxOf C8.CX0 Y.prog Y.w Y.K Y.mg Y.base [a, gv, e, w] x sg g cdg Y.A Y.stack s H C8.E0).nox).suite a0 ((a0, oe) :: pn)) (.Name e p) (tVar 2) := fun p => pe_var (i := 2) rfl (.inl le) (ok1 oe') (ok2 oe')
    have vw : ∀ p, PE (((cxOf C8.CX0 Y.prog Y.w Y.K Y.mg Y.base [a, gv, e, w] x sg g cdg Y.A Y.stack s H C8.E0).nox).suite a0 ((a0, oe) :: pn)) (.Name w p) (tVar 3) := fun p => pe_var (i := 3) rfl (.inl lw) (ok1 ow) (ok2 ow)
    have c1 := fun pos q => pe_callZ (X := ((cxOf C8.CX0 Y.prog Y.w Y.K Y.mg Y.base [a, gv, e, w] x sg g cdg Y.A Y.stack s H C8.E0).nox).suite a0 ((a0, oe) :: pn)) (pos := pos) (q := q) F1 roomZ (p := (a0, oe)) List.mem_cons_self (gl g3) n1 kp1 bn1 (pa_cons (ve z.p9) pa_nil) (ok1 of1) rfl
    have c2 := fun pos q => pe_callZ (X := ((cxOf C8.CX0 Y.prog Y.w Y.K Y.mg Y.base [a, gv, e, w] x sg g cdg Y.A Y.stack s H C8.E0).nox).suite a0 ((a0, oe) :: pn)) (pos := pos) (q := q) F2 roomZ (p := (a0, oe)) List.mem_cons_self (gl g4) n2 kp2 bn2 (pa_cons (ve z.q4) (pa_cons (vw z.q5) pa_nil)) (ok1 of2) rfl
    have all := pss_cons (ps_asg (pos := z.q1) (PE.wk (c1 z.q0 z.p8)) (pg_name (i := 3) (pos := z.p7) nd rfl (.inl lw))) (pss_one (ps_ret (pos := z.q8) (pe_tup (x1 := z.k1) (pos := z.q7) (pa_cons (vw z.q2) (pa_cons (PE.wk (c2 z.q6 z.q3)) pa_nil)))))
    refine ⟨fun pins s' σ H' D I h' => all.run pins s' σ H' D I ?_⟩
    obtain ⟨fv, hf⟩ := hf
    have l4 : σ.length = 4 := I.len
    obtain ⟨s2, hsp⟩ := h' l4 oe fv hz.1 hz.2 hf
    refine ⟨_, ⟨.ref a0, s2, hsp⟩, fun v H2 hv => ?_⟩
    have e3 : (σ.set 3 (some v))[3]? = some (some v) := List.getElem?_set_self (by omega)
    have e2 : (σ.set 3 (some v))[2]? = some (some (.ref a0)) := by rw [List.getElem?_set_ne (by decide)]; exact s2
    exact ⟨v, e3, _, ⟨.ref a0, e2, v, e3, hv⟩, fun t H3 ht => ⟨h4, ht⟩⟩
  · refine ⟨_, fun cls d σ' H' he => ?_, rfl, hc, _, h, fun v H' hv => ⟨v, rfl, h4, hv⟩⟩
    obtain ⟨j, C, dd, vfs, j1, j2, hC, rfl, rfl, hH, hl⟩ := he
    refine ⟨hx j j1 j2 C hC, fun a0 na l4 oe fv e1 e2 e3 => ⟨?_, hl a0 oe fv e1 e2 e3⟩⟩
    rw [List.length_set] at l4
    exact List.getElem?_set_self (by omega)
end L3
namespace L3
open PySem PySem.Spec PyProof.Rows L2
def CMulX (i j : Int) : Prop := i.natAbs.log2 + j.natAbs.log2 < 100000000
theorem CMulX.ok {i j : Int} (h : CMulX i j) : IntMulOk i j := by
  have b : ∀ x : Int, Builtin.Int.intBits x ≤ x.natAbs.log2 + 1 := fun x => by
    unfold Builtin.Int.intBits
    split <;> omega
  have h1 := b i
  have h2 := b j
  have h3 : i.natAbs.log2 + j.natAbs.log2 < 100000000 := h
  have e : bitsLine = 134217728 := by decide
  unfold IntMulOk
  intro z
  rw [Bool.and_eq_true] at z
  have z2 := z.2
  unfold Builtin.Int.intTooBig at z2
  have z3 := of_decide_eq_true z2
  rw [e] at z3
  omega
end L3
namespace L3
open PySem PySem.Spec PyProof.Rows L2
structure TabsAt (h : Heap) (K : PySem.W.Frag) (ts : List (Addr × Addr)) : Prop where
  here : ∀ p ∈ ts, h.get? p.2 = some { cls := .none, data := .fields #[] }
  out : ∀ p ∈ ts, K.lookup p.2 = none
  code : ∀ p ∈ ts, PySem.W.CodeHd h p.1 p.2
theorem TabsAt.keeps {h h' : Heap} {K : PySem.W.Frag} {ts : List (Addr × Addr)} (T : TabsAt h K ts) (k : ∀ b o, h.get? b = some o → h'.get? b = some o) : TabsAt h' K ts :=
  ⟨fun p hp => k _ _ (T.here p hp), T.out, fun p hp => by
    obtain ⟨o, us, fl, tf, gs, tg, iF, tx, tt, at_, r⟩ := T.code p hp
    exact ⟨o, us, fl, tf, gs, tg, iF, tx, tt, k _ _ at_, r⟩⟩
end L3
namespace L3
open PySem PySem.Spec PyProof.Rows L2
section
variable {c : Ctx} {k : Nat} {X : Cx} {W : WX} {pos : Pos}
end
section
variable {c : Ctx} {k : Nat} {N : List Str}
end
end L3
namespace L3
open PySem PySem.Spec PyProof.Rows L2
abbrev TbL : Type := List (Wh × Addr × Addr × Str)
theorem RepX.cv {c c' : Ctx} (h : CvOk c c') (hp : c.pin = none) {Z : Hp} {x : Exc} {cls : Value} {dd : Option Addr} (r : RepX c Z x cls dd) : RepX c' Z x cls dd := by
  cases x with
  | blt T => exact r
  | own j fs =>
    obtain ⟨C, hC, rfl, hf⟩ := r
    refine ⟨C, by rw [← h.cn]; exact hC, rfl, ?_⟩
    rcases hf with hf | ⟨d, vfs, rfl, hZ, rf⟩
    · exact .inl hf
    · exact .inr ⟨d, vfs, rfl, hZ, RepF.cv h (RepF.nox hp rf) rf⟩
variable [TabsI]
section
variable {t : TbL} {cs : List Str} {fx : List Fx} {fn : List DfP} {P : Program} {w : World} {K : Frg} {mg : Str → Option Value} {base : Heap} {k : Nat}
end
section
variable {cs : List Str} {fx : List Fx} {fn : List DfP} {P : Program} {w : World} {K : Frg} {mg : Str → Option Value} {base : Heap} {k : Nat}
theorem En.told (e : En cs fx fn P w K mg base) (i : Nat) {d : DfP} {f a0 gv ex w0 f1 f2 : Str} {z : Pz} {sp1 sp2 : DSp} (h : fx[i]? = some (.fn f (.glo f))) (q : Nat) (hq : fn[q]? = some d) (ha : d.at_ = .glo f) (hn : d.name = f) (hql : d.qual = f) (hd : d.dfl = []) (hb : d.body = toldB z a0 gv ex w0 "WrongValue" "NoAnswer" f1 f2)
    (S : FnScope [a0, gv, ex, w0] [a0] d.scope) (la : Vis d.scope a0) (lg : d.scope.names.lookup gv = some .local) (le : d.scope.names.lookup ex = some .local) (lw : d.scope.names.lookup w0 = some .local)
    (oks : (okN a0 && (okN ex && (okN w0 && (okN gv && (okN f1 && okN f2))))) = true) (gls : (glB d.scope "WrongValue" && (glB d.scope "NoAnswer" && (glB d.scope f1 && glB d.scope f2))) = true)
    (t : Nat) (ht : fx[t]? = some (.two xjs)) (z1 : KZ (cxt cs K mg) k e.R f1 1 sp1) (z2 : KZ (cxt cs K mg) k e.R f2 2 sp2)
    (b : ∀ (kV doc pm : Value) (an : Option Addr) (cdv ct : Value) (us : List Value), us.length = [a0].length → bindArgs (PySem.W.fnOf d.name d.qual d.params d.body d.scope .none kV doc pm an cdv ct) ⟨us, []⟩ = pure ([a0].zip us)) : KTold (cxt cs K mg) (k + 1) e.R f sp1 sp2 := by
  obtain ⟨fd, F⟩ := e.def_ q hq
  have e0 : d.dvs K = [] := by unfold DfP.dvs; rw [hd]; rfl
  rw [e0, ha] at F
  have B := F.bindsN b
  have kp := F.kp
  obtain ⟨oc, od, dV, kV, doc, pm, an, cdv, ct, osl, rfl, lk, hcd, _, _⟩ := F.ex
  rw [hn, hql] at lk B
  rw [hql] at hcd
  obtain ⟨o1, oks⟩ := He.ba oks
  obtain ⟨o2, oks⟩ := He.ba oks
  obtain ⟨o3, oks⟩ := He.ba oks
  obtain ⟨o4, oks⟩ := He.ba oks
  obtain ⟨o5, o6⟩ := He.ba oks
  obtain ⟨g1, gls⟩ := He.ba gls
  obtain ⟨g2, gls⟩ := He.ba gls
  obtain ⟨g3, g4⟩ := He.ba gls
  obtain ⟨C1, C2, m1, m2, hx⟩ := e.two t ht
  refine ⟨_, a0, _, _, _, _, _, _, _, _, _, _, _, _, _, [a0, gv, ex, w0], e.fn_ i h, kp, lk, hcd, B, S, rfl, la, ok1 o1, ok2 o1, fun Y q hY hYK room => ?_⟩
  have hK : Y.K = K := congrArg Rn.K hY
  have hm : Y.mg = mg := congrArg Rn.mg hY
  rw [hb]
  exact told_gives (k := k) rfl S.nd la lg le lw o2 o3 o4 (by decide) (by decide) o5 o6 g1 g2 g3 g4 (by rw [hm]; exact m1) (by rw [hm]; exact m2) room (fun j j1 j2 C hC => by rw [hK]; exact hx j (mem_xjs j1 j2) C hC) (by rw [hY]; exact z1) (by rw [hY]; exact z2)
end
section
variable {cs : List Str} {fx : List Fx} {fn : List DfP} {P : Program} {w : World} {K : Frg} {mg : Str → Option Value} {base : Heap} {k : Nat}
end
def cxL (t : Addr × Addr × Str) (ps : List Str) (K : Frg) (mg : Str → Option Value) : Ctx := ⟨K, mg, nm, cnOf ps K, TabsI.tabs, none, some t⟩
def cxZ (p : Addr × Obj) (ps : List Str) (K : Frg) (mg : Str → Option Value) : Ctx := ⟨K, mg, nm, cnOf ps K, TabsI.tabs, some p, none⟩
section
variable {t : Addr × Addr × Str} {ps : List Str} {K : Frg} {mg : Str → Option Value} {k : Nat} {X : Rn} {sp : DSp}
theorem cvL : CvOk (cxt ps K mg) (cxL t ps K mg) := ⟨rfl, rfl, rfl, rfl⟩
theorem cvM : CvOk (cxL t ps K mg) (cxt ps K mg) := ⟨rfl, rfl, rfl, rfl⟩
theorem lift_cv {c c' : Ctx} (h : CvOk c c') (h' : CvOk c' c) (hp : c.pin = none) (hp' : c'.pin = none) {vs : List V} {H : Hp} {Q : VK} {E : XK} (q : liftSp c' sp vs H Q E) : liftSp c sp vs H Q E := by
  obtain ⟨Z, S, ds, QD, ED, R, r, hs, hq, hx⟩ := q
  exact ⟨Z, S, ds, QD, ED, R.cv h' (R.nox hp'), RepL.cv h' (RepL.nox hp' r) r, hs, fun d v Z' S' H' l R' rd q => hq d v Z' S' H' l (R'.cv h (R'.nox hp)) (RepD.cv h (RepD.nox hp rd) rd) q, fun x Z' S' H' cls dd l R' rx q => hx x Z' S' H' cls dd l (R'.cv h (R'.nox hp)) (RepX.cv h hp rx) q⟩
theorem lift_L {vs : List V} {H : Hp} {Q : VK} {E : XK} (q : liftSp (cxL t ps K mg) sp vs H Q E) : liftSp (cxt ps K mg) sp vs H Q E := lift_cv cvL cvM rfl rfl q
theorem KFun.L {f : Str} (h : KFun (cxt ps K mg) k X f sp) : KFun (cxL t ps K mg) k X f sp := by
  obtain ⟨a, fd, qs, ds, dvs, spH, F, h1, h2, h3, h4, h5⟩ := h
  exact ⟨a, fd, qs, ds, dvs, spH, F, h1, h2, h3, h4, fun vs H Q E q => h5 vs H Q E (lift_L q)⟩
theorem KF.L {a : Addr} (h : KF (cxt ps K mg) k X a sp) : KF (cxL t ps K mg) k X a sp := by
  obtain ⟨fd, qs, ds, dvs, spH, F, h3, h4, h5⟩ := h
  exact ⟨fd, qs, ds, dvs, spH, F, h3, h4, fun vs H Q E q => h5 vs H Q E (lift_L q)⟩
theorem KGlo.L {x : Str} {d : D} (h : KGlo (cxt ps K mg) X x d) : KGlo (cxL t ps K mg) X x d := by
  obtain ⟨u, v, h1, h2, h3⟩ := h
  exact ⟨u, v, h1, h2, fun Z => RepD.cv cvL (RepD.nox rfl (h3 Z)) (h3 Z)⟩
theorem KFunK.L {f : Str} {n : Nat} {ks : List Str} {pm : List Nat} (h : KFunK (cxt ps K mg) k X f n ks pm sp) : KFunK (cxL t ps K mg) k X f n ks pm sp := by
  obtain ⟨a, fd, qs, dvs, g, gV, spH, F, h1, h2, h3, h4, h5⟩ := h
  exact ⟨a, fd, qs, dvs, g, gV, spH, F, h1, h2, h3, h4, fun vs H Q E q => h5 vs H Q E (lift_L q)⟩
theorem KMethK.L {cl i : Nat} {ks : List Str} {pm : List Nat} (h : KMethK (cxt ps K mg) k X cl i ks pm sp) : KMethK (cxL t ps K mg) k X cl i ks pm sp := by
  obtain ⟨C, f, k', hk, hC, c1, m1, inj, fd, qs, dvs, g, gV, spH, F, h3, h4, h5⟩ := h
  exact ⟨C, f, k', hk, hC, c1, m1, inj, fd, qs, dvs, g, gV, spH, F, h3, h4, fun vs H Q E q => h5 vs H Q E (lift_L q)⟩
theorem KMk.L {x : Str} {cl : Nat} (h : KMk (cxt ps K mg) k X x cl sp) : KMk (cxL t ps K mg) k X x cl sp := by
  obtain ⟨C, f, k', h1, h2, h3, h4, h5⟩ := h
  exact ⟨C, f, k', h1, h2, h3, h4, h5.L⟩
theorem KMkK.L {x : Str} {cl : Nat} {ks : List Str} (h : KMkK (cxt ps K mg) k X x cl ks sp) : KMkK (cxL t ps K mg) k X x cl ks sp := by
  obtain ⟨C, f, k', h1, h2, h3, h4, fd, qs, spH, F, h5, h6⟩ := h
  exact ⟨C, f, k', h1, h2, h3, h4, fd, qs, spH, F, h5, fun vs H Q E q => h6 vs H Q E (lift_L q)⟩
theorem KProp.L {cl : Nat} {x : Str} (h : KProp (cxt ps K mg) k X cl x sp) : KProp (cxL t ps K mg) k X cl x sp := by
  obtain ⟨C, p, g, k', h1, h2, h3, h4, h5⟩ := h
  exact ⟨C, p, g, k', h1, h2, h3, h4, h5.L⟩
theorem KMeth.L {cl i : Nat} (h : KMeth (cxt ps K mg) k X cl i sp) : KMeth (cxL t ps K mg) k X cl i sp := by
  obtain ⟨C, f, k', h1, h2, h3, h4, h5, h6⟩ := h
  exact ⟨C, f, k', h1, h2, h3, h4, h5, h6.L⟩
theorem KOwn.L {cl : Nat} {m : Str} (h : KOwn (cxt ps K mg) k X cl m sp) : KOwn (cxL t ps K mg) k X cl m sp := by
  obtain ⟨C, g, k', h1, h2, h3, h4⟩ := h
  exact ⟨C, g, k', h1, h2, h3, h4.L⟩
theorem KDct.L {x : Str} {kvs : List (Str × D)} (h : KDct (cxt ps K mg) X x kvs) : KDct (cxL t ps K mg) X x kvs := by
  obtain ⟨d, es, n, h1, h2, h3⟩ := h
  refine ⟨d, es, n, h1, h2, fun z => ?_⟩
  obtain ⟨r, e, h⟩ := h3 z
  refine ⟨r, e, ?_⟩
  cases r with
  | none => exact h
  | some u =>
    obtain ⟨v, y, r1, r2, r3⟩ := h
    exact ⟨v, y, r1, r2, fun Z => RepD.cv cvL (RepD.nox rfl (r3 Z)) (r3 Z)⟩
theorem KAtt.L {cl i : Nat} (h : KAtt (cxt ps K mg) X cl i) : KAtt (cxL t ps K mg) X cl i := h
theorem KIsi.L {T : IsT} {ks : List Nat} (h : KIsi (cxt ps K mg) X T ks) : KIsi (cxL t ps K mg) X T ks := h
theorem nfOk.L {cl : Nat} {ks : List Nat} (h : nfOk (cxt ps K mg) X cl ks) : nfOk (cxL t ps K mg) X cl ks := h
theorem SfOk.L {cl : Nat} (h : SfOk (cxt ps K mg) X cl) : SfOk (cxL t ps K mg) X cl := h
theorem NeOk.L {cl : Nat} (h : NeOk (cxt ps K mg) X cl) : NeOk (cxL t ps K mg) X cl := h
theorem KRaz.L {y : Str} {cl i : Nat} (h : KRaz (cxt ps K mg) X y cl i) : KRaz (cxL t ps K mg) X y cl i := h
theorem KIsx.Z {p : Addr × Obj} {y : Str} {j : Nat} {js : List Nat} (h : KIsx (cxt ps K mg) X y j js) : KIsx (cxZ p ps K mg) X y j js := h
theorem KAttx.Z {p : Addr × Obj} {i : Nat} {js : List Nat} (h : KAttx (cxt ps K mg) X i js) : KAttx (cxZ p ps K mg) X i js := h
theorem TTold.cv {c c' : Ctx} (hK : c.K = c'.K) (hm : c.mg = c'.mg) (h1 : c.nm = c'.nm) (h2 : c.cn = c'.cn) (h3 : c.tabs = c'.tabs) : (fun sp1 sp2 => TTold c sp1 sp2) = fun sp1 sp2 => TTold c' sp1 sp2 := by
  obtain ⟨a1, a2, a3, a4, a5, a6, a7⟩ := c
  obtain ⟨b1, b2, b3, b4, b5, b6, b7⟩ := c'
  cases hK; cases hm; cases h1; cases h2; cases h3
  rfl
theorem KTold.L {f : Str} {sp1 sp2 : DSp} (h : KTold (cxt ps K mg) k X f sp1 sp2) : KTold (cxL t ps K mg) k X f sp1 sp2 := h
end
end L3
namespace L3
open PySem PySem.Spec PyProof.Rows L2
section
variable [TabsI]
variable {cs : List Str} {fx : List Fx} {fn : List DfP} {P : Program} {w : World} {K : Frg} {mg : Str → Option Value} {base : Heap} {k : Nat}
end
end L3
namespace L3
open PySem PySem.Spec PyProof.Rows L2
local macro_rules
  | `(tactic| walk_at "wp") => `(tactic| first | simp only [bodyW, startD, wB, wS, wE, wL, wO, wI, wQ, wC', wG, wGs, calLen, wVar, wC, lk, sto, tgW, wipeD, and2, or2, not1, truW, bolW, w1, wSeqG, wLstG, wFld, wGet, wJ, truD,
      w_sub, w_add, w_adds, w_addt, w_addl, w_mul, w_mod, w_fdiv, w_pow, w_neg, w_lt, w_le, w_gt, w_ge, w_eq, w_ne, w_eqs, w_nes, w_is, w_isn, w_abs, w_lens, w_lent, w_lenl, w_eqfr, w_nefr, w_lenk, w_lend, w_lenr, w_divmod, w_max, w_min, w_int, w_intb, w_ints, w_str, w_strs,
      w_tupl, w_tupt, w_tupr, w_lstl, w_lstt, w_ixt, w_ixl, w_ixk, w_ixr, w_ixs, w_cuts, w_cutt, w_cutl, w_cutk, w_set, w_app, ty_app, w_popat, ty_popat, ty_split, w_split, ty_part, w_part, ty_join, w_joinl, w_joinr, ty_indexl,
      wOpt_s, leW_iff, eqW_iff, newL_f, newL_t, wInt_i, fmt_s, fmt_i, wTup_t, bolD_b, isNon, w_ins, w_notins, w_in_strt, w_nin_strt, isW_strE, isW_tupE, isW_intE, ty_ss, ty_tt, ty_ii, ty_ib, D.bl.injEq, D.int.injEq, D.str.injEq, exists_eq_left', decide_eq_true_eq, Bool.not_true, Bool.not_false, if_true, if_false, Bool.false_eq_true, Nat.reduceEqDiff, true_and, and_true,
      List.length_cons, List.length_nil, List.map_cons, List.map_nil, List.cons_append, List.nil_append, List.append_nil, Nat.reduceAdd, Nat.reduceSub, List.replicate_succ, List.replicate_zero, Nat.zero_add, List.foldl_cons, List.foldl_nil, List.zip_cons_cons, List.zip_nil_right, List.zip_nil_left, List.set_cons_zero, List.set_cons_succ, wB_nil, dE_rt, dE_nx, dE_ex] | skip)
  | `(tactic| walk_at "ws") => `(tactic| first | simp only [startD, wS, wE, wL, wO, wI, wQ, wC', wG, wGs, calLen, wVar, wC, lk, sto, tgW, wipeD, and2, or2, not1, truW, bolW, w1, wSeqG, wLstG, wFld, wGet, wJ, truD,
      w_sub, w_add, w_adds, w_addt, w_addl, w_mul, w_mod, w_fdiv, w_pow, w_neg, w_lt, w_le, w_gt, w_ge, w_eq, w_ne, w_eqs, w_nes, w_is, w_isn, w_abs, w_lens, w_lent, w_lenl, w_eqfr, w_nefr, w_lenk, w_lend, w_lenr, w_divmod, w_max, w_min, w_int, w_intb, w_ints, w_str, w_strs,
      w_tupl, w_tupt, w_tupr, w_lstl, w_lstt, w_ixt, w_ixl, w_ixk, w_ixr, w_ixs, w_cuts, w_cutt, w_cutl, w_cutk, w_set, w_app, ty_app, w_popat, ty_popat, ty_split, w_split, ty_part, w_part, ty_join, w_joinl, w_joinr, ty_indexl,
      wOpt_s, leW_iff, eqW_iff, newL_f, newL_t, wInt_i, fmt_s, fmt_i, wTup_t, bolD_b, isNon, w_ins, w_notins, w_in_strt, w_nin_strt, isW_strE, isW_tupE, isW_intE, ty_ss, ty_tt, ty_ii, ty_ib, D.bl.injEq, D.int.injEq, D.str.injEq, exists_eq_left', decide_eq_true_eq, Bool.not_true, Bool.not_false, if_true, if_false, Bool.false_eq_true, Nat.reduceEqDiff, true_and, and_true,
      List.length_cons, List.length_nil, List.map_cons, List.map_nil, List.cons_append, List.nil_append, List.append_nil, Nat.reduceAdd, Nat.reduceSub, List.replicate_succ, List.replicate_zero, Nat.zero_add, List.foldl_cons, List.foldl_nil, List.zip_cons_cons, List.zip_nil_right, List.zip_nil_left, List.set_cons_zero, List.set_cons_succ, wB_nil, dE_rt, dE_nx, dE_ex] | skip)
local macro_rules
  | `(tactic| walk_at "wb") => `(tactic| (refine wB_of ?_; walk_at "ws"))
  | `(tactic| walk_at "w0") => `(tactic| (refine bodyW_of ?_; walk_at "ws"))
abbrev tl (x : Str) : List Nat := x.cps.toList
theorem atI_nat {α : Type} {l : List α} {n : Nat} : atI l (n : Int) = l[n]? := by
  unfold atI ixN
  rw [if_pos (by omega)]
  by_cases h : (n : Int) < l.length
  · rw [if_pos h]; simp
  · rw [if_neg h, List.getElem?_eq_none (by omega)]; rfl
def PuC (x : Cell) : Prop := ∃ a b : Int, x = .lst [.int a, .int b] ∧ 0 ≤ a ∧ 0 ≤ b ∧ b < 2147483647
def Pu (S : Store) (p : Addr) : Prop := ∃ x, S p = some x ∧ PuC x
def PuTo (S : Store) (p : Addr) (S' : Store) : Prop := ∃ x, S' = put S p x ∧ PuC x
theorem PuTo.pu {S S' : Store} {p : Addr} (h : PuTo S p S') : Pu S' p := by
  obtain ⟨x, rfl, h⟩ := h; exact ⟨x, put_same, h⟩
theorem PuTo.trans {S S' S'' : Store} {p : Addr} (h : PuTo S p S') (k : PuTo S' p S'') : PuTo S p S'' := by
  obtain ⟨x, rfl, h⟩ := h
  obtain ⟨y, rfl, k⟩ := k
  exact ⟨y, put_put, k⟩
theorem put_id {S : Store} {p : Addr} {x : Cell} (h : S p = some x) : put S p x = S := by
  funext b; unfold put; split
  · rename_i e; rw [e, h]
  · rfl
theorem PuTo.refl {S : Store} {p : Addr} (h : Pu S p) : PuTo S p S := by
  obtain ⟨x, e, h⟩ := h; exact ⟨x, (put_id e).symm, h⟩
theorem PuTo.ne {S S' : Store} {p q : Addr} (h : PuTo S p S') (n : q ≠ p) : S' q = S q := by
  obtain ⟨x, rfl, _⟩ := h; exact put_ne n
def PuB (S0 : Store) (p : Addr) (S : Store) : Prop := ∃ S', PuTo S0 p S' ∧ Sub S' S
theorem PuB.pu {S0 S : Store} {p : Addr} (h : PuB S0 p S) : Pu S p := by
  obtain ⟨S', h, s⟩ := h
  obtain ⟨x, e, k⟩ := h.pu
  exact ⟨x, s _ _ e, k⟩
theorem PuB.refl {S : Store} {p : Addr} (h : Pu S p) : PuB S p S := ⟨S, .refl h, Sub.refl S⟩
theorem PuB.put {S0 S : Store} {p q : Addr} {x : Cell} (h : PuB S0 p S) (hp : Pu S0 p) (n : S0 q = none) : PuB S0 p (L3.put S q x) := by
  obtain ⟨S', h, s⟩ := h
  refine ⟨S', h, Sub.puts s ?_⟩
  have : q ≠ p := by
    obtain ⟨y, e, _⟩ := hp
    intro z; subst z; rw [n] at e; cases e
  rw [h.ne this]; exact n
theorem PuB.step {S0 S S' : Store} {p : Addr} (h : PuB S0 p S) (k : PuTo S p S') : PuB S0 p S' := by
  obtain ⟨S1, h, s⟩ := h
  obtain ⟨y, rfl, k⟩ := k
  refine ⟨L3.put S1 p y, h.trans ⟨y, rfl, k⟩, fun a z e => ?_⟩
  by_cases q : a = p
  · subst q; rw [put_same] at e ⊢; exact e
  · rw [put_ne q] at e ⊢; exact s a z e
theorem PuB.sub {S0 S S' : Store} {p : Addr} (h : PuB S0 p S) (k : Sub S S') : PuB S0 p S' := by
  obtain ⟨S1, h, s⟩ := h
  exact ⟨S1, h, s.trans k⟩
def S__law_purse : DSp := fun ds S Q E => ∃ (ns : List Int) (i : Nat), ds = [.kl (ns.map .int), .int i] ∧ i ≤ 10 ∧ ns.length ≤ 1000 ∧ ∀ p x, S p = none → PuC x → Q (.ref p) (put S p x)
def S__law_draw : DSp := fun ds S Q E => ∃ (p : Addr) (n : Int), ds = [.ref p, .int n] ∧ Pu S p ∧ 0 < n ∧ n < 1073741824 ∧ ∀ (d : Nat) S', (d : Int) < n → PuTo S p S' → Q (.int d) S'
def N__law_purse : List Str := ["_law_script", "_law_spot", "_law_corner_", "_law_seed", "_law_one"]
def c__law_purse_b1 : CB := .cons (.asg (.nm 3) (.op oMod (.blt bInt (.cons (.op (oAdd false) (.op (oAdd false) (.op oMul (.var 3) (.int 48271)) (.op oMod (.blt bInt (.cons (.var 4) .nil)) (.int 2147483647))) (.int 101)) .nil)) (.int 2147483647))) .nil
def c__law_purse_l1 : CS := .for_ (.nm 4) (.seq (.op (oAdd false) (.slc (sCut false) (.var 0) .none (.some (.int 5))) (.lst false (.cons (.var 2) .nil)))) c__law_purse_b1
def c__law_purse_b2 : CB := .cons (.ret (.lst true (.cons (.ife (.cmp cGe (.blt bAbs (.cons (.var 2) .nil)) (.op oPow (.int 10) (.int 18))) (.blt bAbs (.cons (.var 2) .nil)) (.int 0)) (.cons (.var 3) .nil)))) .nil
def c__law_purse_b3 : CB := .cons c__law_purse_l1 c__law_purse_b2
def c__law_purse_b4 : CB := .cons (.asg (.nm 3) (.op (oAdd false) (.int 211) (.var 1))) c__law_purse_b3
def c__law_purse : CB := .cons (.asg (.nm 2) (.ife (.cmp cLt (.var 1) (.blt bLen (.cons (.var 0) .nil))) (.idx iAt (.var 0) (.var 1)) (.op oMul (.int 7919) (.op (oAdd false) (.var 1) (.int 5))))) c__law_purse_b4
def N__law_draw : List Str := ["_law_purse_here", "_law_many", "_law_digit"]
def c__law_draw_b1 : CB := .cons (.ret (.var 2)) .nil
def c__law_draw_b2 : CB := .cons (.asg (.tp (.cons (.sub tSet (.var 0) (.int 0)) (.cons (.nm 2) .nil))) (.blt bDivmod (.cons (.idx iAt (.var 0) (.int 0)) (.cons (.var 1) .nil)))) c__law_draw_b1
def c__law_draw_b3 : CB := .cons (.ret (.op oMod (.blt bInt (.cons (.op oFdiv (.idx iAt (.var 0) (.int 1)) (.int 1024)) .nil)) (.var 1))) .nil
def c__law_draw_b4 : CB := .cons (.asg (.sub tSet (.var 0) (.int 1)) (.op oMod (.blt bInt (.cons (.op (oAdd false) (.op oMul (.idx iAt (.var 0) (.int 1)) (.int 69621)) (.int 40503)) .nil)) (.int 2147483647))) c__law_draw_b3
def c__law_draw : CB := .cons (.if_ (.cmp cGt (.idx iAt (.var 0) (.int 0)) (.int 0)) c__law_draw_b2 .nil) c__law_draw_b4
theorem small_mul {a b : Int} (h1 : 0 ≤ a) (h2 : a < 2 ^ 60) : mulOk a b := .inl (.inl ⟨by omega, by omega⟩)
theorem fmod_pos {a b : Int} (hb : 0 < b) : 0 ≤ a.fmod b ∧ a.fmod b < b := ⟨Int.fmod_nonneg_of_pos _ hb, Int.fmod_lt_of_pos _ hb⟩
theorem cutD_ints {ns : List Int} {lo hi : Option Int} : ∃ ms : List Int, cutD (ns.map D.int) lo hi = ms.map D.int ∧ ms.length ≤ ns.length := by
  unfold cutD
  refine ⟨_, by rw [← List.map_drop, ← List.map_take], ?_⟩
  simp only [List.length_take, List.length_drop]; omega
theorem l__law_purse {E : EndsD} {S : Store} {sc : List Int} {sd c : Int} {i : Nat} {o4 : Option D} (hl : sc.length ≤ 1000) (h1 : 0 ≤ sd) (h2 : sd < 2147483647)
    (q : ∀ (sd : Int) o4, 0 ≤ sd → sd < 2147483647 → E.nx [some (.kl (sc.map .int)), some (.int i), some (.int c), some (.int sd), o4] S) : wS c__law_purse_l1 E [some (.kl (sc.map .int)), some (.int i), some (.int c), some (.int sd), o4] S := by
  simp only [c__law_purse_l1]
  walk_at "ws"
  obtain ⟨ms, e, hms⟩ := cutD_ints (ns := sc) (lo := none) (hi := some 5)
  rw [e]
  walk_at "ws"
  refine ⟨by decide, by simp only [List.length_map, big_eq]; omega, ?_⟩
  rw [show ms.map D.int ++ [D.int c] = (ms ++ [c]).map D.int by simp]
  refine for_by (fun l ρ S' => S' = S ∧ ∃ (sd : Int) (o4 : Option D), 0 ≤ sd ∧ sd < 2147483647 ∧ ρ = [some (.kl (sc.map .int)), some (.int i), some (.int c), some (.int sd), o4]) (fun _ _ _ _ => trivial) ?_ ?_ _ _ _ ⟨rfl, sd, o4, h1, h2, rfl⟩
  · rintro x l ρ S' ⟨rfl, sd, o4, h1, h2, rfl⟩ K hK
    walk_at "ws"
    walk_at "wb"
    refine ⟨small_mul h1 (by omega), by decide, by decide, ?_⟩
    obtain ⟨g1, g2⟩ := fmod_pos (a := sd * 48271 + x.fmod 2147483647 + 101) (b := 2147483647) (by decide)
    exact hK _ _ _ (Sub.refl _) ⟨rfl, _, _, g1, g2, rfl⟩
  · rintro ρ S' ⟨rfl, sd, o4, h1, h2, rfl⟩
    exact q sd o4 h1 h2
theorem v__law_purse : ∀ ds S Q E, S__law_purse ds S Q E → bodyW N__law_purse.length c__law_purse ds S Q E := by
  rintro ds S Q E ⟨sc, i, rfl, hi, hl, q⟩
  simp only [N__law_purse]
  walk_at "w0"
  walk_at "wb"
  have rest : ∀ c : Int, wB c__law_purse_b4 (defE S Q E) [some (.kl (sc.map .int)), some (.int i), some (.int c), none, none] S := by
    intro c
    walk_at "wb"
    refine wB_of (l__law_purse hl (by omega) (by omega) fun sd o4 h1 h2 => ?_)
    walk_at "wb"
    refine ⟨⟨by decide, by decide, by decide⟩, ?_⟩
    have fin : ∀ a : Int, 0 ≤ a → 2 ≤ big ∧ ∀ p, S p = none → ∃ d' F S2, Fz (put S p (.lst [.int a, .int sd])) F (.ref p) d' ∧ FzS (put S p (.lst [.int a, .int sd])) F S2 ∧ Q d' S2 := fun a ha =>
      ⟨by decide, fun p hp => rt_same (q p _ hp ⟨a, sd, rfl, ha, h1, h2⟩)⟩
    split
    · exact fin _ (by omega)
    · exact fin 0 (by decide)
  by_cases h : (i : Int) < ((sc.map D.int).length : Int)
  · rw [if_pos h, atI_nat]
    rw [List.length_map] at h
    have h' : i < sc.length := by omega
    rw [List.getElem?_map, List.getElem?_eq_getElem h']
    exact rest _
  · rw [if_neg h]
    exact ⟨small_mul (by decide) (by decide), rest _⟩
theorem v__law_draw : ∀ ds S Q E, S__law_draw ds S Q E → bodyW N__law_draw.length c__law_draw ds S Q E := by
  rintro ds S Q E ⟨p, n, rfl, ⟨x, hp, a, b, rfl, ha, hb, hb2⟩, hn, hn2, q⟩
  simp only [N__law_draw]
  walk_at "w0"
  walk_at "wb"
  refine ⟨_, hp, ?_⟩
  rw [show atI [D.int a, D.int b] 0 = some (.int a) from rfl]
  walk_at "ws"
  have n0 : n ≠ 0 := by omega
  by_cases h : 0 < a
  · rw [if_pos h]
    walk_at "wb"
    refine ⟨_, hp, ?_⟩
    rw [show atI [D.int a, D.int b] 0 = some (.int a) from rfl]
    walk_at "ws"
    refine ⟨hn, by omega, _, hp, ?_⟩
    rw [show ixN [D.int a, D.int b].length 0 = some 0 from rfl]
    walk_at "ws"
    walk_at "wb"
    have hm := Int.emod_nonneg a n0
    have hm2 := Int.emod_lt_of_pos a hn
    refine rt_same ?_
    have := q (a % n).toNat (put S p (.lst [.int (a / n), .int b])) (by omega) ⟨_, rfl, a / n, b, rfl, Int.ediv_nonneg ha (by omega), hb, hb2⟩
    rwa [show (((a % n).toNat : Nat) : Int) = a % n by omega] at this
  · rw [if_neg h]
    walk_at "wb"
    refine ⟨_, hp, ?_⟩
    rw [show atI [D.int a, D.int b] 1 = some (.int b) from rfl]
    walk_at "ws"
    refine ⟨small_mul hb (by omega), by decide, _, hp, ?_⟩
    rw [show ixN [D.int a, D.int b].length 1 = some 1 from rfl]
    walk_at "ws"
    obtain ⟨g1, g2⟩ := fmod_pos (a := b * 69621 + 40503) (b := 2147483647) (by decide)
    generalize (b * 69621 + 40503).fmod 2147483647 = c at g1 g2 ⊢
    walk_at "wb"
    refine ⟨_, put_same, ?_⟩
    rw [show atI [D.int a, D.int c] 1 = some (.int c) from rfl]
    walk_at "ws"
    refine ⟨⟨by decide, by decide⟩, n0, ?_⟩
    obtain ⟨k1, k2⟩ := fmod_pos (a := c.fdiv 1024) (b := n) hn
    refine rt_same ?_
    have := q ((c.fdiv 1024).fmod n).toNat (put S p (.lst [.int a, .int c])) (by omega) ⟨_, rfl, a, c, rfl, ha, g1, g2⟩
    rwa [show ((((c.fdiv 1024).fmod n).toNat : Nat) : Int) = (c.fdiv 1024).fmod n by omega] at this
def things : List D := [.non, .bl true, .int 0, .int (-(10 ^ 30)), .str "", .str "a", .str "a 1", .tup [], .tup [.str "a", .tup [.str "b", .int 1]], .fl [], .fl [.fl [.str "a"]], .dk [], .dk [("a", .tup [])]]
def eP (j i : Nat) (x : D) : D := .tup [.exv j [(i, x)], .exv j [(i, x)]]
def firstsD (x : D) : List D := [eP 10 12 x, eP 11 12 x, eP 12 12 x, eP 13 12 x, eP 14 12 x, eP 15 12 x, eP 16 12 x, eP 17 12 x, eP 18 12 x, eP 19 12 x, eP 22 12 x, eP 20 13 x, eP 21 13 x]
def secondsD (x : D) : List D := [eP 23 14 x, eP 24 15 x, eP 26 12 x, eP 27 13 x, .tup [.exv 25 [(13, x), (16, .int 1)], .exv 25 [(13, x), (16, .int 1)]], .tup [.exv 28 [], .exv 28 []]]
def flagO : List Nat := [10, 11, 12, 13, 14, 15, 16, 17, 18, 19, 22, 20, 21, 23, 24, 26, 27, 25, 28]
def flagB (j : Nat) : List Bool := flagO.map (subX j)
def S__law_thing : DSp := fun ds S Q E => ∃ p, ds = [.ref p] ∧ Pu S p ∧ ∀ x S', x ∈ things → PuTo S p S' → Q x S'
def S__law_firsts : DSp := fun ds S Q E => ∃ x, ds = [x] ∧ Q (.fl (firstsD x)) S
def S__law_seconds : DSp := fun ds S Q E => ∃ x, ds = [x] ∧ Q (.fl (secondsD x)) S
def S__law_flags : DSp := fun ds S Q E => ∃ j fs, ds = [.exv j fs] ∧ 10 ≤ j ∧ j ≤ 28 ∧ Q (.fl ((flagB j).map .bl)) S
def S__law_right : DSp := fun ds S Q E => ∃ p, ds = [.ref p] ∧ Pu S p ∧ ∀ S', PuTo S p S' → Q (.bl true) S'
def S_law : DSp := fun ds S Q E => ∃ ns : List Int, ds = [.kl (ns.map .int)] ∧ ns.length ≤ 1000 ∧ Q (.bl true) S
def N__law_thing : List Str := ["_law_purse_here", "_law_some"]
def c__law_thing_b1 : CB := .cons (.ret (.idx iAt (.var 1) (.call "_law_draw" S__law_draw (.cons (.var 0) (.cons (.int 13) .nil))))) .nil
def c__law_thing : CB := .cons (.asg (.nm 1) (.lst false (.cons .non (.cons (.bl true) (.cons (.int 0) (.cons (.un uNeg (.op oPow (.int 10) (.int 30))) (.cons (.str "") (.cons (.str "a") (.cons (.str "a 1") (.cons (.tup .nil) (.cons (.tup (.cons (.str "a") (.cons (.tup (.cons (.str "b") (.cons (.int 1) .nil))) .nil))) (.cons (.lst false .nil) (.cons (.lst false (.cons (.lst false (.cons (.str "a") .nil)) .nil)) (.cons .emp (.cons (.dun "a") .nil))))))))))))))) c__law_thing_b1
def N__law_firsts : List Str := ["_law_x", "_law_found"]
def c__law_firsts_b1 : CB := .cons (.ret (.op (oAdd false) (.var 1) (.lst false (.cons (.tup (.cons (.mkx "InvalidLog" 21 [13] (.cons (.var 0) .nil)) (.cons (.mkxK "InvalidLog" 21 [13] [0] ["index"] (.cons (.var 0) .nil)) .nil))) .nil)))) .nil
def c__law_firsts_b2 : CB := .cons (.asg (.nm 1) (.op (oAdd false) (.var 1) (.lst false (.cons (.tup (.cons (.mkx "Unfit" 22 [12] (.cons (.var 0) .nil)) (.cons (.mkxK "Unfit" 22 [12] [0] ["given"] (.cons (.var 0) .nil)) .nil))) (.cons (.tup (.cons (.mkx "InvalidValues" 20 [13] (.cons (.var 0) .nil)) (.cons (.mkxK "InvalidValues" 20 [13] [0] ["index"] (.cons (.var 0) .nil)) .nil))) .nil))))) c__law_firsts_b1
def c__law_firsts_b3 : CB := .cons (.asg (.nm 1) (.op (oAdd false) (.var 1) (.lst false (.cons (.tup (.cons (.mkx "NotAWay" 18 [12] (.cons (.var 0) .nil)) (.cons (.mkxK "NotAWay" 18 [12] [0] ["given"] (.cons (.var 0) .nil)) .nil))) (.cons (.tup (.cons (.mkx "NotABoard" 19 [12] (.cons (.var 0) .nil)) (.cons (.mkxK "NotABoard" 19 [12] [0] ["given"] (.cons (.var 0) .nil)) .nil))) .nil))))) c__law_firsts_b2
def c__law_firsts_b4 : CB := .cons (.asg (.nm 1) (.op (oAdd false) (.var 1) (.lst false (.cons (.tup (.cons (.mkx "UnknownCell" 16 [12] (.cons (.var 0) .nil)) (.cons (.mkxK "UnknownCell" 16 [12] [0] ["given"] (.cons (.var 0) .nil)) .nil))) (.cons (.tup (.cons (.mkx "NotASheet" 17 [12] (.cons (.var 0) .nil)) (.cons (.mkxK "NotASheet" 17 [12] [0] ["given"] (.cons (.var 0) .nil)) .nil))) .nil))))) c__law_firsts_b3
def c__law_firsts_b5 : CB := .cons (.asg (.nm 1) (.op (oAdd false) (.var 1) (.lst false (.cons (.tup (.cons (.mkx "InvalidIndex" 14 [12] (.cons (.var 0) .nil)) (.cons (.mkxK "InvalidIndex" 14 [12] [0] ["given"] (.cons (.var 0) .nil)) .nil))) (.cons (.tup (.cons (.mkx "InvalidClaim" 15 [12] (.cons (.var 0) .nil)) (.cons (.mkxK "InvalidClaim" 15 [12] [0] ["given"] (.cons (.var 0) .nil)) .nil))) .nil))))) c__law_firsts_b4
def c__law_firsts_b6 : CB := .cons (.asg (.nm 1) (.op (oAdd false) (.var 1) (.lst false (.cons (.tup (.cons (.mkx "InvalidNumber" 12 [12] (.cons (.var 0) .nil)) (.cons (.mkxK "InvalidNumber" 12 [12] [0] ["given"] (.cons (.var 0) .nil)) .nil))) (.cons (.tup (.cons (.mkx "InvalidName" 13 [12] (.cons (.var 0) .nil)) (.cons (.mkxK "InvalidName" 13 [12] [0] ["given"] (.cons (.var 0) .nil)) .nil))) .nil))))) c__law_firsts_b5
def c__law_firsts : CB := .cons (.asg (.nm 1) (.lst false (.cons (.tup (.cons (.mkx "InvalidText" 10 [12] (.cons (.var 0) .nil)) (.cons (.mkxK "InvalidText" 10 [12] [0] ["given"] (.cons (.var 0) .nil)) .nil))) (.cons (.tup (.cons (.mkx "InvalidFraction" 11 [12] (.cons (.var 0) .nil)) (.cons (.mkxK "InvalidFraction" 11 [12] [0] ["given"] (.cons (.var 0) .nil)) .nil))) .nil)))) c__law_firsts_b6
def N__law_seconds : List Str := ["_law_x", "_law_found"]
def c__law_seconds_b1 : CB := .cons (.ret (.op (oAdd false) (.var 1) (.lst false (.cons (.tup (.cons (.mkx "NothingToUndo" 28 [] .nil) (.cons (.mkx "NothingToUndo" 28 [] .nil) .nil))) .nil)))) .nil
def c__law_seconds_b2 : CB := .cons (.asg (.nm 1) (.op (oAdd false) (.var 1) (.lst false (.cons (.tup (.cons (.mkx "InUse" 27 [13] (.cons (.var 0) .nil)) (.cons (.mkxK "InUse" 27 [13] [0] ["index"] (.cons (.var 0) .nil)) .nil))) (.cons (.tup (.cons (.mkx "Broken" 25 [13, 16] (.cons (.var 0) (.cons (.int 1) .nil))) (.cons (.mkxK "Broken" 25 [13, 16] [1, 0] ["told", "index"] (.cons (.int 1) (.cons (.var 0) .nil))) .nil))) .nil))))) c__law_seconds_b1
def c__law_seconds : CB := .cons (.asg (.nm 1) (.lst false (.cons (.tup (.cons (.mkx "TooMany" 23 [14] (.cons (.var 0) .nil)) (.cons (.mkxK "TooMany" 23 [14] [0] ["number"] (.cons (.var 0) .nil)) .nil))) (.cons (.tup (.cons (.mkx "Leaned" 24 [15] (.cons (.var 0) .nil)) (.cons (.mkxK "Leaned" 24 [15] [0] ["cell"] (.cons (.var 0) .nil)) .nil))) (.cons (.tup (.cons (.mkx "UnknownName" 26 [12] (.cons (.var 0) .nil)) (.cons (.mkxK "UnknownName" 26 [12] [0] ["given"] (.cons (.var 0) .nil)) .nil))) .nil))))) c__law_seconds_b2
def N__law_flags : List Str := ["_law_e", "_law_found"]
def c__law_flags_b1 : CB := .cons (.ret (.op (oAdd false) (.var 1) (.lst false (.cons (.isx "NothingToUndo" 28 xjs (.var 0)) .nil)))) .nil
def c__law_flags_b2 : CB := .cons (.asg (.nm 1) (.op (oAdd false) (.var 1) (.lst false (.cons (.isx "UnknownName" 26 xjs (.var 0)) (.cons (.isx "InUse" 27 xjs (.var 0)) (.cons (.isx "Broken" 25 xjs (.var 0)) .nil)))))) c__law_flags_b1
def c__law_flags_b3 : CB := .cons (.asg (.nm 1) (.op (oAdd false) (.var 1) (.lst false (.cons (.isx "InvalidLog" 21 xjs (.var 0)) (.cons (.isx "TooMany" 23 xjs (.var 0)) (.cons (.isx "Leaned" 24 xjs (.var 0)) .nil)))))) c__law_flags_b2
def c__law_flags_b4 : CB := .cons (.asg (.nm 1) (.op (oAdd false) (.var 1) (.lst false (.cons (.isx "NotABoard" 19 xjs (.var 0)) (.cons (.isx "Unfit" 22 xjs (.var 0)) (.cons (.isx "InvalidValues" 20 xjs (.var 0)) .nil)))))) c__law_flags_b3
def c__law_flags_b5 : CB := .cons (.asg (.nm 1) (.op (oAdd false) (.var 1) (.lst false (.cons (.isx "UnknownCell" 16 xjs (.var 0)) (.cons (.isx "NotASheet" 17 xjs (.var 0)) (.cons (.isx "NotAWay" 18 xjs (.var 0)) .nil)))))) c__law_flags_b4
def c__law_flags_b6 : CB := .cons (.asg (.nm 1) (.op (oAdd false) (.var 1) (.lst false (.cons (.isx "InvalidName" 13 xjs (.var 0)) (.cons (.isx "InvalidIndex" 14 xjs (.var 0)) (.cons (.isx "InvalidClaim" 15 xjs (.var 0)) .nil)))))) c__law_flags_b5
def c__law_flags : CB := .cons (.asg (.nm 1) (.lst false (.cons (.isx "InvalidText" 10 xjs (.var 0)) (.cons (.isx "InvalidFraction" 11 xjs (.var 0)) (.cons (.isx "InvalidNumber" 12 xjs (.var 0)) .nil))))) c__law_flags_b6
def Ev (e : CE) (ρ : Env) (S : Store) (d : D) : Prop := ∀ (Q : QE) (E : QX), Q d S → wE e ρ S Q E
def Evs (es : CL) (ρ : Env) (S : Store) (ds : List D) : Prop := ∀ (Q : List D → Store → Prop) (E : QX), Q ds S → wL es ρ S Q E
section
variable {ρ : Env} {S : Store} {e a b : CE} {es : CL} {d : D} {ds l k : List D}
theorem Evs.nil : Evs .nil ρ S [] := fun Q E q => q
theorem Evs.cons (h : Ev e ρ S d) (h2 : Evs es ρ S ds) : Evs (.cons e es) ρ S (d :: ds) := fun Q E q => h _ E (h2 _ E q)
theorem Evs.one (h : Ev e ρ S d) : Evs (.cons e .nil) ρ S [d] := Evs.cons h Evs.nil
theorem Ev.lst (h : Evs es ρ S ds) (hl : ds.length ≤ big) : Ev (.lst false es) ρ S (.fl ds) := fun Q E q => h _ E (leW_of hl q)
theorem Ev.tup (h : Evs es ρ S ds) (hl : ds.length ≤ big) : Ev (.tup es) ρ S (.tup ds) := fun Q E q => h _ E (leW_of hl q)
theorem Ev.addf (h1 : Ev a ρ S (.fl l)) (h2 : Ev b ρ S (.fl k)) (hl : l.length + k.length ≤ big) : Ev (.op (oAdd false) a b) ρ S (.fl (l ++ k)) := fun Q E q => h1 _ E (h2 _ E ⟨hl, q⟩)
theorem Ev.var {i : Nat} (h : lk ρ i = some d) : Ev (.var i) ρ S d := fun Q E q => by
  show wVar i ρ S Q E
  unfold wVar; rw [h]; exact q
theorem Ev.non : Ev .non ρ S .non := fun Q E q => q
theorem Ev.emp : Ev .emp ρ S (.dk []) := fun Q E q => q
theorem Ev.dun {x : Str} : Ev (.dun x) ρ S (.dk [(x, .tup [])]) := fun Q E q => q
theorem Ev.str {x : Str} : Ev (.str x) ρ S (.str x) := fun Q E q => q
theorem Ev.bl {x : Bool} : Ev (.bl x) ρ S (.bl x) := fun Q E q => q
theorem Ev.int {x : Int} : Ev (.int x) ρ S (.int x) := fun Q E q => q
theorem Ev.mkx {x : Str} {j : Nat} {ks : List Nat} (h : Evs es ρ S ds) (hl : ds.length = ks.length) : Ev (.mkx x j ks es) ρ S (.exv j (ks.zip ds)) := fun Q E q => h _ E (eqW_iff.mpr ⟨hl, q⟩)
theorem Ev.mkxK {x : Str} {j : Nat} {ks pm : List Nat} {nms : List Str} (h : Evs es ρ S ds) (hl : ds.length = pm.length) : Ev (.mkxK x j ks pm nms es) ρ S (.exv j (ks.zip (permD pm ds))) := fun Q E q => h _ E (eqW_iff.mpr ⟨hl, q⟩)
theorem Ev.pair {x : Str} {j i f : Nat} {nm : Str} {y : D} (h : lk ρ f = some y) : Ev (.tup (.cons (.mkx x j [i] (.cons (.var f) .nil)) (.cons (.mkxK x j [i] [0] [nm] (.cons (.var f) .nil)) .nil))) ρ S (eP j i y) :=
  Ev.tup (Evs.cons (Ev.mkx (ks := [i]) (Evs.one (Ev.var h)) rfl) (Evs.one (Ev.mkxK (ks := [i]) (pm := [0]) (Evs.one (Ev.var h)) rfl))) (show 2 ≤ big by decide)
theorem memW_o {k : Nat} {K : Prop} : ∀ {ks : List Nat}, k ∈ ks → K → memW k ks K
  | j :: r, h, q => by
    unfold memW
    split
    · exact q
    · rename_i e
      rcases List.mem_cons.mp h with rfl | h
      · exact absurd (Nat.beq_refl _) e
      · exact memW_o h q
theorem Ev.isx {y : Str} {k i j : Nat} {fs : List (Nat × D)} (h : lk ρ i = some (.exv j fs)) (a : 10 ≤ j) (b : j ≤ 28) : Ev (.isx y k xjs (.var i)) ρ S (.bl (subX j k)) := fun Q E q => Ev.var h _ E (memW_o (mem_xjs a b) q)
theorem asg_e {i : Nat} {r : CB} {E : EndsD} (h : Ev e ρ S d) (q : wB r E (sto ρ i d) S) : wB (.cons (.asg (.nm i) e) r) E ρ S := h _ _ q
theorem ret_e {r : CB} {E : EndsD} (h : Ev e ρ S d) (q : E.rt d S) : wB (.cons (.ret e) r) E ρ S := h _ _ q
theorem ret_ix {f : Str} {sp : DSp} {r : CB} {E : EndsD} (h : Ev a ρ S d) (hs : Evs es ρ S ds) (q : sp ds S (fun y S1 => iAt.w d y S1 E.rt) (E.ex ρ)) : wB (.cons (.ret (.idx iAt a (.call f sp es))) r) E ρ S := h _ _ (hs _ _ q)
theorem par2_e {i j : Nat} {r : CB} {E : EndsD} {d' : D} (h1 : Ev a ρ S d) (h2 : Ev b ρ S d') (q : wB r E (sto (sto ρ i d) j d') S) : wB (.cons (.par2 i j a b) r) E ρ S := h1 _ _ (h2 _ _ q)
end
theorem cpow_b1 (n : Int) (h : 0 ≤ n) (k : n ≤ 100) : CPow 10 n := ⟨h, by omega, by decide⟩
theorem v__law_thing : ∀ ds S Q E, S__law_thing ds S Q E → bodyW N__law_thing.length c__law_thing ds S Q E := by
  rintro ds S Q E ⟨p, rfl, hp, q⟩
  simp only [N__law_thing]
  walk_at "w0"
  have hL : Ev (.lst false (.cons .non (.cons (.bl true) (.cons (.int 0) (.cons (.un uNeg (.op oPow (.int 10) (.int 30))) (.cons (.str "") (.cons (.str "a") (.cons (.str "a 1") (.cons (.tup .nil) (.cons (.tup (.cons (.str "a") (.cons (.tup (.cons (.str "b") (.cons (.int 1) .nil))) .nil))) (.cons (.lst false .nil) (.cons (.lst false (.cons (.lst false (.cons (.str "a") .nil)) .nil)) (.cons .emp (.cons (.dun "a") .nil)))))))))))))) [some (.ref p), none] S (.fl things) := by
    refine Ev.lst (Evs.cons Ev.non (Evs.cons Ev.bl (Evs.cons Ev.int (Evs.cons ?_ (Evs.cons Ev.str (Evs.cons Ev.str (Evs.cons Ev.str (Evs.cons (Ev.tup Evs.nil (by decide)) (Evs.cons (Ev.tup (Evs.cons Ev.str (Evs.one (Ev.tup (Evs.cons Ev.str (Evs.one Ev.int)) (show 2 ≤ big by decide)))) (show 2 ≤ big by decide)) (Evs.cons (Ev.lst Evs.nil (by decide)) (Evs.cons (Ev.lst (Evs.one (Ev.lst (Evs.one Ev.str) (show 1 ≤ big by decide))) (show 1 ≤ big by decide)) (Evs.cons Ev.emp (Evs.one Ev.dun))))))))))))) (show 13 ≤ big by decide)
    intro Q E q
    show oPow.w (.int 10) (.int 30) S fun d S1 => uNeg.w d S1 Q
    rw [w_pow, show (30 : Int).toNat = 30 from rfl]
    exact ⟨cpow_b1 30 (by decide) (by decide), q⟩
  refine asg_e hL ?_
  refine ret_ix (Ev.var (d := .fl things) rfl) (Evs.cons (Ev.var (d := .ref p) rfl) (Evs.one Ev.int)) ⟨p, 13, rfl, hp, by decide, by decide, fun d S1 hd t => ?_⟩
  show iAt.w (.fl things) (.int d) S1 _
  have dl : d < things.length := by show d < 13; omega
  rw [w_ixl, atI_nat, List.getElem?_eq_getElem dl, wOpt_s]
  exact rt_same (q _ _ (List.getElem_mem dl) t)
theorem v__law_firsts : ∀ ds S Q E, S__law_firsts ds S Q E → bodyW N__law_firsts.length c__law_firsts ds S Q E := by
  rintro ds S Q E ⟨x, rfl, q⟩
  simp only [N__law_firsts]
  walk_at "w0"
  have h0 : ∀ o, lk [some x, o] 0 = some x := fun _ => rfl
  have b : ∀ {n : Nat}, n ≤ 13 → n ≤ big := fun h => by rw [big_eq]; omega
  refine asg_e (Ev.lst (Evs.cons (Ev.pair (h0 _)) (Evs.one (Ev.pair (h0 _)))) (b (show 2 ≤ 13 by decide))) ?_
  iterate 5 refine asg_e (Ev.addf (Ev.var rfl) (Ev.lst (Evs.cons (Ev.pair (h0 _)) (Evs.one (Ev.pair (h0 _)))) (b (show 2 ≤ 13 by decide))) (b (by simp))) ?_
  refine ret_e (Ev.addf (Ev.var rfl) (Ev.lst (Evs.one (Ev.pair (h0 _))) (b (show 1 ≤ 13 by decide))) (b (by simp))) (rt_same ?_)
  exact q
theorem v__law_seconds : ∀ ds S Q E, S__law_seconds ds S Q E → bodyW N__law_seconds.length c__law_seconds ds S Q E := by
  rintro ds S Q E ⟨x, rfl, q⟩
  simp only [N__law_seconds]
  walk_at "w0"
  have h0 : ∀ o, lk [some x, o] 0 = some x := fun _ => rfl
  have b : ∀ {n : Nat}, n ≤ 13 → n ≤ big := fun h => by rw [big_eq]; omega
  refine asg_e (Ev.lst (Evs.cons (Ev.pair (h0 _)) (Evs.cons (Ev.pair (h0 _)) (Evs.one (Ev.pair (h0 _))))) (b (show 3 ≤ 13 by decide))) ?_
  refine asg_e (Ev.addf (Ev.var rfl) (Ev.lst (Evs.cons (Ev.pair (h0 _)) (Evs.one (Ev.tup (Evs.cons (Ev.mkx (ks := [13, 16]) (Evs.cons (Ev.var (h0 _)) (Evs.one Ev.int)) rfl) (Evs.one (Ev.mkxK (ks := [13, 16]) (pm := [1, 0]) (Evs.cons Ev.int (Evs.one (Ev.var (h0 _)))) rfl))) (b (show 2 ≤ 13 by decide))))) (b (show 2 ≤ 13 by decide))) (b (by simp))) ?_
  refine ret_e (Ev.addf (Ev.var rfl) (Ev.lst (Evs.one (Ev.tup (Evs.cons (Ev.mkx (ks := []) Evs.nil rfl) (Evs.one (Ev.mkx (ks := []) Evs.nil rfl))) (b (show 2 ≤ 13 by decide)))) (b (show 1 ≤ 13 by decide))) (b (by simp))) (rt_same ?_)
  exact q
theorem v__law_flags : ∀ ds S Q E, S__law_flags ds S Q E → bodyW N__law_flags.length c__law_flags ds S Q E := by
  rintro ds S Q E ⟨j, fs, rfl, h1, h2, q⟩
  simp only [N__law_flags]
  walk_at "w0"
  have h0 : ∀ o, lk [some (.exv j fs), o] 0 = some (.exv j fs) := fun _ => rfl
  have b : ∀ {n : Nat}, n ≤ 19 → n ≤ big := fun h => by rw [big_eq]; omega
  have x1 : ∀ {y : Str} {k : Nat} {o : Option D}, Ev (.isx y k xjs (.var 0)) [some (.exv j fs), o] S (.bl (subX j k)) := fun {y k o} => Ev.isx (h0 o) h1 h2
  refine asg_e (Ev.lst (Evs.cons x1 (Evs.cons x1 (Evs.one x1))) (b (show 3 ≤ 19 by decide))) ?_
  iterate 5 refine asg_e (Ev.addf (Ev.var rfl) (Ev.lst (Evs.cons x1 (Evs.cons x1 (Evs.one x1))) (b (show 3 ≤ 19 by decide))) (b (by simp))) ?_
  refine ret_e (Ev.addf (Ev.var rfl) (Ev.lst (Evs.one x1) (b (show 1 ≤ 19 by decide))) (b (by simp))) (rt_same ?_)
  exact q
def N__law_right : List Str := ["_law_purse_here", "_law_x", "_law_pairs", "_law_others", "_law_kept", "_law_k", "_law_pair", "_law_e", "_law_flags_here", "_law_is_first"]
def c__law_right_b1 : CB := .cons (.ret (.bl false)) .nil
def c__law_right_b2 : CB := .cons (.ret (.bl false)) .nil
def c__law_right_b3 : CB := .cons (.ret (.bl false)) .nil
def c__law_right_b4 : CB := .cons (.ret (.bl false)) .nil
def c__law_right_b5 : CB := .cons (.if_ (.cmp cNe (.lst false (.cons (.isx "ValueError" 8 xjs (.var 7)) (.cons (.isx "ArithmeticError" 9 xjs (.var 7)) .nil))) (.lst false (.cons (.var 9) (.cons (.not_ (.var 9)) .nil)))) c__law_right_b4 .nil) .nil
def c__law_right_b6 : CB := .cons (.if_ (.cmp cNe (.lst false (.cons (.isx "WrongValue" 8 xjs (.var 7)) (.cons (.isx "NoAnswer" 9 xjs (.var 7)) .nil))) (.lst false (.cons (.var 9) (.cons (.not_ (.var 9)) .nil)))) c__law_right_b3 .nil) c__law_right_b5
def c__law_right_b7 : CB := .cons (.if_ (.or_ (.cmp cNe (.met mCount (.var 8) (.cons (.bl true) .nil)) (.int 1)) (.not_ (.idx iAt (.var 8) (.var 5)))) c__law_right_b2 .nil) c__law_right_b6
def c__law_right_b8 : CB := .cons (.par2 8 9 (.call "_law_flags" S__law_flags (.cons (.var 7) .nil)) (.cmp cLt (.var 5) (.int 13))) c__law_right_b7
def c__law_right_l1 : CS := .for_ (.nm 7) (.seq (.var 6)) c__law_right_b8
def c__law_right_b9 : CB := .cons c__law_right_l1 .nil
def c__law_right_l2 : CS := .for_ (.tp [5, 6]) (.enum (.op (oAdd false) (.var 2) (.var 3))) c__law_right_b9
def c__law_right_b10 : CB := .cons (.ret (.bl true)) .nil
def c__law_right_b11 : CB := .cons c__law_right_l2 c__law_right_b10
def c__law_right_b12 : CB := .cons (.if_ (.or_ (.cmp cNe (.blt bReprX (.cons (.var 4) .nil)) (.blt bReprX (.cons (.op (oRep false) (.lst false (.cons (.lst false (.cons (.var 1) (.cons (.var 1) .nil))) .nil)) (.int 18)) .nil))) (.cmp cNe (.comp false [("_law_e", 7)] (.attx 16 [25] (.var 7)) (.nm 7) (.seq (.idx iAt (.var 3) (.int 4))) .nil) (.lst false (.cons (.int 1) (.cons (.int 1) .nil))))) c__law_right_b1 .nil) c__law_right_b11
def c__law_right_b13 : CB := .cons (.asg (.nm 4) (.op (oAdd false) (.var 4) (.lst false (.cons (.comp false [("_law_e", 7)] (.attx 14 [23] (.var 7)) (.nm 7) (.seq (.idx iAt (.var 3) (.int 0))) .nil) (.cons (.comp false [("_law_e", 7)] (.attx 15 [24] (.var 7)) (.nm 7) (.seq (.idx iAt (.var 3) (.int 1))) .nil) .nil))))) c__law_right_b12
def c__law_right_b14 : CB := .cons (.asg (.nm 4) (.op (oAdd false) (.var 4) (.comp false [("_law_pair", 6)] (.lst false (.cons (.attx 13 ijs (.idx iAt (.var 6) (.int 0))) (.cons (.attx 13 ijs (.idx iAt (.var 6) (.int 1))) .nil))) (.nm 6) (.seq (.op (oAdd false) (.slc (sCut false) (.var 2) (.some (.int 11)) .none) (.slc (sCut false) (.var 3) (.some (.int 3)) (.some (.int 5))))) .nil))) c__law_right_b13
def c__law_right_b15 : CB := .cons (.asg (.nm 4) (.comp false [("_law_pair", 6)] (.lst false (.cons (.attx 12 gjs (.idx iAt (.var 6) (.int 0))) (.cons (.attx 12 gjs (.idx iAt (.var 6) (.int 1))) .nil))) (.nm 6) (.seq (.op (oAdd false) (.slc (sCut false) (.var 2) .none (.some (.int 11))) (.slc (sCut false) (.var 3) (.some (.int 2)) (.some (.int 3))))) .nil)) c__law_right_b14
def c__law_right_b16 : CB := .cons (.par2 2 3 (.call "_law_firsts" S__law_firsts (.cons (.var 1) .nil)) (.call "_law_seconds" S__law_seconds (.cons (.var 1) .nil))) c__law_right_b15
def c__law_right : CB := .cons (.asg (.nm 1) (.call "_law_thing" S__law_thing (.cons (.var 0) .nil))) c__law_right_b16
def N_law : List Str := ["_law_script", "_law_spot"]
def c_law_b1 : CB := .cons (.ret (.bl false)) .nil
def c_law_b2 : CB := .cons (.ret (.blt bAll (.cons (.comp false [("_law_spot", 1)] (.call "_law_right" S__law_right (.cons (.call "_law_purse" S__law_purse (.cons (.var 0) (.cons (.var 1) .nil))) .nil)) (.nm 1) (.rng1 (.blt bMax (.cons (.int 2) (.cons (.blt bMin (.cons (.blt bLen (.cons (.var 0) .nil)) (.cons (.int 4) .nil))) .nil)))) .nil) .nil))) .nil
def c_law : CB := .cons (.if_ (.cmp cNe (.lst false (.cons (.glo "MOST_CELLS" (.int 5)) (.cons (.glo "MOST_DIGITS" (.int 20)) (.cons (.glo "MOST_ROUNDS" (.int 100)) (.cons (.glo "MOST_POWERS" (.int 200)) (.cons (.glo "MOST_ORDERED" (.int 4)) (.cons (.glo "MOST_PARTS" (.int 1000000)) .nil))))))) (.lst false (.cons (.int 5) (.cons (.int 20) (.cons (.int 100) (.cons (.int 200) (.cons (.int 4) (.cons (.op oPow (.int 10) (.int 6)) .nil)))))))) c_law_b1 .nil) c_law_b2
section
variable {ρ : Env} {S : Store} {e a b : CE} {es : CL} {d : D} {ds l k : List D}
theorem asg_c {i : Nat} {f : Str} {sp : DSp} {r : CB} {E : EndsD} (h : Evs es ρ S ds) (q : sp ds S (fun d S1 => wB r E (sto ρ i d) S1) (E.ex ρ)) : wB (.cons (.asg (.nm i) (.call f sp es)) r) E ρ S := h _ _ q
theorem Ev.call {f : Str} {sp : DSp} (h : Evs es ρ S ds) (q : ∀ (Q : QE) (E : QX), Q d S → sp ds S Q E) : Ev (.call f sp es) ρ S d := fun Q E k => h _ E (q Q E k)
theorem Ev.compM {α : Type} {own : List (Str × Nat)} {elt src : CE} {i : Nat} {en f : α → D} {l : List α} (hs : Ev src ρ S (.fl (l.map en))) (hl : l.length ≤ big) (h : ∀ y ∈ l, Ev elt (sto (wipeD ρ (own.map (·.2))) i (en y)) S (f y)) :
    Ev (.comp false own elt (.nm i) (.seq src) .nil) ρ S (.fl (l.map f)) := fun Q E q => by
  refine hs _ E ?_
  refine leW_of (by rw [List.length_map]; exact hl) ?_
  exact comp_map (en := en) (f := f) trivial l [] (fun y hy K k => h y hy _ _ k) (by rw [List.nil_append]; exact q)
theorem Ev.compT {own : List (Str × Nat)} {elt src : CE} {i : Nat} {x y z : D} (hs : Ev src ρ S (.tup [x, x])) (h : Ev elt (sto (wipeD ρ (own.map (·.2))) i x) S y) :
    Ev (.comp false own elt (.nm i) (.seq src) .nil) ρ S (.fl [y, y]) := fun Q E q => by
  refine hs _ E ?_
  refine leW_of (show 2 ≤ big by decide) ?_
  show compL (tgW (.nm i)) (wC' .nil) (wE elt) (fun _ => True) (wipeD ρ (own.map (·.2))) ([(), ()].map fun _ => x) [] S (fun l S2 => newL false l S2 Q)
  exact comp_map (en := fun _ : Unit => x) (f := fun _ => y) trivial [(), ()] [] (fun _ _ K k => h _ _ k) q
theorem Ev.attx {k j : Nat} {js : List Nat} {fs : List (Nat × D)} {y : D} (h : Ev e ρ S (.exv j fs)) (hj : j ∈ js) (hy : fs.lookup k = some y) : Ev (.attx k js e) ρ S y := fun Q E q => h _ E (memW_o hj ⟨y, hy, q⟩)
theorem Ev.ixt {i : Int} (h : Ev e ρ S (.tup l)) (ha : atI l i = some d) : Ev (.idx iAt e (.int i)) ρ S d := fun Q E q => h _ E (show iAt.w (.tup l) (.int i) S Q from by rw [w_ixt, ha, wOpt_s]; exact q)
theorem Ev.ixl {i : Int} (h : Ev e ρ S (.fl l)) (ha : atI l i = some d) : Ev (.idx iAt e (.int i)) ρ S d := fun Q E q => h _ E (show iAt.w (.fl l) (.int i) S Q from by rw [w_ixl, ha, wOpt_s]; exact q)
theorem Ev.ixv {i : Nat} (h : Ev e ρ S (.fl l)) (h2 : Ev a ρ S (.int i)) (ha : l[i]? = some d) : Ev (.idx iAt e a) ρ S d := fun Q E q => h _ E (h2 _ E (show iAt.w (.fl l) (.int i) S Q from by rw [w_ixl, atI_nat, ha, wOpt_s]; exact q))
theorem Ev.cutA {i : Int} (h : Ev e ρ S (.fl l)) : Ev (.slc (sCut false) e .none (.some (.int i))) ρ S (.fl (cutD l none (some i))) := fun Q E q => h _ E (show (sCut false).w (.fl l) none (some i) S Q from by rw [w_cutl]; exact q)
theorem Ev.cutB {i : Int} (h : Ev e ρ S (.fl l)) : Ev (.slc (sCut false) e (.some (.int i)) .none) ρ S (.fl (cutD l (some i) none)) := fun Q E q => h _ E (show (sCut false).w (.fl l) (some i) none S Q from by rw [w_cutl]; exact q)
theorem Ev.cutC {i j : Int} (h : Ev e ρ S (.fl l)) : Ev (.slc (sCut false) e (.some (.int i)) (.some (.int j))) ρ S (.fl (cutD l (some i) (some j))) := fun Q E q => h _ E (show (sCut false).w (.fl l) (some i) (some j) S Q from by rw [w_cutl]; exact q)
theorem Ev.reprX {t : Str} (h : Ev e ρ S d) (ht : reprXT d = some t) : Ev (.blt bReprX (.cons e .nil)) ρ S (.str t) := fun Q E q => h (fun d S1 => bReprX.w [d] S1 Q) E (by
  show wOpt (reprXT d) _
  rw [ht]; exact q)
theorem Ev.met {m : Mt} {x : D} (h : Ev e ρ S d) (hs : Evs es ρ S ds) (ty : m.ty d S) (w : ∀ Q : QE, Q x S → m.w d ds S Q) : Ev (.met m e es) ρ S x := fun Q E q => h _ E ⟨ty, hs _ E (w _ q)⟩
def isT1 (z : D) : Bool := eqV (vOf z) (vOf (.bl true))
theorem Ev.count {n : Nat} (h : Ev e ρ S (.fl l)) (f : l.all flatD = true) (c : l.countP isT1 = n) : Ev (.met mCount e (.cons (.bl true) .nil)) ρ S (.int n) :=
  Ev.met h (Evs.one Ev.bl) (show tyLst (.fl l) S from True.intro) fun Q q => ⟨rfl, l, rfl, f, by
    have e : (l.countP fun z => eqV (vOf z) (vOf (.bl true))) = n := c
    rw [e]; exact q⟩
theorem Ev.not {t : Bool} (h : Ev e ρ S (.bl t)) : Ev (.not_ e) ρ S (.bl (!t)) := fun Q E q => h _ E q
theorem Ev.lt {i j : Int} (h1 : Ev a ρ S (.int i)) (h2 : Ev b ρ S (.int j)) : Ev (.cmp cLt a b) ρ S (.bl (decide (i < j))) := fun Q E q => h1 _ E (h2 _ E q)
theorem Ev.glo {x : Str} : Ev (.glo x d) ρ S d := fun Q E q => q
theorem or_e {o1 o2 : Cm2} {a2 b2 : CE} {x r : CB} {E : EndsD} {da db da2 db2 : D} (h1 : Ev a ρ S da) (h2 : Ev b ρ S db) (h3 : Ev a2 ρ S da2) (h4 : Ev b2 ρ S db2)
    (w1 : ∀ Q : QE, Q (.bl false) S → o1.w da db S Q) (w2 : ∀ Q : QE, Q (.bl false) S → o2.w da2 db2 S Q) (q : wB r E ρ S) : wB (.cons (.if_ (.or_ (.cmp o1 a b) (.cmp o2 a2 b2)) x .nil) r) E ρ S := by
  refine wB_of ?_
  simp only [wS, wQ, or2]
  refine h1 _ _ (h2 _ _ (w1 _ ?_))
  rw [bolD_b]
  simp only [Bool.false_eq_true, if_false]
  refine h3 _ _ (h4 _ _ (w2 _ ?_))
  rw [bolD_b]
  simp only [Bool.false_eq_true, if_false]
  exact q
theorem or_n {o1 : Cm2} {f g : CE} {x r : CB} {E : EndsD} {da db : D} (h1 : Ev a ρ S da) (h2 : Ev b ρ S db) (w1 : ∀ Q : QE, Q (.bl false) S → o1.w da db S Q) (h3 : Ev (.idx iAt f g) ρ S (.bl true)) (q : wB r E ρ S) :
    wB (.cons (.if_ (.or_ (.cmp o1 a b) (.not_ (.idx iAt f g))) x .nil) r) E ρ S := by
  refine wB_of ?_
  simp only [wS, wQ, or2, not1]
  refine h1 _ _ (h2 _ _ (w1 _ ?_))
  rw [bolD_b]
  simp only [Bool.false_eq_true, if_false]
  refine h3 _ _ ?_
  exact q
theorem if_c1 {o : Cm2} {x r : CB} {E : EndsD} {da db : D} (h1 : Ev a ρ S da) (h2 : Ev b ρ S db) (w1 : ∀ Q : QE, Q (.bl false) S → o.w da db S Q) (q : wB r E ρ S) : wB (.cons (.if_ (.cmp o a b) x .nil) r) E ρ S := by
  refine wB_of ?_
  simp only [wS, wQ]
  refine h1 _ _ (h2 _ _ (w1 _ ?_))
  rw [bolD_b]
  simp only [Bool.false_eq_true, if_false]
  exact q
theorem for_e {t : CT} {it : CI} {b r : CB} {E : EndsD} (q : wI it ρ S (fun its G S1 => forL (fun d E' ρ' S' => tgW t d ρ' S' fun ρ2 S2 => wB b E' ρ2 S2) G its { E with nx := fun ρ1 S1 => wB r E ρ1 S1 } ρ S1) (E.ex ρ)) : wB (.cons (.for_ t it b) r) E ρ S := q
end
theorem ne_bb {a b : Bool} {S : Store} (Q : QE) (q : Q (.bl false) S) : cNe.w (.fl [.bl a, .bl b]) (.fl [.bl a, .bl b]) S Q := by
  show (SeqAt.shaped (.list [.bool a, .bool b]) = true ∧ SeqAt.shaped (.list [.bool a, .bool b]) = true ∧ Q (.bl (!PyData.eqv (.list [.bool a, .bool b]) (.list [.bool a, .bool b]))) S)
  cases a <;> cases b <;> exact ⟨by decide +kernel, by decide +kernel, q⟩
theorem ne_11 {S : Store} (Q : QE) (q : Q (.bl false) S) : cNe.w (.fl [.int 1, .int 1]) (.fl [.int 1, .int 1]) S Q := by
  show (SeqAt.shaped (.list [.int 1, .int 1]) = true ∧ SeqAt.shaped (.list [.int 1, .int 1]) = true ∧ Q (.bl (!PyData.eqv (.list [.int 1, .int 1]) (.list [.int 1, .int 1]))) S)
  exact ⟨by decide +kernel, by decide +kernel, q⟩
def limP : PyData := .list [.int 5, .int 20, .int 100, .int 200, .int 4, .int 1000000]
def limD : D := .fl [.int 5, .int 20, .int 100, .int 200, .int 4, .int 1000000]
theorem ne_lim {S : Store} (Q : QE) (q : Q (.bl false) S) : cNe.w limD limD S Q := by
  show (SeqAt.shaped limP = true ∧ SeqAt.shaped limP = true ∧ Q (.bl (!PyData.eqv limP limP)) S)
  exact ⟨by decide +kernel, by decide +kernel, by rw [show PyData.eqv limP limP = true by decide +kernel]; exact q⟩
theorem rep_some {x : D} (h : x ∈ things) : ∃ t, reprXT (.fl (List.replicate 18 (.fl [x, x]))) = some t := by
  refine Option.isSome_iff_exists.mp ?_
  simp only [things, List.mem_cons, List.not_mem_nil, or_false] at h
  rcases h with rfl | rfl | rfl | rfl | rfl | rfl | rfl | rfl | rfl | rfl | rfl | rfl | rfl <;> decide +kernel
def allD (x : D) : List D := firstsD x ++ secondsD x
def clK (k : Nat) : Nat := flagO.getD k 0
theorem enum19 {x : D} : ((allD x).zipIdx.map fun p => D.tup [.int p.2, p.1]) = (List.range 19).map fun k => .tup [.int k, (allD x).getD k .non] := rfl
theorem all_at {x : D} : ∀ k, k < 19 → ∃ fs, (allD x).getD k .non = .tup [.exv (clK k) fs, .exv (clK k) fs]
  | 0, _ => ⟨_, rfl⟩ | 1, _ => ⟨_, rfl⟩ | 2, _ => ⟨_, rfl⟩ | 3, _ => ⟨_, rfl⟩ | 4, _ => ⟨_, rfl⟩ | 5, _ => ⟨_, rfl⟩ | 6, _ => ⟨_, rfl⟩ | 7, _ => ⟨_, rfl⟩ | 8, _ => ⟨_, rfl⟩ | 9, _ => ⟨_, rfl⟩
  | 10, _ => ⟨_, rfl⟩ | 11, _ => ⟨_, rfl⟩ | 12, _ => ⟨_, rfl⟩ | 13, _ => ⟨_, rfl⟩ | 14, _ => ⟨_, rfl⟩ | 15, _ => ⟨_, rfl⟩ | 16, _ => ⟨_, rfl⟩ | 17, _ => ⟨_, rfl⟩ | 18, _ => ⟨_, rfl⟩
  | n + 19, h => absurd h (by omega)
theorem k_facts : ∀ k, k < 19 → 10 ≤ clK k ∧ clK k ≤ 28 ∧ ((flagB (clK k)).map D.bl).all flatD = true ∧ ((flagB (clK k)).map D.bl).countP isT1 = 1 ∧ (flagB (clK k))[k]? = some true ∧ subX (clK k) 8 = decide ((k : Int) < 13) ∧ subX (clK k) 9 = !decide ((k : Int) < 13) := by
  decide +kernel
theorem v__law_right : ∀ ds S Q E, S__law_right ds S Q E → bodyW N__law_right.length c__law_right ds S Q E := by
  rintro ds S Q E ⟨p, rfl, hp, q⟩
  simp only [N__law_right]
  walk_at "w0"
  have b : ∀ {n : Nat}, n ≤ 19 → n ≤ big := fun h => by rw [big_eq]; omega
  refine asg_c (Evs.one (Ev.var rfl)) ⟨p, rfl, hp, fun x S1 hx t => ?_⟩
  refine par2_e (Ev.call (Evs.one (Ev.var (d := x) rfl)) fun Q E q => ⟨x, rfl, q⟩) (Ev.call (Evs.one (Ev.var (d := x) rfl)) fun Q E q => ⟨x, rfl, q⟩) ?_
  have two : ∀ {k j i : Nat} {js : List Nat} {fs : List (Nat × D)} {ρ : Env}, lk ρ 6 = some (.tup [.exv j fs, .exv j fs]) → j ∈ js → fs.lookup i = some x → Ev (.lst false (.cons (.attx i js (.idx iAt (.var 6) (.int 0))) (.cons (.attx i js (.idx iAt (.var 6) (.int 1))) .nil))) ρ S1 (.fl [x, x]) := fun {k j i js fs ρ} h hj hf =>
    Ev.lst (Evs.cons (Ev.attx (Ev.ixt (Ev.var h) rfl) hj hf) (Evs.one (Ev.attx (Ev.ixt (Ev.var h) rfl) hj hf))) (show 2 ≤ big by decide)
  refine asg_e (d := .fl (List.replicate 12 (.fl [x, x]))) ?_ ?_
  · refine Ev.compM (en := fun j => eP j 12 x) (f := fun _ => .fl [x, x]) (l := [10, 11, 12, 13, 14, 15, 16, 17, 18, 19, 22, 26]) (Ev.addf (l := cutD (firstsD x) none (some 11)) (k := cutD (secondsD x) (some 2) (some 3)) (Ev.cutA (Ev.var rfl)) (Ev.cutC (Ev.var rfl)) (b (show 12 ≤ 19 by decide))) (b (show 12 ≤ 19 by decide)) fun j hj => ?_
    exact two (k := 0) (fs := [(12, x)]) rfl hj rfl
  refine asg_e (d := .fl (List.replicate 16 (.fl [x, x]))) ?_ ?_
  · refine Ev.addf (l := List.replicate 12 (.fl [x, x])) (k := List.replicate 4 (.fl [x, x])) (Ev.var rfl) ?_ (b (show 16 ≤ 19 by decide))
    refine Ev.compM (en := fun d => d) (f := fun _ => .fl [x, x]) (l := [eP 20 13 x, eP 21 13 x, eP 27 13 x, .tup [.exv 25 [(13, x), (16, .int 1)], .exv 25 [(13, x), (16, .int 1)]]]) (Ev.addf (l := cutD (firstsD x) (some 11) none) (k := cutD (secondsD x) (some 3) (some 5)) (Ev.cutB (Ev.var rfl)) (Ev.cutC (Ev.var rfl)) (b (show 4 ≤ 19 by decide))) (b (show 4 ≤ 19 by decide)) fun d hd => ?_
    simp only [List.mem_cons, List.not_mem_nil, or_false] at hd
    rcases hd with rfl | rfl | rfl | rfl
    · exact two (k := 0) (fs := [(13, x)]) rfl (by decide) rfl
    · exact two (k := 0) (fs := [(13, x)]) rfl (by decide) rfl
    · exact two (k := 0) (fs := [(13, x)]) rfl (by decide) rfl
    · exact two (k := 0) (fs := [(13, x), (16, .int 1)]) rfl (by decide) rfl
  refine asg_e (d := .fl (List.replicate 18 (.fl [x, x]))) ?_ ?_
  · refine Ev.addf (l := List.replicate 16 (.fl [x, x])) (k := [.fl [x, x], .fl [x, x]]) (Ev.var rfl) (Ev.lst (Evs.cons (Ev.compT (z := .non) (Ev.ixl (Ev.var rfl) rfl) (Ev.attx (fs := [(14, x)]) (Ev.var rfl) (by decide) rfl)) (Evs.one (Ev.compT (z := .non) (Ev.ixl (Ev.var rfl) rfl) (Ev.attx (fs := [(15, x)]) (Ev.var rfl) (by decide) rfl)))) (show 2 ≤ big by decide)) (b (show 18 ≤ 19 by decide))
  obtain ⟨T, hT⟩ := rep_some hx
  refine or_e (Ev.reprX (Ev.var rfl) hT) (Ev.reprX (t := T) (d := .fl (List.replicate 18 (.fl [x, x]))) ?_ hT) (Ev.compT (z := .non) (Ev.ixl (Ev.var rfl) rfl) (Ev.attx (fs := [(13, x), (16, .int 1)]) (Ev.var rfl) (by decide) rfl)) (Ev.lst (Evs.cons Ev.int (Evs.one Ev.int)) (show 2 ≤ big by decide)) (fun Q q => by rw [w_nes]; simpa using q) ne_11 ?_
  · intro Q E q
    exact Ev.lst (Evs.one (Ev.lst (Evs.cons (Ev.var rfl) (Evs.one (Ev.var rfl))) (show 2 ≤ big by decide))) (show 1 ≤ big by decide) _ E (show (oRep false).w (.fl [.fl [x, x]]) (.int 18) S1 Q from ⟨by decide, by decide, b (show 1 * 18 ≤ 19 by decide), q⟩)
  refine for_e (Ev.addf (l := firstsD x) (k := secondsD x) (Ev.var rfl) (Ev.var rfl) (b (show 19 ≤ 19 by decide)) _ _ ?_)
  simp only [wSeqG]
  rw [show firstsD x ++ secondsD x = allD x from rfl, enum19]
  refine for_by (en := fun k : Nat => D.tup [.int k, (allD x).getD k .non]) (fun l ρ S' => S' = S1 ∧ (∀ k ∈ l, k < 19) ∧ ∃ o5 o6 o7 o8 o9, ρ = [some (.ref p), some x, some (.fl (firstsD x)), some (.fl (secondsD x)), some (.fl (List.replicate 18 (.fl [x, x]))), o5, o6, o7, o8, o9]) (fun _ _ _ _ => trivial) ?_ ?_ _ _ _ ⟨rfl, fun k hk => List.mem_range.mp hk, _, _, _, _, _, rfl⟩
  · rintro k l ρ S' ⟨rfl, hk, o5, o6, o7, o8, o9, rfl⟩ K hK
    obtain ⟨fs, el⟩ := all_at (x := x) k (hk k List.mem_cons_self)
    obtain ⟨j1, j2, f1, f2, f3, f4, f5⟩ := k_facts k (hk k List.mem_cons_self)
    rw [el]
    show wB c__law_right_b9 _ [some (.ref p), some x, some (.fl (firstsD x)), some (.fl (secondsD x)), some (.fl (List.replicate 18 (.fl [x, x]))), some (.int k), some (.tup [.exv (clK k) fs, .exv (clK k) fs]), o7, o8, o9] S'
    refine for_e (Ev.var rfl _ _ ?_)
    simp only [wSeqG]
    rw [show [D.exv (clK k) fs, D.exv (clK k) fs] = [(), ()].map fun _ => D.exv (clK k) fs from rfl]
    refine for_by (en := fun _ : Unit => D.exv (clK k) fs) (fun l ρ S2 => S2 = S' ∧ ∃ o7 o8 o9, ρ = [some (.ref p), some x, some (.fl (firstsD x)), some (.fl (secondsD x)), some (.fl (List.replicate 18 (.fl [x, x]))), some (.int k), some (.tup [.exv (clK k) fs, .exv (clK k) fs]), o7, o8, o9]) (fun _ _ _ _ => trivial) ?_ ?_ _ _ _ ⟨rfl, _, _, _, rfl⟩
    · rintro ⟨⟩ l2 ρ S2 ⟨rfl, o7, o8, o9, rfl⟩ K2 hK2
      show wB c__law_right_b8 _ [some (.ref p), some x, some (.fl (firstsD x)), some (.fl (secondsD x)), some (.fl (List.replicate 18 (.fl [x, x]))), some (.int k), some (.tup [.exv (clK k) fs, .exv (clK k) fs]), some (.exv (clK k) fs), o8, o9] S2
      refine par2_e (Ev.call (Evs.one (Ev.var (d := .exv (clK k) fs) rfl)) fun Q E q => ⟨_, _, rfl, j1, j2, q⟩) (Ev.lt (Ev.var (d := .int k) rfl) Ev.int) ?_
      have e7 : ∀ {y : Str} {q : Nat} {o8 o9 : Option D}, Ev (.isx y q xjs (.var 7)) [some (.ref p), some x, some (.fl (firstsD x)), some (.fl (secondsD x)), some (.fl (List.replicate 18 (.fl [x, x]))), some (.int k), some (.tup [.exv (clK k) fs, .exv (clK k) fs]), some (.exv (clK k) fs), o8, o9] S2 (.bl (subX (clK k) q)) := fun {y q o8 o9} => Ev.isx rfl j1 j2
      refine or_n (Ev.count (Ev.var rfl) f1 f2) Ev.int (fun Q q => by rw [w_ne]; simpa using q) (Ev.ixv (Ev.var rfl) (Ev.var (d := .int k) rfl) (by rw [List.getElem?_map, f3]; rfl)) ?_
      have c2 : ∀ Q : QE, Q (.bl false) S2 → cNe.w (.fl [.bl (subX (clK k) 8), .bl (subX (clK k) 9)]) (.fl [.bl (decide ((k : Int) < 13)), .bl (!decide ((k : Int) < 13))]) S2 Q := by
        rw [f4, f5]; exact ne_bb
      refine if_c1 (Ev.lst (Evs.cons e7 (Evs.one e7)) (show 2 ≤ big by decide)) (Ev.lst (Evs.cons (Ev.var (d := .bl (decide ((k : Int) < 13))) rfl) (Evs.one (Ev.not (Ev.var (d := .bl (decide ((k : Int) < 13))) rfl)))) (show 2 ≤ big by decide)) c2 ?_
      refine if_c1 (Ev.lst (Evs.cons e7 (Evs.one e7)) (show 2 ≤ big by decide)) (Ev.lst (Evs.cons (Ev.var (d := .bl (decide ((k : Int) < 13))) rfl) (Evs.one (Ev.not (Ev.var (d := .bl (decide ((k : Int) < 13))) rfl)))) (show 2 ≤ big by decide)) c2 ?_
      exact hK2 _ _ S2 (Sub.refl _) ⟨rfl, _, _, _, rfl⟩
    · rintro ρ S2 ⟨rfl, o7, o8, o9, rfl⟩
      exact hK _ _ S2 (Sub.refl _) ⟨rfl, fun k hk' => hk k (List.mem_cons_of_mem _ hk'), _, _, _, _, _, rfl⟩
  · rintro ρ S' ⟨rfl, _, o5, o6, o7, o8, o9, rfl⟩
    exact ret_e Ev.bl (rt_same (q _ t))
theorem rng_b1 (n : Nat) : rngL 0 ((n : Int).toNat) = (List.range n).map fun i : Nat => D.int i := by
  unfold rngL; simp
theorem v_law : ∀ ds S Q E, S_law ds S Q E → bodyW N_law.length c_law ds S Q E := by
  rintro ds S Q E ⟨ns, rfl, hn, q⟩
  simp only [N_law]
  walk_at "w0"
  refine if_c1 (da := limD) (db := limD) (Ev.lst (Evs.cons Ev.glo (Evs.cons Ev.glo (Evs.cons Ev.glo (Evs.cons Ev.glo (Evs.cons Ev.glo (Evs.one Ev.glo)))))) (show 6 ≤ big by decide)) (Ev.lst (Evs.cons Ev.int (Evs.cons Ev.int (Evs.cons Ev.int (Evs.cons Ev.int (Evs.cons Ev.int (Evs.one ?_)))))) (show 6 ≤ big by decide)) ne_lim ?_
  · intro Q E q
    show oPow.w (.int 10) (.int 6) S Q
    rw [w_pow, show (6 : Int).toNat = 6 from rfl]
    exact ⟨cpow_b1 6 (by decide) (by decide), q⟩
  walk_at "wb"
  obtain ⟨k, ek, hk⟩ : ∃ k : Nat, max 2 (min ((ns.map D.int).length : Int) 4) = (k : Int) ∧ k ≤ 4 := ⟨(max 2 (min ((ns.map D.int).length : Int) 4)).toNat, by omega, by omega⟩
  rw [ek, rng_b1]
  refine ⟨⟨by omega, by omega⟩, by rw [List.length_map, List.length_range, big_eq]; omega, ?_⟩
  refine comp_st (fun l acc S' => S' = S ∧ (∀ x ∈ l, x ≤ 10) ∧ ∃ bs : List Bool, acc = bs.map .bl ∧ bs.all id = true) (fun _ _ _ _ => trivial) ?_ ?_ _ [] S ⟨rfl, fun x hx => by have := List.mem_range.mp hx; omega, [], rfl, rfl⟩
  · rintro x l acc S1 K ⟨rfl, hx, bs, rfl, hb⟩ hK
    walk_at "ws"
    refine ⟨ns, x, rfl, hx x List.mem_cons_self, hn, fun p c hp hc => ⟨p, rfl, ⟨c, put_same, hc⟩, fun S' t => ?_⟩⟩
    obtain ⟨c', rfl, _⟩ := t
    refine hK _ _ S1 (by rw [put_put]; exact Sub.put hp) ⟨rfl, fun y hy => hx y (List.mem_cons_of_mem _ hy), bs ++ [true], by rw [List.map_append]; rfl, by rw [List.all_append, hb]; rfl⟩
  · rintro acc S1 ⟨rfl, _, bs, rfl, hb⟩
    rw [w_all, hb]
    exact rt_same q
end L3
namespace L3
open PySem PySem.Spec PyProof.Rows L2
instance : TabsI := ⟨[]⟩
abbrev PW : Program := PySem.Challenge.pw_sheetrings_k01_constants_and_errors
def top (i : Nat) : Stmt := PySem.Challenge.pw_sheetrings_k01_constants_and_errors.main.body.getD i (.Pass ⟨0, 0, 0, 0⟩)
def sub (i j : Nat) : Stmt := (match top i with
  | .ClassDef (body := b) .. => b
  | _ => []).getD j (.Pass ⟨0, 0, 0, 0⟩)
def d_InvalidLog___init__ : DfP := ⟨(.met "InvalidLog" "__init__"), "__init__", "InvalidLog.__init__", defArgs (sub 14 0), defBody (sub 14 0), defScope (sub 14 0), []⟩
def d_Unfit___init__ : DfP := ⟨(.met "Unfit" "__init__"), "__init__", "Unfit.__init__", defArgs (sub 15 0), defBody (sub 15 0), defScope (sub 15 0), []⟩
def d_InvalidValues___init__ : DfP := ⟨(.met "InvalidValues" "__init__"), "__init__", "InvalidValues.__init__", defArgs (sub 13 0), defBody (sub 13 0), defScope (sub 13 0), []⟩
def d_NotAWay___init__ : DfP := ⟨(.met "NotAWay" "__init__"), "__init__", "NotAWay.__init__", defArgs (sub 11 0), defBody (sub 11 0), defScope (sub 11 0), []⟩
def d_NotABoard___init__ : DfP := ⟨(.met "NotABoard" "__init__"), "__init__", "NotABoard.__init__", defArgs (sub 12 0), defBody (sub 12 0), defScope (sub 12 0), []⟩
def d_UnknownCell___init__ : DfP := ⟨(.met "UnknownCell" "__init__"), "__init__", "UnknownCell.__init__", defArgs (sub 9 0), defBody (sub 9 0), defScope (sub 9 0), []⟩
def d_NotASheet___init__ : DfP := ⟨(.met "NotASheet" "__init__"), "__init__", "NotASheet.__init__", defArgs (sub 10 0), defBody (sub 10 0), defScope (sub 10 0), []⟩
def d_InvalidIndex___init__ : DfP := ⟨(.met "InvalidIndex" "__init__"), "__init__", "InvalidIndex.__init__", defArgs (sub 7 0), defBody (sub 7 0), defScope (sub 7 0), []⟩
def d_InvalidClaim___init__ : DfP := ⟨(.met "InvalidClaim" "__init__"), "__init__", "InvalidClaim.__init__", defArgs (sub 8 0), defBody (sub 8 0), defScope (sub 8 0), []⟩
def d_InvalidNumber___init__ : DfP := ⟨(.met "InvalidNumber" "__init__"), "__init__", "InvalidNumber.__init__", defArgs (sub 5 0), defBody (sub 5 0), defScope (sub 5 0), []⟩
def d_InvalidName___init__ : DfP := ⟨(.met "InvalidName" "__init__"), "__init__", "InvalidName.__init__", defArgs (sub 6 0), defBody (sub 6 0), defScope (sub 6 0), []⟩
def d_InvalidText___init__ : DfP := ⟨(.met "InvalidText" "__init__"), "__init__", "InvalidText.__init__", defArgs (sub 3 0), defBody (sub 3 0), defScope (sub 3 0), []⟩
def d_InvalidFraction___init__ : DfP := ⟨(.met "InvalidFraction" "__init__"), "__init__", "InvalidFraction.__init__", defArgs (sub 4 0), defBody (sub 4 0), defScope (sub 4 0), []⟩
def d_InUse___init__ : DfP := ⟨(.met "InUse" "__init__"), "__init__", "InUse.__init__", defArgs (sub 20 0), defBody (sub 20 0), defScope (sub 20 0), []⟩
def d_Broken___init__ : DfP := ⟨(.met "Broken" "__init__"), "__init__", "Broken.__init__", defArgs (sub 18 0), defBody (sub 18 0), defScope (sub 18 0), []⟩
def d_TooMany___init__ : DfP := ⟨(.met "TooMany" "__init__"), "__init__", "TooMany.__init__", defArgs (sub 16 0), defBody (sub 16 0), defScope (sub 16 0), []⟩
def d_Leaned___init__ : DfP := ⟨(.met "Leaned" "__init__"), "__init__", "Leaned.__init__", defArgs (sub 17 0), defBody (sub 17 0), defScope (sub 17 0), []⟩
def d_UnknownName___init__ : DfP := ⟨(.met "UnknownName" "__init__"), "__init__", "UnknownName.__init__", defArgs (sub 19 0), defBody (sub 19 0), defScope (sub 19 0), []⟩
def d__law_purse : DfP := ⟨(.glo "_law_purse"), "_law_purse", "_law_purse", defArgs (top 29), defBody (top 29), defScope (top 29), []⟩
def d__law_draw : DfP := ⟨(.glo "_law_draw"), "_law_draw", "_law_draw", defArgs (top 30), defBody (top 30), defScope (top 30), []⟩
def d__law_firsts : DfP := ⟨(.glo "_law_firsts"), "_law_firsts", "_law_firsts", defArgs (top 32), defBody (top 32), defScope (top 32), []⟩
def d__law_seconds : DfP := ⟨(.glo "_law_seconds"), "_law_seconds", "_law_seconds", defArgs (top 33), defBody (top 33), defScope (top 33), []⟩
def d__law_flags : DfP := ⟨(.glo "_law_flags"), "_law_flags", "_law_flags", defArgs (top 34), defBody (top 34), defScope (top 34), []⟩
def d__law_thing : DfP := ⟨(.glo "_law_thing"), "_law_thing", "_law_thing", defArgs (top 31), defBody (top 31), defScope (top 31), []⟩
def d__law_right : DfP := ⟨(.glo "_law_right"), "_law_right", "_law_right", defArgs (top 35), defBody (top 35), defScope (top 35), []⟩
def d_law : DfP := ⟨(.glo "law"), "law", "law", defArgs (top 36), defBody (top 36), defScope (top 36), []⟩
def fnL : List DfP := [d__law_purse, d__law_draw, d__law_firsts, d__law_seconds, d__law_flags, d__law_thing, d__law_right, d_law, d_InvalidLog___init__, d_Unfit___init__, d_InvalidValues___init__, d_NotAWay___init__, d_NotABoard___init__, d_UnknownCell___init__, d_NotASheet___init__, d_InvalidIndex___init__, d_InvalidClaim___init__, d_InvalidNumber___init__, d_InvalidName___init__, d_InvalidText___init__] ++ [d_InvalidFraction___init__, d_InUse___init__, d_Broken___init__, d_TooMany___init__, d_Leaned___init__, d_UnknownName___init__]
def csL : List Str := [("WrongValue" : Str), ("NoAnswer" : Str), ("InvalidText" : Str), ("InvalidFraction" : Str), ("InvalidNumber" : Str), ("InvalidName" : Str), ("InvalidIndex" : Str), ("InvalidClaim" : Str), ("UnknownCell" : Str), ("NotASheet" : Str), ("NotAWay" : Str), ("NotABoard" : Str), ("InvalidValues" : Str), ("InvalidLog" : Str), ("Unfit" : Str), ("TooMany" : Str), ("Leaned" : Str), ("Broken" : Str), ("UnknownName" : Str), ("InUse" : Str)] ++ [("NothingToUndo" : Str)]
def fxL : List Fx := [.fn "law" (.glo "law"), .free "int", .free "abs", .free "len", .free "divmod", .raz "InvalidLog" 21 13, .raz "Unfit" 22 12, .raz "InvalidValues" 20 13, .raz "NotAWay" 18 12, .raz "NotABoard" 19 12, .raz "UnknownCell" 16 12, .raz "NotASheet" 17 12, .raz "InvalidIndex" 14 12, .raz "InvalidClaim" 15 12, .raz "InvalidNumber" 12 12, .raz "InvalidName" 13 12, .raz "InvalidText" 10 12, .raz "InvalidFraction" 11 12, .rz0 "NothingToUndo" 28, .raz "InUse" 27 13] ++ [.rz2 "Broken" 25 13 16, .raz "TooMany" 23 14, .raz "Leaned" 24 15, .raz "UnknownName" 26 12, .isx "NothingToUndo" 28 xjs, .isx "UnknownName" 26 xjs, .isx "InUse" 27 xjs, .isx "Broken" 25 xjs, .isx "InvalidLog" 21 xjs, .isx "TooMany" 23 xjs, .isx "Leaned" 24 xjs, .isx "NotABoard" 19 xjs, .isx "Unfit" 22 xjs, .isx "InvalidValues" 20 xjs, .isx "UnknownCell" 16 xjs, .isx "NotASheet" 17 xjs, .isx "NotAWay" 18 xjs, .isx "InvalidName" 13 xjs, .isx "InvalidIndex" 14 xjs, .isx "InvalidClaim" 15 xjs] ++ [.isx "InvalidText" 10 xjs, .isx "InvalidFraction" 11 xjs, .isx "InvalidNumber" 12 xjs, .fn "_law_draw" (.glo "_law_draw"), .isb "ValueError" 8 xjs, .isb "ArithmeticError" 9 xjs, .isx "WrongValue" 8 xjs, .isx "NoAnswer" 9 xjs, .fn "_law_flags" (.glo "_law_flags"), .free "enumerate", .free "repr", .atx 16 [25], .atx 14 [23], .atx 15 [24], .atx 13 ijs, .atx 12 gjs, .fn "_law_firsts" (.glo "_law_firsts"), .fn "_law_seconds" (.glo "_law_seconds"), .fn "_law_thing" (.glo "_law_thing"), .free "all"] ++ [.fn "_law_right" (.glo "_law_right"), .fn "_law_purse" (.glo "_law_purse"), .free "range", .free "max", .free "min", .con "MOST_CELLS" (.int 5), .con "MOST_DIGITS" (.int 20), .con "MOST_ROUNDS" (.int 100), .con "MOST_POWERS" (.int 200), .con "MOST_ORDERED" (.int 4), .con "MOST_PARTS" (.int 1000000)]
abbrev RR : PySem.W.OpenRow := PySem.W.OpenLaw.row PySem.Challenge.rw_sheetrings_k01_constants_and_errors
def asL : List Addr := [3, 23, 24, 36, 37, 53, 54, 56, 57, 72, 73, 75, 76, 91, 92, 94, 95, 110, 111, 113, 114, 129, 130, 132, 133, 148, 149, 151, 152, 167, 168, 170, 171, 186, 187, 189, 190, 205, 206, 208, 209, 224, 225, 227, 228, 243, 244, 246, 247, 262, 263, 265, 266, 281, 282, 284, 285, 300, 301, 303, 304, 319, 320, 322, 323, 338, 339, 341, 342, 357, 358, 360, 361, 376, 377, 379, 380, 391, 392, 400, 401, 407, 408, 414, 415, 421, 422, 428, 429, 435, 436, 440, 441, 445, 446]
abbrev hkL : PySem.W.Hook := hookA asL csL fxL fnL
def obL (s : PySem.W.SharedT) : AlP := obsPA asL csL fxL fnL (HandSHeadRun.getT s)
theorem obL_eq (s : PySem.W.SharedT) : obL s = hkL.obs s.abs := obsPA_eq (HandSHeadRun.getT_eq s)
def looseL : List PySem.Str := [("__name__" : PySem.Str), ("WrongValue" : PySem.Str), ("NoAnswer" : PySem.Str), ("InvalidText" : PySem.Str), ("InvalidFraction" : PySem.Str), ("InvalidNumber" : PySem.Str), ("InvalidName" : PySem.Str), ("InvalidIndex" : PySem.Str), ("InvalidClaim" : PySem.Str), ("UnknownCell" : PySem.Str), ("NotASheet" : PySem.Str), ("NotAWay" : PySem.Str), ("NotABoard" : PySem.Str), ("InvalidValues" : PySem.Str), ("InvalidLog" : PySem.Str), ("Unfit" : PySem.Str), ("TooMany" : PySem.Str), ("Leaned" : PySem.Str), ("Broken" : PySem.Str), ("UnknownName" : PySem.Str)] ++ [("InUse" : PySem.Str), ("NothingToUndo" : PySem.Str), ("MOST_CELLS" : PySem.Str), ("MOST_DIGITS" : PySem.Str), ("MOST_ROUNDS" : PySem.Str), ("MOST_POWERS" : PySem.Str), ("MOST_ORDERED" : PySem.Str), ("MOST_PARTS" : PySem.Str), ("_law_purse" : PySem.Str), ("_law_draw" : PySem.Str), ("_law_thing" : PySem.Str), ("_law_firsts" : PySem.Str), ("_law_seconds" : PySem.Str), ("_law_flags" : PySem.Str), ("_law_right" : PySem.Str)]
section
open PySem.W PySem.Calls HandSHeadRun
noncomputable def endL (w : World) (os : OsState) : Option SharedT := endF (stepQ (denQ tabQ) RR.prog w) 12000 RR.prog w os
theorem runA (w : World) (os : OsState) : (endL w os).map (fun s => (looksF RR.prog (boot_heap w.params) s.abs, seenQ (view RR.prog [36]) looseL (importedModules RR.prog.main.body) (fun s => xlAt (view RR.prog [36]) [] s && recOk RR.toRowW.records s) s.abs)) = some (true, openGood (view RR.prog [36]) looseL) := by
  kernel_rfl
theorem runB (w : World) (os : OsState) : (endL w os).map obL = some (hkL.val w) := by
  kernel_rfl
theorem runL (w : World) : RunEq RR (view RR.prog [36]) hkL obL 12000 looseL w := fun os => run2 (runA w os) (runB w os)
end
def M__law_purse : List Str := ["_law_script", "_law_spot", "_law_corner_", "_law_seed", "_law_one"]
theorem m__law_purse : mB nm M__law_purse (defScope (top 29)) (defBody (top 29)) c__law_purse = true := by decide +kernel
theorem s__law_purse : FnScope M__law_purse ["_law_script", "_law_spot"] (defScope (top 29)) := ⟨rfl, rfl, rfl, by decide +kernel, rfl, by decide +kernel, by decide +kernel⟩
def M__law_draw : List Str := ["_law_purse_here", "_law_many", "_law_digit"]
theorem m__law_draw : mB nm M__law_draw (defScope (top 30)) (defBody (top 30)) c__law_draw = true := by decide +kernel
theorem s__law_draw : FnScope M__law_draw ["_law_purse_here", "_law_many"] (defScope (top 30)) := ⟨rfl, rfl, rfl, by decide +kernel, rfl, by decide +kernel, by decide +kernel⟩
def M__law_firsts : List Str := ["_law_x", "_law_found"]
theorem m__law_firsts : mB nm M__law_firsts (defScope (top 32)) (defBody (top 32)) c__law_firsts = true := by decide +kernel
theorem s__law_firsts : FnScope M__law_firsts ["_law_x"] (defScope (top 32)) := ⟨rfl, rfl, rfl, by decide +kernel, rfl, by decide +kernel, by decide +kernel⟩
def M__law_seconds : List Str := ["_law_x", "_law_found"]
theorem m__law_seconds : mB nm M__law_seconds (defScope (top 33)) (defBody (top 33)) c__law_seconds = true := by decide +kernel
theorem s__law_seconds : FnScope M__law_seconds ["_law_x"] (defScope (top 33)) := ⟨rfl, rfl, rfl, by decide +kernel, rfl, by decide +kernel, by decide +kernel⟩
def M__law_flags : List Str := ["_law_e", "_law_found"]
theorem m__law_flags : mB nm M__law_flags (defScope (top 34)) (defBody (top 34)) c__law_flags = true := by decide +kernel
theorem s__law_flags : FnScope M__law_flags ["_law_e"] (defScope (top 34)) := ⟨rfl, rfl, rfl, by decide +kernel, rfl, by decide +kernel, by decide +kernel⟩
def M__law_thing : List Str := ["_law_purse_here", "_law_some"]
theorem m__law_thing : mB nm M__law_thing (defScope (top 31)) (defBody (top 31)) c__law_thing = true := by decide +kernel
theorem s__law_thing : FnScope M__law_thing ["_law_purse_here"] (defScope (top 31)) := ⟨rfl, rfl, rfl, by decide +kernel, rfl, by decide +kernel, by decide +kernel⟩
def M__law_right : List Str := ["_law_purse_here", "_law_x", "_law_pairs", "_law_others", "_law_kept", "_law_k", "_law_pair", "_law_e", "_law_flags_here", "_law_is_first"]
theorem m__law_right : mB nm M__law_right (defScope (top 35)) (defBody (top 35)) c__law_right = true := by decide +kernel
theorem s__law_right : FnScope M__law_right ["_law_purse_here"] (defScope (top 35)) := ⟨rfl, rfl, rfl, by decide +kernel, rfl, by decide +kernel, by decide +kernel⟩
def M_law : List Str := ["_law_script", "_law_spot"]
theorem m_law : mB nm M_law (defScope (top 36)) (defBody (top 36)) c_law = true := by decide +kernel
theorem s_law : FnScope M_law ["_law_script"] (defScope (top 36)) := ⟨rfl, rfl, rfl, by decide +kernel, rfl, by decide +kernel, by decide +kernel⟩
theorem kn__law_purse {P : Program} {w : World} {K : Frg} {mg : Str → Option Value} {base : Heap} (e : En csL fxL fnL P w K mg base) : knB (cxt csL K mg) 1 ⟨P, w, K, mg, base⟩ c__law_purse := by
  have h0 : mg "int" = none := e.free 1 rfl
  have h1 : mg "abs" = none := e.free 2 rfl
  have h2 : mg "len" = none := e.free 3 rfl
  simp only [c__law_purse, c__law_purse_b1, c__law_purse_l1, c__law_purse_b2, c__law_purse_b3, c__law_purse_b4, knB, knS, knA, knAs, knE, knL, knO, knI, nb_bAbs, nb_bInt, nb_bLen, h0, h1, h2, and_self, and_true, true_and, eq_self, implies_true]
theorem len__law_purse : ∀ ds S Q E, S__law_purse ds S Q E → ds.length = 2 := by
  intro ds S Q E h
  unfold S__law_purse at h
  repeat (first | exact congrArg List.length h.1 | obtain ⟨_, h⟩ := h)
theorem p__law_purse {P : Program} {w : World} {K : Frg} {mg : Str → Option Value} {base : Heap} (e : En csL fxL fnL P w K mg base) : PrA csL P w K mg base 2 (((.glo "_law_purse") : Wh).ad K) 2 S__law_purse :=
  e.pr (d := d__law_purse) 0 rfl rfl s__law_purse m__law_purse (kn__law_purse e) len__law_purse v__law_purse fun kV doc pm an cdv ct us hl => match us, hl with | [_, _], _ => rfl
theorem kn__law_draw {P : Program} {w : World} {K : Frg} {mg : Str → Option Value} {base : Heap} (e : En csL fxL fnL P w K mg base) : knB (cxt csL K mg) 1 ⟨P, w, K, mg, base⟩ c__law_draw := by
  have h0 : mg "divmod" = none := e.free 4 rfl
  have h1 : mg "int" = none := e.free 1 rfl
  simp only [c__law_draw, c__law_draw_b1, c__law_draw_b2, c__law_draw_b3, c__law_draw_b4, knB, knS, knA, knAs, knE, knL, knO, knI, nb_bDivmod, nb_bInt, h0, h1, and_self, and_true, true_and, eq_self, implies_true]
theorem len__law_draw : ∀ ds S Q E, S__law_draw ds S Q E → ds.length = 2 := by
  intro ds S Q E h
  unfold S__law_draw at h
  repeat (first | exact congrArg List.length h.1 | obtain ⟨_, h⟩ := h)
theorem p__law_draw {P : Program} {w : World} {K : Frg} {mg : Str → Option Value} {base : Heap} (e : En csL fxL fnL P w K mg base) : PrA csL P w K mg base 2 (((.glo "_law_draw") : Wh).ad K) 2 S__law_draw :=
  e.pr (d := d__law_draw) 1 rfl rfl s__law_draw m__law_draw (kn__law_draw e) len__law_draw v__law_draw fun kV doc pm an cdv ct us hl => match us, hl with | [_, _], _ => rfl
theorem kn__law_firsts {P : Program} {w : World} {K : Frg} {mg : Str → Option Value} {base : Heap} (e : En csL fxL fnL P w K mg base) : knB (cxt csL K mg) 1 ⟨P, w, K, mg, base⟩ c__law_firsts := by
  have h0 : KMx (cxt csL K mg) ⟨P, w, K, mg, base⟩ "InvalidLog" 21 [13] := (e.raz 5 (d := d_InvalidLog___init__) (p1 := _) (p2 := _) (q1 := _) (q2 := _) (q3 := _) (q4 := _) rfl 8 rfl rfl rfl rfl rfl rfl rfl (by decide) (by decide) (fun kV doc pm an cdv ct us hl => match us, hl with | [_, _], _ => rfl)).mx (by show nm 13 ∈ atN; decide)
  have h1 : KMxK (cxt csL K mg) ⟨P, w, K, mg, base⟩ "InvalidLog" 21 [13] [0] ["index"] := ⟨(e.raz 5 (d := d_InvalidLog___init__) (p1 := _) (p2 := _) (q1 := _) (q2 := _) (q3 := _) (q4 := _) rfl 8 rfl rfl rfl rfl rfl rfl rfl (by decide) (by decide) (fun kV doc pm an cdv ct us hl => match us, hl with | [_, _], _ => rfl)).mx (by show nm 13 ∈ atN; decide), .inl ⟨_, rfl, rfl, rfl⟩⟩
  have h2 : KMx (cxt csL K mg) ⟨P, w, K, mg, base⟩ "Unfit" 22 [12] := (e.raz 6 (d := d_Unfit___init__) (p1 := _) (p2 := _) (q1 := _) (q2 := _) (q3 := _) (q4 := _) rfl 9 rfl rfl rfl rfl rfl rfl rfl (by decide) (by decide) (fun kV doc pm an cdv ct us hl => match us, hl with | [_, _], _ => rfl)).mx (by show nm 12 ∈ atN; decide)
  have h3 : KMxK (cxt csL K mg) ⟨P, w, K, mg, base⟩ "Unfit" 22 [12] [0] ["given"] := ⟨(e.raz 6 (d := d_Unfit___init__) (p1 := _) (p2 := _) (q1 := _) (q2 := _) (q3 := _) (q4 := _) rfl 9 rfl rfl rfl rfl rfl rfl rfl (by decide) (by decide) (fun kV doc pm an cdv ct us hl => match us, hl with | [_, _], _ => rfl)).mx (by show nm 12 ∈ atN; decide), .inl ⟨_, rfl, rfl, rfl⟩⟩
  have h4 : KMx (cxt csL K mg) ⟨P, w, K, mg, base⟩ "InvalidValues" 20 [13] := (e.raz 7 (d := d_InvalidValues___init__) (p1 := _) (p2 := _) (q1 := _) (q2 := _) (q3 := _) (q4 := _) rfl 10 rfl rfl rfl rfl rfl rfl rfl (by decide) (by decide) (fun kV doc pm an cdv ct us hl => match us, hl with | [_, _], _ => rfl)).mx (by show nm 13 ∈ atN; decide)
  have h5 : KMxK (cxt csL K mg) ⟨P, w, K, mg, base⟩ "InvalidValues" 20 [13] [0] ["index"] := ⟨(e.raz 7 (d := d_InvalidValues___init__) (p1 := _) (p2 := _) (q1 := _) (q2 := _) (q3 := _) (q4 := _) rfl 10 rfl rfl rfl rfl rfl rfl rfl (by decide) (by decide) (fun kV doc pm an cdv ct us hl => match us, hl with | [_, _], _ => rfl)).mx (by show nm 13 ∈ atN; decide), .inl ⟨_, rfl, rfl, rfl⟩⟩
  have h6 : KMx (cxt csL K mg) ⟨P, w, K, mg, base⟩ "NotAWay" 18 [12] := (e.raz 8 (d := d_NotAWay___init__) (p1 := _) (p2 := _) (q1 := _) (q2 := _) (q3 := _) (q4 := _) rfl 11 rfl rfl rfl rfl rfl rfl rfl (by decide) (by decide) (fun kV doc pm an cdv ct us hl => match us, hl with | [_, _], _ => rfl)).mx (by show nm 12 ∈ atN; decide)
  have h7 : KMxK (cxt csL K mg) ⟨P, w, K, mg, base⟩ "NotAWay" 18 [12] [0] ["given"] := ⟨(e.raz 8 (d := d_NotAWay___init__) (p1 := _) (p2 := _) (q1 := _) (q2 := _) (q3 := _) (q4 := _) rfl 11 rfl rfl rfl rfl rfl rfl rfl (by decide) (by decide) (fun kV doc pm an cdv ct us hl => match us, hl with | [_, _], _ => rfl)).mx (by show nm 12 ∈ atN; decide), .inl ⟨_, rfl, rfl, rfl⟩⟩
  have h8 : KMx (cxt csL K mg) ⟨P, w, K, mg, base⟩ "NotABoard" 19 [12] := (e.raz 9 (d := d_NotABoard___init__) (p1 := _) (p2 := _) (q1 := _) (q2 := _) (q3 := _) (q4 := _) rfl 12 rfl rfl rfl rfl rfl rfl rfl (by decide) (by decide) (fun kV doc pm an cdv ct us hl => match us, hl with | [_, _], _ => rfl)).mx (by show nm 12 ∈ atN; decide)
  have h9 : KMxK (cxt csL K mg) ⟨P, w, K, mg, base⟩ "NotABoard" 19 [12] [0] ["given"] := ⟨(e.raz 9 (d := d_NotABoard___init__) (p1 := _) (p2 := _) (q1 := _) (q2 := _) (q3 := _) (q4 := _) rfl 12 rfl rfl rfl rfl rfl rfl rfl (by decide) (by decide) (fun kV doc pm an cdv ct us hl => match us, hl with | [_, _], _ => rfl)).mx (by show nm 12 ∈ atN; decide), .inl ⟨_, rfl, rfl, rfl⟩⟩
  have h10 : KMx (cxt csL K mg) ⟨P, w, K, mg, base⟩ "UnknownCell" 16 [12] := (e.raz 10 (d := d_UnknownCell___init__) (p1 := _) (p2 := _) (q1 := _) (q2 := _) (q3 := _) (q4 := _) rfl 13 rfl rfl rfl rfl rfl rfl rfl (by decide) (by decide) (fun kV doc pm an cdv ct us hl => match us, hl with | [_, _], _ => rfl)).mx (by show nm 12 ∈ atN; decide)
  have h11 : KMxK (cxt csL K mg) ⟨P, w, K, mg, base⟩ "UnknownCell" 16 [12] [0] ["given"] := ⟨(e.raz 10 (d := d_UnknownCell___init__) (p1 := _) (p2 := _) (q1 := _) (q2 := _) (q3 := _) (q4 := _) rfl 13 rfl rfl rfl rfl rfl rfl rfl (by decide) (by decide) (fun kV doc pm an cdv ct us hl => match us, hl with | [_, _], _ => rfl)).mx (by show nm 12 ∈ atN; decide), .inl ⟨_, rfl, rfl, rfl⟩⟩
  have h12 : KMx (cxt csL K mg) ⟨P, w, K, mg, base⟩ "NotASheet" 17 [12] := (e.raz 11 (d := d_NotASheet___init__) (p1 := _) (p2 := _) (q1 := _) (q2 := _) (q3 := _) (q4 := _) rfl 14 rfl rfl rfl rfl rfl rfl rfl (by decide) (by decide) (fun kV doc pm an cdv ct us hl => match us, hl with | [_, _], _ => rfl)).mx (by show nm 12 ∈ atN; decide)
  have h13 : KMxK (cxt csL K mg) ⟨P, w, K, mg, base⟩ "NotASheet" 17 [12] [0] ["given"] := ⟨(e.raz 11 (d := d_NotASheet___init__) (p1 := _) (p2 := _) (q1 := _) (q2 := _) (q3 := _) (q4 := _) rfl 14 rfl rfl rfl rfl rfl rfl rfl (by decide) (by decide) (fun kV doc pm an cdv ct us hl => match us, hl with | [_, _], _ => rfl)).mx (by show nm 12 ∈ atN; decide), .inl ⟨_, rfl, rfl, rfl⟩⟩
  have h14 : KMx (cxt csL K mg) ⟨P, w, K, mg, base⟩ "InvalidIndex" 14 [12] := (e.raz 12 (d := d_InvalidIndex___init__) (p1 := _) (p2 := _) (q1 := _) (q2 := _) (q3 := _) (q4 := _) rfl 15 rfl rfl rfl rfl rfl rfl rfl (by decide) (by decide) (fun kV doc pm an cdv ct us hl => match us, hl with | [_, _], _ => rfl)).mx (by show nm 12 ∈ atN; decide)
  have h15 : KMxK (cxt csL K mg) ⟨P, w, K, mg, base⟩ "InvalidIndex" 14 [12] [0] ["given"] := ⟨(e.raz 12 (d := d_InvalidIndex___init__) (p1 := _) (p2 := _) (q1 := _) (q2 := _) (q3 := _) (q4 := _) rfl 15 rfl rfl rfl rfl rfl rfl rfl (by decide) (by decide) (fun kV doc pm an cdv ct us hl => match us, hl with | [_, _], _ => rfl)).mx (by show nm 12 ∈ atN; decide), .inl ⟨_, rfl, rfl, rfl⟩⟩
  have h16 : KMx (cxt csL K mg) ⟨P, w, K, mg, base⟩ "InvalidClaim" 15 [12] := (e.raz 13 (d := d_InvalidClaim___init__) (p1 := _) (p2 := _) (q1 := _) (q2 := _) (q3 := _) (q4 := _) rfl 16 rfl rfl rfl rfl rfl rfl rfl (by decide) (by decide) (fun kV doc pm an cdv ct us hl => match us, hl with | [_, _], _ => rfl)).mx (by show nm 12 ∈ atN; decide)
  have h17 : KMxK (cxt csL K mg) ⟨P, w, K, mg, base⟩ "InvalidClaim" 15 [12] [0] ["given"] := ⟨(e.raz 13 (d := d_InvalidClaim___init__) (p1 := _) (p2 := _) (q1 := _) (q2 := _) (q3 := _) (q4 := _) rfl 16 rfl rfl rfl rfl rfl rfl rfl (by decide) (by decide) (fun kV doc pm an cdv ct us hl => match us, hl with | [_, _], _ => rfl)).mx (by show nm 12 ∈ atN; decide), .inl ⟨_, rfl, rfl, rfl⟩⟩
  have h18 : KMx (cxt csL K mg) ⟨P, w, K, mg, base⟩ "InvalidNumber" 12 [12] := (e.raz 14 (d := d_InvalidNumber___init__) (p1 := _) (p2 := _) (q1 := _) (q2 := _) (q3 := _) (q4 := _) rfl 17 rfl rfl rfl rfl rfl rfl rfl (by decide) (by decide) (fun kV doc pm an cdv ct us hl => match us, hl with | [_, _], _ => rfl)).mx (by show nm 12 ∈ atN; decide)
  have h19 : KMxK (cxt csL K mg) ⟨P, w, K, mg, base⟩ "InvalidNumber" 12 [12] [0] ["given"] := ⟨(e.raz 14 (d := d_InvalidNumber___init__) (p1 := _) (p2 := _) (q1 := _) (q2 := _) (q3 := _) (q4 := _) rfl 17 rfl rfl rfl rfl rfl rfl rfl (by decide) (by decide) (fun kV doc pm an cdv ct us hl => match us, hl with | [_, _], _ => rfl)).mx (by show nm 12 ∈ atN; decide), .inl ⟨_, rfl, rfl, rfl⟩⟩
  have h20 : KMx (cxt csL K mg) ⟨P, w, K, mg, base⟩ "InvalidName" 13 [12] := (e.raz 15 (d := d_InvalidName___init__) (p1 := _) (p2 := _) (q1 := _) (q2 := _) (q3 := _) (q4 := _) rfl 18 rfl rfl rfl rfl rfl rfl rfl (by decide) (by decide) (fun kV doc pm an cdv ct us hl => match us, hl with | [_, _], _ => rfl)).mx (by show nm 12 ∈ atN; decide)
  have h21 : KMxK (cxt csL K mg) ⟨P, w, K, mg, base⟩ "InvalidName" 13 [12] [0] ["given"] := ⟨(e.raz 15 (d := d_InvalidName___init__) (p1 := _) (p2 := _) (q1 := _) (q2 := _) (q3 := _) (q4 := _) rfl 18 rfl rfl rfl rfl rfl rfl rfl (by decide) (by decide) (fun kV doc pm an cdv ct us hl => match us, hl with | [_, _], _ => rfl)).mx (by show nm 12 ∈ atN; decide), .inl ⟨_, rfl, rfl, rfl⟩⟩
  have h22 : KMx (cxt csL K mg) ⟨P, w, K, mg, base⟩ "InvalidText" 10 [12] := (e.raz 16 (d := d_InvalidText___init__) (p1 := _) (p2 := _) (q1 := _) (q2 := _) (q3 := _) (q4 := _) rfl 19 rfl rfl rfl rfl rfl rfl rfl (by decide) (by decide) (fun kV doc pm an cdv ct us hl => match us, hl with | [_, _], _ => rfl)).mx (by show nm 12 ∈ atN; decide)
  have h23 : KMxK (cxt csL K mg) ⟨P, w, K, mg, base⟩ "InvalidText" 10 [12] [0] ["given"] := ⟨(e.raz 16 (d := d_InvalidText___init__) (p1 := _) (p2 := _) (q1 := _) (q2 := _) (q3 := _) (q4 := _) rfl 19 rfl rfl rfl rfl rfl rfl rfl (by decide) (by decide) (fun kV doc pm an cdv ct us hl => match us, hl with | [_, _], _ => rfl)).mx (by show nm 12 ∈ atN; decide), .inl ⟨_, rfl, rfl, rfl⟩⟩
  have h24 : KMx (cxt csL K mg) ⟨P, w, K, mg, base⟩ "InvalidFraction" 11 [12] := (e.raz 17 (d := d_InvalidFraction___init__) (p1 := _) (p2 := _) (q1 := _) (q2 := _) (q3 := _) (q4 := _) rfl 20 rfl rfl rfl rfl rfl rfl rfl (by decide) (by decide) (fun kV doc pm an cdv ct us hl => match us, hl with | [_, _], _ => rfl)).mx (by show nm 12 ∈ atN; decide)
  have h25 : KMxK (cxt csL K mg) ⟨P, w, K, mg, base⟩ "InvalidFraction" 11 [12] [0] ["given"] := ⟨(e.raz 17 (d := d_InvalidFraction___init__) (p1 := _) (p2 := _) (q1 := _) (q2 := _) (q3 := _) (q4 := _) rfl 20 rfl rfl rfl rfl rfl rfl rfl (by decide) (by decide) (fun kV doc pm an cdv ct us hl => match us, hl with | [_, _], _ => rfl)).mx (by show nm 12 ∈ atN; decide), .inl ⟨_, rfl, rfl, rfl⟩⟩
  simp only [c__law_firsts, c__law_firsts_b1, c__law_firsts_b2, c__law_firsts_b3, c__law_firsts_b4, c__law_firsts_b5, c__law_firsts_b6, knB, knS, knA, knAs, knE, knL, knO, knI, h0, h1, h2, h3, h4, h5, h6, h7, h8, h9, h10, h11, h12, h13, h14, h15, h16, h17, h18, h19, h20, h21, h22, h23, h24, h25, and_self, and_true, true_and, eq_self, implies_true]
theorem len__law_firsts : ∀ ds S Q E, S__law_firsts ds S Q E → ds.length = 1 := by
  intro ds S Q E h
  unfold S__law_firsts at h
  repeat (first | exact congrArg List.length h.1 | obtain ⟨_, h⟩ := h)
theorem p__law_firsts {P : Program} {w : World} {K : Frg} {mg : Str → Option Value} {base : Heap} (e : En csL fxL fnL P w K mg base) : PrA csL P w K mg base 2 (((.glo "_law_firsts") : Wh).ad K) 1 S__law_firsts :=
  e.pr (d := d__law_firsts) 2 rfl rfl s__law_firsts m__law_firsts (kn__law_firsts e) len__law_firsts v__law_firsts fun kV doc pm an cdv ct us hl => match us, hl with | [_], _ => rfl
theorem kn__law_seconds {P : Program} {w : World} {K : Frg} {mg : Str → Option Value} {base : Heap} (e : En csL fxL fnL P w K mg base) : knB (cxt csL K mg) 1 ⟨P, w, K, mg, base⟩ c__law_seconds := by
  have h0 : KMx (cxt csL K mg) ⟨P, w, K, mg, base⟩ "NothingToUndo" 28 [] := e.rz0 18 rfl
  have h1 : KMx (cxt csL K mg) ⟨P, w, K, mg, base⟩ "InUse" 27 [13] := (e.raz 19 (d := d_InUse___init__) (p1 := _) (p2 := _) (q1 := _) (q2 := _) (q3 := _) (q4 := _) rfl 21 rfl rfl rfl rfl rfl rfl rfl (by decide) (by decide) (fun kV doc pm an cdv ct us hl => match us, hl with | [_, _], _ => rfl)).mx (by show nm 13 ∈ atN; decide)
  have h2 : KMxK (cxt csL K mg) ⟨P, w, K, mg, base⟩ "InUse" 27 [13] [0] ["index"] := ⟨(e.raz 19 (d := d_InUse___init__) (p1 := _) (p2 := _) (q1 := _) (q2 := _) (q3 := _) (q4 := _) rfl 21 rfl rfl rfl rfl rfl rfl rfl (by decide) (by decide) (fun kV doc pm an cdv ct us hl => match us, hl with | [_, _], _ => rfl)).mx (by show nm 13 ∈ atN; decide), .inl ⟨_, rfl, rfl, rfl⟩⟩
  have h3 : KMx (cxt csL K mg) ⟨P, w, K, mg, base⟩ "Broken" 25 [13, 16] := e.rz2 20 (d := d_Broken___init__) rfl rfl rfl 22 rfl rfl rfl rfl rfl rfl rfl
  have h4 : KMxK (cxt csL K mg) ⟨P, w, K, mg, base⟩ "Broken" 25 [13, 16] [1, 0] ["told", "index"] := ⟨e.rz2 20 (d := d_Broken___init__) rfl rfl rfl 22 rfl rfl rfl rfl rfl rfl rfl, .inr ⟨_, _, rfl, rfl, rfl⟩⟩
  have h5 : KMx (cxt csL K mg) ⟨P, w, K, mg, base⟩ "TooMany" 23 [14] := (e.raz 21 (d := d_TooMany___init__) (p1 := _) (p2 := _) (q1 := _) (q2 := _) (q3 := _) (q4 := _) rfl 23 rfl rfl rfl rfl rfl rfl rfl (by decide) (by decide) (fun kV doc pm an cdv ct us hl => match us, hl with | [_, _], _ => rfl)).mx (by show nm 14 ∈ atN; decide)
  have h6 : KMxK (cxt csL K mg) ⟨P, w, K, mg, base⟩ "TooMany" 23 [14] [0] ["number"] := ⟨(e.raz 21 (d := d_TooMany___init__) (p1 := _) (p2 := _) (q1 := _) (q2 := _) (q3 := _) (q4 := _) rfl 23 rfl rfl rfl rfl rfl rfl rfl (by decide) (by decide) (fun kV doc pm an cdv ct us hl => match us, hl with | [_, _], _ => rfl)).mx (by show nm 14 ∈ atN; decide), .inl ⟨_, rfl, rfl, rfl⟩⟩
  have h7 : KMx (cxt csL K mg) ⟨P, w, K, mg, base⟩ "Leaned" 24 [15] := (e.raz 22 (d := d_Leaned___init__) (p1 := _) (p2 := _) (q1 := _) (q2 := _) (q3 := _) (q4 := _) rfl 24 rfl rfl rfl rfl rfl rfl rfl (by decide) (by decide) (fun kV doc pm an cdv ct us hl => match us, hl with | [_, _], _ => rfl)).mx (by show nm 15 ∈ atN; decide)
  have h8 : KMxK (cxt csL K mg) ⟨P, w, K, mg, base⟩ "Leaned" 24 [15] [0] ["cell"] := ⟨(e.raz 22 (d := d_Leaned___init__) (p1 := _) (p2 := _) (q1 := _) (q2 := _) (q3 := _) (q4 := _) rfl 24 rfl rfl rfl rfl rfl rfl rfl (by decide) (by decide) (fun kV doc pm an cdv ct us hl => match us, hl with | [_, _], _ => rfl)).mx (by show nm 15 ∈ atN; decide), .inl ⟨_, rfl, rfl, rfl⟩⟩
  have h9 : KMx (cxt csL K mg) ⟨P, w, K, mg, base⟩ "UnknownName" 26 [12] := (e.raz 23 (d := d_UnknownName___init__) (p1 := _) (p2 := _) (q1 := _) (q2 := _) (q3 := _) (q4 := _) rfl 25 rfl rfl rfl rfl rfl rfl rfl (by decide) (by decide) (fun kV doc pm an cdv ct us hl => match us, hl with | [_, _], _ => rfl)).mx (by show nm 12 ∈ atN; decide)
  have h10 : KMxK (cxt csL K mg) ⟨P, w, K, mg, base⟩ "UnknownName" 26 [12] [0] ["given"] := ⟨(e.raz 23 (d := d_UnknownName___init__) (p1 := _) (p2 := _) (q1 := _) (q2 := _) (q3 := _) (q4 := _) rfl 25 rfl rfl rfl rfl rfl rfl rfl (by decide) (by decide) (fun kV doc pm an cdv ct us hl => match us, hl with | [_, _], _ => rfl)).mx (by show nm 12 ∈ atN; decide), .inl ⟨_, rfl, rfl, rfl⟩⟩
  simp only [c__law_seconds, c__law_seconds_b1, c__law_seconds_b2, knB, knS, knA, knAs, knE, knL, knO, knI, h0, h1, h2, h3, h4, h5, h6, h7, h8, h9, h10, and_self, and_true, true_and, eq_self, implies_true]
theorem len__law_seconds : ∀ ds S Q E, S__law_seconds ds S Q E → ds.length = 1 := by
  intro ds S Q E h
  unfold S__law_seconds at h
  repeat (first | exact congrArg List.length h.1 | obtain ⟨_, h⟩ := h)
theorem p__law_seconds {P : Program} {w : World} {K : Frg} {mg : Str → Option Value} {base : Heap} (e : En csL fxL fnL P w K mg base) : PrA csL P w K mg base 2 (((.glo "_law_seconds") : Wh).ad K) 1 S__law_seconds :=
  e.pr (d := d__law_seconds) 3 rfl rfl s__law_seconds m__law_seconds (kn__law_seconds e) len__law_seconds v__law_seconds fun kV doc pm an cdv ct us hl => match us, hl with | [_], _ => rfl
theorem kn__law_flags {P : Program} {w : World} {K : Frg} {mg : Str → Option Value} {base : Heap} (e : En csL fxL fnL P w K mg base) : knB (cxt csL K mg) 1 ⟨P, w, K, mg, base⟩ c__law_flags := by
  have h0 : KIsx (cxt csL K mg) ⟨P, w, K, mg, base⟩ "NothingToUndo" 28 xjs := e.isx 24 rfl
  have h1 : KIsx (cxt csL K mg) ⟨P, w, K, mg, base⟩ "UnknownName" 26 xjs := e.isx 25 rfl
  have h2 : KIsx (cxt csL K mg) ⟨P, w, K, mg, base⟩ "InUse" 27 xjs := e.isx 26 rfl
  have h3 : KIsx (cxt csL K mg) ⟨P, w, K, mg, base⟩ "Broken" 25 xjs := e.isx 27 rfl
  have h4 : KIsx (cxt csL K mg) ⟨P, w, K, mg, base⟩ "InvalidLog" 21 xjs := e.isx 28 rfl
  have h5 : KIsx (cxt csL K mg) ⟨P, w, K, mg, base⟩ "TooMany" 23 xjs := e.isx 29 rfl
  have h6 : KIsx (cxt csL K mg) ⟨P, w, K, mg, base⟩ "Leaned" 24 xjs := e.isx 30 rfl
  have h7 : KIsx (cxt csL K mg) ⟨P, w, K, mg, base⟩ "NotABoard" 19 xjs := e.isx 31 rfl
  have h8 : KIsx (cxt csL K mg) ⟨P, w, K, mg, base⟩ "Unfit" 22 xjs := e.isx 32 rfl
  have h9 : KIsx (cxt csL K mg) ⟨P, w, K, mg, base⟩ "InvalidValues" 20 xjs := e.isx 33 rfl
  have h10 : KIsx (cxt csL K mg) ⟨P, w, K, mg, base⟩ "UnknownCell" 16 xjs := e.isx 34 rfl
  have h11 : KIsx (cxt csL K mg) ⟨P, w, K, mg, base⟩ "NotASheet" 17 xjs := e.isx 35 rfl
  have h12 : KIsx (cxt csL K mg) ⟨P, w, K, mg, base⟩ "NotAWay" 18 xjs := e.isx 36 rfl
  have h13 : KIsx (cxt csL K mg) ⟨P, w, K, mg, base⟩ "InvalidName" 13 xjs := e.isx 37 rfl
  have h14 : KIsx (cxt csL K mg) ⟨P, w, K, mg, base⟩ "InvalidIndex" 14 xjs := e.isx 38 rfl
  have h15 : KIsx (cxt csL K mg) ⟨P, w, K, mg, base⟩ "InvalidClaim" 15 xjs := e.isx 39 rfl
  have h16 : KIsx (cxt csL K mg) ⟨P, w, K, mg, base⟩ "InvalidText" 10 xjs := e.isx 40 rfl
  have h17 : KIsx (cxt csL K mg) ⟨P, w, K, mg, base⟩ "InvalidFraction" 11 xjs := e.isx 41 rfl
  have h18 : KIsx (cxt csL K mg) ⟨P, w, K, mg, base⟩ "InvalidNumber" 12 xjs := e.isx 42 rfl
  simp only [c__law_flags, c__law_flags_b1, c__law_flags_b2, c__law_flags_b3, c__law_flags_b4, c__law_flags_b5, c__law_flags_b6, knB, knS, knA, knAs, knE, knL, knO, knI, h0, h1, h2, h3, h4, h5, h6, h7, h8, h9, h10, h11, h12, h13, h14, h15, h16, h17, h18, and_self, and_true, true_and, eq_self, implies_true]
theorem len__law_flags : ∀ ds S Q E, S__law_flags ds S Q E → ds.length = 1 := by
  intro ds S Q E h
  unfold S__law_flags at h
  repeat (first | exact congrArg List.length h.1 | obtain ⟨_, h⟩ := h)
theorem p__law_flags {P : Program} {w : World} {K : Frg} {mg : Str → Option Value} {base : Heap} (e : En csL fxL fnL P w K mg base) : PrA csL P w K mg base 2 (((.glo "_law_flags") : Wh).ad K) 1 S__law_flags :=
  e.pr (d := d__law_flags) 4 rfl rfl s__law_flags m__law_flags (kn__law_flags e) len__law_flags v__law_flags fun kV doc pm an cdv ct us hl => match us, hl with | [_], _ => rfl
theorem kn__law_thing {P : Program} {w : World} {K : Frg} {mg : Str → Option Value} {base : Heap} (e : En csL fxL fnL P w K mg base) : knB (cxt csL K mg) 2 ⟨P, w, K, mg, base⟩ c__law_thing := by
  have p__law_draw := p__law_draw e
  have h0 : KFun (cxt csL K mg) 2 ⟨P, w, K, mg, base⟩ "_law_draw" S__law_draw := e.kfun 43 rfl p__law_draw (by decide)
  simp only [c__law_thing, c__law_thing_b1, knB, knS, knA, knAs, knE, knL, knO, knI, h0, and_self, and_true, true_and, eq_self, implies_true]
theorem len__law_thing : ∀ ds S Q E, S__law_thing ds S Q E → ds.length = 1 := by
  intro ds S Q E h
  unfold S__law_thing at h
  repeat (first | exact congrArg List.length h.1 | obtain ⟨_, h⟩ := h)
theorem p__law_thing {P : Program} {w : World} {K : Frg} {mg : Str → Option Value} {base : Heap} (e : En csL fxL fnL P w K mg base) : PrA csL P w K mg base 3 (((.glo "_law_thing") : Wh).ad K) 1 S__law_thing :=
  e.pr (d := d__law_thing) 5 rfl rfl s__law_thing m__law_thing (kn__law_thing e) len__law_thing v__law_thing fun kV doc pm an cdv ct us hl => match us, hl with | [_], _ => rfl
theorem kn__law_right {P : Program} {w : World} {K : Frg} {mg : Str → Option Value} {base : Heap} (e : En csL fxL fnL P w K mg base) : knB (cxt csL K mg) 3 ⟨P, w, K, mg, base⟩ c__law_right := by
  have p__law_flags := p__law_flags e
  have p__law_firsts := p__law_firsts e
  have p__law_seconds := p__law_seconds e
  have p__law_thing := p__law_thing e
  have h0 : KIsx (cxt csL K mg) ⟨P, w, K, mg, base⟩ "ValueError" 8 xjs := e.isb 44 rfl (by decide +kernel) (by decide)
  have h1 : KIsx (cxt csL K mg) ⟨P, w, K, mg, base⟩ "ArithmeticError" 9 xjs := e.isb 45 rfl (by decide +kernel) (by decide)
  have h2 : KIsx (cxt csL K mg) ⟨P, w, K, mg, base⟩ "WrongValue" 8 xjs := e.isx 46 rfl
  have h3 : KIsx (cxt csL K mg) ⟨P, w, K, mg, base⟩ "NoAnswer" 9 xjs := e.isx 47 rfl
  have h4 : KFun (cxt csL K mg) 3 ⟨P, w, K, mg, base⟩ "_law_flags" S__law_flags := e.kfun 48 rfl p__law_flags (by decide)
  have h5 : mg "enumerate" = none := e.free 49 rfl
  have h6 : mg "repr" = none := e.free 50 rfl
  have h7 : KAttx (cxt csL K mg) ⟨P, w, K, mg, base⟩ 16 [25] := e.atx 51 rfl
  have h8 : KAttx (cxt csL K mg) ⟨P, w, K, mg, base⟩ 14 [23] := e.atx 52 rfl
  have h9 : KAttx (cxt csL K mg) ⟨P, w, K, mg, base⟩ 15 [24] := e.atx 53 rfl
  have h10 : KAttx (cxt csL K mg) ⟨P, w, K, mg, base⟩ 13 ijs := e.atx 54 rfl
  have h11 : KAttx (cxt csL K mg) ⟨P, w, K, mg, base⟩ 12 gjs := e.atx 55 rfl
  have h12 : KFun (cxt csL K mg) 3 ⟨P, w, K, mg, base⟩ "_law_firsts" S__law_firsts := e.kfun 56 rfl p__law_firsts (by decide)
  have h13 : KFun (cxt csL K mg) 3 ⟨P, w, K, mg, base⟩ "_law_seconds" S__law_seconds := e.kfun 57 rfl p__law_seconds (by decide)
  have h14 : KFun (cxt csL K mg) 3 ⟨P, w, K, mg, base⟩ "_law_thing" S__law_thing := e.kfun 58 rfl p__law_thing (by decide)
  simp only [c__law_right, c__law_right_b1, c__law_right_b2, c__law_right_b3, c__law_right_b4, c__law_right_b5, c__law_right_b6, c__law_right_b7, c__law_right_b8, c__law_right_l1, c__law_right_b9, c__law_right_l2, c__law_right_b10, c__law_right_b11, c__law_right_b12, c__law_right_b13, c__law_right_b14, c__law_right_b15, c__law_right_b16, knB, knS, knA, knAs, knE, knL, knO, knI, nb_bReprX, h0, h1, h2, h3, h4, h5, h6, h7, h8, h9, h10, h11, h12, h13, h14, and_self, and_true, true_and, eq_self, implies_true]
theorem len__law_right : ∀ ds S Q E, S__law_right ds S Q E → ds.length = 1 := by
  intro ds S Q E h
  unfold S__law_right at h
  repeat (first | exact congrArg List.length h.1 | obtain ⟨_, h⟩ := h)
theorem p__law_right {P : Program} {w : World} {K : Frg} {mg : Str → Option Value} {base : Heap} (e : En csL fxL fnL P w K mg base) : PrA csL P w K mg base 4 (((.glo "_law_right") : Wh).ad K) 1 S__law_right :=
  e.pr (d := d__law_right) 6 rfl rfl s__law_right m__law_right (kn__law_right e) len__law_right v__law_right fun kV doc pm an cdv ct us hl => match us, hl with | [_], _ => rfl
theorem kn_law {P : Program} {w : World} {K : Frg} {mg : Str → Option Value} {base : Heap} (e : En csL fxL fnL P w K mg base) : knB (cxt csL K mg) 4 ⟨P, w, K, mg, base⟩ c_law := by
  have p__law_right := p__law_right e
  have p__law_purse := p__law_purse e
  have h0 : mg "all" = none := e.free 59 rfl
  have h1 : KFun (cxt csL K mg) 4 ⟨P, w, K, mg, base⟩ "_law_right" S__law_right := e.kfun 60 rfl p__law_right (by decide)
  have h2 : KFun (cxt csL K mg) 4 ⟨P, w, K, mg, base⟩ "_law_purse" S__law_purse := e.kfun 61 rfl p__law_purse (by decide)
  have h3 : mg "range" = none := e.free 62 rfl
  have h4 : mg "max" = none := e.free 63 rfl
  have h5 : mg "min" = none := e.free 64 rfl
  have h6 : mg "len" = none := e.free 3 rfl
  have h7 : KGlo (cxt csL K mg) ⟨P, w, K, mg, base⟩ "MOST_CELLS" (.int 5) := e.con 65 rfl
  have h8 : KGlo (cxt csL K mg) ⟨P, w, K, mg, base⟩ "MOST_DIGITS" (.int 20) := e.con 66 rfl
  have h9 : KGlo (cxt csL K mg) ⟨P, w, K, mg, base⟩ "MOST_ROUNDS" (.int 100) := e.con 67 rfl
  have h10 : KGlo (cxt csL K mg) ⟨P, w, K, mg, base⟩ "MOST_POWERS" (.int 200) := e.con 68 rfl
  have h11 : KGlo (cxt csL K mg) ⟨P, w, K, mg, base⟩ "MOST_ORDERED" (.int 4) := e.con 69 rfl
  have h12 : KGlo (cxt csL K mg) ⟨P, w, K, mg, base⟩ "MOST_PARTS" (.int 1000000) := e.con 70 rfl
  simp only [c_law, c_law_b1, c_law_b2, knB, knS, knA, knAs, knE, knL, knO, knI, nb_bAll, nb_bLen, nb_bMax, nb_bMin, h0, h1, h2, h3, h4, h5, h6, h7, h8, h9, h10, h11, h12, and_self, and_true, true_and, eq_self, implies_true]
theorem len_law : ∀ ds S Q E, S_law ds S Q E → ds.length = 1 := by
  intro ds S Q E h
  unfold S_law at h
  repeat (first | exact congrArg List.length h.1 | obtain ⟨_, h⟩ := h)
theorem p_law {P : Program} {w : World} {K : Frg} {mg : Str → Option Value} {base : Heap} (e : En csL fxL fnL P w K mg base) : PrA csL P w K mg base 5 (((.glo "law") : Wh).ad K) 1 S_law :=
  e.pr (d := d_law) 7 rfl rfl s_law m_law (kn_law e) len_law v_law fun kV doc pm an cdv ct us hl => match us, hl with | [_], _ => rfl
theorem law_end {w : World} {K : Frg} {mg : Str → Option Value} {h : Heap} {fa : Addr} (c : SaysP csL fxL fnL w K) (KX : K.In h) (G : h.Ns mainGlobals mg) (hmg : mg ("law" : Str) = some (.ref fa)) :
    ∃ (K : Frg) (fd : FuncData) (sp : Sp), K.In h ∧ (∀ (s : Shared) (u : Value), BindsTo s fd ⟨[u], []⟩ [("_law_script", u)]) ∧
      (∀ (H : Hp) (a : Addr) (ns : List Int), ns.length ≤ 63 → Only H → SqL K H a (ns.map V.int) → sp [.ref a] H (fun v _ => v = .bl true) fun _ _ _ => False) ∧
      ∀ base : Heap, K.In base → base.Ns mainGlobals mg → FnOk (PySem.Challenge.rw_sheetrings_k01_constants_and_errors).prog w K mg base (L2.CX (PySem.Challenge.rw_sheetrings_k01_constants_and_errors).prog w) 5 fa fd ["_law_script"] sp := by
  have e0 : En csL fxL fnL (PySem.Challenge.rw_sheetrings_k01_constants_and_errors).prog w K mg h := c.en KX G
  obtain ⟨fd, F⟩ := e0.def_ 7 (d := d_law) rfl
  have g := e0.fn_ 0 (x := "law") (a := .glo "law") rfl
  rw [hmg] at g
  cases g
  have b := FunD.bindsA (ps := ["_law_script"]) F fun _ _ _ _ _ _ us hl => match us, hl with | [_], _ => rfl
  exact ⟨K, fd, liftSp (cxt csL K mg) S_law, KX, fun s v => b s [v] rfl, fun H a ns hl _ hS => law_sp rfl hS fun Q q => ⟨ns, rfl, Nat.le_trans hl (by decide), q⟩, fun base h1 h2 => def_ok rfl rfl rfl rfl F s_law m_law (kn_law (c.en h1 h2)) len_law v_law⟩
end L3
open PySem PySem.W PySem.Calls PyProof.Rows
set_option maxRecDepth 100000 in
set_option maxHeartbeats 0 in
theorem PySem.Challenge.cw_sheetrings_k01_constants_and_errors_holds : PySem.Challenge.rw_sheetrings_k01_constants_and_errors.Holds := by
  w_on; o_law
  refine HandSHeadRun.head_any (r := OpenLaw.row PySem.Challenge.rw_sheetrings_k01_constants_and_errors) (q := view (OpenLaw.row PySem.Challenge.rw_sheetrings_k01_constants_and_errors).prog [36]) (H := L3.hkL) (ob := L3.obL) (M := 12000) (loose := L3.looseL) (d := HandSHeadRun.topDef (OpenLaw.row PySem.Challenge.rw_sheetrings_k01_constants_and_errors).prog 36) (kwd := []) L3.obL_eq
    (by kernel_rfl) (fun s => by kernel_rfl) L3.runL (by kernel_rfl) (by kernel_rfl) (by kernel_rfl) (by rfl) (by first | assumption | decide +kernel) (by decide +kernel) ⟨rfl, rfl, rfl, rfl, rfl, by decide +kernel⟩ ?hw ?hc
  case hw => w_witness2
  case hc =>
    refine L3.walk_G (l := PySem.Challenge.rw_sheetrings_k01_constants_and_errors) (n := 63) (k := 5) (x := "_law_script") rfl (by decide) (by kernel_rfl) ⟨⟨rfl, by decide, by decide⟩, rfl⟩ ?F ?C
    case C => exact fun w H s e s' z => L3.cx_none z
    case F =>
      intro w mg fa h Y G hmg0
      obtain ⟨K, KX, c⟩ := Y
      have hmg : mg ("law" : PySem.Str) = some (.ref fa) := by
        have e : (HandSHeadRun.topDef (OpenLaw.row PySem.Challenge.rw_sheetrings_k01_constants_and_errors).prog 36).name = ("law" : PySem.Str) := by kernel_rfl
        rw [← e]
        exact hmg0
      exact L3.law_end c KX G hmg
