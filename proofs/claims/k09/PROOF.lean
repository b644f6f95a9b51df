import PyProof.Rows.All
import Wide.All
import OpenK.AllK
import Wide.FinOn
import HandS.ForMost
import HandS.Exc
import HandS.TryOnly
import HandS.TryMany
import HandS.ExcOwn
import HandS.TupMul
import HandS.TupAny
import HandS.Zip
import HandS.SortInts
import HandS.IsInst
import HandS.Conv
import HandS.Codes
import HandS.Deep
import HandS.Lambda
import HandS.EndTab
import KE.KDictKeyed
import KE.KDictWalk
import KE.SortData
import KE.DataCmp
import KE.DataMinMax
import KE.GoesEnum
import KE.GoesMore
import HandS.Strs
import HandS.SetFor
import HandS.Style
import PySem.Challenge.RW_widerpairs_k09_whole_strengths_told_back
set_option Elab.async false
set_option linter.all false
set_option maxRecDepth 100000
set_option maxHeartbeats 8000000
/-! Data without a heap, and how a value of the abstract heap stands for it. -/
namespace W2
open PySem L2

/-- data: what the program's values are, without addresses -/
inductive D where
  | non | bl (b : Bool) | int (i : Int) | str (x : Str)
  | tup (ds : List D) | lst (ds : List D) | frz (ds : List D) | dic (ks vs : List D) | fn (x : Str)

/-- the module's surroundings -/
structure Sur where
  K : PySem.W.Frag
  mg : Str → Option Value

/-- the entries of a dict's object: keys and values by V -/
def EntV (o : Obj) (ks vs : List V) : Prop :=
  ∃ (es : Array DictEntry) (ep : Nat), o.ExactDict ∧ o.data = .dict es ep ∧ Vals ks (es.toList.map (·.key)) ∧ Vals vs (es.toList.map (·.val))
def dicO (a : Addr) (o : Obj) : HO := .ext fun h => h.get? a = some o

/-- a list that never changes: locked as the script is, or written -/
def FzL (K : PySem.W.Frag) (H : Hp) (a : Addr) (xs : List V) : Prop :=
  (∃ o, H a = some (.frz o (.lst xs))) ∨
    ∃ (o : Obj) (its : Array Value) (n : Nat), K.lookup a = some o ∧ o.cls = .type "list" ∧ o.dict = none ∧ o.data = .seq its n ∧ its.size ≤ sizeLine ∧ Vals xs its.toList
theorem FzL.sq {K : PySem.W.Frag} {H : Hp} {a : Addr} {xs : List V} (h : FzL K H a xs) : SqL K H a xs := by
  rcases h with ⟨o, e⟩ | h
  · exact .inl (.inr ⟨o, e⟩)
  · exact .inr h
theorem sq_frz {K : PySem.W.Frag} {H : Hp} {O : Addr → Prop} {a : Addr} {xs : List V} (h : FzL K H a xs ∨ (H a = some (.lst xs) ∧ ¬ O a)) : SqL K H a xs := h.elim (fun h => h.sq) fun h => SqL.of h.1
mutual
inductive Rp (S : Sur) (H : Hp) (O : Addr → Prop) : D → V → Prop
  | non : Rp S H O .non .non
  | bl (b : Bool) : Rp S H O (.bl b) (.bl b)
  | int (i : Int) : Rp S H O (.int i) (.int i)
  | str (x : Str) : Rp S H O (.str x) (.str x)
  | tup {ds : List D} {a : Addr} {xs : List V} : SqT S.K H a xs → RpL S H O ds xs → Rp S H O (.tup ds) (.ref a)
  | lst {ds : List D} {a : Addr} {xs : List V} : H a = some (.lst xs) → ¬ O a → RpL S H O ds xs → Rp S H O (.lst ds) (.ref a)
  | frz {ds : List D} {a : Addr} {xs : List V} : FzL S.K H a xs ∨ (H a = some (.lst xs) ∧ ¬ O a) → RpL S H O ds xs → Rp S H O (.frz ds) (.ref a)
  | dic {ks vs : List D} {a : Addr} {o : Obj} {xs ys : List V} : H a = some (dicO a o) → ¬ O a → EntV o xs ys → RpL S H O ks xs → RpL S H O vs ys → Rp S H O (.dic ks vs) (.ref a)
  | fn {x : Str} {a : Addr} : S.mg x = some (.ref a) → Rp S H O (.fn x) (.ref a)
inductive RpL (S : Sur) (H : Hp) (O : Addr → Prop) : List D → List V → Prop
  | nil : RpL S H O [] []
  | cons {d : D} {v : V} {ds : List D} {vs : List V} : Rp S H O d v → RpL S H O ds vs → RpL S H O (d :: ds) (v :: vs)
end

def Same (H H' : Hp) : Prop := ∀ a o, H a = some o → H' a = some o
theorem Same.refl (H : Hp) : Same H H := fun _ _ h => h
theorem Same.trans {H H1 H2 : Hp} (a : Same H H1) (b : Same H1 H2) : Same H H2 := fun x o h => b x o (a x o h)
theorem Same.new {H : Hp} {p : Addr} {o : HO} (h : H p = none) : Same H (upd H p o) := fun a u e => by
  rw [upd_ne (ne_of_none e h)]
  exact e
theorem Rd.same {H H' : Hp} {a : Addr} {u : HO} (e : H a = H' a) (h : Rd H a u) : Rd H' a u := by
  unfold Rd at *
  rw [← e]; exact h
/-- what never changes -/
def Fix : HO → Prop
  | .tup _ => True
  | .frz _ _ => True
  | _ => False
/-- a table of code objects: it grows -/
def isTbl : HO → Prop
  | .tbl _ => True
  | _ => False
/-- the frame's own table of code objects, and the name of those that it tells -/
abbrev Tb := Option (Addr × Str)
/-- in a frame that makes lambdas no table stays -/
def hid (t : Tb) (o : HO) : Prop := t ≠ none ∧ isTbl o
def TabK (t : Tb) (H : Hp) : Prop := ∀ a q, t = some (a, q) → LamX.TabS H a q
theorem TabK.no {H : Hp} : TabK none H := fun _ _ e => nomatch e
theorem TabK.ext {t : Tb} {H H' : Hp} (k : TabK t H) (s : Same H H') : TabK t H' := fun a q h => (k a q h).ext s
/-- all but the tables stay -/
def SameN (t : Tb) (H H' : Hp) : Prop := ∀ a o, H a = some o → ¬ hid t o → H' a = some o
theorem Same.n {t : Tb} {H H' : Hp} (s : Same H H') : SameN t H H' := fun a o h _ => s a o h
/-- H' agrees with H wherever the data may look -/
def Agr (O : Addr → Prop) (H H' : Hp) : Prop := ∀ a o, H a = some o → (Fix o ∨ ¬ O a) → ¬ isTbl o → H' a = some o
theorem SameN.agr {t : Tb} {O : Addr → Prop} {H H' : Hp} (s : SameN t H H') : Agr O H H' := fun a o h _ n => s a o h fun z => n z.2
theorem Same.agr {O : Addr → Prop} {H H' : Hp} (s : Same H H') : Agr O H H' := fun a o h _ _ => s a o h
theorem Agr.rdT {O : Addr → Prop} {H H' : Hp} {a : Addr} {xs : List V} (g : Agr O H H') (h : Rd H a (.tup xs)) : Rd H' a (.tup xs) := by
  rcases h with h | ⟨o, h⟩
  · exact .inl (g _ _ h (.inl True.intro) id)
  · exact .inr ⟨o, g _ _ h (.inl True.intro) id⟩
mutual
theorem Rp.agr {S : Sur} {O O' : Addr → Prop} {H H' : Hp} (g : Agr O H H') (w : ∀ a o, H a = some o → O' a → O a) : ∀ (d : D) (v : V), Rp S H O d v → Rp S H' O' d v
  | .non, _, h => by cases h; exact .non
  | .bl b, _, h => by cases h; exact .bl b
  | .int i, _, h => by cases h; exact .int i
  | .str x, _, h => by cases h; exact .str x
  | .tup ds, _, h => by
    cases h with
    | tup q r => exact .tup (q.imp (fun q => g.rdT q) id) (RpL.agr g w ds _ r)
  | .lst ds, _, h => by
    cases h with
    | lst q n r => exact .lst (g _ _ q (.inr n) id) (fun z => n (w _ _ q z)) (RpL.agr g w ds _ r)
  | .frz ds, _, h => by
    cases h with
    | frz q r => exact .frz (q.imp (fun q => q.imp (fun ⟨o, q⟩ => ⟨o, g _ _ q (.inl True.intro) id⟩) id) fun ⟨q, n⟩ => ⟨g _ _ q (.inr n) id, fun z => n (w _ _ q z)⟩) (RpL.agr g w ds _ r)
  | .dic ks vs, _, h => by
    cases h with
    | dic q n e r1 r2 => exact .dic (g _ _ q (.inr n) id) (fun z => n (w _ _ q z)) e (RpL.agr g w ks _ r1) (RpL.agr g w vs _ r2)
  | .fn x, _, h => by
    cases h with
    | fn e => exact .fn e
theorem RpL.agr {S : Sur} {O O' : Addr → Prop} {H H' : Hp} (g : Agr O H H') (w : ∀ a o, H a = some o → O' a → O a) : ∀ (ds : List D) (vs : List V), RpL S H O ds vs → RpL S H' O' ds vs
  | [], _, h => by cases h; exact .nil
  | d :: ds, _, h => by
    cases h with
    | cons h1 h2 => exact .cons (Rp.agr g w d _ h1) (RpL.agr g w ds _ h2)
end
section
variable {S : Sur} {O O' : Addr → Prop} {H H' : Hp} {d : D} {v : V} {ds es : List D} {vs ws : List V}
theorem Rp.same (r : Rp S H O d v) (s : Same H H') : Rp S H' O d v := r.agr s.agr (fun _ _ _ h => h) d v
theorem RpL.same (r : RpL S H O ds vs) (s : Same H H') : RpL S H' O ds vs := r.agr s.agr (fun _ _ _ h => h) ds vs
theorem Rp.less (r : Rp S H O d v) (w : ∀ a, O' a → O a) : Rp S H O' d v := r.agr (Same.refl H).agr (fun a _ _ h => w a h) d v
theorem RpL.less (r : RpL S H O ds vs) (w : ∀ a, O' a → O a) : RpL S H O' ds vs := r.agr (Same.refl H).agr (fun a _ _ h => w a h) ds vs
def orA (O : Addr → Prop) (a : Addr) : Addr → Prop := fun b => O b ∨ b = a
/-- a new address may be owned -/
theorem Rp.add {a : Addr} (r : Rp S H O d v) (n : H a = none) (s : Same H H') : Rp S H' (orA O a) d v := r.agr s.agr (fun b o e h => h.elim id fun z => by rw [z, n] at e; cases e) d v
theorem RpL.add {a : Addr} (r : RpL S H O ds vs) (n : H a = none) (s : Same H H') : RpL S H' (orA O a) ds vs := r.agr s.agr (fun b o e h => h.elim id fun z => by rw [z, n] at e; cases e) ds vs
theorem RpL.length : ∀ {ds : List D} {vs : List V}, RpL S H O ds vs → ds.length = vs.length
  | _, _, .nil => rfl
  | _, _, .cons _ t => by simp [RpL.length t]
theorem RpL.append : ∀ {ds es : List D} {vs ws : List V}, RpL S H O ds vs → RpL S H O es ws → RpL S H O (ds ++ es) (vs ++ ws)
  | _, _, _, _, .nil, s => s
  | _, _, _, _, .cons r t, s => .cons r (RpL.append t s)
theorem RpL.get : ∀ {ds : List D} {vs : List V} {i : Nat} {d : D}, RpL S H O ds vs → ds[i]? = some d → ∃ v, vs[i]? = some v ∧ Rp S H O d v
  | _, _, _, _, .nil, e => by simp at e
  | _, _, 0, _, .cons r _, e => by simp at e; subst e; exact ⟨_, rfl, r⟩
  | _, _, i + 1, _, .cons _ t, e => by
    obtain ⟨v, h1, h2⟩ := RpL.get (i := i) t (by simpa using e)
    exact ⟨v, by simpa using h1, h2⟩
theorem RpL.getV : ∀ {ds : List D} {vs : List V} {i : Nat} {v : V}, RpL S H O ds vs → vs[i]? = some v → ∃ d, ds[i]? = some d ∧ Rp S H O d v
  | _, _, _, _, .nil, e => by simp at e
  | _, _, 0, _, .cons r _, e => by simp at e; subst e; exact ⟨_, rfl, r⟩
  | _, _, i + 1, _, .cons _ t, e => by
    obtain ⟨v, h1, h2⟩ := RpL.getV (i := i) t (by simpa using e)
    exact ⟨v, by simpa using h1, h2⟩
theorem RpL.take : ∀ {ds : List D} {vs : List V} (n : Nat), RpL S H O ds vs → RpL S H O (ds.take n) (vs.take n)
  | _, _, 0, _ => by simp; exact .nil
  | _, _, _ + 1, .nil => by simp; exact .nil
  | _, _, n + 1, .cons r t => by simp; exact .cons r (RpL.take n t)
theorem RpL.drop : ∀ {ds : List D} {vs : List V} (n : Nat), RpL S H O ds vs → RpL S H O (ds.drop n) (vs.drop n)
  | _, _, 0, r => by simpa using r
  | _, _, _ + 1, .nil => by simp; exact .nil
  | _, _, n + 1, .cons _ t => by simpa using RpL.drop n t
theorem RpL.set : ∀ {ds : List D} {vs : List V} (i : Nat) {d : D} {v : V}, RpL S H O ds vs → Rp S H O d v → RpL S H O (ds.set i d) (vs.set i v)
  | _, _, _, _, _, .nil, _ => by simp; exact .nil
  | _, _, 0, _, _, .cons _ t, q => by simp; exact .cons q t
  | _, _, i + 1, _, _, .cons r t, q => by simp; exact .cons r (RpL.set i t q)
theorem RpL.one (r : Rp S H O d v) : RpL S H O [d] [v] := .cons r .nil
theorem RpL.snoc (t : RpL S H O ds vs) (r : Rp S H O d v) : RpL S H O (ds ++ [d]) (vs ++ [v]) := t.append (.one r)
end

/-! ### data without lists and dicts -/
mutual
def D.hard : D → Bool
  | .lst _ => false
  | .dic _ _ => false
  | .frz _ => false
  | .tup ds => D.hardL ds
  | _ => true
def D.hardL : List D → Bool
  | [] => true
  | d :: ds => d.hard && D.hardL ds
end
mutual
theorem Rp.hard {S : Sur} {O O' : Addr → Prop} {H : Hp} : ∀ (d : D) (v : V), d.hard = true → Rp S H O d v → Rp S H O' d v
  | .non, _, _, h => by cases h; exact .non
  | .bl b, _, _, h => by cases h; exact .bl b
  | .int i, _, _, h => by cases h; exact .int i
  | .str x, _, _, h => by cases h; exact .str x
  | .tup ds, _, e, h => by
    cases h with
    | tup q r => exact .tup q (RpL.hard ds _ (by simpa [D.hard] using e) r)
  | .lst ds, _, e, h => by simp [D.hard] at e
  | .frz ds, _, e, h => by simp [D.hard] at e
  | .dic ks vs, _, e, h => by simp [D.hard] at e
  | .fn x, _, _, h => by
    cases h with
    | fn e => exact .fn e
theorem RpL.hard {S : Sur} {O O' : Addr → Prop} {H : Hp} : ∀ (ds : List D) (vs : List V), D.hardL ds = true → RpL S H O ds vs → RpL S H O' ds vs
  | [], _, _, h => by cases h; exact .nil
  | d :: ds, _, e, h => by
    simp only [D.hardL, Bool.and_eq_true] at e
    cases h with
    | cons h1 h2 => exact .cons (Rp.hard d _ e.1 h1) (RpL.hard ds _ e.2 h2)
end

/-! ### data as the library's data -/
mutual
def D.py : D → PyData
  | .non => .none
  | .bl b => .bool b
  | .int i => .int i
  | .str x => .str x
  | .tup ds => .tuple (D.pyL ds)
  | .lst ds => .list (D.pyL ds)
  | .dic _ _ => .dict []
  | .frz _ => .dict []
  | .fn _ => .dict []
def D.pyL : List D → List PyData
  | [] => []
  | d :: ds => d.py :: D.pyL ds
end
mutual
/-- plain: None, bools, ints, texts, tuples, lists -/
def D.plain : D → Bool
  | .str x => PyData.strOk x
  | .dic _ _ => false
  | .frz _ => false
  | .fn _ => false
  | .tup ds => D.plainL ds
  | .lst ds => D.plainL ds
  | _ => true
def D.plainL : List D → Bool
  | [] => true
  | d :: ds => d.plain && D.plainL ds
end
mutual
theorem D.lay : ∀ d : D, d.plain = true → d.py.canLay0 = true
  | .non, _ => by simp [D.py, PyData.canLay0]
  | .bl b, _ => by simp [D.py, PyData.canLay0]
  | .int i, _ => by simp [D.py, PyData.canLay0]
  | .str x, e => by simpa [D.py, PyData.canLay0, D.plain] using e
  | .tup ds, e => by simpa [D.py, PyData.canLay0] using D.layL ds (by simpa [D.plain] using e)
  | .lst ds, e => by simpa [D.py, PyData.canLay0] using D.layL ds (by simpa [D.plain] using e)
  | .dic ks vs, e => by simp [D.plain] at e
  | .frz ds, e => by simp [D.plain] at e
  | .fn x, e => by simp [D.plain] at e
theorem D.layL : ∀ ds : List D, D.plainL ds = true → PyData.canLayAll0 (D.pyL ds) = true
  | [], _ => by simp [D.pyL, PyData.canLayAll0]
  | d :: ds, e => by
    simp only [D.plainL, Bool.and_eq_true] at e
    simp [D.pyL, PyData.canLayAll0, D.lay d e.1, D.layL ds e.2]
end
mutual
theorem Rp.dp {S : Sur} {O : Addr → Prop} {H : Hp} : ∀ (d : D) (v : V), d.plain = true → Rp S H O d v → Dp S.K H v d.py
  | .non, _, _, h => by cases h; exact .non
  | .bl b, _, _, h => by cases h; exact .bl b
  | .int i, _, _, h => by cases h; exact .int i
  | .str x, _, _, h => by cases h; exact .str x
  | .tup ds, _, e, h => by
    cases h with
    | tup q r => simp only [D.py]; exact .tup q (RpL.dp ds _ (by simpa [D.plain] using e) r)
  | .lst ds, _, e, h => by
    cases h with
    | lst q n r => simp only [D.py]; exact .lst (SqL.of q) (RpL.dp ds _ (by simpa [D.plain] using e) r)
  | .dic ks vs, _, e, h => by simp [D.plain] at e
  | .frz ds, _, e, h => by simp [D.plain] at e
  | .fn x, _, e, h => by simp [D.plain] at e
theorem RpL.dp {S : Sur} {O : Addr → Prop} {H : Hp} : ∀ (ds : List D) (vs : List V), D.plainL ds = true → RpL S H O ds vs → DpAll S.K H vs (D.pyL ds)
  | [], _, _, h => by cases h; exact .nil
  | d :: ds, _, e, h => by
    simp only [D.plainL, Bool.and_eq_true] at e
    cases h with
    | cons h1 h2 => simp only [D.pyL]; exact .cons (Rp.dp d _ e.1 h1) (RpL.dp ds _ e.2 h2)
end

/-! ### equality as Python has it -/
mutual
def D.eqv : D → D → Bool
  | .non, .non => true
  | .bl a, .bl b => a == b
  | .int a, .int b => a == b
  | .bl a, .int b => (if a then 1 else 0) == b
  | .int a, .bl b => a == (if b then 1 else 0)
  | .str a, .str b => decide (a = b)
  | .tup a, .tup b => D.eqvL a b
  | .lst a, .lst b => D.eqvL a b
  | _, _ => false
def D.eqvL : List D → List D → Bool
  | [], [] => true
  | a :: as, b :: bs => D.eqv a b && D.eqvL as bs
  | _, _ => false
end
end W2

/-! The small tongue and its evaluator. -/
namespace W2
open PySem L2

/-- what a slot holds: nothing, a datum, a list or dict that the frame owns alone, one that the caller lent -/
inductive SV where
  | no | val (d : D) | own (d : D) | io (d : D)
abbrev Env := List SV
structure Exn where
  cls : Str
  flds : List (Str × D)
inductive R (α : Type) where
  | bad
  | ok (a : α) (ρ : Env)
  | err (x : Exn) (ρ : Env)
abbrev Vl := D × Bool
def R.bind {α β : Type} (r : R α) (f : α → Env → R β) : R β :=
  match r with
  | .bad => .bad
  | .ok a ρ => f a ρ
  | .err x ρ => .err x ρ
@[simp] theorem R.bind_ok {α β : Type} (a : α) (ρ : Env) (f : α → Env → R β) : (R.ok a ρ).bind f = f a ρ := rfl
@[simp] theorem R.bind_bad {α β : Type} (f : α → Env → R β) : (R.bad : R α).bind f = .bad := rfl
@[simp] theorem R.bind_err {α β : Type} (x : Exn) (ρ : Env) (f : α → Env → R β) : (R.err x ρ : R α).bind f = .err x ρ := rfl
/-- the same of a value that must be a bool -/
def R.bindB {α : Type} (r : R Vl) (f : Bool → Env → R α) : R α :=
  match r with
  | .ok (.bl b, _) ρ => f b ρ
  | .ok _ _ => .bad
  | .bad => .bad
  | .err x ρ => .err x ρ
@[simp] theorem R.bindB_ok {α : Type} (b fr : Bool) (ρ : Env) (f : Bool → Env → R α) : (R.ok (.bl b, fr) ρ).bindB f = f b ρ := rfl
@[simp] theorem R.bindB_bad {α : Type} (f : Bool → Env → R α) : (R.bad : R Vl).bindB f = .bad := rfl
@[simp] theorem R.bindB_err {α : Type} (x : Exn) (ρ : Env) (f : Bool → Env → R α) : (R.err x ρ : R Vl).bindB f = .err x ρ := rfl
def ofO {α : Type} (o : Option α) (ρ : Env) : R α :=
  match o with
  | none => .bad
  | some a => .ok a ρ
@[simp] theorem ofO_some {α : Type} (a : α) (ρ : Env) : ofO (some a) ρ = .ok a ρ := rfl
@[simp] theorem ofO_none {α : Type} (ρ : Env) : ofO (none : Option α) ρ = .bad := rfl

/-- an argument: a datum, or a lent list or dict -/
inductive AV where
  | val (d : D) | io (d : D)
inductive PArg where
  | val (d : D) | io (i : Nat)
/-- what a call comes to: a value (new and unshared or not) and what the lent ones hold then -/
inductive CRes where
  | bad
  | ok (v : Vl) (ios : List D)
  | err (x : Exn) (ios : List D)
/-- what the module's names stand for: its defs' contracts, its constants -/
structure Ctr where
  fn : Str → Option (List AV → CRes)
  gv : Str → Option D
  ex : Str → Bool
  sub : Str → Str → Option Bool
  /-- defs that call what they get, and the words that they tell of its errors -/
  wd : Str → Option (List (Str × Str)) := fun _ => none
  /-- the table of this frame's code objects, if it makes lambdas -/
  tb : Tb := none
/-- the same in a lambda's body -/
def Ctr.out (Γ : Ctr) : Ctr := { Γ with tb := none }
/-- the word for an error -/
def wordOf (sub : Str → Str → Option Bool) : List (Str × Str) → Str → Option Str
  | [], _ => none
  | (c, w) :: hs, x => match sub x c with
    | some true => some w
    | some false => wordOf sub hs x
    | none => none
def lamR (Γ : Ctr) (f : Str) (r : R Vl) : R Vl :=
  match Γ.tb, Γ.wd f with
  | some _, some hs => match r with
    | .ok _ ρ => .ok (.str "", false) ρ
    | .err x ρ => match wordOf Γ.sub hs x.cls with
      | some w => .ok (.str w, false) ρ
      | none => .bad
    | .bad => .bad
  | _, _ => .bad

/-- targets -/
inductive Tg where
  | nm (i : Nat) | tp (ts : List Tg)
inductive E where
  | var (i : Nat)
  | cst (d : D)
  | glb (x : Str)
  | tup (es : List E)
  | lst (es : List E)
  | bin (op : Operator) (a b : E)
  | neg (a : E)
  | cmp (op : CmpOp) (a b : E)
  | chn (op1 op2 : CmpOp) (a b c : E)
  | andE (es : List E)
  | orE (es : List E)
  | notE (a : E)
  | ite (c a b : E)
  | ix (a i : E)
  | sl (a lo hi : E)
  | off
  | isi (a : E) (T : String)
  | io (i : Nat)
  | call (f : Str) (as : List E)
  | blt (f : Str) (as : List E)
  | mth (m : Str) (o : E) (as : List E)
  | comp (vs : List Nat) (elt : E) (tg : Tg) (src cond : E)
  | rng1 (a : E)
  | rng2 (a b : E)
  | enu (a : E)
  | zip (a b : E)
  | brw (i : List Nat) (e : E)
  | lrg (a : E)
  | lam (f : Str) (e : E)
  | vcall (i : Nat) (as : List E)
  | sset (a : E)

abbrev LIM : Nat := 100000

/-! ### operations on data -/
def binD (op : Operator) (x y : D) : Option Vl :=
  match op, x, y with
  | .Add, .int i, .int j => some (.int (i + j), false)
  | .Add, .tup a, .tup b => if a.length + b.length ≤ LIM then some (.tup (a ++ b), false) else none
  | .Add, .lst a, .lst b => if a.length ≤ LIM ∧ b.length ≤ LIM then some (.lst (a ++ b), true) else none
  | .Add, .str a, .str b => if a.length + b.length ≤ LIM then some (.str (a ++ b), false) else none
  | .Sub, .int i, .int j => some (.int (i - j), false)
  | .Mult, .int i, .int j => if (-(2 ^ 64) < i ∧ i < 2 ^ 64) ∨ (-(2 ^ 64) < j ∧ j < 2 ^ 64) then some (.int (i * j), false) else none
  | .Mult, .lst a, .int k => if 0 ≤ k ∧ k ≤ 1000 ∧ a.length ≤ 100 then some (.lst (List.replicate k.toNat a).flatten, true) else none
  | .Mult, .tup a, .int k => if a ≠ [] ∧ 2 ≤ k ∧ k ≤ 1000 ∧ a.length ≤ 100 then some (.tup (List.replicate k.toNat a).flatten, false) else none
  | .Mod, .int i, .int j => if 0 < j then some (.int (i % j), false) else none
  | .FloorDiv, .int i, .int j => if 0 < j ∧ j < 1073741824 then some (.int (i / j), false) else none
  | .Pow, .int i, .int j => if 0 ≤ j ∧ j ≤ 1000000 ∧ i.natAbs < 2 ^ 64 then some (.int (i ^ j.toNat), false) else none
  | _, _, _ => none
mutual
def D.dep : D → Nat
  | .tup ds => D.depL ds + 1
  | .lst ds => D.depL ds + 1
  | _ => 0
def D.depL : List D → Nat
  | [] => 0
  | d :: ds => max d.dep (D.depL ds)
end
/-- data that == takes -/
def D.good (d : D) : Bool := d.plain && decide (d.dep ≤ 60)
def D.isN : D → Bool
  | .non => true
  | _ => false
def cmpD (op : CmpOp) (x y : D) : Option Bool :=
  match op with
  | .Eq => if x.good && y.good then some (x.eqv y) else none
  | .NotEq => if x.good && y.good then some (!x.eqv y) else none
  | .Lt => match x, y with
    | .int i, .int j => some (decide (i < j))
    | .tup a, .tup b => if (D.tup a).good && (D.tup b).good && PySem.W.alike (D.tup a).py (D.tup b).py then some (PySem.W.dataLt (D.tup a).py (D.tup b).py) else none
    | _, _ => none
  | .LtE => match x, y with
    | .int i, .int j => some (decide (i ≤ j))
    | _, _ => none
  | .Gt => match x, y with
    | .int i, .int j => some (decide (i > j))
    | _, _ => none
  | .GtE => match x, y with
    | .int i, .int j => some (decide (i ≥ j))
    | _, _ => none
  | .Is => match y with
    | .non => some x.isN
    | _ => none
  | .IsNot => match y with
    | .non => some (!x.isN)
    | _ => none
  | .In => match y with
    | .lst ds => if x.good && (D.lst ds).good then some (ds.any fun z => z.eqv x) else none
    | .tup ds => if x.good && (D.tup ds).good then some (ds.any fun z => z.eqv x) else none
    | _ => none
  | .NotIn => match y with
    | .lst ds => if x.good && (D.lst ds).good then some (!ds.any fun z => z.eqv x) else none
    | .tup ds => if x.good && (D.tup ds).good then some (!ds.any fun z => z.eqv x) else none
    | _ => none
def D.isB : D → Option Bool
  | .bl b => some b
  | _ => none
/-- the class of a datum -/
def D.ty : D → String
  | .non => "NoneType"
  | .bl _ => "bool"
  | .int _ => "int"
  | .str _ => "str"
  | .tup _ => "tuple"
  | .lst _ => "list"
  | .frz _ => "function"
  | .dic _ _ => "dict"
  | .fn _ => "function"
def isiD (t T : String) : Option Bool :=
  if t = "function" ∨ t = "dict" then none else
  if T = "int" then some (t == "int" || t == "bool") else
  if T = "bool" then some (t == "bool") else
  if T = "str" then some (t == "str") else
  if T = "tuple" then some (t == "tuple") else
  if T = "list" then some (t == "list") else none
def ixD (x i : D) : Option D :=
  match x, i with
  | .tup ds, .int k => atI ds k
  | .lst ds, .int k => atI ds k
  | .frz ds, .int k => atI ds k
  | _, _ => none
def cutD (xs : List D) (lo hi : Option Int) : List D := (xs.drop (HT.sIx xs.length 0 lo)).take (HT.sIx xs.length xs.length hi - HT.sIx xs.length 0 lo)
def slD (x : D) (lo hi : Option Int) : Option Vl :=
  match x with
  | .tup ds => some (.tup (cutD ds lo hi), false)
  | .lst ds => some (.lst (cutD ds lo hi), true)
  | _ => none
def boolsOf : List D → Option (List Bool)
  | [] => some []
  | .bl i :: ds => (boolsOf ds).map (i :: ·)
  | _ :: _ => none
def D.alikes (ds : List D) : Bool := ds.all fun d => ds.all fun e => PySem.W.alike d.py e.py
def D.isT1 : D → Bool
  | .tup (_ :: _) => true
  | _ => false
def D.isNT : D → Bool
  | .non => false
  | .tup _ => false
  | _ => true
/-- one empty tuple alone -/
def D.oneE : List D → Bool
  | [.tup []] => true
  | _ => false
/-- put in ahead of the first that is not less -/
def D.ins (x : D) : List D → List D
  | [] => [x]
  | y :: ys => match PySem.W.dataLe false D.py x y with
    | true => x :: y :: ys
    | false => y :: D.ins x ys
def isortD : List D → List D
  | [] => []
  | d :: ds => D.ins d (isortD ds)
theorem dle_trans (a b c : D) (h1 : PySem.W.dataLe false D.py a b = true) (h2 : PySem.W.dataLe false D.py b c = true) : PySem.W.dataLe false D.py a c = true := by
  simp only [PySem.W.dataLe_eq, cond_false, PySem.W.dataLt, Bool.not_eq_true'] at h1 h2 ⊢
  cases e : PyProof.Rows.lexLt PyProof.Rows.itemOrd (PySem.W.keyToks c.py) (PySem.W.keyToks a.py) with
  | false => rfl
  | true =>
    rcases PyProof.Rows.lex_negTrans _ (PySem.W.keyToks b.py) _ e with z | z
    · rw [h2] at z; cases z
    · rw [h1] at z; cases z
theorem dle_total (a b : D) : (PySem.W.dataLe false D.py a b || PySem.W.dataLe false D.py b a) = true := by
  simp only [PySem.W.dataLe_eq, cond_false, PySem.W.dataLt]
  cases e : PyProof.Rows.lexLt PyProof.Rows.itemOrd (PySem.W.keyToks b.py) (PySem.W.keyToks a.py) with
  | false => rfl
  | true =>
    cases e2 : PyProof.Rows.lexLt PyProof.Rows.itemOrd (PySem.W.keyToks a.py) (PySem.W.keyToks b.py) with
    | false => rfl
    | true =>
      have := PyProof.Rows.lex_trans _ _ _ e e2
      rw [PyProof.Rows.lex_irrefl] at this
      cases this
theorem ins_app (x : D) : ∀ (l1 l2 : List D), (∀ b ∈ l1, PySem.W.dataLe false D.py x b = false) → (∀ b ∈ l2, PySem.W.dataLe false D.py x b = true) → D.ins x (l1 ++ l2) = l1 ++ x :: l2
  | [], [], _, _ => rfl
  | [], y :: ys, _, h => by
    simp only [List.nil_append, D.ins]
    rw [h y List.mem_cons_self]
  | y :: ys, l2, h, h2 => by
    simp only [List.cons_append, D.ins]
    rw [h y List.mem_cons_self]
    simp only
    rw [ins_app x ys l2 (fun b hb => h b (List.mem_cons_of_mem _ hb)) h2]
theorem isortD_eq : ∀ ds : List D, isortD ds = ds.mergeSort (PySem.W.dataLe false D.py)
  | [] => by simp [isortD]
  | d :: ds => by
    obtain ⟨l1, l2, e1, e2, h⟩ := List.mergeSort_cons dle_trans dle_total d ds
    simp only [isortD]
    rw [isortD_eq ds, e1, e2]
    have pw := List.pairwise_mergeSort dle_trans dle_total (d :: ds)
    rw [e1] at pw
    refine ins_app d l1 l2 (fun b hb => by simpa using h b hb) fun b hb => ?_
    exact List.rel_of_pairwise_cons (List.pairwise_append.mp pw).2.1 hb
def sortD (ds : List D) : Option (List D) :=
  if ds.all D.good && D.alikes ds && (D.oneE ds || (ds.all D.isT1 || ds.all D.isNT)) && decide (ds.length ≤ LIM) then some (isortD ds) else none
theorem sortD_ms (ds : List D) : sortD ds = if ds.all D.good && D.alikes ds && (D.oneE ds || (ds.all D.isT1 || ds.all D.isNT)) && decide (ds.length ≤ LIM) then some (ds.mergeSort (PySem.W.dataLe false D.py)) else none := by
  rw [← isortD_eq]
  rfl
/-- the first of the least, of the greatest -/
def bestD (up : Bool) (d : D) (ds : List D) : Option D :=
  if (D.lst (d :: ds)).good && D.alikes (d :: ds) && !(d :: ds).any D.isN && decide (ds.length < LIM) then some (ds.foldl (fun a y => if (if up then PySem.W.dataLt a.py y.py else PySem.W.dataLt y.py a.py) then y else a) d) else none
def bltD (f : Str) (as : List D) : Option Vl :=
  if f = "len" then
    match as with
    | [.tup ds] => some (.int ds.length, false)
    | [.lst ds] => some (.int ds.length, false)
    | [.frz ds] => some (.int ds.length, false)
    | _ => none
  else if f = "abs" then
    match as with
    | [.int i] => some (.int (if i < 0 then -i else i), false)
    | _ => none
  else if f = "min" then
    match as with
    | [.int i, .int j] => some (.int (if j < i then j else i), false)
    | [.lst (d :: ds)] => (bestD false d ds).map fun y => (y, false)
    | _ => none
  else if f = "max" then
    match as with
    | [.int i, .int j] => some (.int (if j > i then j else i), false)
    | [.lst (d :: ds)] => (bestD true d ds).map fun y => (y, false)
    | _ => none
  else if f = "int" then
    match as with
    | [.int i] => some (.int i, false)
    | [.bl b] => some (.int (if b then 1 else 0), false)
    | _ => none
  else if f = "all" then
    match as with
    | [.lst ds] => (boolsOf ds).map fun bs => (.bl (bs.all id), false)
    | _ => none
  else if f = "sorted" then
    match as with
    | [.lst ds] => (sortD ds).map fun ys => (.lst ys, true)
    | [.tup ds] => (sortD ds).map fun ys => (.lst ys, true)
    | _ => none
  else if f = "list" then
    match as with
    | [.tup ds] => some (.lst ds, true)
    | [.lst ds] => some (.lst ds, true)
    | _ => none
  else if f = "tuple" then
    match as with
    | [.tup ds] => some (.tup ds, false)
    | [.lst ds] => some (.tup ds, false)
    | _ => none
  else none
/-! ### environments -/
def SV.isOwn : SV → Bool
  | .own _ => true
  | .io _ => true
  | _ => false
def SV.hide : SV → SV
  | .own _ => .no
  | .io _ => .no
  | s => s
def Env.hide (ρ : Env) : Env := ρ.map SV.hide
def SV.dat : SV → Option D
  | .own d => some d
  | .io d => some d
  | .val d => some d
  | .no => none
def SV.put (s : SV) (d : D) : SV :=
  match s with
  | .own _ => .own d
  | .io _ => .io d
  | s => s
/-- the lent slots as data -/
def lend (ρ : Env) : List Nat → Env → Option Env
  | [], acc => some acc
  | i :: is, acc => match ρ[i]? with
    | some (.own d) => lend ρ is (acc.set i (.val d))
    | some (.io d) => lend ρ is (acc.set i (.val d))
    | _ => none
def wipeE (ρ : Env) : List Nat → Env
  | [] => ρ
  | v :: vs => (wipeE ρ vs).set v .no
/-- none of the slots is owned -/
def plainAt (ρ : Env) : List Nat → Bool
  | [] => true
  | v :: vs => (match ρ[v]? with
    | some (.val _) => true
    | some .no => true
    | _ => false) && plainAt ρ vs
/-- the slots as they were -/
def backE (ρ ρ' : Env) : List Nat → Env
  | [] => ρ'
  | v :: vs => match ρ[v]? with
    | some s => (backE ρ ρ' vs).set v s
    | none => backE ρ ρ' vs
mutual
def bindT : Tg → D → Env → Option Env
  | .nm i, d, ρ => match ρ[i]? with
    | some (.io _) => none
    | some _ => some (ρ.set i (.val d))
    | none => none
  | .tp ts, .tup ds, ρ => bindTs ts ds ρ
  | .tp _, _, _ => none
def bindTs : List Tg → List D → Env → Option Env
  | [], [], ρ => some ρ
  | t :: ts, d :: ds, ρ => match bindT t d ρ with
    | some ρ' => bindTs ts ds ρ'
    | none => none
  | _, _, _ => none
end
def gather (ρ : Env) : List PArg → Option (List AV)
  | [] => some []
  | .val d :: as => (gather ρ as).map (.val d :: ·)
  | .io i :: as => match ρ[i]? with
    | some (.own d) => (gather ρ as).map (.io d :: ·)
    | some (.io d) => (gather ρ as).map (.io d :: ·)
    | _ => none
def iosOf : List PArg → List Nat
  | [] => []
  | .val _ :: as => iosOf as
  | .io i :: as => i :: iosOf as
def putIos (ρ : Env) : List Nat → List D → Option Env
  | [], [] => some ρ
  | i :: is, d :: ds => match ρ[i]? with
    | some s => if s.isOwn then putIos (ρ.set i (s.put d)) is ds else none
    | none => none
  | _, _ => none
def callR (r : CRes) (is : List Nat) (ρ : Env) : R Vl :=
  match r with
  | .bad => .bad
  | .ok v ds => match putIos ρ is ds with
    | some ρ' => .ok v ρ'
    | none => .bad
  | .err x ds => match putIos ρ is ds with
    | some ρ' => .err x ρ'
    | none => .bad
def compL (f : D → Env → R (Option D)) : List D → List D → Env → R (List D)
  | [], acc, ρ => .ok acc ρ
  | d :: ds, acc, ρ => match f d ρ with
    | .ok (some y) ρ' => if acc.length < LIM then compL f ds (acc ++ [y]) ρ' else .bad
    | .ok none ρ' => compL f ds acc ρ'
    | _ => .bad
/-- a turn of a comprehension -/
def compF (fc fe : Env → R Vl) (tg : Tg) (vs : List Nat) (d : D) (ρ1 : Env) : R (Option D) :=
  match bindT tg d (wipeE ρ1 vs) with
  | some ρ2 => (fc ρ2).bindB fun c ρ3 => match c with
    | true => (fe ρ3).bind fun y ρ4 => .ok (some y.1) (backE ρ1 ρ4 vs)
    | false => .ok none (backE ρ1 ρ3 vs)
  | none => .bad
def seqD : D → Option (List D)
  | .tup ds => some ds
  | .lst ds => some ds
  | _ => none
def enumD : Nat → List D → List D
  | _, [] => []
  | k, d :: ds => .tup [.int k, d] :: enumD (k + 1) ds
def zipD : List D → List D → List D
  | a :: as, b :: bs => .tup [a, b] :: zipD as bs
  | _, _ => []
def rangeD (lo : Int) (n : Nat) : List D := (List.range n).map fun (i : Nat) => .int (lo + (i : Int))
def partD : D → Option Int
  | .int i => some i
  | _ => none

def isSeqE : E → Bool
  | .rng1 _ => false
  | .rng2 _ _ => false
  | .enu _ => false
  | .zip _ _ => false
  | _ => true
def partR (t : E) (f : Env → R Vl) (ρ : Env) : R (Option Int) :=
  match t with
  | .off => .ok none ρ
  | _ => (f ρ).bind fun x ρ => ofO ((partD x.1).map some) ρ
def seqR (r : R Vl) : R (List D) := r.bind fun x ρ => ofO (seqD x.1) ρ
def intsOf : List D → Option (List Int)
  | [] => some []
  | .int i :: ds => (intsOf ds).map (i :: ·)
  | _ :: _ => none
/-- the different ones, ascending -/
def insI (i : Int) : List Int → List Int
  | [] => [i]
  | j :: js => if i < j then i :: j :: js else if i = j then j :: js else j :: insI i js
def ssI : List Int → List Int
  | [] => []
  | i :: is => insI i (ssI is)
def ssetD (x : D) : Option (List Int) :=
  match x with
  | .lst ds => (intsOf ds).bind fun ns => if ns.length ≤ 3000 ∧ (ssI ns).length < 64 then some (ssI ns) else none
  | _ => none
mutual
def evalE (Γ : Ctr) : E → Env → R Vl
  | .var i, ρ => match ρ[i]? with
    | some (.val d) => .ok (d, false) ρ
    | _ => .bad
  | .cst d, ρ => .ok (d, false) ρ
  | .glb x, ρ => ofO ((Γ.gv x).map fun d => (d, false)) ρ
  | .tup es, ρ => (evalL Γ es ρ).bind fun ds ρ => if ds.length ≤ LIM then .ok (.tup ds, false) ρ else .bad
  | .lst es, ρ => (evalL Γ es ρ).bind fun ds ρ => if ds.length ≤ LIM then .ok (.lst ds, true) ρ else .bad
  | .bin op a b, ρ => (evalE Γ a ρ).bind fun x ρ => (evalE Γ b ρ).bind fun y ρ => ofO (binD op x.1 y.1) ρ
  | .neg a, ρ => (evalE Γ a ρ).bind fun x ρ => match x.1 with
    | .int i => .ok (.int (-i), false) ρ
    | _ => .bad
  | .cmp op a b, ρ => (evalE Γ a ρ).bind fun x ρ => (evalE Γ b ρ).bind fun y ρ => ofO ((cmpD op x.1 y.1).map fun b => (.bl b, false)) ρ
  | .chn op1 op2 a b c, ρ => (evalE Γ a ρ).bind fun x ρ => (evalE Γ b ρ).bind fun y ρ => match cmpD op1 x.1 y.1 with
    | some true => (evalE Γ c ρ).bind fun z ρ => ofO ((cmpD op2 y.1 z.1).map fun b => (.bl b, false)) ρ
    | some false => .ok (.bl false, false) ρ
    | none => .bad
  | .andE es, ρ => evalAnd Γ es ρ
  | .orE es, ρ => evalOr Γ es ρ
  | .notE a, ρ => (evalE Γ a ρ).bindB fun b ρ => .ok (.bl (!b), false) ρ
  | .ite c a b, ρ => (evalE Γ c ρ).bindB fun x ρ => match x with
    | true => evalE Γ a ρ
    | false => evalE Γ b ρ
  | .ix a i, ρ => (evalE Γ a ρ).bind fun x ρ => (evalE Γ i ρ).bind fun y ρ => ofO ((ixD x.1 y.1).map fun d => (d, false)) ρ
  | .sl a lo hi, ρ => (evalE Γ a ρ).bind fun x ρ => (partR lo (evalE Γ lo) ρ).bind fun l ρ => (partR hi (evalE Γ hi) ρ).bind fun h ρ => ofO (slD x.1 l h) ρ
  | .off, _ => .bad
  | .isi a T, ρ => (evalE Γ a ρ).bind fun x ρ => ofO ((isiD x.1.ty T).map fun b => (.bl b, false)) ρ
  | .io _, _ => .bad
  | .call f as, ρ => match Γ.fn f with
    | none => .bad
    | some c => (evalA Γ as ρ).bind fun ps ρ => match gather ρ ps with
      | some vs => if (iosOf ps).Nodup then callR (c vs) (iosOf ps) ρ else .bad
      | none => .bad
  | .blt f as, ρ => (evalL Γ as ρ).bind fun ds ρ => ofO (bltD f ds) ρ
  | .mth _ _ _, _ => .bad
  | .comp vs elt tg src cond, ρ => (if isSeqE src then seqR (evalE Γ src ρ) else evalJ Γ src ρ).bind fun ds ρ =>
      if plainAt ρ vs then
        (compL (compF (evalE Γ cond) (evalE Γ elt) tg vs) ds [] ρ).bind fun ys ρ => .ok (.lst ys, true) ρ
      else .bad
  | .rng1 _, _ => .bad
  | .rng2 _ _, _ => .bad
  | .enu _, _ => .bad
  | .zip _ _, _ => .bad
  | .brw is e, ρ => match lend ρ is ρ.hide with
    | some ρ1 => match evalE Γ e ρ1 with
      | .ok v _ => if v.1.hard then .ok (v.1, false) ρ else .bad
      | _ => .bad
    | none => .bad
  | .lrg a, ρ => (if isSeqE a then seqR (evalE Γ a ρ) else evalJ Γ a ρ).bind fun ds ρ => if ds.length ≤ LIM then .ok (.lst ds, true) ρ else .bad
  | .lam f e, ρ => lamR Γ f (evalE Γ.out e ρ)
  | .sset a, ρ => (evalE Γ a ρ).bind fun x ρ => ofO ((ssetD x.1).map fun ms => (.lst (ms.map .int), true)) ρ
  | .vcall i as, ρ => match ρ[i]? with
    | some (.val (.fn f)) => match Γ.fn f with
      | none => .bad
      | some c => (evalA Γ as ρ).bind fun ps ρ => match gather ρ ps with
        | some vs => if (iosOf ps).Nodup then callR (c vs) (iosOf ps) ρ else .bad
        | none => .bad
    | _ => .bad
def evalL (Γ : Ctr) : List E → Env → R (List D)
  | [], ρ => .ok [] ρ
  | e :: es, ρ => (evalE Γ e ρ).bind fun x ρ => (evalL Γ es ρ).bind fun xs ρ => .ok (x.1 :: xs) ρ
def evalA (Γ : Ctr) : List E → Env → R (List PArg)
  | [], ρ => .ok [] ρ
  | .io i :: es, ρ => match ρ[i]? with
    | some s => if s.isOwn then (evalA Γ es ρ).bind fun xs ρ => .ok (.io i :: xs) ρ else .bad
    | none => .bad
  | e :: es, ρ => (evalE Γ e ρ).bind fun x ρ => (evalA Γ es ρ).bind fun xs ρ => .ok (.val x.1 :: xs) ρ
def evalAnd (Γ : Ctr) : List E → Env → R Vl
  | [], _ => .bad
  | [e], ρ => evalE Γ e ρ
  | e :: es, ρ => (evalE Γ e ρ).bindB fun x ρ => match x with
    | true => evalAnd Γ es ρ
    | false => .ok (.bl false, false) ρ
def evalOr (Γ : Ctr) : List E → Env → R Vl
  | [], _ => .bad
  | [e], ρ => evalE Γ e ρ
  | e :: es, ρ => (evalE Γ e ρ).bindB fun x ρ => match x with
    | true => .ok (.bl true, false) ρ
    | false => evalOr Γ es ρ
def evalJ (Γ : Ctr) : E → Env → R (List D)
  | .rng1 a, ρ => (evalE Γ a ρ).bind fun x ρ => match x.1 with
    | .int n => if -(2 ^ 62) ≤ n ∧ n < 2 ^ 62 then .ok (rangeD 0 n.toNat) ρ else .bad
    | _ => .bad
  | .rng2 a b, ρ => (evalE Γ a ρ).bind fun x ρ => (evalE Γ b ρ).bind fun y ρ => match x.1, y.1 with
    | .int m, .int n => if (-(2 ^ 62) ≤ m ∧ m < 2 ^ 62) ∧ (-(2 ^ 62) ≤ n ∧ n < 2 ^ 62) then .ok (rangeD m (n - m).toNat) ρ else .bad
    | _, _ => .bad
  | .enu a, ρ => (evalE Γ a ρ).bind fun x ρ => match x.1 with
    | .lst ds => .ok (enumD 0 ds) ρ
    | .tup ds => .ok (enumD 0 ds) ρ
    | _ => .bad
  | .zip a b, ρ => (evalE Γ a ρ).bind fun x ρ => (evalE Γ b ρ).bind fun y ρ => match x.1, y.1 with
    | .lst m, .lst n => .ok (zipD m n) ρ
    | .tup m, .tup n => .ok (zipD m n) ρ
    | _, _ => .bad
  | _, _ => .bad
end
def evalI (Γ : Ctr) (t : E) (ρ : Env) : R (List D) := if isSeqE t then seqR (evalE Γ t ρ) else evalJ Γ t ρ
def evalP (Γ : Ctr) (t : E) (ρ : Env) : R (Option Int) := partR t (evalE Γ t) ρ
section
variable {Γ : Ctr} {ρ : Env}
theorem evalE_comp {vs : List Nat} {elt src cond : E} {tg : Tg} : evalE Γ (.comp vs elt tg src cond) ρ = (evalI Γ src ρ).bind fun ds ρ =>
      if plainAt ρ vs then
        (compL (compF (evalE Γ cond) (evalE Γ elt) tg vs) ds [] ρ).bind fun ys ρ => .ok (.lst ys, true) ρ
      else .bad := by simp only [evalE, evalI]
theorem evalE_sl {a lo hi : E} : evalE Γ (.sl a lo hi) ρ = (evalE Γ a ρ).bind fun x ρ => (evalP Γ lo ρ).bind fun l ρ => (evalP Γ hi ρ).bind fun h ρ => ofO (slD x.1 l h) ρ := by simp only [evalE, evalP]
theorem evalE_lrg {a : E} : evalE Γ (.lrg a) ρ = (evalI Γ a ρ).bind fun ds ρ => if ds.length ≤ LIM then .ok (.lst ds, true) ρ else .bad := by simp only [evalE, evalI]
theorem evalI_rng1 {a : E} : evalI Γ (.rng1 a) ρ = (evalE Γ a ρ).bind fun x ρ => match x.1 with
    | .int n => if -(2 ^ 62) ≤ n ∧ n < 2 ^ 62 then .ok (rangeD 0 n.toNat) ρ else .bad
    | _ => .bad := by exact (if_neg (show ¬ (false = true) from Bool.false_ne_true)).trans (by simp only [evalJ])
theorem evalI_rng2 {a b : E} : evalI Γ (.rng2 a b) ρ = (evalE Γ a ρ).bind fun x ρ => (evalE Γ b ρ).bind fun y ρ => match x.1, y.1 with
    | .int m, .int n => if (-(2 ^ 62) ≤ m ∧ m < 2 ^ 62) ∧ (-(2 ^ 62) ≤ n ∧ n < 2 ^ 62) then .ok (rangeD m (n - m).toNat) ρ else .bad
    | _, _ => .bad := by exact (if_neg (show ¬ (false = true) from Bool.false_ne_true)).trans (by simp only [evalJ])
theorem evalI_enu {a : E} : evalI Γ (.enu a) ρ = (evalE Γ a ρ).bind fun x ρ => match x.1 with
    | .lst ds => .ok (enumD 0 ds) ρ
    | .tup ds => .ok (enumD 0 ds) ρ
    | _ => .bad := by exact (if_neg (show ¬ (false = true) from Bool.false_ne_true)).trans (by simp only [evalJ])
theorem evalI_zip {a b : E} : evalI Γ (.zip a b) ρ = (evalE Γ a ρ).bind fun x ρ => (evalE Γ b ρ).bind fun y ρ => match x.1, y.1 with
    | .lst m, .lst n => .ok (zipD m n) ρ
    | .tup m, .tup n => .ok (zipD m n) ρ
    | _, _ => .bad := by exact (if_neg (show ¬ (false = true) from Bool.false_ne_true)).trans (by simp only [evalJ])
theorem evalI_seq {t : E} (h : isSeqE t = true) (ρ : Env) : evalI Γ t ρ = (evalE Γ t ρ).bind fun x ρ => ofO (seqD x.1) ρ := by unfold evalI; rw [if_pos h]; rfl
end

/-! ### statements -/
inductive St where
  | set (i : Nat) (e : E)
  | own (i : Nat) (e : E)
  | mov (i j : Nat)
  | tgt (t : Tg) (e : E)
  | par (is : List Nat) (es : List E)
  | expr (e : E)
  | app (i : Nat) (e : E)
  | put (i : Nat) (k e : E)
  | ife (c : E) (a b : List St)
  | whl (c : E) (b : List St)
  | for_ (t : Tg) (src : E) (b : List St)
  | ret (e : E)
  | retO (i : Nat)
  | rse (x : Str)
  | tryS (b : List St) (hs : List (Str × List St))
  | shut (is : List Nat) (s : St)
inductive RS where
  | bad
  | nxt (ρ : Env)
  | ret (v : Vl) (ρ : Env)
  | err (x : Exn) (ρ : Env)
def RS.bind (r : RS) (f : Env → RS) : RS :=
  match r with
  | .nxt ρ => f ρ
  | r => r
@[simp] theorem RS.bind_nxt (ρ : Env) (f : Env → RS) : (RS.nxt ρ).bind f = f ρ := rfl
@[simp] theorem RS.bind_bad (f : Env → RS) : RS.bad.bind f = .bad := rfl
@[simp] theorem RS.bind_ret (v : Vl) (ρ : Env) (f : Env → RS) : (RS.ret v ρ).bind f = .ret v ρ := rfl
@[simp] theorem RS.bind_err (x : Exn) (ρ : Env) (f : Env → RS) : (RS.err x ρ).bind f = .err x ρ := rfl
def R.toS {α : Type} (r : R α) (f : α → Env → RS) : RS :=
  match r with
  | .bad => .bad
  | .ok a ρ => f a ρ
  | .err x ρ => .err x ρ
@[simp] theorem R.toS_ok {α : Type} (a : α) (ρ : Env) (f : α → Env → RS) : (R.ok a ρ).toS f = f a ρ := rfl
@[simp] theorem R.toS_bad {α : Type} (f : α → Env → RS) : (R.bad : R α).toS f = .bad := rfl
@[simp] theorem R.toS_err {α : Type} (x : Exn) (ρ : Env) (f : α → Env → RS) : (R.err x ρ : R α).toS f = .err x ρ := rfl
def R.toSB (r : R Vl) (f : Bool → Env → RS) : RS :=
  match r with
  | .ok (.bl b, _) ρ => f b ρ
  | .ok _ _ => .bad
  | .bad => .bad
  | .err x ρ => .err x ρ
@[simp] theorem R.toSB_ok (b fr : Bool) (ρ : Env) (f : Bool → Env → RS) : (R.ok (.bl b, fr) ρ).toSB f = f b ρ := rfl
@[simp] theorem R.toSB_bad (f : Bool → Env → RS) : (R.bad : R Vl).toSB f = .bad := rfl
@[simp] theorem R.toSB_err (x : Exn) (ρ : Env) (f : Bool → Env → RS) : (R.err x ρ : R Vl).toSB f = .err x ρ := rfl
def setS (i : Nat) (s : SV) (ρ : Env) : RS :=
  match ρ[i]? with
  | some (.io _) => .bad
  | some _ => .nxt (ρ.set i s)
  | none => .bad
def parS : List Nat → List D → Env → RS
  | [], [], ρ => .nxt ρ
  | i :: is, d :: ds, ρ => (setS i (.val d) ρ).bind (parS is ds)
  | _, _, _ => .bad
def ixD' (n : Nat) : D → Option Nat
  | .int i => ixN n i
  | _ => none
def ownAt (ρ : Env) (i : Nat) : Bool :=
  match ρ[i]? with
  | some s => s.isOwn
  | none => false
def forL (f : Env → RS) (t : Tg) : List D → Env → RS
  | [], ρ => .nxt ρ
  | d :: ds, ρ => match bindT t d ρ with
    | some ρ' => (f ρ').bind (forL f t ds)
    | none => .bad
def whlL (c : Env → R Vl) (f : Env → RS) : Nat → Env → RS
  | 0, _ => .bad
  | n + 1, ρ => (c ρ).toSB fun x ρ => match x with
    | true => (f ρ).bind (whlL c f n)
    | false => .nxt ρ
/-- owned no more: data from here on -/
def shutE : List Nat → Env → Option Env
  | [], ρ => some ρ
  | i :: is, ρ => match ρ[i]? with
    | some (.own d) => shutE is (ρ.set i (.val d))
    | _ => none
mutual
def evalS (Γ : Ctr) (N : Nat) : St → Env → RS
  | .set i e, ρ => (evalE Γ e ρ).toS fun x ρ => setS i (.val x.1) ρ
  | .own i e, ρ => (evalE Γ e ρ).toS fun x ρ => if x.2 then setS i (.own x.1) ρ else .bad
  | .mov i j, ρ => match ρ[j]? with
    | some (.own d) => if i = j then .bad else setS i (.val d) (ρ.set j .no)
    | _ => .bad
  | .tgt t e, ρ => (evalE Γ e ρ).toS fun x ρ => match bindT t x.1 ρ with
    | some ρ' => .nxt ρ'
    | none => .bad
  | .par is es, ρ => (evalL Γ es ρ).toS fun ds ρ => parS is ds ρ
  | .expr e, ρ => (evalE Γ e ρ).toS fun _ ρ => .nxt ρ
  | .app i e, ρ => match ρ[i]? with
    | some (.own (.lst _)) => (evalE Γ e ρ).toS fun x ρ => match ρ[i]? with
      | some (.own (.lst ds)) => if ds.length < LIM then .nxt (ρ.set i (.own (.lst (ds ++ [x.1])))) else .bad
      | _ => .bad
    | _ => .bad
  | .put i k e, ρ => (evalE Γ e ρ).toS fun x ρ => if ownAt ρ i then (evalE Γ k ρ).toS fun y ρ => match ρ[i]? with
    | some (.own (.lst ds)) => match ixD' ds.length y.1 with
      | some j => .nxt (ρ.set i (.own (.lst (ds.set j x.1))))
      | none => .bad
    | some (.io (.lst ds)) => match ixD' ds.length y.1 with
      | some j => .nxt (ρ.set i (.io (.lst (ds.set j x.1))))
      | none => .bad
    | _ => .bad
    else .bad
  | .ife c a b, ρ => (evalE Γ c ρ).toSB fun x ρ => match x with
    | true => evalSs Γ N a ρ
    | false => evalSs Γ N b ρ
  | .whl c b, ρ => whlL (evalE Γ c) (evalSs Γ N b) N ρ
  | .for_ t src b, ρ => (evalI Γ src ρ).toS fun ds ρ => forL (evalSs Γ N b) t ds ρ
  | .ret e, ρ => (evalE Γ e ρ).toS fun x ρ => .ret x ρ
  | .retO i, ρ => match ρ[i]? with
    | some (.own d) => .ret (d, true) (ρ.set i .no)
    | _ => .bad
  | .rse x, ρ => if Γ.ex x then .err ⟨x, []⟩ ρ else .bad
  | .tryS b hs, ρ => match evalSs Γ N b ρ with
    | .err x ρ' => evalH Γ N hs x ρ'
    | r => r
  | .shut is s, ρ => match shutE is ρ with
    | some ρ' => evalS Γ N s ρ'
    | none => .bad
def evalSs (Γ : Ctr) (N : Nat) : List St → Env → RS
  | [], ρ => .nxt ρ
  | s :: ss, ρ => (evalS Γ N s ρ).bind (evalSs Γ N ss)
def evalH (Γ : Ctr) (N : Nat) : List (Str × List St) → Exn → Env → RS
  | [], x, ρ => .err x ρ
  | (c, b) :: hs, x, ρ => match Γ.sub x.cls c with
    | some true => evalSs Γ N b ρ
    | some false => evalH Γ N hs x ρ
    | none => .bad
end

/-- a def's run on its arguments -/
def entry (n : Nat) (as : List AV) : Env := (as.map fun | .val d => SV.val d | .io d => SV.io d) ++ List.replicate (n - as.length) .no
def iosAt (as : List AV) (ρ : Env) : Option (List D) :=
  match as, ρ with
  | [], _ => some []
  | .val _ :: as, _ :: ρ => iosAt as ρ
  | .io _ :: as, .io d :: ρ => (iosAt as ρ).map (d :: ·)
  | _, _ => none
def runD (Γ : Ctr) (N n : Nat) (body : List St) (as : List AV) : CRes :=
  match evalSs Γ N body (entry n as) with
  | .nxt ρ => match iosAt as ρ with
    | some ds => .ok (.non, false) ds
    | none => .bad
  | .ret v ρ => match iosAt as ρ with
    | some ds => .ok v ds
    | none => .bad
  | .err x ρ => match iosAt as ρ with
    | some ds => .err x ds
    | none => .bad
  | .bad => .bad
end W2

/-! A frame's slots stand for an environment; what an evaluation is to reach. -/
namespace W2
open PySem L2

/-- the object at a is the datum d (a list or a dict), its items' own places apart -/
inductive RpO (S : Sur) (H : Hp) (O : Addr → Prop) : D → Addr → Prop
  | lst {ds : List D} {a : Addr} {xs : List V} : H a = some (.lst xs) → RpL S H O ds xs → RpO S H O (.lst ds) a
  | dic {ks vs : List D} {a : Addr} {o : Obj} {xs ys : List V} : H a = some (dicO a o) → EntV o xs ys → RpL S H O ks xs → RpL S H O vs ys → RpO S H O (.dic ks vs) a
section
variable {S : Sur} {O O' : Addr → Prop} {H H' Z : Hp} {d : D} {v : V} {a : Addr}
theorem RpO.there (r : RpO S H O d a) : ∃ o, H a = some o ∧ ¬ Fix o := by
  cases r with
  | lst e _ => exact ⟨_, e, fun z => z⟩
  | dic e _ _ _ => exact ⟨_, e, fun z => z⟩
theorem RpO.rp (r : RpO S H O d a) (w : ∀ b, O' b → O b) (n : ¬ O' a) : Rp S H O' d (.ref a) := by
  cases r with
  | lst e r => exact .lst e n (r.less w)
  | dic e x r1 r2 => exact .dic e n x (r1.less w) (r2.less w)
/-- the object itself stays, what it holds stays -/
theorem RpO.agr (r : RpO S H O d a) (e : H a = H' a) (g : Agr O H H') (w : ∀ a o, H a = some o → O' a → O a) : RpO S H' O' d a := by
  cases r with
  | lst q r => exact .lst (e ▸ q) (RpL.agr g w _ _ r)
  | dic q x r1 r2 => exact .dic (e ▸ q) x (RpL.agr g w _ _ r1) (RpL.agr g w _ _ r2)
theorem RpO.noT (r : RpO S H O d a) : ∃ o, H a = some o ∧ ¬ isTbl o := by
  cases r with
  | lst e _ => exact ⟨_, e, fun z => z⟩
  | dic e _ _ _ => exact ⟨_, e, fun z => z⟩
theorem RpO.sameN {t : Tb} (r : RpO S H O d a) (s : SameN t H H') : RpO S H' O d a := by
  obtain ⟨o, e, n⟩ := r.noT
  exact r.agr (e.trans (s _ _ e fun z => n z.2).symm) s.agr fun _ _ _ h => h
theorem RpO.same (r : RpO S H O d a) (s : Same H H') : RpO S H' O d a := by
  obtain ⟨o, e, n⟩ := r.noT
  exact r.agr (e.trans (s _ _ e).symm) s.agr fun _ _ _ h => h
theorem heap_at (a : Addr) (o : Obj) {es : Array DictEntry} {ep : Nat} (d : o.data = .dict es ep) : ∃ h : Heap, h.get? a = some o := by
  refine ⟨{ (default : Heap) with objs := Array.replicate (a + 1) o }, ?_⟩
  obtain ⟨c, di, da, sl⟩ := o
  simp only at d
  subst d
  simp [Heap.get?]
theorem codeO_dic {a : Addr} {q : Str} {o : Obj} {es : Array DictEntry} {ep : Nat} (d : o.data = .dict es ep) : LamX.CodeO a q ≠ dicO a o := fun z => by
  obtain ⟨h, e⟩ := heap_at a o d
  unfold LamX.CodeO dicO at z
  injection z with z
  obtain ⟨oc, vs, t, e1, e2, _⟩ := (congrFun z h).mpr e
  rw [e] at e1; cases e1
  rw [d] at e2; cases e2
theorem RpO.nc (r : RpO S H O d a) (q : Str) : H a ≠ some (LamX.CodeO a q) := fun z => by
  cases r with
  | lst e _ => rw [e] at z; cases z
  | dic e x _ _ =>
    obtain ⟨es, ep, _, h, _⟩ := x
    rw [e] at z
    exact codeO_dic h (Option.some.inj z).symm
/-- the table, where one object is changed that is none of its -/
theorem TabK.but {t : Tb} (k : TabK t H) (s : ∀ b o, b ≠ a → H b = some o → H' b = some o) (nt : ∃ o, H a = some o ∧ ¬ isTbl o) (nc : ∀ q, H a ≠ some (LamX.CodeO a q)) : TabK t H' := fun b q h => by
  obtain ⟨ps, e1, e2, e3⟩ := k b q h
  refine ⟨ps, s b _ (fun z => ?_) e1, e2, fun pos cv hc => ?_⟩
  · obtain ⟨o, e, n⟩ := nt
    rw [z, e] at e1; cases e1
    exact n True.intro
  · obtain ⟨c, h1, h2⟩ := e3 pos cv hc
    refine ⟨c, h1, s c _ (fun z => ?_) h2⟩
    rw [z] at h2
    exact nc q h2
theorem RpO.add {b : Addr} (r : RpO S H O d a) (n : H b = none) (s : Same H H') : RpO S H' (orA O b) d a := by
  obtain ⟨o, e, _⟩ := r.there
  exact r.agr (e.trans (s _ _ e).symm) s.agr fun c o e h => h.elim id fun z => by rw [z, n] at e; cases e
end

/-- what a run may lean on: the part of the heap that stays, what the callers own, what was owned at the start -/
structure Bd where
  Z : Hp
  O0 : Addr → Prop
  OX : Addr → Prop
  at_ : Nat → Option Addr
  tb : Tb
  nt : ∀ a o, Z a = some o → ¬ hid tb o
structure Bd.le (B B' : Bd) : Prop where
  z : Same B.Z B'.Z
  o : ∀ a, B'.O0 a ↔ B.O0 a
  x : ∀ a, B'.OX a → B.OX a ∨ B.Z a = none
  t : B'.at_ = B.at_
  b : B'.tb = B.tb
theorem none_of {H H' : Hp} (s : Same H H') {a : Addr} (n : H' a = none) : H a = none := by
  cases e : H a with
  | none => rfl
  | some u => rw [s a u e] at n; cases n
theorem Bd.le.rfl {B : Bd} : B.le B := ⟨Same.refl _, fun _ => Iff.rfl, fun _ h => .inl h, Eq.refl _, Eq.refl _⟩
theorem Bd.le.trans {B B1 B2 : Bd} (a : B.le B1) (b : B1.le B2) : B.le B2 :=
  ⟨a.z.trans b.z, fun x => (b.o x).trans (a.o x), fun x h => (b.x x h).elim (a.x x) fun n => .inr (none_of a.z n), b.t.trans a.t, b.b.trans a.b⟩

/-- an owned slot's object is not the callers', a lent slot's is where it was -/
def Mn (B : Bd) (s : SV) (i : Nat) (a : Addr) : Prop :=
  match s with
  | .own _ => ¬ B.O0 a
  | .io _ => B.at_ i = some a
  | _ => True
structure SR (S : Sur) (B : Bd) (ρ : Env) (σ : L2.St) (H : Hp) (O : Addr → Prop) : Prop where
  keep : Same B.Z H
  sub : ∀ a, B.O0 a → O a
  top : ∀ a, O a → B.OX a ∨ B.Z a = none
  al : TabK B.tb H ∧ ∀ a, O a → ∃ o, H a = some o ∧ ¬ isTbl o
  len : ρ.length = σ.length
  val : ∀ (i : Nat) (d : D), ρ[i]? = some (.val d) → ∃ v, σ[i]? = some (some v) ∧ Rp S H O d v
  own : ∀ (i : Nat) (s : SV) (d : D), ρ[i]? = some s → s.isOwn = true → s.dat = some d → ∃ a, σ[i]? = some (some (.ref a)) ∧ O a ∧ B.Z a = none ∧ RpO S H O d a
  mine : ∀ (i : Nat) (s : SV) (a : Addr), ρ[i]? = some s → σ[i]? = some (some (.ref a)) → Mn B s i a
  sep : ∀ (i j : Nat) (s t : SV) (a : Addr), ρ[i]? = some s → s.isOwn = true → ρ[j]? = some t → t.isOwn = true → σ[i]? = some (some (.ref a)) → σ[j]? = some (some (.ref a)) → i = j

theorem Mn.le {B B' : Bd} {s : SV} {i : Nat} {a : Addr} (m : Mn B' s i a) (l : B.le B') : Mn B s i a := by
  cases s with
  | own d => exact fun h => m ((l.o a).mpr h)
  | io d => exact (congrFun l.t i).symm.trans m
  | _ => trivial
theorem Mn.plain {B : Bd} {s : SV} {i : Nat} {a : Addr} (h : s.isOwn = false) : Mn B s i a := by
  cases s with
  | own d => cases h
  | io d => cases h
  | _ => trivial
theorem Mn.put {B : Bd} {s : SV} {i : Nat} {a : Addr} {d : D} (m : Mn B s i a) : Mn B (s.put d) i a := by
  cases s with
  | own d => exact m
  | io d => exact m
  | _ => trivial
/-- some slot owns the object at a -/
def OwnA (ρ : Env) (σ : L2.St) (a : Addr) : Prop := ∃ (i : Nat) (s : SV), ρ[i]? = some s ∧ s.isOwn = true ∧ σ[i]? = some (some (.ref a))
open Classical in
/-- the part of the heap that no slot owns -/
noncomputable def stb (t : Tb) (ρ : Env) (σ : L2.St) (H : Hp) : Hp := fun a => if OwnA ρ σ a ∨ ∃ o, H a = some o ∧ hid t o then none else H a
theorem SV.dat_own {s : SV} (h : s.isOwn = true) : ∃ d, s.dat = some d := by
  cases s with
  | no => cases h
  | val d => cases h
  | own d => exact ⟨d, rfl⟩
  | io d => exact ⟨d, rfl⟩
section
variable {S : Sur} {O O' : Addr → Prop} {H H' : Hp} {B B' : Bd} {ρ ρ' : Env} {σ : L2.St} {d : D} {v : V} {a : Addr}
theorem stb_own {t : Tb} (h : OwnA ρ σ a) : stb t ρ σ H a = none := by unfold stb; rw [if_pos (.inl h)]
theorem stb_not {t : Tb} (h : ¬ OwnA ρ σ a) {o : HO} (e : H a = some o) (n : ¬ hid t o) : stb t ρ σ H a = some o := by
  unfold stb
  rw [if_neg (fun z => z.elim h fun ⟨o', e', q⟩ => by rw [e] at e'; cases e'; exact n q), e]
theorem stb_some {t : Tb} {o : HO} (e : stb t ρ σ H a = some o) : ¬ OwnA ρ σ a ∧ H a = some o ∧ ¬ hid t o := by
  unfold stb at e
  split at e
  · cases e
  · rename_i h
    exact ⟨fun z => h (.inl z), e, fun z => h (.inr ⟨_, e, z⟩)⟩
theorem SR.ownA (r : SR S B ρ σ H O) (h : OwnA ρ σ a) : O a ∧ B.Z a = none ∧ ∃ o, H a = some o ∧ ¬ Fix o := by
  obtain ⟨i, s, e1, e2, e3⟩ := h
  obtain ⟨d, e4⟩ := SV.dat_own e2
  obtain ⟨b, e5, o, z, q⟩ := r.own i s d e1 e2 e4
  rw [e3] at e5; cases e5
  exact ⟨o, z, q.there⟩
theorem SR.ownO (r : SR S B ρ σ H O) (h : OwnA ρ σ a) : O a := (r.ownA h).1
theorem SR.ownZ (r : SR S B ρ σ H O) (h : OwnA ρ σ a) : B.Z a = none := (r.ownA h).2.1
theorem SR.ownFix (r : SR S B ρ σ H O) (h : OwnA ρ σ a) : ∃ o, H a = some o ∧ ¬ Fix o := (r.ownA h).2.2
/-- back to weaker bounds -/
theorem SR.weak (r : SR S B' ρ σ H O) (l : B.le B') : SR S B ρ σ H O := by
  refine ⟨l.z.trans r.keep, fun a h => r.sub a ((l.o a).mpr h), fun a h => ?_, ⟨l.b ▸ r.al.1, r.al.2⟩, r.len, r.val, fun i t d e1 e2 e3 => ?_, fun i s a e1 e2 => (r.mine i s a e1 e2).le l, r.sep⟩
  · rcases r.top a h with h | h
    · exact l.x a h
    · exact .inr (none_of l.z h)
  · obtain ⟨a, e4, o, z, q⟩ := r.own i t d e1 e2 e3
    exact ⟨a, e4, o, none_of l.z z, q⟩
/-- the bounds from here on -/
noncomputable def bdAt (B : Bd) (ρ : Env) (σ : L2.St) (H : Hp) (O : Addr → Prop) : Bd := ⟨stb B.tb ρ σ H, B.O0, O, B.at_, B.tb, fun _ _ e => (stb_some e).2.2⟩
theorem SR.stab (r : SR S B ρ σ H O) : SR S (bdAt B ρ σ H O) ρ σ H O := by
  refine ⟨fun a o e => ?_, r.sub, fun a h => .inl h, r.al, r.len, r.val, fun i t d e1 e2 e3 => ?_, r.mine, r.sep⟩
  · exact (stb_some e).2.1
  · obtain ⟨a, e4, o, z, q⟩ := r.own i t d e1 e2 e3
    exact ⟨a, e4, o, stb_own ⟨i, t, e1, e2, e4⟩, q⟩
theorem SR.up (r : SR S B ρ σ H O) : B.le (bdAt B ρ σ H O) := by
  refine ⟨fun a o e => ?_, fun _ => Iff.rfl, r.top, rfl, rfl⟩
  have h : ¬ OwnA ρ σ a := fun h => by rw [r.ownZ h] at e; cases e
  exact stb_not h (r.keep a o e) (B.nt a o e)
theorem SR.agr (r : SR S B ρ σ H O) (s : Same (stb B.tb ρ σ H) H') : Agr O H H' := fun a o e h nt => by
  refine s a o (stb_not (fun w => ?_) e fun z => nt z.2)
  rcases h with h | h
  · obtain ⟨u, e1, n⟩ := r.ownFix w
    rw [e] at e1; cases e1
    exact n h
  · exact h (r.ownO w)
/-- what was read stays while the owned ones change -/
theorem SR.carry (r : SR S B ρ σ H O) (s : Same (stb B.tb ρ σ H) H') (q : Rp S H O d v) : Rp S H' O d v := q.agr (r.agr s) (fun _ _ _ h => h) d v
theorem SR.carryL {ds : List D} {vs : List V} (r : SR S B ρ σ H O) (s : Same (stb B.tb ρ σ H) H') (q : RpL S H O ds vs) : RpL S H' O ds vs := q.agr (r.agr s) (fun _ _ _ h => h) ds vs
theorem SR.sameN (r : SR S B ρ σ H O) (s : SameN B.tb H H') (k : TabK B.tb H') : SR S B ρ σ H' O := by
  refine ⟨fun a o e => s a o (r.keep a o e) (B.nt a o e), r.sub, r.top, ⟨k, fun a h => ?_⟩, r.len, fun i d e => ?_, fun i t d e1 e2 e3 => ?_, r.mine, r.sep⟩
  · obtain ⟨o, e, n⟩ := r.al.2 a h
    exact ⟨o, s a o e (fun z => n z.2), n⟩
  · obtain ⟨v, e1, q⟩ := r.val i d e
    exact ⟨v, e1, q.agr s.agr (fun _ _ _ h => h) _ _⟩
  · obtain ⟨a, e4, o, z, q⟩ := r.own i t d e1 e2 e3
    exact ⟨a, e4, o, z, q.sameN s⟩
theorem SR.same (r : SR S B ρ σ H O) (s : Same H H') : SR S B ρ σ H' O := r.sameN s.n (r.al.1.ext s)
theorem SR.there (r : SR S B ρ σ H O) (h : O a) : H a ≠ none := by
  obtain ⟨o, e, _⟩ := r.al.2 a h
  rw [e]; exact fun z => nomatch z
theorem SR.fresh (r : SR S B ρ σ H O) (n : H a = none) : B.Z a = none ∧ ¬ O a := ⟨none_of r.keep n, fun h => r.there h n⟩
/-- a new object, owned by nobody yet -/
theorem SR.new (r : SR S B ρ σ H O) (s : Same H H') (n : H a = none) (t : ∃ o, H' a = some o ∧ ¬ isTbl o) : SR S B ρ σ H' (orA O a) := by
  refine ⟨r.keep.trans s, fun b h => .inl (r.sub b h), fun b h => ?_, ⟨r.al.1.ext s, fun b h => ?_⟩, r.len, fun i d e => ?_, fun i t d e1 e2 e3 => ?_, r.mine, r.sep⟩
  · rcases h with h | h
    · exact r.top b h
    · rw [h]; exact .inr (r.fresh n).1
  · rcases h with h | h
    · exact (r.same s).al.2 b h
    · rw [h]; exact t
  · obtain ⟨v, e1, q⟩ := r.val i d e
    exact ⟨v, e1, q.add n s⟩
  · obtain ⟨b, e4, o, z, q⟩ := r.own i t d e1 e2 e3
    exact ⟨b, e4, .inl o, z, q.add n s⟩
theorem RpO.less (q : RpO S H O d a) (w : ∀ b, O' b → O b) : RpO S H O' d a := by
  cases q with
  | lst e q => exact .lst e (q.less w)
  | dic e x q1 q2 => exact .dic e x (q1.less w) (q2.less w)
theorem SR.drop (r : SR S B ρ σ H (orA O a)) (h1 : ∀ b, B.O0 b → O b) (h2 : ∀ b, OwnA ρ σ b → O b) : SR S B ρ σ H O := by
  refine ⟨r.keep, h1, fun b h => r.top b (.inl h), ⟨r.al.1, fun b h => r.al.2 b (.inl h)⟩, r.len, fun i d e => ?_, fun i t d e1 e2 e3 => ?_, r.mine, r.sep⟩
  · obtain ⟨v, e1, q⟩ := r.val i d e
    exact ⟨v, e1, q.less fun _ h => .inl h⟩
  · obtain ⟨b, e4, o, z, q⟩ := r.own i t d e1 e2 e3
    exact ⟨b, e4, h2 b ⟨i, t, e1, e2, e4⟩, z, q.less fun _ h => .inl h⟩
end

/-- an exception of the module's class -/
def RpX (S : Sur) (H : Hp) (O : Addr → Prop) (x : Exn) (cls : Value) (dd : Option Addr) : Prop :=
  (∃ C, cls = .ref C ∧ S.mg x.cls = some (.ref C)) ∧
    ((x.flds = [] ∧ dd = none) ∨ ∃ (p : Addr) (fs : List (Str × V)), dd = some p ∧ H p = some (.xd fs) ∧ ∀ f d, x.flds.lookup f = some d → ∃ v, fs.lookup f = some v ∧ Rp S H O d v)

/-- what an expression is to reach -/
def GE (S : Sur) (B : Bd) (σ : L2.St) (O : Addr → Prop) (Q : VK) (W : WX) (r : R Vl) : Prop :=
  match r with
  | .bad => False
  | .ok (d, false) ρ => ∀ v H, SR S B ρ σ H O → Rp S H O d v → Q v H
  | .ok (d, true) ρ => ∀ a H, SR S B ρ σ H (orA O a) → B.Z a = none → ¬ O a → (∀ b, OwnA ρ σ b → O b) → RpO S H (orA O a) d a → Q (.ref a) H
  | .err x ρ => ∀ cls dd H, SR S B ρ σ H O → RpX S H O x cls dd → W cls dd σ H
/-- the same for other readings -/
def GG {α β : Type} (S : Sur) (B : Bd) (σ : L2.St) (O : Addr → Prop) (P : α → Env → Hp → β → Prop) (Q : β → Hp → Prop) (W : WX) (r : R α) : Prop :=
  match r with
  | .bad => False
  | .ok a ρ => ∀ b H, SR S B ρ σ H O → P a ρ H b → Q b H
  | .err x ρ => ∀ cls dd H, SR S B ρ σ H O → RpX S H O x cls dd → W cls dd σ H
/-- a test -/
def GT (S : Sur) (B : Bd) (σ : L2.St) (O : Addr → Prop) (Q : Bool → Hp → Prop) (W : WX) (r : R Vl) : Prop :=
  match r with
  | .ok (.bl b, _) ρ => ∀ H, SR S B ρ σ H O → Q b H
  | .ok _ _ => False
  | .bad => False
  | .err x ρ => ∀ cls dd H, SR S B ρ σ H O → RpX S H O x cls dd → W cls dd σ H
section
variable {S : Sur} {O : Addr → Prop} {H H' : Hp} {B B' : Bd} {ρ ρ' : Env} {σ : L2.St} {Q Q' : VK} {W : WX} {d : D} {v : V} {a : Addr} {fr : Bool} {α β γ δ : Type}
theorem GE.val (h : ∀ v H, SR S B ρ σ H O → Rp S H O d v → Q v H) (h0 : ∀ b, B.O0 b → O b) : GE S B σ O Q W (.ok (d, fr) ρ) := by
  cases fr with
  | false => exact h
  | true => exact fun a H r _ n o q => h _ H (r.drop h0 o) (q.rp (fun _ h => .inl h) n)
theorem GE.up {r : R Vl} (g : GE S B σ O Q W r) (l : B.le B') : GE S B' σ O Q W r := by
  match r, g with
  | .ok (d, false) ρ, g => exact fun v H r q => g v H (r.weak l) q
  | .ok (d, true) ρ, g => exact fun a H r z n o q => g a H (r.weak l) (none_of l.z z) n o q
  | .err x ρ, g => exact fun c dd H r q => g c dd H (r.weak l) q
theorem GG.up {P : α → Env → Hp → β → Prop} {Q : β → Hp → Prop} {r : R α} (g : GG S B σ O P Q W r) (l : B.le B') : GG S B' σ O P Q W r := by
  match r, g with
  | .ok a ρ, g => exact fun b H r => g b H (r.weak l)
  | .err x ρ, g => exact fun c dd H r q => g c dd H (r.weak l) q
/-- one evaluation, then the rest -/
theorem GE.step {r : R Vl} {f : Vl → Env → R Vl} (g : GE S B σ O Q W (r.bind f)) (h0 : ∀ b, B.O0 b → O b)
    (k : ∀ x ρ1 v H1, SR S B ρ1 σ H1 O → Rp S H1 O x.1 v → GE S B σ O Q W (f x ρ1) → Q' v H1) : GE S B σ O Q' W r := by
  match r, g with
  | .ok (d, fr) ρ, g => exact GE.val (fun v H r q => k (d, fr) ρ v H r q g) h0
  | .err x ρ, g => exact g
theorem GE.stepG {P : α → Env → Hp → β → Prop} {Q' : β → Hp → Prop} {r : R α} {f : α → Env → R Vl} (g : GE S B σ O Q W (r.bind f))
    (k : ∀ x ρ1 b H1, SR S B ρ1 σ H1 O → P x ρ1 H1 b → GE S B σ O Q W (f x ρ1) → Q' b H1) : GG S B σ O P Q' W r := by
  match r, g with
  | .ok x ρ, g => exact fun b H r q => k x ρ b H r q g
  | .err x ρ, g => exact g
theorem GG.stepE {P : α → Env → Hp → β → Prop} {Q : β → Hp → Prop} {r : R Vl} {f : Vl → Env → R α} (g : GG S B σ O P Q W (r.bind f)) (h0 : ∀ b, B.O0 b → O b)
    (k : ∀ x ρ1 v H1, SR S B ρ1 σ H1 O → Rp S H1 O x.1 v → GG S B σ O P Q W (f x ρ1) → Q' v H1) : GE S B σ O Q' W r := by
  match r, g with
  | .ok (d, fr) ρ, g => exact GE.val (fun v H r q => k (d, fr) ρ v H r q g) h0
  | .err x ρ, g => exact g
theorem GG.step {P : α → Env → Hp → β → Prop} {Q : β → Hp → Prop} {P' : γ → Env → Hp → δ → Prop} {Q' : δ → Hp → Prop} {r : R γ} {f : γ → Env → R α} (g : GG S B σ O P Q W (r.bind f))
    (k : ∀ x ρ1 b H1, SR S B ρ1 σ H1 O → P' x ρ1 H1 b → GG S B σ O P Q W (f x ρ1) → Q' b H1) : GG S B σ O P' Q' W r := by
  match r, g with
  | .ok x ρ, g => exact fun b H r q => k x ρ b H r q g
  | .err x ρ, g => exact g
end

section
variable {S : Sur} {O : Addr → Prop} {H H' : Hp} {B B' : Bd} {ρ ρ' : Env} {σ : L2.St} {Q Q' : VK} {W : WX} {α β γ δ : Type}
theorem GT.up {Q : Bool → Hp → Prop} {r : R Vl} (g : GT S B σ O Q W r) (l : B.le B') : GT S B' σ O Q W r := by
  match r, g with
  | .ok (.bl b, fr) ρ, g => exact fun H r => g H (r.weak l)
  | .err x ρ, g => exact fun c dd H r q => g c dd H (r.weak l) q
theorem GE.stepB {Q' : Bool → Hp → Prop} {r : R Vl} {f : Bool → Env → R Vl} (g : GE S B σ O Q W (r.bindB f))
    (k : ∀ b ρ1 H1, SR S B ρ1 σ H1 O → GE S B σ O Q W (f b ρ1) → Q' b H1) : GT S B σ O Q' W r := by
  match r, g with
  | .ok (.bl b, fr) ρ, g => exact fun H r => k b ρ H r g
  | .err x ρ, g => exact g
theorem GT.stepB {Q Q' : Bool → Hp → Prop} {r : R Vl} {f : Bool → Env → R Vl} (g : GT S B σ O Q W (r.bindB f))
    (k : ∀ b ρ1 H1, SR S B ρ1 σ H1 O → GT S B σ O Q W (f b ρ1) → Q' b H1) : GT S B σ O Q' W r := by
  match r, g with
  | .ok (.bl b, fr) ρ, g => exact fun H r => k b ρ H r g
  | .err x ρ, g => exact g
theorem GG.stepB {P : α → Env → Hp → β → Prop} {Q : β → Hp → Prop} {Q' : Bool → Hp → Prop} {r : R Vl} {f : Bool → Env → R α} (g : GG S B σ O P Q W (r.bindB f))
    (k : ∀ b ρ1 H1, SR S B ρ1 σ H1 O → GG S B σ O P Q W (f b ρ1) → Q' b H1) : GT S B σ O Q' W r := by
  match r, g with
  | .ok (.bl b, fr) ρ, g => exact fun H r => k b ρ H r g
  | .err x ρ, g => exact g
theorem GT.step {Q : Bool → Hp → Prop} {r : R Vl} {f : Vl → Env → R Vl} (g : GT S B σ O Q W (r.bind f)) (h0 : ∀ b, B.O0 b → O b)
    (k : ∀ x ρ1 v H1, SR S B ρ1 σ H1 O → Rp S H1 O x.1 v → GT S B σ O Q W (f x ρ1) → Q' v H1) : GE S B σ O Q' W r := by
  match r, g with
  | .ok (d, fr) ρ, g => exact GE.val (fun v H r q => k (d, fr) ρ v H r q g) h0
  | .err x ρ, g => exact g
/-- a test by its value -/
theorem GT.val {Q : Bool → Hp → Prop} {r : R Vl} (g : GT S B σ O Q W r) (h0 : ∀ b, B.O0 b → O b) (k : ∀ b H1, Q b H1 → Q' (.bl b) H1) : GE S B σ O Q' W r := by
  match r, g with
  | .ok (.bl b, fr) ρ, g => exact GE.val (fun v H r q => by cases q; exact k b H (g H r)) h0
  | .err x ρ, g => exact g
end

/-- a new value on the way out of an operation -/
def Post (S : Sur) (H : Hp) (O : Addr → Prop) (v : Vl) (Q : VK) : Prop :=
  match v with
  | (d, false) => ∀ w H', Same H H' → Rp S H' O d w → Q w H'
  | (d, true) => ∀ a H', Same H H' → H a = none → RpO S H' (orA O a) d a → Q (.ref a) H'
theorem GE.post {S : Sur} {O : Addr → Prop} {H : Hp} {B : Bd} {ρ : Env} {σ : L2.St} {Q : VK} {W : WX} {v : Vl} (g : GE S B σ O Q W (.ok v ρ)) (r : SR S B ρ σ H O) : Post S H O v Q := by
  match v, g with
  | (d, false), g => exact fun w H' s q => g w H' (r.same s) q
  | (d, true), g =>
    intro a H' s n q
    obtain ⟨o, e, _⟩ := q.there
    obtain ⟨z, no⟩ := r.fresh n
    exact g a H' (r.new s n q.noT) z no (fun b h => r.ownO h) q
theorem GE.post' {S : Sur} {O : Addr → Prop} {H : Hp} {B : Bd} {ρ : Env} {σ : L2.St} {Q : VK} {W : WX} {o : Option Vl} (g : GE S B σ O Q W (ofO o ρ)) (r : SR S B ρ σ H O) : ∃ v, o = some v ∧ Post S H O v Q := by
  cases o with
  | none => exact False.elim g
  | some v => exact ⟨v, rfl, g.post r⟩
theorem Post.int {S : Sur} {H : Hp} {O : Addr → Prop} {Q : VK} {i : Int} (p : Post S H O (.int i, false) Q) : Q (.int i) H := p _ H (Same.refl H) (.int i)
theorem Post.bl {S : Sur} {H : Hp} {O : Addr → Prop} {Q : VK} {i : Bool} (p : Post S H O (.bl i, false) Q) : Q (.bl i) H := p _ H (Same.refl H) (.bl i)
theorem Post.str {S : Sur} {H : Hp} {O : Addr → Prop} {Q : VK} {i : Str} (p : Post S H O (.str i, false) Q) : Q (.str i) H := p _ H (Same.refl H) (.str i)
theorem Post.old {S : Sur} {H : Hp} {O : Addr → Prop} {Q : VK} {d : D} {v : V} (p : Post S H O (d, false) Q) (r : Rp S H O d v) : Q v H := p v H (Same.refl H) r
theorem Post.tup {S : Sur} {H : Hp} {O : Addr → Prop} {Q : VK} {ds : List D} {xs : List V} {p : Addr} (h : Post S H O (.tup ds, false) Q) (r : RpL S H O ds xs) (n : H p = none) : Q (.ref p) (upd H p (.tup xs)) :=
  h _ _ (Same.new n) (.tup (SqT.of upd_same) (r.same (Same.new n)))
theorem Post.lst {S : Sur} {H : Hp} {O : Addr → Prop} {Q : VK} {ds : List D} {xs : List V} {p : Addr} (h : Post S H O (.lst ds, true) Q) (r : RpL S H O ds xs) (n : H p = none) : Q (.ref p) (upd H p (.lst xs)) :=
  h _ _ (Same.new n) n (.lst upd_same (r.add n (Same.new n)))

/-! ### operators -/
abbrev sur (X : Cx) : Sur := ⟨X.K, X.mg⟩
def rBin (S : Sur) (op : Operator) : R2 := fun v u H Q => ∃ O x y z, Rp S H O x v ∧ Rp S H O y u ∧ binD op x y = some z ∧ Post S H O z Q
theorem LIM_le {n : Nat} (h : n ≤ LIM) : n ≤ sizeLine := Nat.le_trans h (by decide)
theorem RpL.repl {S : Sur} {H : Hp} {O : Addr → Prop} {ds : List D} {xs : List V} (r : RpL S H O ds xs) : ∀ n, RpL S H O (List.replicate n ds).flatten (List.replicate n xs).flatten
  | 0 => .nil
  | n + 1 => by
    simp only [List.replicate_succ, List.flatten_cons]
    exact r.append (RpL.repl r n)
theorem op_bin (X : Cx) (op : Operator) : OpR X (binaryOp op) (rBin (sur X) op) := by
  intro pins s σ H v u a b Q I ra rb h
  obtain ⟨O, x, y, z, rx, ry, e, p⟩ := h
  unfold binD at e
  split at e
  · cases e; cases rx; cases ry
    exact op_add pins s σ H _ _ _ _ Q I ra rb ⟨_, _, rfl, rfl, p.int⟩
  · split at e
    · rename_i hl
      cases e
      cases rx with
      | tup qa la =>
        cases ry with
        | tup qb lb =>
          refine op_catA pins s σ H _ _ _ _ Q I ra rb ⟨_, _, _, _, rfl, rfl, qa, qb, ?_, fun e => ?_, fun _ e => ?_, fun _ _ p' n => ?_⟩
          · rw [← la.length, ← lb.length]; exact LIM_le hl
          · subst e
            cases la
            exact p.old (.tup qb lb)
          · subst e
            cases lb
            rw [List.append_nil] at p
            exact p.old (.tup qa la)
          · exact p.tup (la.append lb) n
    · cases e
  · split at e
    · rename_i hl
      cases e
      cases rx with
      | lst qa na la =>
        cases ry with
        | lst qb nb lb =>
          refine op_cat pins s σ H _ _ _ _ Q I ra rb ⟨_, _, _, _, rfl, rfl, qa, qb, ?_, fun p' n => p.lst (la.append lb) n⟩
          rw [← la.length, ← lb.length]
          have : (100000 : Nat) + 100000 ≤ sizeLine := by decide
          have h1 := hl.1
          have h2 := hl.2
          unfold LIM at h1 h2
          omega
    · cases e
  · split at e
    · rename_i hl
      cases e; cases rx; cases ry
      exact op_add_str pins s σ H _ _ _ _ Q I ra rb ⟨_, _, rfl, rfl, LIM_le hl, p.str⟩
    · cases e
  · cases e; cases rx; cases ry
    exact op_sub pins s σ H _ _ _ _ Q I ra rb ⟨_, _, rfl, rfl, p.int⟩
  · split at e
    · rename_i hl
      cases e; cases rx; cases ry
      exact op_mul pins s σ H _ _ _ _ Q I ra rb ⟨_, _, rfl, rfl, hl, p.int⟩
    · cases e
  · split at e
    · rename_i hl
      cases e
      cases ry
      cases rx with
      | lst qa na la =>
        refine op_rep pins s σ H _ _ _ _ Q I ra rb ⟨_, _, _, rfl, rfl, qa, by omega, by omega, ?_, fun p' n => p.lst (la.repl _) n⟩
        rw [← la.length]
        have h1 := hl.2.2
        have h2 : Int.toNat _ ≤ 1000 := Int.toNat_le.mpr hl.2.1
        exact Nat.le_trans (Nat.mul_le_mul h1 h2) (by decide)
    · cases e
  · split at e
    · rename_i hl
      cases e
      cases ry
      cases rx with
      | tup qa la =>
        refine op_repT pins s σ H _ _ _ _ Q I ra rb ⟨_, _, _, rfl, rfl, qa, fun z => ?_, hl.2.1, hl.2.2.1, ?_, fun p' n => p.tup (la.repl _) n⟩
        · subst z; cases la; exact hl.1 rfl
        · rw [← la.length]
          exact Nat.le_trans hl.2.2.2 (by decide)
    · cases e
  · split at e
    · rename_i hl
      cases e; cases rx; cases ry
      exact op_mod pins s σ H _ _ _ _ Q I ra rb ⟨_, _, rfl, rfl, hl, p.int⟩
    · cases e
  · split at e
    · rename_i hl
      cases e; cases rx; cases ry
      exact op_fdiv pins s σ H _ _ _ _ Q I ra rb ⟨_, _, rfl, rfl, hl, p.int⟩
    · cases e
  · split at e
    · rename_i hl
      cases e; cases rx; cases ry
      exact op_pow pins s σ H _ _ _ _ Q I ra rb ⟨_, _, rfl, rfl, hl, p.int⟩
    · cases e
  · cases e
end W2

/-! The operations on data are the model's. -/
namespace W2
open PySem L2
mutual
theorem D.eqv_py : ∀ a b : D, a.plain = true → b.plain = true → PyData.eqv a.py b.py = a.eqv b
  | .non, b, _, hb => by cases b <;> simp [D.py, PyData.eqv, D.eqv] <;> simp [D.plain] at hb
  | .bl x, b, _, hb => by cases b <;> simp [D.py, PyData.eqv, D.eqv] <;> simp [D.plain] at hb
  | .int x, b, _, hb => by cases b <;> simp [D.py, PyData.eqv, D.eqv] <;> simp [D.plain] at hb
  | .str x, b, _, hb => by
    cases b with
    | str y => simp only [D.py, PyData.eqv, D.eqv]; rfl
    | _ => simp [D.py, PyData.eqv, D.eqv] <;> simp [D.plain] at hb
  | .tup as, b, ha, hb => by
    cases b with
    | tup bs => simp only [D.py, PyData.eqv, D.eqv]; exact D.eqv_pyL as bs (by simpa [D.plain] using ha) (by simpa [D.plain] using hb)
    | _ => simp [D.py, PyData.eqv, D.eqv] <;> simp [D.plain] at hb
  | .lst as, b, ha, hb => by
    cases b with
    | lst bs => simp only [D.py, PyData.eqv, D.eqv]; exact D.eqv_pyL as bs (by simpa [D.plain] using ha) (by simpa [D.plain] using hb)
    | _ => simp [D.py, PyData.eqv, D.eqv] <;> simp [D.plain] at hb
  | .dic ks vs, b, ha, _ => by simp [D.plain] at ha
  | .frz ds, b, ha, _ => by simp [D.plain] at ha
  | .fn x, b, ha, _ => by simp [D.plain] at ha
theorem D.eqv_pyL : ∀ as bs : List D, D.plainL as = true → D.plainL bs = true → PyData.eqvAll (D.pyL as) (D.pyL bs) = D.eqvL as bs
  | [], [], _, _ => by simp [D.pyL, PyData.eqvAll, D.eqvL]
  | [], b :: bs, _, _ => by simp [D.pyL, PyData.eqvAll, D.eqvL]
  | a :: as, [], _, _ => by simp [D.pyL, PyData.eqvAll, D.eqvL]
  | a :: as, b :: bs, ha, hb => by
    simp only [D.plainL, Bool.and_eq_true] at ha hb
    simp only [D.pyL, PyData.eqvAll, D.eqvL]
    rw [D.eqv_py a b ha.1 hb.1, D.eqv_pyL as bs ha.2 hb.2]
end
mutual
theorem D.dep_py : ∀ d : D, d.py.depth ≤ d.dep + 1
  | .non => by simp [D.py, PyData.depth]
  | .bl _ => by simp [D.py, PyData.depth]
  | .int _ => by simp [D.py, PyData.depth]
  | .str _ => by simp [D.py, PyData.depth]
  | .dic _ _ => by simp [D.py, PyData.depth, PyData.depthKv, D.dep]
  | .frz _ => by simp [D.py, PyData.depth, PyData.depthKv, D.dep]
  | .fn _ => by simp [D.py, PyData.depth, PyData.depthKv, D.dep]
  | .tup ds => by
    have := D.dep_pyL ds
    simp only [D.py, PyData.depth, D.dep]
    omega
  | .lst ds => by
    have := D.dep_pyL ds
    simp only [D.py, PyData.depth, D.dep]
    omega
theorem D.dep_pyL : ∀ ds : List D, PyData.depthAll (D.pyL ds) ≤ D.depL ds + 1
  | [] => by simp [D.pyL, PyData.depthAll]
  | d :: ds => by
    have h1 := D.dep_py d
    have h2 := D.dep_pyL ds
    simp only [D.pyL, PyData.depthAll, D.depL]
    omega
end
theorem good_pl {d : D} (h : d.good = true) : d.plain = true := by
  unfold D.good at h
  rw [Bool.and_eq_true] at h
  exact h.1
theorem good_dp {d : D} (h : d.good = true) : d.py.depth ≤ 61 := by
  unfold D.good at h
  rw [Bool.and_eq_true, decide_eq_true_eq] at h
  have := D.dep_py d
  omega
theorem good_sh {d : D} (h : d.good = true) : SeqAt.shaped d.py = true := by
  unfold SeqAt.shaped
  rw [Bool.and_eq_true, decide_eq_true_eq]
  exact ⟨D.lay d (good_pl h), Nat.le_trans (good_dp h) (by decide)⟩
theorem D.pyL_map : ∀ ds : List D, D.pyL ds = ds.map D.py
  | [] => rfl
  | d :: ds => by simp [D.pyL, D.pyL_map ds]
theorem D.plainL_all : ∀ ds : List D, D.plainL ds = ds.all D.plain
  | [] => rfl
  | d :: ds => by simp [D.plainL, D.plainL_all ds]
theorem any_py {x : D} (hx : x.plain = true) : ∀ ds : List D, D.plainL ds = true → ((D.pyL ds).any fun z => PyData.eqv z x.py) = ds.any fun z => z.eqv x
  | [], _ => rfl
  | d :: ds, h => by
    simp only [D.plainL, Bool.and_eq_true] at h
    simp only [D.pyL, List.any_cons]
    rw [D.eqv_py d x h.1 hx, any_py hx ds h.2]

section
variable {X : Cx}
def rInT (K : PySem.W.Frag) (neg : Bool) : R2 := fun x y H Q => ∃ d ds, Dp K H x d ∧ Dp K H y (.tuple ds) ∧ SeqAt.shaped d = true ∧ SeqAt.shaped (.tuple ds) = true ∧ Q (.bl (if neg then !ds.any fun z => PyData.eqv z d else ds.any fun z => PyData.eqv z d)) H
theorem room_inT {A : Around} {d : PyData} {ds : List PyData} (sd : SeqAt.shaped d = true) (hu : A.units + 70 < cLine) : A.units + 1 + min (PyData.depthAll ds) d.depth < cLine := by
  have h := SeqAt.depth_of_shaped sd
  have : min (PyData.depthAll ds) d.depth ≤ d.depth := Nat.min_le_right _ _
  omega
theorem op_inT (hu : X.A.units + 70 < cLine) : OpR X (compareOp .In) (rInT X.K false) := by
  intro pins s σ H x y v u Q I rx ry h
  obtain ⟨d, ds, hd, he, sd, se, q⟩ := h
  obtain ⟨as, r1⟩ := Dp.reads I d x v hd rx
  obtain ⟨bs, r2⟩ := Dp.reads I (.tuple ds) y u he ry
  exact SeqAt.in_tuple_reads r2 r1 (by simpa [PyData.canLay0] using SeqAt.canLay_of_shaped se) (SeqAt.canLay_of_shaped sd) (room_inT sd hu) ⟨.bl _, H, I, rfl, q⟩
theorem op_notInT (hu : X.A.units + 70 < cLine) : OpR X (compareOp .NotIn) (rInT X.K true) := by
  intro pins s σ H x y v u Q I rx ry h
  obtain ⟨d, ds, hd, he, sd, se, q⟩ := h
  obtain ⟨as, r1⟩ := Dp.reads I d x v hd rx
  obtain ⟨bs, r2⟩ := Dp.reads I (.tuple ds) y u he ry
  exact SeqAt.notIn_tuple_reads r2 r1 (by simpa [PyData.canLay0] using SeqAt.canLay_of_shaped se) (SeqAt.canLay_of_shaped sd) (room_inT sd hu) ⟨.bl _, H, I, rfl, q⟩
theorem Rp.isN {S : Sur} {H : Hp} {O : Addr → Prop} {x : D} {v : V} (r : Rp S H O x v) : decide (v = .non) = x.isN := by
  cases r <;> simp [D.isN]
def rCmp (S : Sur) (op : CmpOp) : R2 := fun v u H Q => ∃ O x y b, Rp S H O x v ∧ Rp S H O y u ∧ cmpD op x y = some b ∧ Q (.bl b) H
theorem op_cmp (op : CmpOp) (hu : X.A.units + 70 < cLine) : OpR X (compareOp op) (rCmp (sur X) op) := by
  intro pins s σ H v u a b Q I ra rb h
  obtain ⟨O, x, y, k, rx, ry, e, q⟩ := h
  unfold cmpD at e
  split at e
  · split at e
    · rename_i g
      rw [Bool.and_eq_true] at g
      cases e
      refine op_eqD (by omega) pins s σ H _ _ _ _ Q I ra rb ⟨x.py, y.py, rx.dp x v (good_pl g.1), ry.dp y u (good_pl g.2), (good_sh g.1), (good_sh g.2), ?_⟩
      rw [D.eqv_py x y (good_pl g.1) (good_pl g.2)]
      exact q
    · cases e
  · split at e
    · rename_i g
      rw [Bool.and_eq_true] at g
      cases e
      refine op_neD (by omega) pins s σ H _ _ _ _ Q I ra rb ⟨x.py, y.py, rx.dp x v (good_pl g.1), ry.dp y u (good_pl g.2), (good_sh g.1), (good_sh g.2), ?_⟩
      rw [D.eqv_py x y (good_pl g.1) (good_pl g.2)]
      exact q
    · cases e
  · split at e
    · cases e; cases rx; cases ry
      exact op_lt pins s σ H _ _ _ _ Q I ra rb ⟨_, _, rfl, rfl, q⟩
    · split at e
      · rename_i a0 b0 g
        simp only [Bool.and_eq_true] at g
        cases e
        obtain ⟨as, r1⟩ := Dp.reads I _ v a (rx.dp _ v (good_pl g.1.1)) ra
        obtain ⟨bs, r2⟩ := Dp.reads I _ u b (ry.dp _ u (good_pl g.1.2)) rb
        have h1 := good_dp g.1.1
        exact PySem.W.lt_data r1 r2 g.2 (by simp [D.py]) (by omega) ⟨.bl _, H, I, rfl, q⟩
      · cases e
    · cases e
  · split at e
    · cases e; cases rx; cases ry
      exact op_le pins s σ H _ _ _ _ Q I ra rb ⟨_, _, rfl, rfl, q⟩
    · cases e
  · split at e
    · cases e; cases rx; cases ry
      exact op_gt pins s σ H _ _ _ _ Q I ra rb ⟨_, _, rfl, rfl, q⟩
    · cases e
  · split at e
    · cases e; cases rx; cases ry
      exact op_ge pins s σ H _ _ _ _ Q I ra rb ⟨_, _, rfl, rfl, q⟩
    · cases e
  · split at e
    · cases e; cases ry
      refine op_isN pins s σ H _ _ _ _ Q I ra rb ⟨rfl, ?_⟩
      rw [rx.isN]
      exact q
    · cases e
  · split at e
    · cases e; cases ry
      refine op_notN pins s σ H _ _ _ _ Q I ra rb ⟨rfl, ?_⟩
      rw [rx.isN]
      exact q
    · cases e
  · split at e
    · split at e
      · rename_i g
        rw [Bool.and_eq_true] at g
        cases e
        have hp := (good_pl g.2)
        have sp := (good_sh g.2)
        have dp := ry.dp _ u hp
        simp only [D.py] at sp dp
        refine op_inD (by omega) pins s σ H _ _ _ _ Q I ra rb ⟨x.py, _, rx.dp x v (good_pl g.1), dp, (good_sh g.1), sp, ?_⟩
        rw [any_py (good_pl g.1) _ (by simpa [D.plain] using hp)]
        exact q
      · cases e
    · split at e
      · rename_i g
        rw [Bool.and_eq_true] at g
        cases e
        have hp := (good_pl g.2)
        have sp := (good_sh g.2)
        have dp := ry.dp _ u hp
        simp only [D.py] at sp dp
        refine op_inT hu pins s σ H _ _ _ _ Q I ra rb ⟨x.py, _, rx.dp x v (good_pl g.1), dp, (good_sh g.1), sp, ?_⟩
        rw [any_py (good_pl g.1) _ (by simpa [D.plain] using hp)]
        exact q
      · cases e
    · cases e
  · split at e
    · split at e
      · rename_i g
        rw [Bool.and_eq_true] at g
        cases e
        have hp := (good_pl g.2)
        have sp := (good_sh g.2)
        have dp := ry.dp _ u hp
        simp only [D.py] at sp dp
        refine op_notInD (by omega) pins s σ H _ _ _ _ Q I ra rb ⟨x.py, _, rx.dp x v (good_pl g.1), dp, (good_sh g.1), sp, ?_⟩
        rw [any_py (good_pl g.1) _ (by simpa [D.plain] using hp)]
        exact q
      · cases e
    · split at e
      · rename_i g
        rw [Bool.and_eq_true] at g
        cases e
        have hp := (good_pl g.2)
        have sp := (good_sh g.2)
        have dp := ry.dp _ u hp
        simp only [D.py] at sp dp
        refine op_notInT hu pins s σ H _ _ _ _ Q I ra rb ⟨x.py, _, rx.dp x v (good_pl g.1), dp, (good_sh g.1), sp, ?_⟩
        rw [any_py (good_pl g.1) _ (by simpa [D.plain] using hp)]
        exact q
      · cases e
    · cases e
end

/-! ### isinstance -/
theorem Rp.ty {S : Sur} {H : Hp} {O : Addr → Prop} {x : D} {v : V} (r : Rp S H O x v) (n : x.ty ≠ "function") (nd : x.ty ≠ "dict") : TyX S.K H v (.type x.ty) := by
  cases r with
  | non => exact .base .non
  | bl b => exact .base (.bl b)
  | int i => exact .base (.int i)
  | str x => exact .base (.str x)
  | tup q r =>
    rcases q with (q | ⟨o, q⟩) | ⟨o, its, n, k, c, _⟩
    · exact .base (.tup q)
    · exact .fTuple q
    · exact .kTuple k c
  | lst q _ _ => exact .base (.lst q)
  | frz q _ => exact absurd rfl n
  | dic _ _ _ _ _ => exact absurd rfl nd
  | fn _ => exact absurd rfl n
/-- the written part's answers about built-in classes -/
structure KTy (K : PySem.W.Frag) : Prop where
  all : ∀ t ∈ ["NoneType", "bool", "int", "str", "tuple", "list"], ∀ T ∈ ["int", "bool", "str", "tuple", "list"], PySem.W.kitOne K (.type t) (.type T) = isiD t T
def rIsiD (S : Sur) (T : String) : V → Hp → VK → Prop := fun v H Q => ∃ O x b, Rp S H O x v ∧ isiD x.ty T = some b ∧ T ∈ ["int", "bool", "str", "tuple", "list"] ∧ x.ty ∈ ["NoneType", "bool", "int", "str", "tuple", "list"] ∧ Q (.bl b) H
theorem isi_ok {X : Cx} {T : String} (k : KTy X.K) {v : V} {H : Hp} {Q : VK} (h : rIsiD (sur X) T v H Q) : rIsi X.K [v, .ty T] H Q := by
  obtain ⟨O, x, b, r, e, hT, ht, q⟩ := h
  refine ⟨v, .ty T, .type x.ty, .type T, b, rfl, .ty T, ?_, ?_, q⟩
  · refine r.ty (fun z => ?_) fun z => ?_ <;> (rw [z] at ht; simp at ht)
  · rw [k.all _ ht _ hT]; exact e

/-! ### items and slices -/
theorem atI_get {α β : Type} {xs : List α} {ys : List β} {i : Int} (h : xs.length = ys.length) {x : α} (e : atI xs i = some x) : ∃ j : Nat, xs[j]? = some x ∧ atI ys i = ys[j]? := by
  unfold atI at e ⊢
  rw [← h]
  cases q : ixN xs.length i with
  | none => rw [q] at e; cases e
  | some j => rw [q] at e; exact ⟨j, e, rfl⟩
def rIx (S : Sur) : R2 := fun v u H Q => ∃ O x y d, Rp S H O x v ∧ Rp S H O y u ∧ ixD x y = some d ∧ ∀ w, Rp S H O d w → Q w H
theorem ix_ok (X : Cx) : IxR X (rIx (sur X)) := by
  intro value slice pins s σ H v u a b Q I ra rb h hs
  obtain ⟨O, x, y, d, rx, ry, e, q⟩ := h
  unfold ixD at e
  split at e
  · cases ry
    cases rx with
    | tup qa la =>
      obtain ⟨j, h1, h2⟩ := atI_get la.length e
      obtain ⟨w, h3, h4⟩ := la.get h1
      exact ix_tup value slice pins s σ H _ _ _ _ Q I ra rb ⟨_, _, _, w, rfl, rfl, qa, h2.trans h3, q w h4⟩ hs
  · cases ry
    cases rx with
    | lst qa na la =>
      obtain ⟨j, h1, h2⟩ := atI_get la.length e
      obtain ⟨w, h3, h4⟩ := la.get h1
      exact ix_list value slice pins s σ H _ _ _ _ Q I ra rb ⟨_, _, _, w, rfl, rfl, SqL.of qa, h2.trans h3, q w h4⟩ hs
  · cases ry
    cases rx with
    | frz qa la =>
      obtain ⟨j, h1, h2⟩ := atI_get la.length e
      obtain ⟨w, h3, h4⟩ := la.get h1
      exact ix_list value slice pins s σ H _ _ _ _ Q I ra rb ⟨_, _, _, w, rfl, rfl, (sq_frz qa), h2.trans h3, q w h4⟩ hs
  · cases e
theorem RpL.cut {S : Sur} {H : Hp} {O : Addr → Prop} {ds : List D} {xs : List V} (r : RpL S H O ds xs) (lo hi : Option Int) : RpL S H O (cutD ds lo hi) (cutV xs lo hi) := by
  unfold cutD cutV
  rw [r.length]
  exact (r.drop _).take _
def rSl (S : Sur) : V → Option Int → Option Int → Hp → VK → Prop := fun v lo hi H Q => ∃ O x z, Rp S H O x v ∧ slD x lo hi = some z ∧ Post S H O z Q
theorem cutV_all {xs : List V} {lo hi : Option Int} (h : HT.sIx xs.length 0 lo = 0 ∧ HT.sIx xs.length xs.length hi = xs.length) : cutV xs lo hi = xs := by
  unfold cutV
  rw [h.1, h.2]
  simp
theorem sl_ok (X : Cx) : SlR X (rSl (sur X)) := by
  intro pins s σ H v a vl vu lo hi sl Q I ra hs pl pu h
  obtain ⟨O, x, z, rx, e, p⟩ := h
  unfold slD at e
  split at e
  · cases e
    cases rx with
    | tup qa la =>
      refine sl_tupA pins s σ H _ _ _ _ _ _ _ Q I ra hs pl pu ⟨_, _, rfl, qa, fun hw => ?_, fun _ p' n => p.tup (la.cut lo hi) n⟩
      have := la.cut lo hi
      rw [cutV_all hw] at this
      exact p.old (.tup qa this)
  · cases e
    cases rx with
    | lst qa na la =>
      exact sl_list pins s σ H _ _ _ _ _ _ _ Q I ra hs pl pu ⟨_, _, rfl, SqL.of qa, fun p' n => p.lst (la.cut lo hi) n⟩
  · cases e
end W2

/-! The built-in functions on data. -/
namespace W2
open PySem L2
theorem boolsOf_eq : ∀ {ds : List D} {bs : List Bool}, boolsOf ds = some bs → ds = bs.map .bl
  | [], _, h => by simp [boolsOf] at h; subst h; rfl
  | d :: ds, bs, h => by
    cases d with
    | bl b =>
      simp only [boolsOf, Option.map_eq_some_iff] at h
      obtain ⟨cs, h1, rfl⟩ := h
      rw [boolsOf_eq h1]; rfl
    | _ => simp [boolsOf] at h
theorem RpL.bools {S : Sur} {H : Hp} {O : Addr → Prop} : ∀ {bs : List Bool} {xs : List V}, RpL S H O (bs.map .bl) xs → xs = bs.map V.bl
  | [], _, .nil => rfl
  | b :: bs, _, .cons r t => by cases r; rw [RpL.bools t]; rfl

/-! ### sorted -/
section
variable {prog : Program} {w : World} {A : Around} {E : Value → Shared → Prop} {s : Shared}
open PySem.W PyProof.Rows in
/-- one empty tuple can be sorted -/
theorem sortsAt_empty {vs : List Value} {ds : List PyData} (e : EachIs (fun v d => ∃ as, Reads s.heap v d as) vs ds) (hal : AllAlike ds) (hz : ds = [.tuple []]) (hu : ∀ d, d ∈ ds → A.units + d.depth < cLine) : SortsAt prog w A s (dataKind s.heap ds) vs := by
  refine ⟨fun v hv => ?_, tuples' true, fun E x y a b Q ha hb hq => ?_, fun h2 => absurd h2 (by rw [e.length, hz]; decide)⟩
  · obtain ⟨d, hd, as, r⟩ := e.left v hv
    exact ⟨_, dataKind_some hal hd r⟩
  · obtain ⟨d, as, hd, ra, rfl⟩ := dataKind_inv ha
    obtain ⟨d', bs, hd', rb, rfl⟩ := dataKind_inv hb
    have hu0 := hu d hd
    rw [hz] at hd hd'
    obtain rfl := List.mem_singleton.mp hd
    obtain rfl := List.mem_singleton.mp hd'
    have hq : Q (dataLt (.tuple []) (.tuple [])) s := hq
    rw [dataLt_tuple] at hq
    cases ra with
    | @tuple l o xs n _ _ h1 h2 h3 h4 =>
      cases rb with
      | @tuple l' o' xs' n' _ _ k1 k2 k3 k4 =>
        have n1 : xs.size = 0 := by simpa using SeqAt.ReadsAll.length _ _ _ h4
        have n2 : xs'.size = 0 := by simpa using SeqAt.ReadsAll.length _ _ _ k4
        refine kat_lt h1 h3 k1 k3 (katLex_alike [] [] 0 _ _ _ _ h4 k4 (by simp [alikeAll]) ?_ (fun _ _ x r t ex => nomatch ex) (by rw [n1, n2]; rfl) hq)
        simp only [PyData.depth, PyData.depthAll] at hu0 ⊢
        omega
open PySem.W PyProof.Rows in
/-- sorted(x), x a list or a tuple whose items read as alike data -/
theorem sorted_seq {β : Type} {enc : β → PyData} {bs : List β} {vs : List Value} {a : Addr} {T : String} {o : Obj} {n : Nat} {R : Value → β → Prop} {Q : Value → Shared → Prop} (hT : T = "list" ∨ T = "tuple") (ho : s.heap.get? a = some o) (hc : o.cls = .type T) (hd : o.data = .seq vs.toArray n)
    (e : EachIs R vs bs) (er : EachIs (fun v b => ∃ as, Reads s.heap v (enc b) as) vs bs) (hal : AllAlike (bs.map enc)) (hk : bs.map enc = [.tuple []] ∨ Sortable (bs.map enc)) (hL : bs.length ≤ sizeLine)
    (hu : ∀ b, b ∈ bs → A.units + 2 + (enc b).depth < cLine)
    (h : ∀ (out : List Value) (p : Addr) (h' : Heap) (k : Nat), EachIs R out (bs.mergeSort (dataLe false enc)) → (∀ b o, s.heap.get? b = some o → h'.get? b = some o) → s.heap.get? p = none → h'.get? p = some (seqObj "list" out.toArray k) → Q (.ref p) { s with heap := h' }) :
    wpAny (model prog w) A (call (.builtin "sorted") [.ref a]) Q E s := by
  have hlen : vs.length ≤ sizeLine := by rw [e.length]; exact hL
  refine Calls.call_function_entry kind_sorted plain_sorted entry_sorted (args_sorted1 _) ?_
  unfold Builtin.«sorted»
  refine wpAny_bind (m := checkCount "sorted" 1 1 _) (wpAny_pure ?_)
  refine wpAny_bind (wpAny_collect_seq a hT ho hc hd (fun h1 hk1 => ?_) (by simpa using hlen))
  rw [show vs.toArray.toList = vs by simp]
  refine wpAny_bind (wpAny_newList ?_ hlen)
  have hoL : (h1.push (seqObj "list" vs.toArray 0)).get? h1.objs.size = some (seqObj "list" vs.toArray 0) := Heap.get?_push_size _ rfl
  have k2 : ∀ b o, s.heap.get? b = some o → (h1.push (seqObj "list" vs.toArray 0)).get? b = some o := fun b o q => Heap.get?_push_of_some _ (hk1 b o q)
  have apart : ∀ b o, s.heap.get? b = some o → b ≠ h1.objs.size := fun b o q => Nat.ne_of_lt (Heap.lt_size (hk1 b o q))
  have gone : s.heap.get? h1.objs.size = none := by
    cases q : s.heap.get? h1.objs.size with
    | none => rfl
    | some o => exact absurd rfl (apart _ o q)
  have er' : EachIs (fun v b => ∃ as, Reads (sortingHeap (h1.push (seqObj "list" vs.toArray 0)) h1.objs.size vs) v (enc b) as) vs bs :=
    er.mono fun _ _ ⟨as, r⟩ => ⟨as, PyProof.Rows.Reads.keeps (fun b o q => sortingHeap_old (apart b o q) (k2 b o q)) r⟩
  have S : SortsAt prog w A.in1.in1 { s with heap := sortingHeap (h1.push (seqObj "list" vs.toArray 0)) h1.objs.size vs } (dataKind (sortingHeap (h1.push (seqObj "list" vs.toArray 0)) h1.objs.size vs) (bs.map enc)) vs :=
    hk.elim (fun z => sortsAt_empty (s := { s with heap := sortingHeap (h1.push (seqObj "list" vs.toArray 0)) h1.objs.size vs }) (each_map (R := fun v d => ∃ as, Reads (sortingHeap (h1.push (seqObj "list" vs.toArray 0)) h1.objs.size vs) v d as) enc er') hal z (bound_map hu)) fun hk =>
    SortsAt.data (s := { s with heap := sortingHeap (h1.push (seqObj "list" vs.toArray 0)) h1.objs.size vs }) (each_map (R := fun v d => ∃ as, Reads (sortingHeap (h1.push (seqObj "list" vs.toArray 0)) h1.objs.size vs) v d as) enc er') hal hk (bound_map hu)
  have fin := sortVals_data false e er' hal
  refine wpAny_bind (wpAny_holding (wpAny_call_entry slot_list_sort ⟨_, hoL, rfl⟩ entry_list_sort ?body (args_list_sort _)))
  case body =>
  refine wpAny_mono (list_sort_vals (P := fun f s' => f = .done (.ret .none) ∧ Q (.ref h1.objs.size) s') (s := { s with heap := h1.push (seqObj "list" vs.toArray 0) }) hoL S hlen ⟨rfl, ?_⟩) (fun f s' hf => ?_) fun _ _ e => e
  · obtain ⟨k, hk3⟩ := PyProof.Rows.sortedHeap_at (vs := vs) (out := (sortVals (dataKind (sortingHeap (h1.push (seqObj "list" vs.toArray 0)) h1.objs.size vs) (bs.map enc)) false vs vs).toArray) hoL
    refine h _ h1.objs.size _ k fin (fun b o q => ?_) gone hk3
    rw [PyProof.Rows.sortedHeap_old (apart b o q) (Heap.lt_size (k2 b o q))]
    exact k2 b o q
  · obtain ⟨rfl, hq⟩ := hf
    exact ⟨_, rfl, wpAny_pure ⟨_, rfl, hq⟩⟩
end
/-- a new object tracked, wherever it stands -/
theorem inv_new {X : Cx} {pins : List (Addr × Obj)} {σ : L2.St} {H : Hp} {s : Shared} {p : Addr} {o : HO} {h' : Heap} (I : Inv X pins σ H s) (k : ∀ b u, s.heap.get? b = some u → h'.get? b = some u) (hp : s.heap.get? p = none)
    (new : ObjOk X.prog X.w (upd H p o) h' p o) : Inv X pins σ (upd H p o) { s with heap := h' } ∧ H p = none := by
  have hn : H p = none := I.hok.gone hp
  have ne : ∀ b u, s.heap.get? b = some u → b ≠ p := fun b u e z => by rw [z, hp] at e; cases e
  refine ⟨I.un (t' := s.toks) ⟨fun b u q _ _ _ => k b u q, fun b u q _ _ _ => ⟨u.slots, k b u q⟩, fun b u q n _ => by rw [upd_ne (ne b u q)]; exact n, fun b u q _ => ⟨u, k b u q⟩, fun b xs q => by rw [upd_ne (ne_of_none q hn)]; exact q,
    fun b u xs q => by rw [upd_ne (ne_of_none q hn)]; exact q, fun b ps q => ⟨#[], by rw [upd_ne (ne_of_none q hn), q]; simp⟩⟩ fun b u q => ?_, hn⟩
  by_cases hb : b = p
  · subst hb
    rw [upd_same] at q
    cases q
    exact new
  · rw [upd_ne hb] at q
    exact (I.hok b u q).stay (fun c v _ q => k c v q) (fun c q => by rw [upd_ne (ne_of_none q hn)]; exact q) fun c xs q => by rw [upd_ne (ne_of_none q hn)]; exact q
open PySem.W in
theorem each_zip {S : Sur} {H : Hp} {O : Addr → Prop} : ∀ {ds : List D} {xs : List V} {vs : List Value}, RpL S H O ds xs → Vals xs vs → EachIs (fun v (b : D × V) => RelV b.2 v ∧ Rp S H O b.1 b.2) vs (ds.zip xs)
  | _, _, _, .nil, .nil => .nil
  | _, _, _, .cons r t, .cons q u => .cons ⟨q, r⟩ (each_zip t u)
open PySem.W in
theorem each_vals {S : Sur} {H : Hp} {O : Addr → Prop} : ∀ {vs : List Value} {bs : List (D × V)}, EachIs (fun v (b : D × V) => RelV b.2 v ∧ Rp S H O b.1 b.2) vs bs → Vals (bs.map (·.2)) vs ∧ RpL S H O (bs.map (·.1)) (bs.map (·.2))
  | _, _, .nil => ⟨.nil, .nil⟩
  | _, _, .cons r t => by
    obtain ⟨h1, h2⟩ := each_vals t
    exact ⟨.cons r.1 h1, .cons r.2 h2⟩
theorem zip_fst {S : Sur} {H : Hp} {O : Addr → Prop} {ds : List D} {xs : List V} (r : RpL S H O ds xs) : (ds.zip xs).map (·.1) = ds := by
  rw [← List.unzip_fst, List.unzip_zip_left (Nat.le_of_eq r.length)]
theorem allAlike_of {ds : List D} (h : D.alikes ds = true) : PySem.W.AllAlike (ds.map D.py) := by
  intro d hd d' hd'
  obtain ⟨a, ha, rfl⟩ := List.mem_map.mp hd
  obtain ⟨b, hb, rfl⟩ := List.mem_map.mp hd'
  unfold D.alikes at h
  rw [List.all_eq_true] at h
  have h1 := h a ha
  rw [List.all_eq_true] at h1
  exact h1 b hb
theorem sortable_of {ds : List D} (h : (ds.all D.isT1 || ds.all D.isNT) = true) (g : ds.all D.good = true) : PySem.W.Sortable (ds.map D.py) := by
  rw [Bool.or_eq_true] at h
  rw [List.all_eq_true] at g
  rcases h with h | h
  · refine .inl fun d hd => ?_
    obtain ⟨a, ha, rfl⟩ := List.mem_map.mp hd
    rw [List.all_eq_true] at h
    have h1 := h a ha
    match a, h1 with
    | .tup (x :: r), _ => exact ⟨x.py, D.pyL r, by simp [D.py, D.pyL]⟩
  · refine .inr fun d hd => ?_
    obtain ⟨a, ha, rfl⟩ := List.mem_map.mp hd
    rw [List.all_eq_true] at h
    have h1 := h a ha
    cases a <;> simp [D.isNT] at h1 <;> simp [D.py]
theorem sortable_or {ds : List D} (h : (D.oneE ds = true) ∨ ((∀ x ∈ ds, x.isT1 = true) ∨ ∀ x ∈ ds, x.isNT = true)) (g : ds.all D.good = true) : ds.map D.py = [.tuple []] ∨ PySem.W.Sortable (ds.map D.py) := by
  rcases h with h | h
  · unfold D.oneE at h
    split at h
    · exact .inl (by simp [D.py, D.pyL])
    · cases h
  · exact .inr (sortable_of (by simpa using h) g)
/-! ### min, max -/
section
variable {X : Cx}
theorem vals_rel : ∀ {xs : List V} {us : List Value} {k : Nat} {w : V} {u : Value}, Vals xs us → xs[k]? = some w → us[k]? = some u → RelV w u
  | _, _, k, _, _, .nil, e, _ => by simp at e
  | _, _, 0, _, _, .cons r _, e, e' => by simp at e e'; subst e e'; exact r
  | _, _, k + 1, _, _, .cons _ t, e, e' => vals_rel (k := k) t (by simpa using e) (by simpa using e')
theorem pyL_map : ∀ ds : List D, D.pyL ds = ds.map D.py
  | [] => rfl
  | d :: ds => by simp [D.pyL, pyL_map ds]
theorem getD_py (ds : List D) (i : Nat) : (ds.map D.py).getD i .none = (ds.getD i .non).py := by
  simp only [List.getD_eq_getElem?_getD, List.getElem?_map]
  cases ds[i]? <;> rfl
open PySem.W PyProof.Rows in
theorem best_ok (hc : X.calm = true) (hu : X.A.units + 70 < cLine) (up : Bool) {pins : List (Addr × Obj)} {s : Shared} {σ : L2.St} {H : Hp} {a : Addr} {xs : List V} {d y : D} {ds : List D} {O : Addr → Prop} {Q : VK} (I : Inv X pins σ H s) (ha : SqL X.K H a xs) (r : RpL (sur X) H O (d :: ds) xs) (e : bestD up d ds = some y)
    (q : ∀ w, Rp (sur X) H O y w → Q w H) : wpAny (model X.prog X.w) X.A (call (.builtin (if up then "max" else "min")) [.ref a]) (EP X pins σ Q) X.xe s := by
  unfold bestD at e
  split at e
  rotate_left
  · cases e
  rename_i g
  simp only [Bool.and_eq_true, decide_eq_true_eq, Bool.not_eq_true'] at g
  obtain ⟨⟨⟨g1, g2⟩, g3⟩, g4⟩ := g
  obtain ⟨its, rv, hl, hz⟩ := I.list ha
  have pl : D.plainL (d :: ds) = true := by have := good_pl g1; simpa [D.plain] using this
  obtain ⟨as, hr⟩ := Dp.readsAll I _ _ _ (RpL.dp _ _ pl r) rv
  rw [pyL_map] at hr
  have dp := good_dp g1
  have hdp : (D.lst (d :: ds)).py.depth = PyData.depthAll ((d :: ds).map D.py) + 1 := by simp only [D.py, pyL_map, PyData.depth]
  have hal : AlikeAll ((d :: ds).map D.py) := by
    refine ⟨fun x hx y hy => allAlike_of g2 x hx y hy, fun x hx => ?_⟩
    obtain ⟨b, hb, rfl⟩ := List.mem_map.mp hx
    have := List.any_eq_false.mp g3 b hb
    cases b <;> first | (simp [D.isN] at this; done) | (simp [D.py]; done)
  have hn : its.toArray.size = ds.length + 1 := by
    have h1 := r.length
    have h2 := rv.length
    simp at h1
    simp; omega
  have hh := I.ok.hd hc
  -- which item it is
  have fin : ∀ (f : D → D → Bool) (k : Nat) (v : Value) (h' : Heap) (tk : Nat), y = ds.foldl (fun a b => if f b a then b else a) d → k = argBest (fun i j => f ((d :: ds).getD i D.non) ((d :: ds).getD j D.non)) ds.length → its.toArray[k]? = some v →
      (∀ b o, s.heap.get? b = some o → h'.get? b = some o) → EP X pins σ Q v { s with heap := h', toks := tk } := by
    intro f k v h' tk ey ek hv hk
    obtain ⟨k1, k2⟩ := argBest_fold f D.non d ds ds.length (Nat.le_refl _)
    rw [List.take_length, ← ey] at k2
    rw [← ek] at k1 k2
    have hx : (d :: ds)[k]? = some y := by
      rw [List.getD_eq_getElem?_getD] at k2
      have hkl : k < (d :: ds).length := by simp; omega
      have : (d :: ds)[k]? = some ((d :: ds)[k]'hkl) := List.getElem?_eq_getElem hkl
      rw [this] at k2 ⊢
      exact congrArg some k2
    obtain ⟨w, e1, e2⟩ := r.get hx
    have hv' : its[k]? = some v := by simpa using hv
    exact ⟨w, H, I.kept hk, vals_rel rv e1 hv', q w e2⟩
  cases up with
  | false =>
    cases e
    refine call_min_walkH (iter_listW (A := X.A.in1) hh hl.isList fun s₂ e2 W st hfp hw hk => ?_)
    refine ⟨_, _, _, _, _, _, _, s.heap, _, rfl, W, st, hfp, by omega, hw, hk, cmpIn_lt (A := X.A.in1) hr hal (by show X.A.units + 1 + _ < _; omega), fun v s' hP m => ?_⟩
    obtain ⟨h', tk, rfl, hk'⟩ := moved_old e2 rfl m
    refine fin (fun x y => dataLt x.py y.py) _ v h' tk rfl ?_ hP hk'
    rw [hn]
    simp only [getD_py]
    rfl
  | true =>
    cases e
    refine call_max_walkH (iter_listW (A := X.A.in1) hh hl.isList fun s₂ e2 W st hfp hw hk => ?_)
    refine ⟨_, _, _, _, _, _, _, s.heap, _, rfl, W, st, hfp, by omega, hw, hk, cmpIn_gt (A := X.A.in1) hr hal (by show X.A.units + 1 + _ < _; omega), fun v s' hP m => ?_⟩
    obtain ⟨h', tk, rfl, hk'⟩ := moved_old e2 rfl m
    refine fin (fun x y => dataLt y.py x.py) _ v h' tk rfl ?_ hP hk'
    rw [hn]
    simp only [getD_py]
    rfl
end
/-! ### the functions by their names -/
def bltTy (f : Str) : Bool := f = "int" || f = "list" || f = "tuple"
def rBlt (S : Sur) (f : Str) : List V → Hp → VK → Prop := fun vs H Q => ∃ O ds z, RpL S H O ds vs ∧ bltD f ds = some z ∧ Post S H O z Q
section
variable {X : Cx}
theorem sorted_ok (hu : X.A.units + 70 < cLine) {pins : List (Addr × Obj)} {s : Shared} {σ : L2.St} {H : Hp} {a : Addr} {xs : List V} {ds ys : List D} {O : Addr → Prop} {Q : VK} (I : Inv X pins σ H s) (ha : SqL X.K H a xs ∨ SqT X.K H a xs) (r : RpL (sur X) H O ds xs) (e : sortD ds = some ys)
    (p : Post (sur X) H O (.lst ys, true) Q) : wpAny (model X.prog X.w) X.A (call (.builtin "sorted") [.ref a]) (EP X pins σ Q) X.xe s := by
  rw [sortD_ms] at e
  split at e
  · rename_i g
    simp only [Bool.and_eq_true, decide_eq_true_eq] at g
    obtain ⟨⟨⟨g1, g2⟩, g3⟩, g4⟩ := g
    cases e
    have hg : ∀ d ∈ ds, d.good = true := by rw [List.all_eq_true] at g1; exact g1
    have main : ∀ (T : String) (o : Obj) (n : Nat) (its : List Value), (T = "list" ∨ T = "tuple") → s.heap.get? a = some o → o.cls = .type T → o.data = .seq its.toArray n → Vals xs its →
        wpAny (model X.prog X.w) X.A (call (.builtin "sorted") [.ref a]) (EP X pins σ Q) X.xe s := by
      intro T o n its hT ho hc hd rv
      have ez := each_zip r rv
      have mp : (ds.zip xs).map (fun b : D × V => b.1.py) = ds.map D.py := by
        rw [← zip_fst r, List.map_map, zip_fst r]; rfl
      refine sorted_seq (enc := fun b : D × V => b.1.py) hT ho hc hd ez ?_ (by rw [mp]; exact allAlike_of g2) (by rw [mp]; exact sortable_or (by simpa using g3) g1) ?_ (fun b hb => ?_) fun out q h' k ho' hk' hq hn => ?_
      · refine (PySem.W.each_mem ez).mono fun v b ⟨⟨r1, r2⟩, hb⟩ => ?_
        exact Dp.reads I b.1.py b.2 v (r2.dp _ _ (good_pl (hg _ (List.of_mem_zip hb).1))) r1
      · rw [List.length_zip]
        exact Nat.le_trans (Nat.min_le_left _ _) (LIM_le g4)
      · have := good_dp (hg _ (List.of_mem_zip hb).1)
        show X.A.units + 2 + b.1.py.depth < cLine
        omega
      · obtain ⟨v1, v2⟩ := each_vals ho'
        have e1 : ((ds.zip xs).mergeSort (PySem.W.dataLe false fun b : D × V => b.1.py)).map (fun b => b.1) = ds.mergeSort (PySem.W.dataLe false D.py) := by
          have e0 := PySem.W.sort_maps (r := PySem.W.dataLe false fun b : D × V => b.1.py) (s := PySem.W.dataLe false D.py) (fun b : D × V => b.1) (l := ds.zip xs) (fun _ _ _ _ => rfl)
          rw [zip_fst r] at e0
          exact e0
        rw [e1] at v2
        have hlen : (((ds.zip xs).mergeSort (PySem.W.dataLe false fun b : D × V => b.1.py)).map (·.2)).length ≤ sizeLine := by
          rw [← v2.length, List.length_mergeSort]
          exact LIM_le g4
        obtain ⟨I', hp⟩ := inv_new (o := .lst (((ds.zip xs).mergeSort (PySem.W.dataLe false fun b : D × V => b.1.py)).map (·.2))) I hk' hq ⟨hlen, out, k, v1, hn⟩
        exact ⟨.ref q, _, I', rfl, p.lst v2 hp⟩
    rcases ha with ha | ha
    · obtain ⟨its, rv, ⟨o, n, ho, hc, _, hd⟩, _⟩ := I.list ha
      exact main "list" o n its (.inl rfl) ho hc hd rv
    · obtain ⟨its, rv, ⟨o, ho, hc, n, hd⟩, _⟩ := I.tuple ha
      exact main "tuple" o n its (.inr rfl) ho hc hd rv
  · cases e
/-- the built-in functions -/
def bltFn (f : Str) : Option String :=
  if f = "len" then some "len" else if f = "abs" then some "abs" else if f = "min" then some "min" else if f = "max" then some "max" else if f = "all" then some "all" else if f = "sorted" then some "sorted" else none
def bltCl (f : Str) : Option String :=
  if f = "int" then some "int" else if f = "list" then some "list" else if f = "tuple" then some "tuple" else none
theorem ne_lit {f : Str} {a b : String} (e : f = (a : Str)) (h : ¬ ((a : Str) = (b : Str)) := by decide +kernel) : ¬ f = (b : Str) := by rw [e]; exact h
theorem blt_len : CallR X (.builtin "len") (rBlt (sur X) "len") := by
  intro pins s σ H vs us Q I r h
  obtain ⟨O, ds, z, rd, e, p⟩ := h
  unfold bltD at e
  rw [if_pos rfl] at e
  split at e
  · cases e
    cases rd with
    | cons r1 r2 =>
      cases r2
      cases r1 with
      | tup qa la => exact call_len_seq pins s σ H _ _ Q I r ⟨_, _, rfl, .inr qa, by rw [← la.length]; exact p.int⟩
  · cases e
    cases rd with
    | cons r1 r2 =>
      cases r2
      cases r1 with
      | lst qa na la => exact call_len_seq pins s σ H _ _ Q I r ⟨_, _, rfl, .inl (SqL.of qa), by rw [← la.length]; exact p.int⟩
  · cases e
    cases rd with
    | cons r1 r2 =>
      cases r2
      cases r1 with
      | frz qa la => exact call_len_seq pins s σ H _ _ Q I r ⟨_, _, rfl, .inl (sq_frz qa), by rw [← la.length]; exact p.int⟩
  · cases e
theorem blt_abs : CallR X (.builtin "abs") (rBlt (sur X) "abs") := by
  intro pins s σ H vs us Q I r h
  obtain ⟨O, ds, z, rd, e, p⟩ := h
  unfold bltD at e
  rw [if_neg (by decide +kernel), if_pos rfl] at e
  split at e
  · cases e
    cases rd with
    | cons r1 r2 =>
      cases r2; cases r1
      exact call_abs pins s σ H _ _ Q I r ⟨_, rfl, p.int⟩
  · cases e
theorem blt_min (hc : X.calm = true) (hu : X.A.units + 70 < cLine) : CallR X (.builtin "min") (rBlt (sur X) "min") := by
  intro pins s σ H vs us Q I r h
  obtain ⟨O, ds, z, rd, e, p⟩ := h
  unfold bltD at e
  rw [if_neg (by decide +kernel), if_neg (by decide +kernel), if_pos rfl] at e
  split at e
  · cases e
    cases rd with
    | cons r1 r2 =>
      cases r2 with
      | cons r2 r3 =>
        cases r3; cases r2; cases r1
        exact call_min2 hc pins s σ H _ _ Q I r ⟨_, _, rfl, p.int⟩
  · rw [Option.map_eq_some_iff] at e
    obtain ⟨y, e, rfl⟩ := e
    cases rd with
    | cons r1 r2 =>
      cases r2
      cases r1 with
      | lst qa na la =>
        rw [Vals.ref1 r]
        exact best_ok hc hu false I (SqL.of qa) la e fun w q => p.old q
  · cases e
theorem blt_max (hc : X.calm = true) (hu : X.A.units + 70 < cLine) : CallR X (.builtin "max") (rBlt (sur X) "max") := by
  intro pins s σ H vs us Q I r h
  obtain ⟨O, ds, z, rd, e, p⟩ := h
  unfold bltD at e
  rw [if_neg (by decide +kernel), if_neg (by decide +kernel), if_neg (by decide +kernel), if_pos rfl] at e
  split at e
  · cases e
    cases rd with
    | cons r1 r2 =>
      cases r2 with
      | cons r2 r3 =>
        cases r3; cases r2; cases r1
        exact call_max2 hc pins s σ H _ _ Q I r ⟨_, _, rfl, p.int⟩
  · rw [Option.map_eq_some_iff] at e
    obtain ⟨y, e, rfl⟩ := e
    cases rd with
    | cons r1 r2 =>
      cases r2
      cases r1 with
      | lst qa na la =>
        rw [Vals.ref1 r]
        exact best_ok hc hu true I (SqL.of qa) la e fun w q => p.old q
  · cases e
theorem blt_int : CallR X (.type "int") (rBlt (sur X) "int") := by
  intro pins s σ H vs us Q I r h
  obtain ⟨O, ds, z, rd, e, p⟩ := h
  unfold bltD at e
  rw [if_neg (by decide +kernel), if_neg (by decide +kernel), if_neg (by decide +kernel), if_neg (by decide +kernel), if_pos rfl] at e
  split at e
  · cases e
    cases rd with
    | cons r1 r2 =>
      cases r2; cases r1
      exact call_int1 pins s σ H _ _ Q I r (.inl ⟨_, rfl, p.int⟩)
  · cases e
    cases rd with
    | cons r1 r2 =>
      cases r2; cases r1
      exact call_int1 pins s σ H _ _ Q I r (.inr ⟨_, rfl, p.int⟩)
  · cases e
theorem blt_all (hc : X.calm = true) : CallR X (.builtin "all") (rBlt (sur X) "all") := by
  intro pins s σ H vs us Q I r h
  obtain ⟨O, ds, z, rd, e, p⟩ := h
  unfold bltD at e
  rw [if_neg (by decide +kernel), if_neg (by decide +kernel), if_neg (by decide +kernel), if_neg (by decide +kernel), if_neg (by decide +kernel), if_pos rfl] at e
  split at e
  · rw [Option.map_eq_some_iff] at e
    obtain ⟨bs, hb, rfl⟩ := e
    cases rd with
    | cons r1 r2 =>
      cases r2
      cases r1 with
      | lst qa na la =>
        rw [boolsOf_eq hb] at la
        have := la.bools
        subst this
        exact cr_all hc pins s σ H _ _ Q I r ⟨_, _, rfl, SqL.of qa, p.bl⟩
  · cases e
theorem blt_sorted (hu : X.A.units + 70 < cLine) : CallR X (.builtin "sorted") (rBlt (sur X) "sorted") := by
  intro pins s σ H vs us Q I r h
  obtain ⟨O, ds, z, rd, e, p⟩ := h
  unfold bltD at e
  rw [if_neg (by decide +kernel), if_neg (by decide +kernel), if_neg (by decide +kernel), if_neg (by decide +kernel), if_neg (by decide +kernel), if_neg (by decide +kernel), if_pos rfl] at e
  split at e
  · rw [Option.map_eq_some_iff] at e
    obtain ⟨ys, hb, rfl⟩ := e
    cases rd with
    | cons r1 r2 =>
      cases r2
      cases r1 with
      | lst qa na la =>
        cases r with
        | cons r r' =>
          cases r'; cases r
          exact sorted_ok hu I (.inl (SqL.of qa)) la hb p
  · rw [Option.map_eq_some_iff] at e
    obtain ⟨ys, hb, rfl⟩ := e
    cases rd with
    | cons r1 r2 =>
      cases r2
      cases r1 with
      | tup qa la =>
        cases r with
        | cons r r' =>
          cases r'; cases r
          exact sorted_ok hu I (.inr qa) la hb p
  · cases e
theorem blt_list : CallR X (.type "list") (rBlt (sur X) "list") := by
  intro pins s σ H vs us Q I r h
  obtain ⟨O, ds, z, rd, e, p⟩ := h
  unfold bltD at e
  rw [if_neg (by decide +kernel), if_neg (by decide +kernel), if_neg (by decide +kernel), if_neg (by decide +kernel), if_neg (by decide +kernel), if_neg (by decide +kernel), if_neg (by decide +kernel), if_pos rfl] at e
  split at e
  · cases e
    cases rd with
    | cons r1 r2 =>
      cases r2
      cases r1 with
      | tup qa la => exact call_list_of pins s σ H _ _ Q I r ⟨_, _, rfl, .inr qa, fun l n => p.lst la n⟩
  · cases e
    cases rd with
    | cons r1 r2 =>
      cases r2
      cases r1 with
      | lst qa na la => exact call_list_of pins s σ H _ _ Q I r ⟨_, _, rfl, .inl (SqL.of qa), fun l n => p.lst la n⟩
  · cases e
theorem blt_tuple : CallR X (.type "tuple") (rBlt (sur X) "tuple") := by
  intro pins s σ H vs us Q I r h
  obtain ⟨O, ds, z, rd, e, p⟩ := h
  unfold bltD at e
  rw [if_neg (by decide +kernel), if_neg (by decide +kernel), if_neg (by decide +kernel), if_neg (by decide +kernel), if_neg (by decide +kernel), if_neg (by decide +kernel), if_neg (by decide +kernel), if_neg (by decide +kernel), if_pos rfl] at e
  split at e
  · cases e
    cases rd with
    | cons r1 r2 =>
      cases r2
      cases r1 with
      | tup qa la => exact call_tuple_of pins s σ H _ _ Q I r ⟨_, _, rfl, .inr ⟨qa, p.old (.tup qa la)⟩⟩
  · cases e
    cases rd with
    | cons r1 r2 =>
      cases r2
      cases r1 with
      | lst qa na la => exact call_tuple_of pins s σ H _ _ Q I r ⟨_, _, rfl, .inl ⟨SqL.of qa, fun l n => p.tup la n⟩⟩
  · cases e
theorem blt_fn {f : Str} {id : String} (hc : X.calm = true) (hu : X.A.units + 70 < cLine) (e : bltFn f = some id) : CallR X (.builtin id) (rBlt (sur X) f) ∧ bootBuiltins f = some (.builtin id) ∧ f ≠ "__name__" ∧ (f == ("__debug__" : Str)) = false := by
  unfold bltFn at e
  split at e
  · rename_i q; subst q; cases e; exact ⟨blt_len, by decide +kernel, by decide +kernel, by decide +kernel⟩
  split at e
  · rename_i q; subst q; cases e; exact ⟨blt_abs, by decide +kernel, by decide +kernel, by decide +kernel⟩
  split at e
  · rename_i q; subst q; cases e; exact ⟨blt_min hc hu, by decide +kernel, by decide +kernel, by decide +kernel⟩
  split at e
  · rename_i q; subst q; cases e; exact ⟨blt_max hc hu, by decide +kernel, by decide +kernel, by decide +kernel⟩
  split at e
  · rename_i q; subst q; cases e; exact ⟨blt_all hc, by decide +kernel, by decide +kernel, by decide +kernel⟩
  split at e
  · rename_i q; subst q; cases e; exact ⟨blt_sorted hu, by decide +kernel, by decide +kernel, by decide +kernel⟩
  · cases e
theorem blt_cl {f : Str} {id : String} (e : bltCl f = some id) : CallR X (.type id) (rBlt (sur X) f) ∧ bootBuiltins f = some (.type id) ∧ f ≠ "__name__" ∧ (f == ("__debug__" : Str)) = false := by
  unfold bltCl at e
  split at e
  · rename_i q; subst q; cases e; exact ⟨blt_int, by decide +kernel, by decide +kernel, by decide +kernel⟩
  split at e
  · rename_i q; subst q; cases e; exact ⟨blt_list, by decide +kernel, by decide +kernel, by decide +kernel⟩
  split at e
  · rename_i q; subst q; cases e; exact ⟨blt_tuple, by decide +kernel, by decide +kernel, by decide +kernel⟩
  · cases e
end
end W2

/-! Contexts, contracts; each form of an expression is run as the evaluator says. -/
namespace W2
open PySem L2

/-! ### contracts -/
inductive ArgR (S : Sur) (H : Hp) (O : Addr → Prop) : List AV → List V → Prop
  | nil : ArgR S H O [] []
  | val {d : D} {v : V} {as : List AV} {vs : List V} : Rp S H O d v → ArgR S H O as vs → ArgR S H O (.val d :: as) (v :: vs)
  | io {d : D} {a : Addr} {as : List AV} {vs : List V} : O a → RpO S H O d a → ArgR S H O as vs → ArgR S H O (.io d :: as) (.ref a :: vs)
/-- where the lent ones stand -/
def ioA : List AV → List V → List Addr
  | .io _ :: as, .ref a :: vs => a :: ioA as vs
  | _ :: as, _ :: vs => ioA as vs
  | _, _ => []
inductive IoR (S : Sur) (H : Hp) (O : Addr → Prop) : List Addr → List D → Prop
  | nil : IoR S H O [] []
  | cons {a : Addr} {d : D} {as : List Addr} {ds : List D} : RpO S H O d a → IoR S H O as ds → IoR S H O (a :: as) (d :: ds)
def Grow (H H' : Hp) (io : List Addr) : Prop := ∀ a o, H a = some o → a ∉ io → H' a = some o
/-- a call's result -/
def CRep (S : Sur) (H : Hp) (O : Addr → Prop) (io : List Addr) (Q : VK) (E : XK) (r : CRes) : Prop :=
  match r with
  | .bad => False
  | .ok (d, false) ds => ∀ v H', Grow H H' io → IoR S H' O io ds → Rp S H' O d v → Q v H'
  | .ok (d, true) ds => ∀ a H', Grow H H' io → H a = none → IoR S H' (orA O a) io ds → RpO S H' (orA O a) d a → Q (.ref a) H'
  | .err x ds => ∀ cls dd H', Grow H H' io → IoR S H' O io ds → RpX S H' O x cls dd → E cls dd H'
/-- the classes of the words, by their addresses -/
inductive HsA (K : PySem.W.Frag) (mg : Str → Option Value) : List (Addr × Str) → List (Str × Str) → Prop
  | nil : HsA K mg [] []
  | cons {c w : Str} {C : Addr} {hA : List (Addr × Str)} {hs : List (Str × Str)} : mg c = some (.ref C) → HsA K mg hA hs → HsA K mg ((C, w) :: hA) ((c, w) :: hs)
def wordA (K : PySem.W.Frag) : List (Addr × Str) → Value → (Str → Prop) → Prop
  | [], _, _ => False
  | (C, w) :: hs, cls, Q => ∃ b, PySem.W.exmOne K cls (.ref C) = some b ∧ (b = true → Q w) ∧ (b = false → wordA K hs cls Q)
def spD (n : Nat) (S : Sur) (c : List AV → CRes) : Sp := fun vs H Q E =>
  vs.length = n ∧ ∃ (O : Addr → Prop) (as : List AV), ArgR S H O as vs ∧ (ioA as vs).Nodup ∧ (∀ a, O a → ∃ o, H a = some o ∧ ¬ isTbl o) ∧ CRep S H O (ioA as vs) Q E (c as)
/-- the def x of the module keeps the contract c -/
structure FnK (P : Program) (w : World) (K : PySem.W.Frag) (mg : Str → Option Value) (base : Heap) (LV : Nat) (x : Str) (n : Nat) (c : List AV → CRes) : Prop where
  ar : ∀ as, c as ≠ .bad → as.length = n
  ok : ∃ (a : Addr) (fd : FuncData) (ps : List Str), mg x = some (.ref a) ∧ PySem.W.keepIn K (.ref a) = true ∧ Binds K fd ps [] ∧ FnOk P w K mg base (L2.CX P w) LV a fd ps (spD n ⟨K, mg⟩ c)
  dbg : (x == ("__debug__" : Str)) = false
def builtinNames : List Str := ["len", "abs", "min", "max", "all", "sorted", "int", "list", "tuple", "isinstance", "bool", "str", "range", "enumerate", "zip", "dict", "set", "ValueError", "TypeError"]
/-- an exception's class of the module -/
def ExK (K : PySem.W.Frag) (mg : Str → Option Value) (x : Str) : Prop :=
  ∃ (C : Addr) (bmB : List Value) (B newId initId : String), ExcBaseFacts B newId initId bmB ∧ PySem.W.excIn K C bmB newId = true ∧ mg x = some (.ref C) ∧ PySem.W.keepIn K (.ref C) = true ∧
    PySem.W.subIn K (.ref C) (.type "BaseException") = some true ∧ PySem.W.typeIn K (.ref C) = some (.type "type") ∧ (x == ("__debug__" : Str)) = false
def SubK (K : PySem.W.Frag) (mg : Str → Option Value) (x c : Str) (b : Bool) : Prop :=
  ∃ X C : Addr, mg x = some (.ref X) ∧ mg c = some (.ref C) ∧ PySem.W.exmOne K (.ref X) (.ref C) = some b ∧ (c == ("__debug__" : Str)) = false
/-- told: the lambda's error by its word, an empty text if there is none -/
def TWord (K : PySem.W.Frag) (hs : List (Addr × Str)) : (XK → Hp → VK → Prop) → Hp → VK → Prop := fun tl H Q =>
  tl (fun cls _ H' => wordA K hs cls fun w => Q (.str w) H') H (fun _ H' => Q (.str "") H')
/-- the def f calls what it gets and tells the word -/
structure WdK (P : Program) (w : World) (K : PySem.W.Frag) (mg : Str → Option Value) (base : Heap) (f : Str) (hs : List (Str × Str)) : Prop where
  ok : ∃ (g : Addr) (a : Str) (hA : List (Addr × Str)) (pg : Arguments) (bg : List Stmt) (sg : Scope) (dV kV doc pm cdv ct oc : Value) (an od : Option Addr) (osl : Array (Option Value)) (Ng : List Str),
    mg f = some (.ref g) ∧ PySem.W.keepIn K (.ref g) = true ∧ K.lookup g = some ⟨oc, od, .func (PySem.W.fnOf f f pg bg sg dV kV doc pm an cdv ct), osl⟩ ∧ PySem.W.codeIn K cdv f = true ∧
    L2.Binds K (PySem.W.fnOf f f pg bg sg dV kV doc pm an cdv ct) [a] [] ∧ FnScope Ng [a] sg ∧ Ng[0]? = some a ∧ Vis sg a ∧ (a == ("__debug__" : Str)) = false ∧ (a == ("__classdict__" : Str)) = false ∧ HsA K mg hA hs ∧
    ∀ X : Cx, X.prog = P → X.w = w → X.K = K → X.mg = mg → X.base = base → ∀ q, LamX.GivesTo X Ng f sg g cdv bg a q (TWord K hA)
  dbg : (f == ("__debug__" : Str)) = false
/-- what the module gives -/
structure ModK (P : Program) (w : World) (K : PySem.W.Frag) (mg : Str → Option Value) (base : Heap) (LV : Nat) (Γ : Ctr) : Prop where
  kt : KTy K
  nb : ∀ f ∈ builtinNames, mg f = none
  fn : ∀ x c, Γ.fn x = some c → ∃ n, FnK P w K mg base LV x n c
  gv : ∀ x d, Γ.gv x = some d → ∃ v u, mg x = some u ∧ RelV v u ∧ (x == ("__debug__" : Str)) = false ∧ ∀ H O, Rp ⟨K, mg⟩ H O d v
  ex : ∀ x, Γ.ex x = true → ExK K mg x
  sub : ∀ x c b, Γ.sub x c = some b → SubK K mg x c b
  wd : ∀ f hs, Γ.wd f = some hs → WdK P w K mg base f hs
theorem ModK.out {P : Program} {w : World} {K : PySem.W.Frag} {mg : Str → Option Value} {base : Heap} {LV : Nat} {Γ : Ctr} (m : ModK P w K mg base LV Γ) : ModK P w K mg base LV Γ.out := ⟨m.kt, m.nb, m.fn, m.gv, m.ex, m.sub, m.wd⟩
structure XOK (Γ : Ctr) (N : List Str) (sc : Scope) (X : Cx) : Prop where
  n : X.N = N
  nd : N.Nodup
  sc : X.env.scope = sc
  calm : X.calm = true
  m : ∃ LV, Room LV X.A ∧ (Γ.tb ≠ none → Room (LV + 2) X.A) ∧ ModK X.prog X.w X.K X.mg X.base LV Γ
  lm : ∀ p q, Γ.tb = some (p, q) → q = X.env.qual ++ "<lambda>" ∧ ∃ c, LamX.TabB X.base X.mg c p ∧ X.env.code = .ref c
/-- the handlers of the frame take it, and the bounds know the frame's table -/
structure TakesB (Γ : Ctr) (t0 : Tb) (X : Cx) (W : WX) : Prop where
  t : Takes X W
  b : ∀ p, Γ.tb = some p → t0 = some p
section
variable {Γ : Ctr} {N : List Str} {sc : Scope} {X : Cx}
theorem XOK.hu (x : XOK Γ N sc X) : X.A.units + 70 < cLine := by
  obtain ⟨LV, r, _, _⟩ := x.m
  have := r.un
  omega
theorem XOK.nb (x : XOK Γ N sc X) {f : Str} (h : f ∈ builtinNames) : X.mg f = none := by
  obtain ⟨LV, _, _, m⟩ := x.m
  exact m.nb f h
theorem XOK.kt (x : XOK Γ N sc X) : KTy X.K := by
  obtain ⟨LV, _, _, m⟩ := x.m
  exact m.kt
end

/-! ### the semantic readings -/
def twE (X : Cx) (e : Expr) : TE := fun σ H Q => ∀ pins s, Inv X pins σ H s → wpAny (model X.prog X.w) X.A (eval e X.env) (EP X pins σ Q) X.xe s
def twT (X : Cx) (e : Expr) : TT := fun σ H Q => ∀ pins s, Inv X pins σ H s → wpAny (model X.prog X.w) X.A (isTrue e X.env (eval e X.env)) (TP X pins σ Q) X.xe s
def twA (X : Cx) (es : List Expr) : TA := fun σ H Q => ∀ (pos : Pos) pins s, Inv X pins σ H s → wpAny (model X.prog X.w) X.A (spliced (backTo pos (starEach es X.env))) (AP X pins σ Q) X.xe s
section
variable {X : Cx} {e : Expr} {es : List Expr} {σ : L2.St} {H : Hp}
theorem pe_tw : PE X e (twE X e) := ⟨fun pins s σ H Q I h => h pins s I⟩
theorem pt_tw : PT X e (twT X e) := ⟨fun pins s σ H Q I h => h pins s I⟩
theorem pa_tw : PA X es (twA X es) := ⟨fun pos pins s σ H Q I h => h pos pins s I⟩
theorem of_pe {t : TE} {Q : VK} (p : PE X e t) (h : t σ H Q) : twE X e σ H Q := fun pins s I => p.run pins s σ H Q I h
theorem of_pt {t : TT} {Q : Bool → Hp → Prop} (p : PT X e t) (h : t σ H Q) : twT X e σ H Q := fun pins s I => p.run pins s σ H Q I h
theorem of_pa {t : TA} {Q : List V → Hp → Prop} (p : PA X es t) (h : t σ H Q) : twA X es σ H Q := fun pos pins s I => p.run pos pins s σ H Q I h
end

def OkE (Γ : Ctr) (N : List Str) (sc : Scope) (e : Expr) (t : E) : Prop :=
  ∀ X, XOK Γ N sc X → ∀ B ρ σ H O Q W, SR (sur X) B ρ σ H O → TakesB Γ B.tb X W → GE (sur X) B σ O Q W (evalE Γ t ρ) → twE X e σ H Q
def OkT (Γ : Ctr) (N : List Str) (sc : Scope) (e : Expr) (t : E) : Prop :=
  ∀ X, XOK Γ N sc X → ∀ B ρ σ H O (Q : Bool → Hp → Prop) W, SR (sur X) B ρ σ H O → TakesB Γ B.tb X W → GT (sur X) B σ O Q W (evalE Γ t ρ) → twT X e σ H Q
def PL (S : Sur) (O : Addr → Prop) : List D → Env → Hp → List V → Prop := fun ds _ H vs => RpL S H O ds vs
def OkL (Γ : Ctr) (N : List Str) (sc : Scope) (es : List Expr) (ts : List E) : Prop :=
  ∀ X, XOK Γ N sc X → ∀ B ρ σ H O Q W, SR (sur X) B ρ σ H O → TakesB Γ B.tb X W → GG (sur X) B σ O (PL (sur X) O) Q W (evalL Γ ts ρ) → twA X es σ H Q

section
variable {Γ : Ctr} {N : List Str} {sc : Scope} {X : Cx}
theorem kind_of (x : XOK Γ N sc X) {y : Str} {k : NameKind} (h : sc.names.lookup y = some k) : X.env.scope.names.lookup y = some k := by rw [x.sc]; exact h
theorem gl_of (x : XOK Γ N sc X) {y : Str} (h : sc.names.lookup y = some .globalImplicit) : Gl X y := kind_of x h
theorem vis_of (x : XOK Γ N sc X) {y : Str} (h : Vis sc y) : Vis X.env.scope y := by rw [x.sc]; exact h

theorem ok_var {i : Nat} {y : Str} {pos : Pos} (hN : N[i]? = some y) (hv : Vis sc y) (hd : (y == ("__debug__" : Str)) = false) (hcd : (y == ("__classdict__" : Str)) = false) : OkE Γ N sc (.Name y pos) (.var i) := by
  intro X x B ρ σ H O Q W r tk g
  refine of_pe (pe_var (i := i) (by rw [x.n]; exact hN) (vis_of x hv) hd hcd) ?_
  simp only [evalE] at g
  split at g
  · rename_i d e
    obtain ⟨v, e1, q⟩ := r.val i d e
    exact ⟨v, e1, g v H r q⟩
  · exact False.elim g
theorem cst_ok {X : Cx} {B : Bd} {ρ : Env} {σ : L2.St} {H : Hp} {O : Addr → Prop} {Q : VK} {W : WX} {d : D} {v : V} (r : SR (sur X) B ρ σ H O) (g : GE (sur X) B σ O Q W (evalE Γ (.cst d) ρ)) (q : Rp (sur X) H O d v) : Q v H := by
  simp only [evalE] at g
  exact g v H r q
theorem ok_cst_non {j : Nat} {pos : Pos} : OkE Γ N sc (.Constant .none j pos) (.cst .non) := fun X x B ρ σ H O Q W r tk g => of_pe pe_non (cst_ok r g .non)
theorem ok_cst_bl {b : Bool} {j : Nat} {pos : Pos} : OkE Γ N sc (.Constant (.bool b) j pos) (.cst (.bl b)) := fun X x B ρ σ H O Q W r tk g => of_pe pe_bl (cst_ok r g (.bl b))
theorem ok_cst_int {b : Int} {j : Nat} {pos : Pos} : OkE Γ N sc (.Constant (.int b) j pos) (.cst (.int b)) := fun X x B ρ σ H O Q W r tk g => of_pe pe_int (cst_ok r g (.int b))
theorem ok_cst_str {b : Str} {j : Nat} {pos : Pos} : OkE Γ N sc (.Constant (.str b) j pos) (.cst (.str b)) := fun X x B ρ σ H O Q W r tk g => of_pe pe_str (cst_ok r g (.str b))
theorem ok_glb {y : Str} {pos : Pos} (hg : sc.names.lookup y = some .globalImplicit) : OkE Γ N sc (.Name y pos) (.glb y) := by
  intro X x B ρ σ H O Q W r tk g
  simp only [evalE] at g
  cases e : Γ.gv y with
  | none => rw [e] at g; exact False.elim g
  | some d =>
    rw [e] at g
    obtain ⟨LV, _, _, m⟩ := x.m
    obtain ⟨v, u, h1, h2, h3, h4⟩ := m.gv y d e
    exact of_pe (pe_glob (gl_of x hg) h1 h2 h3) (g v H r (h4 H O))

/-! ### lists of expressions -/
def noStar : Expr → Bool
  | .Starred _ _ => false
  | _ => true
theorem star_one {e : Expr} {es : List Expr} {env : PySem.Env} (h : noStar e = true) : starEach (e :: es) env = (false, eval e env) :: starEach es env := by
  cases e <;> first | rfl | cases h
theorem star_all {env : PySem.Env} {pos : Pos} : ∀ {es : List Expr}, es.all noStar = true → (backTo pos (starEach es env)).any (·.1) = false
  | [], _ => rfl
  | e :: es, h => by
    simp only [List.all_cons, Bool.and_eq_true] at h
    rw [star_one h.1]
    exact star_all h.2
theorem ok_L_nil : OkL Γ N sc [] [] := by
  intro X x B ρ σ H O Q W r tk g
  simp only [evalL] at g
  exact of_pa pa_nil (g [] H r .nil)
theorem ok_L_cons {e : Expr} {es : List Expr} {t : E} {ts : List E} (h1 : OkE Γ N sc e t) (h2 : OkL Γ N sc es ts) (hs : noStar e = true) : OkL Γ N sc (e :: es) (t :: ts) := by
  intro X x B ρ σ H O Q W r tk g
  refine of_pa (pa_cons pe_tw pa_tw (star_one hs)) ?_
  simp only [evalL] at g
  refine h1 X x B ρ σ H O _ W r tk (g.stepE r.sub fun a ρ1 v H1 r1 q1 g1 => ?_)
  refine h2 X x _ ρ1 σ H1 O _ W r1.stab tk ((g1.up r1.up).step (P' := PL (sur X) O) fun ds ρ2 vs H2 r2 q2 g2 => ?_)
  exact g2 (v :: vs) H2 r2 (.cons (r1.carry r2.keep q1) q2)
theorem ok_tup {es : List Expr} {ts : List E} {k : Nat} {pos : Pos} (h : OkL Γ N sc es ts) : OkE Γ N sc (.Tuple es k pos) (.tup ts) := by
  intro X x B ρ σ H O Q W r tk g
  refine of_pe (pe_tup pa_tw) ?_
  simp only [evalE] at g
  refine h X x B ρ σ H O _ W r tk (g.stepG (P := PL (sur X) O) fun ds ρ1 vs H1 r1 q1 g1 => ?_)
  split at g1
  · rename_i hl
    exact ⟨by rw [← q1.length]; exact LIM_le hl, fun p n => (g1.post r1).tup q1 n⟩
  · exact False.elim g1
theorem ok_lst {es : List Expr} {ts : List E} {pos : Pos} (h : OkL Γ N sc es ts) : OkE Γ N sc (.List es pos) (.lst ts) := by
  intro X x B ρ σ H O Q W r tk g
  refine of_pe (pe_lst pa_tw) ?_
  simp only [evalE] at g
  refine h X x B ρ σ H O _ W r tk (g.stepG (P := PL (sur X) O) fun ds ρ1 vs H1 r1 q1 g1 => ?_)
  split at g1
  · rename_i hl
    exact ⟨by rw [← q1.length]; exact LIM_le hl, fun p n => (g1.post r1).lst q1 n⟩
  · exact False.elim g1

/-! ### operators -/
theorem ok_bin {op : Operator} {a b : Expr} {s t : E} {pos : Pos} (h1 : OkE Γ N sc a s) (h2 : OkE Γ N sc b t) : OkE Γ N sc (.BinOp a op b pos) (.bin op s t) := by
  intro X x B ρ σ H O Q W r tk g
  refine of_pe (pe_op (op_bin X op) pe_tw pe_tw) ?_
  simp only [evalE] at g
  refine h1 X x B ρ σ H O _ W r tk (g.step r.sub fun u ρ1 v H1 r1 q1 g1 => ?_)
  refine h2 X x _ ρ1 σ H1 O _ W r1.stab tk ((g1.up r1.up).step r1.sub fun w ρ2 y H2 r2 q2 g2 => ?_)
  obtain ⟨z, e, p⟩ := g2.post' r2
  exact ⟨O, _, _, z, r1.carry r2.keep q1, q2, e, p⟩
theorem ok_neg {a : Expr} {s : E} {pos : Pos} (h1 : OkE Γ N sc a s) : OkE Γ N sc (.UnaryOp .USub a pos) (.neg s) := by
  intro X x B ρ σ H O Q W r tk g
  refine of_pe (pe_un un_neg pe_tw) ?_
  simp only [evalE] at g
  refine h1 X x B ρ σ H O _ W r tk (g.step r.sub fun u ρ1 v H1 r1 q1 g1 => ?_)
  split at g1
  · rename_i i e
    rw [e] at q1
    cases q1
    exact ⟨i, rfl, (g1.post r1).int⟩
  · exact False.elim g1
theorem ok_cmp {op : CmpOp} {a b : Expr} {s t : E} {pos : Pos} (h1 : OkE Γ N sc a s) (h2 : OkE Γ N sc b t) (hm : behindInMarks op b = false) : OkE Γ N sc (.Compare a [op] [b] pos) (.cmp op s t) := by
  intro X x B ρ σ H O Q W r tk g
  refine of_pe (pe_cmpR (op_cmp op x.hu) pe_tw pe_tw hm) ?_
  simp only [evalE] at g
  refine h1 X x B ρ σ H O _ W r tk (g.step r.sub fun u ρ1 v H1 r1 q1 g1 => ?_)
  refine h2 X x _ ρ1 σ H1 O _ W r1.stab tk ((g1.up r1.up).step r1.sub fun w ρ2 y H2 r2 q2 g2 => ?_)
  obtain ⟨z, e, p⟩ := g2.post' r2
  rw [Option.map_eq_some_iff] at e
  obtain ⟨k, e, rfl⟩ := e
  exact ⟨O, _, _, k, r1.carry r2.keep q1, q2, e, p.bl⟩
theorem GT.ofO {S : Sur} {B : Bd} {σ : L2.St} {O : Addr → Prop} {Q : Bool → Hp → Prop} {W : WX} {ρ : Env} {H : Hp} {o : Option Bool} (g : GT S B σ O Q W (ofO (o.map fun b => (D.bl b, false)) ρ)) (r : SR S B ρ σ H O) : ∃ b, o = some b ∧ Q b H := by
  cases o with
  | none => exact False.elim g
  | some b => exact ⟨b, rfl, g H r⟩
theorem okt_cmp {op : CmpOp} {a b : Expr} {s t : E} {pos : Pos} (h1 : OkE Γ N sc a s) (h2 : OkE Γ N sc b t) (hm : behindInMarks op b = false) : OkT Γ N sc (.Compare a [op] [b] pos) (.cmp op s t) := by
  intro X x B ρ σ H O Q W r tk g
  refine of_pt (pt_cmpR (op_cmp op x.hu) pe_tw pe_tw hm) ?_
  simp only [evalE] at g
  refine h1 X x B ρ σ H O _ W r tk (g.step r.sub fun u ρ1 v H1 r1 q1 g1 => ?_)
  refine h2 X x _ ρ1 σ H1 O _ W r1.stab tk ((g1.up r1.up).step r1.sub fun w ρ2 y H2 r2 q2 g2 => ?_)
  obtain ⟨k, e, q⟩ := g2.ofO r2
  exact ⟨O, _, _, k, r1.carry r2.keep q1, q2, e, k, rfl, q⟩
theorem ok_chn {op op' : CmpOp} {a b c : Expr} {s t u : E} {pos : Pos} (h1 : OkE Γ N sc a s) (h2 : OkE Γ N sc b t) (h3 : OkE Γ N sc c u) (hm : lastMarks [op, op'] [b, c] = false) : OkE Γ N sc (.Compare a [op, op'] [b, c] pos) (.chn op op' s t u) := by
  intro X x B ρ σ H O Q W r tk g
  refine of_pe (pe_chain (op_cmp op x.hu) (op_cmp op' x.hu) pe_tw pe_tw pe_tw hm) ?_
  simp only [evalE] at g
  refine h1 X x B ρ σ H O _ W r tk (g.step r.sub fun xa ρ1 v H1 r1 q1 g1 => ?_)
  refine h2 X x _ ρ1 σ H1 O _ W r1.stab tk ((g1.up r1.up).step r1.sub fun xb ρ2 y H2 r2 q2 g2 => ?_)
  split at g2
  · rename_i e
    refine ⟨O, _, _, true, r1.carry r2.keep q1, q2, e, true, rfl, ?_⟩
    rw [if_pos rfl]
    refine h3 X x _ ρ2 σ H2 O _ W r2.stab tk ((g2.up r2.up).step r2.sub fun xc ρ3 z H3 r3 q3 g3 => ?_)
    obtain ⟨k, e', p⟩ := g3.post' r3
    rw [Option.map_eq_some_iff] at e'
    obtain ⟨k, e', rfl⟩ := e'
    exact ⟨O, _, _, k, r2.carry r3.keep q2, q3, e', p.bl⟩
  · rename_i e
    refine ⟨O, _, _, false, r1.carry r2.keep q1, q2, e, false, rfl, ?_⟩
    rw [if_neg Bool.false_ne_true]
    exact (g2.post r2).bl
  · exact False.elim g2
theorem okt_chn {op op' : CmpOp} {a b c : Expr} {s t u : E} {pos : Pos} (h1 : OkE Γ N sc a s) (h2 : OkE Γ N sc b t) (h3 : OkE Γ N sc c u) (hm : lastMarks [op, op'] [b, c] = false) : OkT Γ N sc (.Compare a [op, op'] [b, c] pos) (.chn op op' s t u) := by
  intro X x B ρ σ H O Q W r tk g
  refine of_pt (pt_chain (op_cmp op x.hu) (op_cmp op' x.hu) pe_tw pe_tw pe_tw hm) ?_
  simp only [evalE] at g
  refine h1 X x B ρ σ H O _ W r tk (g.step r.sub fun xa ρ1 v H1 r1 q1 g1 => ?_)
  refine h2 X x _ ρ1 σ H1 O _ W r1.stab tk ((g1.up r1.up).step r1.sub fun xb ρ2 y H2 r2 q2 g2 => ?_)
  split at g2
  · rename_i e
    refine ⟨O, _, _, true, r1.carry r2.keep q1, q2, e, true, rfl, ?_⟩
    rw [if_pos rfl]
    refine h3 X x _ ρ2 σ H2 O _ W r2.stab tk ((g2.up r2.up).step r2.sub fun xc ρ3 z H3 r3 q3 g3 => ?_)
    obtain ⟨k, e', q⟩ := g3.ofO r3
    exact ⟨O, _, _, k, r2.carry r3.keep q2, q3, e', k, rfl, q⟩
  · rename_i e
    refine ⟨O, _, _, false, r1.carry r2.keep q1, q2, e, false, rfl, ?_⟩
    rw [if_neg Bool.false_ne_true]
    exact ⟨false, rfl, g2 H2 r2⟩
  · exact False.elim g2
/-! ### truth -/
def plainTest : Expr → Bool
  | .UnaryOp .Not _ _ => false
  | .BoolOp _ _ _ => false
  | .IfExp _ _ _ _ => false
  | .Compare _ _ _ _ => false
  | _ => true
theorem okt_val {e : Expr} {t : E} (h : OkE Γ N sc e t) (hp : plainTest e = true) : OkT Γ N sc e t := by
  intro X x B ρ σ H O Q W r tk g
  refine of_pt (pt_val (e := e) pe_tw ?_) ?_
  · intro whole
    cases e with
    | UnaryOp op a p => cases op <;> first | rfl | cases hp
    | BoolOp _ _ _ => cases hp
    | IfExp _ _ _ _ => cases hp
    | Compare _ _ _ _ => cases hp
    | _ => rfl
  · exact h X x B ρ σ H O _ W r tk (g.val r.sub fun b H1 q => ⟨b, rfl, q⟩)
theorem GE.stepBV {S : Sur} {O : Addr → Prop} {B : Bd} {σ : L2.St} {Q Q' : VK} {W : WX} {r : R Vl} {f : Bool → Env → R Vl} (g : GE S B σ O Q W (r.bindB f)) (h0 : ∀ b, B.O0 b → O b)
    (k : ∀ b ρ1 H1, SR S B ρ1 σ H1 O → GE S B σ O Q W (f b ρ1) → Q' (.bl b) H1) : GE S B σ O Q' W r := by
  match r, g with
  | .ok (.bl b, fr) ρ, g => exact GE.val (fun v H r q => by cases q; exact k b ρ H r g) h0
  | .err x ρ, g => exact g
theorem ok_not {a : Expr} {s : E} {pos : Pos} (h : OkE Γ N sc a s) : OkE Γ N sc (.UnaryOp .Not a pos) (.notE s) := by
  intro X x B ρ σ H O Q W r tk g
  refine of_pe (pe_not pe_tw) ?_
  simp only [evalE] at g
  exact h X x B ρ σ H O _ W r tk (g.stepBV r.sub fun b ρ1 H1 r1 g1 => ⟨b, rfl, (g1.post r1).bl⟩)
theorem okt_not {a : Expr} {s : E} {pos : Pos} (h : OkT Γ N sc a s) : OkT Γ N sc (.UnaryOp .Not a pos) (.notE s) := by
  intro X x B ρ σ H O Q W r tk g
  refine of_pt (pt_not pt_tw) ?_
  simp only [evalE] at g
  exact h X x B ρ σ H O _ W r tk (g.stepB fun b ρ1 H1 r1 g1 => g1 H1 r1)
theorem ok_ite {c a b : Expr} {s t u : E} {pos : Pos} (h1 : OkT Γ N sc c s) (h2 : OkE Γ N sc a t) (h3 : OkE Γ N sc b u) : OkE Γ N sc (.IfExp c a b pos) (.ite s t u) := by
  intro X x B ρ σ H O Q W r tk g
  refine of_pe (pe_ifExp pt_tw pe_tw pe_tw) ?_
  simp only [evalE] at g
  refine h1 X x B ρ σ H O _ W r tk (g.stepB fun k ρ1 H1 r1 g1 => ?_)
  cases k with
  | true => exact h2 X x B ρ1 σ H1 O Q W r1 tk g1
  | false => exact h3 X x B ρ1 σ H1 O Q W r1 tk g1
theorem ok_and1 {e : Expr} {t : E} {pos : Pos} (h : OkE Γ N sc e t) : OkE Γ N sc (.BoolOp .And [e] pos) (.andE [t]) := by
  intro X x B ρ σ H O Q W r tk g
  refine of_pe (pe_one pe_tw) ?_
  simp only [evalE, evalAnd] at g
  exact h X x B ρ σ H O Q W r tk g
theorem ok_or1 {e : Expr} {t : E} {pos : Pos} (h : OkE Γ N sc e t) : OkE Γ N sc (.BoolOp .Or [e] pos) (.orE [t]) := by
  intro X x B ρ σ H O Q W r tk g
  refine of_pe (pe_one pe_tw) ?_
  simp only [evalE, evalOr] at g
  exact h X x B ρ σ H O Q W r tk g
theorem ok_and {e e2 : Expr} {es : List Expr} {t t2 : E} {ts : List E} {pos : Pos} (h1 : OkE Γ N sc e t) (h2 : OkE Γ N sc (.BoolOp .And (e2 :: es) pos) (.andE (t2 :: ts))) : OkE Γ N sc (.BoolOp .And (e :: e2 :: es) pos) (.andE (t :: t2 :: ts)) := by
  intro X x B ρ σ H O Q W r tk g
  refine of_pe (pe_and pe_tw pe_tw) ?_
  simp only [evalE, evalAnd] at g
  refine h1 X x B ρ σ H O _ W r tk (g.stepBV r.sub fun b ρ1 H1 r1 g1 => ⟨b, rfl, ?_⟩)
  cases b with
  | true =>
    rw [if_pos rfl]
    refine h2 X x B ρ1 σ H1 O Q W r1 tk ?_
    simp only [evalE]
    exact g1
  | false =>
    rw [if_neg Bool.false_ne_true]
    exact (g1.post r1).bl
theorem ok_or {e e2 : Expr} {es : List Expr} {t t2 : E} {ts : List E} {pos : Pos} (h1 : OkE Γ N sc e t) (h2 : OkE Γ N sc (.BoolOp .Or (e2 :: es) pos) (.orE (t2 :: ts))) : OkE Γ N sc (.BoolOp .Or (e :: e2 :: es) pos) (.orE (t :: t2 :: ts)) := by
  intro X x B ρ σ H O Q W r tk g
  refine of_pe (pe_or pe_tw pe_tw) ?_
  simp only [evalE, evalOr] at g
  refine h1 X x B ρ σ H O _ W r tk (g.stepBV r.sub fun b ρ1 H1 r1 g1 => ⟨b, rfl, ?_⟩)
  cases b with
  | false =>
    rw [if_neg Bool.false_ne_true]
    refine h2 X x B ρ1 σ H1 O Q W r1 tk ?_
    simp only [evalE]
    exact g1
  | true =>
    rw [if_pos rfl]
    exact (g1.post r1).bl
/-- and, or as tests -/
def twW (X : Cx) (e : Expr) : TT := fun σ H Q => ∀ (whole : Sem Value) pins s, Inv X pins σ H s → wpAny (model X.prog X.w) X.A (isTrue e X.env whole) (TP X pins σ Q) X.xe s
theorem pw_tw {e : Expr} : PW X e (twW X e) := ⟨fun whole pins s σ H Q I h => h whole pins s I⟩
def OkW (Γ : Ctr) (N : List Str) (sc : Scope) (e : Expr) (t : E) : Prop :=
  ∀ X, XOK Γ N sc X → ∀ B ρ σ H O (Q : Bool → Hp → Prop) W, SR (sur X) B ρ σ H O → TakesB Γ B.tb X W → GT (sur X) B σ O Q W (evalE Γ t ρ) → twW X e σ H Q
theorem OkW.t {e : Expr} {t : E} (h : OkW Γ N sc e t) : OkT Γ N sc e t := fun X x B ρ σ H O Q W r tk g => of_pt pw_tw.pt (h X x B ρ σ H O Q W r tk g)
theorem of_pw {e : Expr} {σ : L2.St} {H : Hp} {t : TT} {Q : Bool → Hp → Prop} (p : PW X e t) (h : t σ H Q) : twW X e σ H Q := fun whole pins s I => p.run whole pins s σ H Q I h
theorem okw_and1 {e : Expr} {t : E} {pos : Pos} (h : OkT Γ N sc e t) : OkW Γ N sc (.BoolOp .And [e] pos) (.andE [t]) := by
  intro X x B ρ σ H O Q W r tk g
  refine of_pw (pw_and1 pt_tw) ?_
  simp only [evalE, evalAnd] at g
  exact h X x B ρ σ H O Q W r tk g
theorem okw_or1 {e : Expr} {t : E} {pos : Pos} (h : OkT Γ N sc e t) : OkW Γ N sc (.BoolOp .Or [e] pos) (.orE [t]) := by
  intro X x B ρ σ H O Q W r tk g
  refine of_pw (pw_or1 pt_tw) ?_
  simp only [evalE, evalOr] at g
  exact h X x B ρ σ H O Q W r tk g
theorem okw_and {e e2 : Expr} {es : List Expr} {t t2 : E} {ts : List E} {pos : Pos} (h1 : OkT Γ N sc e t) (h2 : OkW Γ N sc (.BoolOp .And (e2 :: es) pos) (.andE (t2 :: ts))) : OkW Γ N sc (.BoolOp .And (e :: e2 :: es) pos) (.andE (t :: t2 :: ts)) := by
  intro X x B ρ σ H O Q W r tk g
  refine of_pw (pw_and pt_tw pw_tw) ?_
  simp only [evalE, evalAnd] at g
  refine h1 X x B ρ σ H O _ W r tk (g.stepB fun b ρ1 H1 r1 g1 => ?_)
  cases b with
  | true =>
    rw [if_pos rfl]
    refine h2 X x B ρ1 σ H1 O Q W r1 tk ?_
    simp only [evalE]
    exact g1
  | false =>
    rw [if_neg Bool.false_ne_true]
    exact g1 H1 r1
theorem okw_or {e e2 : Expr} {es : List Expr} {t t2 : E} {ts : List E} {pos : Pos} (h1 : OkT Γ N sc e t) (h2 : OkW Γ N sc (.BoolOp .Or (e2 :: es) pos) (.orE (t2 :: ts))) : OkW Γ N sc (.BoolOp .Or (e :: e2 :: es) pos) (.orE (t :: t2 :: ts)) := by
  intro X x B ρ σ H O Q W r tk g
  refine of_pw (pw_or pt_tw pw_tw) ?_
  simp only [evalE, evalOr] at g
  refine h1 X x B ρ σ H O _ W r tk (g.stepB fun b ρ1 H1 r1 g1 => ?_)
  cases b with
  | false =>
    rw [if_neg Bool.false_ne_true]
    refine h2 X x B ρ1 σ H1 O Q W r1 tk ?_
    simp only [evalE]
    exact g1
  | true =>
    rw [if_pos rfl]
    exact g1 H1 r1

/-! ### items, slices, isinstance -/
def notSlice : Expr → Bool
  | .Slice _ _ _ _ => false
  | _ => true
theorem plainIx {b : Expr} (h : notSlice b = true) : PlainIx b := by
  intro o i
  cases b <;> first | rfl | cases h
theorem ok_ix {a b : Expr} {s t : E} {pos : Pos} (h1 : OkE Γ N sc a s) (h2 : OkE Γ N sc b t) (hn : notSlice b = true) : OkE Γ N sc (.Subscript a b pos) (.ix s t) := by
  intro X x B ρ σ H O Q W r tk g
  refine of_pe (pe_ix (ix_ok X) pe_tw pe_tw (plainIx hn)) ?_
  simp only [evalE] at g
  refine h1 X x B ρ σ H O _ W r tk (g.step r.sub fun u ρ1 v H1 r1 q1 g1 => ?_)
  refine h2 X x _ ρ1 σ H1 O _ W r1.stab tk ((g1.up r1.up).step r1.sub fun w ρ2 y H2 r2 q2 g2 => ?_)
  obtain ⟨z, e, p⟩ := g2.post' r2
  rw [Option.map_eq_some_iff] at e
  obtain ⟨d, e, rfl⟩ := e
  exact ⟨O, _, _, d, r1.carry r2.keep q1, q2, e, fun w q => p.old q⟩
def twO (X : Cx) (e : Option Expr) : TO := fun σ H Q => ∀ pins s, Inv X pins σ H s → wpAny (model X.prog X.w) X.A (evalPart e X.env) (fun u s' => ∃ o H', Inv X pins σ H' s' ∧ IsPart u o ∧ Q o H') X.xe s
theorem po_tw {e : Option Expr} : PO X e (twO X e) := ⟨fun pins s σ H Q I h => h pins s I⟩
def OkP (Γ : Ctr) (N : List Str) (sc : Scope) (e : Option Expr) (t : E) : Prop :=
  ∀ X, XOK Γ N sc X → ∀ B ρ σ H O (Q : Option Int → Hp → Prop) W, SR (sur X) B ρ σ H O → TakesB Γ B.tb X W → GG (sur X) B σ O (fun (o : Option Int) _ _ (u : Option Int) => o = u) Q W (evalP Γ t ρ) → twO X e σ H Q
theorem okp_none : OkP Γ N sc none .off := by
  intro X x B ρ σ H O Q W r tk g pins s I
  simp only [evalP, partR] at g
  exact po_none.run pins s σ H Q I (g none H r rfl)
def notOff : E → Bool
  | .off => false
  | _ => true
theorem evalP_some {t : E} (h : notOff t = true) (ρ : Env) : evalP Γ t ρ = (evalE Γ t ρ).bind fun x ρ => ofO ((partD x.1).map some) ρ := by
  cases t <;> first | (simp [notOff] at h; done) | rfl
theorem okp_some {e : Expr} {t : E} (h : OkE Γ N sc e t) (hn : notOff t = true) : OkP Γ N sc (some e) t := by
  intro X x B ρ σ H O Q W r tk g pins s I
  refine (po_some pe_tw).run pins s σ H Q I ?_
  rw [evalP_some hn] at g
  refine h X x B ρ σ H O _ W r tk (g.stepE r.sub fun u ρ1 v H1 r1 q1 g1 => ?_)
  cases e : u.1 with
  | int i =>
    rw [e] at q1 g1
    cases q1
    exact ⟨i, rfl, g1 (some i) H1 r1 rfl⟩
  | _ => rw [e] at g1; exact False.elim g1
theorem ok_sl {a : Expr} {lo hi : Option Expr} {s t u : E} {p2 pos : Pos} (h1 : OkE Γ N sc a s) (h2 : OkP Γ N sc lo t) (h3 : OkP Γ N sc hi u) : OkE Γ N sc (.Subscript a (.Slice lo hi none p2) pos) (.sl s t u) := by
  intro X x B ρ σ H O Q W r tk g
  refine of_pe (pe_slice (sl_ok X) pe_tw po_tw po_tw) ?_
  rw [evalE_sl] at g
  refine h1 X x B ρ σ H O _ W r tk (g.step r.sub fun xa ρ1 v H1 r1 q1 g1 => ?_)
  refine h2 X x _ ρ1 σ H1 O _ W r1.stab tk ((g1.up r1.up).stepG (P := fun (o : Option Int) _ _ (u : Option Int) => o = u) fun l ρ2 l' H2 r2 q2 g2 => ?_)
  subst q2
  refine h3 X x _ ρ2 σ H2 O _ W r2.stab tk ((g2.up r2.up).stepG (P := fun (o : Option Int) _ _ (u : Option Int) => o = u) fun m ρ3 m' H3 r3 q3 g3 => ?_)
  subst q3
  obtain ⟨z, e, p⟩ := g3.post' r3
  exact ⟨O, _, z, r2.carry r3.keep (r1.carry r2.keep q1), e, p⟩
theorem ok_isi {a : Expr} {T : Str} {T' : String} {s : E} {p1 p2 pos : Pos} (h1 : OkE Γ N sc a s) (hs : noStar a = true) (hg : sc.names.lookup ("isinstance" : Str) = some .globalImplicit) (hgT : sc.names.lookup T = some .globalImplicit)
    (hT : (T, T') ∈ [(("int" : Str), "int"), ("bool", "bool"), ("str", "str"), ("tuple", "tuple"), ("list", "list")]) : OkE Γ N sc (.Call (.Name "isinstance" p1) [a, .Name T p2] [] pos) (.isi s T') := by
  intro X x B ρ σ H O Q W r tk g
  have bt : bootBuiltins T = some (.type T') ∧ T ∈ builtinNames ∧ T ≠ "__name__" ∧ (T == ("__debug__" : Str)) = false ∧ T' ∈ ["int", "bool", "str", "tuple", "list"] := by
    simp only [List.mem_cons, List.mem_nil_iff, or_false, Prod.mk.injEq] at hT
    rcases hT with ⟨rfl, rfl⟩ | ⟨rfl, rfl⟩ | ⟨rfl, rfl⟩ | ⟨rfl, rfl⟩ | ⟨rfl, rfl⟩ <;> exact ⟨by decide +kernel, by decide +kernel, by decide +kernel, by decide +kernel, by decide⟩
  obtain ⟨b1, b2, b3, b4, b5⟩ := bt
  refine of_pe (pe_callB call_isi (gl_of x hg) (x.nb (by decide +kernel)) (by decide +kernel) (pa_cons pe_tw (pa_cons (pe_bltn (v := .ty T') (gl_of x hgT) (x.nb b2) b1 rfl b3 b4) pa_nil) (star_one hs)) (by decide) (by decide) (star_one hs) (by rfl)) ?_
  simp only [evalE] at g
  refine h1 X x B ρ σ H O _ W r tk (g.step r.sub fun u ρ1 v H1 r1 q1 g1 => ?_)
  obtain ⟨z, e, p⟩ := g1.post' r1
  rw [Option.map_eq_some_iff] at e
  obtain ⟨k, e, rfl⟩ := e
  refine isi_ok x.kt ⟨O, u.1, k, q1, e, b5, ?_, p.bl⟩
  cases h : u.1 <;> rw [h] at e <;> first | (simp [D.ty]; done) | (simp [D.ty, isiD] at e)
/-! ### the built-in functions -/
theorem ok_blt {f : Str} {e : Expr} {es : List Expr} {ts : List E} {p1 pos : Pos} (h : OkL Γ N sc (e :: es) ts) (hs : (e :: es).all noStar = true) (hg : sc.names.lookup f = some .globalImplicit) (hf : f ∈ builtinNames) (hb : (bltFn f).isSome = true ∨ (bltCl f).isSome = true) :
    OkE Γ N sc (.Call (.Name f p1) (e :: es) [] pos) (.blt f ts) := by
  intro X x B ρ σ H O Q W r tk g
  have h1 : noStar e = true := by simp only [List.all_cons, Bool.and_eq_true] at hs; exact hs.1
  have h2 : es.all noStar = true := by simp only [List.all_cons, Bool.and_eq_true] at hs; exact hs.2
  simp only [evalE] at g
  have main : ∀ {t : TE}, PE X (.Call (.Name f p1) (e :: es) [] pos) t → (∀ (H1 : Hp), True → True) → (twA X (e :: es) σ H (fun vs H1 => rBlt (sur X) f vs H1 Q) → t σ H Q) → twE X (.Call (.Name f p1) (e :: es) [] pos) σ H Q := fun {t} p _ k => of_pe p (k (by
    refine h X x B ρ σ H O _ W r tk (g.stepG (P := PL (sur X) O) fun ds ρ1 vs H1 r1 q1 g1 => ?_)
    obtain ⟨z, e, p⟩ := g1.post' r1
    exact ⟨O, ds, z, q1, e, p⟩))
  rcases hb with hb | hb
  · obtain ⟨id, hid⟩ := Option.isSome_iff_exists.mp hb
    obtain ⟨c, v, n1, n2⟩ := blt_fn x.calm x.hu hid
    exact main (pe_callB c (gl_of x hg) (x.nb hf) v pa_tw n1 n2 (star_one h1) (star_all h2)) (fun _ _ => trivial) fun q => q
  · obtain ⟨id, hid⟩ := Option.isSome_iff_exists.mp hb
    obtain ⟨c, v, n1, n2⟩ := blt_cl (X := X) hid
    exact main (pe_callTy c (gl_of x hg) (x.nb hf) v pa_tw n1 n2 (star_one h1) (star_all h2)) (fun _ _ => trivial) fun q => q
end
end W2

/-! Calls of the module's defs. -/
namespace W2
open PySem L2

/-- an argument as it was read -/
inductive PRep (S : Sur) (H : Hp) (O : Addr → Prop) (σ : L2.St) : List PArg → List V → Prop
  | nil : PRep S H O σ [] []
  | val {d : D} {v : V} {ps : List PArg} {vs : List V} : Rp S H O d v → PRep S H O σ ps vs → PRep S H O σ (.val d :: ps) (v :: vs)
  | io {i : Nat} {a : Addr} {ps : List PArg} {vs : List V} : σ[i]? = some (some (.ref a)) → PRep S H O σ ps vs → PRep S H O σ (.io i :: ps) (.ref a :: vs)
theorem PRep.agr {S : Sur} {O : Addr → Prop} {H H' : Hp} {σ : L2.St} (g : Agr O H H') : ∀ {ps : List PArg} {vs : List V}, PRep S H O σ ps vs → PRep S H' O σ ps vs
  | _, _, .nil => .nil
  | _, _, .val r t => .val (r.agr g (fun _ _ _ h => h) _ _) (PRep.agr g t)
  | _, _, .io e t => .io e (PRep.agr g t)
def OkA (Γ : Ctr) (N : List Str) (sc : Scope) (es : List Expr) (ts : List E) : Prop :=
  ∀ X, XOK Γ N sc X → ∀ B ρ σ H O Q W, SR (sur X) B ρ σ H O → TakesB Γ B.tb X W → GG (sur X) B σ O (fun ps _ H vs => PRep (sur X) H O σ ps vs) Q W (evalA Γ ts ρ) → twA X es σ H Q
def notIo : E → Bool
  | .io _ => false
  | _ => true
section
variable {Γ : Ctr} {N : List Str} {sc : Scope} {X : Cx}
theorem evalA_val {t : E} {ts : List E} (h : notIo t = true) (ρ : Env) : evalA Γ (t :: ts) ρ = (evalE Γ t ρ).bind fun x ρ => (evalA Γ ts ρ).bind fun xs ρ => .ok (.val x.1 :: xs) ρ := by
  cases t <;> first | (simp [notIo] at h; done) | simp only [evalA]
theorem oka_nil : OkA Γ N sc [] [] := by
  intro X x B ρ σ H O Q W r tk g
  simp only [evalA] at g
  exact of_pa pa_nil (g [] H r .nil)
theorem oka_val {e : Expr} {es : List Expr} {t : E} {ts : List E} (h1 : OkE Γ N sc e t) (h2 : OkA Γ N sc es ts) (hs : noStar e = true) (hn : notIo t = true) : OkA Γ N sc (e :: es) (t :: ts) := by
  intro X x B ρ σ H O Q W r tk g
  refine of_pa (pa_cons pe_tw pa_tw (star_one hs)) ?_
  rw [evalA_val hn] at g
  refine h1 X x B ρ σ H O _ W r tk (g.stepE r.sub fun a ρ1 v H1 r1 q1 g1 => ?_)
  refine h2 X x _ ρ1 σ H1 O _ W r1.stab tk ((g1.up r1.up).step (P' := fun ps _ H vs => PRep (sur X) H O σ ps vs) fun ds ρ2 vs H2 r2 q2 g2 => ?_)
  exact g2 (v :: vs) H2 r2 (.val (r1.carry r2.keep q1) q2)
theorem oka_io {y : Str} {i : Nat} {pos : Pos} {es : List Expr} {ts : List E} (hN : N[i]? = some y) (hv : Vis sc y) (hd : (y == ("__debug__" : Str)) = false) (hcd : (y == ("__classdict__" : Str)) = false) (h2 : OkA Γ N sc es ts) : OkA Γ N sc (.Name y pos :: es) (.io i :: ts) := by
  intro X x B ρ σ H O Q W r tk g
  refine of_pa (pa_cons (pe_var (i := i) (by rw [x.n]; exact hN) (vis_of x hv) hd hcd) pa_tw (star_one rfl)) ?_
  simp only [evalA] at g
  split at g
  · rename_i s e
    split at g
    · rename_i ho
      obtain ⟨d, e4⟩ := SV.dat_own ho
      obtain ⟨a, e5, _⟩ := r.own i s d e ho e4
      refine ⟨.ref a, e5, ?_⟩
      refine h2 X x B ρ σ H O _ W r tk (g.step (P' := fun ps _ H vs => PRep (sur X) H O σ ps vs) fun ds ρ2 vs H2 r2 q2 g2 => ?_)
      exact g2 (.ref a :: vs) H2 r2 (.io e5 q2)
    · exact False.elim g
  · exact False.elim g
end

/-! ### behind a call -/
inductive Aln (σ : L2.St) : List Nat → List Addr → Prop
  | nil : Aln σ [] []
  | cons {i : Nat} {a : Addr} {is : List Nat} {as : List Addr} : σ[i]? = some (some (.ref a)) → Aln σ is as → Aln σ (i :: is) (a :: as)
theorem Aln.mem {σ : L2.St} : ∀ {is : List Nat} {as : List Addr} {a : Addr}, Aln σ is as → a ∈ as → ∃ i ∈ is, σ[i]? = some (some (.ref a))
  | _, _, _, .nil, h => by cases h
  | _, _, _, .cons e t, h => by
    rcases List.mem_cons.mp h with rfl | h
    · exact ⟨_, List.mem_cons_self, e⟩
    · obtain ⟨i, h1, h2⟩ := Aln.mem t h
      exact ⟨i, List.mem_cons_of_mem _ h1, h2⟩
section
variable {S : Sur} {O O' : Addr → Prop} {H H' : Hp} {B : Bd} {ρ ρ' : Env} {σ : L2.St}
theorem putIos_len : ∀ {is : List Nat} {ds : List D} {ρ ρ' : Env}, putIos ρ is ds = some ρ' → ρ'.length = ρ.length
  | [], [], _, _, h => by simp [putIos] at h; rw [h]
  | i :: is, d :: ds, ρ, ρ', h => by
    simp only [putIos] at h
    split at h
    · split at h
      · rw [putIos_len h, List.length_set]
      · cases h
    · cases h
  | [], _ :: _, _, _, h => by simp [putIos] at h
  | _ :: _, [], _, _, h => by simp [putIos] at h
theorem putIos_out : ∀ {is : List Nat} {ds : List D} {ρ ρ' : Env}, putIos ρ is ds = some ρ' → ∀ j, j ∉ is → ρ'[j]? = ρ[j]?
  | [], [], _, _, h, j, _ => by simp [putIos] at h; rw [h]
  | i :: is, d :: ds, ρ, ρ', h, j, hj => by
    simp only [putIos] at h
    split at h
    · split at h
      · rw [putIos_out h j (fun z => hj (List.mem_cons_of_mem _ z)), List.getElem?_set_ne (fun z => hj (by rw [z]; exact List.mem_cons_self))]
      · cases h
    · cases h
  | [], _ :: _, _, _, h, _, _ => by simp [putIos] at h
  | _ :: _, [], _, _, h, _, _ => by simp [putIos] at h
theorem SV.put_own {s : SV} {d : D} (h : s.isOwn = true) : (s.put d).isOwn = true ∧ (s.put d).dat = some d ∧ (∀ e, s.put d = .own e → s.isOwn = true ∧ ∃ d0, s = .own d0) := by
  cases s with
  | no => cases h
  | val _ => cases h
  | own d0 => exact ⟨rfl, rfl, fun e q => ⟨rfl, d0, rfl⟩⟩
  | io d0 => exact ⟨rfl, rfl, fun e q => by cases q⟩
theorem putIos_in : ∀ {is : List Nat} {ds : List D} {L : List Addr} {ρ ρ' : Env}, putIos ρ is ds = some ρ' → is.Nodup → Aln σ is L → IoR S H' O' L ds → ∀ i, i ∈ is → ∃ s d a, ρ[i]? = some s ∧ s.isOwn = true ∧ ρ'[i]? = some (s.put d) ∧ σ[i]? = some (some (.ref a)) ∧ RpO S H' O' d a
  | [], [], _, _, _, _, _, _, _, i, hi => by cases hi
  | i :: is, d :: ds, _, ρ, ρ', h, nd, .cons e t, .cons q u, j, hj => by
    simp only [putIos] at h
    rw [List.nodup_cons] at nd
    split at h
    · rename_i s es
      split at h
      · rename_i ho
        by_cases hij : j = i
        · subst hij
          refine ⟨s, d, _, es, ho, ?_, e, q⟩
          rw [putIos_out h j nd.1]
          exact List.getElem?_set_self (List.getElem?_eq_some_iff.mp es).1
        · have hj' : j ∈ is := by
            rcases List.mem_cons.mp hj with z | z
            · exact absurd z hij
            · exact z
          obtain ⟨s', d', a', h1, h2, h3, h4, h5⟩ := putIos_in h nd.2 t u j hj'
          rw [List.getElem?_set_ne (Ne.symm hij)] at h1
          exact ⟨s', d', a', h1, h2, h3, h4, h5⟩
      · cases h
    · cases h
theorem IoR.there : ∀ {L : List Addr} {ds : List D} {a : Addr}, IoR S H O L ds → a ∈ L → H a ≠ none
  | _, _, _, .nil, h => by cases h
  | _, _, _, .cons q u, h => by
    rcases List.mem_cons.mp h with rfl | h
    · obtain ⟨o, e, _⟩ := q.there
      rw [e]; exact fun z => nomatch z
    · exact IoR.there u h
theorem IoR.noT : ∀ {L : List Addr} {ds : List D} {a : Addr}, IoR S H O L ds → a ∈ L → ∃ o, H a = some o ∧ ¬ isTbl o
  | _, _, _, .nil, h => by cases h
  | _, _, _, .cons q u, h => by
    rcases List.mem_cons.mp h with rfl | h
    · exact q.noT
    · exact IoR.noT u h
/-- the state behind a call that was lent the slots is -/
theorem SR.call {is : List Nat} {L : List Addr} {ds : List D} (r : SR S B ρ σ H O) (hp : putIos ρ is ds = some ρ') (nd : is.Nodup) (al : Aln σ is L) (ow : ∀ i ∈ is, ∃ s, ρ[i]? = some s ∧ s.isOwn = true)
    (gr : Grow H H' L) (io : IoR S H' O' L ds) (o1 : ∀ b, O b → O' b) (o2 : ∀ b, O' b → O b ∨ (H b = none ∧ ∃ o, H' b = some o ∧ ¬ isTbl o)) : SR S B ρ' σ H' O' := by
  have inL : ∀ a, a ∈ L → OwnA ρ σ a := fun a h => by
    obtain ⟨i, h1, h2⟩ := al.mem h
    obtain ⟨s, h3, h4⟩ := ow i h1
    exact ⟨i, s, h3, h4, h2⟩
  have ag : Agr O H H' := fun a o e h nt => gr a o e fun hm => by
    obtain ⟨h1, _, o', e', h3⟩ := r.ownA (inL a hm)
    rcases h with h | h
    · rw [e] at e'; cases e'; exact h3 h
    · exact h h1
  have tabL : TabK B.tb H' := fun b q h => by
    obtain ⟨ps, e1, e2, e3⟩ := r.al.1 b q h
    refine ⟨ps, gr b _ e1 (fun hm => ?_), e2, fun pos cv hc => ?_⟩
    · obtain ⟨o, z, n⟩ := r.al.2 b (r.ownO (inL b hm))
      rw [e1] at z; cases z
      exact n True.intro
    · obtain ⟨c, h1, h2⟩ := e3 pos cv hc
      refine ⟨c, h1, gr c _ h2 fun hm => ?_⟩
      obtain ⟨i, s, k1, k2, k3⟩ := inL c hm
      obtain ⟨d, k4⟩ := SV.dat_own k2
      obtain ⟨b', k5, _, _, q'⟩ := r.own i s d k1 k2 k4
      rw [k3] at k5; cases k5
      exact q'.nc _ h2
  have w : ∀ a o, H a = some o → O' a → O a := fun a o e h => by
    rcases o2 a h with h | ⟨h, _⟩
    · exact h
    · rw [h] at e; cases e
  have slot : ∀ (i : Nat) (s' : SV), ρ'[i]? = some s' → (i ∉ is ∧ ρ[i]? = some s') ∨ ∃ s d a, i ∈ is ∧ ρ[i]? = some s ∧ s.isOwn = true ∧ s' = s.put d ∧ σ[i]? = some (some (.ref a)) ∧ RpO S H' O' d a := fun i s' e => by
    by_cases hi : i ∈ is
    · obtain ⟨s, d, a, h1, h2, h3, h4, h5⟩ := putIos_in hp nd al io i hi
      rw [e] at h3
      exact .inr ⟨s, d, a, hi, h1, h2, Option.some.inj h3, h4, h5⟩
    · rw [putIos_out hp i hi] at e
      exact .inl ⟨hi, e⟩
  have back : ∀ (i : Nat) (s' : SV), ρ'[i]? = some s' → s'.isOwn = true → ∃ s : SV, ρ[i]? = some s ∧ s.isOwn = true := fun i s' e h => by
    rcases slot i s' e with ⟨_, e⟩ | ⟨s, d, a, _, h1, h2, _⟩
    · exact ⟨s', e, h⟩
    · exact ⟨s, h1, h2⟩
  refine ⟨fun a o e => ?_, fun a h => o1 a (r.sub a h), fun a h => ?_, ⟨tabL, fun a h => ?_⟩, ?_, fun i d e => ?_, fun i t d e1 e2 e3 => ?_, fun i d a e1 e2 => ?_, fun i j s t a e1 e2 e3 e4 e5 e6 => ?_⟩
  · refine gr a o (r.keep a o e) fun hm => ?_
    rw [r.ownZ (inL a hm)] at e
    cases e
  · rcases o2 a h with h | ⟨h, _⟩
    · exact r.top a h
    · exact .inr (none_of r.keep h)
  · rcases o2 a h with h | ⟨_, h⟩
    · by_cases hm : a ∈ L
      · exact io.noT hm
      · obtain ⟨o, e, n⟩ := r.al.2 a h
        exact ⟨o, gr a o e hm, n⟩
    · exact h
  · rw [putIos_len hp, r.len]
  · rcases slot i _ e with ⟨_, e⟩ | ⟨s, d', a, _, h1, h2, h3, _⟩
    · obtain ⟨v, e1, q⟩ := r.val i d e
      exact ⟨v, e1, q.agr ag w _ _⟩
    · have := (SV.put_own (d := d') h2).1
      rw [← h3] at this; cases this
  · rcases slot i _ e1 with ⟨hi, e⟩ | ⟨s, d', a, hi, h1, h2, h3, h4, h5⟩
    · obtain ⟨a, e4, o, z, q⟩ := r.own i t d e e2 e3
      refine ⟨a, e4, o1 a o, z, q.agr ?_ ag w⟩
      obtain ⟨ob, eb, nb⟩ := q.noT
      rw [eb]
      refine (gr a ob eb fun hm => ?_).symm
      obtain ⟨j, hj, ej⟩ := al.mem hm
      obtain ⟨sj, hj1, hj2⟩ := ow j hj
      have := r.sep i j t sj a e e2 hj1 hj2 e4 ej
      exact hi (this ▸ hj)
    · subst h3
      rw [(SV.put_own (d := d') h2).2.1] at e3
      cases e3
      obtain ⟨d0, e0⟩ := SV.dat_own h2
      obtain ⟨b, e4, o, z, _⟩ := r.own i s d0 h1 h2 e0
      rw [h4] at e4; cases e4
      exact ⟨a, h4, o1 a o, z, h5⟩
  · rcases slot i _ e1 with ⟨_, e⟩ | ⟨s, d', a', _, h1, h2, h3, _⟩
    · exact r.mine i d a e e2
    · subst h3
      exact (r.mine i s a h1 e2).put
  · obtain ⟨s1, h1, h2⟩ := back i s e1 e2
    obtain ⟨s2, h3, h4⟩ := back j t e3 e4
    exact r.sep i j s1 s2 a h1 h2 h3 h4 e5 e6
theorem gather_arg (r : SR S B ρ σ H O) : ∀ {ps : List PArg} {as : List AV} {vs : List V}, gather ρ ps = some as → PRep S H O σ ps vs → ArgR S H O as vs ∧ Aln σ (iosOf ps) (ioA as vs) ∧ ∀ i ∈ iosOf ps, ∃ s, ρ[i]? = some s ∧ s.isOwn = true
  | [], _, _, h, .nil => by
    simp only [gather, Option.some.injEq] at h
    subst h
    exact ⟨.nil, .nil, fun i hi => by cases hi⟩
  | .val d :: ps, _, _, h, .val q t => by
    simp only [gather, Option.map_eq_some_iff] at h
    obtain ⟨as, h, rfl⟩ := h
    obtain ⟨h1, h2, h3⟩ := gather_arg r h t
    refine ⟨.val q h1, ?_, h3⟩
    have e : ∀ v vs, ioA (.val d :: as) (v :: vs) = ioA as vs := fun v vs => by simp [ioA]
    rw [e]
    exact h2
  | .io i :: ps, _, _, h, .io (a := a0) (vs := vs0) e t => by
    simp only [gather] at h
    have go : ∀ (s : SV) (d : D) (as : List AV), ρ[i]? = some s → s.isOwn = true → s.dat = some d → gather ρ ps = some as →
        ArgR S H O (.io d :: as) (.ref a0 :: vs0) ∧ Aln σ (iosOf (.io i :: ps)) (ioA (.io d :: as) (.ref a0 :: vs0)) ∧ ∀ j ∈ iosOf (.io i :: ps), ∃ s, ρ[j]? = some s ∧ s.isOwn = true := by
      intro s d as e1 e2 e3 h
      obtain ⟨h1, h2, h3⟩ := gather_arg r h t
      obtain ⟨a, e5, o, _, q⟩ := r.own i s d e1 e2 e3
      rw [e] at e5; cases e5
      refine ⟨.io o q h1, ?_, fun j hj => ?_⟩
      · simp only [ioA, iosOf]
        exact .cons e h2
      · rcases List.mem_cons.mp (show j ∈ i :: iosOf ps from hj) with z | z
        · rw [z]; exact ⟨s, e1, e2⟩
        · exact h3 j z
    split at h
    · rename_i d e1
      rw [Option.map_eq_some_iff] at h
      obtain ⟨as, h, rfl⟩ := h
      exact go _ d as e1 rfl rfl h
    · rename_i d e1
      rw [Option.map_eq_some_iff] at h
      obtain ⟨as, h, rfl⟩ := h
      exact go _ d as e1 rfl rfl h
    · cases h
theorem Aln.nodup (r : SR S B ρ σ H O) : ∀ {is : List Nat} {L : List Addr}, Aln σ is L → is.Nodup → (∀ i ∈ is, ∃ s, ρ[i]? = some s ∧ s.isOwn = true) → L.Nodup
  | _, _, .nil, _, _ => .nil
  | _, _, .cons e t, nd, ow => by
    rw [List.nodup_cons] at nd ⊢
    refine ⟨fun hm => ?_, Aln.nodup r t nd.2 fun i hi => ow i (List.mem_cons_of_mem _ hi)⟩
    obtain ⟨j, hj, ej⟩ := t.mem hm
    obtain ⟨s1, h1, h2⟩ := ow _ List.mem_cons_self
    obtain ⟨s2, h3, h4⟩ := ow j (List.mem_cons_of_mem _ hj)
    have := r.sep _ j s1 s2 _ h1 h2 h3 h4 e ej
    exact nd.1 (this ▸ hj)
theorem ArgR.length : ∀ {as : List AV} {vs : List V}, ArgR S H O as vs → as.length = vs.length
  | _, _, .nil => rfl
  | _, _, .val _ t => by simp [ArgR.length t]
  | _, _, .io _ _ t => by simp [ArgR.length t]
/-- what the evaluator wants behind a call is what the contract is asked for -/
theorem crep_of {c : CRes} {is : List Nat} {L : List Addr} {Q : VK} {W : WX} (r : SR S B ρ σ H O) (nd : is.Nodup) (al : Aln σ is L) (ow : ∀ i ∈ is, ∃ s, ρ[i]? = some s ∧ s.isOwn = true) (g : GE S B σ O Q W (callR c is ρ)) : CRep S H O L Q (WE W σ) c := by
  match c, g with
  | .ok (d, false) ds, g =>
    intro v H' gr io q
    simp only [callR] at g
    split at g
    · rename_i ρ' hp
      exact g v H' (r.call hp nd al ow gr io (fun _ h => h) fun _ h => .inl h) q
    · exact False.elim g
  | .ok (d, true) ds, g =>
    intro a H' gr n io q
    simp only [callR] at g
    split at g
    · rename_i ρ' hp
      obtain ⟨o, e, _⟩ := q.there
      obtain ⟨z, no⟩ := r.fresh n
      have r' := r.call hp nd al ow gr io (fun _ h => .inl h) fun b h => h.elim .inl fun z => .inr ⟨by rw [z]; exact n, by rw [z]; exact q.noT⟩
      refine g a H' r' z no (fun b ⟨i, s, h1, h2, h3⟩ => ?_) q
      obtain ⟨b0, e0, ob, zb, qb⟩ : ∃ b0, σ[i]? = some (some (.ref b0)) ∧ O b0 ∧ B.Z b0 = none ∧ True := by
        by_cases hi : i ∈ is
        · obtain ⟨s', d', a', k1, k2, _, k4, _⟩ := putIos_in hp nd al io i hi
          obtain ⟨d0, e0⟩ := SV.dat_own k2
          obtain ⟨b, k5, k6, k7, _⟩ := r.own i s' d0 k1 k2 e0
          exact ⟨b, k5, k6, k7, trivial⟩
        · rw [putIos_out hp i hi] at h1
          obtain ⟨d0, e0⟩ := SV.dat_own h2
          obtain ⟨b, k5, k6, k7, _⟩ := r.own i s d0 h1 h2 e0
          exact ⟨b, k5, k6, k7, trivial⟩
      rw [h3] at e0; cases e0
      exact ob
    · exact False.elim g
  | .err x ds, g =>
    intro cls dd H' gr io q
    simp only [callR] at g
    split at g
    · rename_i ρ' hp
      exact g cls dd H' (r.call hp nd al ow gr io (fun _ h => h) fun _ h => .inl h) q
    · exact False.elim g
end

theorem pe_callS0 {X : Cx} {CX : CXT} {k : Nat} {f : Addr} {fd : FuncData} {ps : List Str} {sp : Sp} {E : L2.St → XK} {x : Str} {p pos : Pos} (F : FnOk X.prog X.w X.K X.mg X.base CX k f fd ps sp) (hr : Room k X.A) (hg : Gl X x) (hm : X.mg x = some (.ref f)) (hk : PySem.W.keepIn X.K (.ref f) = true) (hb : Binds X.K fd ps []) (hx : ∀ σ, PassesAt CX X σ (E σ))
    (hdb : (x == ("__debug__" : Str)) = false) : PE X (.Call (.Name x p) [] [] pos) (fun σ H Q => sp [] H Q (E σ)) := by
  refine ⟨fun pins s σ H Q I h => ?_⟩
  refine wpAny_Call_Name_kw (ld_glob I hg hm ?_ hdb)
  exact PySem.W.callWith_K0 I.kIn hk (run_fnS (us := []) F hr hb (hx σ) I .nil h)
section
variable {Γ : Ctr} {N : List Str} {sc : Scope} {X : Cx}
theorem call_core {f : Str} {n LV : Nat} {c : List AV → CRes} (F : FnK X.prog X.w X.K X.mg X.base LV f n c) {B : Bd} {σ : L2.St} {O : Addr → Prop} {Q : VK} {W : WX} {ps : List PArg} {ρ1 : Env} {vs : List V} {H1 : Hp} (r1 : SR (sur X) B ρ1 σ H1 O) (q1 : PRep (sur X) H1 O σ ps vs)
    (g1 : GE (sur X) B σ O Q W (match gather ρ1 ps with
      | some vs => if (iosOf ps).Nodup then callR (c vs) (iosOf ps) ρ1 else .bad
      | none => .bad)) : spD n (sur X) c vs H1 Q (WE W σ) := by
  split at g1
  · rename_i as ha
    split at g1
    · rename_i nd
      obtain ⟨a1, a2, a3⟩ := gather_arg r1 ha q1
      have cr := crep_of r1 nd a2 a3 g1
      refine ⟨?_, O, as, a1, a2.nodup r1 nd a3, r1.al.2, cr⟩
      rw [← a1.length]
      exact F.ar as fun z => by rw [z] at cr; exact cr
    · exact False.elim g1
  · exact False.elim g1
theorem ok_call {f : Str} {e : Expr} {es : List Expr} {ts : List E} {p1 pos : Pos} (h : OkA Γ N sc (e :: es) ts) (hs : (e :: es).all noStar = true) (hg : sc.names.lookup f = some .globalImplicit) : OkE Γ N sc (.Call (.Name f p1) (e :: es) [] pos) (.call f ts) := by
  intro X x B ρ σ H O Q W r tk g
  obtain ⟨LV, room, _, m⟩ := x.m
  simp only [evalE] at g
  split at g
  · exact False.elim g
  · rename_i c hc
    obtain ⟨n, F⟩ := m.fn f c hc
    obtain ⟨a, fd, ps, h1, h2, h3, h4⟩ := F.ok
    have hs1 : noStar e = true := by simp only [List.all_cons, Bool.and_eq_true] at hs; exact hs.1
    have hs2 : es.all noStar = true := by simp only [List.all_cons, Bool.and_eq_true] at hs; exact hs.2
    refine of_pe (pe_callS h4 room (gl_of x hg) h1 h2 h3 (fun σ => passAt tk.t σ) pa_tw F.dbg (star_one hs1) (star_all hs2)) ?_
    refine h X x B ρ σ H O _ W r tk (g.stepG (P := fun ps _ H vs => PRep (sur X) H O σ ps vs) fun ps ρ1 vs H1 r1 q1 g1 => ?_)
    exact call_core F r1 q1 g1
theorem ok_call0 {f : Str} {p1 pos : Pos} (hg : sc.names.lookup f = some .globalImplicit) : OkE Γ N sc (.Call (.Name f p1) [] [] pos) (.call f []) := by
  intro X x B ρ σ H O Q W r tk g
  obtain ⟨LV, room, _, m⟩ := x.m
  simp only [evalE] at g
  split at g
  · exact False.elim g
  · rename_i c hc
    obtain ⟨n, F⟩ := m.fn f c hc
    obtain ⟨a, fd, ps, h1, h2, h3, h4⟩ := F.ok
    refine of_pe (pe_callS0 h4 room (gl_of x hg) h1 h2 h3 (fun σ => passAt tk.t σ) F.dbg) ?_
    simp only [evalA, R.bind_ok] at g
    exact call_core F r .nil g
end
end W2

/-! enumerate(tuple). -/
namespace W2
open PySem PySem.Calls PyProof.Rows L2
abbrev enO (it : Addr) : Obj := { cls := .type "enumerate", data := .fields #[.none, .bool false, .ref it, rawInt 0, .none, .none] }
theorem meets_en1 {v : Value} {o : Obj} {Pr : Heap → Prop} (Bg : Begins v o Pr) : Meets (Builtin.«enumerate.__new__» ⟨[.type "enumerate", v], []⟩) (fun _ Rz st => Pr st.heap ∧ Rz (.ok (.ret (.ref (st.heap.push o).objs.size))) { st with heap := (st.heap.push o).push (enO st.heap.objs.size) }) := by
  refine .of_wp fun prog wd A Rz st hz => ?_
  obtain ⟨hh, gg, dd, tt, oo⟩ := st
  obtain ⟨p1, p2⟩ := hz
  have hsub := sub_enumerate
  have go : ∀ {A' : Around} {Ez : Value → Shared → Prop} {Qz : Value → Shared → Prop}, Qz (.ref hh.objs.size) ⟨hh.push o, gg, dd, tt, oo⟩ → wpAny (model prog wd) A' (pyIter v) Qz Ez ⟨hh, gg, dd, tt, oo⟩ := fun qz => Bg.iter prog wd _ _ ⟨hh, gg, dd, tt, oo⟩ _ p1 qz
  wp_walk using go
  refine' wpAny_stack_any fun _ => wpAny_pure ?_
  split
  · rename_i cz _ _ _ _ _
    by_cases hcz : (cz == Value.type "enumerate") = true
    · rw [hcz]
      wp_walk using go
      exact ⟨_, rfl, p2⟩
    · rw [Bool.not_eq_true] at hcz
      rw [hcz]
      wp_walk using go
      exact ⟨_, rfl, p2⟩
  · wp_walk using go
    exact ⟨_, rfl, p2⟩
theorem call_en1 {prog : Program} {w : World} {A : Around} {E : Value → Shared → Prop} {s : Shared} {t : Addr} {items : Array Value} {Q : Value → Shared → Prop} (hL : s.heap.IsTuple t items)
    (k : ∀ h', IsEnum h' (s.heap.objs.size + 1) s.heap.objs.size 0 .none → h'.IsTupleIter s.heap.objs.size t 0 → (∀ b o, s.heap.get? b = some o → h'.get? b = some o) → Q (.ref (s.heap.objs.size + 1)) { s with heap := h' }) :
    wpAny (model prog w) A (call (.type "enumerate") [.ref t]) Q E s := by
  have sz : (s.heap.push { cls := .type "tuple_iterator", data := .fields #[.ref t, .int 0 0] }).objs.size = s.heap.objs.size + 1 := Heap.size_push ..
  have e1 : ((s.heap.push { cls := .type "tuple_iterator", data := .fields #[.ref t, .int 0 0] }).push (enO s.heap.objs.size)).get? (s.heap.objs.size + 1) = some (enO s.heap.objs.size) := by
    rw [← sz]; exact Heap.get?_push_size _ rfl
  refine callType_new F.called_enumerate (by decide) (F.typeCall_enumerate_1 _) (F.newCall_enumerate_1 _) (fun obj => F.args_object_init_2 obj _) F.entry_enumerate_new (meets_en1 (begins_tuple t items)) ⟨hL, ?_⟩
  show _ ∧ _
  rw [sz]
  exact ⟨⟨_, e1, rfl⟩, k _ e1 ⟨_, Heap.get?_push_of_some _ (Heap.get?_push_size _ rfl), rfl, rfl⟩ fun b o z => Heap.get?_push_of_some _ (Heap.get?_push_of_some _ z)⟩
/-- the tuple at a, each item with its place in a new pair -/
def IteT (K : PySem.W.Frag) (a : Addr) : It :=
  ⟨fun i H => ∃ (xs : List V) (x : V), SqT K H a xs ∧ xs[i]? = some x, fun i H v H' => ∃ T x, v = .ref T ∧ H T = none ∧ H' = upd H T (.tup [.int (i : Nat), x]) ∧ ∀ xs, SqT K H a xs → xs[i]? = some x, fun i H => ∃ xs : List V, SqT K H a xs ∧ xs.length ≤ i⟩
theorem turn_enT {P : Program} {w : World} {K : PySem.W.Frag} {elts : List Expr} {kk : Nat} {tpos : Pos} (a e it : Addr) :
    Turn P w K (.Tuple elts kk tpos) (IteT K a) [e, it] e (fun i h => ((∃ old, IsEnum h e it ((i : Nat) : Int) old) ∧ h.IsTupleIter it a i) ∧ e ≠ it) where
  mem := List.mem_cons_self
  obj := fun i h st b hb => by
    obtain ⟨⟨⟨old, he⟩, o, ho, _, hd⟩, _⟩ := st
    rcases List.mem_cons.mp hb with rfl | hb
    · exact ⟨_, he, fun v => (nomatch ·)⟩
    · rw [List.mem_singleton.mp hb]
      exact ⟨o, ho, fun v z => by rw [hd] at z; cases z⟩
  keep := fun i h h' ⟨⟨⟨old, he⟩, hi⟩, hne⟩ k => ⟨⟨⟨old, k e List.mem_cons_self _ he⟩, hi.at fun o z => k it (by simp) o z⟩, hne⟩
  self := fun A i s Q E st q => let ⟨⟨⟨_, he⟩, _⟩, _⟩ := st; wpAny_pyIter_enum he q
  done := by
    intro X e1 e2 e3 hc i pins s σ H E I hf st ⟨xs, hq, hx⟩
    cases e1; cases e2; cases e3
    obtain ⟨⟨⟨old, he⟩, hit⟩, hne⟩ := st
    obtain ⟨its, rv, p, _⟩ := I.tuple hq
    have lv := rv.length
    have na : a ≠ it := fun z => by
      obtain ⟨o1, h1, h2, _⟩ := hit
      obtain ⟨o2, h3, h4, _⟩ := id p
      rw [z, h1] at h3; cases h3
      rw [h2] at h4
      exact absurd h4 (by decide +kernel)
    have D := Draws.tuple (prog := X.prog) (w := X.w) (A := X.A.in1) (I.ok.hd hc) it a na its.toArray
    obtain ⟨f0, f1, f2, f3, f4, f5⟩ := hf it (by simp)
    have hT : s.TypeIs (.ref e) "enumerate" := ⟨_, he, rfl⟩
    unfold pyNext
    refine wpAny_bind (wpAny_attempt (wpAny_callSpecial?_slot (name := Str.ofString "__next__") hT F.slot_enumerate_next (wpAny_call_entry F.slot_enumerate_next hT F.entry_enumerate_next ?_ (F.args_enumerate_next_1 _))))
    show wpAny _ _ (field (.ref e) 2 >>= _) _ _ s
    refine wpAny_bind (wpAny_field he rfl (x := .ref it) rfl (wpAny_bind ?_))
    refine wpAny_nextOf_tuple_end (I.ok.hd hc) hit p (by simp; omega) fun h' x hx' ⟨o, ho, hcl⟩ => ?_
    exact wpAny_bind (wpAny_isInstance (T := "StopIteration") (b := true) ⟨o, ho, hcl⟩ isSubtype_stop (wpAny_pure ⟨rfl, I.turned (t' := s.toks) (fun b o hb q => hx' b o hb q) f0 f1 f3 f4 f5⟩))
  item := by
    intro X e1 e2 e3 hc i pins s σ H E I hf st ⟨xs, x, hq, hx⟩
    cases e1; cases e2; cases e3
    obtain ⟨⟨⟨old, he⟩, hit⟩, hne⟩ := st
    obtain ⟨its, rv, p, _⟩ := I.tuple hq
    obtain ⟨u, hu, ru⟩ := rv.get hx
    have na : a ≠ it := fun z => by
      obtain ⟨o1, h1, h2, _⟩ := hit
      obtain ⟨o2, h3, h4, _⟩ := id p
      rw [z, h1] at h3; cases h3
      rw [h2] at h4
      exact absurd h4 (by decide +kernel)
    have nae : e ≠ a := fun z => by
      obtain ⟨o2, h3, h4, _⟩ := id p
      rw [← z, he] at h3; cases h3
      have h4 : Value.type "enumerate" = Value.type "tuple" := h4
      exact absurd h4 (by decide +kernel)
    have D := Draws.tuple (prog := X.prog) (w := X.w) (A := X.A.in1) (I.ok.hd hc) it a na its.toArray
    have lt : i < its.toArray.size := by
      have := (List.getElem?_eq_some_iff.mp hu).1
      simpa using this
    have hel : e < s.heap.objs.size := Heap.lt_size he
    have hil : it < s.heap.objs.size := by obtain ⟨_, q, _⟩ := hit; exact Heap.lt_size q
    refine wpAny_pyNext_enum_itemD D he ⟨hit, p⟩ lt hne (by simp [hne, nae]) fun y h' tk hy ho st' hT hsz hk => ?_
    have eu : y = u := by
      have hy : its.toArray[i]? = some y := hy
      rw [List.getElem?_toArray, hu] at hy
      exact (Option.some.inj hy).symm
    cases eu
    refine ⟨_, rfl, wpAny_letOwnedTupleGo_enum (s := { s with heap := h', toks := tk + 1 }) ho fun h2 he2 sb => ?_⟩
    have at2 : h2.get? s.heap.objs.size = some { cls := .type "tuple", data := .seq #[.int i tk, u] } := (sb.2 _ (Nat.ne_of_gt hel)).trans hT
    have I2 : Inv X pins σ (upd H s.heap.objs.size (.tup [.int (i : Nat), x])) { s with heap := h2, toks := tk + 1 } :=
      I.turnedNew (ch := [e, it]) (fun b ob hb q => by
        have n1 : b ≠ e := fun z => hb (z ▸ List.mem_cons_self)
        exact (sb.2 b n1).trans (hk b ob n1 (fun z => hb (by simp [z])) q)) hf (Nat.le_refl _) ⟨by show 2 ≤ sizeLine; decide, [.int i tk, u], .cons ⟨_, rfl⟩ (.cons ru .nil), ⟨_, at2, rfl, _, rfl⟩⟩
    refine ⟨.ref s.heap.objs.size, _, I2, rfl, ⟨_, x, rfl, I.hok.fresh (Nat.le_refl _), rfl, fun ys hy => by rw [I.tuple_inj hy hq]; exact hx⟩, ⟨⟨⟨u, ?_⟩, st'.1.at fun o q => (sb.2 it (Ne.symm hne)).trans q⟩, hne⟩, fun b hb => ?_⟩
    · rw [show ((i + 1 : Nat) : Int) = (i : Int) + 1 by omega]
      exact he2
    · have lb : b < s.heap.objs.size := by
        rcases List.mem_cons.mp hb with rfl | hb
        · exact hel
        · rw [List.mem_singleton.mp hb]; exact hil
      rw [upd_ne (Nat.ne_of_lt lb)]
      exact (hf b hb).1
def iEnumA (K : PySem.W.Frag) (ta : TA) : TI := fun σ H R => ta σ H fun vs H1 => ∃ a xs, vs = [.ref a] ∧ ((SqL K H1 a xs ∧ R (Ite K a) H1) ∨ (SqT K H1 a xs ∧ R (IteT K a) H1))
theorem pi_enumA {X : Cx} {e : Expr} {ta : TA} {p pos tpos : Pos} {elts : List Expr} {kk : Nat} (hg : Gl X "enumerate") (hm : X.mg "enumerate" = none) (ha : PA X [e] ta) (hs : starEach [e] X.env = [(false, eval e X.env)]) :
    PI X (.Tuple elts kk tpos) (.Call (.Name "enumerate" p) [e] [] pos) (iEnumA X.K ta) := by
  refine ⟨fun pins s σ H R I h => Call_ (ld_blt I hg hm boot_enumerate (PyProof.Rows.callWith_type1 (thn (ha.run pos pins s σ H _ I h) fun us s1 ⟨vs, H1, I1, r1, a, xs, ex, q1⟩ => ?_) hs rfl))⟩
  subst ex
  cases r1 with
  | cons r rr =>
    cases rr
    cases r
    have fp : ∀ b ∈ [s1.heap.objs.size + 1, s1.heap.objs.size], FpOk X pins H1 b := fun b hb => by
      have le : s1.heap.objs.size ≤ b := by
        rcases List.mem_cons.mp hb with rfl | hb
        · omega
        · rw [List.mem_singleton.mp hb]; exact Nat.le_refl _
      exact I1.fpOk le (I1.hok.fresh le)
    rcases q1 with ⟨hq, q⟩ | ⟨hq, q⟩
    · obtain ⟨its, rv, p', hz⟩ := I1.list hq
      refine call_enumerate_list p'.isList fun h' he hit hsz hk => wpAny_pyIter_enum he ⟨_, _, _, _, H1, rfl, I1.kept (t' := s1.toks) hk, turn_enum a (s1.heap.objs.size + 1) s1.heap.objs.size, ⟨⟨.none, he⟩, hit, Nat.succ_ne_self _⟩, fp, q⟩
    · obtain ⟨its, rv, p', hz⟩ := I1.tuple hq
      refine call_en1 (show s1.heap.IsTuple a its.toArray from p') fun h' he hit hk => wpAny_pyIter_enum he ⟨_, _, _, _, H1, rfl, I1.kept (t' := s1.toks) hk, turn_enT a (s1.heap.objs.size + 1) s1.heap.objs.size, ⟨⟨⟨.none, he⟩, hit⟩, Nat.succ_ne_self _⟩, fp, q⟩
end W2

/-! set(list of ints). -/
namespace W2
open PySem PySem.Calls PyProof.Rows L2
abbrev sO (w : World) : Obj := { cls := .type "set", dict := none, data := .set #[] 0 (.fresh 0 0 (!w.params.followText "set-order")) }
abbrev lIt (l : Addr) : Obj := { cls := .type "list_iterator", data := .fields #[.ref l, .int 0 0] }
theorem call_setL {P : Program} {w : World} {A : Around} {E : Value → Shared → Prop} {s : Shared} {l : Addr} {items : Array Value} {ns : List Int} {Q : Value → Shared → Prop} (hh : A.handled = none) (hl : s.heap.IsList l items) (hi : IntsAre items.toList ns) (hb : ns.length + 1 < scanBound)
    (k : ∀ (h' : Heap) (tk c : Nat), SetR w h' s.heap.objs.size (fun j => decide (j ∈ ns)) c → c ≤ ns.length → (∀ b o, s.heap.get? b = some o → h'.get? b = some o) → Q (.ref s.heap.objs.size) { s with heap := h', toks := tk }) : wpAny (model P w) A (call (.type "set") [.ref l]) Q E s := by
  have sz : items.size = ns.length := by have z := IntsAre.length hi; rw [Array.length_toList] at z; exact z
  obtain ⟨c0, tl0, hmro⟩ := F.called_set.mro
  have hmade := F.called_set.made; have hsub := F.called_set.sub
  refine' wpAny_call (codeAny_of_tree (wpAny_pure ⟨Code.quiet_builtin _ (by decide +kernel), codeAny_builtin F.entry_type_call ?_⟩))
  rw [Around.under_plain (weight_type_call_type "set" [.ref l] []) rfl]
  have q1 := F.called_set.notType; have q2 := F.called_set.canCreate; have q3 := F.typeCall_set_1 (.ref l)
  (repeat (any_goals (first | (assumption) | (wp_step))))
  refine codeAny_mono (code_set_led1 (.ref l) (E := E) (Q₁ := fun ob st => ob = .ref s.heap.objs.size ∧ st = { s with heap := s.heap.push (sO w) }) ⟨rfl, rfl⟩) fun rr st hr => ?_
  cases rr with
  | error e => exact hr
  | ok fl =>
    cases fl with
    | next => exact hr.elim
    | brk => exact hr.elim
    | cont => exact hr.elim
    | ret ob =>
      obtain ⟨e1, e2⟩ := hr
      subst e1
      subst e2
      have at0 : (s.heap.push (sO w)).get? s.heap.objs.size = some (sO w) := Heap.get?_push_size _ rfl
      have ty0 : Shared.TypeIs { s with heap := s.heap.push (sO w) } (.ref s.heap.objs.size) "set" := ⟨_, at0, rfl⟩
      have hli := F.called_set.init.lookup; have hbi := F.called_set.init.bind (.ref s.heap.objs.size)
      (repeat (any_goals (first | (assumption) | (wp_step))))
      refine codeAny_mono (codeAny_call_builtin (R := wants (fun rv st => rv = .none ∧ ∃ h' tk c, st = { s with heap := h', toks := tk } ∧ SetR w h' s.heap.objs.size (fun j => decide (j ∈ ns)) c ∧ c ≤ ns.length ∧ ∀ b o, s.heap.get? b = some o → h'.get? b = some o) E) F.called_set.init.plain F.entry_set_init (check_set_init_1 ty0 ?_)) fun rv st hv => ?_
      · obtain ⟨⟨oc, od, odt, osl⟩, hol, hcl, nl, hdl⟩ := hl
        simp only at hcl hdl
        subst hcl; subst hdl
        have l1 : (s.heap.push (sO w)).get? l = some { cls := .type "list", dict := od, data := .seq items nl, slots := osl } := Heap.get?_push_of_some _ hol
        have u1 := F.sub_list_set; have u2 := F.sub_list_frozenset
        have u3 : (Value.type "list" == Value.type "dict") = false := by decide
        have il : (s.heap.push (sO w)).IsList l items := ⟨_, l1, rfl, nl, rfl⟩
        unfold Builtin.«set.__init__» noKeywords Builtin.Frozenset.updateFrom
        generalize hPI : pyIter = PI
        wp_walk
        subst hPI
        refine' wpAny_pyIter_list il (wpAny_bind (wpAny_runValue ?_))
        have ll : l < s.heap.objs.size := Heap.lt_size hol
        have nI : l ≠ (s.heap.push (sO w)).objs.size := by rw [Heap.size_push]; exact Nat.ne_of_lt (Nat.lt_succ_of_lt ll)
        have nF : s.heap.objs.size ∉ [(s.heap.push (sO w)).objs.size, l] := fun hz => by
          rcases List.mem_cons.mp hz with z | z
          · rw [Heap.size_push] at z; exact absurd z (Nat.ne_of_lt (Nat.lt_succ_self _))
          · exact absurd (List.mem_singleton.mp z) (Nat.ne_of_gt ll)
        refine set_update_ints ((Walks.list (by simp [hh]) _ l nI items).toS) s.heap.objs.size nF ns sz hb (fun i v hv => ?_) (items.size - 0) 0 _ (by omega) (Nat.zero_le _) ⟨⟨_, Heap.get?_push_size _ rfl, rfl, rfl⟩, il.push _⟩ ⟨0, Nat.le_refl 0, setR_new_at (Heap.get?_push_of_some _ at0)⟩ fun st c hm hc hS => ?_
        · have li : i < ns.length := by rw [← sz]; exact (Array.getElem?_eq_some_iff.mp hv).1
          obtain ⟨t, e⟩ := PyProof.Rows.IntsAre.int_at hi i v (by rw [Array.getElem?_toList]; exact hv)
          exact ⟨ns[i], t, List.getElem?_eq_getElem li, by rw [e, List.getD_eq_getElem?_getD, List.getElem?_eq_getElem li]; rfl⟩
        · obtain ⟨h', g', d', tk', os'⟩ := st
          obtain rfl : g' = s.gens := hm.gens
          obtain rfl : d' = s.drawn := hm.drawn
          obtain rfl : os' = s.os := hm.os
          rw [sz] at hc
          refine' wpAny_pure (wpAny_pure ⟨rfl, h', tk', c, rfl, hS, hc, fun b o e => ?_⟩)
          have lb : b < s.heap.objs.size := Heap.lt_size e
          refine hm.heap b o (fun hz => ?_) (Heap.get?_push_of_some _ (Heap.get?_push_of_some _ e))
          rcases List.mem_cons.mp hz with z | z
          · exact absurd z (Nat.ne_of_lt lb)
          · have z := List.mem_singleton.mp z
            rw [Heap.size_push] at z
            exact absurd z (Nat.ne_of_lt (Nat.lt_succ_of_lt lb))
      · cases rv with
        | error e => exact hv
        | ok f2 =>
          cases f2 with
          | next => exact hv.elim
          | brk => exact hv.elim
          | cont => exact hv.elim
          | ret z =>
            obtain ⟨e1, h', tk, c, e2, hS, hc, hk⟩ := hv
            subst e1
            subst e2
            (repeat (any_goals (first | (assumption) | (wp_step))))
            exact k _ _ _ hS hc hk

/-! ### sorted(set(list of ints)) -/
theorem insI_mem {i k : Int} : ∀ {js : List Int}, k ∈ insI i js ↔ k = i ∨ k ∈ js
  | [] => by simp [insI]
  | j :: js => by
    simp only [insI]
    split
    · simp
    · split
      · rename_i h; subst h; simp
      · simp only [List.mem_cons, insI_mem (js := js)]
        constructor
        · rintro (h | h | h) <;> simp [h]
        · rintro (h | h | h) <;> simp [h]
theorem insI_pw {i : Int} : ∀ {js : List Int}, js.Pairwise (· < ·) → (insI i js).Pairwise (· < ·)
  | [], _ => by simp [insI]
  | j :: js, h => by
    obtain ⟨h1, h2⟩ := List.pairwise_cons.mp h
    simp only [insI]
    split
    · rename_i hlt
      refine List.pairwise_cons.mpr ⟨fun k hk => ?_, h⟩
      rcases List.mem_cons.mp hk with rfl | hk
      · exact hlt
      · have := h1 k hk; omega
    · split
      · exact h
      · refine List.pairwise_cons.mpr ⟨fun k hk => ?_, insI_pw h2⟩
        rcases insI_mem.mp hk with rfl | hk
        · omega
        · exact h1 k hk
theorem ssI_mem {k : Int} : ∀ {ns : List Int}, k ∈ ssI ns ↔ k ∈ ns
  | [] => by simp [ssI]
  | i :: is => by simp only [ssI, insI_mem, ssI_mem (ns := is), List.mem_cons]
theorem ssI_pw : ∀ ns : List Int, (ssI ns).Pairwise (· < ·)
  | [] => by simp [ssI]
  | i :: is => insI_pw (ssI_pw is)
theorem pw_ext : ∀ {as bs : List Int}, as.Pairwise (· < ·) → bs.Pairwise (· < ·) → (∀ k, k ∈ as ↔ k ∈ bs) → as = bs
  | [], [], _, _, _ => rfl
  | [], b :: bs, _, _, h => absurd ((h b).mpr List.mem_cons_self) (by simp)
  | a :: as, [], _, _, h => absurd ((h a).mp List.mem_cons_self) (by simp)
  | a :: as, b :: bs, ha, hb, h => by
    obtain ⟨a1, a2⟩ := List.pairwise_cons.mp ha
    obtain ⟨b1, b2⟩ := List.pairwise_cons.mp hb
    have e : a = b := by
      rcases List.mem_cons.mp ((h a).mp List.mem_cons_self) with e | e
      · exact e
      · rcases List.mem_cons.mp ((h b).mpr List.mem_cons_self) with e' | e'
        · exact e'.symm
        · have := b1 a e
          have := a1 b e'
          omega
    subst e
    rw [pw_ext a2 b2 fun k => ?_]
    constructor
    · intro hk
      rcases List.mem_cons.mp ((h k).mp (List.mem_cons_of_mem _ hk)) with e | e
      · have := a1 k hk; omega
      · exact e
    · intro hk
      rcases List.mem_cons.mp ((h k).mpr (List.mem_cons_of_mem _ hk)) with e | e
      · have := b1 k hk; omega
      · exact e
theorem pw_nodup {as : List Int} (h : as.Pairwise (· < ·)) : as.Nodup := h.imp fun h => Int.ne_of_lt h
def rMkSet (X : Cx) : List V → Hp → VK → Prop := fun xs H Q => ∃ (l : Addr) (ns : List Int), xs = [.ref l] ∧ SqL X.K H l (ns.map V.int) ∧ ns.length ≤ 3000 ∧ ∀ p c, H p = none → (∃ K : List Int, K.Nodup ∧ (∀ k, k ∈ K ↔ k ∈ ns) ∧ K.length = c) → Q (.ref p) (upd H p (SetO X.w p (fun j => decide (j ∈ ns)) c))
theorem cr_mkSet {X : Cx} (hc : X.calm = true) : CallR X (.type "set") (rMkSet X) := by
  intro pins s σ H vs us Q I r h
  obtain ⟨l, ns, rfl, hq, hn, q⟩ := h
  rw [Vals.ref1 r]
  obtain ⟨its, rv, pl, hz⟩ := I.list hq
  refine call_setL (I.ok.hd hc) pl.isList (by simpa using RZ.intsAre_vals rv) (by unfold scanBound; omega) fun h' tk c hS hl hk => ?_
  obtain ⟨o, es, ep, t, ho, hex, hd, g, nd, hm, hb, hf, he, _⟩ := id hS
  obtain ⟨I', hp⟩ := inv_new (o := SetO X.w s.heap.objs.size (fun j => decide (j ∈ ns)) c) I hk (by
    cases q : s.heap.get? s.heap.objs.size with
    | none => rfl
    | some o => exact absurd (Heap.lt_size q) (Nat.lt_irrefl _)) (setO_new hS)
  exact ⟨.ref _, _, I'.tok _, rfl, q _ c hp ⟨_, nd, fun k => by rw [← hm]; simp, by rw [List.length_map, Array.length_toList]; exact he⟩⟩
section
variable {Γ : Ctr} {N : List Str} {sc : Scope}
theorem intsOf_V {S : Sur} {H : Hp} {O : Addr → Prop} : ∀ {ds : List W2.D} {ns : List Int} {xs : List V}, intsOf ds = some ns → RpL S H O ds xs → xs = ns.map V.int
  | [], ns, _, e, .nil => by simp [intsOf] at e; subst e; rfl
  | d :: ds, ns, _, e, .cons q t => by
    cases d with
    | int i =>
      simp only [intsOf, Option.map_eq_some_iff] at e
      obtain ⟨ms, e, rfl⟩ := e
      cases q
      rw [intsOf_V e t]; rfl
    | _ => simp [intsOf] at e
theorem ints_RpL {S : Sur} {H : Hp} {O : Addr → Prop} : ∀ ns : List Int, RpL S H O (ns.map W2.D.int) (ns.map V.int)
  | [] => .nil
  | n :: ns => .cons (.int n) (ints_RpL ns)
theorem ok_sset {e : Expr} {t : E} {p p2 pos pos2 : Pos} (h : OkE Γ N sc e t) (hs : noStar e = true) (hg : sc.names.lookup ("sorted" : Str) = some .globalImplicit) (hg2 : sc.names.lookup ("set" : Str) = some .globalImplicit) : OkE Γ N sc (.Call (.Name "sorted" p) [.Call (.Name "set" p2) [e] [] pos2] [] pos) (.sset t) := by
  intro X x B ρ σ H O Q W r tk g
  simp only [evalE] at g
  refine of_pe (pe_callB (cr_sortedSet x.calm) (gl_of x hg) (x.nb (by decide +kernel)) PyProof.Rows.boot_sorted (pa_cons (pe_callTy (cr_mkSet x.calm) (gl_of x hg2) (x.nb (by decide +kernel)) PyProof.Rows.boot_set (pa_cons pe_tw pa_nil (star_one hs)) (by decide +kernel) (by decide +kernel) (star_one hs) rfl) pa_nil rfl) (by decide +kernel) (by decide +kernel) rfl rfl) ?_
  refine h X x B ρ σ H O _ W r tk (g.step r.sub fun u ρ1 v H1 r1 q1 g1 => ?_)
  obtain ⟨d, fr⟩ := u
  cases hd : ssetD d with
  | none => rw [show ssetD (d, fr).1 = none from hd] at g1; exact False.elim g1
  | some ms =>
    rw [show ssetD (d, fr).1 = some ms from hd] at g1
    unfold ssetD at hd
    split at hd
    · rename_i ds
      rw [Option.bind_eq_some_iff] at hd
      obtain ⟨ns, e1, e2⟩ := hd
      split at e2
      · rename_i hlen
        cases e2
        cases q1 with
        | lst qa na la =>
          have ex := intsOf_V e1 la
          subst ex
          refine ⟨_, ns, rfl, SqL.of qa, hlen.1, fun p c np ⟨K, k1, k2, k3⟩ => ?_⟩
          have cl : c < 64 := by
            have pm : K.Perm (ssI ns) := (List.perm_ext_iff_of_nodup k1 (pw_nodup (ssI_pw ns))).mpr fun k => (k2 k).trans ssI_mem.symm
            rw [← k3, pm.length_eq]
            exact hlen.2
          refine ⟨p, _, c, rfl, upd_same, cl, fun ms p2 s1 s2 s3 n2 => ?_⟩
          have em : ms = ssI ns := pw_ext s1 (ssI_pw ns) fun k => (s2 k).trans (by rw [decide_eq_true_eq]; exact ssI_mem.symm)
          subst em
          have sm := (Same.new (o := SetO X.w p (fun j => decide (j ∈ ns)) c) np)
          exact (g1.post r1) p2 _ (sm.trans (Same.new n2)) (none_of sm n2) (.lst upd_same (ints_RpL _))
      · cases e2
    · cases hd
end
end W2

/-! Targets, what loops walk, comprehensions, lending. -/
namespace W2
open PySem L2

theorem takesF0 {X : Cx} : Takes X (fun _ _ _ _ => False) := fun _ _ ⟨_, _, _, _, _, _, _, _, _, _, _, _, _, _, _, _, w⟩ => w.elim
theorem takesF {Γ : Ctr} {t : Tb} {X X' : Cx} {W : WX} (tk : TakesB Γ t X' W) : TakesB Γ t X (fun _ _ _ _ => False) := ⟨takesF0, tk.b⟩

/-! ### a slot stored, a list changed -/
section
variable {S : Sur} {O O' : Addr → Prop} {H H' : Hp} {B B' : Bd} {ρ ρ' : Env} {σ σ' : L2.St} {d : D} {v : V} {a : Addr} {i : Nat}
theorem SR.set (r : SR S B ρ σ H O) (q : Rp S H O d v) : SR S B (ρ.set i (.val d)) (σ.set i (some v)) H O := by
  have old : ∀ (j : Nat) (s : SV), (ρ.set i (.val d))[j]? = some s → (j = i ∧ s = .val d) ∨ (j ≠ i ∧ ρ[j]? = some s) := fun j s e => by
    by_cases hj : j = i
    · subst hj
      by_cases hl : j < ρ.length
      · rw [List.getElem?_set_self hl] at e
        exact .inl ⟨rfl, (Option.some.inj e).symm⟩
      · rw [List.getElem?_eq_none (by rw [List.length_set]; omega)] at e
        cases e
    · rw [List.getElem?_set_ne (Ne.symm hj)] at e
      exact .inr ⟨hj, e⟩
  have stay : ∀ j, j ≠ i → (σ.set i (some v))[j]? = σ[j]? := fun j hj => List.getElem?_set_ne (Ne.symm hj)
  refine ⟨r.keep, r.sub, r.top, r.al, by simp [r.len], fun j e h => ?_, fun j t e e1 e2 e3 => ?_, fun j e b e1 e2 => ?_, fun j k s t b e1 e2 e3 e4 e5 e6 => ?_⟩
  · rcases old j _ h with ⟨rfl, z⟩ | ⟨hj, z⟩
    · cases z
      have hl : j < ρ.length := by
        have := (List.getElem?_eq_some_iff.mp h).1
        simpa using this
      exact ⟨v, List.getElem?_set_self (by rw [← r.len]; exact hl), q⟩
    · rw [stay j hj]; exact r.val j e z
  · rcases old j _ e1 with ⟨rfl, z⟩ | ⟨hj, z⟩
    · rw [z] at e2; cases e2
    · rw [stay j hj]; exact r.own j t e z e2 e3
  · rcases old j _ e1 with ⟨rfl, z⟩ | ⟨hj, z⟩
    · subst z; trivial
    · rw [stay j hj] at e2; exact r.mine j e b z e2
  · rcases old j _ e1 with ⟨rfl, z⟩ | ⟨hj, z⟩
    · rw [z] at e2; cases e2
    · rcases old k _ e3 with ⟨rfl, y⟩ | ⟨hk, y⟩
      · rw [y] at e4; cases e4
      · rw [stay j hj] at e5
        rw [stay k hk] at e6
        exact r.sep j k s t b z e2 y e4 e5 e6
/-- an object that nobody looks into is changed -/
theorem SR.change (r : SR S B ρ σ H O) (ha : O a) (nf : ∀ o, H a = some o → ¬ Fix o) (n : ¬ OwnA ρ σ a) (z : B.Z a = none) (nc : ∀ q, H a ≠ some (LamX.CodeO a q)) {o : HO} (nt : ¬ isTbl o := by exact id) : SR S B ρ σ (upd H a o) O := by
  have ag : Agr O H (upd H a o) := fun b u e h _ => by
    by_cases hb : b = a
    · subst hb
      rcases h with h | h
      · exact absurd h (nf u e)
      · exact absurd ha h
    · rw [upd_ne hb]; exact e
  refine ⟨fun b u e => ?_, r.sub, r.top, ⟨r.al.1.but (a := a) (fun b u hb e => by rw [upd_ne hb]; exact e) (r.al.2 a ha) nc, fun b h => ?_⟩, r.len, fun i d e => ?_, fun i t d e1 e2 e3 => ?_, r.mine, r.sep⟩
  · by_cases hb : b = a
    · subst hb; rw [z] at e; cases e
    · rw [upd_ne hb]; exact r.keep b u e
  · by_cases hb : b = a
    · subst hb; exact ⟨o, upd_same, nt⟩
    · rw [upd_ne hb]; exact r.al.2 b h
  · obtain ⟨v, e1, q⟩ := r.val i d e
    exact ⟨v, e1, q.agr ag (fun _ _ _ h => h) _ _⟩
  · obtain ⟨b, e4, ob, zb, q⟩ := r.own i t d e1 e2 e3
    have hb : b ≠ a := fun e => n ⟨i, t, e1, e2, by rw [← e]; exact e4⟩
    exact ⟨b, e4, ob, zb, q.agr (by rw [upd_ne hb]) ag fun _ _ _ h => h⟩
theorem agr_change (ha : O a) (nf : ∀ o, H a = some o → ¬ Fix o) {o : HO} : Agr O H (upd H a o) := fun b u e h _ => by
  by_cases hb : b = a
  · subst hb
    rcases h with h | h
    · exact absurd h (nf u e)
    · exact absurd ha h
  · rw [upd_ne hb]; exact e
end

/-! ### targets -/
mutual
def Tg.slots : Tg → List Nat
  | .nm i => [i]
  | .tp ts => Tg.slotsL ts
def Tg.slotsL : List Tg → List Nat
  | [] => []
  | t :: ts => t.slots ++ Tg.slotsL ts
end
def twG (X : Cx) (tg : Expr) : TG := fun v σ H Q => ∀ pins s u, Inv X pins σ H s → RelV v u → wpAny (model X.prog X.w) X.A (assign tg X.env u) (fun _ s' => ∃ σ' H', Inv X pins σ' H' s' ∧ Q σ' H') X.xe s
theorem pg_tw {X : Cx} {tg : Expr} : PG X tg (twG X tg) := ⟨fun pins s σ H v u Q I r h => h pins s u I r⟩
def twGs (X : Cx) (ts : List Expr) : TGs := fun vs σ H Q => ∀ pins s us, Inv X pins σ H s → Vals vs us → wpAny (model X.prog X.w) X.A (assignInOrder ((assignEach ts X.env).map (·.2)) us) (fun _ s' => ∃ σ' H', Inv X pins σ' H' s' ∧ Q σ' H') X.xe s
theorem pgs_tw {X : Cx} {ts : List Expr} : PGs X ts (twGs X ts) := ⟨fun pins s σ H vs us Q I r h => h pins s us I r⟩
def OkG (X : Cx) (tg : Expr) (t : Tg) : Prop :=
  ∀ B ρ ρ' σ H O d v (Q : L2.St → Hp → Prop), SR (sur X) B ρ σ H O → Rp (sur X) H O d v → bindT t d ρ = some ρ' → (∀ σ', SR (sur X) B ρ' σ' H O → (∀ j, j ∉ t.slots → σ'[j]? = σ[j]?) → Q σ' H) → twG X tg v σ H Q
def OkGs (X : Cx) (tg : List Expr) (t : List Tg) : Prop :=
  ∀ B ρ ρ' σ H O ds vs (Q : L2.St → Hp → Prop), SR (sur X) B ρ σ H O → RpL (sur X) H O ds vs → bindTs t ds ρ = some ρ' → (∀ σ', SR (sur X) B ρ' σ' H O → (∀ j, j ∉ Tg.slotsL t → σ'[j]? = σ[j]?) → Q σ' H) → twGs X tg vs σ H Q
section
variable {X : Cx}
theorem okg_nm {i : Nat} {y : Str} {pos : Pos} (nd : X.N.Nodup) (hN : X.N[i]? = some y) (hl : Loc X.env.scope y) (hf : X.fn y = true ∨ X.env.scope.names.lookup y = some .local) : OkG X (.Name y pos) (.nm i) := by
  intro B ρ ρ' σ H O d v Q r q hb k pins s u I ru
  refine (pg_name (i := i) nd hN hl hf).run pins s σ H v u Q I ru ?_
  simp only [bindT] at hb
  have go : ρ' = ρ.set i (.val d) := by
    split at hb
    · cases hb
    · exact (Option.some.inj hb).symm
    · cases hb
  subst go
  exact k _ (r.set q) fun j hj => List.getElem?_set_ne fun e => hj (by rw [e]; simp [Tg.slots])
theorem okgs_nil : OkGs X [] [] := by
  intro B ρ ρ' σ H O ds vs Q r q hb k pins s us I ru
  cases ds with
  | nil =>
    cases q
    simp only [bindTs, Option.some.injEq] at hb
    subst hb
    exact pgs_nil.run pins s σ H [] us Q I ru ⟨rfl, k σ r fun _ _ => rfl⟩
  | cons d ds => simp [bindTs] at hb
theorem each_one {e : Expr} {es : List Expr} {env : PySem.Env} (h : noStar e = true) : assignEach (e :: es) env = (false, assign e env) :: assignEach es env := by
  cases e <;> first | rfl | cases h
theorem okgs_cons {e : Expr} {es : List Expr} {t : Tg} {ts : List Tg} (h1 : OkG X e t) (h2 : OkGs X es ts) (hs : noStar e = true) : OkGs X (e :: es) (t :: ts) := by
  intro B ρ ρ' σ H O ds vs Q r q hb k pins s us I ru
  cases ds with
  | nil => simp [bindTs] at hb
  | cons d ds =>
    cases q with
    | cons q qs =>
      simp only [bindTs] at hb
      split at hb
      · rename_i ρ1 e1
        refine (pgs_cons pg_tw pgs_tw (by rw [each_one hs]; rfl)).run pins s σ H _ us Q I ru ⟨_, _, rfl, ?_⟩
        refine h1 B ρ ρ1 σ H O d _ _ r q e1 fun σ1 r1 s1 => ?_
        refine h2 B ρ1 ρ' σ1 H O ds _ _ r1 qs hb fun σ2 r2 s2 => ?_
        refine k σ2 r2 fun j hj => ?_
        simp only [Tg.slotsL, List.mem_append, not_or] at hj
        rw [s2 j hj.2, s1 j hj.1]
      · cases hb
theorem each_all {env : PySem.Env} : ∀ {es : List Expr}, es.all noStar = true → (assignEach es env).length = es.length ∧ (assignEach es env).findIdx? (·.1) = none
  | [], _ => ⟨rfl, rfl⟩
  | e :: es, h => by
    simp only [List.all_cons, Bool.and_eq_true] at h
    obtain ⟨h1, h2⟩ := each_all (env := env) h.2
    rw [each_one h.1]
    exact ⟨by simp [h1], by simp [List.findIdx?_cons, h2]⟩
theorem bindTs_len : ∀ {ts : List Tg} {ds : List D} {ρ ρ' : Env}, bindTs ts ds ρ = some ρ' → ds.length = ts.length
  | [], [], _, _, _ => rfl
  | [], _ :: _, _, _, h => by simp [bindTs] at h
  | _ :: _, [], _, _, h => by simp [bindTs] at h
  | t :: ts, d :: ds, ρ, ρ', h => by
    simp only [bindTs] at h
    split at h
    · simp [bindTs_len h]
    · cases h
theorem okg_tp {es : List Expr} {ts : List Tg} {k : Nat} {pos : Pos} (hc : X.calm = true) (h : OkGs X es ts) (hs : es.all noStar = true) (hl : es.length = ts.length) : OkG X (.Tuple es k pos) (.tp ts) := by
  intro B ρ ρ' σ H O d v Q r q hb kk pins s u I ru
  cases d with
  | tup ds =>
    cases q with
    | tup qa la =>
      simp only [bindT] at hb
      obtain ⟨h1, h2⟩ := each_all (env := X.env) hs
      refine (pg_tup (n := ds.length) hc pgs_tw (by rw [h1, hl, bindTs_len hb]) h2).run pins s σ H _ u Q I ru ⟨_, _, rfl, qa, la.length.symm, ?_⟩
      exact h B ρ ρ' σ H O ds _ _ r la hb fun σ' r' s' => kk σ' r' fun j hj => s' j (by simpa [Tg.slots] using hj)
  | _ => simp [bindT] at hb
end

/-! ### what is walked -/
/-- the walk J yields the data ds, while the heap Zs stays -/
def IRep (S : Sur) (Zs : Hp) (O : Addr → Prop) (ds : List D) (J : It) : Prop :=
  ∀ H' O', Same Zs H' → (∀ a, O' a → O a ∨ Zs a = none) → (∀ (i : Nat) (d : D), ds[i]? = some d → J.go i H' ∧ ∀ x H'', J.yld i H' x H'' → Same H' H'' ∧ Rp S H'' O' d x) ∧ J.stop ds.length H'
def twI (X : Cx) (tg iter : Expr) : TI := fun σ H R => ∀ pins s, Inv X pins σ H s → wpAny (model X.prog X.w) X.A (eval iter X.env) (fun v s1 => wpAny (model X.prog X.w) X.A (pyIter v) (PIE X pins σ tg R) X.xe s1) X.xe s
theorem pi_tw {X : Cx} {tg iter : Expr} : PI X tg iter (twI X tg iter) := ⟨fun pins s σ H R I h => h pins s I⟩
theorem of_pi {X : Cx} {tg iter : Expr} {wi : TI} {σ : L2.St} {H : Hp} {R : It → Hp → Prop} (p : PI X tg iter wi) (h : wi σ H R) : twI X tg iter σ H R := fun pins s I => p.run pins s σ H R I h
def OkI (Γ : Ctr) (N : List Str) (sc : Scope) (tg iter : Expr) (t : E) : Prop :=
  ∀ X, XOK Γ N sc X → ∀ B ρ σ H O R W, SR (sur X) B ρ σ H O → TakesB Γ B.tb X W → GG (sur X) B σ O (fun ds ρ H J => IRep (sur X) (stb B.tb ρ σ H) O ds J) R W (evalI Γ t ρ) → twI X tg iter σ H R
section
variable {S : Sur} {O O' : Addr → Prop} {H H' Zs : Hp} {ds es : List D} {xs ys : List V} {a b : Addr} {K : PySem.W.Frag}
theorem RpL.zs (q : RpL S Zs O ds xs) (s : Same Zs H') (o : ∀ a, O' a → O a ∨ Zs a = none) : RpL S H' O' ds xs :=
  q.agr s.agr (fun a u e h => (o a h).elim id fun n => by rw [n] at e; cases e) _ _
theorem irep_list (ha : Zs a = some (.lst xs)) (q : RpL S Zs O ds xs) : IRep S Zs O ds (Itl S.K a) := by
  intro H' O' s o
  have h' : H' a = some (.lst xs) := s _ _ ha
  have q' := q.zs s o
  refine ⟨fun i d e => ?_, ⟨xs, SqL.of h', by rw [q.length]; exact Nat.le_refl _⟩⟩
  obtain ⟨v, e1, q1⟩ := q'.get e
  refine ⟨⟨xs, v, SqL.of h', e1⟩, fun x H'' ⟨e2, e3⟩ => ?_⟩
  subst e2
  have := e3 xs (SqL.of h')
  rw [e1] at this; cases this
  exact ⟨Same.refl _, q1⟩
theorem irep_tup (ha : SqT S.K Zs a xs) (q : RpL S Zs O ds xs) : IRep S Zs O ds (Itt S.K a) := by
  intro H' O' s o
  have h' : SqT S.K H' a xs := ha.imp (fun q => q.elim (fun e => .inl (s _ _ e)) fun ⟨u, e⟩ => .inr ⟨u, s _ _ e⟩) id
  have q' := q.zs s o
  refine ⟨fun i d e => ?_, ⟨xs, h', by rw [q.length]; exact Nat.le_refl _⟩⟩
  obtain ⟨v, e1, q1⟩ := q'.get e
  refine ⟨⟨xs, v, h', e1⟩, fun x H'' ⟨e2, e3⟩ => ?_⟩
  subst e2
  have := e3 xs h'
  rw [e1] at this; cases this
  exact ⟨Same.refl _, q1⟩
theorem range_get {lo : Int} {n : Nat} {i : Nat} {d : D} (e : (rangeD lo n)[i]? = some d) : i < n ∧ d = .int (lo + (i : Int)) := by
  unfold rangeD at e
  rw [List.getElem?_map, Option.map_eq_some_iff] at e
  obtain ⟨j, e1, rfl⟩ := e
  have hl : i < n := by
    have := (List.getElem?_eq_some_iff.mp e1).1
    simpa using this
  rw [List.getElem?_range hl] at e1
  cases e1
  exact ⟨hl, rfl⟩
theorem irep_range {lo : Int} {n : Nat} : IRep S Zs O (rangeD lo n) (Itr lo n) := by
  intro H' O' s o
  refine ⟨fun i d e => ?_, by show n ≤ _; simp [rangeD]⟩
  obtain ⟨h1, rfl⟩ := range_get e
  refine ⟨h1, fun x H'' ⟨e2, e3⟩ => ?_⟩
  subst e2 e3
  exact ⟨Same.refl _, .int _⟩
theorem enumD_get : ∀ {ds : List D} {k i : Nat} {d : D}, (enumD k ds)[i]? = some d → ∃ e, ds[i]? = some e ∧ d = .tup [.int ((k + i : Nat) : Int), e]
  | [], _, _, _, h => by simp [enumD] at h
  | x :: ds, k, 0, d, h => by
    simp [enumD] at h
    exact ⟨x, rfl, h.symm⟩
  | x :: ds, k, i + 1, d, h => by
    simp only [enumD, List.getElem?_cons_succ] at h
    obtain ⟨e, h1, h2⟩ := enumD_get h
    have e3 : k + 1 + i = k + (i + 1) := by omega
    exact ⟨e, by simpa using h1, e3 ▸ h2⟩
theorem enumD_len : ∀ (ds : List D) (k : Nat), (enumD k ds).length = ds.length
  | [], _ => rfl
  | _ :: ds, k => by simp [enumD, enumD_len ds]
theorem irep_enum (ha : Zs a = some (.lst xs)) (q : RpL S Zs O ds xs) : IRep S Zs O (enumD 0 ds) (Ite S.K a) := by
  intro H' O' s o
  have h' : H' a = some (.lst xs) := s _ _ ha
  have q' := q.zs s o
  refine ⟨fun i d e => ?_, ⟨xs, SqL.of h', by rw [enumD_len, q.length]; exact Nat.le_refl _⟩⟩
  obtain ⟨d, e0, rfl⟩ := enumD_get e
  obtain ⟨v, e1, q1⟩ := q'.get e0
  refine ⟨⟨xs, v, SqL.of h', e1⟩, fun x H'' ⟨T, y, ex, n, eh, e3⟩ => ?_⟩
  subst ex eh
  have := e3 xs (SqL.of h')
  rw [e1] at this; cases this
  refine ⟨Same.new n, .tup (SqT.of upd_same) (.cons ?_ (.one (q1.same (Same.new n))))⟩
  rw [Nat.zero_add]
  exact .int _
theorem irep_enumT (ha : SqT S.K Zs a xs) (q : RpL S Zs O ds xs) : IRep S Zs O (enumD 0 ds) (IteT S.K a) := by
  intro H' O' s o
  have h' : SqT S.K H' a xs := ha.imp (fun q => q.elim (fun e => .inl (s _ _ e)) fun ⟨u, e⟩ => .inr ⟨u, s _ _ e⟩) id
  have q' := q.zs s o
  refine ⟨fun i d e => ?_, ⟨xs, h', by rw [enumD_len, q.length]; exact Nat.le_refl _⟩⟩
  obtain ⟨d, e0, rfl⟩ := enumD_get e
  obtain ⟨v, e1, q1⟩ := q'.get e0
  refine ⟨⟨xs, v, h', e1⟩, fun x H'' ⟨T, y, ex, n, eh, e3⟩ => ?_⟩
  subst ex eh
  have := e3 xs h'
  rw [e1] at this; cases this
  refine ⟨Same.new n, .tup (SqT.of upd_same) (.cons ?_ (.one (q1.same (Same.new n))))⟩
  rw [Nat.zero_add]
  exact .int _
theorem zipD_get : ∀ {as bs : List D} {i : Nat} {d : D}, (zipD as bs)[i]? = some d → ∃ x y, as[i]? = some x ∧ bs[i]? = some y ∧ d = .tup [x, y]
  | [], _, _, _, h => by simp [zipD] at h
  | _ :: _, [], _, _, h => by simp [zipD] at h
  | x :: as, y :: bs, 0, d, h => by
    simp [zipD] at h
    exact ⟨x, y, rfl, rfl, h.symm⟩
  | x :: as, y :: bs, i + 1, d, h => by
    simp only [zipD, List.getElem?_cons_succ] at h
    obtain ⟨x', y', h1, h2, h3⟩ := zipD_get h
    exact ⟨x', y', by simpa using h1, by simpa using h2, h3⟩
theorem zipD_len : ∀ (as bs : List D), (zipD as bs).length = min as.length bs.length
  | [], _ => by simp [zipD]
  | _ :: _, [] => by simp [zipD]
  | _ :: as, _ :: bs => by simp [zipD, zipD_len as bs]
theorem irep_zipL (ha : Zs a = some (.lst xs)) (hb : Zs b = some (.lst ys)) (q : RpL S Zs O ds xs) (p : RpL S Zs O es ys) : IRep S Zs O (zipD ds es) (Itz S.K a b) := by
  intro H' O' s o
  have h1 : H' a = some (.lst xs) := s _ _ ha
  have h2 : H' b = some (.lst ys) := s _ _ hb
  have q' := q.zs s o
  have p' := p.zs s o
  refine ⟨fun i d e => ?_, ⟨xs, ys, SqL.of h1, SqL.of h2, by rw [zipD_len, q.length, p.length]; omega⟩⟩
  obtain ⟨x, y, e0, f0, rfl⟩ := zipD_get e
  obtain ⟨v, e1, q1⟩ := q'.get e0
  obtain ⟨w, f1, p1⟩ := p'.get f0
  refine ⟨⟨xs, ys, v, w, SqL.of h1, SqL.of h2, e1, f1⟩, fun x H'' ⟨T, y, z, ex, n, eh, e3, f3⟩ => ?_⟩
  subst ex eh
  have t1 := e3 xs (SqL.of h1)
  rw [e1] at t1; cases t1
  have t2 := f3 ys (SqL.of h2)
  rw [f1] at t2; cases t2
  exact ⟨Same.new n, .tup (SqT.of upd_same) (.cons (q1.same (Same.new n)) (.one (p1.same (Same.new n))))⟩
theorem sqT_same {xs : List V} (s : Same Zs H') (h : SqT K Zs a xs) : SqT K H' a xs := h.imp (fun q => q.elim (fun e => .inl (s _ _ e)) fun ⟨u, e⟩ => .inr ⟨u, s _ _ e⟩) id
theorem irep_zipT (ha : SqT S.K Zs a xs) (hb : SqT S.K Zs b ys) (q : RpL S Zs O ds xs) (p : RpL S Zs O es ys) : IRep S Zs O (zipD ds es) (RZ.ItzT S.K a b) := by
  intro H' O' s o
  have h1 := sqT_same s ha
  have h2 := sqT_same s hb
  have q' := q.zs s o
  have p' := p.zs s o
  refine ⟨fun i d e => ?_, ⟨xs, ys, h1, h2, by rw [zipD_len, q.length, p.length]; omega⟩⟩
  obtain ⟨x, y, e0, f0, rfl⟩ := zipD_get e
  obtain ⟨v, e1, q1⟩ := q'.get e0
  obtain ⟨w, f1, p1⟩ := p'.get f0
  refine ⟨⟨xs, ys, v, w, h1, h2, e1, f1⟩, fun x H'' ⟨T, y, z, ex, n, eh, e3, f3⟩ => ?_⟩
  subst ex eh
  have t1 := e3 xs h1
  rw [e1] at t1; cases t1
  have t2 := f3 ys h2
  rw [f1] at t2; cases t2
  exact ⟨Same.new n, .tup (SqT.of upd_same) (.cons (q1.same (Same.new n)) (.one (p1.same (Same.new n))))⟩
end
section
variable {S : Sur} {B : Bd} {ρ : Env} {σ : L2.St} {H : Hp} {O : Addr → Prop} {ds : List D} {xs : List V} {a : Addr}
/-- what is read stands in the part that stays -/
theorem SR.inZ (r : SR S B ρ σ H O) (q : RpL S H O ds xs) : RpL S (stb B.tb ρ σ H) O ds xs := r.carryL (Same.refl _) q
theorem SR.lstZ (r : SR S B ρ σ H O) (h : H a = some (.lst xs)) (n : ¬ O a) : stb B.tb ρ σ H a = some (.lst xs) := r.agr (Same.refl _) a _ h (.inr n) id
theorem SR.tupZ {K : PySem.W.Frag} (r : SR S B ρ σ H O) (h : SqT K H a xs) : SqT K (stb B.tb ρ σ H) a xs := h.imp (fun q => (r.agr (Same.refl _)).rdT q) id
end
section
variable {Γ : Ctr} {N : List Str} {sc : Scope} {X : Cx} {tg : Expr}
/-- over a list or a tuple -/
theorem oki_seq {e : Expr} {t : E} (h : OkE Γ N sc e t) (ht : ∀ ρ, evalI Γ t ρ = (evalE Γ t ρ).bind fun x ρ => ofO (seqD x.1) ρ) : OkI Γ N sc tg e t := by
  intro X x B ρ σ H O R W r tk g pins s I
  rw [ht] at g
  -- the list's way and the tuple's way in one
  let rd : V → Hp → Prop := fun v H1 => (∃ a, v = .ref a ∧ (∃ xs, SqL X.K H1 a xs) ∧ R (Itl X.K a) H1) ∨ (∃ a, v = .ref a ∧ (∃ xs, SqT X.K H1 a xs) ∧ R (Itt X.K a) H1)
  have ev : twE X e σ H rd := by
    refine h X x B ρ σ H O _ W r tk (g.stepE r.sub fun u ρ1 v H1 r1 q1 g1 => ?_)
    cases eu : u.1 with
    | tup ds =>
      rw [eu] at q1 g1
      cases q1 with
      | tup qa la => exact .inr ⟨_, rfl, ⟨_, qa⟩, g1 _ H1 r1 (irep_tup (r1.tupZ qa) (r1.inZ la))⟩
    | lst ds =>
      rw [eu] at q1 g1
      cases q1 with
      | lst qa na la => exact .inl ⟨_, rfl, ⟨_, SqL.of qa⟩, g1 _ H1 r1 (irep_list (r1.lstZ qa na) (r1.inZ la))⟩
    | _ => rw [eu] at g1; exact False.elim g1
  refine thn (ev pins s I) fun v s1 ⟨y, H1, I1, r1, q1⟩ => ?_
  -- the rest by the two rules, at a value that has been read
  rcases q1 with ⟨a, ey, ⟨xs, hq⟩, q⟩ | ⟨a, ey, ⟨xs, hq⟩, q⟩
  · subst ey
    cases r1
    obtain ⟨its, rv, p, hz⟩ := I1.list hq
    refine wpAny_pyIter_list p.isList ?_
    refine ⟨_, [_], _, _, H1, rfl, I1.kept (t' := s1.toks) (fun b o e => Heap.get?_push_of_some _ e), turn_list a _, ⟨_, Heap.get?_push_size _ rfl, rfl, rfl⟩, fun b hb => ?_, q⟩
    obtain rfl := List.mem_singleton.mp hb
    exact I1.fpOk (Nat.le_refl _) (I1.hok.fresh (Nat.le_refl _))
  · subst ey
    cases r1
    obtain ⟨its, rv, p, hz⟩ := I1.tuple hq
    refine wpAny_pyIter_tuple (show s1.heap.IsTuple a its.toArray from p) ?_
    refine ⟨_, [_], _, _, H1, rfl, I1.kept (t' := s1.toks) (fun b o e => Heap.get?_push_of_some _ e), turn_tuple a _, ⟨_, Heap.get?_push_size _ rfl, rfl, rfl⟩, fun b hb => ?_, q⟩
    obtain rfl := List.mem_singleton.mp hb
    exact I1.fpOk (Nat.le_refl _) (I1.hok.fresh (Nat.le_refl _))
theorem oki_rng1 {e : Expr} {t : E} {p1 pos : Pos} (h : OkE Γ N sc e t) (hs : noStar e = true) (hg : sc.names.lookup ("range" : Str) = some .globalImplicit) : OkI Γ N sc tg (.Call (.Name "range" p1) [e] [] pos) (.rng1 t) := by
  intro X x B ρ σ H O R W r tk g
  refine of_pi (pi_range1 (gl_of x hg) (x.nb (by decide +kernel)) (pa_cons pe_tw pa_nil (star_one hs)) (by rw [star_one hs]; rfl)) ?_
  rw [evalI_rng1] at g
  refine h X x B ρ σ H O _ W r tk (g.stepE r.sub fun u ρ1 v H1 r1 q1 g1 => ?_)
  cases eu : u.1 with
  | int n =>
    rw [eu] at q1 g1
    cases q1
    simp only at g1
    split at g1
    · rename_i hl
      exact ⟨n, rfl, hl.1, hl.2, g1 _ H1 r1 irep_range⟩
    · exact False.elim g1
  | _ => rw [eu] at g1; exact False.elim g1
theorem oki_rng2 {e f : Expr} {t u : E} {p1 pos : Pos} (h : OkE Γ N sc e t) (h' : OkE Γ N sc f u) (hs : noStar e = true) (hs' : noStar f = true) (hg : sc.names.lookup ("range" : Str) = some .globalImplicit) : OkI Γ N sc tg (.Call (.Name "range" p1) [e, f] [] pos) (.rng2 t u) := by
  intro X x B ρ σ H O R W r tk g
  refine of_pi (pi_range2 (gl_of x hg) (x.nb (by decide +kernel)) (pa_cons pe_tw (pa_cons pe_tw pa_nil (star_one hs')) (star_one hs)) (by rw [star_one hs, star_one hs']; rfl) (by rw [star_one hs']; rfl)) ?_
  rw [evalI_rng2] at g
  refine h X x B ρ σ H O _ W r tk (g.stepE r.sub fun a ρ1 v H1 r1 q1 g1 => ?_)
  refine h' X x _ ρ1 σ H1 O _ W r1.stab tk ((g1.up r1.up).stepE r1.sub fun b ρ2 y H2 r2 q2 g2 => ?_)
  split at g2
  · rename_i m n ea eb
    rw [ea] at q1
    rw [eb] at q2
    cases q1
    cases q2
    split at g2
    · rename_i hl
      exact ⟨m, n, rfl, ⟨hl.1.1, hl.1.2, hl.2.1, hl.2.2⟩, g2 _ H2 r2 irep_range⟩
    · exact False.elim g2
  · exact False.elim g2
theorem oki_enu {e : Expr} {t : E} {p1 pos : Pos} {elts : List Expr} {kk : Nat} {tpos : Pos} (h : OkE Γ N sc e t) (hs : noStar e = true) (hg : sc.names.lookup ("enumerate" : Str) = some .globalImplicit) : OkI Γ N sc (.Tuple elts kk tpos) (.Call (.Name "enumerate" p1) [e] [] pos) (.enu t) := by
  intro X x B ρ σ H O R W r tk g
  refine of_pi (pi_enumA (gl_of x hg) (x.nb (by decide +kernel)) (pa_cons pe_tw pa_nil (star_one hs)) (by rw [star_one hs]; rfl)) ?_
  rw [evalI_enu] at g
  refine h X x B ρ σ H O _ W r tk (g.stepE r.sub fun u ρ1 v H1 r1 q1 g1 => ?_)
  cases eu : u.1 with
  | lst ds =>
    rw [eu] at q1 g1
    cases q1 with
    | lst qa na la => exact ⟨_, _, rfl, .inl ⟨SqL.of qa, g1 _ H1 r1 (irep_enum (r1.lstZ qa na) (r1.inZ la))⟩⟩
  | tup ds =>
    rw [eu] at q1 g1
    cases q1 with
    | tup qa la => exact ⟨_, _, rfl, .inr ⟨qa, g1 _ H1 r1 (irep_enumT (r1.tupZ qa) (r1.inZ la))⟩⟩
  | _ => rw [eu] at g1; exact False.elim g1
theorem oki_zip {e f : Expr} {t u : E} {p1 pos : Pos} {elts : List Expr} {kk : Nat} {tpos : Pos} (h : OkE Γ N sc e t) (h' : OkE Γ N sc f u) (hs : noStar e = true) (hs' : noStar f = true) (hg : sc.names.lookup ("zip" : Str) = some .globalImplicit) :
    OkI Γ N sc (.Tuple elts kk tpos) (.Call (.Name "zip" p1) [e, f] [] pos) (.zip t u) := by
  intro X x B ρ σ H O R W r tk g
  refine of_pi (RZ.pi_zipA (gl_of x hg) (x.nb (by decide +kernel)) (pa_cons pe_tw (pa_cons pe_tw pa_nil (star_one hs')) (star_one hs)) (star_one hs) (star_all (by simp [hs']))) ?_
  rw [evalI_zip] at g
  refine h X x B ρ σ H O _ W r tk (g.stepE r.sub fun a ρ1 v H1 r1 q1 g1 => ?_)
  refine h' X x _ ρ1 σ H1 O _ W r1.stab tk ((g1.up r1.up).stepE r1.sub fun b ρ2 y H2 r2 q2 g2 => ?_)
  have q1' := r1.carry r2.keep q1
  split at g2
  · rename_i m n ea eb
    rw [ea] at q1'
    rw [eb] at q2
    cases q1' with
    | lst qa na la =>
      cases q2 with
      | lst qb nb lb => exact ⟨_, _, _, _, rfl, .inl ⟨SqL.of qa, SqL.of qb, g2 _ H2 r2 (irep_zipL (r2.lstZ qa na) (r2.lstZ qb nb) (r2.inZ la) (r2.inZ lb))⟩⟩
  · rename_i m n ea eb
    rw [ea] at q1'
    rw [eb] at q2
    cases q1' with
    | tup qa la =>
      cases q2 with
      | tup qb lb => exact ⟨_, _, _, _, rfl, .inr ⟨qa, qb, g2 _ H2 r2 (irep_zipT (r2.tupZ qa) (r2.tupZ qb) (r2.inZ la) (r2.inZ lb))⟩⟩
  · exact False.elim g2
end

noncomputable def bdL (t : Tb) (H : Hp) : Bd := ⟨stb t [] [] H, fun _ => False, fun _ => False, fun _ => none, t, fun _ _ e => (stb_some e).2.2⟩
theorem bdL_keep {t : Tb} {H : Hp} : Same (bdL t H).Z H := fun a o e => (stb_some e).2.1
theorem bdL_n {t : Tb} {H H' : Hp} (k : Same (bdL t H).Z H') : SameN t H H' := fun a o e n => k a o (stb_not (fun ⟨i, _, h, _⟩ => by simp at h) e n)
/-! ### lending -/
section
variable {S : Sur} {O : Addr → Prop} {H H' : Hp} {B : Bd} {ρ ρ' : Env} {σ : L2.St}
theorem hide_get {i : Nat} {s : SV} (e : (Env.hide ρ)[i]? = some s) : s.isOwn = false ∧ (∀ d, s = .val d → ρ[i]? = some (.val d)) := by
  unfold Env.hide at e
  rw [List.getElem?_map, Option.map_eq_some_iff] at e
  obtain ⟨t, e1, rfl⟩ := e
  cases t with
  | no => exact ⟨rfl, fun d h => by cases h⟩
  | val d => exact ⟨rfl, fun d h => by cases h; exact e1⟩
  | own d => exact ⟨rfl, fun d h => by cases h⟩
  | io d => exact ⟨rfl, fun d h => by cases h⟩
theorem lend_get : ∀ {is : List Nat} {acc ρ1 : Env}, lend ρ is acc = some ρ1 → (∀ (j : Nat) (s : SV), acc[j]? = some s → s.isOwn = false ∧ ∀ d, s = .val d → ∃ t, ρ[j]? = some t ∧ t.dat = some d) →
    ρ1.length = acc.length ∧ ∀ (j : Nat) (s : SV), ρ1[j]? = some s → s.isOwn = false ∧ ∀ d, s = .val d → ∃ t, ρ[j]? = some t ∧ t.dat = some d
  | [], acc, ρ1, h, k => by
    simp only [lend, Option.some.injEq] at h
    subst h
    exact ⟨rfl, k⟩
  | i :: is, acc, ρ1, h, k => by
    simp only [lend] at h
    have go : ∀ (t : SV) (d : D), ρ[i]? = some t → t.dat = some d → lend ρ is (acc.set i (.val d)) = some ρ1 → ρ1.length = acc.length ∧ ∀ (j : Nat) (s : SV), ρ1[j]? = some s → s.isOwn = false ∧ ∀ d, s = .val d → ∃ t : SV, ρ[j]? = some t ∧ t.dat = some d := by
      intro t d e1 e2 h
      have := lend_get h fun j s e => by
        by_cases hj : j = i
        · subst hj
          by_cases hl : j < acc.length
          · rw [List.getElem?_set_self hl] at e
            cases e
            exact ⟨rfl, fun d' e' => by cases e'; exact ⟨t, e1, e2⟩⟩
          · rw [List.getElem?_eq_none (by rw [List.length_set]; omega)] at e
            cases e
        · rw [List.getElem?_set_ne (Ne.symm hj)] at e
          exact k j s e
      rw [List.length_set] at this
      exact this
    split at h
    · rename_i d e; exact go _ d e rfl h
    · rename_i d e; exact go _ d e rfl h
    · cases h
theorem SR.lend (r : SR S B ρ σ H O) {is : List Nat} {ρ1 : Env} (h : lend ρ is ρ.hide = some ρ1) : SR S (bdL B.tb H) ρ1 σ H (fun _ => False) := by
  obtain ⟨hl, hg⟩ := lend_get h fun j s e => by
    obtain ⟨h1, h2⟩ := hide_get e
    exact ⟨h1, fun d e' => ⟨_, h2 d e', rfl⟩⟩
  refine ⟨bdL_keep, fun _ h => h, fun _ h => h.elim, ⟨r.al.1, fun _ h => h.elim⟩, ?_, fun i d e => ?_, fun i t d e1 e2 e3 => ?_, fun i d a e1 e2 => ?_, fun i j s t a e1 e2 _ _ _ _ => ?_⟩
  · rw [hl, Env.hide, List.length_map, r.len]
  · obtain ⟨t, e1, e2⟩ := (hg i _ e).2 d rfl
    cases t with
    | no => cases e2
    | val d' => cases e2; obtain ⟨v, e3, q⟩ := r.val i d e1; exact ⟨v, e3, q.less fun _ h => h.elim⟩
    | own d' => cases e2; obtain ⟨a, e3, _, _, q⟩ := r.own i _ d e1 rfl rfl; exact ⟨_, e3, q.rp (fun _ h => h.elim) fun h => h⟩
    | io d' => cases e2; obtain ⟨a, e3, _, _, q⟩ := r.own i _ d e1 rfl rfl; exact ⟨_, e3, q.rp (fun _ h => h.elim) fun h => h⟩
  · have := (hg i _ e1).1
    rw [e2] at this; cases this
  · exact .plain (hg i _ e1).1
  · have := (hg i _ e1).1
    rw [e2] at this; cases this
theorem RpO.notHard {d : D} {a : Addr} (q : RpO S H O d a) : d.hard = false := by cases q <;> rfl
end
section
variable {Γ : Ctr} {N : List Str} {sc : Scope} {X : Cx}
theorem ok_brw {e : Expr} {t : E} {is : List Nat} (h : OkE Γ N sc e t) : OkE Γ N sc e (.brw is t) := by
  intro X x B ρ σ H O Q W r tk g
  simp only [evalE] at g
  split at g
  · rename_i ρ1 hl
    refine h X x (bdL B.tb H) ρ1 σ H (fun _ => False) Q _ (r.lend hl) (takesF tk) ?_
    split at g
    · rename_i v ρ2 ev
      rw [ev]
      obtain ⟨d, fr⟩ := v
      split at g
      · rename_i hh
        cases fr with
        | false => exact fun w H' r' q => g w H' (r.sameN (bdL_n r'.keep) r'.al.1) (q.hard d w hh)
        | true => exact fun a H' _ _ _ _ q => absurd hh (by rw [show (d, true).1 = d from rfl, q.notHard]; exact Bool.false_ne_true)
      · exact False.elim g
    · exact False.elim g
  · exact False.elim g
end

section
variable {Γ : Ctr} {N : List Str} {sc : Scope} {X : Cx}
theorem okt_brw {e : Expr} {t : E} {is : List Nat} (h : OkT Γ N sc e t) : OkT Γ N sc e (.brw is t) := by
  intro X x B ρ σ H O Q W r tk g
  simp only [evalE] at g
  split at g
  · rename_i ρ1 hl
    refine h X x (bdL B.tb H) ρ1 σ H (fun _ => False) Q _ (r.lend hl) (takesF tk) ?_
    split at g
    · rename_i v ρ2 ev
      rw [ev]
      obtain ⟨d, fr⟩ := v
      split at g
      · rename_i hh
        cases d with
        | bl b => exact fun H' r' => g H' (r.sameN (bdL_n r'.keep) r'.al.1)
        | _ => exact False.elim g
      · exact False.elim g
    · exact False.elim g
  · exact False.elim g
end
/-! ### comprehensions -/
section
variable {S : Sur} {O : Addr → Prop} {H H' : Hp} {B B' : Bd} {ρ ρ' : Env} {σ σ' : L2.St}
theorem wipeE_len : ∀ (vs : List Nat), (wipeE ρ vs).length = ρ.length
  | [] => rfl
  | v :: vs => by simp [wipeE, wipeE_len vs]
theorem wipeE_in : ∀ {vs : List Nat} {i : Nat} {s : SV}, (wipeE ρ vs)[i]? = some s → (i ∈ vs ∧ s = .no) ∨ (i ∉ vs ∧ ρ[i]? = some s)
  | [], i, s, h => .inr ⟨by simp, h⟩
  | v :: vs, i, s, h => by
    simp only [wipeE] at h
    by_cases hv : i = v
    · subst hv
      by_cases hl : i < (wipeE ρ vs).length
      · rw [List.getElem?_set_self hl] at h
        exact .inl ⟨List.mem_cons_self, (Option.some.inj h).symm⟩
      · rw [List.getElem?_eq_none (by rw [List.length_set]; omega)] at h
        cases h
    · rw [List.getElem?_set_ne (Ne.symm hv)] at h
      rcases wipeE_in h with ⟨h1, h2⟩ | ⟨h1, h2⟩
      · exact .inl ⟨List.mem_cons_of_mem _ h1, h2⟩
      · exact .inr ⟨fun z => (List.mem_cons.mp z).elim hv h1, h2⟩
theorem wipe_keep : ∀ {vs : List Nat} {i : Nat}, i ∉ vs → (wipe σ vs)[i]? = σ[i]?
  | [], _, _ => rfl
  | v :: vs, i, h => by
    rw [List.mem_cons, not_or] at h
    simp only [wipe]
    rw [List.getElem?_set_ne (Ne.symm h.1), wipe_keep h.2]
theorem SR.wipe (r : SR S B ρ σ H O) (vs : List Nat) : SR S B (wipeE ρ vs) (L2.wipe σ vs) H O := by
  refine ⟨r.keep, r.sub, r.top, r.al, ?_, fun i d e => ?_, fun i t d e1 e2 e3 => ?_, fun i d a e1 e2 => ?_, fun i j s t a e1 e2 e3 e4 e5 e6 => ?_⟩
  · rw [wipeE_len, wipe_length, r.len]
  · rcases wipeE_in e with ⟨_, z⟩ | ⟨h, z⟩
    · cases z
    · rw [wipe_keep h]; exact r.val i d z
  · rcases wipeE_in e1 with ⟨_, z⟩ | ⟨h, z⟩
    · rw [z] at e2; cases e2
    · rw [wipe_keep h]; exact r.own i t d z e2 e3
  · rcases wipeE_in e1 with ⟨_, z⟩ | ⟨h, z⟩
    · subst z; trivial
    · rw [wipe_keep h] at e2; exact r.mine i d a z e2
  · rcases wipeE_in e1 with ⟨_, z⟩ | ⟨h, z⟩
    · rw [z] at e2; cases e2
    · rcases wipeE_in e3 with ⟨_, y⟩ | ⟨h', y⟩
      · rw [y] at e4; cases e4
      · rw [wipe_keep h] at e5
        rw [wipe_keep h'] at e6
        exact r.sep i j s t a z e2 y e4 e5 e6
theorem backE_len : ∀ (vs : List Nat), (backE ρ ρ' vs).length = ρ'.length
  | [] => rfl
  | v :: vs => by
    simp only [backE]
    split
    · rw [List.length_set, backE_len vs]
    · exact backE_len vs
theorem backE_out : ∀ {vs : List Nat} {i : Nat}, i ∉ vs → (backE ρ ρ' vs)[i]? = ρ'[i]?
  | [], _, _ => rfl
  | v :: vs, i, h => by
    rw [List.mem_cons, not_or] at h
    simp only [backE]
    split
    · rw [List.getElem?_set_ne (Ne.symm h.1), backE_out h.2]
    · exact backE_out h.2
theorem backE_in (hl : ρ'.length = ρ.length) : ∀ {vs : List Nat} {i : Nat}, i ∈ vs → (backE ρ ρ' vs)[i]? = ρ[i]?
  | [], _, h => by cases h
  | v :: vs, i, h => by
    simp only [backE]
    by_cases hv : i = v
    · subst hv
      split
      · rename_i s e
        have h1 := (List.getElem?_eq_some_iff.mp e).1
        rw [List.getElem?_set_self (by rw [backE_len, hl]; exact h1), e]
      · rename_i e
        rw [e]
        have := List.getElem?_eq_none_iff.mp e
        exact List.getElem?_eq_none (by rw [backE_len, hl]; exact this)
    · have h' : i ∈ vs := (List.mem_cons.mp h).elim (fun z => absurd z hv) id
      split
      · rw [List.getElem?_set_ne (Ne.symm hv), backE_in hl h']
      · exact backE_in hl h'
theorem plainAt_get : ∀ {vs : List Nat} {i : Nat} {s : SV}, plainAt ρ vs = true → i ∈ vs → ρ[i]? = some s → s.isOwn = false
  | [], _, _, _, h, _ => by cases h
  | v :: vs, i, s, p, h, e => by
    simp only [plainAt, Bool.and_eq_true] at p
    rcases List.mem_cons.mp h with rfl | h
    · rw [e] at p
      cases s <;> first | rfl | (have := p.1; simp at this)
    · exact plainAt_get p.2 h e
theorem plainAt_congr : ∀ {vs : List Nat}, (∀ i ∈ vs, ρ'[i]? = ρ[i]?) → plainAt ρ' vs = plainAt ρ vs
  | [], _ => rfl
  | v :: vs, h => by
    simp only [plainAt]
    rw [h v List.mem_cons_self, plainAt_congr fun i hi => h i (List.mem_cons_of_mem _ hi)]
/-- behind a turn: the block's own slots are what they were -/
theorem SR.back {vs : List Nat} (r0 : SR S B ρ σ H O) (r4 : SR S B' ρ' σ' H' O) (l : B.le B') (hw : ∀ j, j ∉ vs → σ'[j]? = σ[j]?) (hl : σ'.length = σ.length) (p : plainAt ρ vs = true) (s : Same (stb B.tb ρ σ H) H') : SR S B (backE ρ ρ' vs) σ H' O := by
  have len : ρ'.length = ρ.length := by rw [r4.len, hl, r0.len]
  have w := r4.weak l
  have slot : ∀ (i : Nat) (t : SV), (backE ρ ρ' vs)[i]? = some t → (i ∈ vs ∧ ρ[i]? = some t ∧ t.isOwn = false) ∨ (i ∉ vs ∧ ρ'[i]? = some t) := fun i t e => by
    by_cases h : i ∈ vs
    · rw [backE_in len h] at e
      exact .inl ⟨h, e, plainAt_get p h e⟩
    · rw [backE_out h] at e
      exact .inr ⟨h, e⟩
  refine ⟨w.keep, w.sub, w.top, w.al, ?_, fun i d e => ?_, fun i t d e1 e2 e3 => ?_, fun i d a e1 e2 => ?_, fun i j s t a e1 e2 e3 e4 e5 e6 => ?_⟩
  · rw [backE_len, len, r0.len]
  · rcases slot i _ e with ⟨_, z, _⟩ | ⟨h, z⟩
    · obtain ⟨v, e1, q⟩ := r0.val i d z
      exact ⟨v, e1, r0.carry s q⟩
    · rw [← hw i h]; exact w.val i d z
  · rcases slot i _ e1 with ⟨_, _, z⟩ | ⟨h, z⟩
    · rw [e2] at z; cases z
    · rw [← hw i h]; exact w.own i t d z e2 e3
  · rcases slot i _ e1 with ⟨_, _, z⟩ | ⟨h, z⟩
    · exact .plain z
    · rw [← hw i h] at e2; exact w.mine i d a z e2
  · rcases slot i _ e1 with ⟨_, _, z⟩ | ⟨h, z⟩
    · rw [e2] at z; cases z
    · rcases slot j _ e3 with ⟨_, _, y⟩ | ⟨h', y⟩
      · rw [e4] at y; cases y
      · rw [← hw i h] at e5
        rw [← hw j h'] at e6
        exact w.sep i j s t a z e2 y e4 e5 e6
end
mutual
theorem bindT_len : ∀ {t : Tg} {d : W2.D} {ρ ρ' : Env}, bindT t d ρ = some ρ' → ρ'.length = ρ.length
  | .nm i, d, ρ, ρ', h => by
    simp only [bindT] at h
    split at h
    · cases h
    · cases h; exact List.length_set
    · cases h
  | .tp ts, .tup ds, ρ, ρ', h => by
    simp only [bindT] at h
    exact bindTs_len' h
  | .tp _, .non, _, _, h => by simp [bindT] at h
  | .tp _, .bl _, _, _, h => by simp [bindT] at h
  | .tp _, .int _, _, _, h => by simp [bindT] at h
  | .tp _, .str _, _, _, h => by simp [bindT] at h
  | .tp _, .lst _, _, _, h => by simp [bindT] at h
  | .tp _, .frz _, _, _, h => by simp [bindT] at h
  | .tp _, .dic _ _, _, _, h => by simp [bindT] at h
  | .tp _, .fn _, _, _, h => by simp [bindT] at h
theorem bindTs_len' : ∀ {t : List Tg} {d : List W2.D} {ρ ρ' : Env}, bindTs t d ρ = some ρ' → ρ'.length = ρ.length
  | [], [], ρ, ρ', h => by simp [bindTs] at h; rw [h]
  | t :: ts, d :: ds, ρ, ρ', h => by
    simp only [bindTs] at h
    split at h
    · rename_i ρ1 e
      rw [bindTs_len' h, bindT_len e]
    · cases h
  | [], _ :: _, _, _, h => by simp [bindTs] at h
  | _ :: _, [], _, _, h => by simp [bindTs] at h
end
theorem wipe_in : ∀ {vs : List Nat} {σ : L2.St} {i : Nat}, i ∈ vs → i < σ.length → (wipe σ vs)[i]? = some none
  | [], _, _, h, _ => by cases h
  | v :: vs, σ, i, h, hl => by
    simp only [wipe]
    by_cases hv : i = v
    · subst hv
      exact List.getElem?_set_self (by rw [wipe_length]; exact hl)
    · rw [List.getElem?_set_ne (Ne.symm hv)]
      exact wipe_in ((List.mem_cons.mp h).elim (fun z => absurd z hv) id) hl
theorem wipe_ext {vs : List Nat} {σ σ2 : L2.St} (hl : σ2.length = σ.length) (h : ∀ j, j ∉ vs → σ2[j]? = σ[j]?) : wipe σ2 vs = wipe σ vs := by
  apply List.ext_getElem?
  intro j
  by_cases hj : j ∈ vs
  · by_cases hlt : j < σ.length
    · rw [wipe_in hj hlt, wipe_in hj (by rw [hl]; exact hlt)]
    · rw [List.getElem?_eq_none (by rw [wipe_length]; omega), List.getElem?_eq_none (by rw [wipe_length]; omega)]
  · rw [wipe_keep hj, wipe_keep hj, h j hj]
section
variable {Γ : Ctr} {N : List Str} {sc : Scope} {X : Cx}
theorem XOK.blk (x : XOK Γ N sc X) {s0 : Shared} {H0 : Hp} {scope : Scope} {cl : List (Str × Addr)} {C : Addr} {fp : List Addr} : XOK Γ N (relS scope sc) (X.blk s0 H0 scope (compEnvC scope cl C X.env) fp) := by
  refine ⟨x.n, x.nd, ?_, x.calm, x.m, x.lm⟩
  rw [← x.sc]
  rfl
/-- the readings within a comprehension's block, whichever block it is -/
def bkE (X : Cx) (scope : Scope) (e : Expr) : TE := fun σ H Q => ∀ s0 H0 cl C fp, twE (X.blk s0 H0 scope (compEnvC scope cl C X.env) fp) e σ H Q
def bkT (X : Cx) (scope : Scope) (ifs : List Expr) : TT := fun σ H Q => ∀ s0 H0 cl C fp pins s, Inv (X.blk s0 H0 scope (compEnvC scope cl C X.env) fp) pins σ H s →
  wpAny (model X.prog X.w) X.A (forIn ifs true fun c r => if r = true then do let ok ← isTrue c (compEnvC scope cl C X.env) (eval c (compEnvC scope cl C X.env)); pure (ForInStep.yield ok) else pure (ForInStep.yield r))
    (TP (X.blk s0 H0 scope (compEnvC scope cl C X.env) fp) pins σ Q) (fun _ _ => False) s
def bkG (X : Cx) (scope : Scope) (tg : Expr) : TG := fun v σ H Q => ∀ s0 H0 cl C fp, twG (X.blk s0 H0 scope (compEnvC scope cl C X.env) fp) tg v σ H Q
/-- a block's tests -/
def OkC (Γ : Ctr) (N : List Str) (sc : Scope) (ifs : List Expr) (t : E) : Prop :=
  (ifs = [] ∧ t = .cst (.bl true)) ∨ ∃ c, ifs = [c] ∧ OkT Γ N sc c t
def OkGB (X : Cx) (scope : Scope) (tg : Expr) (t : Tg) : Prop := ∀ s0 H0 cl C fp, OkG (X.blk s0 H0 scope (compEnvC scope cl C X.env) fp) tg t
theorem tlc_comp {elt tg iter : Expr} {ifs : List Expr} {scope : Scope} {own : List (Str × Nat)} {te ti tc : E} {tt : Tg} (hi : OkI Γ N sc tg iter ti) (hg : ∀ X, XOK Γ N sc X → OkGB X scope tg tt) (hsl : ∀ j, j ∈ tt.slots → j ∈ own.map (·.2))
    (hc : OkC Γ N (relS scope sc) ifs tc) (he : OkE Γ N (relS scope sc) elt te) (x : XOK Γ N sc X) {B : Bd} {ρ : Env} {σ : L2.St} {H : Hp} {O : Addr → Prop} {Q : VK} {W : WX} (r : SR (sur X) B ρ σ H O) (tk : TakesB Γ B.tb X W) (g : GE (sur X) B σ O Q W (evalE Γ (.comp (own.map (·.2)) te tt ti tc) ρ)) :
    tLc (twI X tg iter) (bkG X scope tg) (bkT X scope ifs) (bkE X scope elt) (own.map (·.2)) σ H Q := by
  rw [evalE_comp] at g
  refine hi X x B ρ σ H O _ W r tk (g.stepG (P := fun ds ρ H J => IRep (sur X) (stb B.tb ρ σ H) O ds J) fun ds ρ1 J H1 r1 ir g1 => ?_)
  split at g1
  rotate_left
  · exact False.elim g1
  rename_i hp
  intro D nD
  obtain ⟨O1, hO1⟩ : ∃ O1, O1 = orA O D := ⟨_, rfl⟩
  obtain ⟨vs, hvs⟩ : ∃ vs, vs = own.map (·.2) := ⟨_, rfl⟩
  rw [← hvs] at hp hsl g1 ⊢
  have nDo : ¬ OwnA ρ1 σ D := fun h => r1.there (r1.ownO h) nD
  have oD : O1 D := by rw [hO1]; exact .inr rfl
  have oO : ∀ b, O b → O1 b := fun b h => by rw [hO1]; exact .inl h
  have zD : stb B.tb ρ1 σ H1 D = none := none_of r1.stab.keep nD
  have b1 : B.le (bdAt B ρ1 σ H1 O1) := by
    refine ⟨r1.up.z, fun _ => Iff.rfl, fun a h => ?_, rfl, rfl⟩
    have h : O1 a := h
    rw [hO1] at h
    rcases h with h | h
    · exact r1.top a h
    · rw [h]; exact .inr (r1.fresh nD).1
  have rD : SR (sur X) (bdAt B ρ1 σ H1 O1) ρ1 σ (upd H1 D (.lst [])) O1 := by
    rw [hO1]
    have q := r1.new (H' := upd H1 D (.lst [])) (Same.new nD) nD ⟨_, upd_same, id⟩
    refine ⟨fun a o e => ?_, q.sub, fun a h => .inl h, q.al, q.len, q.val, fun i t d e1 e2 e3 => ?_, q.mine, q.sep⟩
    · exact Same.new nD _ _ (r1.stab.keep a o e)
    · obtain ⟨a, e4, o, z, qq⟩ := q.own i t d e1 e2 e3
      exact ⟨a, e4, o, stb_own ⟨i, t, e1, e2, e4⟩, qq⟩
  let P : Nat → Hp → Prop := fun i H => ∃ (ρi : Env) (acc : List W2.D) (xs : List V), SR (sur X) (bdAt B ρ1 σ H1 O1) ρi σ H O1 ∧ ¬ OwnA ρi σ D ∧ H D = some (.lst xs) ∧ RpL (sur X) H O1 acc xs ∧ plainAt ρi vs = true ∧
    GE (sur X) B σ O Q W ((compL (compF (evalE Γ tc) (evalE Γ te) tt vs) (ds.drop i) acc ρi).bind fun ys ρ => .ok (.lst ys, true) ρ)
  refine ⟨fun i m H => m = ds.length - i ∧ i ≤ ds.length ∧ P i H, ⟨ds.length, by simp, Nat.zero_le _, ρ1, [], [], rD, nDo, upd_same, .nil, hp, g1⟩, ?_⟩
  rintro i m H ⟨rfl, hi, ρi, acc, xs, ri, nDi, hD, la, pl, gi⟩
  obtain ⟨items, stop⟩ := ir H O1 ri.keep fun a h => by
    rw [hO1] at h
    rcases h with h | h
    · exact .inl h
    · rw [h]; exact .inr zD
  by_cases hlt : i < ds.length
  rotate_left
  · -- the end
    have e : i = ds.length := by omega
    subst e
    refine .inl ⟨stop, ?_⟩
    rw [List.drop_length] at gi
    have gi : GE (sur X) B σ O Q W (.ok (.lst acc, true) ρi) := gi
    have rw' := ri.weak b1
    refine gi D H (by rw [← hO1]; exact rw') (r1.fresh nD).1 (fun h => r1.there h nD) (fun b h => ?_) (by rw [← hO1]; exact .lst hD la)
    have h1 := rw'.ownO h
    rw [hO1] at h1
    rcases h1 with h1 | h1
    · exact h1
    · rw [h1] at h; exact absurd h nDi
  · obtain ⟨d, hd⟩ : ∃ d, ds[i]? = some d := ⟨ds[i], by simp [hlt]⟩
    obtain ⟨go, yl⟩ := items i d hd
    refine .inr ⟨go, P (i + 1), fun H' h => ⟨ds.length - (i + 1), by omega, rfl, by omega, h⟩, fun v H2 hy => ?_⟩
    obtain ⟨s2, qv⟩ := yl v H2 hy
    have hdrop : ds.drop i = d :: ds.drop (i + 1) := by
      rw [List.drop_eq_getElem_cons hlt]
      have := List.getElem?_eq_getElem hlt
      rw [hd] at this
      rw [← Option.some.inj this]
    rw [hdrop] at gi
    simp only [compL] at gi
    have r2 := ri.same s2
    have hD2 : H2 D = some (.lst xs) := s2 _ _ hD
    have zD2 : stb B.tb ρi σ H2 D = some (.lst xs) := by exact stb_not nDi hD2 (fun z => z.2)
    have la2 := la.same s2
    -- the new environment behind a turn
    have fin : ∀ {ρ4 : Env} {σ4 : L2.St} {H4 : Hp}, SR (sur X) (bdAt (bdAt B ρ1 σ H1 O1) ρi σ H2 O1) ρ4 σ4 H4 O1 → (∀ j, j ∉ vs → σ4[j]? = σ[j]?) → σ4.length = σ.length →
        SR (sur X) (bdAt B ρ1 σ H1 O1) (backE ρi ρ4 vs) σ H4 O1 ∧ ¬ OwnA (backE ρi ρ4 vs) σ D ∧ H4 D = some (.lst xs) ∧ RpL (sur X) H4 O1 acc xs ∧ plainAt (backE ρi ρ4 vs) vs = true := by
      intro ρ4 σ4 H4 r4 hw hl
      have len4 : ρ4.length = ρi.length := by rw [r4.len, hl, r2.len]
      refine ⟨r2.back r4 r2.up hw hl pl r4.keep, fun ⟨j, t, e1, e2, e3⟩ => ?_, r4.keep _ _ zD2, r2.carryL r4.keep la2, ?_⟩
      · by_cases hj : j ∈ vs
        · rw [backE_in len4 hj] at e1
          rw [plainAt_get pl hj e1] at e2; cases e2
        · rw [backE_out hj] at e1
          rw [← hw j hj] at e3
          have := r4.ownZ ⟨j, t, e1, e2, e3⟩
          have zz : (bdAt (bdAt B ρ1 σ H1 O1) ρi σ H2 O1).Z D = some (.lst xs) := zD2
          rw [zz] at this; cases this
      · rw [← pl]
        exact plainAt_congr fun j hj => backE_in len4 hj
    cases hb2 : bindT tt d (wipeE ρi vs) with
    | none =>
      simp only [compF, hb2, R.bind_bad] at gi
      exact False.elim gi
    | some ρ2 =>
      simp only [compF, hb2] at gi
      have h0 : ∀ b, (bdAt (bdAt B ρ1 σ H1 O1) ρi σ H2 O1).O0 b → O1 b := fun b h => oO b (r.sub b h)
      intro s0 H0 cl C fp
      refine hg X x s0 H0 cl C fp (bdAt (bdAt B ρ1 σ H1 O1) ρi σ H2 O1) (wipeE ρi vs) ρ2 (wipe σ vs) H2 O1 d v _ (r2.stab.wipe vs) qv hb2 fun σ2 r3 hst => ?_
      have keep : ∀ j, j ∉ vs → σ2[j]? = σ[j]? := fun j hj => by rw [hst j fun h => hj (hsl j h), wipe_keep hj]
      have len2 : σ2.length = σ.length := by rw [← r3.len, bindT_len hb2, wipeE_len, r2.len]
      refine ⟨wipe_ext len2 keep, ?_⟩
      have core : ∀ (b : Bool) (ρ3 : Env) (H3 : Hp), SR (sur X) (bdAt (bdAt B ρ1 σ H1 O1) ρi σ H2 O1) ρ3 σ2 H3 O1 → evalE Γ tc ρ2 = evalE Γ tc ρ2 →
          GE (sur X) B σ O Q W (R.bind (match (match b with
            | true => (evalE Γ te ρ3).bind fun y ρ4 => R.ok (some y.1) (backE ρi ρ4 vs)
            | false => R.ok none (backE ρi ρ3 vs)) with
            | .ok (some y) ρ' => if acc.length < LIM then compL (compF (evalE Γ tc) (evalE Γ te) tt vs) (ds.drop (i + 1)) (acc ++ [y]) ρ' else .bad
            | .ok none ρ' => compL (compF (evalE Γ tc) (evalE Γ te) tt vs) (ds.drop (i + 1)) acc ρ'
            | _ => .bad) fun ys ρ => .ok (.lst ys, true) ρ) →
          (if b = true then bkE X scope elt σ2 H3 fun y H4 => ∃ acc, H4 D = some (.lst acc) ∧ acc.length < sizeLine ∧ P (i + 1) (upd H4 D (.lst (acc ++ [y]))) else P (i + 1) H3) := by
        intro b ρ3 H3 r4 _ g4
        cases b with
        | false =>
          rw [if_neg Bool.false_ne_true]
          obtain ⟨f1, f2, f3, f4, f5⟩ := fin r4 keep len2
          exact ⟨backE ρi ρ3 vs, acc, xs, f1, f2, f3, f4, f5, g4⟩
        | true =>
          rw [if_pos rfl]
          intro s0 H0 cl C fp
          refine he _ x.blk (bdAt (bdAt B ρ1 σ H1 O1) ρi σ H2 O1) ρ3 σ2 H3 O1 _ (fun _ _ _ _ => False) r4 (takesF tk) ?_
          simp only at g4
          cases hv : evalE Γ te ρ3 with
          | bad => rw [hv] at g4; exact False.elim g4
          | err e ρ => rw [hv] at g4; exact False.elim g4
          | ok y ρ4 =>
            rw [hv] at g4
            simp only [R.bind_ok] at g4
            split at g4
            rotate_left
            · exact False.elim g4
            rename_i hlim
            obtain ⟨y, fr⟩ := y
            refine GE.val (fun v5 H5 r5 q5 => ?_) h0
            obtain ⟨f1, f2, f3, f4, f5⟩ := fin r5 keep len2
            have hx : acc.length = xs.length := la.length
            have nf : ∀ o, H5 D = some o → ¬ Fix o := fun o e => by rw [f3] at e; cases e; exact fun z => z
            refine ⟨xs, f3, ?_, backE ρi ρ4 vs, acc ++ [y], xs ++ [v5], f1.change oD nf f2 zD (fun q z => by rw [f3] at z; cases z), f2, upd_same, ?_, f5, g4⟩
            · rw [← hx]
              exact Nat.lt_of_lt_of_le hlim (by decide)
            · exact (f4.snoc q5).agr (agr_change oD nf) (fun _ _ _ h => h) _ _
      intro s0 H0 cl C fp pins st I
      rcases hc with ⟨e1, e2⟩ | ⟨c, e1, hc⟩
      · subst e1 e2
        refine pts_nil.run pins st σ2 H2 _ I ?_
        have := core true ρ2 H2 r3 rfl (by
          have g := gi
          simp only [evalE, R.bindB_ok] at g
          exact g)
        exact this
      · subst e1
        refine (pts_one pt_tw).run pins st σ2 H2 _ I ?_
        refine hc _ x.blk (bdAt (bdAt B ρ1 σ H1 O1) ρi σ H2 O1) ρ2 σ2 H2 O1 _ (fun _ _ _ _ => False) r3 (takesF tk) ?_
        cases hv : evalE Γ tc ρ2 with
        | bad => rw [hv] at gi; exact False.elim gi
        | err e ρ => rw [hv] at gi; exact False.elim gi
        | ok y ρ3 =>
          rw [hv] at gi
          obtain ⟨y, fr⟩ := y
          cases y with
          | bl b => exact fun H3 r4 => core b ρ3 H3 r4 rfl gi
          | _ => exact False.elim gi
theorem ok_comp {elt tg iter : Expr} {ifs : List Expr} {scope : Scope} {own : List (Str × Nat)} {pos : Pos} {te ti tc : E} {tt : Tg} (hb : blkC N sc scope own = true) (hi : OkI Γ N sc tg iter ti) (hg : ∀ X, XOK Γ N sc X → OkGB X scope tg tt) (hsl : ∀ j, j ∈ tt.slots → j ∈ own.map (·.2))
    (hc : OkC Γ N (relS scope sc) ifs tc) (he : OkE Γ N (relS scope sc) elt te) (hs : ∀ env x, foldedSetIterable iter env x = pure x) : OkE Γ N sc (.ListComp elt [⟨tg, iter, ifs, 0⟩] scope pos) (.comp (own.map (·.2)) te tt ti tc) := by
  intro X x B ρ σ H O Q W r tk g
  have bo : BlkOk X.N X.env.scope scope own := by rw [x.n, x.sc]; exact blkOk_by hb
  refine of_pe (pe_lc (g := bkG X scope tg) (tt := bkT X scope ifs) (te := bkE X scope elt) x.calm (by rw [x.n]; exact x.nd) pi_tw bo ?_ ?_ ?_ (fun y => hs X.env y)) (tlc_comp hi hg hsl hc he x r tk g)
  · exact fun s0 H0 C cl fp => ⟨fun pins s σ H v u Q I r h => h s0 H0 cl C fp pins s u I r⟩
  · exact fun s0 H0 C cl fp => ⟨fun pins s σ H Q I h => h s0 H0 cl C fp pins s I⟩
  · exact fun s0 H0 C cl fp => ⟨fun pins s σ H Q I h => h s0 H0 cl C fp pins s I⟩
end
end W2

/-! Statements. -/
namespace W2
open PySem L2

/-! ### slots: moved, owned -/
section
variable {S : Sur} {O : Addr → Prop} {H : Hp} {B B' : Bd} {ρ : Env} {σ : L2.St} {d : D} {v : V} {a : Addr} {i j : Nat}
theorem slot_old {s t : SV} {k : Nat} (e : (ρ.set i s)[k]? = some t) : (k = i ∧ t = s ∧ k < ρ.length) ∨ (k ≠ i ∧ ρ[k]? = some t) := by
  by_cases hk : k = i
  · subst hk
    by_cases hl : k < ρ.length
    · rw [List.getElem?_set_self hl] at e
      exact .inl ⟨rfl, (Option.some.inj e).symm, hl⟩
    · rw [List.getElem?_eq_none (by rw [List.length_set]; omega)] at e
      cases e
  · rw [List.getElem?_set_ne (Ne.symm hk)] at e
    exact .inr ⟨hk, e⟩
/-- a new object is put into a slot -/
theorem SR.setOwn (r : SR S B ρ σ H (orA O a)) (z : B.Z a = none) (no : ¬ O a) (h0 : ∀ b, B.O0 b → O b) (ow : ∀ b, OwnA ρ σ b → O b) (q : RpO S H (orA O a) d a) : SR S B (ρ.set i (.own d)) (σ.set i (some (.ref a))) H (orA O a) := by
  have stay : ∀ j, j ≠ i → (σ.set i (some (.ref a)))[j]? = σ[j]? := fun j hj => List.getElem?_set_ne (Ne.symm hj)
  have here : i < ρ.length → (σ.set i (some (V.ref a)))[i]? = some (some (.ref a)) := fun h => List.getElem?_set_self (by rw [← r.len]; exact h)
  refine ⟨r.keep, r.sub, r.top, r.al, by simp [r.len], fun j e h => ?_, fun j t e e1 e2 e3 => ?_, fun j t b e1 e2 => ?_, fun j k s t b e1 e2 e3 e4 e5 e6 => ?_⟩
  · rcases slot_old h with ⟨_, y, _⟩ | ⟨hj, y⟩
    · cases y
    · rw [stay j hj]; exact r.val j e y
  · rcases slot_old e1 with ⟨rfl, y, hl⟩ | ⟨hj, y⟩
    · subst y; cases e3
      exact ⟨a, here hl, .inr rfl, z, q⟩
    · rw [stay j hj]; exact r.own j t e y e2 e3
  · rcases slot_old e1 with ⟨rfl, y, hl⟩ | ⟨hj, y⟩
    · subst y
      rw [here hl] at e2; cases e2
      exact fun h => no (h0 _ h)
    · rw [stay j hj] at e2; exact r.mine j t b y e2
  · rcases slot_old e1 with ⟨rfl, y, hl⟩ | ⟨hj, y⟩
    · rcases slot_old e3 with ⟨rfl, x, _⟩ | ⟨hk, x⟩
      · rfl
      · rw [here hl] at e5; cases e5
        rw [stay k hk] at e6
        exact absurd (ow _ ⟨k, t, x, e4, e6⟩) no
    · rw [stay j hj] at e5
      rcases slot_old e3 with ⟨rfl, x, hl⟩ | ⟨hk, x⟩
      · rw [here hl] at e6; cases e6
        exact absurd (ow _ ⟨j, s, y, e2, e5⟩) no
      · rw [stay k hk] at e6
        exact r.sep j k s t b y e2 x e4 e5 e6
/-- an owned object is let go: nobody's -/
theorem SR.letgo (r : SR S B ρ σ H O) (e : ρ[j]? = some (.own d)) (ea : σ[j]? = some (some (.ref a))) :
    SR S B (ρ.set j .no) σ H (fun b => O b ∧ b ≠ a) ∧ RpO S H O d a ∧ O a ∧ B.Z a = none ∧ ∀ b, OwnA (ρ.set j .no) σ b → O b ∧ b ≠ a := by
  obtain ⟨a', e4, o, z, q⟩ := r.own j _ d e rfl rfl
  rw [ea] at e4; cases e4
  have nb : ¬ B.O0 a := r.mine j _ a e ea
  have sep : ∀ (i : Nat) (t : SV) (b : Addr), (ρ.set j .no)[i]? = some t → t.isOwn = true → σ[i]? = some (some (.ref b)) → b ≠ a := fun i t b e1 e2 e3 z => by
    subst z
    rcases slot_old e1 with ⟨_, y, _⟩ | ⟨hi, y⟩
    · subst y; cases e2
    · exact hi (r.sep i j t _ b y e2 e rfl e3 ea)
  refine ⟨⟨r.keep, fun b h => ⟨r.sub b h, fun z => nb (z ▸ h)⟩, fun b h => r.top b h.1, ⟨r.al.1, fun b h => r.al.2 b h.1⟩, by simp [r.len], fun i f h => ?_, fun i t f e1 e2 e3 => ?_, fun i t b e1 e2 => ?_, fun i k s t b e1 e2 e3 e4 e5 e6 => ?_⟩, q, o, z, fun b ⟨i, t, e1, e2, e3⟩ => ⟨?_, sep i t b e1 e2 e3⟩⟩
  · rcases slot_old h with ⟨_, y, _⟩ | ⟨hi, y⟩
    · cases y
    · obtain ⟨v, h1, h2⟩ := r.val i f y
      exact ⟨v, h1, h2.less fun _ h => h.1⟩
  · have h1 := e1
    rcases slot_old e1 with ⟨_, y, _⟩ | ⟨hi, y⟩
    · subst y; cases e2
    · obtain ⟨b, h2, h3, h4, h5⟩ := r.own i t f y e2 e3
      exact ⟨b, h2, ⟨h3, sep i t b h1 e2 h2⟩, h4, h5.less fun _ h => h.1⟩
  · rcases slot_old e1 with ⟨_, y, _⟩ | ⟨hi, y⟩
    · subst y; trivial
    · exact r.mine i t b y e2
  · rcases slot_old e1 with ⟨_, y, _⟩ | ⟨hi, y⟩
    · subst y; cases e2
    · rcases slot_old e3 with ⟨_, x, _⟩ | ⟨hk, x⟩
      · subst x; cases e4
      · exact r.sep i k s t b y e2 x e4 e5 e6
  · rcases slot_old e1 with ⟨_, y, _⟩ | ⟨hi, y⟩
    · subst y; cases e2
    · exact r.ownO ⟨i, t, y, e2, e3⟩
/-- an owned object is changed in place -/
theorem SR.changeOwn {s : SV} {d0 d1 : D} {o : HO} (nt : ¬ isTbl o) (r : SR S B ρ σ H O) (e : ρ[i]? = some s) (eo : s.isOwn = true) (ea : σ[i]? = some (some (.ref a))) (q : ∀ H', (∀ b, b ≠ a → H' b = H b) → H' a = some o → RpO S H' O d1 a) : SR S B (ρ.set i (s.put d1)) σ (upd H a o) O := by
  obtain ⟨d0, ed⟩ := SV.dat_own eo
  obtain ⟨a', e4, oa, z, q0⟩ := r.own i s d0 e eo ed
  rw [ea] at e4; cases e4
  obtain ⟨u0, eu, nf⟩ := q0.there
  have nf : ∀ u, H a = some u → ¬ Fix u := fun u h => by rw [eu] at h; cases h; exact nf
  have ag : Agr O H (upd H a o) := agr_change oa nf
  obtain ⟨p1, p2, _⟩ := SV.put_own (d := d1) eo
  refine ⟨fun b u h => ?_, r.sub, r.top, ⟨r.al.1.but (a := a) (fun b u hb e => by rw [upd_ne hb]; exact e) (r.al.2 a oa) q0.nc, fun b h => ?_⟩, by simp [r.len], fun j f h => ?_, fun j t f e1 e2 e3 => ?_, fun j t b e1 e2 => ?_, fun j k s' t b e1 e2 e3 e4 e5 e6 => ?_⟩
  · by_cases hb : b = a
    · subst hb; rw [z] at h; cases h
    · rw [upd_ne hb]; exact r.keep b u h
  · by_cases hb : b = a
    · subst hb; exact ⟨o, upd_same, nt⟩
    · rw [upd_ne hb]; exact r.al.2 b h
  · rcases slot_old h with ⟨_, y, _⟩ | ⟨hi, y⟩
    · rw [← y] at p1; cases p1
    · obtain ⟨v, h1, h2⟩ := r.val j f y
      exact ⟨v, h1, h2.agr ag (fun _ _ _ h => h) _ _⟩
  · rcases slot_old e1 with ⟨rfl, y, _⟩ | ⟨hi, y⟩
    · subst y
      rw [p2] at e3; cases e3
      exact ⟨a, ea, oa, z, q _ (fun b hb => upd_ne hb) upd_same⟩
    · obtain ⟨b, h2, h3, h4, h5⟩ := r.own j t f y e2 e3
      have hb : b ≠ a := fun z => hi (r.sep j i t s a y e2 e eo (z ▸ h2) ea)
      exact ⟨b, h2, h3, h4, h5.agr (by rw [upd_ne hb]) ag fun _ _ _ h => h⟩
  · rcases slot_old e1 with ⟨rfl, y, _⟩ | ⟨hi, y⟩
    · subst y; exact (r.mine j s b e e2).put
    · exact r.mine j t b y e2
  · have h1 : ∃ s1, ρ[j]? = some s1 ∧ s1.isOwn = true := by
      rcases slot_old e1 with ⟨rfl, y, _⟩ | ⟨hi, y⟩
      · exact ⟨s, e, eo⟩
      · exact ⟨_, y, e2⟩
    have h2 : ∃ s1, ρ[k]? = some s1 ∧ s1.isOwn = true := by
      rcases slot_old e3 with ⟨rfl, y, _⟩ | ⟨hi, y⟩
      · exact ⟨s, e, eo⟩
      · exact ⟨_, y, e4⟩
    obtain ⟨s1, y1, z1⟩ := h1
    obtain ⟨s2, y2, z2⟩ := h2
    exact r.sep j k s1 s2 b y1 z1 y2 z2 e5 e6
end

/-! ### what a statement is to reach -/
def GS (S : Sur) (B : Bd) (D : Ends) (W : WX) (r : RS) : Prop :=
  match r with
  | .bad => False
  | .nxt ρ => ∀ σ H O, SR S B ρ σ H O → D.nx σ H
  | .ret (d, false) ρ => ∀ v σ H O, SR S B ρ σ H O → Rp S H O d v → D.rt v H
  | .ret (d, true) ρ => ∀ a σ H O, SR S B ρ σ H (orA O a) → B.Z a = none → ¬ O a → (∀ b, B.O0 b → O b) → (∀ b, OwnA ρ σ b → O b) → RpO S H (orA O a) d a → D.rt (.ref a) H
  | .err x ρ => ∀ σ cls dd H O, SR S B ρ σ H O → RpX S H O x cls dd → W cls dd σ H
section
variable {S : Sur} {O : Addr → Prop} {H : Hp} {B B' : Bd} {ρ : Env} {σ : L2.St} {D D' : Ends} {W : WX} {α β : Type}
theorem GS.up {r : RS} (g : GS S B D W r) (l : B.le B') : GS S B' D W r := by
  match r, g with
  | .nxt ρ, g => exact fun σ H O r => g σ H O (r.weak l)
  | .ret (d, false) ρ, g => exact fun v σ H O r q => g v σ H O (r.weak l) q
  | .ret (d, true) ρ, g => exact fun a σ H O r z n o w q => g a σ H O (r.weak l) (none_of l.z z) n (fun b h => o b ((l.o b).mpr h)) w q
  | .err x ρ, g => exact fun σ c dd H O r q => g σ c dd H O (r.weak l) q
theorem GS.seq {r : RS} {f : Env → RS} (g : GS S B D W (r.bind f)) (hr : D'.rt = D.rt) (k : ∀ ρ σ H O, SR S B ρ σ H O → GS S B D W (f ρ) → D'.nx σ H) : GS S B D' W r := by
  match r, g with
  | .nxt ρ, g => exact fun σ H O r => k ρ σ H O r g
  | .ret (d, false) ρ, g => unfold GS; rw [show D'.rt = D.rt from hr]; exact g
  | .ret (d, true) ρ, g => unfold GS; rw [show D'.rt = D.rt from hr]; exact g
  | .err x ρ, g => exact g
theorem GS.stepE {r : R Vl} {f : Vl → Env → RS} {Q : VK} (g : GS S B D W (r.toS f)) (h0 : ∀ b, B.O0 b → O b)
    (k : ∀ x ρ1 v H1, SR S B ρ1 σ H1 O → Rp S H1 O x.1 v → GS S B D W (f x ρ1) → Q v H1) : GE S B σ O Q W r := by
  match r, g with
  | .ok (d, fr) ρ, g => exact GE.val (fun v H r q => k (d, fr) ρ v H r q g) h0
  | .err x ρ, g => exact fun c dd H r q => g σ c dd H O r q
theorem GS.stepG {P : α → Env → Hp → β → Prop} {Q : β → Hp → Prop} {r : R α} {f : α → Env → RS} (g : GS S B D W (r.toS f))
    (k : ∀ x ρ1 b H1, SR S B ρ1 σ H1 O → P x ρ1 H1 b → GS S B D W (f x ρ1) → Q b H1) : GG S B σ O P Q W r := by
  match r, g with
  | .ok x ρ, g => exact fun b H r q => k x ρ b H r q g
  | .err x ρ, g => exact fun c dd H r q => g σ c dd H O r q
theorem GS.stepB {Q : Bool → Hp → Prop} {r : R Vl} {f : Bool → Env → RS} (g : GS S B D W (r.toSB f))
    (k : ∀ b ρ1 H1, SR S B ρ1 σ H1 O → GS S B D W (f b ρ1) → Q b H1) : GT S B σ O Q W r := by
  match r, g with
  | .ok (.bl b, fr) ρ, g => exact fun H r => k b ρ H r g
  | .err x ρ, g => exact fun c dd H r q => g σ c dd H O r q
end

/-! ### the readings -/
def twS (X : Cx) (st : Stmt) : TS := fun D σ H => ∀ pins s, Inv X pins σ H s → wpAny (model X.prog X.w) X.A (exec st X.env) (SP X pins D) X.xe s
def twSs (X : Cx) (sts : List Stmt) : TS := fun D σ H => ∀ pins s, Inv X pins σ H s → wpAny (model X.prog X.w) X.A (execs sts X.env) (SP X pins D) X.xe s
theorem ps_tw {X : Cx} {st : Stmt} : PS X st (twS X st) := ⟨fun pins s σ H D I h => h pins s I⟩
theorem pss_tw {X : Cx} {st : List Stmt} : PSs X st (twSs X st) := ⟨fun pins s σ H D I h => h pins s I⟩
theorem of_ps {X : Cx} {st : Stmt} {t : TS} {D : Ends} {σ : L2.St} {H : Hp} (p : PS X st t) (h : t D σ H) : twS X st D σ H := fun pins s I => p.run pins s σ H D I h
theorem of_pss {X : Cx} {st : List Stmt} {t : TS} {D : Ends} {σ : L2.St} {H : Hp} (p : PSs X st t) (h : t D σ H) : twSs X st D σ H := fun pins s I => p.run pins s σ H D I h

/-- a def's body's surroundings -/
structure XDS (Γ : Ctr) (N : List Str) (sc : Scope) (X : Cx) : Prop where
  ok : XOK Γ N sc X
  fn : ∀ y, X.fn y = true
  kd : sc.kind = .function
  st : X.stack = X.env :: X.outer
  fr : X.env.frame = some X.env.locals
  po : PassesOwn (model X.prog X.w) X.A X.env X.xe
def OkS (Γ : Ctr) (F : Nat) (N : List Str) (sc : Scope) (st : Stmt) (t : St) : Prop :=
  ∀ X, XDS Γ N sc X → ∀ B ρ σ H O D W, SR (sur X) B ρ σ H O → TakesB Γ B.tb X W → GS (sur X) B D W (evalS Γ F t ρ) → twS X st D σ H
def OkSs (Γ : Ctr) (F : Nat) (N : List Str) (sc : Scope) (st : List Stmt) (t : List St) : Prop :=
  ∀ X, XDS Γ N sc X → ∀ B ρ σ H O D W, SR (sur X) B ρ σ H O → TakesB Γ B.tb X W → GS (sur X) B D W (evalSs Γ F t ρ) → twSs X st D σ H

section
variable {Γ : Ctr} {F : Nat} {N : List Str} {sc : Scope}
theorem oks_nil : OkSs Γ F N sc [] [] := by
  intro X x B ρ σ H O D W r tk g
  simp only [evalSs] at g
  exact of_pss pss_nil (g σ H O r)
theorem oks_cons {st : Stmt} {sts : List Stmt} {t : St} {ts : List St} (h1 : OkS Γ F N sc st t) (h2 : OkSs Γ F N sc sts ts) : OkSs Γ F N sc (st :: sts) (t :: ts) := by
  intro X x B ρ σ H O D W r tk g
  simp only [evalSs] at g
  refine of_pss (pss_cons ps_tw pss_tw) ?_
  exact h1 X x B ρ σ H O _ W r tk (g.seq rfl fun ρ1 σ1 H1 O1 r1 g1 => h2 X x B ρ1 σ1 H1 O1 D W r1 tk g1)

/-! ### names stored -/
def noComp : Expr → Bool
  | .ListComp _ _ _ _ => false
  | .SetComp _ _ _ _ => false
  | .DictComp _ _ _ _ _ => false
  | _ => true
theorem swaps_no {e : Expr} {t : Option Expr} {l : Nat} {env : PySem.Env} (h : noComp e = true) : swapsWith e t l env = pure false := by
  cases e <;> first | rfl | cases h
def notTup : Expr → Bool
  | .Tuple _ _ _ => false
  | _ => true
theorem stores_no {tg e : Expr} {env : PySem.Env} (h : notTup e = true) : swappedStores [tg] e env = pure none := by
  cases e <;> first | cases h | skip
  all_goals cases tg <;> rfl
theorem GS.set {S : Sur} {B : Bd} {D : Ends} {W : WX} {i : Nat} {d : W2.D} {ρ : Env} {σ : L2.St} {H : Hp} {O : Addr → Prop} {v : V} (g : GS S B D W (setS i (.val d) ρ)) (r : SR S B ρ σ H O) (q : Rp S H O d v) : D.nx (σ.set i (some v)) H := by
  unfold setS at g
  split at g
  · exact False.elim g
  · exact g _ H O (r.set q)
  · exact False.elim g
theorem GS.own {S : Sur} {B : Bd} {D : Ends} {W : WX} {i : Nat} {r : R Vl} {σ : L2.St} {O : Addr → Prop} (g : GS S B D W (r.toS fun x ρ => if x.2 then setS i (.own x.1) ρ else .bad)) (h0 : ∀ b, B.O0 b → O b) :
    GE S B σ O (fun v H => D.nx (σ.set i (some v)) H) W r := by
  match r, g with
  | .ok (d, true) ρ, g =>
    intro a H r z no ow q
    simp only [R.toS_ok, if_pos, setS] at g
    split at g
    · exact False.elim g
    · exact g _ H _ (r.setOwn z no h0 ow q)
    · exact False.elim g
  | .ok (d, false) ρ, g => exact False.elim g
  | .err x ρ, g => exact fun c dd H r q => g σ c dd H O r q
theorem st_set' {i : Nat} {y : Str} {py pos : Pos} {e : Expr} {t : E} (hN : N[i]? = some y) (hl : Loc sc y) (h : OkE Γ N sc e t) (hc : noComp e = true) : OkS Γ F N sc (.Assign [.Name y py] e pos) (.set i t) := by
  intro X x B ρ σ H O D W r tk g
  refine of_ps (ps_set (i := i) (by rw [x.ok.n]; exact x.ok.nd) (by rw [x.ok.n]; exact hN) (by rw [x.ok.sc]; exact hl) pe_tw (swaps_no hc) (.inl (x.fn y))) ?_
  simp only [evalS] at g
  exact h X x.ok B ρ σ H O _ W r tk (g.stepE r.sub fun u ρ1 v H1 r1 q1 g1 => g1.set r1 q1)
theorem st_own {i : Nat} {y : Str} {py pos : Pos} {e : Expr} {t : E} (hN : N[i]? = some y) (hl : Loc sc y) (h : OkE Γ N sc e t) (hc : noComp e = true) : OkS Γ F N sc (.Assign [.Name y py] e pos) (.own i t) := by
  intro X x B ρ σ H O D W r tk g
  refine of_ps (ps_set (i := i) (by rw [x.ok.n]; exact x.ok.nd) (by rw [x.ok.n]; exact hN) (by rw [x.ok.sc]; exact hl) pe_tw (swaps_no hc) (.inl (x.fn y))) ?_
  simp only [evalS] at g
  exact h X x.ok B ρ σ H O _ W r tk (g.own r.sub)
theorem st_mov {i j : Nat} {y z : Str} {py pz pos : Pos} (hN : N[i]? = some y) (hl : Loc sc y) (hN' : N[j]? = some z) (hv : Vis sc z) (hd : (z == ("__debug__" : Str)) = false) (hcd : (z == ("__classdict__" : Str)) = false) : OkS Γ F N sc (.Assign [.Name y py] (.Name z pz) pos) (.mov i j) := by
  intro X x B ρ σ H O D W r tk g
  refine of_ps (ps_set (i := i) (by rw [x.ok.n]; exact x.ok.nd) (by rw [x.ok.n]; exact hN) (by rw [x.ok.sc]; exact hl) (pe_var (i := j) (by rw [x.ok.n]; exact hN') (by rw [x.ok.sc]; exact hv) hd hcd) (swaps_no rfl) (.inl (x.fn y))) ?_
  simp only [evalS] at g
  split at g
  · rename_i d e
    split at g
    · exact False.elim g
    · rename_i hij
      obtain ⟨a, e4, _, _, q⟩ := r.own j _ d e rfl rfl
      obtain ⟨r', q', o, z', ow⟩ := r.letgo e e4
      exact ⟨_, e4, g.set r' (q'.rp (fun _ h => h.1) fun h => h.2 rfl)⟩
  · exact False.elim g
theorem st_tgt {tg e : Expr} {t : E} {tt : Tg} {pos : Pos} (h : OkE Γ N sc e t) (hg : ∀ X, XDS Γ N sc X → OkG X tg tt) (hc : noComp e = true) (hn : notTup e = true) (hs : noStar tg = true) : OkS Γ F N sc (.Assign [tg] e pos) (.tgt tt t) := by
  intro X x B ρ σ H O D W r tk g
  refine of_ps (ps_asg pe_tw pg_tw (swaps_no hc) (stores_no hn) (by rw [each_one hs]; rfl)) ?_
  simp only [evalS] at g
  refine h X x.ok B ρ σ H O _ W r tk (g.stepE r.sub fun u ρ1 v H1 r1 q1 g1 => ?_)
  split at g1
  · rename_i ρ2 hb
    exact hg X x B ρ1 ρ2 σ H1 O u.1 v _ r1 q1 hb fun σ' r' _ => g1 σ' H1 O r'
  · exact False.elim g1
theorem SR.shut {S : Sur} {B : Bd} {σ : L2.St} {H : Hp} : ∀ {is : List Nat} {ρ ρ' : Env} {O : Addr → Prop}, SR S B ρ σ H O → shutE is ρ = some ρ' → ∃ O', SR S B ρ' σ H O'
  | [], ρ, ρ', O, r, h => by
    simp only [shutE, Option.some.injEq] at h
    subst h
    exact ⟨O, r⟩
  | i :: is, ρ, ρ', O, r, h => by
    simp only [shutE] at h
    split at h
    · rename_i d e
      obtain ⟨a, e4, _, _, _⟩ := r.own i _ d e rfl rfl
      obtain ⟨r', q', _, _, _⟩ := r.letgo e e4
      have r2 := r'.set (i := i) (q'.rp (O' := fun b => O b ∧ b ≠ a) (fun _ h => h.1) fun h => h.2 rfl)
      rw [List.set_set] at r2
      have es : σ.set i (some (V.ref a)) = σ := by
        apply List.ext_getElem?
        intro j
        by_cases hj : j = i
        · subst hj
          rw [List.getElem?_set_self (List.getElem?_eq_some_iff.mp e4).1, e4]
        · rw [List.getElem?_set_ne (Ne.symm hj)]
      rw [es] at r2
      exact SR.shut r2 h
    · cases h
theorem st_shut {st : Stmt} {t : St} {is : List Nat} (h : OkS Γ F N sc st t) : OkS Γ F N sc st (.shut is t) := by
  intro X x B ρ σ H O D W r tk g
  simp only [evalS] at g
  split at g
  · rename_i ρ' e
    obtain ⟨O', r'⟩ := r.shut e
    exact h X x B ρ' σ H O' D W r' tk g
  · exact False.elim g
end
end W2

/-! Statements: lists changed, loops, ends. -/
namespace W2
open PySem L2
section
variable {Γ : Ctr} {F : Nat} {N : List Str} {sc : Scope}
/-! ### several names at once -/
def setV (σ : L2.St) : List Nat → List V → L2.St
  | i :: is, v :: vs => setV (σ.set i (some v)) is vs
  | _, _ => σ
theorem GS.par {S : Sur} {B : Bd} {D : Ends} {W : WX} {H : Hp} {O : Addr → Prop} : ∀ {is : List Nat} {ds : List W2.D} {vs : List V} {ρ : Env} {σ : L2.St}, GS S B D W (parS is ds ρ) → SR S B ρ σ H O → RpL S H O ds vs → D.nx (setV σ is vs) H
  | [], [], _, ρ, σ, g, r, .nil => g σ H O r
  | i :: is, d :: ds, _, ρ, σ, g, r, .cons q t => by
    simp only [parS, setS] at g
    simp only [setV]
    split at g
    · exact False.elim g
    · exact GS.par g (r.set q) t
    · exact False.elim g
def isStar : Expr → Bool
  | .Starred _ _ => true
  | _ => false
theorem star1 {e : Expr} (h : noStar e = true) : isStar e = false := by cases e <;> first | rfl | cases h
theorem swapped2 {env : PySem.Env} {x y : Str} {px py pt pt2 : Pos} {kt k2 : Nat} {a b : Expr} (he : env.scope = sc) (hk : sc.kind = .function) (hx : sc.names.lookup x = some .local) (hy : sc.names.lookup y = some .local) (hxy : (x == y) = false) (hl : px.line = py.line)
    (h1 : noStar a = true) (h2 : noStar b = true) (hf : [a, b].all (foldedForSure 8) = false) (hc : [a, b].all (constantsAlone 8) = false) : swappedStores [.Tuple [.Name x px, .Name y py] kt pt] (.Tuple [a, b] k2 pt2) env = pure (some [x, y]) := by
  have kx : env.kindOf x = some .local := by unfold Env.kindOf; rw [he]; exact hx
  have ky : env.kindOf y = some .local := by unfold Env.kindOf; rw [he]; exact hy
  have hb : env.blockKind = .function := by unfold Env.blockKind; rw [he, hk]; rfl
  have hs : [a, b].any isStar = false := by rw [List.any_cons, List.any_cons, List.any_nil, star1 h1, star1 h2]; rfl
  have hd : [x, y].eraseDups.length = 2 := by
    have hxy' : ¬ y = x := fun z => by rw [z] at hxy; simp at hxy
    simp [List.eraseDups_cons, hxy']
  unfold swappedStores
  simp only [List.length_cons, List.length_nil, hb, hs, hf, hc, Expr.pos, List.head?_cons, Option.map_some, Option.getD_some, List.filterMap_cons, List.filterMap_nil, kx, ky, hl, hd]

  rw [if_neg (by decide)]
  refine (if_neg (fun z => absurd (hs.symm.trans z) (by decide))).trans ?_
  have kk : (some NameKind.local == some NameKind.local) = true := by decide
  simp only [kk, beq_self_eq_true, Bool.and_self, if_true, List.length_cons, List.length_nil, hd]
  rfl
theorem swapped3 {env : PySem.Env} {x y z : Str} {px py pz pt pt2 : Pos} {kt k2 : Nat} {a b c : Expr} (he : env.scope = sc) (hk : sc.kind = .function) (hx : sc.names.lookup x = some .local) (hy : sc.names.lookup y = some .local) (hz : sc.names.lookup z = some .local) (hxy : (x == y) = false) (hxz : (x == z) = false) (hyz : (y == z) = false) (hl : px.line = py.line) (hl' : px.line = pz.line)
    (h1 : noStar a = true) (h2 : noStar b = true) (h3 : noStar c = true) (hf : [a, b, c].all (foldedForSure 8) = false) (hc : [a, b, c].all (constantsAlone 8) = false) : swappedStores [.Tuple [.Name x px, .Name y py, .Name z pz] kt pt] (.Tuple [a, b, c] k2 pt2) env = pure (some [x, y, z]) := by
  have kx : env.kindOf x = some .local := by unfold Env.kindOf; rw [he]; exact hx
  have ky : env.kindOf y = some .local := by unfold Env.kindOf; rw [he]; exact hy
  have kz : env.kindOf z = some .local := by unfold Env.kindOf; rw [he]; exact hz
  have hb : env.blockKind = .function := by unfold Env.blockKind; rw [he, hk]; rfl
  have hs : [a, b, c].any isStar = false := by rw [List.any_cons, List.any_cons, List.any_cons, List.any_nil, star1 h1, star1 h2, star1 h3]; rfl
  have hd : [x, y, z].eraseDups.length = 3 := by
    have hxy' : ¬ y = x := fun w => by rw [w] at hxy; simp at hxy
    have hxz' : ¬ z = x := fun w => by rw [w] at hxz; simp at hxz
    have hyz' : ¬ z = y := fun w => by rw [w] at hyz; simp at hyz
    simp [List.eraseDups_cons, hxy', hxz', hyz']
  unfold swappedStores
  simp only [List.length_cons, List.length_nil, hb, hs, hf, hc, Expr.pos, List.head?_cons, Option.map_some, Option.getD_some, List.filterMap_cons, List.filterMap_nil, kx, ky, kz, hl, ← hl', hd]

  rw [if_neg (by decide)]
  refine (if_neg (fun z => absurd (hs.symm.trans z) (by decide))).trans ?_
  have kk : (some NameKind.local == some NameKind.local) = true := by decide
  simp only [kk, beq_self_eq_true, Bool.and_self, if_true, List.length_cons, List.length_nil, hd]
  rfl
theorem st_par2 {i j : Nat} {x y : Str} {a b : Expr} {s t : E} {px py pt : Pos} {kt k2 pt2 pos} (hi : N[i]? = some x) (hj : N[j]? = some y) (hij : i ≠ j) (hx : sc.names.lookup x = some .local) (hy : sc.names.lookup y = some .local)
    (hxy : (x == y) = false) (hl : px.line = py.line) (h1 : noStar a = true) (h2 : noStar b = true) (hf : [a, b].all (foldedForSure 8) = false) (hc : [a, b].all (constantsAlone 8) = false) (h : OkL Γ N sc [a, b] [s, t]) :
    OkS Γ F N sc (.Assign [.Tuple [.Name x px, .Name y py] kt pt] (.Tuple [a, b] k2 pt2) pos) (.par [i, j] [s, t]) := by
  intro X k B ρ σ H O D W r tk g
  refine of_ps (ps_par k.ok.calm (by rw [k.ok.n]; exact k.ok.nd) (by rw [k.ok.n]; exact hi) (by rw [k.ok.n]; exact hj) hij (by rw [k.ok.sc]; exact hx) (by rw [k.ok.sc]; exact hy) pa_tw (swapped2 k.ok.sc k.kd hx hy hxy hl h1 h2 hf hc)) ?_
  simp only [evalS] at g
  refine h X k.ok B ρ σ H O _ W r tk (g.stepG (P := PL (sur X) O) fun ds ρ1 vs H1 r1 q1 g1 => ?_)
  have g2 := g1.par r1 q1
  match ds, vs, q1, g1, g2 with
  | [_, _], [_, _], .cons _ (.cons _ .nil), g1, g2 => exact ⟨_, _, rfl, g2⟩
  | [], [], .nil, g1, g2 => exact False.elim g1
  | [_], [_], .cons _ .nil, g1, g2 =>
    simp only [parS, setS] at g1
    split at g1 <;> exact False.elim g1
  | _ :: _ :: _ :: _, _ :: _ :: _ :: _, .cons _ (.cons _ (.cons _ _)), g1, g2 =>
    simp only [parS, setS] at g1
    split at g1
    · exact False.elim g1
    · simp only [RS.bind_nxt] at g1
      split at g1 <;> exact False.elim g1
    · exact False.elim g1
theorem evalL_len : ∀ {ts : List E} {ρ ρ' : Env} {ds : List W2.D}, evalL Γ ts ρ = .ok ds ρ' → ds.length = ts.length
  | [], ρ, ρ', ds, h => by simp [evalL] at h; simp [h.1]
  | t :: ts, ρ, ρ', ds, h => by
    simp only [evalL] at h
    cases e : evalE Γ t ρ with
    | ok x ρ1 =>
      rw [e] at h
      simp only [R.bind_ok] at h
      cases e2 : evalL Γ ts ρ1 with
      | ok xs ρ2 =>
        rw [e2] at h
        simp only [R.bind_ok, R.ok.injEq] at h
        rw [← h.1]
        simp [evalL_len e2]
      | bad => rw [e2] at h; cases h
      | err _ _ => rw [e2] at h; cases h
    | bad => rw [e] at h; cases h
    | err _ _ => rw [e] at h; cases h
theorem GS.stepL {S : Sur} {B : Bd} {D : Ends} {W : WX} {σ : L2.St} {O : Addr → Prop} {P : List W2.D → Env → Hp → List V → Prop} {Q : List V → Hp → Prop} {ts : List E} {ρ : Env} {f : List W2.D → Env → RS} (g : GS S B D W ((evalL Γ ts ρ).toS f))
    (k : ∀ x ρ1 b H1, x.length = ts.length → SR S B ρ1 σ H1 O → P x ρ1 H1 b → GS S B D W (f x ρ1) → Q b H1) : GG S B σ O P Q W (evalL Γ ts ρ) := by
  cases e : evalL Γ ts ρ with
  | ok x ρ' => rw [e] at g; exact fun b H r q => k x ρ' b H (evalL_len e) r q g
  | err x ρ' => rw [e] at g; exact fun c dd H r q => g σ c dd H O r q
  | bad => rw [e] at g; exact g
theorem st_par3 {i j l : Nat} {x y z : Str} {a b c : Expr} {s t u : E} {px py pz pt : Pos} {kt k2 pt2 pos} (hi : N[i]? = some x) (hj : N[j]? = some y) (hk : N[l]? = some z) (hij : i ≠ j) (hil : i ≠ l) (hjl : j ≠ l) (hx : sc.names.lookup x = some .local) (hy : sc.names.lookup y = some .local) (hz : sc.names.lookup z = some .local)
    (hxy : (x == y) = false) (hxz : (x == z) = false) (hyz : (y == z) = false) (hl : px.line = py.line) (hl' : px.line = pz.line) (h1 : noStar a = true) (h2 : noStar b = true) (h3 : noStar c = true) (hf : [a, b, c].all (foldedForSure 8) = false) (hc : [a, b, c].all (constantsAlone 8) = false) (h : OkL Γ N sc [a, b, c] [s, t, u]) :
    OkS Γ F N sc (.Assign [.Tuple [.Name x px, .Name y py, .Name z pz] kt pt] (.Tuple [a, b, c] k2 pt2) pos) (.par [i, j, l] [s, t, u]) := by
  intro X k B ρ σ H O D W r tk g
  refine of_ps (ps_par3 k.ok.calm (by rw [k.ok.n]; exact k.ok.nd) (by rw [k.ok.n]; exact hi) (by rw [k.ok.n]; exact hj) (by rw [k.ok.n]; exact hk) hij hil hjl (by rw [k.ok.sc]; exact hx) (by rw [k.ok.sc]; exact hy) (by rw [k.ok.sc]; exact hz) pa_tw (swapped3 k.ok.sc k.kd hx hy hz hxy hxz hyz hl hl' h1 h2 h3 hf hc)) ?_
  simp only [evalS] at g
  refine h X k.ok B ρ σ H O _ W r tk (g.stepL (P := PL (sur X) O) fun ds ρ1 vs H1 hlen r1 q1 g1 => ?_)
  have g2 := g1.par r1 q1
  match ds, vs, q1, hlen, g2 with
  | [_, _, _], [_, _, _], .cons _ (.cons _ (.cons _ .nil)), _, g2 => exact ⟨_, _, _, rfl, g2⟩

/-- a tuple display into a tuple of names, where nothing is swapped: another number of them than two or three, or all constants -/
def noSwap (ts vs : List Expr) : Bool := !(ts.length == 2 || ts.length == 3) || (vs.length == ts.length && (!(vs.any isStar) && vs.all (foldedForSure 8)))
theorem stores_none {ts vs : List Expr} {k k2 : Nat} {p p2 : Pos} {env : PySem.Env} (h : noSwap ts vs = true) : swappedStores [.Tuple ts k p] (.Tuple vs k2 p2) env = pure none := by
  unfold noSwap at h
  rw [Bool.or_eq_true] at h
  unfold swappedStores
  rcases h with h | h
  · simp only [h, Bool.true_or, if_true]
  · simp only [Bool.and_eq_true, Bool.not_eq_true'] at h
    obtain ⟨h1, h2, h3⟩ := h
    simp only
    split
    · rfl
    · refine (if_neg (fun z => absurd (h2.symm.trans z) (by decide))).trans ?_
      repeat (first | rfl | exact if_pos h3 | split)
theorem st_tgt2 {ts vs : List Expr} {k k2 : Nat} {p p2 : Pos} {t : E} {tt : Tg} {pos : Pos} (h : OkE Γ N sc (.Tuple vs k2 p2) t) (hg : ∀ X, XDS Γ N sc X → OkG X (.Tuple ts k p) tt) (hn : noSwap ts vs = true) : OkS Γ F N sc (.Assign [.Tuple ts k p] (.Tuple vs k2 p2) pos) (.tgt tt t) := by
  intro X x B ρ σ H O D W r tk g
  refine of_ps (ps_asg pe_tw pg_tw rfl (stores_none hn) (by rw [each_one rfl]; rfl)) ?_
  simp only [evalS] at g
  refine h X x.ok B ρ σ H O _ W r tk (g.stepE r.sub fun u ρ1 v H1 r1 q1 g1 => ?_)
  split at g1
  · rename_i ρ2 hb
    exact hg X x B ρ1 ρ2 σ H1 O u.1 v _ r1 q1 hb fun σ' r' _ => g1 σ' H1 O r'
  · exact False.elim g1

/-! ### expressions dropped, lists changed -/
theorem st_expr {e : Expr} {t : E} {pos : Pos} (h : OkE Γ N sc e t) (hc : noComp e = true) : OkS Γ F N sc (.Expr e pos) (.expr t) := by
  intro X x B ρ σ H O D W r tk g
  refine of_ps (ps_expr pe_tw (swaps_no hc)) ?_
  simp only [evalS] at g
  exact h X x.ok B ρ σ H O _ W r tk (g.stepE r.sub fun u ρ1 v H1 r1 q1 g1 => g1 σ H1 O r1)
theorem ownAt_get {ρ : Env} {i : Nat} (h : ownAt ρ i = true) : ∃ s, ρ[i]? = some s ∧ s.isOwn = true := by
  unfold ownAt at h
  split at h
  · rename_i s e; exact ⟨s, e, h⟩
  · cases h
theorem SR.lst_at {S : Sur} {B : Bd} {ρ : Env} {σ : L2.St} {H : Hp} {O : Addr → Prop} {i : Nat} {s : SV} {ds : List W2.D} (r : SR S B ρ σ H O) (e : ρ[i]? = some s) (ho : s.isOwn = true) (hd : s.dat = some (.lst ds)) : ∃ a xs, σ[i]? = some (some (.ref a)) ∧ O a ∧ H a = some (.lst xs) ∧ RpL S H O ds xs := by
  obtain ⟨a, e4, o, z, q⟩ := r.own i s _ e ho hd
  cases q with
  | lst h1 h2 => exact ⟨a, _, e4, o, h1, h2⟩
theorem SR.putL {S : Sur} {B : Bd} {ρ : Env} {σ : L2.St} {H : Hp} {O : Addr → Prop} {i : Nat} {s : SV} {es : List W2.D} {ys : List V} {a : Addr} (r : SR S B ρ σ H O) (e : ρ[i]? = some s) (ho : s.isOwn = true) (ea : σ[i]? = some (some (.ref a))) (q : RpL S H O es ys) :
    SR S B (ρ.set i (s.put (.lst es))) σ (upd H a (.lst ys)) O := by
  obtain ⟨d0, ed⟩ := SV.dat_own ho
  obtain ⟨a', e4, oa, z, q0⟩ := r.own i s d0 e ho ed
  rw [ea] at e4; cases e4
  obtain ⟨u0, eu, nf⟩ := q0.there
  refine SR.changeOwn (d0 := d0) id r e ho ea fun H' h1 h2 => .lst h2 (q.agr (fun b u eb h _ => ?_) (fun _ _ _ h => h) _ _)
  by_cases hb : b = a
  · subst hb
    rw [eu] at eb; cases eb
    rcases h with h | h
    · exact absurd h nf
    · exact absurd oa h
  · rw [h1 b hb]; exact eb
theorem GS.bad {S : Sur} {B : Bd} {D : Ends} {W : WX} (g : GS S B D W .bad) : False := g
theorem st_app {i : Nat} {y : Str} {e : Expr} {t : E} {p apos cpos pos : Pos} (hN : N[i]? = some y) (hv : Vis sc y) (hd : (y == ("__debug__" : Str)) = false) (hcd : (y == ("__classdict__" : Str)) = false) (h : OkE Γ N sc e t) (hs : noStar e = true) (hl : (apos.endLine == cpos.line) = true) :
    OkS Γ F N sc (.Expr (.Call (.Attribute (.Name y p) "append" apos) [e] [] cpos) pos) (.app i t) := by
  intro X x B ρ σ H O D W r tk g
  refine of_ps (ps_expr (pe_bm PySem.F.plainAttrs_list PySem.F.slot_list_append PySem.F.type_list_append mt_append (pe_var (i := i) (by rw [x.ok.n]; exact hN) (by rw [x.ok.sc]; exact hv) hd hcd) (pa_cons pe_tw pa_nil (star_one hs)) rfl (by rw [star_one hs]; rfl) hl (star_one hs) rfl) (swaps_no rfl)) ?_
  simp only [evalS] at g
  split at g
  · rename_i ds0 e1
    obtain ⟨a, xs0, ea, oa, h0, _⟩ := r.lst_at e1 rfl rfl
    refine ⟨.ref a, ea, .inl ⟨rfl, xs0, SqL.of h0⟩, ?_⟩
    refine h X x.ok B ρ σ H O _ W r tk (g.stepE r.sub fun u ρ1 v H1 r1 q1 g1 => ?_)
    split at g1
    · rename_i ds e2
      split at g1
      · rename_i hlim
        obtain ⟨a', xs, ea', oa', h1, la⟩ := r1.lst_at e2 rfl rfl
        rw [ea] at ea'; cases ea'
        refine ⟨a, xs, v, rfl, rfl, h1, ?_, ?_⟩
        · rw [← la.length]; exact Nat.lt_of_lt_of_le hlim (by decide)
        · exact g1 σ _ O (r1.putL e2 rfl ea (la.snoc q1))
      · exact False.elim g1
    · exact False.elim g1
  · exact False.elim g
theorem stores_sub {o i e : Expr} {p : Pos} {env : PySem.Env} : swappedStores [.Subscript o i p] e env = pure none := by
  cases e <;> rfl
theorem st_put {i : Nat} {y : Str} {k e : Expr} {tk' t : E} {p p1 pos : Pos} (hN : N[i]? = some y) (hv : Vis sc y) (hd : (y == ("__debug__" : Str)) = false) (hcd : (y == ("__classdict__" : Str)) = false) (h : OkE Γ N sc e t) (hk : OkE Γ N sc k tk') (hc : noComp e = true) (hns : notSlice k = true) :
    OkS Γ F N sc (.Assign [.Subscript (.Name y p) k p1] e pos) (.put i tk' t) := by
  intro X x B ρ σ H O D W r tk g
  refine of_ps (ps_asg pe_tw (pg_sub (pe_var (i := i) (by rw [x.ok.n]; exact hN) (by rw [x.ok.sc]; exact hv) hd hcd) pe_tw set_list (by
    intro v
    cases k <;> first | rfl | cases hns)) (by cases e <;> first | rfl | cases hc) stores_sub) ?_
  simp only [evalS] at g
  refine h X x.ok B ρ σ H O _ W r tk (g.stepE r.sub fun u ρ1 v H1 r1 q1 g1 => ?_)
  split at g1
  · rename_i ho
    obtain ⟨s, e1, e2⟩ := ownAt_get ho
    obtain ⟨d0, ed⟩ := SV.dat_own e2
    obtain ⟨a, ea, oa, za, qa⟩ := r1.own i s d0 e1 e2 ed
    refine ⟨.ref a, ea, ?_⟩
    refine hk X x.ok _ ρ1 σ H1 O _ W r1.stab tk ((g1.up r1.up).stepE r1.sub fun w ρ2 z H2 r2 q2 g2 => ?_)
    have q1' := r1.carry r2.keep q1
    have go : ∀ (s : SV) (ds : List W2.D) (j : Nat), ρ2[i]? = some s → s.isOwn = true → s.dat = some (.lst ds) → ixD' ds.length w.1 = some j → GS (sur X) (bdAt B ρ1 σ H1 O) D W (.nxt (ρ2.set i (s.put (.lst (ds.set j u.1))))) → rSetL (.ref a) z v H2 (fun H3 => D.nx σ H3) := by
      intro s ds j f1 f2 f3 f4 g3
      obtain ⟨a', xs, ea', oa', h1, la⟩ := r2.lst_at f1 f2 f3
      rw [ea] at ea'; cases ea'
      cases ew : w.1 with
      | int n =>
        rw [ew] at q2 f4
        cases q2
        refine ⟨a, xs, n, j, rfl, rfl, h1, by rw [← la.length]; exact f4, ?_⟩
        exact g3 σ _ O (r2.putL f1 f2 ea (la.set j q1'))
      | _ => rw [ew] at f4; simp [ixD'] at f4
    split at g2
    · rename_i ds f1
      split at g2
      · rename_i j f4
        exact go _ ds j f1 rfl rfl f4 g2
      · exact False.elim g2
    · rename_i ds f1
      split at g2
      · rename_i j f4
        exact go _ ds j f1 rfl rfl f4 g2
      · exact False.elim g2
    · exact False.elim g2
  · exact False.elim g1

/-! ### branches, loops -/
theorem st_ife {c : Expr} {a b : List Stmt} {tc : E} {ta tb : List St} {pos : Pos} (hc : OkT Γ N sc c tc) (ha : OkSs Γ F N sc a ta) (hb : OkSs Γ F N sc b tb) : OkS Γ F N sc (.If c a b pos) (.ife tc ta tb) := by
  intro X x B ρ σ H O D W r tk g
  refine of_ps (ps_if pt_tw pss_tw pss_tw) ?_
  simp only [evalS] at g
  refine hc X x.ok B ρ σ H O _ W r tk (g.stepB fun b ρ1 H1 r1 g1 => ?_)
  cases b with
  | true =>
    rw [if_pos rfl]
    exact ha X x B ρ1 σ H1 O D W r1 tk g1
  | false =>
    rw [if_neg Bool.false_ne_true]
    exact hb X x B ρ1 σ H1 O D W r1 tk g1
theorem st_whl {c : Expr} {b : List Stmt} {tc : E} {tb : List St} {pos : Pos} (hc : OkT Γ N sc c tc) (hb : OkSs Γ F N sc b tb) : OkS Γ F N sc (.While c b [] pos) (.whl tc tb) := by
  intro X x B ρ σ H O D W r tk g
  refine of_ps (ps_while x.po pt_tw pss_tw) ?_
  simp only [evalS] at g
  refine ⟨fun m σ H => ∃ ρ O, SR (sur X) B ρ σ H O ∧ GS (sur X) B D W (whlL (evalE Γ tc) (evalSs Γ F tb) m ρ), ⟨F, ρ, O, r, g⟩, ?_⟩
  rintro m σ H ⟨ρ, O, r, g⟩
  cases m with
  | zero => exact False.elim g
  | succ m =>
    simp only [whlL] at g
    refine hc X x.ok B ρ σ H O _ W r tk (g.stepB fun b ρ1 H1 r1 g1 => ?_)
    cases b with
    | true =>
      rw [if_pos rfl]
      refine ⟨_, fun σ' H' h => h, ?_⟩
      refine hb X x B ρ1 σ H1 O _ W r1 tk (g1.seq rfl fun ρ2 σ2 H2 O2 r2 g2 => ?_)
      exact ⟨m, Nat.lt_succ_self m, ρ2, O2, r2, g2⟩
    | false =>
      rw [if_neg Bool.false_ne_true]
      exact g1 σ H1 O r1
theorem st_for {tg iter : Expr} {b : List Stmt} {ti : E} {tt : Tg} {tb : List St} {pos : Pos} (hi : OkI Γ N sc tg iter ti) (hg : ∀ X, XDS Γ N sc X → OkG X tg tt) (hb : OkSs Γ F N sc b tb) (hs : ∀ env x, foldedSetIterable iter env x = pure x) : OkS Γ F N sc (.For tg iter b [] pos) (.for_ tt ti tb) := by
  intro X x B ρ σ H O D W r tk g
  refine of_ps (ps_for x.po x.ok.calm pi_tw pg_tw pss_tw fun y => hs X.env y) ?_
  simp only [evalS] at g
  refine hi X x.ok B ρ σ H O _ W r tk (g.stepG (P := fun ds ρ H J => IRep (sur X) (stb B.tb ρ σ H) O ds J) fun ds ρ1 J H1 r1 ir g1 => ?_)
  refine ⟨fun i m σ' H' => m = ds.length - i ∧ i ≤ ds.length ∧ ∃ ρ' O', SR (sur X) (bdAt B ρ1 σ H1 O) ρ' σ' H' O' ∧ GS (sur X) (bdAt B ρ1 σ H1 O) D W (forL (evalSs Γ F tb) tt (ds.drop i) ρ'), ⟨ds.length, by simp, Nat.zero_le _, ρ1, O, r1.stab, g1.up r1.up⟩, ?_⟩
  rintro i m σ' H' ⟨rfl, hle, ρ', O', r', g'⟩
  obtain ⟨items, stop⟩ := ir H' O' r'.keep fun a h => r'.top a h
  by_cases hlt : i < ds.length
  · refine .inr ?_
    obtain ⟨d, hd⟩ : ∃ d, ds[i]? = some d := ⟨ds[i], by simp [hlt]⟩
    have hdrop : ds.drop i = d :: ds.drop (i + 1) := by
      rw [List.drop_eq_getElem_cons hlt]
      have := List.getElem?_eq_getElem hlt
      rw [hd] at this
      rw [← Option.some.inj this]
    rw [hdrop] at g'
    simp only [forL] at g'
    obtain ⟨go, yl⟩ := items i d hd
    refine ⟨go, _, fun σ'' H'' h => h, fun v H2 hy => ?_⟩
    obtain ⟨s2, qv⟩ := yl v H2 hy
    split at g'
    · rename_i ρ2 hbd
      refine hg X x _ ρ' ρ2 σ' H2 O' d v _ (r'.same s2) qv hbd fun σ2 r2 _ => ?_
      refine hb X x _ ρ2 σ2 H2 O' _ W r2 tk (g'.seq rfl fun ρ3 σ3 H3 O3 r3 g3 => ?_)
      exact ⟨ds.length - (i + 1), by omega, rfl, by omega, ρ3, O3, r3, g3⟩
    · exact False.elim g'
  · refine .inl ⟨?_, ?_⟩
    · have e : i = ds.length := by omega
      rw [e]; exact stop
    · rw [List.drop_eq_nil_of_le (by omega)] at g'
      exact g' σ' H' O' r'

/-! ### ends -/
theorem st_ret {e : Expr} {t : E} {pos : Pos} (h : OkE Γ N sc e t) : OkS Γ F N sc (.Return (some e) pos) (.ret t) := by
  intro X x B ρ σ H O D W r tk g
  refine of_ps (ps_ret pe_tw) ?_
  simp only [evalS] at g
  refine h X x.ok B ρ σ H O _ W r tk ?_
  show GE (sur X) B σ O D.rt W (evalE Γ t ρ)
  match evalE Γ t ρ, g with
  | .ok (d, false) ρ, g => exact fun v H r q => g v σ H O r q
  | .ok (d, true) ρ, g => exact fun a H r' z no ow q => g a σ H O r' z no r.sub ow q
  | .err y ρ, g => exact fun c dd H r' q => g σ c dd H O r' q
theorem st_retO {i : Nat} {y : Str} {p pos : Pos} (hN : N[i]? = some y) (hv : Vis sc y) (hd : (y == ("__debug__" : Str)) = false) (hcd : (y == ("__classdict__" : Str)) = false) : OkS Γ F N sc (.Return (some (.Name y p)) pos) (.retO i) := by
  intro X x B ρ σ H O D W r tk g
  refine of_ps (ps_ret (pe_var (i := i) (by rw [x.ok.n]; exact hN) (by rw [x.ok.sc]; exact hv) hd hcd)) ?_
  simp only [evalS] at g
  split at g
  · rename_i d e
    obtain ⟨a, e4, _, _, _⟩ := r.own i _ d e rfl rfl
    obtain ⟨r', q', o, z', ow⟩ := r.letgo e e4
    refine ⟨.ref a, e4, ?_⟩
    have eo : orA (fun b => O b ∧ b ≠ a) a = O := funext fun b => propext ⟨fun h => h.elim (fun h => h.1) fun h => h ▸ o, fun h => (Classical.em (b = a)).elim .inr fun n => .inl ⟨h, n⟩⟩
    have r2 : SR (sur X) B (ρ.set i .no) σ H (orA (fun b => O b ∧ b ≠ a) a) := by
      rw [eo]
      exact ⟨r'.keep, r.sub, r.top, r.al, r'.len, fun j f h => by
        rcases slot_old h with ⟨_, y, _⟩ | ⟨hj, y⟩
        · cases y
        · exact r.val j f y, fun j t f e1 e2 e3 => by
        rcases slot_old e1 with ⟨_, y, _⟩ | ⟨hj, y⟩
        · subst y; cases e2
        · exact r.own j t f y e2 e3, r'.mine, r'.sep⟩
    exact g a σ H _ r2 z' (fun h => h.2 rfl) (fun b h => r'.sub b h) ow (by rw [eo]; exact q')
  · exact False.elim g
end
end W2

/-! Statements: exceptions, comprehensions stored at once; list(range). -/
namespace W2
open PySem L2
section
variable {Γ : Ctr} {F : Nat} {N : List Str} {sc : Scope}
theorem st_rse {y m : Str} {j : Nat} {p p2 pos pos' : Pos} (hg : sc.names.lookup y = some .globalImplicit) : OkS Γ F N sc (.Raise (some (.Call (.Name y p) [.Constant (.str m) j p2] [] pos)) none pos') (.rse y) := by
  intro X x B ρ σ H O D W r tk g
  simp only [evalS] at g
  split at g
  · rename_i hx
    obtain ⟨LV, _, _, mk⟩ := x.ok.m
    obtain ⟨C, bmB, Bn, n1, n2, F1, q1, g1, k1, s1, t1, d1⟩ := mk.ex y hx
    refine of_ps (ps_raise x.ok.calm tk.t (pmk_own F1 q1 g1 k1 (raises_own s1 t1) (gl_of x.ok hg) d1)) ?_
    exact g σ _ none H O r ⟨⟨C, rfl, g1⟩, .inl ⟨rfl, rfl⟩⟩
  · exact False.elim g

/-! ### suites of an except clause -/
structure XSU (Γ : Ctr) (N : List Str) (sc : Scope) (X : Cx) : Prop where
  n : X.N = N
  nd : N.Nodup
  sc : X.env.scope = sc
  fn : ∀ y, X.fn y = true
def OkU (Γ : Ctr) (F : Nat) (N : List Str) (sc : Scope) (st : List Stmt) (t : List St) : Prop :=
  ∀ X, XSU Γ N sc X → ∀ B ρ σ H O D W, SR (sur X) B ρ σ H O → GS (sur X) B D W (evalSs Γ F t ρ) → twSs X st D σ H
/-- a constant -/
def cstE : Expr → Option W2.D
  | .Constant .none _ _ => some .non
  | .Constant (.bool b) _ _ => some (.bl b)
  | .Constant (.int i) _ _ => some (.int i)
  | .Constant (.str x) _ _ => some (.str x)
  | _ => none
theorem cst_pe {X : Cx} {e : Expr} {d : W2.D} (h : cstE e = some d) : ∃ v, PE X e (tC v) ∧ ∀ H O, Rp (sur X) H O d v := by
  unfold cstE at h
  split at h
  · cases h; exact ⟨_, pe_non, fun _ _ => .non⟩
  · cases h; exact ⟨_, pe_bl, fun _ _ => .bl _⟩
  · cases h; exact ⟨_, pe_int, fun _ _ => .int _⟩
  · cases h; exact ⟨_, pe_str, fun _ _ => .str _⟩
  · cases h
theorem cst_noComp {e : Expr} {d : W2.D} (h : cstE e = some d) : noComp e = true := by
  unfold cstE at h
  split at h <;> first | rfl | cases h
theorem u_nil : OkU Γ F N sc [] [] := by
  intro X x B ρ σ H O D W r g
  simp only [evalSs] at g
  exact of_pss pss_nil (g σ H O r)
theorem u_set {y : Str} {py pos : Pos} {e : Expr} {i : Nat} {d : W2.D} {st : List Stmt} {t : List St} (hN : N[i]? = some y) (hl : Loc sc y) (he : cstE e = some d) (h : OkU Γ F N sc st t) : OkU Γ F N sc (.Assign [.Name y py] e pos :: st) (.set i (.cst d) :: t) := by
  intro X x B ρ σ H O D W r g
  obtain ⟨v, pe, q⟩ := cst_pe (X := X) he
  refine of_pss (pss_cons (ps_set (i := i) (by rw [x.n]; exact x.nd) (by rw [x.n]; exact hN) (by rw [x.sc]; exact hl) pe (swaps_no (cst_noComp he)) (.inl (x.fn y))) pss_tw) ?_
  simp only [evalSs, evalS, evalE, R.toS_ok, setS] at g
  show twSs X st D (σ.set i (some v)) H
  split at g
  · exact False.elim g
  · exact h X x B _ _ H O D W (r.set (q H O)) g
  · exact False.elim g
theorem u_ret {pos : Pos} {e : Expr} {d : W2.D} (he : cstE e = some d) : OkU Γ F N sc [.Return (some e) pos] [.ret (.cst d)] := by
  intro X x B ρ σ H O D W r g
  obtain ⟨v, pe, q⟩ := cst_pe (X := X) he
  refine of_pss (pss_one (ps_ret pe)) ?_
  simp only [evalSs, evalS, evalE, R.toS_ok, RS.bind_ret] at g
  exact g v σ H O r (q H O)
theorem u_retV {pos p : Pos} {y : Str} {i : Nat} (hN : N[i]? = some y) (hv : Vis sc y) (hd : (y == ("__debug__" : Str)) = false) (hcd : (y == ("__classdict__" : Str)) = false) : OkU Γ F N sc [.Return (some (.Name y p)) pos] [.ret (.var i)] := by
  intro X x B ρ σ H O D W r g
  refine of_pss (pss_one (ps_ret (pe_var (i := i) (by rw [x.n]; exact hN) (by rw [x.sc]; exact hv) hd hcd))) ?_
  simp only [evalSs, evalS, evalE] at g
  split at g
  · rename_i d e
    obtain ⟨v, e1, q⟩ := r.val i d e
    simp only [R.toS_ok, RS.bind_ret] at g
    exact ⟨v, e1, g v σ H O r q⟩
  · exact False.elim g

theorem u_app {y : Str} {e : Expr} {i : Nat} {d : W2.D} {p apos cpos pos : Pos} {st : List Stmt} {t : List St} (hN : N[i]? = some y) (hv : Vis sc y) (hd : (y == ("__debug__" : Str)) = false) (hcd : (y == ("__classdict__" : Str)) = false) (he : cstE e = some d) (hs : noStar e = true) (hl : (apos.endLine == cpos.line) = true) (h : OkU Γ F N sc st t) :
    OkU Γ F N sc (.Expr (.Call (.Attribute (.Name y p) "append" apos) [e] [] cpos) pos :: st) (.app i (.cst d) :: t) := by
  intro X x B ρ σ H O D W r g
  obtain ⟨v, pe, q⟩ := cst_pe (X := X) he
  refine of_pss (pss_cons (ps_expr (pe_bm PySem.F.plainAttrs_list PySem.F.slot_list_append PySem.F.type_list_append mt_append (pe_var (i := i) (by rw [x.n]; exact hN) (by rw [x.sc]; exact hv) hd hcd) (pa_cons pe pa_nil (star_one hs)) rfl (by rw [star_one hs]; rfl) hl (star_one hs) rfl) (swaps_no rfl)) pss_tw) ?_
  simp only [evalSs, evalS, evalE, R.toS_ok] at g
  split at g
  · rename_i ds e1
    obtain ⟨a, xs, ea, oa, h0, la⟩ := r.lst_at e1 rfl rfl
    simp only [e1] at g
    split at g
    · rename_i hlim
      refine ⟨.ref a, ea, .inl ⟨rfl, xs, SqL.of h0⟩, ?_⟩
      refine ⟨a, xs, v, rfl, rfl, h0, ?_, ?_⟩
      · rw [← la.length]; exact Nat.lt_of_lt_of_le hlim (by decide)
      · exact h X x B _ _ _ O D W (r.putL e1 rfl ea (la.snoc (q H O))) g
    · exact False.elim g
  · exact False.elim g
/-! ### try -/
inductive OkH (Γ : Ctr) (F : Nat) (N : List Str) (sc : Scope) : List ExceptHandler → List (Str × List St) → Prop
  | nil : OkH Γ F N sc [] []
  | cons {y : Str} {np pos' : Pos} {b₀ : Stmt} {suite : List Stmt} {t : List St} {hds : List ExceptHandler} {l : List (Str × List St)} (hg : sc.names.lookup y = some .globalImplicit) (hx : Γ.ex y = true) (hu : OkU Γ F N sc (b₀ :: suite) t) (hr : OkH Γ F N sc hds l) :
      OkH Γ F N sc (.ExceptHandler (some (.Name y np)) none (b₀ :: suite) pos' :: hds) ((y, t) :: l)
def uTw (X : Cx) (sts : List Stmt) : Addr → Value → Option Addr → TS := fun a cls d D σ H => ∀ (oe : Obj) (pn : List (Addr × Obj)), Zc cls d oe → (∃ vs, oe.data = .fields vs) → twSs (X.suite a ((a, oe) :: pn)) sts D σ H
theorem XDS.su {X : Cx} (x : XDS Γ N sc X) (a : Addr) (pn : List (Addr × Obj)) : XSU Γ N sc (X.suite a pn) := ⟨x.ok.n, x.ok.nd, x.ok.sc, x.fn⟩
theorem XDS.tr {X : Cx} (x : XDS Γ N sc X) {pn : List (Addr × Obj)} {xe : Value → Shared → Prop} (po : PassesOwn (model X.prog X.w) X.A X.env xe) : XDS Γ N sc (X.tr pn xe) := ⟨⟨x.ok.n, x.ok.nd, x.ok.sc, x.ok.calm, x.ok.m, x.ok.lm⟩, x.fn, x.kd, x.st, x.fr, po⟩
theorem hds_ok {X : Cx} (x : XDS Γ N sc X) {B : Bd} {D : Ends} {W : WX} : ∀ {hds : List ExceptHandler} {l : List (Str × List St)}, OkH Γ F N sc hds l →
    ∃ ls, HdsOk X hds ls ∧ ∀ y ρ, GS (sur X) B D W (evalH Γ F l y ρ) → ∀ σ cls dd H O, SR (sur X) B ρ σ H O → RpX (sur X) H O y cls dd → wMany X.K W D ls cls dd σ H
  | _, _, .nil => ⟨[], .nil, fun y ρ g σ cls dd H O r q => by
    simp only [evalH] at g
    exact g σ cls dd H O r q⟩
  | _, _, .cons (y := y) (t := t) (b₀ := b₀) (suite := suite) hg hx hu hr => by
    obtain ⟨ls, h1, h2⟩ := hds_ok x (B := B) (D := D) (W := W) hr
    obtain ⟨LV, _, _, mk⟩ := x.ok.m
    obtain ⟨C, _, _, _, _, _, _, g1, _, _, _, d1⟩ := mk.ex y hx
    refine ⟨(.ref C, uTw X (b₀ :: suite)) :: ls, .cons ⟨gl_of x.ok hg, d1, .inl g1⟩ (fun a oe cls d pn z w => ⟨fun pins s σ H D I h => h oe pn z w pins s I⟩) h1, fun z ρ g σ cls dd H O r q => ?_⟩
    simp only [evalH] at g
    obtain ⟨⟨C', ec, gz⟩, q2⟩ := q
    have key : ∀ b, Γ.sub z.cls y = some b → PySem.W.exmOne X.K cls (.ref C) = some b := fun b hb => by
      obtain ⟨X1, C1, e1, e2, e3, _⟩ := mk.sub z.cls y b hb
      have gz : X.mg z.cls = some (.ref C') := gz
      rw [e1] at gz
      rw [g1] at e2
      cases gz
      cases e2
      rw [ec]; exact e3
    split at g
    · rename_i hb
      refine ⟨true, key true hb, fun _ a na oe pn zc w => ?_, (fun w => nomatch w)⟩
      exact hu _ (x.su a ((a, oe) :: pn)) B ρ σ H O D W r g
    · rename_i hb
      exact ⟨false, key false hb, (fun w => nomatch w), fun _ => h2 _ ρ g σ cls dd H O r ⟨⟨C', ec, gz⟩, q2⟩⟩
    · exact False.elim g
theorem st_try {body : List Stmt} {h₀ : ExceptHandler} {hds : List ExceptHandler} {pos : Pos} {tb : List St} {l : List (Str × List St)} (hb : OkSs Γ F N sc body tb) (hh : OkH Γ F N sc (h₀ :: hds) l) : OkS Γ F N sc (.Try body (h₀ :: hds) [] [] pos) (.tryS tb l) := by
  intro X x B ρ σ H O D W r tk g
  obtain ⟨ls, h1, h2⟩ := hds_ok x (B := B) (D := D) (W := W) hh
  refine of_ps (ps_try_many (tb := fun W D σ H => ∀ pn xe, Takes (X.tr pn xe) W → PassesOwn (model X.prog X.w) X.A X.env xe → twSs (X.tr pn xe) body D σ H) x.st x.fr tk.t (fun W pn xe tk' po => ⟨fun pins s σ H D I h => h pn xe tk' po pins s I⟩) h1) ?_
  intro pn xe tk' po
  refine hb (X.tr pn xe) (x.tr po) B ρ σ H O D _ r ⟨tk', tk.b⟩ ?_
  simp only [evalS] at g
  match evalSs Γ F tb ρ, g with
  | .nxt ρ1, g => exact g
  | .ret (d, false) ρ1, g => exact g
  | .ret (d, true) ρ1, g => exact g
  | .err y ρ1, g => exact fun σ cls dd H O r q => h2 y ρ1 g σ cls dd H O r q
  | .bad, g => exact g

/-! ### name = [..] -/
theorem pe_parts {elt tg iter : Expr} {ifs : List Expr} {scope : Scope} {X : Cx} : (∀ (s : Shared) (H : Hp) (C : Addr) (cl : List (Str × Addr)) (fp : List Addr), PG (X.blk s H scope (compEnvC scope cl C X.env) fp) tg (bkG X scope tg)) ∧ (∀ (s : Shared) (H : Hp) (C : Addr) (cl : List (Str × Addr)) (fp : List Addr), PTs (X.blk s H scope (compEnvC scope cl C X.env) fp) ifs (bkT X scope ifs)) ∧
    ∀ (s : Shared) (H : Hp) (C : Addr) (cl : List (Str × Addr)) (fp : List Addr), PE (X.blk s H scope (compEnvC scope cl C X.env) fp) elt (bkE X scope elt) :=
  ⟨fun s0 H0 C cl fp => ⟨fun pins s σ H v u Q I r h => h s0 H0 cl C fp pins s u I r⟩, fun s0 H0 C cl fp => ⟨fun pins s σ H Q I h => h s0 H0 cl C fp pins s I⟩, fun s0 H0 C cl fp => ⟨fun pins s σ H Q I h => h s0 H0 cl C fp pins s I⟩⟩
section
variable {i : Nat} {y : Str} {py pos spos : Pos} {elt tg iter : Expr} {ifs : List Expr} {scope : Scope} {own : List (Str × Nat)} {te ti tc : E} {tt : Tg}
theorem tgs_setLc {X : Cx} (x : XDS Γ N sc X) (hN : N[i]? = some y) (hyl : sc.names.lookup y = some .local) (hl : (py.line == pos.line) = true) (ha : (scope.names.any fun (n, k) => n == y && (k == .local || k == .cell)) = false) (hb : blkC N sc scope own = true) (hs : ∀ env x, foldedSetIterable iter env x = pure x) :
    PS X (.Assign [.Name y py] (.ListComp elt [⟨tg, iter, ifs, 0⟩] scope pos) spos) (tAsg (tLc (twI X tg iter) (bkG X scope tg) (bkT X scope ifs) (bkE X scope elt) (own.map (·.2))) (gName i)) :=
  ps_setLc x.ok.calm (by rw [x.ok.n]; exact x.ok.nd) (by rw [x.ok.n]; exact hN) (by rw [x.ok.sc]; exact hyl) (sw_true (by rw [x.ok.sc]; exact x.kd) (by rw [x.ok.sc]; exact hyl) hl ha) pi_tw (by rw [x.ok.n, x.ok.sc]; exact blkOk_by hb) (pe_parts (elt := elt) (ifs := ifs) (iter := iter)).1 (pe_parts (elt := elt) (tg := tg) (iter := iter)).2.1 (pe_parts (tg := tg) (ifs := ifs) (iter := iter)).2.2 (fun z => hs X.env z)
theorem st_setLc (hN : N[i]? = some y) (hyl : sc.names.lookup y = some .local) (hl : (py.line == pos.line) = true) (ha : (scope.names.any fun (n, k) => n == y && (k == .local || k == .cell)) = false) (hb : blkC N sc scope own = true) (hi : OkI Γ N sc tg iter ti) (hg : ∀ X, XOK Γ N sc X → OkGB X scope tg tt) (hsl : ∀ j, j ∈ tt.slots → j ∈ own.map (·.2))
    (hc : OkC Γ N (relS scope sc) ifs tc) (he : OkE Γ N (relS scope sc) elt te) (hs : ∀ env x, foldedSetIterable iter env x = pure x) : OkS Γ F N sc (.Assign [.Name y py] (.ListComp elt [⟨tg, iter, ifs, 0⟩] scope pos) spos) (.set i (.comp (own.map (·.2)) te tt ti tc)) := by
  intro X x B ρ σ H O D W r tk g
  refine of_ps (tgs_setLc x hN hyl hl ha hb hs) ?_
  simp only [evalS] at g
  exact tlc_comp hi hg hsl hc he x.ok r tk (g.stepE r.sub fun u ρ1 v H1 r1 q1 g1 => g1.set r1 q1)
theorem st_ownLc (hN : N[i]? = some y) (hyl : sc.names.lookup y = some .local) (hl : (py.line == pos.line) = true) (ha : (scope.names.any fun (n, k) => n == y && (k == .local || k == .cell)) = false) (hb : blkC N sc scope own = true) (hi : OkI Γ N sc tg iter ti) (hg : ∀ X, XOK Γ N sc X → OkGB X scope tg tt) (hsl : ∀ j, j ∈ tt.slots → j ∈ own.map (·.2))
    (hc : OkC Γ N (relS scope sc) ifs tc) (he : OkE Γ N (relS scope sc) elt te) (hs : ∀ env x, foldedSetIterable iter env x = pure x) : OkS Γ F N sc (.Assign [.Name y py] (.ListComp elt [⟨tg, iter, ifs, 0⟩] scope pos) spos) (.own i (.comp (own.map (·.2)) te tt ti tc)) := by
  intro X x B ρ σ H O D W r tk g
  refine of_ps (tgs_setLc x hN hyl hl ha hb hs) ?_
  simp only [evalS] at g
  exact tlc_comp hi hg hsl hc he x.ok r tk (g.own r.sub)
end

theorem swaps_off {elt : Expr} {gs : List Comprehension} {scope : Scope} {pos py : Pos} {y : Str} {l : Nat} {env : PySem.Env} (h : (decide (env.scope.names.lookup y = some .local) && ((py.line == pos.line) && !(scope.names.any fun (n, k) => n == y && (k == .local || k == .cell)))) = false) :
    swapsWith (.ListComp elt gs scope pos) (some (.Name y py)) l env = pure false := by
  unfold swapsWith
  simp only
  refine congrArg pure ?_
  have e : (env.kindOf y == some NameKind.local) = decide (env.scope.names.lookup y = some .local) := by
    have : env.kindOf y = env.scope.names.lookup y := rfl
    rw [this]
    by_cases hh : env.scope.names.lookup y = some .local
    · rw [hh]; rfl
    · rw [decide_eq_false hh]; exact beq_eq_false_iff_ne.mpr hh
  rw [show (Expr.ListComp elt gs scope pos).pos = pos from rfl, e]
  cases hb : (env.blockKind == ScopeKind.function)
  · rfl
  · rw [Bool.true_and, Bool.and_assoc]; exact h
/-! ### list(range(..)) -/
theorem rg_rep {S : Sur} {H : Hp} {O : Addr → Prop} {lo hi : Int} : RpL S H O (rangeD lo (hi - lo).toNat) (rgV lo hi) := by
  unfold rangeD rgV
  generalize (hi - lo).toNat = n
  have go : ∀ l : List Nat, RpL S H O (l.map fun (i : Nat) => W2.D.int (lo + (i : Int))) (l.map fun (i : Nat) => V.int (lo + (i : Int))) := by
    intro l
    induction l with
    | nil => exact .nil
    | cons a t ih => exact .cons (.int _) ih
  exact go _
theorem ok_lrg1 {a : Expr} {t : E} {p p1 pos pos1 : Pos} (h : OkE Γ N sc a t) (hs : noStar a = true) (hg : sc.names.lookup ("range" : Str) = some .globalImplicit) (hg' : sc.names.lookup ("list" : Str) = some .globalImplicit) :
    OkE Γ N sc (.Call (.Name "list" p) [.Call (.Name "range" p1) [a] [] pos1] [] pos) (.lrg (.rng1 t)) := by
  intro X x B ρ σ H O Q W r tk g
  refine of_pe (pe_listRg x.calm (gl_of x hg') (x.nb (by decide +kernel)) (prg_1 (gl_of x hg) (x.nb (by decide +kernel)) pe_tw (by rw [star_one hs]))) ?_
  rw [evalE_lrg, evalI_rng1] at g
  cases ev : evalE Γ t ρ with
  | bad => rw [ev] at g; exact False.elim g
  | err y ρ1 =>
    rw [ev] at g
    refine h X x B ρ σ H O _ W r tk ?_
    rw [ev]; exact g
  | ok u ρ1 =>
    refine h X x B ρ σ H O _ W r tk ?_
    rw [ev] at g ⊢
    obtain ⟨d, fr⟩ := u
    refine GE.val (fun v H1 r1 q1 => ?_) r.sub
    cases d with
    | int n =>
      cases q1
      simp only [R.bind_ok] at g
      split at g
      · rename_i hl
        simp only [R.bind_ok] at g
        split at g
        · rename_i hlim
          refine ⟨n, rfl, ⟨by decide, by decide, hl.1, hl.2, ?_⟩, fun q hq => ?_⟩
          · simp [rangeD] at hlim
            rw [Int.sub_zero]
            exact Nat.le_trans (Int.toNat_le.mpr hlim) (by decide)
          · have := (g.post r1).lst (p := q) (ds := rangeD 0 n.toNat) (by have := rg_rep (S := sur X) (H := H1) (O := O) (lo := 0) (hi := n); rw [Int.sub_zero] at this; exact this) hq
            exact this
        · exact False.elim g
      · exact False.elim g
    | _ => exact False.elim g
end
end W2

/-! Calls of what a slot holds; x(lambda: e). -/
namespace W2
open PySem L2

theorem pe_callV {X : Cx} {CX : CXT} {k i : Nat} {f : Addr} {fd : FuncData} {ps : List Str} {sp : Sp} {E : L2.St → XK} {x : Str} {e : Expr} {es : List Expr} {t : TA} {p pos : Pos} (F : FnOk X.prog X.w X.K X.mg X.base CX k f fd ps sp) (hr : Room k X.A) (hN : X.N[i]? = some x) (hv : Vis X.env.scope x) (hk : PySem.W.keepIn X.K (.ref f) = true) (hb : Binds X.K fd ps []) (hx : ∀ σ, PassesAt CX X σ (E σ))
    (ha : PA X (e :: es) t) (hdb : (x == ("__debug__" : Str)) = false) (hcd : (x == ("__classdict__" : Str)) = false) (he : starEach (e :: es) X.env = (false, eval e X.env) :: starEach es X.env := by rfl) (hpl : (backTo pos (starEach es X.env)).any (·.1) = false := by rfl) :
    PE X (.Call (.Name x p) (e :: es) [] pos) (fun σ H Q => σ[i]? = some (some (.ref f)) ∧ t σ H fun vs H1 => sp vs H1 Q (E σ)) := by
  refine ⟨fun pins s σ H Q I h => ?_⟩
  obtain ⟨hs, h⟩ := h
  refine wpAny_Call_Name_kw (thn ((pe_var (pos := p) (i := i) hN hv hdb hcd).run pins s σ H (fun v H1 => v = .ref f ∧ H1 = H) I ⟨.ref f, hs, rfl, rfl⟩) fun u s0 ⟨v, H0, I0, r0, q0⟩ => ?_)
  obtain ⟨ev, eH⟩ := q0
  subst ev
  rw [eH] at I0
  obtain rfl : u = Value.ref f := r0
  refine PySem.W.callWith_K (h₀ := X.base) I0.ok.mod.kin hk (thn (ha.run pos pins s0 σ H _ I0 h) fun us s1 ⟨vs, H1, I1, r, q⟩ => ⟨I1.kIn, ?_⟩) he hpl
  exact run_fnS F hr hb (hx σ) I1 r q
section
variable {Γ : Ctr} {N : List Str} {sc : Scope}
theorem ok_vcall {y : Str} {i : Nat} {e : Expr} {es : List Expr} {ts : List E} {p1 pos : Pos} (h : OkA Γ N sc (e :: es) ts) (hs : (e :: es).all noStar = true) (hN : N[i]? = some y) (hv : Vis sc y) (hd : (y == ("__debug__" : Str)) = false) (hcd : (y == ("__classdict__" : Str)) = false) : OkE Γ N sc (.Call (.Name y p1) (e :: es) [] pos) (.vcall i ts) := by
  intro X x B ρ σ H O Q W r tk g
  obtain ⟨LV, room, _, m⟩ := x.m
  simp only [evalE] at g
  split at g
  rotate_left
  · exact False.elim g
  rename_i f ei
  split at g
  · exact False.elim g
  · rename_i c hc
    obtain ⟨n, F⟩ := m.fn f c hc
    obtain ⟨a, fd, ps, h1, h2, h3, h4⟩ := F.ok
    obtain ⟨v, e1, q⟩ := r.val i _ ei
    have hs1 : noStar e = true := by simp only [List.all_cons, Bool.and_eq_true] at hs; exact hs.1
    have hs2 : es.all noStar = true := by simp only [List.all_cons, Bool.and_eq_true] at hs; exact hs.2
    refine of_pe (pe_callV h4 room (by rw [x.n]; exact hN) (vis_of x hv) h2 h3 (fun σ => passAt tk.t σ) pa_tw hd hcd (star_one hs1) (star_all hs2)) ?_
    refine ⟨?_, ?_⟩
    · cases q with
      | fn z =>
        have z : X.mg f = some (.ref _) := z
        rw [h1] at z; cases z
        exact e1
    · refine h X x B ρ σ H O _ W r tk (g.stepG (P := fun ps _ H vs => PRep (sur X) H O σ ps vs) fun ps ρ1 vs H1 r1 q1 g1 => ?_)
      exact call_core F r1 q1 g1

/-! ### x(lambda: e) -/
def noParams : Arguments := ⟨[], [], none, [], [], none, []⟩
def isNoParams (p : Arguments) : Bool := p.posonlyargs.isEmpty && p.args.isEmpty && p.vararg.isNone && p.kwonlyargs.isEmpty && p.kw_defaults.isEmpty && p.kwarg.isNone && p.defaults.isEmpty
theorem noParams_of {p : Arguments} (h : isNoParams p = true) : p = noParams := by
  obtain ⟨a, b, c, d, e, f, g⟩ := p
  simp only [isNoParams, Bool.and_eq_true, List.isEmpty_iff, Option.isNone_iff_eq_none] at h
  obtain ⟨⟨⟨⟨⟨⟨rfl, rfl⟩, rfl⟩, rfl⟩, rfl⟩, rfl⟩, rfl⟩ := h
  rfl
theorem exm_word {K : PySem.W.Frag} {mg : Str → Option Value} {C : Addr} {Γ : Ctr} {x : Exn} {Q : Str → Prop} (hx : mg x.cls = some (.ref C)) (sub : ∀ c b, Γ.sub x.cls c = some b → SubK K mg x.cls c b) :
    ∀ {hA : List (Addr × Str)} {hs : List (Str × Str)} {w : Str}, HsA K mg hA hs → wordOf Γ.sub hs x.cls = some w → Q w → wordA K hA (.ref C) Q
  | _, _, _, .nil, h, _ => by simp [wordOf] at h
  | _, _, _, .cons (c := c) (w := w0) hc t, h, q => by
    simp only [wordOf] at h
    split at h
    · rename_i hb
      obtain ⟨X1, C1, e1, e2, e3, _⟩ := sub c true hb
      rw [hx] at e1; cases e1
      rw [hc] at e2; cases e2
      cases h
      exact ⟨true, e3, fun _ => q, fun z => nomatch z⟩
    · rename_i hb
      obtain ⟨X1, C1, e1, e2, e3, _⟩ := sub c false hb
      rw [hx] at e1; cases e1
      rw [hc] at e2; cases e2
      exact ⟨false, e3, (fun z => nomatch z), fun _ => exm_word hx sub t h q⟩
    · cases h
theorem ok_lam {f : Str} {params : Arguments} {body : Expr} {scope : Scope} {t : E} {p lpos pos : Pos} (hg : sc.names.lookup f = some .globalImplicit) (hp : isNoParams params = true) (hL : LamX.lamSB sc scope = true) (h : OkE Γ.out N scope body t) : OkE Γ N sc (.Call (.Name f p) [.Lambda params body scope lpos] [] pos) (.lam f t) := by
  intro X x B ρ σ H O Q W r tk g
  have hp := noParams_of hp
  subst hp
  simp only [evalE, lamR] at g
  split at g
  rotate_left
  · exact False.elim g
  rename_i T hs et ew
  obtain ⟨P, q⟩ := T
  obtain ⟨LV, room, room2, m⟩ := x.m
  obtain ⟨eq, c, TB, hcode⟩ := x.lm P q et
  obtain ⟨⟨gA, a, hA, pg, bg, sg, dV, kV, doc, pm, cdv, ct, oc, an, od, osl, Ng, w1, w2, w3, w4, w5, w6, w7, w8, w9, w10, w11, w12⟩, w13⟩ := m.wd f hs ew
  have room2 := room2 (by rw [et]; exact fun z => nomatch z)
  have L : LamX.LamS X.env.scope scope := by rw [x.sc]; exact LamX.lamS_by hL
  refine of_pe (LamX.pe_lamcall (T := [(P, X.env.qual ++ "<lambda>")]) (k := LV) (TT := TWord X.K hA)
    (t := fun E => fun σ H Q => ∀ (A : Around) (outer : List PySem.Env) (s : Shared) (HZ : Hp) (f c' : Addr), Room LV (A.deeper (LamX.lamEnv X scope s.heap.objs.size f c')) → twE (LamX.lamCx X A outer s HZ E scope f c') body σ H Q)
    (gl_of x hg) w1 w2 w3 w4 w5 w6 w7 w8 (w12 X rfl rfl rfl rfl rfl _) TB hcode (by simp) (fun p hp _ => by simp at hp; rw [hp]) room2 L (by rfl) (fun q cl pm cv ctv => by rfl)
    (fun A outer s H E f c' rm => ⟨fun pins s' σ' H' Q' I h => h A outer s H f c' rm pins s' I⟩) w13 w9 w10) ?_
  have btb : B.tb = some (P, X.env.qual ++ "<lambda>") := by rw [tk.b _ et, eq]
  have tn : B.tb ≠ none := by rw [btb]; exact fun z => nomatch z
  refine ⟨fun p hp => ?_, fun H1 ext tabs => ?_⟩
  · simp at hp; subst hp
    exact r.al.1 _ _ btb
  · have r1 : SR (sur X) B ρ σ H1 O := r.sameN (fun a o e n => ext a o e fun ps z => n ⟨tn, by rw [z]; trivial⟩) (fun a q' e => by
      rw [btb] at e; cases e
      exact tabs (P, X.env.qual ++ "<lambda>") (by simp))
    intro A outer s HZ f' c' rm
    have xo : XOK Γ.out N scope (LamX.lamCx X A outer s HZ (fun cls _ H' => wordA X.K hA cls fun w => Q (.str w) H') scope f' c') :=
      ⟨x.n, x.nd, rfl, rfl, ⟨LV, rm, fun z => absurd rfl z, m.out⟩, fun p q e => nomatch e⟩
    refine h _ xo B ρ σ H1 O _ (fun cls _ _ H' => wordA X.K hA cls fun w => Q (.str w) H') r1 ⟨?_, fun p e => nomatch e⟩ ?_
    · exact takes_of rfl rfl rfl rfl
    · cases ev : evalE Γ.out t ρ with
      | bad => rw [ev] at g; exact False.elim g
      | ok u ρ1 =>
        rw [ev] at g
        obtain ⟨d, fr⟩ := u
        exact GE.val (fun v H2 r2 q2 => g _ H2 r2 (.str _)) r.sub
      | err y ρ1 =>
        rw [ev] at g
        simp only at g
        intro cls dd H2 r2 q2
        split at g
        · rename_i w ew'
          obtain ⟨⟨C', ec, gz⟩, _⟩ := q2
          subst ec
          exact exm_word (mg := X.mg) gz (fun c b hb => m.sub y.cls c b hb) w11 ew' (g _ H2 r2 (.str _))
        · exact False.elim g
end
end W2

/-! A def keeps the contract that its evaluator is. -/
namespace W2
open PySem L2

section
variable {S : Sur} {O O' : Addr → Prop} {H H' : Hp}
theorem IoR.less : ∀ {L : List Addr} {ds : List W2.D}, IoR S H O L ds → (∀ b, O' b → O b) → IoR S H O' L ds
  | _, _, .nil, _ => .nil
  | _, _, .cons q t, w => .cons (q.less w) (IoR.less t w)
theorem RpX.less {x : Exn} {cls : Value} {dd : Option Addr} (q : RpX S H O x cls dd) (w : ∀ b, O' b → O b) : RpX S H O' x cls dd := by
  obtain ⟨h1, h2⟩ := q
  refine ⟨h1, h2.imp id fun ⟨p, fs, e1, e2, h⟩ => ⟨p, fs, e1, e2, fun f d e => ?_⟩⟩
  obtain ⟨v, e3, q⟩ := h f d e
  exact ⟨v, e3, q.less w⟩
def cvA : AV → SV
  | .val d => .val d
  | .io d => .io d
theorem entry_eq (n : Nat) (as : List AV) : entry n as = as.map cvA ++ List.replicate (n - as.length) .no := by
  unfold entry
  congr 1
theorem entry_get {n : Nat} {as : List AV} {i : Nat} {s : SV} (h : (entry n as)[i]? = some s) : (∃ a, as[i]? = some a ∧ s = cvA a) ∨ s = .no := by
  rw [entry_eq] at h
  by_cases hi : i < as.length
  · rw [List.getElem?_append_left (by simpa using hi), List.getElem?_map, Option.map_eq_some_iff] at h
    obtain ⟨a, e, rfl⟩ := h
    exact .inl ⟨a, e, rfl⟩
  · rw [List.getElem?_append_right (by simpa using Nat.le_of_not_lt hi), List.getElem?_replicate] at h
    split at h
    · cases h; exact .inr rfl
    · cases h
theorem start_get {N : List Str} {vs : List V} {i : Nat} {v : V} (h : vs[i]? = some v) : (L2.start N vs)[i]? = some (some v) := by
  unfold L2.start
  have hi : i < vs.length := (List.getElem?_eq_some_iff.mp h).1
  rw [List.getElem?_append_left (by simpa using hi), List.getElem?_map, h]
  rfl
theorem ArgR.getVal : ∀ {as : List AV} {vs : List V} {i : Nat} {d : W2.D}, ArgR S H O as vs → as[i]? = some (.val d) → ∃ v, vs[i]? = some v ∧ Rp S H O d v
  | _, _, i, _, .nil, e => by simp at e
  | _, _, 0, _, .val q _, e => by simp at e; subst e; exact ⟨_, rfl, q⟩
  | _, _, 0, _, .io _ _ _, e => by simp at e
  | _, _, i + 1, _, .val _ t, e => by simpa using ArgR.getVal (i := i) t (by simpa using e)
  | _, _, i + 1, _, .io _ _ t, e => by simpa using ArgR.getVal (i := i) t (by simpa using e)
theorem ArgR.getIo : ∀ {as : List AV} {vs : List V} {i : Nat} {d : W2.D}, ArgR S H O as vs → as[i]? = some (.io d) → ∃ a, vs[i]? = some (.ref a) ∧ O a ∧ RpO S H O d a ∧ a ∈ ioA as vs
  | _, _, i, _, .nil, e => by simp at e
  | _, _, 0, _, .val q _, e => by simp at e
  | _, _, 0, _, .io o q _, e => by simp at e; subst e; exact ⟨_, rfl, o, q, by simp [ioA]⟩
  | _, _, i + 1, _, .val (d := d0) (v := v0) (as := as) (vs := vs) _ t, e => by
    obtain ⟨a, h1, h2, h3, h4⟩ := ArgR.getIo (i := i) t (by simpa using e)
    exact ⟨a, by simpa using h1, h2, h3, by rw [show ioA (.val d0 :: as) (v0 :: vs) = ioA as vs by simp [ioA]]; exact h4⟩
  | _, _, i + 1, _, .io _ _ t, e => by
    obtain ⟨a, h1, h2, h3, h4⟩ := ArgR.getIo (i := i) t (by simpa using e)
    exact ⟨a, by simpa using h1, h2, h3, by simp only [ioA]; exact List.mem_cons_of_mem _ h4⟩
theorem ArgR.memIo : ∀ {as : List AV} {vs : List V} {a : Addr}, ArgR S H O as vs → a ∈ ioA as vs → O a
  | _, _, _, .nil, h => by simp [ioA] at h
  | _, _, _, .val (d := d0) (v := v0) (as := as) (vs := vs) _ t, h => by
    rw [show ioA (.val d0 :: as) (v0 :: vs) = ioA as vs by simp [ioA]] at h
    exact ArgR.memIo t h
  | _, _, _, .io o q t, h => by
    simp only [ioA] at h
    rcases List.mem_cons.mp h with rfl | h
    · exact o
    · exact ArgR.memIo t h
theorem ioA_val {d : W2.D} {v : V} {as : List AV} {vs : List V} : ioA (.val d :: as) (v :: vs) = ioA as vs := by simp [ioA]
theorem ArgR.inIo {as : List AV} {vs : List V} {i : Nat} {d : W2.D} {a : Addr} (r : ArgR S H O as vs) (e : as[i]? = some (.io d)) (ev : vs[i]? = some (.ref a)) : a ∈ ioA as vs := by
  obtain ⟨b, h1, _, _, h4⟩ := r.getIo e
  rw [ev] at h1; cases h1
  exact h4
theorem ioA_sep {as : List AV} {vs : List V} (r : ArgR S H O as vs) : ∀ {i j : Nat} {d e : W2.D} {a : Addr}, (ioA as vs).Nodup → as[i]? = some (.io d) → as[j]? = some (.io e) → vs[i]? = some (.ref a) → vs[j]? = some (.ref a) → i = j := by
  induction r with
  | nil => intro i j d e a _ e1; simp at e1
  | val q t ih =>
    intro i j d e a nd e1 e2 e3 e4
    rw [ioA_val] at nd
    cases i with
    | zero => simp at e1
    | succ i =>
      cases j with
      | zero => simp at e2
      | succ j => exact congrArg Nat.succ (ih (i := i) (j := j) (d := d) (e := e) (a := a) nd (by simpa using e1) (by simpa using e2) (by simpa using e3) (by simpa using e4))
  | io o q t ih =>
    intro i j d e a nd e1 e2 e3 e4
    simp only [ioA, List.nodup_cons] at nd
    cases i with
    | zero =>
      cases j with
      | zero => rfl
      | succ j =>
        simp at e3
        subst e3
        exact absurd (t.inIo (i := j) (by simpa using e2) (by simpa using e4)) nd.1
    | succ i =>
      cases j with
      | zero =>
        simp at e4
        subst e4
        exact absurd (t.inIo (i := i) (by simpa using e1) (by simpa using e3)) nd.1
      | succ j => exact congrArg Nat.succ (ih (i := i) (j := j) (d := d) (e := e) (a := a) nd.2 (by simpa using e1) (by simpa using e2) (by simpa using e3) (by simpa using e4))

open Classical in
noncomputable def bz (t : Tb) (H : Hp) (as : List AV) (vs : List V) : Hp := fun a => if a ∈ ioA as vs ∨ ∃ o, H a = some o ∧ hid t o then none else H a
theorem bz_in {t : Tb} {as : List AV} {vs : List V} {a : Addr} (h : a ∈ ioA as vs) : bz t H as vs a = none := by unfold bz; exact if_pos (.inl h)
theorem bz_out {as : List AV} {vs : List V} {a : Addr} (h : a ∉ ioA as vs) : bz none H as vs a = H a := by unfold bz; exact if_neg (fun z => z.elim h fun ⟨_, _, n, _⟩ => n rfl)
theorem bz_some {t : Tb} {as : List AV} {vs : List V} {a : Addr} {o : HO} (e : bz t H as vs a = some o) : H a = some o ∧ ¬ hid t o := by
  unfold bz at e
  split at e
  · cases e
  · rename_i h
    exact ⟨e, fun z => h (.inr ⟨o, e, z⟩)⟩
/-- what a def may lean on at its start -/
noncomputable def bd0 (t : Tb) (H : Hp) (O : Addr → Prop) (as : List AV) (vs : List V) : Bd :=
  ⟨bz t H as vs, O, O, fun i => match vs[i]? with
    | some (.ref a) => some a
    | _ => none, t, fun _ _ e => (bz_some e).2⟩
theorem bd0_in {t : Tb} {as : List AV} {vs : List V} {a : Addr} (h : a ∈ ioA as vs) : (bd0 t H O as vs).Z a = none := bz_in h
theorem bd0_out {as : List AV} {vs : List V} {a : Addr} (h : a ∉ ioA as vs) : (bd0 none H O as vs).Z a = H a := bz_out h
theorem bd0_some {t : Tb} {as : List AV} {vs : List V} {a : Addr} {o : HO} (e : (bd0 t H O as vs).Z a = some o) : H a = some o := (bz_some e).1
theorem SR.begin {t : Tb} {N : List Str} {as : List AV} {vs : List V} (r : ArgR S H O as vs) (nd : (ioA as vs).Nodup) (al : TabK t H ∧ ∀ a, O a → ∃ o, H a = some o ∧ ¬ isTbl o) (hl : vs.length ≤ N.length) : SR S (bd0 t H O as vs) (entry N.length as) (L2.start N vs) H O := by
  have len := r.length
  have own : ∀ (i : Nat) (s : SV), (entry N.length as)[i]? = some s → s.isOwn = true → ∃ d a, as[i]? = some (.io d) ∧ s = .io d ∧ vs[i]? = some (.ref a) ∧ (L2.start N vs)[i]? = some (some (.ref a)) ∧ O a ∧ RpO S H O d a ∧ a ∈ ioA as vs := by
    intro i s e h
    rcases entry_get e with ⟨av, e1, rfl⟩ | rfl
    · cases av with
      | val d => cases h
      | io d =>
        obtain ⟨a, h1, h2, h3, h4⟩ := r.getIo e1
        exact ⟨d, a, e1, rfl, h1, start_get h1, h2, h3, h4⟩
    · cases h
  refine ⟨fun a o e => ?_, fun _ h => h, fun _ h => .inl h, al, ?_, fun i d e => ?_, fun i s d e1 e2 e3 => ?_, fun i s a e1 e2 => ?_, fun i j s t a e1 e2 e3 e4 e5 e6 => ?_⟩
  · exact bd0_some e
  · rw [entry_eq]
    unfold L2.start
    simp [len]
  · rcases entry_get e with ⟨av, e1, e2⟩ | z
    · cases av with
      | val d' =>
        cases e2
        obtain ⟨v, h1, h2⟩ := r.getVal e1
        exact ⟨v, start_get h1, h2⟩
      | io d' => cases e2
    · cases z
  · obtain ⟨d', a, f1, f2, f3, f4, f5, f6, f7⟩ := own i s e1 e2
    subst f2
    cases e3
    exact ⟨a, f4, f5, bd0_in f7, f6⟩
  · by_cases h : s.isOwn = true
    · obtain ⟨d', b, f1, f2, f3, f4, f5, f6, f7⟩ := own i s e1 h
      subst f2
      rw [f4] at e2; cases e2
      show (match vs[i]? with | some (.ref a) => some a | _ => none) = some _
      rw [f3]
    · exact .plain (by simpa using h)
  · obtain ⟨d1, b1, f1, _, f3, f4, _⟩ := own i s e1 e2
    obtain ⟨d2, b2, g1, _, g3, g4, _⟩ := own j t e3 e4
    rw [f4] at e5; cases e5
    rw [g4] at e6; cases e6
    exact ioA_sep r nd f1 g1 f3 g3
theorem iosAt_rep {B : Bd} {ρ : Env} {σ : L2.St} (r : SR S B ρ σ H O) (vs0 : List V) (hat : ∀ (i : Nat) (a : Addr), B.at_ i = some a → vs0[i]? = some (.ref a)) : ∀ {as : List AV} {vs : List V} {ρ' : Env} {k : Nat} {ds : List W2.D}, as.length = vs.length → (∀ j, ρ'[j]? = ρ[k + j]?) → (∀ j, vs[j]? = vs0[k + j]?) → iosAt as ρ' = some ds → IoR S H O (ioA as vs) ds
  | [], vs, ρ', k, ds, hl, h1, h2, e => by
    simp [iosAt] at e
    subst e
    cases vs with
    | nil => exact .nil
    | cons => cases hl
  | .val d :: as, vs, ρ', k, ds, hl, h1, h2, e => by
    cases vs with
    | nil => cases hl
    | cons v vs =>
      rw [ioA_val]
      cases ρ' with
      | nil => simp [iosAt] at e
      | cons s ρ' =>
        simp only [iosAt] at e
        refine iosAt_rep r vs0 hat (k := k + 1) (by simpa using hl) (fun j => ?_) (fun j => ?_) e
        · have := h1 (j + 1); rw [List.getElem?_cons_succ] at this; rw [this]; congr 1; omega
        · have := h2 (j + 1); rw [List.getElem?_cons_succ] at this; rw [this]; congr 1; omega
  | .io d :: as, vs, ρ', k, ds, hl, h1, h2, e => by
    cases vs with
    | nil => cases hl
    | cons v vs =>
      cases ρ' with
      | nil => simp [iosAt] at e
      | cons s ρ' =>
        cases s with
        | io d' =>
          simp only [iosAt, Option.map_eq_some_iff] at e
          obtain ⟨ds', e, rfl⟩ := e
          have e0 : ρ[k]? = some (.io d') := by have := h1 0; simpa using this.symm
          obtain ⟨a, e4, o, z, q⟩ := r.own k _ d' e0 rfl rfl
          have m : B.at_ k = some a := r.mine k _ a e0 e4
          have ev : v = .ref a := by
            have h3 := h2 0
            rw [Nat.add_zero, hat k a m] at h3
            simpa using h3
          subst ev
          simp only [ioA]
          refine .cons q (iosAt_rep r vs0 hat (k := k + 1) (by simpa using hl) (fun j => ?_) (fun j => ?_) e)
          · have := h1 (j + 1); rw [List.getElem?_cons_succ] at this; rw [this]; congr 1; omega
          · have := h2 (j + 1); rw [List.getElem?_cons_succ] at this; rw [this]; congr 1; omega
        | _ => simp [iosAt] at e
theorem iosAt_R {t : Tb} {H0 : Hp} {O0 : Addr → Prop} {as : List AV} {vs : List V} {ρ : Env} {σ : L2.St} {ds : List W2.D} (r : SR S (bd0 t H0 O0 as vs) ρ σ H O) (hl : as.length = vs.length) (e : iosAt as ρ = some ds) : IoR S H O (ioA as vs) ds := by
  refine iosAt_rep r vs (fun i a h => ?_) (k := 0) hl (fun j => by rw [Nat.zero_add]) (fun j => by rw [Nat.zero_add]) e
  have h : (match vs[i]? with | some (.ref a) => some a | _ => none) = some a := h
  split at h
  · rename_i b e'; cases h; exact e'
  · cases h
theorem grow_of {H0 : Hp} {O0 : Addr → Prop} {as : List AV} {vs : List V} {ρ : Env} {σ : L2.St} (r : SR S (bd0 none H0 O0 as vs) ρ σ H O) : Grow H0 H (ioA as vs) := fun a o e n => r.keep a o ((bd0_out n).trans e)
end

/-- a def's contract -/
def conD (Γ : Ctr) (F p n : Nat) (t : List St) (as : List AV) : CRes := if as.length = p then runD Γ F n t as else .bad
theorem end_of {S : Sur} {H : Hp} {O : Addr → Prop} {as : List AV} {vs : List V} {Q : VK} {E : XK} {r : RS} (ar : ArgR S H O as vs)
    (c : CRep S H O (ioA as vs) Q E (match r with
      | .nxt ρ => match iosAt as ρ with
        | some ds => .ok (.non, false) ds
        | none => .bad
      | .ret v ρ => match iosAt as ρ with
        | some ds => .ok v ds
        | none => .bad
      | .err x ρ => match iosAt as ρ with
        | some ds => .err x ds
        | none => .bad
      | .bad => .bad)) : GS S (bd0 none H O as vs) { nx := fun _ H' => Q .non H', rt := Q } (fun cls d _ H => E cls d H) r := by
  have hl := ar.length
  match r, c with
  | .nxt ρ, c =>
    intro σ H' O' r
    simp only at c
    split at c
    · rename_i ds e
      exact c .non H' (grow_of r) ((iosAt_R r hl e).less r.sub) .non
    · exact False.elim c
  | .ret (d, false) ρ, c =>
    intro v σ H' O' r q
    simp only at c
    split at c
    · rename_i ds e
      exact c v H' (grow_of r) ((iosAt_R r hl e).less r.sub) (q.less r.sub)
    · exact False.elim c
  | .ret (d, true) ρ, c =>
    intro a σ H' O' r z no h0 ow q
    simp only at c
    split at c
    · rename_i ds e
      have w : ∀ b, orA O a b → orA O' a b := fun b h => h.imp (h0 b) id
      refine c a H' (grow_of r) ?_ ((iosAt_R r hl e).less w) (q.less w)
      by_cases hm : a ∈ ioA as vs
      · exact absurd (h0 a (ar.memIo hm)) no
      · rw [bd0_out hm] at z; exact z
    · exact False.elim c
  | .err x ρ, c =>
    intro σ cls dd H' O' r q
    simp only at c
    split at c
    · rename_i ds e
      exact c cls dd H' (grow_of r) ((iosAt_R r hl e).less r.sub) (q.less r.sub)
    · exact False.elim c
  | .bad, c => exact c

theorem fnok_dl {P : Program} {w : World} {K : PySem.W.Frag} {mg : Str → Option Value} {base : Heap} {LV : Nat} {Γ : Ctr} {f : Addr} {name qual : Str} {params : Arguments} {body : List Stmt} {scope : Scope} {dV kV doc pm cdv ct oc : Value} {an od : Option Addr} {osl : Array (Option Value)} {N ps : List Str} {F : Nat} {t : List St}
    (tn : Γ.tb = none) (M : ModK P w K mg base LV Γ) (lk : K.lookup f = some ⟨oc, od, .func (PySem.W.fnOf name qual params body scope dV kV doc pm an cdv ct), osl⟩) (hcd : PySem.W.codeIn K cdv qual = true) (SC : FnScope N ps scope) (hb : OkSs Γ F N scope body t) :
    FnOk P w K mg base (L2.CX P w) (LV + 1) f (PySem.W.fnOf name qual params body scope dV kV doc pm an cdv ct) ps (spD ps.length ⟨K, mg⟩ (conD Γ F ps.length N.length t)) := by
  refine fn_of (N := N) lk hcd SC (fun vs H Q E h => h.1) fun A outer s H vs Q E room sp => ?_
  obtain ⟨hl, O, as, ar, nd, al, c⟩ := sp
  have hpl : ps.length ≤ N.length := by have := congrArg List.length SC.pre; rw [List.length_take] at this; omega
  refine ⟨_, pss_tw, ?_⟩
  have xd : XDS Γ N scope (cxOf (L2.CX P w) P w K mg base N qual scope f cdv A outer s H E) :=
    ⟨⟨rfl, SC.nd, rfl, rfl, ⟨LV, room, fun n => absurd tn n, M⟩, fun p q e => by rw [tn] at e; cases e⟩, fun _ => rfl, SC.kind, rfl, rfl, passes_of rfl⟩
  refine hb _ xd (bd0 none H O as vs) (entry N.length as) _ H O _ (fun cls d _ H => E cls d H) (SR.begin ar nd ⟨TabK.no, al⟩ (by omega)) ⟨takes_of rfl rfl rfl rfl, fun p e => by rw [tn] at e; cases e⟩ ?_
  unfold conD at c
  split at c
  · exact end_of ar c
  · exact False.elim c
theorem fn_dl {P : Program} {w : World} {K : PySem.W.Frag} {mg : Str → Option Value} {base : Heap} {LV : Nat} {Γ : Ctr} {x : Str} {f : Addr} {name qual : Str} {params : Arguments} {body : List Stmt} {scope : Scope} {dV kV doc pm cdv ct oc : Value} {an od : Option Addr} {osl : Array (Option Value)} {N ps : List Str} {F : Nat} {t : List St}
    (tn : Γ.tb = none) (M : ModK P w K mg base LV Γ) (lk : K.lookup f = some ⟨oc, od, .func (PySem.W.fnOf name qual params body scope dV kV doc pm an cdv ct), osl⟩) (hcd : PySem.W.codeIn K cdv qual = true) (SC : FnScope N ps scope) (hb : OkSs Γ F N scope body t)
    (g : mg x = some (.ref f)) (k : PySem.W.keepIn K (.ref f) = true) (bi : Binds K (PySem.W.fnOf name qual params body scope dV kV doc pm an cdv ct) ps []) (hd : (x == ("__debug__" : Str)) = false) :
    FnK P w K mg base (LV + 1) x ps.length (conD Γ F ps.length N.length t) := by
  refine ⟨fun as h => ?_, ⟨f, _, ps, g, k, bi, fnok_dl tn M lk hcd SC hb⟩, hd⟩
  unfold conD at h
  split at h
  · assumption
  · exact absurd rfl h
theorem FnK.mono {P : Program} {w : World} {K : PySem.W.Frag} {mg : Str → Option Value} {base : Heap} {j k n : Nat} {x : Str} {c : List AV → CRes} (h : FnK P w K mg base j x n c) (l : j ≤ k) : FnK P w K mg base k x n c := by
  obtain ⟨a, fd, ps, h1, h2, h3, h4⟩ := h.ok
  exact ⟨h.ar, ⟨a, fd, ps, h1, h2, h3, h4.mono l⟩, h.dbg⟩
/-- the promise of a law's def whose frame makes lambdas: p, its table -/
def spLawT (K : PySem.W.Frag) (p : Addr) : Sp := fun vs H Q _ => ∃ (a : Addr) (ns : List Int), vs = [.ref a] ∧ H p = some (.tbl #[]) ∧ SqL K H a (ns.map V.int) ∧ ns.length ≤ 63 ∧ ∀ H', Q (.bl true) H'
theorem ints_rep {S : Sur} {H : Hp} {O : Addr → Prop} : ∀ ns : List Int, RpL S H O (ns.map W2.D.int) (ns.map V.int)
  | [] => .nil
  | n :: ns => .cons (.int n) (ints_rep ns)
theorem fnok_lam {P : Program} {w : World} {K : PySem.W.Frag} {mg : Str → Option Value} {base : Heap} {LV : Nat} {Γ : Ctr} {f : Addr} {name qual : Str} {params : Arguments} {body : List Stmt} {scope : Scope} {dV kV doc pm cdv ct oc : Value} {an od : Option Addr} {osl : Array (Option Value)} {N ps : List Str} {F : Nat} {t : List St} {c p : Addr}
    (tn : Γ.tb = some (p, qual ++ ".<locals>." ++ "<lambda>")) (hc : cdv = .ref c) (TB : LamX.TabB base mg c p) (M : ModK P w K mg base LV Γ) (lk : K.lookup f = some ⟨oc, od, .func (PySem.W.fnOf name qual params body scope dV kV doc pm an cdv ct), osl⟩) (hcd : PySem.W.codeIn K cdv qual = true) (SC : FnScope N ps scope) (hb : OkSs Γ F N scope body t)
    (h1 : ps.length = 1) (hl : ∀ ns : List Int, ns.length ≤ 63 → conD Γ F ps.length N.length t [.val (.frz (ns.map W2.D.int))] = .ok (.bl true, false) []) :
    FnOk P w K mg base (L2.CX P w) (LV + 3) f (PySem.W.fnOf name qual params body scope dV kV doc pm an cdv ct) ps (spLawT K p) := by
  refine fn_of (N := N) lk hcd SC (fun vs H Q E h => by obtain ⟨a, ns, e, _⟩ := h; rw [e, h1]; rfl) fun A outer s H vs Q E room sp => ?_
  obtain ⟨a, ns, rfl, hp, sq, hn, q⟩ := sp
  have hpl : ps.length ≤ N.length := by have := congrArg List.length SC.pre; rw [List.length_take] at this; omega
  refine ⟨_, pss_tw, ?_⟩
  have xd : XDS Γ N scope (cxOf (L2.CX P w) P w K mg base N qual scope f cdv A outer s H E) :=
    ⟨⟨rfl, SC.nd, rfl, rfl, ⟨LV, Room.mono room (Nat.le_add_right _ 2), fun _ => room, M⟩, fun p' q' e => by
      rw [tn] at e
      cases e
      exact ⟨rfl, c, TB, hc⟩⟩, fun _ => rfl, SC.kind, rfl, rfl, passes_of rfl⟩
  have ar : ArgR ⟨K, mg⟩ H (fun _ => False) [.val (.frz (ns.map W2.D.int))] [V.ref a] := by
    refine .val (.frz ?_ (ints_rep ns)) .nil
    rcases sq with (s | ⟨ob, s⟩) | s
    · exact .inr ⟨s, id⟩
    · exact .inl (.inl ⟨ob, s⟩)
    · exact .inl (.inr s)
  have r0 := SR.begin (S := ⟨K, mg⟩) (t := some (p, qual ++ ".<locals>." ++ "<lambda>")) (N := N) ar (by simp [ioA]) ⟨fun a' q' e => by cases e; exact LamX.TabS.nil hp, fun _ h => h.elim⟩ (show 1 ≤ N.length by omega)
  refine hb _ xd _ _ _ H _ _ (fun cls d _ H => E cls d H) r0 ⟨takes_of rfl rfl rfl rfl, fun p' e => by rw [tn] at e; exact e⟩ ?_
  have hl := hl ns hn
  unfold conD at hl
  rw [if_pos (show [AV.val (W2.D.frz (ns.map W2.D.int))].length = ps.length from h1.symm)] at hl
  unfold runD at hl
  cases er : evalSs Γ F t (entry N.length [.val (.frz (ns.map W2.D.int))]) with
  | bad => rw [er] at hl; cases hl
  | nxt ρ =>
    rw [er] at hl
    simp only at hl
    split at hl <;> cases hl
  | err x ρ =>
    rw [er] at hl
    simp only at hl
    split at hl <;> cases hl
  | ret v ρ =>
    rw [er] at hl
    simp only at hl
    split at hl
    · cases hl
      intro u σ H' O' r' q'
      cases q'
      exact q H'
    · cases hl
end W2

/-! A check by the machine: the small tongue is the text. -/
namespace W2
open PySem L2

def visB (sc : Scope) (y : Str) : Bool :=
  match sc.names.lookup y with
  | some .local => true
  | some .cell => true
  | some .free => true
  | _ => false
def locB (sc : Scope) (y : Str) : Bool :=
  match sc.names.lookup y with
  | some .local => true
  | some .cell => true
  | _ => false
def glB (sc : Scope) (y : Str) : Bool := decide (sc.names.lookup y = some .globalImplicit)
def okName (y : Str) : Bool := !(y == ("__debug__" : Str)) && !(y == ("__classdict__" : Str))
def nmB (N : List Str) (sc : Scope) (i : Nat) (y : Str) : Bool := decide (N[i]? = some y) && visB sc y && okName y
theorem visB_ok {sc : Scope} {y : Str} (h : visB sc y = true) : Vis sc y := by
  unfold visB at h
  unfold Vis
  split at h
  · exact .inl (by assumption)
  · exact .inr (.inl (by assumption))
  · exact .inr (.inr (by assumption))
  · cases h
theorem locB_ok {sc : Scope} {y : Str} (h : locB sc y = true) : L2.Loc sc y := by
  unfold locB at h
  unfold L2.Loc
  split at h
  · exact .inl (by assumption)
  · exact .inr (by assumption)
  · cases h
theorem glB_ok {sc : Scope} {y : Str} (h : glB sc y = true) : sc.names.lookup y = some .globalImplicit := of_decide_eq_true h
theorem okName_ok {y : Str} (h : okName y = true) : (y == ("__debug__" : Str)) = false ∧ (y == ("__classdict__" : Str)) = false := by
  unfold okName at h
  simpa only [Bool.and_eq_true, Bool.not_eq_true'] using h
theorem nmB_ok {N : List Str} {sc : Scope} {i : Nat} {y : Str} (h : nmB N sc i y = true) : N[i]? = some y ∧ Vis sc y ∧ (y == ("__debug__" : Str)) = false ∧ (y == ("__classdict__" : Str)) = false := by
  unfold nmB at h
  simp only [Bool.and_eq_true, decide_eq_true_eq] at h
  exact ⟨h.1.1, visB_ok h.1.2, (okName_ok h.2).1, (okName_ok h.2).2⟩
def cstB (d : D) (e : Expr) : Bool :=
  match e with
  | .Constant .none _ _ => match d with
    | .non => true
    | _ => false
  | .Constant (.bool b) _ _ => match d with
    | .bl c => b == c
    | _ => false
  | .Constant (.int i) _ _ => match d with
    | .int j => decide (i = j)
    | _ => false
  | .Constant (.str x) _ _ => match d with
    | .str y => decide (x = y)
    | _ => false
  | _ => false
section
variable {Γ : Ctr} {F : Nat} {N : List Str} {sc : Scope}
theorem cstB_ok {d : D} {e : Expr} (h : cstB d e = true) : OkE Γ N sc e (.cst d) := by
  unfold cstB at h
  split at h
  · split at h
    · exact ok_cst_non
    · cases h
  · split at h
    · have := eq_of_beq h; subst this; exact ok_cst_bl
    · cases h
  · split at h
    · have := of_decide_eq_true h; subst this; exact ok_cst_int
    · cases h
  · split at h
    · have := of_decide_eq_true h; subst this; exact ok_cst_str
    · cases h
  · cases h
theorem cstB_cstE {d : D} {e : Expr} (h : cstB d e = true) : cstE e = some d := by
  unfold cstB at h
  split at h
  · split at h
    · rfl
    · cases h
  · split at h
    · have := eq_of_beq h; subst this; rfl
    · cases h
  · split at h
    · have := of_decide_eq_true h; subst this; rfl
    · cases h
  · split at h
    · have := of_decide_eq_true h; subst this; rfl
    · cases h
  · cases h
end

/-! ### targets -/
mutual
def cG (N : List Str) (loc : Str → Bool) : Tg → Expr → Bool
  | .nm i, e => match e with
    | .Name y _ => decide (N[i]? = some y) && loc y
    | _ => false
  | .tp ts, e => match e with
    | .Tuple es _ _ => cGs N loc ts es && es.all noStar
    | _ => false
def cGs (N : List Str) (loc : Str → Bool) : List Tg → List Expr → Bool
  | [], es => match es with
    | [] => true
    | _ => false
  | t :: ts, es => match es with
    | e :: es => cG N loc t e && cGs N loc ts es
    | [] => false
end
section
variable {N : List Str} {loc : Str → Bool} {X : Cx} (hN : X.N = N) (nd : N.Nodup) (hc : X.calm = true) (hl : ∀ y, loc y = true → L2.Loc X.env.scope y ∧ (X.fn y = true ∨ X.env.scope.names.lookup y = some .local))
include hN nd hc hl
mutual
theorem cG_ok : ∀ (t : Tg) (e : Expr), cG N loc t e = true → OkG X e t
  | .nm i, e, h => by
    simp only [cG] at h
    split at h
    · simp only [Bool.and_eq_true, decide_eq_true_eq] at h
      obtain ⟨h1, h2⟩ := hl _ h.2
      exact okg_nm (by rw [hN]; exact nd) (by rw [hN]; exact h.1) h1 h2
    · cases h
  | .tp ts, e, h => by
    simp only [cG] at h
    split at h
    · simp only [Bool.and_eq_true] at h
      exact okg_tp hc ((cGs_ok ts _ h.1).1 h.2) h.2 (cGs_ok ts _ h.1).2
    · cases h
theorem cGs_ok : ∀ (ts : List Tg) (es : List Expr), cGs N loc ts es = true → (es.all noStar = true → OkGs X es ts) ∧ es.length = ts.length
  | [], es, h => by
    simp only [cGs] at h
    split at h
    · exact ⟨fun _ => okgs_nil, rfl⟩
    · cases h
  | t :: ts, es, h => by
    simp only [cGs] at h
    split at h
    · simp only [Bool.and_eq_true] at h
      obtain ⟨h1, h2⟩ := cGs_ok ts _ h.2
      refine ⟨fun hs => ?_, by simp [h2]⟩
      simp only [List.all_cons, Bool.and_eq_true] at hs
      exact okgs_cons (cG_ok t _ h.1) (h1 hs.2) hs.1
    · cases h
end
end

/-! ### expressions -/
def isNm (f : Str) (e : Expr) : Bool :=
  match e with
  | .Name y _ => decide (y = f)
  | _ => false
def nameOf : Nat → List Str → Str := fun j N => N.getD j ("" : Str)
def ownOf (N : List Str) (vs : List Nat) : List (Str × Nat) := vs.map fun j => (nameOf j N, j)
theorem ownOf_snd (N : List Str) (vs : List Nat) : (ownOf N vs).map (·.2) = vs := by
  unfold ownOf
  rw [List.map_map]
  exact List.map_id'' (fun _ => rfl) vs
def notSet : Expr → Bool
  | .Set _ _ _ => false
  | _ => true
theorem notSet_ok {e : Expr} (h : notSet e = true) (env : PySem.Env) (x : Value) : foldedSetIterable e env x = pure x := by
  cases e <;> first | rfl | cases h
def isTup : Expr → Bool
  | .Tuple _ _ _ => true
  | _ => false
/-- how a block's own names may be stored -/
def blkLoc (scope sc : Scope) (y : Str) : Bool :=
  decide ((relS scope sc).names.lookup y = some .local) || (decide ((relS scope sc).names.lookup y = some .cell) && (scope.names.lookup y == some .cell))
def isiTs : List (Str × String) := [(("int" : Str), "int"), ("bool", "bool"), ("str", "str"), ("tuple", "tuple"), ("list", "list")]
def isTrueE : E → Bool
  | .cst (.bl true) => true
  | _ => false
mutual
def cE (N : List Str) : E → Scope → Expr → Bool
  | .var i, sc, e => match e with
    | .Name y _ => nmB N sc i y
    | _ => false
  | .cst d, sc, e => cstB d e
  | .glb x, sc, e => match e with
    | .Name y _ => decide (x = y) && glB sc y
    | _ => false
  | .tup ts, sc, e => match e with
    | .Tuple es _ _ => cL N ts sc es
    | _ => false
  | .lst ts, sc, e => match e with
    | .List es _ => cL N ts sc es
    | _ => false
  | .bin op a b, sc, e => match e with
    | .BinOp x op' y _ => decide (op = op') && (cE N a sc x && cE N b sc y)
    | _ => false
  | .neg a, sc, e => match e with
    | .UnaryOp .USub x _ => cE N a sc x
    | _ => false
  | .cmp op a b, sc, e => match e with
    | .Compare x [op'] [y] _ => decide (op = op') && (cE N a sc x && (cE N b sc y && !behindInMarks op y))
    | _ => false
  | .chn o1 o2 a b c, sc, e => match e with
    | .Compare x [p1, p2] [y, z] _ => decide (o1 = p1) && (decide (o2 = p2) && (cE N a sc x && (cE N b sc y && (cE N c sc z && !lastMarks [o1, o2] [y, z]))))
    | _ => false
  | .andE ts, sc, e => match e with
    | .BoolOp .And es _ => cL N ts sc es && !es.isEmpty
    | _ => false
  | .orE ts, sc, e => match e with
    | .BoolOp .Or es _ => cL N ts sc es && !es.isEmpty
    | _ => false
  | .notE a, sc, e => match e with
    | .UnaryOp .Not x _ => cE N a sc x
    | _ => false
  | .ite c a b, sc, e => match e with
    | .IfExp z x y _ => (cT N c sc z || (plainTest z && cE N c sc z)) && (cE N a sc x && cE N b sc y)
    | _ => false
  | .ix a i, sc, e => match e with
    | .Subscript x y _ => notSlice y && (cE N a sc x && cE N i sc y)
    | _ => false
  | .sl a lo hi, sc, e => match e with
    | .Subscript x (.Slice l h none _) _ => cE N a sc x && ((match l with
        | none => !notOff lo
        | some l => notOff lo && cE N lo sc l) && (match h with
        | none => !notOff hi
        | some h => notOff hi && cE N hi sc h))
    | _ => false
  | .off, _, _ => false
  | .isi a T, sc, e => match e with
    | .Call (.Name f _) [x, .Name T' _] [] _ => decide (f = "isinstance") && (glB sc "isinstance" && (glB sc T' && (decide ((T', T) ∈ isiTs) && (noStar x && cE N a sc x))))
    | _ => false
  | .io _, _, _ => false
  | .call f ts, sc, e => match e with
    | .Call (.Name y _) es [] _ => decide (f = y) && (glB sc f && cA N ts sc es)
    | _ => false
  | .blt f ts, sc, e => match e with
    | .Call (.Name y _) es [] _ => decide (f = y) && (glB sc f && (decide (f ∈ builtinNames) && (((bltFn f).isSome || (bltCl f).isSome) && (cL N ts sc es && !es.isEmpty))))
    | _ => false
  | .mth _ _ _, _, _ => false
  | .comp vs elt tg src cond, sc, e => match e with
    | .ListComp x [⟨t, it, ifs, 0⟩] scope _ => blkC N sc scope (ownOf N vs) && (cG N (blkLoc scope sc) tg t && (tg.slots.all (fun j => vs.contains j) && (notSet it && ((cI N src sc t it || (isSeqE src && cE N src sc it)) &&
        ((match ifs with
          | [] => isTrueE cond
          | [c] => cT N cond (relS scope sc) c || (plainTest c && cE N cond (relS scope sc) c)
          | _ => false) && cE N elt (relS scope sc) x)))))
    | _ => false
  | .rng1 _, _, _ => false
  | .rng2 _ _, _, _ => false
  | .enu _, _, _ => false
  | .zip _ _, _, _ => false
  | .brw _ t, sc, e => cE N t sc e
  | .lrg t, sc, e => match t with
    | .rng1 a => match e with
      | .Call (.Name f _) [.Call (.Name g _) [x] [] _] [] _ => decide (f = "list") && (decide (g = "range") && (glB sc "list" && (glB sc "range" && (noStar x && cE N a sc x))))
      | _ => false
    | _ => false
  | .lam f t, sc, e => match e with
    | .Call (.Name y _) [.Lambda params body scope _] [] _ => decide (f = y) && (glB sc f && (isNoParams params && (LamX.lamSB sc scope && cE N t scope body)))
    | _ => false
  | .vcall i ts, sc, e => match e with
    | .Call (.Name y _) (x :: es) [] _ => nmB N sc i y && cA N ts sc (x :: es)
    | _ => false
  | .sset t, sc, e => match e with
    | .Call (.Name f _) [.Call (.Name g _) [x] [] _] [] _ => decide (f = "sorted") && (decide (g = "set") && (glB sc "sorted" && (glB sc "set" && (noStar x && cE N t sc x))))
    | _ => false
def cL (N : List Str) : List E → Scope → List Expr → Bool
  | [], sc, es => es.isEmpty
  | t :: ts, sc, es => match es with
    | e :: es => noStar e && (cE N t sc e && cL N ts sc es)
    | [] => false
def cA (N : List Str) : List E → Scope → List Expr → Bool
  | [], sc, es => es.isEmpty
  | t :: ts, sc, es => match es with
    | e :: es => noStar e && ((match t with
      | .io i => match e with
        | .Name y _ => nmB N sc i y
        | _ => false
      | _ => cE N t sc e) && cA N ts sc es)
    | [] => false
def cI (N : List Str) : E → Scope → Expr → Expr → Bool
  | .rng1 a, sc, t, it => match it with
    | .Call (.Name f _) [x] [] _ => decide (f = "range") && (glB sc "range" && (noStar x && cE N a sc x))
    | _ => false
  | .rng2 a b, sc, t, it => match it with
    | .Call (.Name f _) [x, y] [] _ => decide (f = "range") && (glB sc "range" && (noStar x && (noStar y && (cE N a sc x && cE N b sc y))))
    | _ => false
  | .enu a, sc, t, it => match it with
    | .Call (.Name f _) [x] [] _ => decide (f = "enumerate") && (glB sc "enumerate" && (noStar x && (isTup t && cE N a sc x)))
    | _ => false
  | .zip a b, sc, t, it => match it with
    | .Call (.Name f _) [x, y] [] _ => decide (f = "zip") && (glB sc "zip" && (noStar x && (noStar y && (isTup t && (cE N a sc x && cE N b sc y)))))
    | _ => false
  | _, _, _, _ => false
def cT (N : List Str) : E → Scope → Expr → Bool
  | .andE ts, sc, e => match e with
    | .BoolOp .And es _ => cTL N ts sc es && !es.isEmpty
    | _ => false
  | .orE ts, sc, e => match e with
    | .BoolOp .Or es _ => cTL N ts sc es && !es.isEmpty
    | _ => false
  | .notE a, sc, e => match e with
    | .UnaryOp .Not x _ => cT N a sc x || (plainTest x && cE N a sc x)
    | _ => false
  | .cmp op a b, sc, e => match e with
    | .Compare x [op'] [y] _ => decide (op = op') && (cE N a sc x && (cE N b sc y && !behindInMarks op y))
    | _ => false
  | .chn o1 o2 a b c, sc, e => match e with
    | .Compare x [p1, p2] [y, z] _ => decide (o1 = p1) && (decide (o2 = p2) && (cE N a sc x && (cE N b sc y && (cE N c sc z && !lastMarks [o1, o2] [y, z]))))
    | _ => false
  | .brw _ t, sc, e => cT N t sc e
  | _, _, _ => false
def cTL (N : List Str) : List E → Scope → List Expr → Bool
  | [], sc, es => es.isEmpty
  | t :: ts, sc, es => match es with
    | e :: es => (cT N t sc e || (plainTest e && cE N t sc e)) && cTL N ts sc es
    | [] => false
end
end W2

/-! The check is right: expressions. -/
namespace W2
open PySem L2

inductive A2 (R : Expr → E → Prop) : List Expr → List E → Prop
  | nil : A2 R [] []
  | cons {e : Expr} {t : E} {es : List Expr} {ts : List E} : R e t → A2 R es ts → A2 R (e :: es) (t :: ts)
section
variable {Γ : Ctr} {N : List Str} {sc : Scope}
theorem a2_L : ∀ {es : List Expr} {ts : List E}, A2 (OkE Γ N sc) es ts → es.all noStar = true → OkL Γ N sc es ts
  | _, _, .nil, _ => ok_L_nil
  | _, _, .cons h t, hs => by
    simp only [List.all_cons, Bool.and_eq_true] at hs
    exact ok_L_cons h (a2_L t hs.2) hs.1
theorem a2_and {pos : Pos} : ∀ {es : List Expr} {ts : List E}, A2 (OkE Γ N sc) es ts → es.isEmpty = false → OkE Γ N sc (.BoolOp .And es pos) (.andE ts)
  | _, _, .cons h .nil, _ => ok_and1 h
  | _, _, .cons h (.cons h2 t), _ => ok_and h (a2_and (.cons h2 t) rfl)
theorem a2_or {pos : Pos} : ∀ {es : List Expr} {ts : List E}, A2 (OkE Γ N sc) es ts → es.isEmpty = false → OkE Γ N sc (.BoolOp .Or es pos) (.orE ts)
  | _, _, .cons h .nil, _ => ok_or1 h
  | _, _, .cons h (.cons h2 t), _ => ok_or h (a2_or (.cons h2 t) rfl)
theorem a2_andT {pos : Pos} : ∀ {es : List Expr} {ts : List E}, A2 (OkT Γ N sc) es ts → es.isEmpty = false → OkW Γ N sc (.BoolOp .And es pos) (.andE ts)
  | _, _, .cons h .nil, _ => okw_and1 h
  | _, _, .cons h (.cons h2 t), _ => okw_and h (a2_andT (.cons h2 t) rfl)
theorem a2_orT {pos : Pos} : ∀ {es : List Expr} {ts : List E}, A2 (OkT Γ N sc) es ts → es.isEmpty = false → OkW Γ N sc (.BoolOp .Or es pos) (.orE ts)
  | _, _, .cons h .nil, _ => okw_or1 h
  | _, _, .cons h (.cons h2 t), _ => okw_or h (a2_orT (.cons h2 t) rfl)
theorem isTrueE_ok {t : E} (h : isTrueE t = true) : t = .cst (.bl true) := by
  unfold isTrueE at h
  split at h
  · rfl
  · cases h
theorem okx_call {f : Str} {es : List Expr} {ts : List E} {p1 pos : Pos} (h : OkA Γ N sc es ts) (hs : es.all noStar = true) (hl : es.length = ts.length) (hg : sc.names.lookup f = some .globalImplicit) : OkE Γ N sc (.Call (.Name f p1) es [] pos) (.call f ts) := by
  cases es with
  | nil => cases ts with
    | nil => exact ok_call0 hg
    | cons => cases hl
  | cons e es => exact ok_call h hs hg
end
section
variable {N : List Str}
theorem test_of {Γ : Ctr} {t : E} {sc : Scope} {e : Expr} (hT : cT N t sc e = true → OkT Γ N sc e t) (hE : cE N t sc e = true → OkE Γ N sc e t) (h : (cT N t sc e || (plainTest e && cE N t sc e)) = true) : OkT Γ N sc e t := by
  rw [Bool.or_eq_true, Bool.and_eq_true] at h
  rcases h with h | ⟨h1, h2⟩
  · exact hT h
  · exact okt_val (hE h2) h1
mutual
theorem cE_ok {Γ : Ctr} : ∀ (t : E) (sc : Scope) (e : Expr), cE N t sc e = true → OkE Γ N sc e t
  | .var i, sc, e, h => by
    simp only [cE] at h
    split at h
    · obtain ⟨h1, h2, h3, h4⟩ := nmB_ok h
      exact ok_var h1 h2 h3 h4
    · cases h
  | .cst d, sc, e, h => by
    simp only [cE] at h
    exact cstB_ok h
  | .glb x, sc, e, h => by
    simp only [cE] at h
    split at h
    · rw [Bool.and_eq_true, decide_eq_true_eq] at h
      obtain ⟨rfl, h⟩ := h
      exact ok_glb (glB_ok h)
    · cases h
  | .tup ts, sc, e, h => by
    simp only [cE] at h
    split at h
    · obtain ⟨h1, h2, _⟩ := cL_ok (Γ := Γ) ts sc _ h
      exact ok_tup (a2_L h1 h2)
    · cases h
  | .lst ts, sc, e, h => by
    simp only [cE] at h
    split at h
    · obtain ⟨h1, h2, _⟩ := cL_ok (Γ := Γ) ts sc _ h
      exact ok_lst (a2_L h1 h2)
    · cases h
  | .bin op a b, sc, e, h => by
    simp only [cE] at h
    split at h
    · simp only [Bool.and_eq_true, decide_eq_true_eq] at h
      obtain ⟨rfl, h1, h2⟩ := h
      exact ok_bin (cE_ok a sc _ h1) (cE_ok b sc _ h2)
    · cases h
  | .neg a, sc, e, h => by
    simp only [cE] at h
    split at h
    · exact ok_neg (cE_ok a sc _ h)
    · cases h
  | .cmp op a b, sc, e, h => by
    simp only [cE] at h
    split at h
    · simp only [Bool.and_eq_true, decide_eq_true_eq, Bool.not_eq_true'] at h
      obtain ⟨rfl, h1, h2, h3⟩ := h
      exact ok_cmp (cE_ok a sc _ h1) (cE_ok b sc _ h2) h3
    · cases h
  | .chn o1 o2 a b c, sc, e, h => by
    simp only [cE] at h
    split at h
    · simp only [Bool.and_eq_true, decide_eq_true_eq, Bool.not_eq_true'] at h
      obtain ⟨rfl, rfl, h1, h2, h3, h4⟩ := h
      exact ok_chn (cE_ok a sc _ h1) (cE_ok b sc _ h2) (cE_ok c sc _ h3) h4
    · cases h
  | .andE ts, sc, e, h => by
    simp only [cE] at h
    split at h
    · simp only [Bool.and_eq_true, Bool.not_eq_true'] at h
      exact a2_and (cL_ok ts sc _ h.1).1 h.2
    · cases h
  | .orE ts, sc, e, h => by
    simp only [cE] at h
    split at h
    · simp only [Bool.and_eq_true, Bool.not_eq_true'] at h
      exact a2_or (cL_ok ts sc _ h.1).1 h.2
    · cases h
  | .notE a, sc, e, h => by
    simp only [cE] at h
    split at h
    · exact ok_not (cE_ok a sc _ h)
    · cases h
  | .ite c a b, sc, e, h => by
    simp only [cE] at h
    split at h
    · rw [Bool.and_eq_true, Bool.and_eq_true] at h
      exact ok_ite (test_of (cT_ok c sc _) (cE_ok c sc _) h.1) (cE_ok a sc _ h.2.1) (cE_ok b sc _ h.2.2)
    · cases h
  | .ix a i, sc, e, h => by
    simp only [cE] at h
    split at h
    · simp only [Bool.and_eq_true] at h
      exact ok_ix (cE_ok a sc _ h.2.1) (cE_ok i sc _ h.2.2) h.1
    · cases h
  | .sl a lo hi, sc, e, h => by
    simp only [cE] at h
    split at h
    · rename_i x l hh _ _
      simp only [Bool.and_eq_true] at h
      obtain ⟨h1, h2, h3⟩ := h
      refine ok_sl (cE_ok a sc _ h1) ?_ ?_
      · cases l with
        | none =>
          have : lo = .off := by cases lo <;> first | rfl | (simp [notOff] at h2; done)
          subst this
          exact okp_none
        | some l =>
          simp only [Bool.and_eq_true] at h2
          exact okp_some (cE_ok lo sc _ h2.2) h2.1
      · cases hh with
        | none =>
          have : hi = .off := by cases hi <;> first | rfl | (simp [notOff] at h3; done)
          subst this
          exact okp_none
        | some l =>
          simp only [Bool.and_eq_true] at h3
          exact okp_some (cE_ok hi sc _ h3.2) h3.1
    · cases h
  | .off, sc, e, h => by simp only [cE] at h; cases h
  | .isi a T, sc, e, h => by
    simp only [cE] at h
    split at h
    · simp only [Bool.and_eq_true, decide_eq_true_eq] at h
      obtain ⟨rfl, h1, h2, h3, h4, h5⟩ := h
      exact ok_isi (cE_ok a sc _ h5) h4 (glB_ok h1) (glB_ok h2) h3
    · cases h
  | .io _, sc, e, h => by simp only [cE] at h; cases h
  | .call f ts, sc, e, h => by
    simp only [cE] at h
    split at h
    · simp only [Bool.and_eq_true, decide_eq_true_eq] at h
      obtain ⟨rfl, h1, h2⟩ := h
      obtain ⟨k1, k2, k3⟩ := cA_ok (Γ := Γ) ts sc _ h2
      exact okx_call k1 k2 k3 (glB_ok h1)
    · cases h
  | .blt f ts, sc, e, h => by
    simp only [cE] at h
    split at h
    · rename_i y _ es _
      simp only [Bool.and_eq_true, decide_eq_true_eq, Bool.or_eq_true, Bool.not_eq_true'] at h
      obtain ⟨rfl, h1, h2, h3, h4, h5⟩ := h
      obtain ⟨k1, k2, k3⟩ := cL_ok (Γ := Γ) ts sc _ h4
      cases es with
      | nil => cases h5
      | cons e es => exact ok_blt (a2_L k1 k2) k2 (glB_ok h1) h2 h3
    · cases h
  | .mth _ _ _, sc, e, h => by simp only [cE] at h; cases h
  | .comp vs elt tg src cond, sc, e, h => by
    simp only [cE] at h
    split at h
    · rename_i x t it ifs scope _
      simp only [Bool.and_eq_true] at h
      obtain ⟨h1, h2, h3, h4, h5, h6, h7⟩ := h
      have := ok_comp (Γ := Γ) (te := elt) (ti := src) (tc := cond) (tt := tg) (own := ownOf N vs) (pos := by assumption) (N := N) (sc := sc) (elt := x) (tg := t) (iter := it) (ifs := ifs) (scope := scope) h1 ?_ ?_ ?_ ?_ (cE_ok elt _ _ h7) (notSet_ok h4)
      · rw [ownOf_snd] at this
        exact this
      · rw [Bool.or_eq_true, Bool.and_eq_true] at h5
        rcases h5 with h5 | ⟨h5, h5'⟩
        · exact cI_ok src sc _ _ h5
        · exact oki_seq (cE_ok src sc _ h5') (evalI_seq h5)
      · intro X xo s0 H0 cl C fp
        refine cG_ok (N := N) (loc := blkLoc scope sc) (by exact xo.n) xo.nd (by exact xo.calm) (fun y hy => ?_) tg t h2
        have es : (X.blk s0 H0 scope (compEnvC scope cl C X.env) fp).env.scope = relS scope sc := by
          rw [← xo.sc]; rfl
        rw [es]
        unfold blkLoc at hy
        simp only [Bool.or_eq_true, Bool.and_eq_true, decide_eq_true_eq] at hy
        rcases hy with hy | ⟨hy, hz⟩
        · exact ⟨.inl hy, .inr hy⟩
        · exact ⟨.inr hy, .inl hz⟩
      · intro j hj
        rw [ownOf_snd]
        rw [List.all_eq_true] at h3
        simpa using h3 j hj
      · split at h6
        · exact .inl ⟨rfl, isTrueE_ok h6⟩
        · exact .inr ⟨_, rfl, test_of (cT_ok cond _ _) (cE_ok cond _ _) h6⟩
        · cases h6
    · cases h
  | .rng1 _, sc, e, h => by simp only [cE] at h; cases h
  | .rng2 _ _, sc, e, h => by simp only [cE] at h; cases h
  | .enu _, sc, e, h => by simp only [cE] at h; cases h
  | .zip _ _, sc, e, h => by simp only [cE] at h; cases h
  | .brw is t, sc, e, h => by
    simp only [cE] at h
    exact ok_brw (cE_ok t sc _ h)
  | .lrg t, sc, e, h => by
    cases t with
    | rng1 a =>
      simp only [cE] at h
      split at h
      · simp only [Bool.and_eq_true, decide_eq_true_eq] at h
        obtain ⟨rfl, rfl, h1, h2, h3, h4⟩ := h
        exact ok_lrg1 (cE_ok a sc _ h4) h3 (glB_ok h2) (glB_ok h1)
      · cases h
    | _ => simp only [cE] at h; cases h
  | .lam f t, sc, e, h => by
    simp only [cE] at h
    split at h
    · simp only [Bool.and_eq_true, decide_eq_true_eq] at h
      obtain ⟨rfl, h1, h2, h3, h4⟩ := h
      exact ok_lam (glB_ok h1) h2 h3 (cE_ok t _ _ h4)
    · cases h
  | .vcall i ts, sc, e, h => by
    simp only [cE] at h
    split at h
    · rw [Bool.and_eq_true] at h
      obtain ⟨h1, h2, h3, h4⟩ := nmB_ok h.1
      obtain ⟨k1, k2, k3⟩ := cA_ok (Γ := Γ) ts sc _ h.2
      exact ok_vcall k1 k2 h1 h2 h3 h4
    · cases h
  | .sset t, sc, e, h => by
    simp only [cE] at h
    split at h
    · simp only [Bool.and_eq_true, decide_eq_true_eq] at h
      obtain ⟨rfl, rfl, h1, h2, h3, h4⟩ := h
      exact ok_sset (cE_ok t sc _ h4) h3 (glB_ok h1) (glB_ok h2)
    · cases h
theorem cL_ok {Γ : Ctr} : ∀ (ts : List E) (sc : Scope) (es : List Expr), cL N ts sc es = true → A2 (OkE Γ N sc) es ts ∧ es.all noStar = true ∧ es.length = ts.length
  | [], sc, es, h => by
    simp only [cL] at h
    cases es with
    | nil => exact ⟨.nil, rfl, rfl⟩
    | cons => cases h
  | t :: ts, sc, es, h => by
    simp only [cL] at h
    split at h
    · simp only [Bool.and_eq_true] at h
      obtain ⟨h1, h2, h3⟩ := h
      obtain ⟨k1, k2, k3⟩ := cL_ok (Γ := Γ) ts sc _ h3
      exact ⟨.cons (cE_ok t sc _ h2) k1, by simp [h1, k2], by simp [k3]⟩
    · cases h
theorem cA_ok {Γ : Ctr} : ∀ (ts : List E) (sc : Scope) (es : List Expr), cA N ts sc es = true → OkA Γ N sc es ts ∧ es.all noStar = true ∧ es.length = ts.length
  | [], sc, es, h => by
    simp only [cA] at h
    cases es with
    | nil => exact ⟨oka_nil, rfl, rfl⟩
    | cons => cases h
  | t :: ts, sc, es, h => by
    simp only [cA] at h
    split at h
    · rename_i e es
      simp only [Bool.and_eq_true] at h
      obtain ⟨h1, h2, h3⟩ := h
      obtain ⟨k1, k2, k3⟩ := cA_ok (Γ := Γ) ts sc _ h3
      refine ⟨?_, by simp [h1, k2], by simp [k3]⟩
      split at h2
      · split at h2
        · obtain ⟨m1, m2, m3, m4⟩ := nmB_ok h2
          exact oka_io m1 m2 m3 m4 k1
        · cases h2
      · rename_i hn
        exact oka_val (cE_ok t sc _ h2) k1 h1 (by cases t <;> first | rfl | exact absurd rfl (hn _))
    · cases h
theorem cI_ok {Γ : Ctr} : ∀ (t : E) (sc : Scope) (tg it : Expr), cI N t sc tg it = true → OkI Γ N sc tg it t
  | .rng1 a, sc, tg, it, h => by
    simp only [cI] at h
    split at h
    · simp only [Bool.and_eq_true, decide_eq_true_eq] at h
      obtain ⟨rfl, h1, h2, h3⟩ := h
      exact oki_rng1 (cE_ok a sc _ h3) h2 (glB_ok h1)
    · cases h
  | .rng2 a b, sc, tg, it, h => by
    simp only [cI] at h
    split at h
    · simp only [Bool.and_eq_true, decide_eq_true_eq] at h
      obtain ⟨rfl, h1, h2, h3, h4, h5⟩ := h
      exact oki_rng2 (cE_ok a sc _ h4) (cE_ok b sc _ h5) h2 h3 (glB_ok h1)
    · cases h
  | .enu a, sc, tg, it, h => by
    simp only [cI] at h
    split at h
    · simp only [Bool.and_eq_true, decide_eq_true_eq] at h
      obtain ⟨rfl, h1, h2, h3, h4⟩ := h
      cases tg <;> first | (simp [isTup] at h3; done) | exact oki_enu (cE_ok a sc _ h4) h2 (glB_ok h1)
    · cases h
  | .zip a b, sc, tg, it, h => by
    simp only [cI] at h
    split at h
    · simp only [Bool.and_eq_true, decide_eq_true_eq] at h
      obtain ⟨rfl, h1, h2, h3, h4, h5, h6⟩ := h
      cases tg <;> first | (simp [isTup] at h4; done) | exact oki_zip (cE_ok a sc _ h5) (cE_ok b sc _ h6) h2 h3 (glB_ok h1)
    · cases h
  | .var _, _, _, _, h => by simp only [cI] at h; cases h
  | .cst _, _, _, _, h => by simp only [cI] at h; cases h
  | .glb _, _, _, _, h => by simp only [cI] at h; cases h
  | .tup _, _, _, _, h => by simp only [cI] at h; cases h
  | .lst _, _, _, _, h => by simp only [cI] at h; cases h
  | .bin _ _ _, _, _, _, h => by simp only [cI] at h; cases h
  | .neg _, _, _, _, h => by simp only [cI] at h; cases h
  | .cmp _ _ _, _, _, _, h => by simp only [cI] at h; cases h
  | .chn _ _ _ _ _, _, _, _, h => by simp only [cI] at h; cases h
  | .andE _, _, _, _, h => by simp only [cI] at h; cases h
  | .orE _, _, _, _, h => by simp only [cI] at h; cases h
  | .notE _, _, _, _, h => by simp only [cI] at h; cases h
  | .ite _ _ _, _, _, _, h => by simp only [cI] at h; cases h
  | .ix _ _, _, _, _, h => by simp only [cI] at h; cases h
  | .sl _ _ _, _, _, _, h => by simp only [cI] at h; cases h
  | .off, _, _, _, h => by simp only [cI] at h; cases h
  | .isi _ _, _, _, _, h => by simp only [cI] at h; cases h
  | .io _, _, _, _, h => by simp only [cI] at h; cases h
  | .call _ _, _, _, _, h => by simp only [cI] at h; cases h
  | .blt _ _, _, _, _, h => by simp only [cI] at h; cases h
  | .mth _ _ _, _, _, _, h => by simp only [cI] at h; cases h
  | .comp _ _ _ _ _, _, _, _, h => by simp only [cI] at h; cases h
  | .brw _ _, _, _, _, h => by simp only [cI] at h; cases h
  | .lrg _, _, _, _, h => by simp only [cI] at h; cases h
  | .lam _ _, _, _, _, h => by simp only [cI] at h; cases h
  | .vcall _ _, _, _, _, h => by simp only [cI] at h; cases h
  | .sset _, _, _, _, h => by simp only [cI] at h; cases h
theorem cT_ok {Γ : Ctr} : ∀ (t : E) (sc : Scope) (e : Expr), cT N t sc e = true → OkT Γ N sc e t
  | .andE ts, sc, e, h => by
    simp only [cT] at h
    split at h
    · simp only [Bool.and_eq_true, Bool.not_eq_true'] at h
      exact (a2_andT (cTL_ok ts sc _ h.1) h.2).t
    · cases h
  | .orE ts, sc, e, h => by
    simp only [cT] at h
    split at h
    · simp only [Bool.and_eq_true, Bool.not_eq_true'] at h
      exact (a2_orT (cTL_ok ts sc _ h.1) h.2).t
    · cases h
  | .notE a, sc, e, h => by
    simp only [cT] at h
    split at h
    · exact okt_not (test_of (cT_ok a sc _) (cE_ok a sc _) h)
    · cases h
  | .cmp op a b, sc, e, h => by
    simp only [cT] at h
    split at h
    · simp only [Bool.and_eq_true, decide_eq_true_eq, Bool.not_eq_true'] at h
      obtain ⟨rfl, h1, h2, h3⟩ := h
      exact okt_cmp (cE_ok a sc _ h1) (cE_ok b sc _ h2) h3
    · cases h
  | .chn o1 o2 a b c, sc, e, h => by
    simp only [cT] at h
    split at h
    · simp only [Bool.and_eq_true, decide_eq_true_eq, Bool.not_eq_true'] at h
      obtain ⟨rfl, rfl, h1, h2, h3, h4⟩ := h
      exact okt_chn (cE_ok a sc _ h1) (cE_ok b sc _ h2) (cE_ok c sc _ h3) h4
    · cases h
  | .var _, _, _, h => by simp only [cT] at h; cases h
  | .cst _, _, _, h => by simp only [cT] at h; cases h
  | .glb _, _, _, h => by simp only [cT] at h; cases h
  | .tup _, _, _, h => by simp only [cT] at h; cases h
  | .lst _, _, _, h => by simp only [cT] at h; cases h
  | .bin _ _ _, _, _, h => by simp only [cT] at h; cases h
  | .neg _, _, _, h => by simp only [cT] at h; cases h
  | .ite _ _ _, _, _, h => by simp only [cT] at h; cases h
  | .ix _ _, _, _, h => by simp only [cT] at h; cases h
  | .sl _ _ _, _, _, h => by simp only [cT] at h; cases h
  | .off, _, _, h => by simp only [cT] at h; cases h
  | .isi _ _, _, _, h => by simp only [cT] at h; cases h
  | .io _, _, _, h => by simp only [cT] at h; cases h
  | .call _ _, _, _, h => by simp only [cT] at h; cases h
  | .blt _ _, _, _, h => by simp only [cT] at h; cases h
  | .mth _ _ _, _, _, h => by simp only [cT] at h; cases h
  | .comp _ _ _ _ _, _, _, h => by simp only [cT] at h; cases h
  | .rng1 _, _, _, h => by simp only [cT] at h; cases h
  | .rng2 _ _, _, _, h => by simp only [cT] at h; cases h
  | .enu _, _, _, h => by simp only [cT] at h; cases h
  | .zip _ _, _, _, h => by simp only [cT] at h; cases h
  | .brw is t, sc, e, h => by
    simp only [cT] at h
    exact okt_brw (cT_ok t sc e h)
  | .lrg _, _, _, h => by simp only [cT] at h; cases h
  | .lam _ _, _, _, h => by simp only [cT] at h; cases h
  | .vcall _ _, _, _, h => by simp only [cT] at h; cases h
  | .sset _, _, _, h => by simp only [cT] at h; cases h
theorem cTL_ok {Γ : Ctr} : ∀ (ts : List E) (sc : Scope) (es : List Expr), cTL N ts sc es = true → A2 (OkT Γ N sc) es ts
  | [], sc, es, h => by
    simp only [cTL] at h
    cases es with
    | nil => exact .nil
    | cons => cases h
  | t :: ts, sc, es, h => by
    simp only [cTL] at h
    split at h
    · rw [Bool.and_eq_true] at h
      exact .cons (test_of (cT_ok t sc _) (cE_ok t sc _) h.1) (cTL_ok ts sc _ h.2)
    · cases h
end
end
end W2

/-! The check of statements, and that it is right. -/
namespace W2
open PySem L2

def lcB (sc : Scope) (y : Str) : Bool := decide (sc.names.lookup y = some .local)
def isComp : E → Bool
  | .comp _ _ _ _ _ => true
  | _ => false
/-- a comprehension that is stored into a local name of its line -/
def cLine (sc : Scope) (y : Str) (py : Pos) (x : Expr) : Bool :=
  match x with
  | .ListComp _ [_] scope pos => lcB sc y && ((py.line == pos.line) && !(scope.names.any fun (n, k) => n == y && (k == .local || k == .cell)))
  | _ => false
def cOff (sc : Scope) (y : Str) (py : Pos) (x : Expr) : Bool :=
  match x with
  | .ListComp _ [_] scope pos => !(lcB sc y && ((py.line == pos.line) && !(scope.names.any fun (n, k) => n == y && (k == .local || k == .cell)))) && locB sc y
  | _ => false
def cSet (N : List Str) (sc : Scope) (i : Nat) (t : E) (y : Str) (py : Pos) (x : Expr) : Bool :=
  decide (N[i]? = some y) && (cE N t sc x && ((noComp x && locB sc y) || ((isComp t && cLine sc y py x) || cOff sc y py x)))
def isNoSwap (tg x : Expr) : Bool :=
  match tg with
  | .Tuple ts _ _ => match x with
    | .Tuple vs _ _ => noSwap ts vs
    | _ => false
  | _ => false
def cU (N : List Str) (sc : Scope) : List St → List Stmt → Bool
  | [], st => st.isEmpty
  | .set i (.cst d) :: ts, st => match st with
    | .Assign [.Name y _] e _ :: st => decide (N[i]? = some y) && (locB sc y && (cstB d e && cU N sc ts st))
    | _ => false
  | .app i (.cst d) :: ts, st => match st with
    | .Expr (.Call (.Attribute (.Name y _) m apos) [e] [] cpos) _ :: st => decide (m = "append") && (nmB N sc i y && (cstB d e && (noStar e && ((apos.endLine == cpos.line) && cU N sc ts st))))
    | _ => false
  | [.ret (.cst d)], st => match st with
    | [.Return (some e) _] => cstB d e
    | _ => false
  | [.ret (.var i)], st => match st with
    | [.Return (some (.Name y _)) _] => nmB N sc i y
    | _ => false
  | _, _ => false
mutual
def cS (ex : Str → Bool) (N : List Str) (sc : Scope) : St → Stmt → Bool
  | .set i t, s => match s with
    | .Assign [.Name y py] x _ => cSet N sc i t y py x
    | _ => false
  | .own i t, s => match s with
    | .Assign [.Name y py] x _ => cSet N sc i t y py x
    | _ => false
  | .mov i j, s => match s with
    | .Assign [.Name y _] (.Name z _) _ => decide (N[i]? = some y) && (locB sc y && nmB N sc j z)
    | _ => false
  | .tgt t e, s => match s with
    | .Assign [tg] x _ => noComp x && ((notTup x || isNoSwap tg x) && (noStar tg && (cG N (locB sc) t tg && cE N e sc x)))
    | _ => false
  | .par is ts, s => match s with
    | .Assign [.Tuple [.Name x px, .Name y py] _ _] (.Tuple [a, b] _ _) _ => match is with
      | [i, j] => decide (N[i]? = some x) && (decide (N[j]? = some y) && (!decide (i = j) && (lcB sc x && (lcB sc y && (!(x == y) && (decide (px.line = py.line) &&
          (!([a, b].all (foldedForSure 8)) && (!([a, b].all (constantsAlone 8)) && cL N ts sc [a, b]))))))))
      | _ => false
    | .Assign [.Tuple [.Name x px, .Name y py, .Name z pz] _ _] (.Tuple [a, b, c] _ _) _ => match is with
      | [i, j, l] => decide (N[i]? = some x) && (decide (N[j]? = some y) && (decide (N[l]? = some z) && (!decide (i = j) && (!decide (i = l) && (!decide (j = l) && (lcB sc x && (lcB sc y && (lcB sc z && (!(x == y) && (!(x == z) && (!(y == z) && (decide (px.line = py.line) && (decide (px.line = pz.line) &&
          (!([a, b, c].all (foldedForSure 8)) && (!([a, b, c].all (constantsAlone 8)) && cL N ts sc [a, b, c])))))))))))))))
      | _ => false
    | _ => false
  | .expr e, s => match s with
    | .Expr x _ => noComp x && cE N e sc x
    | _ => false
  | .app i e, s => match s with
    | .Expr (.Call (.Attribute (.Name y _) m apos) [x] [] cpos) _ => decide (m = "append") && (nmB N sc i y && (noStar x && ((apos.endLine == cpos.line) && cE N e sc x)))
    | _ => false
  | .put i k e, s => match s with
    | .Assign [.Subscript (.Name y _) z _] x _ => nmB N sc i y && (noComp x && (notSlice z && (cE N k sc z && cE N e sc x)))
    | _ => false
  | .ife c a b, s => match s with
    | .If x y z _ => (cT N c sc x || (plainTest x && cE N c sc x)) && (cSs ex N sc a y && cSs ex N sc b z)
    | _ => false
  | .whl c b, s => match s with
    | .While x y [] _ => (cT N c sc x || (plainTest x && cE N c sc x)) && cSs ex N sc b y
    | _ => false
  | .for_ t src b, s => match s with
    | .For tg it y [] _ => (cI N src sc tg it || (isSeqE src && cE N src sc it)) && (notSet it && (cG N (locB sc) t tg && cSs ex N sc b y))
    | _ => false
  | .ret e, s => match s with
    | .Return (some x) _ => cE N e sc x
    | _ => false
  | .retO i, s => match s with
    | .Return (some (.Name y _)) _ => nmB N sc i y
    | _ => false
  | .rse c, s => match s with
    | .Raise (some (.Call (.Name y _) [.Constant (.str _) _ _] [] _)) none _ => decide (c = y) && glB sc y
    | _ => false
  | .tryS b hs, s => match s with
    | .Try y (h :: hds) [] [] _ => cSs ex N sc b y && cH ex N sc hs (h :: hds)
    | _ => false
  | .shut _ t, s => cS ex N sc t s
def cSs (ex : Str → Bool) (N : List Str) (sc : Scope) : List St → List Stmt → Bool
  | [], st => st.isEmpty
  | t :: ts, st => match st with
    | s :: st => cS ex N sc t s && cSs ex N sc ts st
    | [] => false
def cH (ex : Str → Bool) (N : List Str) (sc : Scope) : List (Str × List St) → List ExceptHandler → Bool
  | [], hs => hs.isEmpty
  | (c, t) :: ts, hs => match hs with
    | .ExceptHandler (some (.Name y _)) none (b :: suite) _ :: hds => decide (c = y) && (glB sc y && (ex y && (cU N sc t (b :: suite) && cH ex N sc ts hds)))
    | _ => false
end
section
variable {Γ : Ctr} {F : Nat} {N : List Str} {sc : Scope}
theorem comp_parts {vs : List Nat} {te ti tc : E} {tt : Tg} {e : Expr} (h : cE N (.comp vs te tt ti tc) sc e = true) :
    ∃ x t it ifs scope pos, e = .ListComp x [⟨t, it, ifs, 0⟩] scope pos ∧ blkC N sc scope (ownOf N vs) = true ∧ OkI Γ N sc t it ti ∧ (∀ X, XOK Γ N sc X → OkGB X scope t tt) ∧ (∀ j, j ∈ tt.slots → j ∈ (ownOf N vs).map (·.2)) ∧
      OkC Γ N (relS scope sc) ifs tc ∧ OkE Γ N (relS scope sc) x te ∧ ∀ env y, foldedSetIterable it env y = pure y := by
  simp only [cE] at h
  split at h
  · rename_i x t it ifs scope pos
    simp only [Bool.and_eq_true] at h
    obtain ⟨h1, h2, h3, h4, h5, h6, h7⟩ := h
    refine ⟨x, t, it, ifs, scope, pos, rfl, h1, ?_, ?_, ?_, ?_, cE_ok te _ _ h7, notSet_ok h4⟩
    · rw [Bool.or_eq_true, Bool.and_eq_true] at h5
      rcases h5 with h5 | ⟨h5, h5'⟩
      · exact cI_ok ti sc _ _ h5
      · exact oki_seq (cE_ok ti sc _ h5') (evalI_seq h5)
    · intro X xo s0 H0 cl C fp
      refine cG_ok (N := N) (loc := blkLoc scope sc) (by exact xo.n) xo.nd (by exact xo.calm) (fun y hy => ?_) tt t h2
      have es : (X.blk s0 H0 scope (compEnvC scope cl C X.env) fp).env.scope = relS scope sc := by
        rw [← xo.sc]; rfl
      rw [es]
      unfold blkLoc at hy
      simp only [Bool.or_eq_true, Bool.and_eq_true, decide_eq_true_eq] at hy
      rcases hy with hy | ⟨hy, hz⟩
      · exact ⟨.inl hy, .inr hy⟩
      · exact ⟨.inr hy, .inl hz⟩
    · intro j hj
      rw [ownOf_snd]
      rw [List.all_eq_true] at h3
      simpa using h3 j hj
    · split at h6
      · exact .inl ⟨rfl, isTrueE_ok h6⟩
      · exact .inr ⟨_, rfl, test_of (cT_ok tc _ _) (cE_ok tc _ _) h6⟩
      · cases h6
  · cases h
theorem cSet_ok {i : Nat} {t : E} {y : Str} {py pos : Pos} {x : Expr} (h : cSet N sc i t y py x = true) : OkS Γ F N sc (.Assign [.Name y py] x pos) (.set i t) ∧ OkS Γ F N sc (.Assign [.Name y py] x pos) (.own i t) := by
  unfold cSet at h
  rw [Bool.and_eq_true, Bool.and_eq_true, Bool.or_eq_true, Bool.or_eq_true, Bool.and_eq_true, Bool.and_eq_true, decide_eq_true_eq] at h
  obtain ⟨h1, h2, h3⟩ := h
  rcases h3 with ⟨h3, h4⟩ | ⟨h3, h4⟩ | h3
  · exact ⟨st_set' h1 (locB_ok h4) (cE_ok t sc x h2) h3, st_own h1 (locB_ok h4) (cE_ok t sc x h2) h3⟩
  · cases t with
    | comp vs te tt ti tc =>
      obtain ⟨e, tg, it, ifs, scope, pos', rfl, k1, k2, k3, k4, k5, k6, k7⟩ := comp_parts (Γ := Γ) h2
      unfold cLine at h4
      simp only [Bool.and_eq_true, Bool.not_eq_true'] at h4
      obtain ⟨m1, m2, m3⟩ := h4
      have m1 := of_decide_eq_true m1
      have a := st_setLc (F := F) (spos := pos) h1 m1 m2 m3 k1 k2 k3 k4 k5 k6 k7
      have b := st_ownLc (F := F) (spos := pos) h1 m1 m2 m3 k1 k2 k3 k4 k5 k6 k7
      rw [ownOf_snd] at a b
      exact ⟨a, b⟩
    | _ => cases h3
  · unfold cOff at h3
    split at h3
    · rw [Bool.and_eq_true, Bool.not_eq_true'] at h3
      rename_i ee cc ss pp
      have off : ∀ (X : Cx) (l : Nat), X.env.scope = sc → swapsWith (.ListComp ee [cc] ss pp) (some (.Name y py)) l X.env = pure false := fun X l e => swaps_off (by rw [e]; exact h3.1)
      refine ⟨fun X x B ρ σ H O D W r tk g => ?_, fun X x B ρ σ H O D W r tk g => ?_⟩
      · refine of_ps (ps_set (i := i) (by rw [x.ok.n]; exact x.ok.nd) (by rw [x.ok.n]; exact h1) (by rw [x.ok.sc]; exact locB_ok h3.2) pe_tw (off X _ x.ok.sc) (.inl (x.fn y))) ?_
        simp only [evalS] at g
        exact cE_ok t sc _ h2 X x.ok B ρ σ H O _ W r tk (g.stepE r.sub fun u ρ1 v H1 r1 q1 g1 => g1.set r1 q1)
      · refine of_ps (ps_set (i := i) (by rw [x.ok.n]; exact x.ok.nd) (by rw [x.ok.n]; exact h1) (by rw [x.ok.sc]; exact locB_ok h3.2) pe_tw (off X _ x.ok.sc) (.inl (x.fn y))) ?_
        simp only [evalS] at g
        exact cE_ok t sc _ h2 X x.ok B ρ σ H O _ W r tk (g.own r.sub)
    · cases h3
theorem cU_ok : ∀ (ts : List St) (st : List Stmt), cU N sc ts st = true → OkU Γ F N sc st ts
  | ts, st, h => by
    unfold cU at h
    split at h
    · cases st with
      | nil => exact u_nil
      | cons => cases h
    · split at h
      · rename_i ts _ y _ e _ st
        simp only [Bool.and_eq_true, decide_eq_true_eq] at h
        exact u_set h.1 (locB_ok h.2.1) (cstB_cstE h.2.2.1) (cU_ok ts st h.2.2.2)
      · cases h
    · split at h
      · rename_i ts _ y _ m apos e cpos _ st
        simp only [Bool.and_eq_true, decide_eq_true_eq] at h
        obtain ⟨rfl, hn, hc, hs, hl, ht⟩ := h
        obtain ⟨h1, h2, h3, h4⟩ := nmB_ok hn
        exact u_app h1 h2 h3 h4 (cstB_cstE hc) hs hl (cU_ok ts st ht)
      · cases h
    · split at h
      · exact u_ret (cstB_cstE h)
      · cases h
    · split at h
      · obtain ⟨h1, h2, h3, h4⟩ := nmB_ok h
        exact u_retV h1 h2 h3 h4
      · cases h
    · cases h
theorem locG {t : Tg} {tg : Expr} (h : cG N (locB sc) t tg = true) : ∀ X, XDS Γ N sc X → OkG X tg t := fun X x =>
  cG_ok (loc := locB sc) x.ok.n x.ok.nd x.ok.calm (fun y hy => ⟨by rw [x.ok.sc]; exact locB_ok hy, .inl (x.fn y)⟩) t tg h
mutual
theorem cS_ok : ∀ (t : St) (s : Stmt), cS Γ.ex N sc t s = true → OkS Γ F N sc s t
  | .set i t, s, h => by
    simp only [cS] at h
    split at h
    · exact (cSet_ok h).1
    · cases h
  | .own i t, s, h => by
    simp only [cS] at h
    split at h
    · exact (cSet_ok h).2
    · cases h
  | .mov i j, s, h => by
    simp only [cS] at h
    split at h
    · simp only [Bool.and_eq_true, decide_eq_true_eq] at h
      obtain ⟨k1, k2, k3, k4⟩ := nmB_ok h.2.2
      exact st_mov h.1 (locB_ok h.2.1) k1 k2 k3 k4
    · cases h
  | .tgt t e, s, h => by
    simp only [cS] at h
    split at h
    · simp only [Bool.and_eq_true, Bool.or_eq_true] at h
      obtain ⟨h1, h2, h3, h4, h5⟩ := h
      rcases h2 with h2 | h2
      · exact st_tgt (cE_ok e sc _ h5) (locG h4) h1 h2 h3
      · unfold isNoSwap at h2
        split at h2
        · split at h2
          · exact st_tgt2 (cE_ok e sc _ h5) (locG h4) h2
          · cases h2
        · cases h2
    · cases h
  | .par is ts, s, h => by
    simp only [cS] at h
    split at h
    · split at h
      · simp only [Bool.and_eq_true, decide_eq_true_eq, Bool.not_eq_true', decide_eq_false_iff_not] at h
        obtain ⟨h1, h2, h3, h4, h5, h6, h7, h8, h9, h10⟩ := h
        obtain ⟨k1, k2, k3⟩ := cL_ok (Γ := Γ) ts sc _ h10
        have k4 := k2
        simp only [List.all_cons, List.all_nil, Bool.and_true, Bool.and_eq_true] at k4
        match ts, k3, k1 with
        | [s, t], _, k1 => exact st_par2 h1 h2 h3 (of_decide_eq_true h4) (of_decide_eq_true h5) h6 h7 k4.1 k4.2 h8 h9 (a2_L k1 k2)
      · cases h
    · split at h
      · simp only [Bool.and_eq_true, decide_eq_true_eq, Bool.not_eq_true', decide_eq_false_iff_not] at h
        obtain ⟨h1, h2, h3, h4, h5, h6, h7, h8, h9, h10, h11, h12, h13, h14, h15, h16, h17⟩ := h
        obtain ⟨k1, k2, k3⟩ := cL_ok (Γ := Γ) ts sc _ h17
        have k4 := k2
        simp only [List.all_cons, List.all_nil, Bool.and_true, Bool.and_eq_true] at k4
        match ts, k3, k1 with
        | [s, t, u], _, k1 => exact st_par3 h1 h2 h3 h4 h5 h6 (of_decide_eq_true h7) (of_decide_eq_true h8) (of_decide_eq_true h9) h10 h11 h12 h13 h14 k4.1 k4.2.1 k4.2.2 h15 h16 (a2_L k1 k2)
      · cases h
    · cases h
  | .expr e, s, h => by
    simp only [cS] at h
    split at h
    · rw [Bool.and_eq_true] at h
      exact st_expr (cE_ok e sc _ h.2) h.1
    · cases h
  | .app i e, s, h => by
    simp only [cS] at h
    split at h
    · simp only [Bool.and_eq_true, decide_eq_true_eq] at h
      obtain ⟨rfl, h1, h2, h3, h4⟩ := h
      obtain ⟨k1, k2, k3, k4⟩ := nmB_ok h1
      exact st_app k1 k2 k3 k4 (cE_ok e sc _ h4) h2 h3
    · cases h
  | .put i k e, s, h => by
    simp only [cS] at h
    split at h
    · simp only [Bool.and_eq_true] at h
      obtain ⟨h1, h2, h3, h4, h5⟩ := h
      obtain ⟨k1, k2, k3, k4⟩ := nmB_ok h1
      exact st_put k1 k2 k3 k4 (cE_ok e sc _ h5) (cE_ok k sc _ h4) h2 h3
    · cases h
  | .ife c a b, s, h => by
    simp only [cS] at h
    split at h
    · rw [Bool.and_eq_true, Bool.and_eq_true] at h
      exact st_ife (test_of (cT_ok c sc _) (cE_ok c sc _) h.1) (cSs_ok a _ h.2.1) (cSs_ok b _ h.2.2)
    · cases h
  | .whl c b, s, h => by
    simp only [cS] at h
    split at h
    · rw [Bool.and_eq_true] at h
      exact st_whl (test_of (cT_ok c sc _) (cE_ok c sc _) h.1) (cSs_ok b _ h.2)
    · cases h
  | .for_ t src b, s, h => by
    simp only [cS] at h
    split at h
    · rw [Bool.and_eq_true, Bool.and_eq_true, Bool.and_eq_true, Bool.or_eq_true, Bool.and_eq_true] at h
      obtain ⟨h1, h2, h3, h4⟩ := h
      refine st_for ?_ (locG h3) (cSs_ok b _ h4) (notSet_ok h2)
      rcases h1 with h1 | ⟨h1, h1'⟩
      · exact cI_ok src sc _ _ h1
      · exact oki_seq (cE_ok src sc _ h1') (evalI_seq h1)
    · cases h
  | .ret e, s, h => by
    simp only [cS] at h
    split at h
    · exact st_ret (cE_ok e sc _ h)
    · cases h
  | .retO i, s, h => by
    simp only [cS] at h
    split at h
    · obtain ⟨k1, k2, k3, k4⟩ := nmB_ok h
      exact st_retO k1 k2 k3 k4
    · cases h
  | .rse c, s, h => by
    simp only [cS] at h
    split at h
    · rw [Bool.and_eq_true, decide_eq_true_eq] at h
      obtain ⟨rfl, h⟩ := h
      exact st_rse (glB_ok h)
    · cases h
  | .tryS b hs, s, h => by
    simp only [cS] at h
    split at h
    · rw [Bool.and_eq_true] at h
      exact st_try (cSs_ok b _ h.1) (cH_ok hs _ h.2)
    · cases h
  | .shut is t, s, h => by
    simp only [cS] at h
    exact st_shut (cS_ok t s h)
theorem cSs_ok : ∀ (ts : List St) (st : List Stmt), cSs Γ.ex N sc ts st = true → OkSs Γ F N sc st ts
  | [], st, h => by
    simp only [cSs] at h
    cases st with
    | nil => exact oks_nil
    | cons => cases h
  | t :: ts, st, h => by
    simp only [cSs] at h
    split at h
    · rw [Bool.and_eq_true] at h
      exact oks_cons (cS_ok t _ h.1) (cSs_ok ts _ h.2)
    · cases h
theorem cH_ok : ∀ (ts : List (Str × List St)) (hs : List ExceptHandler), cH Γ.ex N sc ts hs = true → OkH Γ F N sc hs ts
  | [], hs, h => by
    simp only [cH] at h
    cases hs with
    | nil => exact .nil
    | cons => cases h
  | (c, t) :: ts, hs, h => by
    simp only [cH] at h
    split at h
    · simp only [Bool.and_eq_true, decide_eq_true_eq] at h
      obtain ⟨rfl, h1, h2, h3, h4⟩ := h
      exact .cons (glB_ok h1) h2 (cU_ok _ _ h3) (cH_ok ts _ h4)
    · cases h
end
end
end W2

/-! A module's defs one after the other; its end. -/
namespace W2
open PySem L2

def mkG (fns : List (Str × (List AV → CRes))) (gvs : List (Str × D)) (ex : Str → Bool) (sub : Str → Str → Option Bool) : Ctr := { fn := fun x => fns.lookup x, gv := fun x => gvs.lookup x, ex := ex, sub := sub }
def GvK (K : PySem.W.Frag) (mg : Str → Option Value) (x : Str) (d : D) : Prop := ∃ v u, mg x = some u ∧ RelV v u ∧ (x == ("__debug__" : Str)) = false ∧ ∀ H O, Rp ⟨K, mg⟩ H O d v
structure BaseK (K : PySem.W.Frag) (mg : Str → Option Value) (gvs : List (Str × D)) (ex : Str → Bool) (sub : Str → Str → Option Bool) : Prop where
  kt : KTy K
  nb : ∀ f ∈ builtinNames, mg f = none
  gv : ∀ x d, gvs.lookup x = some d → GvK K mg x d
  ex : ∀ x, ex x = true → ExK K mg x
  sub : ∀ x c b, sub x c = some b → SubK K mg x c b
def FnsK (P : Program) (w : World) (K : PySem.W.Frag) (mg : Str → Option Value) (base : Heap) (LV : Nat) (fns : List (Str × (List AV → CRes))) : Prop := ∀ x c, fns.lookup x = some c → ∃ n, FnK P w K mg base LV x n c
section
variable {P : Program} {w : World} {K : PySem.W.Frag} {mg : Str → Option Value} {base : Heap} {LV : Nat} {fns : List (Str × (List AV → CRes))} {gvs : List (Str × D)} {ex : Str → Bool} {sub : Str → Str → Option Bool}
theorem kty (K : PySem.W.Frag) : KTy K := by
  refine ⟨?_⟩
  intro t ht T hT
  simp only [List.mem_cons, List.mem_nil_iff, or_false] at ht hT
  rcases ht with rfl | rfl | rfl | rfl | rfl | rfl <;> rcases hT with rfl | rfl | rfl | rfl | rfl <;> rfl
theorem modk (b : BaseK K mg gvs ex sub) (f : FnsK P w K mg base LV fns) : ModK P w K mg base LV (mkG fns gvs ex sub) := ⟨b.kt, b.nb, f, b.gv, b.ex, b.sub, fun _ _ h => nomatch h⟩
theorem fns_nil : FnsK P w K mg base LV [] := fun x c h => by simp at h
theorem FnsK.cons {x : Str} {n : Nat} {c : List AV → CRes} (F : FnsK P w K mg base LV fns) (h : FnK P w K mg base (LV + 1) x n c) : FnsK P w K mg base (LV + 1) ((x, c) :: fns) := fun y d e => by
  rw [List.lookup_cons] at e
  split at e
  · rename_i q
    cases e
    rw [eq_of_beq q]
    exact ⟨n, h⟩
  · obtain ⟨m, q⟩ := F y d e
    exact ⟨m, q.mono (Nat.le_succ _)⟩
theorem FnsK.mono {k : Nat} (F : FnsK P w K mg base LV fns) (h : LV ≤ k) : FnsK P w K mg base k fns := fun y d e => by
  obtain ⟨m, q⟩ := F y d e
  exact ⟨m, q.mono h⟩
theorem FnsK.cons0 {x : Str} {n : Nat} {c : List AV → CRes} (F : FnsK P w K mg base LV fns) (h : FnK P w K mg base LV x n c) : FnsK P w K mg base LV ((x, c) :: fns) := fun y d e => by
  rw [List.lookup_cons] at e
  split at e
  · rename_i q
    cases e
    rw [eq_of_beq q]
    exact ⟨n, h⟩
  · exact F y d e
theorem mem_lk {α β : Type} [BEq α] [LawfulBEq α] : ∀ {l : List (α × β)} {a : α} {b : β}, l.lookup a = some b → (a, b) ∈ l
  | [], _, _, h => by simp at h
  | (x, y) :: l, a, b, h => by
    rw [List.lookup_cons] at h
    split at h
    · rename_i q
      cases h
      rw [eq_of_beq q]
      exact List.mem_cons_self
    · exact List.mem_cons_of_mem _ (mem_lk h)
theorem gv_all (h : ∀ p ∈ gvs, GvK K mg p.1 p.2) : ∀ x d, gvs.lookup x = some d → GvK K mg x d := fun x d e => h (x, d) (PySem.mem_of_lookup e)
theorem ex_all {exs : List Str} (h : ∀ x ∈ exs, ExK K mg x) : ∀ x, exs.contains x = true → ExK K mg x := fun x e => h x (by simpa using e)
theorem sub_all {subs : List ((Str × Str) × Bool)} (h : ∀ p ∈ subs, SubK K mg p.1.1 p.1.2 p.2) : ∀ x c b, subs.lookup (x, c) = some b → SubK K mg x c b := fun x c b e => h ((x, c), b) (mem_lk e)
/-- a def of the text -/
theorem fn_def {x : Str} {st : Stmt} {f : Addr} {fd : FuncData} {N ps : List Str} {b : List St} {F : Nat} (B : BaseK K mg gvs ex sub) (FS : FnsK P w K mg base LV fns) (Fu : L2.Fun K x x st f fd) (g : mg x = some (.ref f)) (bi : Binds K fd ps []) (SC : FnScope N ps (defScope st))
    (ck : cSs ex N (defScope st) b (defBody st) = true) (hd : (x == ("__debug__" : Str)) = false := by decide) : FnK P w K mg base (LV + 1) x ps.length (conD (mkG fns gvs ex sub) F ps.length N.length b) := by
  obtain ⟨oc, od, kV, doc, pm, an, cdv, ct, osl, rfl, lk, hcd⟩ := Fu.ex
  exact fn_dl rfl (modk B FS) lk hcd SC (cSs_ok (Γ := mkG fns gvs ex sub) b _ ck) g Fu.kp bi hd
/-- one that is never asked -/
theorem fn_bad {x : Str} {st : Stmt} {f : Addr} {fd : FuncData} {ps : List Str} (Fu : L2.Fun K x x st f fd) (g : mg x = some (.ref f)) (bi : Binds K fd ps []) (n : Nat) (hd : (x == ("__debug__" : Str)) = false := by decide) : FnK P w K mg base LV x n (fun _ => .bad) := by
  have no : ∀ vs H Q E, spD n ⟨K, mg⟩ (fun _ => CRes.bad) vs H Q E → False := fun vs H Q E h => by
    obtain ⟨_, O, as, _, _, _, c⟩ := h
    exact c
  exact ⟨fun as h => absurd rfl h, ⟨f, fd, ps, g, Fu.kp, bi, ⟨fun vs H Q E h => (no _ _ _ _ h).elim, fun A outer s H args us vs Q E _ _ _ _ h => (no _ _ _ _ h).elim⟩⟩, hd⟩

/-! ### the module's own values -/
section
variable {h : Heap} {x : Str}
theorem gv_int {n : Int} {t : Tok} (X : K.In h) (G : h.Ns mainGlobals mg) (e : PySem.W.nsIn K mainGlobals x = some (some (.int n t))) (hd : (x == ("__debug__" : Str)) = false := by decide) : GvK K mg x (.int n) :=
  ⟨.int n, _, PySem.W.mg_of X G e, ⟨t, rfl⟩, hd, fun _ _ => .int n⟩
theorem gv_str {n : Str} {t : Tok} (X : K.In h) (G : h.Ns mainGlobals mg) (e : PySem.W.nsIn K mainGlobals x = some (some (.str n t))) (hd : (x == ("__debug__" : Str)) = false := by decide) : GvK K mg x (.str n) :=
  ⟨.str n, _, PySem.W.mg_of X G e, ⟨t, rfl⟩, hd, fun _ _ => .str n⟩
/-- plain values of a written tuple -/
inductive PlV : List D → List Value → Prop
  | nil : PlV [] []
  | str {x : Str} {t : Tok} {ds : List D} {us : List Value} : PlV ds us → PlV (.str x :: ds) (.str x t :: us)
  | int {x : Int} {t : Tok} {ds : List D} {us : List Value} : PlV ds us → PlV (.int x :: ds) (.int x t :: us)
theorem PlV.rep {S : Sur} : ∀ {ds : List D} {us : List Value}, PlV ds us → ∃ xs, Vals xs us ∧ ∀ H O, RpL S H O ds xs
  | _, _, .nil => ⟨[], .nil, fun _ _ => .nil⟩
  | _, _, .str (x := x) (t := t) q => by
    obtain ⟨xs, h1, h2⟩ := PlV.rep (S := S) q
    exact ⟨.str x :: xs, .cons ⟨t, rfl⟩ h1, fun H O => .cons (.str x) (h2 H O)⟩
  | _, _, .int (x := x) (t := t) q => by
    obtain ⟨xs, h1, h2⟩ := PlV.rep (S := S) q
    exact ⟨.int x :: xs, .cons ⟨t, rfl⟩ h1, fun H O => .cons (.int x) (h2 H O)⟩
theorem gv_tup {a : Addr} {its : Array Value} {n : Nat} {od : Option Addr} {sl : Array (Option Value)} {ds : List D} (X : K.In h) (G : h.Ns mainGlobals mg) (e : PySem.W.nsIn K mainGlobals x = some (some (.ref a))) (l : K.lookup a = some ⟨.type "tuple", od, .seq its n, sl⟩) (hs : its.size ≤ sizeLine) (p : PlV ds its.toList) (hd : (x == ("__debug__" : Str)) = false := by decide) : GvK K mg x (.tup ds) := by
  obtain ⟨xs, h1, h2⟩ := p.rep (S := ⟨K, mg⟩)
  exact ⟨.ref a, _, PySem.W.mg_of X G e, rfl, hd, fun H O => .tup (.inr ⟨_, its, n, l, rfl, rfl, hs, h1⟩) (h2 H O)⟩
theorem ex_val {C : Addr} {bmB : List Value} {B newId initId : String} (F : ExcBaseFacts B newId initId bmB) (X : K.In h) (G : h.Ns mainGlobals mg) (e : PySem.W.nsIn K mainGlobals x = some (some (.ref C))) (q : PySem.W.excIn K C bmB newId = true) (k : PySem.W.keepIn K (.ref C) = true)
    (b : PySem.W.subIn K (.ref C) (.type "BaseException") = some true) (t : PySem.W.typeIn K (.ref C) = some (.type "type")) (hd : (x == ("__debug__" : Str)) = false := by decide) : ExK K mg x := ⟨C, bmB, B, newId, initId, F, q, PySem.W.mg_of X G e, k, b, t, hd⟩
theorem sub_val {c : Str} {C D : Addr} {r : Bool} (X : K.In h) (G : h.Ns mainGlobals mg) (e : PySem.W.nsIn K mainGlobals x = some (some (.ref C))) (e' : PySem.W.nsIn K mainGlobals c = some (some (.ref D)))
    (h1 : PySem.W.subIn K (.ref D) (.type "BaseException") = some true) (h2 : PySem.W.isClsIn K D = true) (h3 : PySem.W.typeIn K (.ref D) = some (.type "type")) (h4 : PySem.W.subIn K (.ref C) (.ref D) = some r) (hd : (c == ("__debug__" : Str)) = false := by decide) : SubK K mg x c r := by
  refine ⟨C, D, PySem.W.mg_of X G e, PySem.W.mg_of X G e', ?_, hd⟩
  have e1 : (PySem.W.subIn K (.ref D) (.type "BaseException") == some true) = true := by rw [h1]; rfl
  have e2 : ((PySem.W.clsIn K D).isSome && PySem.W.typeIn K (.ref D) == some (.type "type")) = true := by
    have h2' : (PySem.W.clsIn K D).isSome = true := h2
    rw [h2', h3]; rfl
  refine (if_pos e1).trans ?_
  refine (if_pos e2).trans ?_
  exact h4
end

/-! ### the law's own def -/
def spLaw (K : PySem.W.Frag) : Sp := fun vs H Q _ => ∃ (a : Addr) (ns : List Int), vs = [.ref a] ∧ Only H ∧ SqL K H a (ns.map V.int) ∧ ns.length ≤ 63 ∧ ∀ H', Q (.bl true) H'
theorem law_def {x : Str} {st : Stmt} {f : Addr} {fd : FuncData} {N ps : List Str} {b : List St} {F : Nat} (B : BaseK K mg gvs ex sub) (FS : FnsK P w K mg base LV fns) (Fu : L2.Fun K x x st f fd) (SC : FnScope N ps (defScope st))
    (ck : cSs ex N (defScope st) b (defBody st) = true) (h1 : ps.length = 1) (hc : ∀ ns : List Int, ns.length ≤ 63 → conD (mkG fns gvs ex sub) F ps.length N.length b [.val (.frz (ns.map D.int))] = .ok (.bl true, false) []) : FnOk P w K mg base (L2.CX P w) (LV + 1) f fd ps (spLaw K) := by
  obtain ⟨oc, od, kV, doc, pm, an, cdv, ct, osl, rfl, lk, hcd⟩ := Fu.ex
  refine (fnok_dl (F := F) rfl (modk B FS) lk hcd SC (cSs_ok (Γ := mkG fns gvs ex sub) b _ ck)).imp fun vs H Q E ⟨b, ns, e, o, s, hl, q⟩ => ?_
  subst e
  refine ⟨h1.symm, fun _ => False, [.val (.frz (ns.map D.int))], .val (.frz (.inl ?_) (ints_rep ns)) .nil, by simp [ioA], fun _ h => h.elim, ?_⟩
  · rcases s with (s | ⟨ob, s⟩) | s
    · rcases o b with z | ⟨ob, xs, z⟩
      · rw [z] at s; cases s
      · rw [z] at s; cases s
    · exact .inl ⟨ob, s⟩
    · exact .inr s
  · rw [hc ns hl]
    intro v H' _ _ r
    cases r
    exact q H'
theorem walk_law {l : PySem.W.OpenLaw} {q : Program} {loose : List Str} {XP : (Str → Option Value) → Heap → Prop} {YP : World → Heap → Prop} {d : DefRec} {K : Params → PySem.W.Frag} {k : Nat} {x : Str} (hk : Room k callerA) (hn : l.most = some 63) (hdf : d.params.defaults = [])
    (hY : ∀ (w : World) (h : Heap), YP w h → (K w.params).In h)
    (F : ∀ (w : World) (mg : Str → Option Value) (fa : Addr) (h : Heap), (K w.params).In h → h.Ns mainGlobals mg → mg d.name = some (.ref fa) →
      ∃ fd : FuncData, (∀ (s : Shared) (u : Value), BindsTo s fd ⟨[u], []⟩ [(x, u)]) ∧ ∀ base : Heap, (K w.params).In base → base.Ns mainGlobals mg → FnOk l.prog w (K w.params) mg base (L2.CX l.prog w) k fa fd [x] (spLaw (K w.params))) :
    PySem.W.WalkO q loose XP YP l.row.toRowW d [] (fun f vs => PySem.call f vs) :=
  L2.walk_of (n := 63) (k := k) (x := x) (CX := fun w => L2.CX l.prog w) (sp := fun w => spLaw (K w.params)) hn (by decide) hdf hk hY F (fun _ _ a ns hl o hS => ⟨a, ns, rfl, o, hS, hl, fun _ => rfl⟩) fun _ _ _ _ _ h => by
    obtain ⟨_, _, _, _, _, _, _, _, _, _, _, _, z⟩ := h
    exact z.elim

/-! ### a law whose own def makes lambdas -/
/-- the contracts of the module, words and a table -/
def mkL (fns : List (Str × (List AV → CRes))) (gvs : List (Str × D)) (ex : Str → Bool) (sub : Str → Str → Option Bool) (wds : List (Str × List (Str × Str))) (tb : Tb) : Ctr := { fn := fun x => fns.lookup x, gv := fun x => gvs.lookup x, ex := ex, sub := sub, wd := fun x => wds.lookup x, tb := tb }
theorem law_defT {x : Str} {st : Stmt} {f : Addr} {fd : FuncData} {N ps : List Str} {b : List St} {F : Nat} {wds : List (Str × List (Str × Str))} {c p : Addr} (B : BaseK K mg gvs ex sub) (FS : FnsK P w K mg base LV fns) (WS : ∀ y hs, wds.lookup y = some hs → WdK P w K mg base y hs) (Fu : L2.Fun K x x st f fd) (SC : FnScope N ps (defScope st))
    (ck : cSs ex N (defScope st) b (defBody st) = true) (h1 : ps.length = 1) (hcode : fd.code = .ref c) (TB : LamX.TabB base mg c p)
    (hc : ∀ (q : Str) (ns : List Int), ns.length ≤ 63 → conD (mkL fns gvs ex sub wds (some (p, q))) F ps.length N.length b [.val (.frz (ns.map D.int))] = .ok (.bl true, false) []) : FnOk P w K mg base (L2.CX P w) (LV + 3) f fd ps (spLawT K p) := by
  obtain ⟨oc, od, kV, doc, pm, an, cdv, ct, osl, rfl, lk, hcd⟩ := Fu.ex
  exact fnok_lam (Γ := mkL fns gvs ex sub wds (some (p, x ++ ".<locals>." ++ "<lambda>"))) (F := F) rfl hcode TB ⟨B.kt, B.nb, FS, B.gv, B.ex, B.sub, WS⟩ lk hcd SC (cSs_ok (Γ := mkL fns gvs ex sub wds (some (p, x ++ ".<locals>." ++ "<lambda>"))) b _ ck) h1 (hc _)
theorem walk_lawT {l : PySem.W.OpenLaw} {q : Program} {loose : List Str} {XP : (Str → Option Value) → Heap → Prop} {YP : World → Heap → Prop} {d : DefRec} {K : Params → PySem.W.Frag} {k : Nat} {x : Str} (hk : Room k callerA) (hn : l.most = some 63) (hdf : d.params.defaults = [])
    (hY : ∀ (w : World) (h : Heap), YP w h → (K w.params).In h) (hr : (PyProof.Rows.recsOf q).find? (fun e => e.name == d.name) = some d)
    (F : ∀ (w : World) (mg : Str → Option Value) (fa : Addr) (h : Heap), (K w.params).In h → h.Ns mainGlobals mg → mg d.name = some (.ref fa) →
      ∃ (fd : FuncData) (c p : Addr), PySem.W.tabIn (K w.params) d.name = some (c, p) ∧ (K w.params).lookup p = none ∧ (∀ (s : Shared) (u : Value), BindsTo s fd ⟨[u], []⟩ [(x, u)]) ∧
        ∀ base : Heap, (K w.params).In base → base.Ns mainGlobals mg → LamX.TabB base mg c p → FnOk l.prog w (K w.params) mg base (L2.CX l.prog w) k fa fd [x] (spLawT (K w.params) p)) :
    PySem.W.WalkO q loose XP YP l.row.toRowW d [] (fun f vs => PySem.call f vs) := by
  refine Att.attach_callB hn hdf fun w s₀ s₁ mg mb fa o pm cd doc a vs ns G Y ho hd hcd hmg hobj hints hlen hbits hg => ?_
  have KX := hY w _ Y
  obtain ⟨fd, c, p, ht, nT, hb, hF⟩ := F w mg fa _ KX G.T.g hmg
  obtain ⟨hC, hP⟩ := PySem.W.tab_of G.T KX hr ht
  refine LamX.law_callTs (cs := [(c, p)]) KX G.T.g G.T.b G.T.builtins G.T.nolimit hg (fun r hr => by simp at hr; subst hr; exact hP) (fun r hr => by simp at hr; subst hr; exact nT) (fun r hr => by simp at hr; subst hr; exact hC) G.T.bmain hobj hints (Nat.le_trans hlen (by decide)) hk
    (fun base h1 h2 h3 => hF base h1 h2 (h3 (c, p) (by simp))) hb (fun H hH hS => ⟨a, ns, rfl, hH (c, p) (by simp), hS, hlen, fun _ => rfl⟩) fun H e s' h => ?_
  obtain ⟨_, _, _, _, _, _, _, _, _, _, _, _, z⟩ := h
  exact z.elim
end
end W2

/-! Rows for reckoning with the evaluator. -/
namespace W2
open PySem L2
def bLen (as : List D) : Option Vl :=
  match as with
  | [.tup ds] => some (.int ds.length, false)
  | [.lst ds] => some (.int ds.length, false)
  | [.frz ds] => some (.int ds.length, false)
  | _ => none
def bAbs (as : List D) : Option Vl :=
  match as with
  | [.int i] => some (.int (if i < 0 then -i else i), false)
  | _ => none
def bMin (as : List D) : Option Vl :=
  match as with
  | [.int i, .int j] => some (.int (if j < i then j else i), false)
  | [.lst (d :: ds)] => (bestD false d ds).map fun y => (y, false)
  | _ => none
def bMax (as : List D) : Option Vl :=
  match as with
  | [.int i, .int j] => some (.int (if j > i then j else i), false)
  | [.lst (d :: ds)] => (bestD true d ds).map fun y => (y, false)
  | _ => none
def bInt (as : List D) : Option Vl :=
  match as with
  | [.int i] => some (.int i, false)
  | [.bl b] => some (.int (if b then 1 else 0), false)
  | _ => none
def bAll (as : List D) : Option Vl :=
  match as with
  | [.lst ds] => (boolsOf ds).map fun bs => (.bl (bs.all id), false)
  | _ => none
def bSorted (as : List D) : Option Vl :=
  match as with
  | [.lst ds] => (sortD ds).map fun ys => (.lst ys, true)
  | [.tup ds] => (sortD ds).map fun ys => (.lst ys, true)
  | _ => none
def bList (as : List D) : Option Vl :=
  match as with
  | [.tup ds] => some (.lst ds, true)
  | [.lst ds] => some (.lst ds, true)
  | _ => none
def bTuple (as : List D) : Option Vl :=
  match as with
  | [.tup ds] => some (.tup ds, false)
  | [.lst ds] => some (.tup ds, false)
  | _ => none
theorem bq_len (as : List D) : bltD "len" as = bLen as := by rfl
theorem bq_abs (as : List D) : bltD "abs" as = bAbs as := by rfl
theorem bq_min (as : List D) : bltD "min" as = bMin as := by rfl
theorem bq_max (as : List D) : bltD "max" as = bMax as := by rfl
theorem bq_int (as : List D) : bltD "int" as = bInt as := by rfl
theorem bq_all (as : List D) : bltD "all" as = bAll as := by rfl
theorem bq_sorted (as : List D) : bltD "sorted" as = bSorted as := by rfl
theorem bq_list (as : List D) : bltD "list" as = bList as := by rfl
theorem bq_tuple (as : List D) : bltD "tuple" as = bTuple as := by rfl
/-- a comprehension whose turns leave the frame as it was -/
theorem compL_pure {f : D → Env → R (Option D)} {g : D → Option D} {ρ : Env} : ∀ {ds acc : List D}, (∀ d ∈ ds, f d ρ = .ok (g d) ρ) → acc.length + ds.length ≤ LIM → compL f ds acc ρ = .ok (acc ++ ds.filterMap g) ρ
  | [], acc, _, _ => by simp [compL]
  | d :: ds, acc, h, hl => by
    simp only [List.length_cons] at hl
    simp only [compL]
    rw [h d List.mem_cons_self]
    cases e : g d with
    | none =>
      show compL f ds acc ρ = _
      rw [compL_pure (fun x hx => h x (List.mem_cons_of_mem _ hx)) (by omega), List.filterMap_cons_none e]
    | some y =>
      show (if acc.length < LIM then compL f ds (acc ++ [y]) ρ else .bad) = _
      rw [if_pos (by omega), compL_pure (fun x hx => h x (List.mem_cons_of_mem _ hx)) (by simp; omega), List.filterMap_cons_some e]
      simp
theorem comp_val {Γ : Ctr} {ρ : Env} {vs : List Nat} {elt src cond : E} {tg : Tg} {ds : List D} (g : D → Option D) (hs : evalI Γ src ρ = .ok ds ρ) (hp : plainAt ρ vs = true) (h : ∀ d ∈ ds, compF (evalE Γ cond) (evalE Γ elt) tg vs d ρ = .ok (g d) ρ) (hl : ds.length ≤ LIM) : evalE Γ (.comp vs elt tg src cond) ρ = .ok (.lst (ds.filterMap g), true) ρ := by
  rw [evalE_comp, hs]
  show (if plainAt ρ vs = true then _ else _) = _
  rw [if_pos hp, compL_pure h (by simpa using hl), List.nil_append]
  rfl
theorem fm_all (g : D → D) : ∀ ds : List D, ds.filterMap (fun d => some (g d)) = ds.map g
  | [] => rfl
  | d :: ds => by simp [fm_all g ds]
theorem fm_if (p : D → Bool) : ∀ ds : List D, ds.filterMap (fun d => if p d then some d else none) = ds.filter p
  | [] => rfl
  | d :: ds => by cases e : p d <;> simp [e, fm_if p ds]
/-- .. all whose turns keep I, and yield what J holds of -/
theorem compL_inv {f : D → Env → R (Option D)} (I : Env → Prop) (J : D → Prop) : ∀ {ds acc : List D} {ρ : Env}, I ρ → (∀ y ∈ acc, J y) → (∀ d ∈ ds, ∀ ρ, I ρ → ∃ y ρ', f d ρ = .ok (some y) ρ' ∧ J y ∧ I ρ') → acc.length + ds.length ≤ LIM → ∃ ys ρ', compL f ds acc ρ = .ok ys ρ' ∧ ys.length = acc.length + ds.length ∧ (∀ y ∈ ys, J y) ∧ I ρ'
  | [], acc, ρ, hI, hJ, _, _ => ⟨acc, ρ, by simp [compL], by simp, hJ, hI⟩
  | d :: ds, acc, ρ, hI, hJ, h, hl => by
    simp only [List.length_cons] at hl
    obtain ⟨y, ρ', e1, e2, e3⟩ := h d List.mem_cons_self ρ hI
    obtain ⟨ys, ρ2, k1, k2, k3, k4⟩ := compL_inv I J (acc := acc ++ [y]) e3 (fun z hz => by
      rcases List.mem_append.mp hz with hz | hz
      · exact hJ z hz
      · rw [List.mem_singleton.mp hz]; exact e2) (fun x hx => h x (List.mem_cons_of_mem _ hx)) (by simp; omega)
    refine ⟨ys, ρ2, ?_, by rw [k2]; simp; omega, k3, k4⟩
    simp only [compL]
    rw [e1]
    show (if acc.length < LIM then compL f ds (acc ++ [y]) ρ' else .bad) = _
    rw [if_pos (by omega), k1]
theorem forL_inv {f : Env → RS} {t : Tg} (I : Nat → Env → Prop) : ∀ {ds : List D} {ρ : Env} (k : Nat), I k ρ → (∀ i d, ds[i]? = some d → ∀ ρ, I (k + i) ρ → ∃ ρ1 ρ2, bindT t d ρ = some ρ1 ∧ f ρ1 = .nxt ρ2 ∧ I (k + i + 1) ρ2) → ∃ ρ', forL f t ds ρ = .nxt ρ' ∧ I (k + ds.length) ρ'
  | [], ρ, k, h, _ => ⟨ρ, by simp [forL], by simpa using h⟩
  | d :: ds, ρ, k, h, st => by
    obtain ⟨ρ1, ρ2, e1, e2, e3⟩ := st 0 d rfl ρ h
    obtain ⟨ρ', k1, k2⟩ := forL_inv I (ds := ds) (ρ := ρ2) (k + 1) e3 (fun i x hx ρ hρ => by
      have := st (i + 1) x (by simpa using hx) ρ (by rw [show k + (i + 1) = k + 1 + i by omega]; exact hρ)
      rw [show k + (i + 1) + 1 = k + 1 + i + 1 by omega] at this
      exact this)
    refine ⟨ρ', ?_, by rw [show k + (d :: ds).length = k + 1 + ds.length by simp; omega]; exact k2⟩
    simp only [forL]
    rw [e1]
    show (f ρ1).bind (forL f t ds) = _
    rw [e2]
    exact k1
theorem setS_ok {i : Nat} {s : SV} {ρ : Env} (h : i < ρ.length) (n : ∀ d, ρ[i]? ≠ some (.io d)) : setS i s ρ = .nxt (ρ.set i s) := by
  unfold setS
  split
  · rename_i d e; exact absurd e (n d)
  · rfl
  · rename_i e; rw [List.getElem?_eq_getElem h] at e; cases e
end W2

/-! A def that calls what it gets, and tells the error's word. -/
namespace W2
open PySem L2

def hdB (sg : Scope) (y : Str) : List (Str × Str) → List ExceptHandler → Bool
  | [], [] => true
  | (c, w) :: hs, hd :: hds => (match hd with
    | .ExceptHandler (some (.Name x _)) none [.Assign [.Name y1 _] (.Constant (.str w1) _ _) _] _ => decide (x = c) && (decide (y1 = y) && (decide (w1 = w) && (glB sg c && okName c)))
    | _ => false) && hdB sg y hs hds
  | _, _ => false
def wdB (sg : Scope) (a y : Str) (hs : List (Str × Str)) (bg : List Stmt) : Bool :=
  match bg with
  | [.Assign [.Name y1 _] (.Constant (.str e) _ _) _, .Try [.Expr (.Call (.Name a1 _) [] [] _) _] (h :: hds) [] [] _, .Return (some (.Name y2 _)) _] =>
    decide (y1 = y) && (decide (e = "") && (decide (a1 = a) && (decide (y2 = y) && (hdB sg y hs (h :: hds) && (locB sg y && okName y)))))
  | _ => false
theorem hds_word {X : Cx} {sg : Scope} {y : Str} (hN : X.N[1]? = some y) (nd : X.N.Nodup) (hsc : X.env.scope = sc) (hfn : ∀ z, X.fn z = true) (hl : L2.Loc sc y) :
    ∀ {hs : List (Str × Str)} {hA : List (Addr × Str)} {hds : List ExceptHandler}, hdB sc y hs hds = true → HsA X.K X.mg hA hs →
      ∃ ls, HdsOk X hds ls ∧ ∀ (D : Ends) (cls : Value) (dd : Option Addr) (σ : L2.St) (H : Hp) (Q : Str → Prop), wordA X.K hA cls Q → (∀ w, Q w → D.nx (σ.set 1 (some (.str w))) H) → wMany X.K (fun _ _ _ _ => False) D ls cls dd σ H
  | [], _, [], _, .nil => ⟨[], .nil, fun D cls dd σ H Q h _ => h⟩
  | (c, w) :: hs, _, hd :: hds, h, .cons (C := C) hc t => by
    simp only [hdB, Bool.and_eq_true] at h
    obtain ⟨h1, h2⟩ := h
    split at h1
    · rename_i x0 px y1 py w1 kk pw pa pe
      simp only [Bool.and_eq_true, decide_eq_true_eq] at h1
      obtain ⟨rfl, rfl, rfl, g1, g2⟩ := h1
      obtain ⟨ls, k1, k2⟩ := hds_word (sg := sg) hN nd hsc hfn hl h2 t
      refine ⟨(.ref C, fun a cls d D σ H => D.nx (σ.set 1 (some (.str w1))) H) :: ls, .cons ⟨by show X.env.scope.names.lookup _ = _; rw [hsc]; exact glB_ok g1, (okName_ok g2).1, .inl hc⟩ (fun a oe cls d pn _ _ => ?_) k1, fun D cls dd σ H Q q k => ?_⟩
      · exact pss_one (ps_set (X := X.suite a ((a, oe) :: pn)) (i := 1) nd hN (by show L2.Loc X.env.scope _; rw [hsc]; exact hl) pe_str (swaps_no rfl) (.inl (hfn _)))
      · obtain ⟨b, e, q1, q2⟩ := q
        exact ⟨b, e, fun hb a _ => k _ (q1 hb), fun hb => k2 D cls dd σ H Q (q2 hb) k⟩
    · cases h1
theorem takes_len {X : Cx} {W : WX} (t : Takes X W) : Takes X (fun c d σ H => σ.length = X.N.length → W c d σ H) := fun u s' ⟨a, B, sI, pins, σ, H, cls, d, e, I, nb, up, sky, na, os, ag, w⟩ => t u s' ⟨a, B, sI, pins, σ, H, cls, d, e, I, nb, up, sky, na, os, ag, w I.len⟩
theorem gives_word {X : Cx} {Ng : List Str} {f a y q : Str} {sg : Scope} {g : Addr} {cdv : Value} {hA : List (Addr × Str)} {hs : List (Str × Str)} {bg : List Stmt} (hb : wdB sg a y hs bg = true) (hN : Ng = [a, y]) (SC : FnScope Ng [a] sg) (h : HsA X.K X.mg hA hs) : LamX.GivesTo X Ng f sg g cdv bg a q (TWord X.K hA) := by
  unfold wdB at hb
  split at hb
  · rename_i y1 py e je pe pa a1 p1 p2 p3 hd hds pt y2 py2 pr
    simp only [Bool.and_eq_true, decide_eq_true_eq] at hb
    obtain ⟨rfl, rfl, rfl, rfl, hh, hl, hk⟩ := hb
    intro fA c' s H Q tl act hc ht
    obtain ⟨X0, hX0⟩ : ∃ X0, X0 = (cxOf C8.CX0 X.prog X.w X.K X.mg X.base Ng f sg g cdv X.A X.stack s H C8.E0).nox := ⟨_, rfl⟩
    have hN1 : X0.N[1]? = some y2 := by rw [hX0]; show Ng[1]? = _; rw [hN]; rfl
    have nd : X0.N.Nodup := by rw [hX0]; exact SC.nd
    have hsc : X0.env.scope = sg := by rw [hX0]; rfl
    have hfn : ∀ z, X0.fn z = true := by rw [hX0]; exact fun _ => rfl
    obtain ⟨ls, k1, k2⟩ := hds_word (X := X0) (sg := sg) hN1 nd hsc hfn (locB_ok hl) hh (by rw [hX0]; exact h)
    rw [← hX0]
    refine ⟨_, pss_cons (ps_set (i := 1) nd hN1 (by rw [hsc]; exact locB_ok hl) pe_str (swaps_no rfl) (.inl (hfn _))) (pss_cons (ps_try_many (X := X0)
        (tb := fun W D σ H => ∃ Ech : XK, (∀ (cls : Value) (d : Option Addr) (σ' : L2.St) (H' : Hp), Ech cls d H' → σ'.length = X0.N.length → W cls d σ' H') ∧ σ[0]? = some (some (.ref fA)) ∧ H c' = some (LamX.CodeO c' q) ∧ tl Ech H fun _ H' => D.nx σ H')
        (by rw [hX0]; rfl) (by rw [hX0]; rfl) takesF0 (fun W pn xe tk _ => ?_) k1) (pss_one (ps_ret (pe_var (i := 1) hN1 (by rw [hsc]; exact (locB_ok hl).elim .inl fun z => .inr (.inl z)) (okName_ok hk).1 (okName_ok hk).2)))), ?_⟩
    · refine ⟨fun pins s' σ H' D I h' => ?_⟩
      obtain ⟨Ech, hW, h1, h2, h3⟩ := h'
      subst hX0
      have hp := act (fun c d σ H => σ.length = Ng.length → W c d σ H) pn xe Ech p1 p2 (takes_len tk) (fun cls d σ' H' e => hW cls d σ' H' e)
      have hq := pss_one (ps_expr (pos := p3) hp (swaps_no rfl))
      exact hq.run pins s' σ H' D I ⟨h1, h2, h3⟩
    · subst hX0
      have len : (L2.start Ng [V.ref fA]).length = 2 := by rw [hN]; rfl
      refine ⟨fun cls _ H' => wordA X.K hA cls fun w => Q (.str w) H', fun cls d σ' H' e l => ?_, ?_, hc, ?_⟩
      · refine k2 _ cls d σ' H' _ e fun w hw => ?_
        have l : σ'.length = Ng.length := l
        rw [hN] at l
        exact ⟨_, List.getElem?_set_self (by rw [l]; exact Nat.lt_succ_self 1), hw⟩
      · rw [hN]; rfl
      · have e : (fun (_ : V) (H' : Hp) => Q (.str "") H') = fun (_ : V) (H' : Hp) => ∃ v, ((L2.start Ng [V.ref fA]).set 1 (some (.str ("" : Str))))[1]? = some (some v) ∧ Q v H' := funext fun _ => funext fun H' => propext ⟨fun h => ⟨_, List.getElem?_set_self (by rw [len]; exact Nat.lt_succ_self 1), h⟩, fun ⟨v, h1, h2⟩ => by
          rw [List.getElem?_set_self (by rw [len]; exact Nat.lt_succ_self 1)] at h1
          cases h1
          exact h2⟩
        unfold TWord at ht
        rw [e] at ht
        exact ht
  · cases hb
theorem wd_mk {P : Program} {w : World} {K : PySem.W.Frag} {mg : Str → Option Value} {base : Heap} {f a y : Str} {st : Stmt} {g : Addr} {fd : FuncData} {hs : List (Str × Str)} {hA : List (Addr × Str)} (Fu : L2.Fun K f f st g fd) (gm : mg f = some (.ref g)) (bi : Binds K fd [a] []) (SC : FnScope [a, y] [a] (defScope st))
    (hb : wdB (defScope st) a y hs (defBody st) = true) (h : HsA K mg hA hs) (hv : visB (defScope st) a = true) (ho : okName a = true) (hd : (f == ("__debug__" : Str)) = false := by decide) : WdK P w K mg base f hs := by
  obtain ⟨oc, od, kV, doc, pm, an, cdv, ct, osl, rfl, lk, hcd⟩ := Fu.ex
  refine ⟨⟨g, a, hA, _, _, _, _, _, _, _, _, _, _, _, _, _, [a, y], gm, Fu.kp, lk, hcd, bi, SC, rfl, visB_ok hv, (okName_ok ho).1, (okName_ok ho).2, h, fun X e1 e2 e3 e4 e5 q => ?_⟩, hd⟩
  subst e1; subst e2; subst e3; subst e4; subst e5
  exact gives_word hb rfl SC h
theorem gv_fn {K : PySem.W.Frag} {mg : Str → Option Value} {h : Heap} {x : Str} {f : Addr} (X : K.In h) (G : h.Ns mainGlobals mg) (e : PySem.W.nsIn K mainGlobals x = some (some (.ref f))) (hd : (x == ("__debug__" : Str)) = false := by decide) : GvK K mg x (.fn x) :=
  ⟨.ref f, _, PySem.W.mg_of X G e, rfl, hd, fun _ _ => .fn (PySem.W.mg_of X G e)⟩
theorem tabIn_of {K : PySem.W.Frag} {x : Str} {f c P : Addr} {oc oc' : Value} {od od' : Option Addr} {fd : FuncData} {sl sl' : Array (Option Value)} {vs : Array Value} (a : PySem.W.nsIn K mainGlobals x = some (some (.ref f))) (l : K.lookup f = some ⟨oc, od, .func fd, sl⟩) (hf : fd.code = .ref c) (hc : K.lookup c = some ⟨oc', od', .fields vs, sl'⟩) (hv : (vs[11]? : Option Value) = some (.ref P)) : PySem.W.tabIn K x = some (c, P) := by
  unfold PySem.W.tabIn
  rw [a]
  simp only [l, hf, hc, hv]
end W2

/-! The defs of the law in the small tongue, each checked against the text. -/
namespace W2
open PySem L2
def top (i : Nat) : Stmt := PySem.Challenge.pw_widerpairs_k09_whole_strengths_told_back.main.body.getD i (.Pass ⟨0, 0, 0, 0⟩)
def exs : List Str := ["InvalidHall", "InvalidSeen"]
def isEx (x : Str) : Bool := exs.contains x
/-! is_from -/
abbrev s_is_from : Stmt := top 10
abbrev N_is_from : List Str := ["value", "low", "high"]
abbrev P_is_from : List Str := ["value", "low", "high"]
def b_is_from : List St :=
  [.ret (.andE [(.isi (.var 0) "int"), (.notE (.isi (.var 0) "bool")), (.chn .LtE .LtE (.var 1) (.var 0) (.var 2))])]
theorem k_is_from : cSs isEx N_is_from (defScope s_is_from) b_is_from (defBody s_is_from) = true := by decide +kernel
theorem sc_is_from : FnScope N_is_from P_is_from (defScope s_is_from) := C8.fnScope_by (by decide +kernel)
/-! are_widths -/
abbrev s_are_widths : Stmt := top 11
abbrev N_are_widths : List Str := ["value", "top", "one", "other", "width"]
abbrev P_are_widths : List Str := ["value", "top"]
def b_are_widths : List St :=
  [.ife (.orE [(.notE (.isi (.var 0) "tuple")), (.notE (.chn .LtE .LtE (.cst (.int 1)) (.blt "len" [(.var 0)]) (.glb "MOST_WIDTHS")))]) [.ret (.cst (.bl false))] [],
    .ife (.notE (.blt "all" [(.comp [4] (.call "is_from" [(.var 4), (.cst (.int 0)), (.var 1)]) (.nm 4) (.var 0) (.cst (.bl true)))])) [.ret (.cst (.bl false))] [],
    .ret (.blt "all" [(.comp [2, 3] (.cmp .LtE (.var 2) (.var 3)) (.tp [(.nm 2), (.nm 3)]) (.zip (.var 0) (.sl (.var 0) (.cst (.int 1)) .off)) (.cst (.bl true)))])]
theorem k_are_widths : cSs isEx N_are_widths (defScope s_are_widths) b_are_widths (defBody s_are_widths) = true := by decide +kernel
theorem sc_are_widths : FnScope N_are_widths P_are_widths (defScope s_are_widths) := C8.fnScope_by (by decide +kernel)
/-! is_one_of -/
abbrev s_is_one_of : Stmt := top 12
abbrev N_is_one_of : List Str := ["value", "words"]
abbrev P_is_one_of : List Str := ["value", "words"]
def b_is_one_of : List St :=
  [.ret (.andE [(.isi (.var 0) "str"), (.cmp .In (.var 0) (.var 1))])]
theorem k_is_one_of : cSs isEx N_is_one_of (defScope s_is_one_of) b_is_one_of (defBody s_is_one_of) = true := by decide +kernel
theorem sc_is_one_of : FnScope N_is_one_of P_is_one_of (defScope s_is_one_of) := C8.fnScope_by (by decide +kernel)
/-! has_hall -/
abbrev s_has_hall : Stmt := top 13
abbrev N_has_hall : List Str := ["value"]
abbrev P_has_hall : List Str := ["value"]
def b_has_hall : List St :=
  [.ife (.orE [(.notE (.isi (.var 0) "tuple")), (.cmp .NotEq (.blt "len" [(.var 0)]) (.cst (.int 5))), (.notE (.call "is_from" [(.ix (.var 0) (.cst (.int 0))), (.cst (.int 1)), (.glb "MOST_TOP")]))]) [.ret (.cst (.bl false))] [],
    .ife (.orE [(.notE (.call "are_widths" [(.ix (.var 0) (.cst (.int 1))), (.ix (.var 0) (.cst (.int 0)))])), (.notE (.call "is_one_of" [(.ix (.var 0) (.cst (.int 2))), (.glb "FITS")])), (.notE (.call "is_one_of" [(.ix (.var 0) (.cst (.int 3))), (.glb "ORDERS")]))]) [.ret (.cst (.bl false))] [],
    .ret (.orE [(.cmp .Is (.ix (.var 0) (.cst (.int 4))) (.cst .non)), (.call "is_from" [(.ix (.var 0) (.cst (.int 4))), (.cst (.int 1)), (.glb "MOST_PATIENCE")])])]
theorem k_has_hall : cSs isEx N_has_hall (defScope s_has_hall) b_has_hall (defBody s_has_hall) = true := by decide +kernel
theorem sc_has_hall : FnScope N_has_hall P_has_hall (defScope s_has_hall) := C8.fnScope_by (by decide +kernel)
/-! need_hall -/
abbrev s_need_hall : Stmt := top 14
abbrev N_need_hall : List Str := ["value"]
abbrev P_need_hall : List Str := ["value"]
def b_need_hall : List St :=
  [.ife (.notE (.call "has_hall" [(.var 0)])) [.rse "InvalidHall"] []]
theorem k_need_hall : cSs isEx N_need_hall (defScope s_need_hall) b_need_hall (defBody s_need_hall) = true := by decide +kernel
theorem sc_need_hall : FnScope N_need_hall P_need_hall (defScope s_need_hall) := C8.fnScope_by (by decide +kernel)
/-! are_pairs -/
abbrev s_are_pairs : Stmt := top 23
abbrev N_are_pairs : List Str := ["value", "one", "other", "pair"]
abbrev P_are_pairs : List Str := ["value"]
def b_are_pairs : List St :=
  [.ife (.orE [(.notE (.isi (.var 0) "tuple")), (.cmp .Gt (.blt "len" [(.var 0)]) (.cst (.int 9)))]) [.ret (.cst (.bl false))] [],
    .for_ (.nm 3) (.var 0) [.ife (.orE [(.notE (.isi (.var 3) "tuple")), (.cmp .NotEq (.blt "len" [(.var 3)]) (.cst (.int 2))), (.notE (.blt "all" [(.comp [1] (.call "is_from" [(.var 1), (.cst (.int 0)), (.cst (.int 9))]) (.nm 1) (.var 3) (.cst (.bl true)))]))]) [.ret (.cst (.bl false))] [],
    .ife (.cmp .GtE (.ix (.var 3) (.cst (.int 0))) (.ix (.var 3) (.cst (.int 1)))) [.ret (.cst (.bl false))] []],
    .ret (.blt "all" [(.comp [1, 2] (.cmp .Lt (.var 1) (.var 2)) (.tp [(.nm 1), (.nm 2)]) (.zip (.var 0) (.sl (.var 0) (.cst (.int 1)) .off)) (.cst (.bl true)))])]
theorem k_are_pairs : cSs isEx N_are_pairs (defScope s_are_pairs) b_are_pairs (defBody s_are_pairs) = true := by decide +kernel
theorem sc_are_pairs : FnScope N_are_pairs P_are_pairs (defScope s_are_pairs) := C8.fnScope_by (by decide +kernel)
/-! are_gone -/
abbrev s_are_gone : Stmt := top 24
abbrev N_are_gone : List Str := ["value", "one", "other"]
abbrev P_are_gone : List Str := ["value"]
def b_are_gone : List St :=
  [.ife (.orE [(.notE (.isi (.var 0) "tuple")), (.cmp .Gt (.blt "len" [(.var 0)]) (.cst (.int 9))), (.notE (.blt "all" [(.comp [1] (.call "is_from" [(.var 1), (.cst (.int 0)), (.cst (.int 9))]) (.nm 1) (.var 0) (.cst (.bl true)))]))]) [.ret (.cst (.bl false))] [],
    .ret (.blt "all" [(.comp [1, 2] (.cmp .Lt (.var 1) (.var 2)) (.tp [(.nm 1), (.nm 2)]) (.zip (.var 0) (.sl (.var 0) (.cst (.int 1)) .off)) (.cst (.bl true)))])]
theorem k_are_gone : cSs isEx N_are_gone (defScope s_are_gone) b_are_gone (defBody s_are_gone) = true := by decide +kernel
theorem sc_are_gone : FnScope N_are_gone P_are_gone (defScope s_are_gone) := C8.fnScope_by (by decide +kernel)
/-! is_beat -/
abbrev s_is_beat : Stmt := top 25
abbrev N_is_beat : List Str := ["value"]
abbrev P_is_beat : List Str := ["value"]
def b_is_beat : List St :=
  [.ife (.orE [(.notE (.isi (.var 0) "tuple")), (.cmp .NotEq (.blt "len" [(.var 0)]) (.cst (.int 3))), (.notE (.isi (.ix (.var 0) (.cst (.int 0))) "bool"))]) [.ret (.cst (.bl false))] [],
    .ret (.andE [(.call "are_pairs" [(.ix (.var 0) (.cst (.int 1)))]), (.call "are_gone" [(.ix (.var 0) (.cst (.int 2)))])])]
theorem k_is_beat : cSs isEx N_is_beat (defScope s_is_beat) b_is_beat (defBody s_is_beat) = true := by decide +kernel
theorem sc_is_beat : FnScope N_is_beat P_is_beat (defScope s_is_beat) := C8.fnScope_by (by decide +kernel)
/-! need_seen -/
abbrev s_need_seen : Stmt := top 26
abbrev N_need_seen : List Str := ["value", "beat"]
abbrev P_need_seen : List Str := ["value"]
def b_need_seen : List St :=
  [.ife (.orE [(.notE (.isi (.var 0) "tuple")), (.cmp .Gt (.blt "len" [(.var 0)]) (.glb "MOST_SEEN")), (.notE (.blt "all" [(.comp [1] (.call "is_beat" [(.var 1)]) (.nm 1) (.var 0) (.cst (.bl true)))]))]) [.rse "InvalidSeen"] []]
theorem k_need_seen : cSs isEx N_need_seen (defScope s_need_seen) b_need_seen (defBody s_need_seen) = true := by decide +kernel
theorem sc_need_seen : FnScope N_need_seen P_need_seen (defScope s_need_seen) := C8.fnScope_by (by decide +kernel)
/-! most_waited -/
abbrev s_most_waited : Stmt := top 16
abbrev N_most_waited : List Str := ["hall"]
abbrev P_most_waited : List Str := ["hall"]
def b_most_waited : List St :=
  [.ret (.ite (.cmp .Is (.ix (.var 0) (.cst (.int 4))) (.cst .non)) (.bin .Sub (.blt "len" [(.ix (.var 0) (.cst (.int 1)))]) (.cst (.int 1))) (.ix (.var 0) (.cst (.int 4))))]
theorem k_most_waited : cSs isEx N_most_waited (defScope s_most_waited) b_most_waited (defBody s_most_waited) = true := by decide +kernel
theorem sc_most_waited : FnScope N_most_waited P_most_waited (defScope s_most_waited) := C8.fnScope_by (by decide +kernel)
/-! do_fit -/
abbrev s_do_fit : Stmt := top 17
abbrev N_do_fit : List Str := ["hall", "one", "other", "waited", "widths"]
abbrev P_do_fit : List Str := ["hall", "one", "other"]
def b_do_fit : List St :=
  [.set 4 (.ix (.var 0) (.cst (.int 1))),
    .set 3 (.ite (.cmp .Eq (.ix (.var 0) (.cst (.int 2))) (.cst (.str "wide"))) (.blt "max" [(.ix (.var 1) (.cst (.int 2))), (.ix (.var 2) (.cst (.int 2)))]) (.blt "min" [(.ix (.var 1) (.cst (.int 2))), (.ix (.var 2) (.cst (.int 2)))])),
    .ret (.cmp .LtE (.blt "abs" [(.bin .Sub (.ix (.var 1) (.cst (.int 1))) (.ix (.var 2) (.cst (.int 1))))]) (.ix (.var 4) (.blt "min" [(.var 3), (.bin .Sub (.blt "len" [(.var 4)]) (.cst (.int 1)))])))]
theorem k_do_fit : cSs isEx N_do_fit (defScope s_do_fit) b_do_fit (defBody s_do_fit) = true := by decide +kernel
theorem sc_do_fit : FnScope N_do_fit P_do_fit (defScope s_do_fit) := C8.fnScope_by (by decide +kernel)
/-! fitting -/
abbrev s_fitting : Stmt := top 18
abbrev N_fitting : List Str := ["hall", "waiting", "found", "later", "one", "place"]
abbrev P_fitting : List Str := ["hall", "waiting"]
def b_fitting : List St :=
  [.own 2 (.lst []),
    .for_ (.tp [(.nm 5), (.nm 4)]) (.enu (.var 1)) [.for_ (.nm 3) (.rng2 (.bin .Add (.var 5) (.cst (.int 1))) (.blt "len" [(.var 1)])) [.ife (.call "do_fit" [(.var 0), (.var 4), (.ix (.var 1) (.var 3))]) [.app 2 (.tup [(.var 5), (.var 3)])] []]],
    .retO 2]
theorem k_fitting : cSs isEx N_fitting (defScope s_fitting) b_fitting (defBody s_fitting) = true := by decide +kernel
theorem sc_fitting : FnScope N_fitting P_fitting (defScope s_fitting) := C8.fnScope_by (by decide +kernel)
/-! chosen -/
abbrev s_chosen : Stmt := top 19
abbrev N_chosen : List Str := ["hall", "waiting", "pairs", "earlier", "later", "one", "other"]
abbrev P_chosen : List Str := ["hall", "waiting", "pairs"]
def b_chosen : List St :=
  [.ife (.cmp .Eq (.ix (.var 0) (.cst (.int 3))) (.cst (.str "first"))) [.ret (.blt "min" [(.var 2)])] [],
    .ife (.cmp .Eq (.ix (.var 0) (.cst (.int 3))) (.cst (.str "last"))) [.tgt (.tp [(.nm 4), (.nm 3)]) (.blt "max" [(.comp [5, 6] (.tup [(.var 6), (.var 5)]) (.tp [(.nm 5), (.nm 6)]) (.var 2) (.cst (.bl true)))]),
    .ret (.tup [(.var 3), (.var 4)])] [],
    .ret (.ix (.blt "min" [(.comp [5, 6] (.tup [(.blt "abs" [(.bin .Sub (.ix (.ix (.var 1) (.var 5)) (.cst (.int 1))) (.ix (.ix (.var 1) (.var 6)) (.cst (.int 1))))]), (.tup [(.var 5), (.var 6)])]) (.tp [(.nm 5), (.nm 6)]) (.var 2) (.cst (.bl true)))]) (.cst (.int 1)))]
theorem k_chosen : cSs isEx N_chosen (defScope s_chosen) b_chosen (defBody s_chosen) = true := by decide +kernel
theorem sc_chosen : FnScope N_chosen P_chosen (defScope s_chosen) := C8.fnScope_by (by decide +kernel)
/-! beat_of -/
abbrev s_beat_of : Stmt := top 20
abbrev N_beat_of : List Str := ["hall", "waiting", "number", "coming", "gone", "made", "most", "now", "one", "other", "pairs", "player", "strength", "waited"]
abbrev P_beat_of : List Str := ["hall", "waiting", "number", "coming"]
def b_beat_of : List St :=
  [.set 6 (.call "most_waited" [(.var 0)]),
    .set 7 (.comp [8, 12, 13] (.tup [(.var 8), (.var 12), (.blt "min" [(.var 6), (.bin .Add (.var 13) (.cst (.int 1)))])]) (.tp [(.nm 8), (.nm 12), (.nm 13)]) (.var 1) (.cst (.bl true))),
    .ife (.cmp .IsNot (.var 3) (.cst .non)) [.set 7 (.bin .Add (.var 7) (.lst [(.tup [(.var 2), (.var 3), (.cst (.int 0))])]))] [],
    .par [5, 10] [(.lst []), (.call "fitting" [(.var 0), (.var 7)])],
    .whl (.cmp .NotEq (.var 10) (.lst [])) [.tgt (.tp [(.nm 8), (.nm 9)]) (.call "chosen" [(.var 0), (.var 7), (.var 10)]),
    .set 5 (.bin .Add (.var 5) (.lst [(.tup [(.ix (.ix (.var 7) (.var 8)) (.cst (.int 0))), (.ix (.ix (.var 7) (.var 9)) (.cst (.int 0)))])])),
    .set 7 (.bin .Add (.bin .Add (.sl (.var 7) .off (.var 8)) (.sl (.var 7) (.bin .Add (.var 8) (.cst (.int 1))) (.var 9))) (.sl (.var 7) (.bin .Add (.var 9) (.cst (.int 1))) .off)),
    .set 10 (.call "fitting" [(.var 0), (.var 7)])],
    .set 4 (.comp [8, 12, 13] (.var 8) (.tp [(.nm 8), (.nm 12), (.nm 13)]) (.var 7) (.andE [(.cmp .IsNot (.ix (.var 0) (.cst (.int 4))) (.cst .non)), (.cmp .GtE (.var 13) (.ix (.var 0) (.cst (.int 4))))])),
    .ret (.tup [(.comp [11] (.var 11) (.nm 11) (.var 7) (.cmp .NotIn (.ix (.var 11) (.cst (.int 0))) (.var 4))), (.var 5), (.var 4)])]
theorem k_beat_of : cSs isEx N_beat_of (defScope s_beat_of) b_beat_of (defBody s_beat_of) = true := by decide +kernel
theorem sc_beat_of : FnScope N_beat_of P_beat_of (defScope s_beat_of) := C8.fnScope_by (by decide +kernel)
/-! told_of -/
abbrev s_told_of : Stmt := top 27
abbrev N_told_of : List Str := ["hall", "seen", "came", "coming", "found", "gone", "later", "left", "made", "pairs", "strengths", "there", "waiting"]
abbrev P_told_of : List Str := ["hall", "seen"]
def b_told_of : List St :=
  [.set 4 (.lst [(.tup [(.tup []), (.lst [])])]),
    .for_ (.tp [(.nm 2), (.nm 9), (.nm 7)]) (.var 1) [.own 6 (.lst []),
    .for_ (.tp [(.nm 10), (.nm 12)]) (.var 4) [.for_ (.nm 3) (.ite (.var 2) (.lrg (.rng1 (.bin .Add (.ix (.var 0) (.cst (.int 0))) (.cst (.int 1))))) (.lst [(.cst .non)])) [.tgt (.tp [(.nm 11), (.nm 8), (.nm 5)]) (.call "beat_of" [(.var 0), (.var 12), (.blt "len" [(.var 10)]), (.var 3)]),
    .ife (.andE [(.cmp .Eq (.blt "tuple" [(.blt "sorted" [(.var 8)])]) (.var 9)), (.cmp .Eq (.blt "tuple" [(.var 5)]) (.var 7))]) [.app 6 (.tup [(.bin .Add (.var 10) (.ite (.var 2) (.tup [(.var 3)]) (.tup []))), (.var 11)])] []]],
    .mov 4 6],
    .ret (.blt "sorted" [(.comp [10, 12] (.var 10) (.tp [(.nm 10), (.nm 12)]) (.var 4) (.cst (.bl true)))])]
theorem k_told_of : cSs isEx N_told_of (defScope s_told_of) b_told_of (defBody s_told_of) = true := by decide +kernel
theorem sc_told_of : FnScope N_told_of P_told_of (defScope s_told_of) := C8.fnScope_by (by decide +kernel)
/-! strengths_told -/
abbrev s_strengths_told : Stmt := top 28
abbrev N_strengths_told : List Str := ["hall", "seen"]
abbrev P_strengths_told : List Str := ["hall", "seen"]
def b_strengths_told : List St :=
  [.expr (.call "need_hall" [(.var 0)]),
    .expr (.call "need_seen" [(.var 1)]),
    .ret (.call "told_of" [(.var 0), (.var 1)])]
theorem k_strengths_told : cSs isEx N_strengths_told (defScope s_strengths_told) b_strengths_told (defBody s_strengths_told) = true := by decide +kernel
theorem sc_strengths_told : FnScope N_strengths_told P_strengths_told (defScope s_strengths_told) := C8.fnScope_by (by decide +kernel)
/-! surely_told -/
abbrev s_surely_told : Stmt := top 29
abbrev N_surely_told : List Str := ["hall", "seen", "at", "found", "one", "some", "strength"]
abbrev P_surely_told : List Str := ["hall", "seen"]
def b_surely_told : List St :=
  [.expr (.call "need_hall" [(.var 0)]),
    .expr (.call "need_seen" [(.var 1)]),
    .set 5 (.call "told_of" [(.var 0), (.var 1)]),
    .ife (.cmp .Eq (.var 5) (.lst [])) [.ret (.cst .non)] [],
    .set 3 (.tup []),
    .for_ (.tp [(.nm 2), (.nm 6)]) (.enu (.ix (.var 5) (.cst (.int 0)))) [.set 3 (.bin .Add (.var 3) (.tup [(.ite (.blt "all" [(.comp [4] (.cmp .Eq (.ix (.var 4) (.var 2)) (.var 6)) (.nm 4) (.var 5) (.cst (.bl true)))]) (.var 6) (.cst .non))]))],
    .ret (.var 3)]
theorem k_surely_told : cSs isEx N_surely_told (defScope s_surely_told) b_surely_told (defBody s_surely_told) = true := by decide +kernel
theorem sc_surely_told : FnScope N_surely_told P_surely_told (defScope s_surely_told) := C8.fnScope_by (by decide +kernel)
/-! _law_written_right -/
abbrev s_law_written_right : Stmt := top 48
abbrev N_law_written_right : List Str := ["_law_both", "_law_came", "_law_four", "_law_late", "_law_one", "_law_three", "_law_top", "_law_two"]
abbrev P_law_written_right : List Str := []
def b_law_written_right : List St :=
  [.tgt (.tp [(.nm 4), (.nm 7)]) (.tup [(.tup [(.cst (.int 2)), (.tup [(.cst (.int 0))]), (.cst (.str "narrow")), (.cst (.str "near")), (.cst .non)]), (.tup [(.cst (.int 2)), (.tup [(.cst (.int 0)), (.cst (.int 1)), (.cst (.int 2))]), (.cst (.str "wide")), (.cst (.str "near")), (.cst .non)])]),
    .tgt (.tp [(.nm 5), (.nm 2)]) (.tup [(.tup [(.cst (.int 1)), (.tup [(.cst (.int 0))]), (.cst (.str "narrow")), (.cst (.str "first")), (.cst (.int 1))]), (.tup [(.cst (.int 1)), (.tup [(.cst (.int 0))]), (.cst (.str "narrow")), (.cst (.str "first")), (.cst .non)])]),
    .tgt (.tp [(.nm 1), (.nm 0)]) (.tup [(.tup [(.cst (.bl true)), (.tup []), (.tup [])]), (.tup [(.cst (.bl true)), (.tup [(.tup [(.cst (.int 0)), (.cst (.int 1))])]), (.tup [])])]),
    .ife (.cmp .NotEq (.call "strengths_told" [(.var 2), (.tup [(.var 1), (.var 1), (.tup [(.cst (.bl true)), (.tup [(.tup [(.cst (.int 1)), (.cst (.int 2))])]), (.tup [])])])]) (.lst [(.tup [(.cst (.int 0)), (.cst (.int 1)), (.cst (.int 1))]), (.tup [(.cst (.int 1)), (.cst (.int 0)), (.cst (.int 0))])])) [.ret (.cst (.bl false))] [],
    .ife (.cmp .NotEq (.blt "len" [(.call "strengths_told" [(.var 7), (.tup [(.var 1), (.var 0)])])]) (.cst (.int 7))) [.ret (.cst (.bl false))] [],
    .ife (.cmp .NotEq (.call "strengths_told" [(.var 5), (.tup [(.var 1), (.tup [(.cst (.bl false)), (.tup [(.tup [(.cst (.int 0)), (.cst (.int 1))])]), (.tup [])])])]) (.lst [])) [.ret (.cst (.bl false))] [],
    .ife (.cmp .NotEq (.call "surely_told" [(.var 4), (.tup [(.tup [(.cst (.bl false)), (.tup []), (.tup [])]), (.var 1)])]) (.tup [(.cst .non)])) [.ret (.cst (.bl false))] [],
    .ife (.cmp .IsNot (.call "surely_told" [(.var 4), (.tup [(.tup [(.cst (.bl false)), (.tup []), (.tup [(.cst (.int 0))])])])]) (.cst .non)) [.ret (.cst (.bl false))] [],
    .ife (.orE [(.cmp .NotEq (.call "surely_told" [(.var 2), (.tup [])]) (.tup [])), (.cmp .NotEq (.call "strengths_told" [(.var 2), (.tup [])]) (.lst [(.tup [])]))]) [.ret (.cst (.bl false))] [],
    .ife (.cmp .IsNot (.call "surely_told" [(.var 7), (.tup [(.var 1), (.var 1), (.bin .Add (.sl (.var 0) .off (.cst (.int 1))) (.tup [(.tup []), (.tup [])]))])]) (.cst .non)) [.ret (.cst (.bl false))] [],
    .set 6 (.tup [(.cst (.int 2)), (.tup [(.cst (.int 1))]), (.cst (.str "narrow")), (.cst (.str "first")), (.cst .non)]),
    .ife (.cmp .NotEq (.call "surely_told" [(.var 6), (.tup [(.var 1), (.var 1), (.tup [(.cst (.bl true)), (.tup [(.tup [(.cst (.int 0)), (.cst (.int 2))])]), (.tup [])])])]) (.tup [(.cst .non), (.cst .non), (.cst .non)])) [.ret (.cst (.bl false))] [],
    .ife (.cmp .NotEq (.call "surely_told" [(.var 4), (.tup [(.var 1), (.var 1), (.var 1), (.tup [(.cst (.bl true)), (.tup [(.tup [(.cst (.int 0)), (.cst (.int 3))])]), (.tup [])])])]) (.bin .Mult (.tup [(.cst .non)]) (.cst (.int 4)))) [.ret (.cst (.bl false))] [],
    .ife (.cmp .NotEq (.call "surely_told" [(.bin .Add (.tup [(.cst (.int 1)), (.tup [(.cst (.int 1))])]) (.sl (.var 4) (.cst (.int 2)) .off)), (.tup [(.var 1)])]) (.tup [(.cst .non)])) [.ret (.cst (.bl false))] [],
    .ife (.cmp .NotEq (.call "strengths_told" [(.var 6), (.tup [(.var 1), (.var 1)])]) (.lst [(.tup [(.cst (.int 0)), (.cst (.int 2))]), (.tup [(.cst (.int 2)), (.cst (.int 0))])])) [.ret (.cst (.bl false))] [],
    .ife (.cmp .NotEq (.call "strengths_told" [(.var 5), (.tup [(.var 1), (.tup [(.cst (.bl true)), (.tup []), (.tup [(.cst (.int 0))])])])]) (.lst [(.tup [(.cst (.int 0)), (.cst (.int 1))]), (.tup [(.cst (.int 1)), (.cst (.int 0))])])) [.ret (.cst (.bl false))] [],
    .set 3 (.tup [(.var 1), (.var 1), (.var 1)]),
    .ife (.cmp .NotEq (.call "strengths_told" [(.var 5), (.tup [(.var 1), (.tup [(.cst (.bl false)), (.tup []), (.tup [])])])]) (.lst [])) [.ret (.cst (.bl false))] [],
    .ret (.cmp .Eq (.sl (.call "strengths_told" [(.var 4), (.var 3)]) .off (.cst (.int 2))) (.lst [(.tup [(.cst (.int 0)), (.cst (.int 1)), (.cst (.int 2))]), (.tup [(.cst (.int 0)), (.cst (.int 2)), (.cst (.int 1))])]))]
theorem k_law_written_right : cSs isEx N_law_written_right (defScope s_law_written_right) b_law_written_right (defBody s_law_written_right) = true := by decide +kernel
theorem sc_law_written_right : FnScope N_law_written_right P_law_written_right (defScope s_law_written_right) := C8.fnScope_by (by decide +kernel)
/-! _law_source -/
abbrev s_law_source : Stmt := top 31
abbrev N_law_source : List Str := ["_law_script", "_law_k", "_law_cell"]
abbrev P_law_source : List Str := ["_law_script", "_law_k"]
def b_law_source : List St :=
  [.set 2 (.ite (.cmp .Lt (.var 1) (.blt "len" [(.var 0)])) (.blt "abs" [(.blt "int" [(.ix (.var 0) (.var 1))])]) (.bin .Add (.bin .Mult (.cst (.int 109)) (.var 1)) (.cst (.int 61)))),
    .ret (.lst [(.ite (.cmp .Gt (.var 2) (.bin .Pow (.cst (.int 10)) (.cst (.int 17)))) (.var 2) (.cst (.int 0))), (.bin .Mod (.blt "int" [(.bin .Add (.bin .Add (.bin .Mult (.var 2) (.cst (.int 16807))) (.bin .Mult (.cst (.int 10061)) (.var 1))) (.cst (.int 83)))]) (.cst (.int 2147483237)))])]
theorem k_law_source : cSs isEx N_law_source (defScope s_law_source) b_law_source (defBody s_law_source) = true := by decide +kernel
theorem sc_law_source : FnScope N_law_source P_law_source (defScope s_law_source) := C8.fnScope_by (by decide +kernel)
/-! _law_draw -/
abbrev s_law_draw : Stmt := top 32
abbrev N_law_draw : List Str := ["_law_source_here", "_law_many", "_law_rest", "_law_wide"]
abbrev P_law_draw : List Str := ["_law_source_here", "_law_many"]
def b_law_draw : List St :=
  [.ife (.brw [0] (.cmp .Gt (.ix (.var 0) (.cst (.int 0))) (.cst (.int 0)))) [.set 2 (.bin .Mod (.brw [0] (.blt "int" [(.ix (.var 0) (.cst (.int 0)))])) (.var 1)),
    .put 0 (.cst (.int 0)) (.bin .FloorDiv (.brw [0] (.ix (.var 0) (.cst (.int 0)))) (.var 1)),
    .ret (.var 2)] [],
    .put 0 (.cst (.int 1)) (.bin .Mod (.brw [0] (.blt "int" [(.bin .Add (.bin .Mult (.ix (.var 0) (.cst (.int 1))) (.cst (.int 48271))) (.cst (.int 83)))])) (.cst (.int 2147483237))),
    .set 3 (.bin .Mod (.brw [0] (.blt "int" [(.bin .Mult (.ix (.var 0) (.cst (.int 1))) (.bin .Add (.bin .FloorDiv (.ix (.var 0) (.cst (.int 1))) (.cst (.int 41))) (.cst (.int 26))))])) (.cst (.int 2147483179))),
    .ret (.bin .Mod (.blt "int" [(.bin .FloorDiv (.var 3) (.cst (.int 32)))]) (.var 1))]
theorem k_law_draw : cSs isEx N_law_draw (defScope s_law_draw) b_law_draw (defBody s_law_draw) = true := by decide +kernel
theorem sc_law_draw : FnScope N_law_draw P_law_draw (defScope s_law_draw) := C8.fnScope_by (by decide +kernel)
/-! _law_choice -/
abbrev s_law_choice : Stmt := top 33
abbrev N_law_choice : List Str := ["_law_source_here", "_law_some"]
abbrev P_law_choice : List Str := ["_law_source_here", "_law_some"]
def b_law_choice : List St :=
  [.ret (.ix (.var 1) (.call "_law_draw" [(.io 0), (.blt "len" [(.var 1)])]))]
theorem k_law_choice : cSs isEx N_law_choice (defScope s_law_choice) b_law_choice (defBody s_law_choice) = true := by decide +kernel
theorem sc_law_choice : FnScope N_law_choice P_law_choice (defScope s_law_choice) := C8.fnScope_by (by decide +kernel)
/-! _law_hall -/
abbrev s_law_hall : Stmt := top 34
abbrev N_law_hall : List Str := ["_law_source_here", "_law_most", "_law_fit", "_law_order", "_law_top", "_law_turn", "_law_widths"]
abbrev P_law_hall : List Str := ["_law_source_here", "_law_most"]
def b_law_hall : List St :=
  [.set 4 (.bin .Add (.cst (.int 1)) (.call "_law_draw" [(.io 0), (.var 1)])),
    .set 6 (.blt "tuple" [(.blt "sorted" [(.comp [5] (.call "_law_draw" [(.io 0), (.bin .Add (.var 4) (.cst (.int 1)))]) (.nm 5) (.rng1 (.bin .Add (.cst (.int 1)) (.call "_law_draw" [(.io 0), (.cst (.int 3))]))) (.cst (.bl true)))])]),
    .par [2, 3] [(.call "_law_choice" [(.io 0), (.lst [(.cst (.str "narrow")), (.cst (.str "wide"))])]), (.call "_law_choice" [(.io 0), (.lst [(.cst (.str "first")), (.cst (.str "last")), (.cst (.str "near"))])])],
    .ret (.tup [(.var 4), (.var 6), (.var 2), (.var 3), (.call "_law_choice" [(.io 0), (.lst [(.cst .non), (.cst .non), (.cst (.int 1)), (.cst (.int 2)), (.cst (.int 3))])])])]
theorem k_law_hall : cSs isEx N_law_hall (defScope s_law_hall) b_law_hall (defBody s_law_hall) = true := by decide +kernel
theorem sc_law_hall : FnScope N_law_hall P_law_hall (defScope s_law_hall) := C8.fnScope_by (by decide +kernel)
/-! _law_row -/
abbrev s_law_row : Stmt := top 35
abbrev N_law_row : List Str := ["_law_source_here", "_law_top", "_law_most", "_law_some", "_law_turn"]
abbrev P_law_row : List Str := ["_law_source_here", "_law_top", "_law_most"]
def b_law_row : List St :=
  [.set 3 (.bin .Add (.lst [(.cst .non)]) (.bin .Mult (.lrg (.rng1 (.bin .Add (.var 1) (.cst (.int 1))))) (.cst (.int 2)))),
    .ret (.blt "tuple" [(.comp [4] (.call "_law_choice" [(.io 0), (.var 3)]) (.nm 4) (.rng1 (.call "_law_draw" [(.io 0), (.bin .Add (.var 2) (.cst (.int 1)))])) (.cst (.bl true)))])]
theorem k_law_row : cSs isEx N_law_row (defScope s_law_row) b_law_row (defBody s_law_row) = true := by decide +kernel
theorem sc_law_row : FnScope N_law_row P_law_row (defScope s_law_row) := C8.fnScope_by (by decide +kernel)
/-! _law_window -/
abbrev s_law_window : Stmt := top 36
abbrev N_law_window : List Str := ["_law_hall_here", "_law_waited"]
abbrev P_law_window : List Str := ["_law_hall_here", "_law_waited"]
def b_law_window : List St :=
  [.ret (.ix (.ix (.var 0) (.cst (.int 1))) (.blt "min" [(.var 1), (.bin .Sub (.blt "len" [(.ix (.var 0) (.cst (.int 1)))]) (.cst (.int 1)))]))]
theorem k_law_window : cSs isEx N_law_window (defScope s_law_window) b_law_window (defBody s_law_window) = true := by decide +kernel
theorem sc_law_window : FnScope N_law_window P_law_window (defScope s_law_window) := C8.fnScope_by (by decide +kernel)
/-! _law_fits -/
abbrev s_law_fits : Stmt := top 37
abbrev N_law_fits : List Str := ["_law_hall_here", "_law_one", "_law_other", "_law_beats", "_law_waited"]
abbrev P_law_fits : List Str := ["_law_hall_here", "_law_one", "_law_other"]
def b_law_fits : List St :=
  [.set 3 (.lst [(.ix (.var 1) (.cst (.int 2))), (.ix (.var 2) (.cst (.int 2)))]),
    .set 4 (.ite (.cmp .Eq (.ix (.var 0) (.cst (.int 2))) (.cst (.str "wide"))) (.blt "max" [(.var 3)]) (.blt "min" [(.var 3)])),
    .ret (.cmp .LtE (.blt "abs" [(.bin .Sub (.ix (.var 1) (.cst (.int 1))) (.ix (.var 2) (.cst (.int 1))))]) (.call "_law_window" [(.var 0), (.var 4)]))]
theorem k_law_fits : cSs isEx N_law_fits (defScope s_law_fits) b_law_fits (defBody s_law_fits) = true := by decide +kernel
theorem sc_law_fits : FnScope N_law_fits P_law_fits (defScope s_law_fits) := C8.fnScope_by (by decide +kernel)
/-! _law_picked -/
abbrev s_law_picked : Stmt := top 38
abbrev N_law_picked : List Str := ["_law_hall_here", "_law_there", "_law_at", "_law_key", "_law_one", "_law_other", "_law_rows_here"]
abbrev P_law_picked : List Str := ["_law_hall_here", "_law_there"]
def b_law_picked : List St :=
  [.own 6 (.lst []),
    .for_ (.tp [(.nm 2), (.nm 4)]) (.enu (.var 1)) [.for_ (.nm 5) (.sl (.var 1) (.bin .Add (.var 2) (.cst (.int 1))) .off) [.ife (.call "_law_fits" [(.var 0), (.var 4), (.var 5)]) [.set 3 (.tup [(.ix (.var 4) (.cst (.int 0))), (.ix (.var 5) (.cst (.int 0)))]),
    .ife (.cmp .Eq (.ix (.var 0) (.cst (.int 3))) (.cst (.str "last"))) [.set 3 (.tup [(.bin .Sub (.cst (.int 0)) (.ix (.var 5) (.cst (.int 0)))), (.bin .Sub (.cst (.int 0)) (.ix (.var 4) (.cst (.int 0))))])] [],
    .ife (.cmp .Eq (.ix (.var 0) (.cst (.int 3))) (.cst (.str "near"))) [.set 3 (.tup [(.blt "abs" [(.bin .Sub (.ix (.var 4) (.cst (.int 1))) (.ix (.var 5) (.cst (.int 1))))]), (.ix (.var 4) (.cst (.int 0))), (.ix (.var 5) (.cst (.int 0)))])] [],
    .app 6 (.tup [(.var 3), (.var 4), (.var 5)])] []]],
    .ret (.ite (.brw [6] (.cmp .NotEq (.var 6) (.lst []))) (.sl (.brw [6] (.ix (.blt "sorted" [(.var 6)]) (.cst (.int 0)))) (.cst (.int 1)) .off) (.cst .non))]
theorem k_law_picked : cSs isEx N_law_picked (defScope s_law_picked) b_law_picked (defBody s_law_picked) = true := by decide +kernel
theorem sc_law_picked : FnScope N_law_picked P_law_picked (defScope s_law_picked) := C8.fnScope_by (by decide +kernel)
/-! _law_beat -/
abbrev s_law_beat : Stmt := top 39
abbrev N_law_beat : List Str := ["_law_hall_here", "_law_waiting", "_law_comer", "_law_coming", "_law_left", "_law_made", "_law_most", "_law_number", "_law_one", "_law_strength", "_law_there", "_law_two", "_law_waited"]
abbrev P_law_beat : List Str := ["_law_hall_here", "_law_waiting", "_law_comer", "_law_coming"]
def b_law_beat : List St :=
  [.set 6 (.ite (.cmp .IsNot (.ix (.var 0) (.cst (.int 4))) (.cst .non)) (.ix (.var 0) (.cst (.int 4))) (.bin .Sub (.blt "len" [(.ix (.var 0) (.cst (.int 1)))]) (.cst (.int 1)))),
    .set 10 (.comp [7, 9, 12] (.tup [(.var 7), (.var 9), (.blt "min" [(.var 6), (.bin .Add (.var 12) (.cst (.int 1)))])]) (.tp [(.nm 7), (.nm 9), (.nm 12)]) (.var 1) (.cst (.bl true))),
    .set 10 (.bin .Add (.var 10) (.ite (.cmp .IsNot (.var 3) (.cst .non)) (.lst [(.tup [(.var 2), (.var 3), (.cst (.int 0))])]) (.lst []))),
    .own 5 (.lst []),
    .set 11 (.call "_law_picked" [(.var 0), (.var 10)]),
    .whl (.cmp .IsNot (.var 11) (.cst .non)) [.app 5 (.tup [(.ix (.ix (.var 11) (.cst (.int 0))) (.cst (.int 0))), (.ix (.ix (.var 11) (.cst (.int 1))) (.cst (.int 0)))]),
    .set 10 (.comp [8] (.var 8) (.nm 8) (.var 10) (.cmp .NotIn (.var 8) (.var 11))),
    .set 11 (.call "_law_picked" [(.var 0), (.var 10)])],
    .set 4 (.comp [8] (.ix (.var 8) (.cst (.int 0))) (.nm 8) (.var 10) (.cmp .Eq (.ix (.var 8) (.cst (.int 2))) (.ix (.var 0) (.cst (.int 4))))),
    .shut [5] (.ret (.tup [(.comp [8] (.var 8) (.nm 8) (.var 10) (.cmp .NotIn (.ix (.var 8) (.cst (.int 0))) (.var 4))), (.var 5), (.var 4)]))]
theorem k_law_beat : cSs isEx N_law_beat (defScope s_law_beat) b_law_beat (defBody s_law_beat) = true := by decide +kernel
theorem sc_law_beat : FnScope N_law_beat P_law_beat (defScope s_law_beat) := C8.fnScope_by (by decide +kernel)
/-! _law_run -/
abbrev s_law_run : Stmt := top 40
abbrev N_law_run : List Str := ["_law_hall_here", "_law_row_here", "_law_beat_here", "_law_comer", "_law_coming", "_law_gone", "_law_left", "_law_made", "_law_one", "_law_other", "_law_pairs", "_law_waiting"]
abbrev P_law_run : List Str := ["_law_hall_here", "_law_row_here"]
def b_law_run : List St :=
  [.tgt (.tp [(.nm 11), (.nm 10), (.nm 5), (.nm 3)]) (.tup [(.lst []), (.lst []), (.lst []), (.cst (.int 0))]),
    .for_ (.tp [(.nm 2), (.nm 4)]) (.enu (.var 1)) [.tgt (.tp [(.nm 11), (.nm 7), (.nm 6)]) (.call "_law_beat" [(.var 0), (.var 11), (.var 3), (.var 4)]),
    .set 10 (.bin .Add (.var 10) (.comp [8, 9] (.tup [(.var 2), (.var 8), (.var 9)]) (.tp [(.nm 8), (.nm 9)]) (.var 7) (.cst (.bl true)))),
    .set 5 (.bin .Add (.var 5) (.comp [8] (.tup [(.var 2), (.var 8)]) (.nm 8) (.var 6) (.cst (.bl true)))),
    .set 3 (.bin .Add (.var 3) (.ite (.cmp .Is (.var 4) (.cst .non)) (.cst (.int 0)) (.cst (.int 1))))],
    .ret (.tup [(.var 11), (.var 10), (.var 5)])]
theorem k_law_run : cSs isEx N_law_run (defScope s_law_run) b_law_run (defBody s_law_run) = true := by decide +kernel
theorem sc_law_run : FnScope N_law_run P_law_run (defScope s_law_run) := C8.fnScope_by (by decide +kernel)
/-! _law_seen -/
abbrev s_law_seen : Stmt := top 41
abbrev N_law_seen : List Str := ["_law_hall_here", "_law_row_here", "_law_at", "_law_beat_here", "_law_coming", "_law_found", "_law_gone", "_law_left", "_law_made", "_law_one", "_law_other", "_law_pairs", "_law_waiting"]
abbrev P_law_seen : List Str := ["_law_hall_here", "_law_row_here"]
def b_law_seen : List St :=
  [.tgt (.tp [(.nm 12), (.nm 11), (.nm 6)]) (.call "_law_run" [(.var 0), (.var 1)]),
    .set 5 (.tup []),
    .for_ (.tp [(.nm 3), (.nm 4)]) (.enu (.var 1)) [.set 8 (.blt "sorted" [(.comp [2, 9, 10] (.tup [(.var 9), (.var 10)]) (.tp [(.nm 2), (.nm 9), (.nm 10)]) (.var 11) (.cmp .Eq (.var 2) (.var 3)))]),
    .set 7 (.blt "tuple" [(.comp [2, 9] (.var 9) (.tp [(.nm 2), (.nm 9)]) (.var 6) (.cmp .Eq (.var 2) (.var 3)))]),
    .set 5 (.bin .Add (.var 5) (.tup [(.tup [(.cmp .IsNot (.var 4) (.cst .non)), (.blt "tuple" [(.var 8)]), (.var 7)])]))],
    .ret (.var 5)]
theorem k_law_seen : cSs isEx N_law_seen (defScope s_law_seen) b_law_seen (defBody s_law_seen) = true := by decide +kernel
theorem sc_law_seen : FnScope N_law_seen P_law_seen (defScope s_law_seen) := C8.fnScope_by (by decide +kernel)
/-! _law_refused -/
abbrev s_law_refused : Stmt := top 46
abbrev N_law_refused : List Str := ["_law_hall_here", "_law_odd", "_law_call", "_law_words"]
abbrev P_law_refused : List Str := ["_law_hall_here", "_law_odd"]
def b_law_refused : List St :=
  [.own 3 (.lst []),
    .for_ (.nm 2) (.lst [(.glb "strengths_told"), (.glb "surely_told")]) [.tryS [.expr (.vcall 2 [(.var 0), (.var 1)])] [("InvalidSeen", [.app 3 (.cst (.str "seen"))])]],
    .ret (.brw [3] (.cmp .Eq (.var 3) (.bin .Mult (.lst [(.cst (.str "seen"))]) (.cst (.int 2)))))]
theorem k_law_refused : cSs isEx N_law_refused (defScope s_law_refused) b_law_refused (defBody s_law_refused) = true := by decide +kernel
theorem sc_law_refused : FnScope N_law_refused P_law_refused (defScope s_law_refused) := C8.fnScope_by (by decide +kernel)
/-! _law_all_refused -/
abbrev s_law_all_refused : Stmt := top 47
abbrev N_law_all_refused : List Str := ["_law_hall_here", "_law_odd", "_law_odds"]
abbrev P_law_all_refused : List Str := ["_law_hall_here"]
def b_law_all_refused : List St :=
  [.set 2 (.lst [(.cst .non), (.lst []), (.tup [(.cst (.bl true))]), (.tup [(.tup [(.cst (.bl true)), (.tup [])])]), (.tup [(.tup [(.cst (.int 1)), (.tup []), (.tup [])])]), (.tup [(.tup [(.cst (.bl true)), (.lst []), (.tup [])])]), (.tup [(.tup [(.cst (.bl true)), (.tup [(.tup [(.cst (.int 1)), (.cst (.int 0))])]), (.tup [])])])]),
    .set 2 (.bin .Add (.var 2) (.lst [(.tup [(.tup [(.cst (.bl true)), (.tup []), (.tup [(.cst (.int 1)), (.cst (.int 0))])])]), (.tup [(.tup [(.cst (.bl true)), (.tup [(.tup [(.cst (.int 0)), (.cst (.int 1))]), (.tup [(.cst (.int 0)), (.cst (.int 1))])]), (.tup [])])]), (.tup [(.tup [(.cst (.bl true)), (.tup [(.tup [(.cst (.int 0)), (.cst (.int 10))])]), (.tup [])])])])),
    .set 2 (.bin .Add (.var 2) (.lst [(.tup [(.tup [(.cst (.bl true)), (.tup []), (.tup [(.cst (.bl true))])])]), (.bin .Mult (.tup [(.tup [(.cst (.bl false)), (.tup []), (.tup [])])]) (.cst (.int 7)))])),
    .ret (.cmp .Eq (.comp [1] (.var 1) (.nm 1) (.var 2) (.notE (.call "_law_refused" [(.var 0), (.var 1)]))) (.lst []))]
theorem k_law_all_refused : cSs isEx N_law_all_refused (defScope s_law_all_refused) b_law_all_refused (defBody s_law_all_refused) = true := by decide +kernel
theorem sc_law_all_refused : FnScope N_law_all_refused P_law_all_refused (defScope s_law_all_refused) := C8.fnScope_by (by decide +kernel)
/-! _law_rows -/
abbrev s_law_rows : Stmt := top 42
abbrev N_law_rows : List Str := ["_law_hall_here", "_law_seen_here", "_law_beat_here", "_law_coming", "_law_found", "_law_later", "_law_row_here", "_law_some"]
abbrev P_law_rows : List Str := ["_law_hall_here", "_law_seen_here"]
def b_law_rows : List St :=
  [.set 4 (.lst [(.tup [])]),
    .for_ (.nm 2) (.var 1) [.set 5 (.lst []),
    .for_ (.nm 6) (.var 4) [.set 7 (.ite (.ix (.var 2) (.cst (.int 0))) (.lrg (.rng1 (.bin .Add (.ix (.var 0) (.cst (.int 0))) (.cst (.int 1))))) (.lst [(.cst .non)])),
    .set 5 (.bin .Add (.var 5) (.comp [3] (.bin .Add (.var 6) (.tup [(.var 3)])) (.nm 3) (.var 7) (.cst (.bl true))))],
    .set 4 (.var 5)],
    .ret (.var 4)]
theorem k_law_rows : cSs isEx N_law_rows (defScope s_law_rows) b_law_rows (defBody s_law_rows) = true := by decide +kernel
theorem sc_law_rows : FnScope N_law_rows P_law_rows (defScope s_law_rows) := C8.fnScope_by (by decide +kernel)
/-! _law_due -/
abbrev s_law_due : Stmt := top 43
abbrev N_law_due : List Str := ["_law_hall_here", "_law_seen_here", "_law_coming", "_law_found", "_law_row_here"]
abbrev P_law_due : List Str := ["_law_hall_here", "_law_seen_here"]
def b_law_due : List St :=
  [.own 3 (.lst []),
    .for_ (.nm 4) (.call "_law_rows" [(.var 0), (.var 1)]) [.ife (.cmp .Eq (.call "_law_seen" [(.var 0), (.var 4)]) (.var 1)) [.app 3 (.blt "tuple" [(.comp [2] (.var 2) (.nm 2) (.var 4) (.cmp .IsNot (.var 2) (.cst .non)))])] []],
    .shut [3] (.ret (.blt "sorted" [(.var 3)]))]
theorem k_law_due : cSs isEx N_law_due (defScope s_law_due) b_law_due (defBody s_law_due) = true := by decide +kernel
theorem sc_law_due : FnScope N_law_due P_law_due (defScope s_law_due) := C8.fnScope_by (by decide +kernel)
/-! _law_sure -/
abbrev s_law_sure : Stmt := top 44
abbrev N_law_sure : List Str := ["_law_some", "_law_at", "_law_found", "_law_one", "_law_sorts"]
abbrev P_law_sure : List Str := ["_law_some"]
def b_law_sure : List St :=
  [.ife (.cmp .Eq (.var 0) (.lst [])) [.ret (.cst .non)] [],
    .set 2 (.tup []),
    .for_ (.nm 1) (.rng1 (.blt "len" [(.ix (.var 0) (.cst (.int 0)))])) [.set 4 (.sset (.comp [3] (.ix (.var 3) (.var 1)) (.nm 3) (.var 0) (.cst (.bl true)))),
    .set 2 (.bin .Add (.var 2) (.tup [(.ite (.cmp .Eq (.blt "len" [(.var 4)]) (.cst (.int 1))) (.ix (.var 4) (.cst (.int 0))) (.cst .non))]))],
    .ret (.var 2)]
theorem k_law_sure : cSs isEx N_law_sure (defScope s_law_sure) b_law_sure (defBody s_law_sure) = true := by decide +kernel
theorem sc_law_sure : FnScope N_law_sure P_law_sure (defScope s_law_sure) := C8.fnScope_by (by decide +kernel)
/-! _law_bent -/
abbrev s_law_bent : Stmt := top 45
abbrev N_law_bent : List Str := ["_law_source_here", "_law_seen_here", "_law_at", "_law_came", "_law_left", "_law_made", "_law_some"]
abbrev P_law_bent : List Str := ["_law_source_here", "_law_seen_here"]
def b_law_bent : List St :=
  [.set 2 (.call "_law_draw" [(.io 0), (.blt "len" [(.var 1)])]),
    .tgt (.tp [(.nm 3), (.nm 5), (.nm 4)]) (.ix (.var 1) (.var 2)),
    .set 6 (.lst [(.tup [(.var 3), (.tup []), (.var 4)]), (.tup [(.var 3), (.tup [(.tup [(.cst (.int 0)), (.cst (.int 1))])]), (.var 4)]), (.tup [(.var 3), (.var 5), (.tup [])])]),
    .set 6 (.bin .Add (.var 6) (.lst [(.tup [(.var 3), (.var 5), (.tup [(.cst (.int 0))])]), (.tup [(.notE (.var 3)), (.var 5), (.var 4)])])),
    .ret (.bin .Add (.bin .Add (.sl (.var 1) .off (.var 2)) (.tup [(.call "_law_choice" [(.io 0), (.var 6)])])) (.sl (.var 1) (.bin .Add (.var 2) (.cst (.int 1))) .off))]
theorem k_law_bent : cSs isEx N_law_bent (defScope s_law_bent) b_law_bent (defBody s_law_bent) = true := by decide +kernel
theorem sc_law_bent : FnScope N_law_bent P_law_bent (defScope s_law_bent) := C8.fnScope_by (by decide +kernel)
/-! law -/
abbrev s_law : Stmt := top 49
abbrev N_law : List Str := ["_law_script", "_law_again", "_law_due_here", "_law_hall_here", "_law_k", "_law_row_here", "_law_seen_here", "_law_source_here", "_law_turn"]
abbrev P_law : List Str := ["_law_script"]
def b_law : List St :=
  [.for_ (.nm 4) (.rng1 (.bin .Add (.cst (.int 1)) (.blt "min" [(.blt "len" [(.var 0)]), (.cst (.int 8))]))) [.own 7 (.call "_law_source" [(.var 0), (.var 4)]),
    .for_ (.nm 8) (.rng1 (.cst (.int 2))) [.set 3 (.call "_law_hall" [(.io 7), (.cst (.int 3))]),
    .set 5 (.call "_law_row" [(.io 7), (.ix (.var 3) (.cst (.int 0))), (.cst (.int 4))]),
    .set 6 (.call "_law_seen" [(.var 3), (.var 5)]),
    .for_ (.nm 1) (.rng1 (.cst (.int 2))) [.set 2 (.call "_law_due" [(.var 3), (.var 6)]),
    .ife (.cmp .NotEq (.call "strengths_told" [(.var 3), (.var 6)]) (.var 2)) [.ret (.cst (.bl false))] [],
    .ife (.cmp .NotEq (.call "surely_told" [(.var 3), (.var 6)]) (.call "_law_sure" [(.var 2)])) [.ret (.cst (.bl false))] [],
    .set 6 (.ite (.cmp .NotEq (.var 6) (.tup [])) (.call "_law_bent" [(.io 7), (.var 6)]) (.var 6))]],
    .ife (.notE (.call "_law_all_refused" [(.var 3)])) [.ret (.cst (.bl false))] []],
    .ret (.call "_law_written_right" [])]
theorem k_law : cSs isEx N_law (defScope s_law) b_law (defBody s_law) = true := by decide +kernel
theorem sc_law : FnScope N_law P_law (defScope s_law) := C8.fnScope_by (by decide +kernel)
def wds : List (Str × List (Str × Str)) := []
/-! ### contracts -/
def gvs : List (Str × D) := [("FITS", .tup [.str "narrow", .str "wide"]), ("ORDERS", .tup [.str "first", .str "last", .str "near"]), ("MOST_TOP", .int 4), ("MOST_WIDTHS", .int 3), ("MOST_PATIENCE", .int 4), ("MOST_SEEN", .int 6), ("strengths_told", .fn "strengths_told"), ("surely_told", .fn "surely_told")]
def subs : List ((Str × Str) × Bool) := [(("InvalidHall", "InvalidSeen"), false), (("InvalidSeen", "InvalidSeen"), true)]
def isSub (x c : Str) : Option Bool := subs.lookup (x, c)
abbrev FU : Nat := 100000
abbrev gam (fns : List (Str × (List AV → CRes))) : Ctr := mkG fns gvs isEx isSub
abbrev fns_is_from : List (Str × (List AV → CRes)) := []
def c_is_from : List AV → CRes := conD (gam fns_is_from) FU 3 3 b_is_from
abbrev fns_are_widths : List (Str × (List AV → CRes)) := ("is_from", c_is_from) :: fns_is_from
def c_are_widths : List AV → CRes := conD (gam fns_are_widths) FU 2 5 b_are_widths
abbrev fns_is_one_of : List (Str × (List AV → CRes)) := ("are_widths", c_are_widths) :: fns_are_widths
def c_is_one_of : List AV → CRes := conD (gam fns_is_one_of) FU 2 2 b_is_one_of
abbrev fns_has_hall : List (Str × (List AV → CRes)) := ("is_one_of", c_is_one_of) :: fns_is_one_of
def c_has_hall : List AV → CRes := conD (gam fns_has_hall) FU 1 1 b_has_hall
abbrev fns_need_hall : List (Str × (List AV → CRes)) := ("has_hall", c_has_hall) :: fns_has_hall
def c_need_hall : List AV → CRes := conD (gam fns_need_hall) FU 1 1 b_need_hall
abbrev fns_are_pairs : List (Str × (List AV → CRes)) := ("need_hall", c_need_hall) :: fns_need_hall
def c_are_pairs : List AV → CRes := conD (gam fns_are_pairs) FU 1 4 b_are_pairs
abbrev fns_are_gone : List (Str × (List AV → CRes)) := ("are_pairs", c_are_pairs) :: fns_are_pairs
def c_are_gone : List AV → CRes := conD (gam fns_are_gone) FU 1 3 b_are_gone
abbrev fns_is_beat : List (Str × (List AV → CRes)) := ("are_gone", c_are_gone) :: fns_are_gone
def c_is_beat : List AV → CRes := conD (gam fns_is_beat) FU 1 1 b_is_beat
abbrev fns_need_seen : List (Str × (List AV → CRes)) := ("is_beat", c_is_beat) :: fns_is_beat
def c_need_seen : List AV → CRes := conD (gam fns_need_seen) FU 1 2 b_need_seen
abbrev fns_most_waited : List (Str × (List AV → CRes)) := ("need_seen", c_need_seen) :: fns_need_seen
def c_most_waited : List AV → CRes := conD (gam fns_most_waited) FU 1 1 b_most_waited
abbrev fns_do_fit : List (Str × (List AV → CRes)) := ("most_waited", c_most_waited) :: fns_most_waited
def c_do_fit : List AV → CRes := conD (gam fns_do_fit) FU 3 5 b_do_fit
abbrev fns_fitting : List (Str × (List AV → CRes)) := ("do_fit", c_do_fit) :: fns_do_fit
def c_fitting : List AV → CRes := conD (gam fns_fitting) FU 2 6 b_fitting
abbrev fns_chosen : List (Str × (List AV → CRes)) := ("fitting", c_fitting) :: fns_fitting
def c_chosen : List AV → CRes := conD (gam fns_chosen) FU 3 7 b_chosen
abbrev fns_beat_of : List (Str × (List AV → CRes)) := ("chosen", c_chosen) :: fns_chosen
def c_beat_of : List AV → CRes := conD (gam fns_beat_of) FU 4 14 b_beat_of
abbrev fns_told_of : List (Str × (List AV → CRes)) := ("beat_of", c_beat_of) :: fns_beat_of
def c_told_of : List AV → CRes := conD (gam fns_told_of) FU 2 13 b_told_of
abbrev fns_strengths_told : List (Str × (List AV → CRes)) := ("told_of", c_told_of) :: fns_told_of
def c_strengths_told : List AV → CRes := conD (gam fns_strengths_told) FU 2 2 b_strengths_told
abbrev fns_surely_told : List (Str × (List AV → CRes)) := ("strengths_told", c_strengths_told) :: fns_strengths_told
def c_surely_told : List AV → CRes := conD (gam fns_surely_told) FU 2 7 b_surely_told
abbrev fns_law_written_right : List (Str × (List AV → CRes)) := ("surely_told", c_surely_told) :: fns_surely_told
def c_law_written_right : List AV → CRes := conD (gam fns_law_written_right) FU 0 8 b_law_written_right
abbrev fns_law_source : List (Str × (List AV → CRes)) := ("_law_written_right", c_law_written_right) :: fns_law_written_right
def c_law_source : List AV → CRes := conD (gam fns_law_source) FU 2 3 b_law_source
abbrev fns_law_draw : List (Str × (List AV → CRes)) := ("_law_source", c_law_source) :: fns_law_source
def c_law_draw : List AV → CRes := conD (gam fns_law_draw) FU 2 4 b_law_draw
abbrev fns_law_choice : List (Str × (List AV → CRes)) := ("_law_draw", c_law_draw) :: fns_law_draw
def c_law_choice : List AV → CRes := conD (gam fns_law_choice) FU 2 2 b_law_choice
abbrev fns_law_hall : List (Str × (List AV → CRes)) := ("_law_choice", c_law_choice) :: fns_law_choice
def c_law_hall : List AV → CRes := conD (gam fns_law_hall) FU 2 7 b_law_hall
abbrev fns_law_row : List (Str × (List AV → CRes)) := ("_law_hall", c_law_hall) :: fns_law_hall
def c_law_row : List AV → CRes := conD (gam fns_law_row) FU 3 5 b_law_row
abbrev fns_law_window : List (Str × (List AV → CRes)) := ("_law_row", c_law_row) :: fns_law_row
def c_law_window : List AV → CRes := conD (gam fns_law_window) FU 2 2 b_law_window
abbrev fns_law_fits : List (Str × (List AV → CRes)) := ("_law_window", c_law_window) :: fns_law_window
def c_law_fits : List AV → CRes := conD (gam fns_law_fits) FU 3 5 b_law_fits
abbrev fns_law_picked : List (Str × (List AV → CRes)) := ("_law_fits", c_law_fits) :: fns_law_fits
def c_law_picked : List AV → CRes := conD (gam fns_law_picked) FU 2 7 b_law_picked
abbrev fns_law_beat : List (Str × (List AV → CRes)) := ("_law_picked", c_law_picked) :: fns_law_picked
def c_law_beat : List AV → CRes := conD (gam fns_law_beat) FU 4 13 b_law_beat
abbrev fns_law_run : List (Str × (List AV → CRes)) := ("_law_beat", c_law_beat) :: fns_law_beat
def c_law_run : List AV → CRes := conD (gam fns_law_run) FU 2 12 b_law_run
abbrev fns_law_seen : List (Str × (List AV → CRes)) := ("_law_run", c_law_run) :: fns_law_run
def c_law_seen : List AV → CRes := conD (gam fns_law_seen) FU 2 13 b_law_seen
abbrev fns_law_refused : List (Str × (List AV → CRes)) := ("_law_seen", c_law_seen) :: fns_law_seen
def c_law_refused : List AV → CRes := conD (gam fns_law_refused) FU 2 4 b_law_refused
abbrev fns_law_all_refused : List (Str × (List AV → CRes)) := ("_law_refused", c_law_refused) :: fns_law_refused
def c_law_all_refused : List AV → CRes := conD (gam fns_law_all_refused) FU 1 3 b_law_all_refused
abbrev fns_law_rows : List (Str × (List AV → CRes)) := ("_law_all_refused", c_law_all_refused) :: fns_law_all_refused
def c_law_rows : List AV → CRes := conD (gam fns_law_rows) FU 2 8 b_law_rows
abbrev fns_law_due : List (Str × (List AV → CRes)) := ("_law_rows", c_law_rows) :: fns_law_rows
def c_law_due : List AV → CRes := conD (gam fns_law_due) FU 2 5 b_law_due
abbrev fns_law_sure : List (Str × (List AV → CRes)) := ("_law_due", c_law_due) :: fns_law_due
def c_law_sure : List AV → CRes := conD (gam fns_law_sure) FU 1 5 b_law_sure
abbrev fns_law_bent : List (Str × (List AV → CRes)) := ("_law_sure", c_law_sure) :: fns_law_sure
def c_law_bent : List AV → CRes := conD (gam fns_law_bent) FU 2 7 b_law_bent
abbrev fns_law : List (Str × (List AV → CRes)) := ("_law_bent", c_law_bent) :: fns_law_bent
def c_law : List AV → CRes := conD (gam fns_law) FU 1 9 b_law
theorem q_are_widths_is_from : (gam fns_are_widths).fn "is_from" = some (c_is_from) := by rfl
theorem q_has_hall_is_from : (gam fns_has_hall).fn "is_from" = some (c_is_from) := by rfl
theorem q_has_hall_are_widths : (gam fns_has_hall).fn "are_widths" = some (c_are_widths) := by rfl
theorem q_has_hall_is_one_of : (gam fns_has_hall).fn "is_one_of" = some (c_is_one_of) := by rfl
theorem q_need_hall_has_hall : (gam fns_need_hall).fn "has_hall" = some (c_has_hall) := by rfl
theorem q_are_pairs_is_from : (gam fns_are_pairs).fn "is_from" = some (c_is_from) := by rfl
theorem q_are_gone_is_from : (gam fns_are_gone).fn "is_from" = some (c_is_from) := by rfl
theorem q_is_beat_are_pairs : (gam fns_is_beat).fn "are_pairs" = some (c_are_pairs) := by rfl
theorem q_is_beat_are_gone : (gam fns_is_beat).fn "are_gone" = some (c_are_gone) := by rfl
theorem q_need_seen_is_beat : (gam fns_need_seen).fn "is_beat" = some (c_is_beat) := by rfl
theorem q_fitting_do_fit : (gam fns_fitting).fn "do_fit" = some (c_do_fit) := by rfl
theorem q_beat_of_most_waited : (gam fns_beat_of).fn "most_waited" = some (c_most_waited) := by rfl
theorem q_beat_of_fitting : (gam fns_beat_of).fn "fitting" = some (c_fitting) := by rfl
theorem q_beat_of_chosen : (gam fns_beat_of).fn "chosen" = some (c_chosen) := by rfl
theorem q_told_of_beat_of : (gam fns_told_of).fn "beat_of" = some (c_beat_of) := by rfl
theorem q_strengths_told_need_hall : (gam fns_strengths_told).fn "need_hall" = some (c_need_hall) := by rfl
theorem q_strengths_told_need_seen : (gam fns_strengths_told).fn "need_seen" = some (c_need_seen) := by rfl
theorem q_strengths_told_told_of : (gam fns_strengths_told).fn "told_of" = some (c_told_of) := by rfl
theorem q_surely_told_need_hall : (gam fns_surely_told).fn "need_hall" = some (c_need_hall) := by rfl
theorem q_surely_told_need_seen : (gam fns_surely_told).fn "need_seen" = some (c_need_seen) := by rfl
theorem q_surely_told_told_of : (gam fns_surely_told).fn "told_of" = some (c_told_of) := by rfl
theorem q_law_written_right_strengths_told : (gam fns_law_written_right).fn "strengths_told" = some (c_strengths_told) := by rfl
theorem q_law_written_right_surely_told : (gam fns_law_written_right).fn "surely_told" = some (c_surely_told) := by rfl
theorem q_law_choice_law_draw : (gam fns_law_choice).fn "_law_draw" = some (c_law_draw) := by rfl
theorem q_law_hall_law_draw : (gam fns_law_hall).fn "_law_draw" = some (c_law_draw) := by rfl
theorem q_law_hall_law_choice : (gam fns_law_hall).fn "_law_choice" = some (c_law_choice) := by rfl
theorem q_law_row_law_choice : (gam fns_law_row).fn "_law_choice" = some (c_law_choice) := by rfl
theorem q_law_row_law_draw : (gam fns_law_row).fn "_law_draw" = some (c_law_draw) := by rfl
theorem q_law_fits_law_window : (gam fns_law_fits).fn "_law_window" = some (c_law_window) := by rfl
theorem q_law_picked_law_fits : (gam fns_law_picked).fn "_law_fits" = some (c_law_fits) := by rfl
theorem q_law_beat_law_picked : (gam fns_law_beat).fn "_law_picked" = some (c_law_picked) := by rfl
theorem q_law_run_law_beat : (gam fns_law_run).fn "_law_beat" = some (c_law_beat) := by rfl
theorem q_law_seen_law_run : (gam fns_law_seen).fn "_law_run" = some (c_law_run) := by rfl
theorem q_law_refused_strengths_told : (gam fns_law_refused).fn "strengths_told" = some (c_strengths_told) := by rfl
theorem q_law_refused_surely_told : (gam fns_law_refused).fn "surely_told" = some (c_surely_told) := by rfl
theorem q_law_all_refused_law_refused : (gam fns_law_all_refused).fn "_law_refused" = some (c_law_refused) := by rfl
theorem q_law_due_law_rows : (gam fns_law_due).fn "_law_rows" = some (c_law_rows) := by rfl
theorem q_law_due_law_seen : (gam fns_law_due).fn "_law_seen" = some (c_law_seen) := by rfl
theorem q_law_bent_law_draw : (gam fns_law_bent).fn "_law_draw" = some (c_law_draw) := by rfl
theorem q_law_bent_law_choice : (gam fns_law_bent).fn "_law_choice" = some (c_law_choice) := by rfl
theorem q_law_law_written_right : (gam fns_law).fn "_law_written_right" = some (c_law_written_right) := by rfl
theorem q_law_law_source : (gam fns_law).fn "_law_source" = some (c_law_source) := by rfl
theorem q_law_law_hall : (gam fns_law).fn "_law_hall" = some (c_law_hall) := by rfl
theorem q_law_law_row : (gam fns_law).fn "_law_row" = some (c_law_row) := by rfl
theorem q_law_law_seen : (gam fns_law).fn "_law_seen" = some (c_law_seen) := by rfl
theorem q_law_law_all_refused : (gam fns_law).fn "_law_all_refused" = some (c_law_all_refused) := by rfl
theorem q_law_law_due : (gam fns_law).fn "_law_due" = some (c_law_due) := by rfl
theorem q_law_strengths_told : (gam fns_law).fn "strengths_told" = some (c_strengths_told) := by rfl
theorem q_law_surely_told : (gam fns_law).fn "surely_told" = some (c_surely_told) := by rfl
theorem q_law_law_sure : (gam fns_law).fn "_law_sure" = some (c_law_sure) := by rfl
theorem q_law_law_bent : (gam fns_law).fn "_law_bent" = some (c_law_bent) := by rfl
theorem v_FITS (f : List (Str × (List AV → CRes))) : (gam f).gv "FITS" = some (.tup [.str "narrow", .str "wide"]) := by rfl
theorem v_ORDERS (f : List (Str × (List AV → CRes))) : (gam f).gv "ORDERS" = some (.tup [.str "first", .str "last", .str "near"]) := by rfl
theorem v_MOST_TOP (f : List (Str × (List AV → CRes))) : (gam f).gv "MOST_TOP" = some (.int 4) := by rfl
theorem v_MOST_WIDTHS (f : List (Str × (List AV → CRes))) : (gam f).gv "MOST_WIDTHS" = some (.int 3) := by rfl
theorem v_MOST_PATIENCE (f : List (Str × (List AV → CRes))) : (gam f).gv "MOST_PATIENCE" = some (.int 4) := by rfl
theorem v_MOST_SEEN (f : List (Str × (List AV → CRes))) : (gam f).gv "MOST_SEEN" = some (.int 6) := by rfl
theorem e_InvalidHall (f : List (Str × (List AV → CRes))) : (gam f).ex "InvalidHall" = true := by rfl
theorem e_InvalidSeen (f : List (Str × (List AV → CRes))) : (gam f).ex "InvalidSeen" = true := by rfl
theorem e_InvalidHall_InvalidSeen (f : List (Str × (List AV → CRes))) : (gam f).sub "InvalidHall" "InvalidSeen" = some false := by rfl
theorem e_InvalidSeen_InvalidSeen (f : List (Str × (List AV → CRes))) : (gam f).sub "InvalidSeen" "InvalidSeen" = some true := by rfl
theorem v_strengths_told (f : List (Str × (List AV → CRes))) : (gam f).gv "strengths_told" = some (.fn "strengths_told") := by rfl
theorem v_surely_told (f : List (Str × (List AV → CRes))) : (gam f).gv "surely_told" = some (.fn "surely_told") := by rfl
end W2

/-! What the top has written, and the promise of the law. -/
namespace W2
open PySem L2
theorem all_mk {P : Program} {w : World} {K : PySem.W.Frag} {h : Heap} {mg : Str → Option Value} {fa f0 f1 f2 f3 f4 f5 f6 f7 f8 f9 f10 f11 f12 f13 f14 f15 f16 f17 f18 f19 f20 f21 f22 f23 f24 f25 f26 f27 f28 f29 f30 f31 f32 f33 f34 f35 C0 C1 : Addr} (X : K.In h) (G : h.Ns mainGlobals mg) (hfa : mg "law" = some (.ref fa))
    {od0 an0 : Option Addr} {sl0 : Array (Option Value)} {oc0 kV0 dc0 pm0 cd0 ct0 : Value}
    {od1 an1 : Option Addr} {sl1 : Array (Option Value)} {oc1 kV1 dc1 pm1 cd1 ct1 : Value}
    {od2 an2 : Option Addr} {sl2 : Array (Option Value)} {oc2 kV2 dc2 pm2 cd2 ct2 : Value}
    {od3 an3 : Option Addr} {sl3 : Array (Option Value)} {oc3 kV3 dc3 pm3 cd3 ct3 : Value}
    {od4 an4 : Option Addr} {sl4 : Array (Option Value)} {oc4 kV4 dc4 pm4 cd4 ct4 : Value}
    {od5 an5 : Option Addr} {sl5 : Array (Option Value)} {oc5 kV5 dc5 pm5 cd5 ct5 : Value}
    {od6 an6 : Option Addr} {sl6 : Array (Option Value)} {oc6 kV6 dc6 pm6 cd6 ct6 : Value}
    {od7 an7 : Option Addr} {sl7 : Array (Option Value)} {oc7 kV7 dc7 pm7 cd7 ct7 : Value}
    {od8 an8 : Option Addr} {sl8 : Array (Option Value)} {oc8 kV8 dc8 pm8 cd8 ct8 : Value}
    {od9 an9 : Option Addr} {sl9 : Array (Option Value)} {oc9 kV9 dc9 pm9 cd9 ct9 : Value}
    {od10 an10 : Option Addr} {sl10 : Array (Option Value)} {oc10 kV10 dc10 pm10 cd10 ct10 : Value}
    {od11 an11 : Option Addr} {sl11 : Array (Option Value)} {oc11 kV11 dc11 pm11 cd11 ct11 : Value}
    {od12 an12 : Option Addr} {sl12 : Array (Option Value)} {oc12 kV12 dc12 pm12 cd12 ct12 : Value}
    {od13 an13 : Option Addr} {sl13 : Array (Option Value)} {oc13 kV13 dc13 pm13 cd13 ct13 : Value}
    {od14 an14 : Option Addr} {sl14 : Array (Option Value)} {oc14 kV14 dc14 pm14 cd14 ct14 : Value}
    {od15 an15 : Option Addr} {sl15 : Array (Option Value)} {oc15 kV15 dc15 pm15 cd15 ct15 : Value}
    {od16 an16 : Option Addr} {sl16 : Array (Option Value)} {oc16 kV16 dc16 pm16 cd16 ct16 : Value}
    {od17 an17 : Option Addr} {sl17 : Array (Option Value)} {oc17 kV17 dc17 pm17 cd17 ct17 : Value}
    {od18 an18 : Option Addr} {sl18 : Array (Option Value)} {oc18 kV18 dc18 pm18 cd18 ct18 : Value}
    {od19 an19 : Option Addr} {sl19 : Array (Option Value)} {oc19 kV19 dc19 pm19 cd19 ct19 : Value}
    {od20 an20 : Option Addr} {sl20 : Array (Option Value)} {oc20 kV20 dc20 pm20 cd20 ct20 : Value}
    {od21 an21 : Option Addr} {sl21 : Array (Option Value)} {oc21 kV21 dc21 pm21 cd21 ct21 : Value}
    {od22 an22 : Option Addr} {sl22 : Array (Option Value)} {oc22 kV22 dc22 pm22 cd22 ct22 : Value}
    {od23 an23 : Option Addr} {sl23 : Array (Option Value)} {oc23 kV23 dc23 pm23 cd23 ct23 : Value}
    {od24 an24 : Option Addr} {sl24 : Array (Option Value)} {oc24 kV24 dc24 pm24 cd24 ct24 : Value}
    {od25 an25 : Option Addr} {sl25 : Array (Option Value)} {oc25 kV25 dc25 pm25 cd25 ct25 : Value}
    {od26 an26 : Option Addr} {sl26 : Array (Option Value)} {oc26 kV26 dc26 pm26 cd26 ct26 : Value}
    {od27 an27 : Option Addr} {sl27 : Array (Option Value)} {oc27 kV27 dc27 pm27 cd27 ct27 : Value}
    {od28 an28 : Option Addr} {sl28 : Array (Option Value)} {oc28 kV28 dc28 pm28 cd28 ct28 : Value}
    {od29 an29 : Option Addr} {sl29 : Array (Option Value)} {oc29 kV29 dc29 pm29 cd29 ct29 : Value}
    {od30 an30 : Option Addr} {sl30 : Array (Option Value)} {oc30 kV30 dc30 pm30 cd30 ct30 : Value}
    {od31 an31 : Option Addr} {sl31 : Array (Option Value)} {oc31 kV31 dc31 pm31 cd31 ct31 : Value}
    {od32 an32 : Option Addr} {sl32 : Array (Option Value)} {oc32 kV32 dc32 pm32 cd32 ct32 : Value}
    {od33 an33 : Option Addr} {sl33 : Array (Option Value)} {oc33 kV33 dc33 pm33 cd33 ct33 : Value}
    {od34 an34 : Option Addr} {sl34 : Array (Option Value)} {oc34 kV34 dc34 pm34 cd34 ct34 : Value}
    {od35 an35 : Option Addr} {sl35 : Array (Option Value)} {oc35 kV35 dc35 pm35 cd35 ct35 : Value}
    {va0 vn0 : Nat} {vd0 : Option Addr} {vs0 : Array (Option Value)} {vt0_0 vt0_1 : Tok}
    {va1 vn1 : Nat} {vd1 : Option Addr} {vs1 : Array (Option Value)} {vt1_0 vt1_1 vt1_2 : Tok}
    {vt2 : Tok}
    {vt3 : Tok}
    {vt4 : Tok}
    {vt5 : Tok}
    (a0 : PySem.W.nsIn K mainGlobals "is_from" = some (some (.ref f0))) (l0 : K.lookup f0 = some ⟨oc0, od0, .func (PySem.W.fnOf "is_from" "is_from" (defArgs s_is_from) (defBody s_is_from) (defScope s_is_from) .none kV0 dc0 pm0 an0 cd0 ct0), sl0⟩) (c0 : PySem.W.codeIn K cd0 "is_from" = true) (k0 : PySem.W.keepIn K (.ref f0) = true)
    (a1 : PySem.W.nsIn K mainGlobals "are_widths" = some (some (.ref f1))) (l1 : K.lookup f1 = some ⟨oc1, od1, .func (PySem.W.fnOf "are_widths" "are_widths" (defArgs s_are_widths) (defBody s_are_widths) (defScope s_are_widths) .none kV1 dc1 pm1 an1 cd1 ct1), sl1⟩) (c1 : PySem.W.codeIn K cd1 "are_widths" = true) (k1 : PySem.W.keepIn K (.ref f1) = true)
    (a2 : PySem.W.nsIn K mainGlobals "is_one_of" = some (some (.ref f2))) (l2 : K.lookup f2 = some ⟨oc2, od2, .func (PySem.W.fnOf "is_one_of" "is_one_of" (defArgs s_is_one_of) (defBody s_is_one_of) (defScope s_is_one_of) .none kV2 dc2 pm2 an2 cd2 ct2), sl2⟩) (c2 : PySem.W.codeIn K cd2 "is_one_of" = true) (k2 : PySem.W.keepIn K (.ref f2) = true)
    (a3 : PySem.W.nsIn K mainGlobals "has_hall" = some (some (.ref f3))) (l3 : K.lookup f3 = some ⟨oc3, od3, .func (PySem.W.fnOf "has_hall" "has_hall" (defArgs s_has_hall) (defBody s_has_hall) (defScope s_has_hall) .none kV3 dc3 pm3 an3 cd3 ct3), sl3⟩) (c3 : PySem.W.codeIn K cd3 "has_hall" = true) (k3 : PySem.W.keepIn K (.ref f3) = true)
    (a4 : PySem.W.nsIn K mainGlobals "need_hall" = some (some (.ref f4))) (l4 : K.lookup f4 = some ⟨oc4, od4, .func (PySem.W.fnOf "need_hall" "need_hall" (defArgs s_need_hall) (defBody s_need_hall) (defScope s_need_hall) .none kV4 dc4 pm4 an4 cd4 ct4), sl4⟩) (c4 : PySem.W.codeIn K cd4 "need_hall" = true) (k4 : PySem.W.keepIn K (.ref f4) = true)
    (a5 : PySem.W.nsIn K mainGlobals "are_pairs" = some (some (.ref f5))) (l5 : K.lookup f5 = some ⟨oc5, od5, .func (PySem.W.fnOf "are_pairs" "are_pairs" (defArgs s_are_pairs) (defBody s_are_pairs) (defScope s_are_pairs) .none kV5 dc5 pm5 an5 cd5 ct5), sl5⟩) (c5 : PySem.W.codeIn K cd5 "are_pairs" = true) (k5 : PySem.W.keepIn K (.ref f5) = true)
    (a6 : PySem.W.nsIn K mainGlobals "are_gone" = some (some (.ref f6))) (l6 : K.lookup f6 = some ⟨oc6, od6, .func (PySem.W.fnOf "are_gone" "are_gone" (defArgs s_are_gone) (defBody s_are_gone) (defScope s_are_gone) .none kV6 dc6 pm6 an6 cd6 ct6), sl6⟩) (c6 : PySem.W.codeIn K cd6 "are_gone" = true) (k6 : PySem.W.keepIn K (.ref f6) = true)
    (a7 : PySem.W.nsIn K mainGlobals "is_beat" = some (some (.ref f7))) (l7 : K.lookup f7 = some ⟨oc7, od7, .func (PySem.W.fnOf "is_beat" "is_beat" (defArgs s_is_beat) (defBody s_is_beat) (defScope s_is_beat) .none kV7 dc7 pm7 an7 cd7 ct7), sl7⟩) (c7 : PySem.W.codeIn K cd7 "is_beat" = true) (k7 : PySem.W.keepIn K (.ref f7) = true)
    (a8 : PySem.W.nsIn K mainGlobals "need_seen" = some (some (.ref f8))) (l8 : K.lookup f8 = some ⟨oc8, od8, .func (PySem.W.fnOf "need_seen" "need_seen" (defArgs s_need_seen) (defBody s_need_seen) (defScope s_need_seen) .none kV8 dc8 pm8 an8 cd8 ct8), sl8⟩) (c8 : PySem.W.codeIn K cd8 "need_seen" = true) (k8 : PySem.W.keepIn K (.ref f8) = true)
    (a9 : PySem.W.nsIn K mainGlobals "most_waited" = some (some (.ref f9))) (l9 : K.lookup f9 = some ⟨oc9, od9, .func (PySem.W.fnOf "most_waited" "most_waited" (defArgs s_most_waited) (defBody s_most_waited) (defScope s_most_waited) .none kV9 dc9 pm9 an9 cd9 ct9), sl9⟩) (c9 : PySem.W.codeIn K cd9 "most_waited" = true) (k9 : PySem.W.keepIn K (.ref f9) = true)
    (a10 : PySem.W.nsIn K mainGlobals "do_fit" = some (some (.ref f10))) (l10 : K.lookup f10 = some ⟨oc10, od10, .func (PySem.W.fnOf "do_fit" "do_fit" (defArgs s_do_fit) (defBody s_do_fit) (defScope s_do_fit) .none kV10 dc10 pm10 an10 cd10 ct10), sl10⟩) (c10 : PySem.W.codeIn K cd10 "do_fit" = true) (k10 : PySem.W.keepIn K (.ref f10) = true)
    (a11 : PySem.W.nsIn K mainGlobals "fitting" = some (some (.ref f11))) (l11 : K.lookup f11 = some ⟨oc11, od11, .func (PySem.W.fnOf "fitting" "fitting" (defArgs s_fitting) (defBody s_fitting) (defScope s_fitting) .none kV11 dc11 pm11 an11 cd11 ct11), sl11⟩) (c11 : PySem.W.codeIn K cd11 "fitting" = true) (k11 : PySem.W.keepIn K (.ref f11) = true)
    (a12 : PySem.W.nsIn K mainGlobals "chosen" = some (some (.ref f12))) (l12 : K.lookup f12 = some ⟨oc12, od12, .func (PySem.W.fnOf "chosen" "chosen" (defArgs s_chosen) (defBody s_chosen) (defScope s_chosen) .none kV12 dc12 pm12 an12 cd12 ct12), sl12⟩) (c12 : PySem.W.codeIn K cd12 "chosen" = true) (k12 : PySem.W.keepIn K (.ref f12) = true)
    (a13 : PySem.W.nsIn K mainGlobals "beat_of" = some (some (.ref f13))) (l13 : K.lookup f13 = some ⟨oc13, od13, .func (PySem.W.fnOf "beat_of" "beat_of" (defArgs s_beat_of) (defBody s_beat_of) (defScope s_beat_of) .none kV13 dc13 pm13 an13 cd13 ct13), sl13⟩) (c13 : PySem.W.codeIn K cd13 "beat_of" = true) (k13 : PySem.W.keepIn K (.ref f13) = true)
    (a14 : PySem.W.nsIn K mainGlobals "told_of" = some (some (.ref f14))) (l14 : K.lookup f14 = some ⟨oc14, od14, .func (PySem.W.fnOf "told_of" "told_of" (defArgs s_told_of) (defBody s_told_of) (defScope s_told_of) .none kV14 dc14 pm14 an14 cd14 ct14), sl14⟩) (c14 : PySem.W.codeIn K cd14 "told_of" = true) (k14 : PySem.W.keepIn K (.ref f14) = true)
    (a15 : PySem.W.nsIn K mainGlobals "strengths_told" = some (some (.ref f15))) (l15 : K.lookup f15 = some ⟨oc15, od15, .func (PySem.W.fnOf "strengths_told" "strengths_told" (defArgs s_strengths_told) (defBody s_strengths_told) (defScope s_strengths_told) .none kV15 dc15 pm15 an15 cd15 ct15), sl15⟩) (c15 : PySem.W.codeIn K cd15 "strengths_told" = true) (k15 : PySem.W.keepIn K (.ref f15) = true)
    (a16 : PySem.W.nsIn K mainGlobals "surely_told" = some (some (.ref f16))) (l16 : K.lookup f16 = some ⟨oc16, od16, .func (PySem.W.fnOf "surely_told" "surely_told" (defArgs s_surely_told) (defBody s_surely_told) (defScope s_surely_told) .none kV16 dc16 pm16 an16 cd16 ct16), sl16⟩) (c16 : PySem.W.codeIn K cd16 "surely_told" = true) (k16 : PySem.W.keepIn K (.ref f16) = true)
    (a17 : PySem.W.nsIn K mainGlobals "_law_written_right" = some (some (.ref f17))) (l17 : K.lookup f17 = some ⟨oc17, od17, .func (PySem.W.fnOf "_law_written_right" "_law_written_right" (defArgs s_law_written_right) (defBody s_law_written_right) (defScope s_law_written_right) .none kV17 dc17 pm17 an17 cd17 ct17), sl17⟩) (c17 : PySem.W.codeIn K cd17 "_law_written_right" = true) (k17 : PySem.W.keepIn K (.ref f17) = true)
    (a18 : PySem.W.nsIn K mainGlobals "_law_source" = some (some (.ref f18))) (l18 : K.lookup f18 = some ⟨oc18, od18, .func (PySem.W.fnOf "_law_source" "_law_source" (defArgs s_law_source) (defBody s_law_source) (defScope s_law_source) .none kV18 dc18 pm18 an18 cd18 ct18), sl18⟩) (c18 : PySem.W.codeIn K cd18 "_law_source" = true) (k18 : PySem.W.keepIn K (.ref f18) = true)
    (a19 : PySem.W.nsIn K mainGlobals "_law_draw" = some (some (.ref f19))) (l19 : K.lookup f19 = some ⟨oc19, od19, .func (PySem.W.fnOf "_law_draw" "_law_draw" (defArgs s_law_draw) (defBody s_law_draw) (defScope s_law_draw) .none kV19 dc19 pm19 an19 cd19 ct19), sl19⟩) (c19 : PySem.W.codeIn K cd19 "_law_draw" = true) (k19 : PySem.W.keepIn K (.ref f19) = true)
    (a20 : PySem.W.nsIn K mainGlobals "_law_choice" = some (some (.ref f20))) (l20 : K.lookup f20 = some ⟨oc20, od20, .func (PySem.W.fnOf "_law_choice" "_law_choice" (defArgs s_law_choice) (defBody s_law_choice) (defScope s_law_choice) .none kV20 dc20 pm20 an20 cd20 ct20), sl20⟩) (c20 : PySem.W.codeIn K cd20 "_law_choice" = true) (k20 : PySem.W.keepIn K (.ref f20) = true)
    (a21 : PySem.W.nsIn K mainGlobals "_law_hall" = some (some (.ref f21))) (l21 : K.lookup f21 = some ⟨oc21, od21, .func (PySem.W.fnOf "_law_hall" "_law_hall" (defArgs s_law_hall) (defBody s_law_hall) (defScope s_law_hall) .none kV21 dc21 pm21 an21 cd21 ct21), sl21⟩) (c21 : PySem.W.codeIn K cd21 "_law_hall" = true) (k21 : PySem.W.keepIn K (.ref f21) = true)
    (a22 : PySem.W.nsIn K mainGlobals "_law_row" = some (some (.ref f22))) (l22 : K.lookup f22 = some ⟨oc22, od22, .func (PySem.W.fnOf "_law_row" "_law_row" (defArgs s_law_row) (defBody s_law_row) (defScope s_law_row) .none kV22 dc22 pm22 an22 cd22 ct22), sl22⟩) (c22 : PySem.W.codeIn K cd22 "_law_row" = true) (k22 : PySem.W.keepIn K (.ref f22) = true)
    (a23 : PySem.W.nsIn K mainGlobals "_law_window" = some (some (.ref f23))) (l23 : K.lookup f23 = some ⟨oc23, od23, .func (PySem.W.fnOf "_law_window" "_law_window" (defArgs s_law_window) (defBody s_law_window) (defScope s_law_window) .none kV23 dc23 pm23 an23 cd23 ct23), sl23⟩) (c23 : PySem.W.codeIn K cd23 "_law_window" = true) (k23 : PySem.W.keepIn K (.ref f23) = true)
    (a24 : PySem.W.nsIn K mainGlobals "_law_fits" = some (some (.ref f24))) (l24 : K.lookup f24 = some ⟨oc24, od24, .func (PySem.W.fnOf "_law_fits" "_law_fits" (defArgs s_law_fits) (defBody s_law_fits) (defScope s_law_fits) .none kV24 dc24 pm24 an24 cd24 ct24), sl24⟩) (c24 : PySem.W.codeIn K cd24 "_law_fits" = true) (k24 : PySem.W.keepIn K (.ref f24) = true)
    (a25 : PySem.W.nsIn K mainGlobals "_law_picked" = some (some (.ref f25))) (l25 : K.lookup f25 = some ⟨oc25, od25, .func (PySem.W.fnOf "_law_picked" "_law_picked" (defArgs s_law_picked) (defBody s_law_picked) (defScope s_law_picked) .none kV25 dc25 pm25 an25 cd25 ct25), sl25⟩) (c25 : PySem.W.codeIn K cd25 "_law_picked" = true) (k25 : PySem.W.keepIn K (.ref f25) = true)
    (a26 : PySem.W.nsIn K mainGlobals "_law_beat" = some (some (.ref f26))) (l26 : K.lookup f26 = some ⟨oc26, od26, .func (PySem.W.fnOf "_law_beat" "_law_beat" (defArgs s_law_beat) (defBody s_law_beat) (defScope s_law_beat) .none kV26 dc26 pm26 an26 cd26 ct26), sl26⟩) (c26 : PySem.W.codeIn K cd26 "_law_beat" = true) (k26 : PySem.W.keepIn K (.ref f26) = true)
    (a27 : PySem.W.nsIn K mainGlobals "_law_run" = some (some (.ref f27))) (l27 : K.lookup f27 = some ⟨oc27, od27, .func (PySem.W.fnOf "_law_run" "_law_run" (defArgs s_law_run) (defBody s_law_run) (defScope s_law_run) .none kV27 dc27 pm27 an27 cd27 ct27), sl27⟩) (c27 : PySem.W.codeIn K cd27 "_law_run" = true) (k27 : PySem.W.keepIn K (.ref f27) = true)
    (a28 : PySem.W.nsIn K mainGlobals "_law_seen" = some (some (.ref f28))) (l28 : K.lookup f28 = some ⟨oc28, od28, .func (PySem.W.fnOf "_law_seen" "_law_seen" (defArgs s_law_seen) (defBody s_law_seen) (defScope s_law_seen) .none kV28 dc28 pm28 an28 cd28 ct28), sl28⟩) (c28 : PySem.W.codeIn K cd28 "_law_seen" = true) (k28 : PySem.W.keepIn K (.ref f28) = true)
    (a29 : PySem.W.nsIn K mainGlobals "_law_refused" = some (some (.ref f29))) (l29 : K.lookup f29 = some ⟨oc29, od29, .func (PySem.W.fnOf "_law_refused" "_law_refused" (defArgs s_law_refused) (defBody s_law_refused) (defScope s_law_refused) .none kV29 dc29 pm29 an29 cd29 ct29), sl29⟩) (c29 : PySem.W.codeIn K cd29 "_law_refused" = true) (k29 : PySem.W.keepIn K (.ref f29) = true)
    (a30 : PySem.W.nsIn K mainGlobals "_law_all_refused" = some (some (.ref f30))) (l30 : K.lookup f30 = some ⟨oc30, od30, .func (PySem.W.fnOf "_law_all_refused" "_law_all_refused" (defArgs s_law_all_refused) (defBody s_law_all_refused) (defScope s_law_all_refused) .none kV30 dc30 pm30 an30 cd30 ct30), sl30⟩) (c30 : PySem.W.codeIn K cd30 "_law_all_refused" = true) (k30 : PySem.W.keepIn K (.ref f30) = true)
    (a31 : PySem.W.nsIn K mainGlobals "_law_rows" = some (some (.ref f31))) (l31 : K.lookup f31 = some ⟨oc31, od31, .func (PySem.W.fnOf "_law_rows" "_law_rows" (defArgs s_law_rows) (defBody s_law_rows) (defScope s_law_rows) .none kV31 dc31 pm31 an31 cd31 ct31), sl31⟩) (c31 : PySem.W.codeIn K cd31 "_law_rows" = true) (k31 : PySem.W.keepIn K (.ref f31) = true)
    (a32 : PySem.W.nsIn K mainGlobals "_law_due" = some (some (.ref f32))) (l32 : K.lookup f32 = some ⟨oc32, od32, .func (PySem.W.fnOf "_law_due" "_law_due" (defArgs s_law_due) (defBody s_law_due) (defScope s_law_due) .none kV32 dc32 pm32 an32 cd32 ct32), sl32⟩) (c32 : PySem.W.codeIn K cd32 "_law_due" = true) (k32 : PySem.W.keepIn K (.ref f32) = true)
    (a33 : PySem.W.nsIn K mainGlobals "_law_sure" = some (some (.ref f33))) (l33 : K.lookup f33 = some ⟨oc33, od33, .func (PySem.W.fnOf "_law_sure" "_law_sure" (defArgs s_law_sure) (defBody s_law_sure) (defScope s_law_sure) .none kV33 dc33 pm33 an33 cd33 ct33), sl33⟩) (c33 : PySem.W.codeIn K cd33 "_law_sure" = true) (k33 : PySem.W.keepIn K (.ref f33) = true)
    (a34 : PySem.W.nsIn K mainGlobals "_law_bent" = some (some (.ref f34))) (l34 : K.lookup f34 = some ⟨oc34, od34, .func (PySem.W.fnOf "_law_bent" "_law_bent" (defArgs s_law_bent) (defBody s_law_bent) (defScope s_law_bent) .none kV34 dc34 pm34 an34 cd34 ct34), sl34⟩) (c34 : PySem.W.codeIn K cd34 "_law_bent" = true) (k34 : PySem.W.keepIn K (.ref f34) = true)
    (a35 : PySem.W.nsIn K mainGlobals "law" = some (some (.ref f35))) (l35 : K.lookup f35 = some ⟨oc35, od35, .func (PySem.W.fnOf "law" "law" (defArgs s_law) (defBody s_law) (defScope s_law) .none kV35 dc35 pm35 an35 cd35 ct35), sl35⟩) (c35 : PySem.W.codeIn K cd35 "law" = true) (k35 : PySem.W.keepIn K (.ref f35) = true)
    (v0 : PySem.W.nsIn K mainGlobals "FITS" = some (some (.ref va0))) (w0 : K.lookup va0 = some ⟨.type "tuple", vd0, .seq #[.str "narrow" vt0_0, .str "wide" vt0_1] vn0, vs0⟩)
    (v1 : PySem.W.nsIn K mainGlobals "ORDERS" = some (some (.ref va1))) (w1 : K.lookup va1 = some ⟨.type "tuple", vd1, .seq #[.str "first" vt1_0, .str "last" vt1_1, .str "near" vt1_2] vn1, vs1⟩)
    (v2 : PySem.W.nsIn K mainGlobals "MOST_TOP" = some (some (.int 4 vt2)))
    (v3 : PySem.W.nsIn K mainGlobals "MOST_WIDTHS" = some (some (.int 3 vt3)))
    (v4 : PySem.W.nsIn K mainGlobals "MOST_PATIENCE" = some (some (.int 4 vt4)))
    (v5 : PySem.W.nsIn K mainGlobals "MOST_SEEN" = some (some (.int 6 vt5)))
    (x0 : PySem.W.nsIn K mainGlobals "InvalidHall" = some (some (.ref C0))) (xe0 : PySem.W.excIn K C0 [.type "ValueError", .type "Exception", .type "BaseException", .type "object"] "ValueError.__new__" = true) (xk0 : PySem.W.keepIn K (.ref C0) = true) (xb0 : PySem.W.subIn K (.ref C0) (.type "BaseException") = some true) (xt0 : PySem.W.typeIn K (.ref C0) = some (.type "type")) (xc0 : PySem.W.isClsIn K C0 = true)
    (x1 : PySem.W.nsIn K mainGlobals "InvalidSeen" = some (some (.ref C1))) (xe1 : PySem.W.excIn K C1 [.type "ValueError", .type "Exception", .type "BaseException", .type "object"] "ValueError.__new__" = true) (xk1 : PySem.W.keepIn K (.ref C1) = true) (xb1 : PySem.W.subIn K (.ref C1) (.type "BaseException") = some true) (xt1 : PySem.W.typeIn K (.ref C1) = some (.type "type")) (xc1 : PySem.W.isClsIn K C1 = true)
    (y0 : PySem.W.subIn K (.ref C0) (.ref C1) = some false)
    (y1 : PySem.W.subIn K (.ref C1) (.ref C1) = some true)
    (z0 : PySem.W.nsIn K mainGlobals "len" = some none)
    (z1 : PySem.W.nsIn K mainGlobals "abs" = some none)
    (z2 : PySem.W.nsIn K mainGlobals "min" = some none)
    (z3 : PySem.W.nsIn K mainGlobals "max" = some none)
    (z4 : PySem.W.nsIn K mainGlobals "all" = some none)
    (z5 : PySem.W.nsIn K mainGlobals "sorted" = some none)
    (z6 : PySem.W.nsIn K mainGlobals "int" = some none)
    (z7 : PySem.W.nsIn K mainGlobals "list" = some none)
    (z8 : PySem.W.nsIn K mainGlobals "tuple" = some none)
    (z9 : PySem.W.nsIn K mainGlobals "isinstance" = some none)
    (z10 : PySem.W.nsIn K mainGlobals "bool" = some none)
    (z11 : PySem.W.nsIn K mainGlobals "str" = some none)
    (z12 : PySem.W.nsIn K mainGlobals "range" = some none)
    (z13 : PySem.W.nsIn K mainGlobals "enumerate" = some none)
    (z14 : PySem.W.nsIn K mainGlobals "zip" = some none)
    (z15 : PySem.W.nsIn K mainGlobals "dict" = some none)
    (z16 : PySem.W.nsIn K mainGlobals "set" = some none)
    (z17 : PySem.W.nsIn K mainGlobals "ValueError" = some none)
    (z18 : PySem.W.nsIn K mainGlobals "TypeError" = some none)
    (hc : ∀ ns : List Int, ns.length ≤ 63 → c_law [.val (.frz (ns.map D.int))] = .ok (.bl true, false) []) :
    ∃ fd : FuncData, (∀ (s : Shared) (v : Value), BindsTo s fd ⟨[v], []⟩ [("_law_script", v)]) ∧ ∀ base : Heap, K.In base → base.Ns mainGlobals mg → FnOk P w K mg base (L2.CX P w) 36 fa fd ["_law_script"] (spLaw K) := by
  have e := hfa.symm.trans (PySem.W.mg_of X G a35)
  cases e
  have B : BaseK K mg gvs isEx isSub := by
    refine ⟨kty K, fun f hf => ?_, gv_all fun p hp => ?_, ex_all fun x hx => ?_, sub_all fun p hp => ?_⟩
    · simp only [builtinNames, List.mem_cons, List.mem_nil_iff, or_false] at hf
      rcases hf with rfl | rfl | rfl | rfl | rfl | rfl | rfl | rfl | rfl | rfl | rfl | rfl | rfl | rfl | rfl | rfl | rfl | rfl | rfl
      · exact PySem.W.mg_none_of X G z0
      · exact PySem.W.mg_none_of X G z1
      · exact PySem.W.mg_none_of X G z2
      · exact PySem.W.mg_none_of X G z3
      · exact PySem.W.mg_none_of X G z4
      · exact PySem.W.mg_none_of X G z5
      · exact PySem.W.mg_none_of X G z6
      · exact PySem.W.mg_none_of X G z7
      · exact PySem.W.mg_none_of X G z8
      · exact PySem.W.mg_none_of X G z9
      · exact PySem.W.mg_none_of X G z10
      · exact PySem.W.mg_none_of X G z11
      · exact PySem.W.mg_none_of X G z12
      · exact PySem.W.mg_none_of X G z13
      · exact PySem.W.mg_none_of X G z14
      · exact PySem.W.mg_none_of X G z15
      · exact PySem.W.mg_none_of X G z16
      · exact PySem.W.mg_none_of X G z17
      · exact PySem.W.mg_none_of X G z18
    · simp only [gvs, List.mem_cons, List.mem_nil_iff, or_false] at hp
      rcases hp with rfl | rfl | rfl | rfl | rfl | rfl | rfl | rfl
      · exact gv_tup X G v0 w0 (by show (2 : Nat) ≤ sizeLine; decide) (.str (.str .nil))
      · exact gv_tup X G v1 w1 (by show (3 : Nat) ≤ sizeLine; decide) (.str (.str (.str .nil)))
      · exact gv_int X G v2
      · exact gv_int X G v3
      · exact gv_int X G v4
      · exact gv_int X G v5
      · exact gv_fn X G a15
      · exact gv_fn X G a16
    · simp only [exs, List.mem_cons, List.mem_nil_iff, or_false] at hx
      rcases hx with rfl | rfl
      · exact ex_val PySem.F.excBase_ValueError X G x0 xe0 xk0 xb0 xt0
      · exact ex_val PySem.F.excBase_ValueError X G x1 xe1 xk1 xb1 xt1
    · simp only [subs, List.mem_cons, List.mem_nil_iff, or_false] at hp
      rcases hp with rfl | rfl
      · exact sub_val X G x0 x1 xb1 xc1 xt1 y0
      · exact sub_val X G x1 x1 xb1 xc1 xt1 y1
  have F0 := fun_mk (st := s_is_from) l0 c0 k0
  have b0 := F0.binds (ps := P_is_from) fun _ _ _ _ _ _ us hl => match us, hl with | [_, _, _], _ => rfl
  have g0 := PySem.W.mg_of X G a0
  have F1 := fun_mk (st := s_are_widths) l1 c1 k1
  have b1 := F1.binds (ps := P_are_widths) fun _ _ _ _ _ _ us hl => match us, hl with | [_, _], _ => rfl
  have g1 := PySem.W.mg_of X G a1
  have F2 := fun_mk (st := s_is_one_of) l2 c2 k2
  have b2 := F2.binds (ps := P_is_one_of) fun _ _ _ _ _ _ us hl => match us, hl with | [_, _], _ => rfl
  have g2 := PySem.W.mg_of X G a2
  have F3 := fun_mk (st := s_has_hall) l3 c3 k3
  have b3 := F3.binds (ps := P_has_hall) fun _ _ _ _ _ _ us hl => match us, hl with | [_], _ => rfl
  have g3 := PySem.W.mg_of X G a3
  have F4 := fun_mk (st := s_need_hall) l4 c4 k4
  have b4 := F4.binds (ps := P_need_hall) fun _ _ _ _ _ _ us hl => match us, hl with | [_], _ => rfl
  have g4 := PySem.W.mg_of X G a4
  have F5 := fun_mk (st := s_are_pairs) l5 c5 k5
  have b5 := F5.binds (ps := P_are_pairs) fun _ _ _ _ _ _ us hl => match us, hl with | [_], _ => rfl
  have g5 := PySem.W.mg_of X G a5
  have F6 := fun_mk (st := s_are_gone) l6 c6 k6
  have b6 := F6.binds (ps := P_are_gone) fun _ _ _ _ _ _ us hl => match us, hl with | [_], _ => rfl
  have g6 := PySem.W.mg_of X G a6
  have F7 := fun_mk (st := s_is_beat) l7 c7 k7
  have b7 := F7.binds (ps := P_is_beat) fun _ _ _ _ _ _ us hl => match us, hl with | [_], _ => rfl
  have g7 := PySem.W.mg_of X G a7
  have F8 := fun_mk (st := s_need_seen) l8 c8 k8
  have b8 := F8.binds (ps := P_need_seen) fun _ _ _ _ _ _ us hl => match us, hl with | [_], _ => rfl
  have g8 := PySem.W.mg_of X G a8
  have F9 := fun_mk (st := s_most_waited) l9 c9 k9
  have b9 := F9.binds (ps := P_most_waited) fun _ _ _ _ _ _ us hl => match us, hl with | [_], _ => rfl
  have g9 := PySem.W.mg_of X G a9
  have F10 := fun_mk (st := s_do_fit) l10 c10 k10
  have b10 := F10.binds (ps := P_do_fit) fun _ _ _ _ _ _ us hl => match us, hl with | [_, _, _], _ => rfl
  have g10 := PySem.W.mg_of X G a10
  have F11 := fun_mk (st := s_fitting) l11 c11 k11
  have b11 := F11.binds (ps := P_fitting) fun _ _ _ _ _ _ us hl => match us, hl with | [_, _], _ => rfl
  have g11 := PySem.W.mg_of X G a11
  have F12 := fun_mk (st := s_chosen) l12 c12 k12
  have b12 := F12.binds (ps := P_chosen) fun _ _ _ _ _ _ us hl => match us, hl with | [_, _, _], _ => rfl
  have g12 := PySem.W.mg_of X G a12
  have F13 := fun_mk (st := s_beat_of) l13 c13 k13
  have b13 := F13.binds (ps := P_beat_of) fun _ _ _ _ _ _ us hl => match us, hl with | [_, _, _, _], _ => rfl
  have g13 := PySem.W.mg_of X G a13
  have F14 := fun_mk (st := s_told_of) l14 c14 k14
  have b14 := F14.binds (ps := P_told_of) fun _ _ _ _ _ _ us hl => match us, hl with | [_, _], _ => rfl
  have g14 := PySem.W.mg_of X G a14
  have F15 := fun_mk (st := s_strengths_told) l15 c15 k15
  have b15 := F15.binds (ps := P_strengths_told) fun _ _ _ _ _ _ us hl => match us, hl with | [_, _], _ => rfl
  have g15 := PySem.W.mg_of X G a15
  have F16 := fun_mk (st := s_surely_told) l16 c16 k16
  have b16 := F16.binds (ps := P_surely_told) fun _ _ _ _ _ _ us hl => match us, hl with | [_, _], _ => rfl
  have g16 := PySem.W.mg_of X G a16
  have F17 := fun_mk (st := s_law_written_right) l17 c17 k17
  have b17 := F17.binds (ps := P_law_written_right) fun _ _ _ _ _ _ us hl => match us, hl with | [], _ => rfl
  have g17 := PySem.W.mg_of X G a17
  have F18 := fun_mk (st := s_law_source) l18 c18 k18
  have b18 := F18.binds (ps := P_law_source) fun _ _ _ _ _ _ us hl => match us, hl with | [_, _], _ => rfl
  have g18 := PySem.W.mg_of X G a18
  have F19 := fun_mk (st := s_law_draw) l19 c19 k19
  have b19 := F19.binds (ps := P_law_draw) fun _ _ _ _ _ _ us hl => match us, hl with | [_, _], _ => rfl
  have g19 := PySem.W.mg_of X G a19
  have F20 := fun_mk (st := s_law_choice) l20 c20 k20
  have b20 := F20.binds (ps := P_law_choice) fun _ _ _ _ _ _ us hl => match us, hl with | [_, _], _ => rfl
  have g20 := PySem.W.mg_of X G a20
  have F21 := fun_mk (st := s_law_hall) l21 c21 k21
  have b21 := F21.binds (ps := P_law_hall) fun _ _ _ _ _ _ us hl => match us, hl with | [_, _], _ => rfl
  have g21 := PySem.W.mg_of X G a21
  have F22 := fun_mk (st := s_law_row) l22 c22 k22
  have b22 := F22.binds (ps := P_law_row) fun _ _ _ _ _ _ us hl => match us, hl with | [_, _, _], _ => rfl
  have g22 := PySem.W.mg_of X G a22
  have F23 := fun_mk (st := s_law_window) l23 c23 k23
  have b23 := F23.binds (ps := P_law_window) fun _ _ _ _ _ _ us hl => match us, hl with | [_, _], _ => rfl
  have g23 := PySem.W.mg_of X G a23
  have F24 := fun_mk (st := s_law_fits) l24 c24 k24
  have b24 := F24.binds (ps := P_law_fits) fun _ _ _ _ _ _ us hl => match us, hl with | [_, _, _], _ => rfl
  have g24 := PySem.W.mg_of X G a24
  have F25 := fun_mk (st := s_law_picked) l25 c25 k25
  have b25 := F25.binds (ps := P_law_picked) fun _ _ _ _ _ _ us hl => match us, hl with | [_, _], _ => rfl
  have g25 := PySem.W.mg_of X G a25
  have F26 := fun_mk (st := s_law_beat) l26 c26 k26
  have b26 := F26.binds (ps := P_law_beat) fun _ _ _ _ _ _ us hl => match us, hl with | [_, _, _, _], _ => rfl
  have g26 := PySem.W.mg_of X G a26
  have F27 := fun_mk (st := s_law_run) l27 c27 k27
  have b27 := F27.binds (ps := P_law_run) fun _ _ _ _ _ _ us hl => match us, hl with | [_, _], _ => rfl
  have g27 := PySem.W.mg_of X G a27
  have F28 := fun_mk (st := s_law_seen) l28 c28 k28
  have b28 := F28.binds (ps := P_law_seen) fun _ _ _ _ _ _ us hl => match us, hl with | [_, _], _ => rfl
  have g28 := PySem.W.mg_of X G a28
  have F29 := fun_mk (st := s_law_refused) l29 c29 k29
  have b29 := F29.binds (ps := P_law_refused) fun _ _ _ _ _ _ us hl => match us, hl with | [_, _], _ => rfl
  have g29 := PySem.W.mg_of X G a29
  have F30 := fun_mk (st := s_law_all_refused) l30 c30 k30
  have b30 := F30.binds (ps := P_law_all_refused) fun _ _ _ _ _ _ us hl => match us, hl with | [_], _ => rfl
  have g30 := PySem.W.mg_of X G a30
  have F31 := fun_mk (st := s_law_rows) l31 c31 k31
  have b31 := F31.binds (ps := P_law_rows) fun _ _ _ _ _ _ us hl => match us, hl with | [_, _], _ => rfl
  have g31 := PySem.W.mg_of X G a31
  have F32 := fun_mk (st := s_law_due) l32 c32 k32
  have b32 := F32.binds (ps := P_law_due) fun _ _ _ _ _ _ us hl => match us, hl with | [_, _], _ => rfl
  have g32 := PySem.W.mg_of X G a32
  have F33 := fun_mk (st := s_law_sure) l33 c33 k33
  have b33 := F33.binds (ps := P_law_sure) fun _ _ _ _ _ _ us hl => match us, hl with | [_], _ => rfl
  have g33 := PySem.W.mg_of X G a33
  have F34 := fun_mk (st := s_law_bent) l34 c34 k34
  have b34 := F34.binds (ps := P_law_bent) fun _ _ _ _ _ _ us hl => match us, hl with | [_, _], _ => rfl
  have g34 := PySem.W.mg_of X G a34
  have F35 := fun_mk (st := s_law) l35 c35 k35
  have b35 := F35.binds (ps := P_law) fun _ _ _ _ _ _ us hl => match us, hl with | [_], _ => rfl
  have g35 := PySem.W.mg_of X G a35
  refine ⟨PySem.W.fnOf "law" "law" (defArgs s_law) (defBody s_law) (defScope s_law) .none kV35 dc35 pm35 an35 cd35 ct35, fun s v => .of_eq rfl, fun base _ _ => ?_⟩
  have S0 : FnsK P w K mg base 0 [] := fns_nil
  have S1 : FnsK P w K mg base 1 (("is_from", c_is_from) :: fns_is_from) := S0.cons (fn_def (x := "is_from") (F := FU) (N := N_is_from) (b := b_is_from) B S0 F0 g0 b0 sc_is_from k_is_from)
  have S2 : FnsK P w K mg base 2 (("are_widths", c_are_widths) :: fns_are_widths) := S1.cons (fn_def (x := "are_widths") (F := FU) (N := N_are_widths) (b := b_are_widths) B S1 F1 g1 b1 sc_are_widths k_are_widths)
  have S3 : FnsK P w K mg base 3 (("is_one_of", c_is_one_of) :: fns_is_one_of) := S2.cons (fn_def (x := "is_one_of") (F := FU) (N := N_is_one_of) (b := b_is_one_of) B S2 F2 g2 b2 sc_is_one_of k_is_one_of)
  have S4 : FnsK P w K mg base 4 (("has_hall", c_has_hall) :: fns_has_hall) := S3.cons (fn_def (x := "has_hall") (F := FU) (N := N_has_hall) (b := b_has_hall) B S3 F3 g3 b3 sc_has_hall k_has_hall)
  have S5 : FnsK P w K mg base 5 (("need_hall", c_need_hall) :: fns_need_hall) := S4.cons (fn_def (x := "need_hall") (F := FU) (N := N_need_hall) (b := b_need_hall) B S4 F4 g4 b4 sc_need_hall k_need_hall)
  have S6 : FnsK P w K mg base 6 (("are_pairs", c_are_pairs) :: fns_are_pairs) := S5.cons (fn_def (x := "are_pairs") (F := FU) (N := N_are_pairs) (b := b_are_pairs) B S5 F5 g5 b5 sc_are_pairs k_are_pairs)
  have S7 : FnsK P w K mg base 7 (("are_gone", c_are_gone) :: fns_are_gone) := S6.cons (fn_def (x := "are_gone") (F := FU) (N := N_are_gone) (b := b_are_gone) B S6 F6 g6 b6 sc_are_gone k_are_gone)
  have S8 : FnsK P w K mg base 8 (("is_beat", c_is_beat) :: fns_is_beat) := S7.cons (fn_def (x := "is_beat") (F := FU) (N := N_is_beat) (b := b_is_beat) B S7 F7 g7 b7 sc_is_beat k_is_beat)
  have S9 : FnsK P w K mg base 9 (("need_seen", c_need_seen) :: fns_need_seen) := S8.cons (fn_def (x := "need_seen") (F := FU) (N := N_need_seen) (b := b_need_seen) B S8 F8 g8 b8 sc_need_seen k_need_seen)
  have S10 : FnsK P w K mg base 10 (("most_waited", c_most_waited) :: fns_most_waited) := S9.cons (fn_def (x := "most_waited") (F := FU) (N := N_most_waited) (b := b_most_waited) B S9 F9 g9 b9 sc_most_waited k_most_waited)
  have S11 : FnsK P w K mg base 11 (("do_fit", c_do_fit) :: fns_do_fit) := S10.cons (fn_def (x := "do_fit") (F := FU) (N := N_do_fit) (b := b_do_fit) B S10 F10 g10 b10 sc_do_fit k_do_fit)
  have S12 : FnsK P w K mg base 12 (("fitting", c_fitting) :: fns_fitting) := S11.cons (fn_def (x := "fitting") (F := FU) (N := N_fitting) (b := b_fitting) B S11 F11 g11 b11 sc_fitting k_fitting)
  have S13 : FnsK P w K mg base 13 (("chosen", c_chosen) :: fns_chosen) := S12.cons (fn_def (x := "chosen") (F := FU) (N := N_chosen) (b := b_chosen) B S12 F12 g12 b12 sc_chosen k_chosen)
  have S14 : FnsK P w K mg base 14 (("beat_of", c_beat_of) :: fns_beat_of) := S13.cons (fn_def (x := "beat_of") (F := FU) (N := N_beat_of) (b := b_beat_of) B S13 F13 g13 b13 sc_beat_of k_beat_of)
  have S15 : FnsK P w K mg base 15 (("told_of", c_told_of) :: fns_told_of) := S14.cons (fn_def (x := "told_of") (F := FU) (N := N_told_of) (b := b_told_of) B S14 F14 g14 b14 sc_told_of k_told_of)
  have S16 : FnsK P w K mg base 16 (("strengths_told", c_strengths_told) :: fns_strengths_told) := S15.cons (fn_def (x := "strengths_told") (F := FU) (N := N_strengths_told) (b := b_strengths_told) B S15 F15 g15 b15 sc_strengths_told k_strengths_told)
  have S17 : FnsK P w K mg base 17 (("surely_told", c_surely_told) :: fns_surely_told) := S16.cons (fn_def (x := "surely_told") (F := FU) (N := N_surely_told) (b := b_surely_told) B S16 F16 g16 b16 sc_surely_told k_surely_told)
  have S18 : FnsK P w K mg base 18 (("_law_written_right", c_law_written_right) :: fns_law_written_right) := S17.cons (fn_def (x := "_law_written_right") (F := FU) (N := N_law_written_right) (b := b_law_written_right) B S17 F17 g17 b17 sc_law_written_right k_law_written_right)
  have S19 : FnsK P w K mg base 19 (("_law_source", c_law_source) :: fns_law_source) := S18.cons (fn_def (x := "_law_source") (F := FU) (N := N_law_source) (b := b_law_source) B S18 F18 g18 b18 sc_law_source k_law_source)
  have S20 : FnsK P w K mg base 20 (("_law_draw", c_law_draw) :: fns_law_draw) := S19.cons (fn_def (x := "_law_draw") (F := FU) (N := N_law_draw) (b := b_law_draw) B S19 F19 g19 b19 sc_law_draw k_law_draw)
  have S21 : FnsK P w K mg base 21 (("_law_choice", c_law_choice) :: fns_law_choice) := S20.cons (fn_def (x := "_law_choice") (F := FU) (N := N_law_choice) (b := b_law_choice) B S20 F20 g20 b20 sc_law_choice k_law_choice)
  have S22 : FnsK P w K mg base 22 (("_law_hall", c_law_hall) :: fns_law_hall) := S21.cons (fn_def (x := "_law_hall") (F := FU) (N := N_law_hall) (b := b_law_hall) B S21 F21 g21 b21 sc_law_hall k_law_hall)
  have S23 : FnsK P w K mg base 23 (("_law_row", c_law_row) :: fns_law_row) := S22.cons (fn_def (x := "_law_row") (F := FU) (N := N_law_row) (b := b_law_row) B S22 F22 g22 b22 sc_law_row k_law_row)
  have S24 : FnsK P w K mg base 24 (("_law_window", c_law_window) :: fns_law_window) := S23.cons (fn_def (x := "_law_window") (F := FU) (N := N_law_window) (b := b_law_window) B S23 F23 g23 b23 sc_law_window k_law_window)
  have S25 : FnsK P w K mg base 25 (("_law_fits", c_law_fits) :: fns_law_fits) := S24.cons (fn_def (x := "_law_fits") (F := FU) (N := N_law_fits) (b := b_law_fits) B S24 F24 g24 b24 sc_law_fits k_law_fits)
  have S26 : FnsK P w K mg base 26 (("_law_picked", c_law_picked) :: fns_law_picked) := S25.cons (fn_def (x := "_law_picked") (F := FU) (N := N_law_picked) (b := b_law_picked) B S25 F25 g25 b25 sc_law_picked k_law_picked)
  have S27 : FnsK P w K mg base 27 (("_law_beat", c_law_beat) :: fns_law_beat) := S26.cons (fn_def (x := "_law_beat") (F := FU) (N := N_law_beat) (b := b_law_beat) B S26 F26 g26 b26 sc_law_beat k_law_beat)
  have S28 : FnsK P w K mg base 28 (("_law_run", c_law_run) :: fns_law_run) := S27.cons (fn_def (x := "_law_run") (F := FU) (N := N_law_run) (b := b_law_run) B S27 F27 g27 b27 sc_law_run k_law_run)
  have S29 : FnsK P w K mg base 29 (("_law_seen", c_law_seen) :: fns_law_seen) := S28.cons (fn_def (x := "_law_seen") (F := FU) (N := N_law_seen) (b := b_law_seen) B S28 F28 g28 b28 sc_law_seen k_law_seen)
  have S30 : FnsK P w K mg base 30 (("_law_refused", c_law_refused) :: fns_law_refused) := S29.cons (fn_def (x := "_law_refused") (F := FU) (N := N_law_refused) (b := b_law_refused) B S29 F29 g29 b29 sc_law_refused k_law_refused)
  have S31 : FnsK P w K mg base 31 (("_law_all_refused", c_law_all_refused) :: fns_law_all_refused) := S30.cons (fn_def (x := "_law_all_refused") (F := FU) (N := N_law_all_refused) (b := b_law_all_refused) B S30 F30 g30 b30 sc_law_all_refused k_law_all_refused)
  have S32 : FnsK P w K mg base 32 (("_law_rows", c_law_rows) :: fns_law_rows) := S31.cons (fn_def (x := "_law_rows") (F := FU) (N := N_law_rows) (b := b_law_rows) B S31 F31 g31 b31 sc_law_rows k_law_rows)
  have S33 : FnsK P w K mg base 33 (("_law_due", c_law_due) :: fns_law_due) := S32.cons (fn_def (x := "_law_due") (F := FU) (N := N_law_due) (b := b_law_due) B S32 F32 g32 b32 sc_law_due k_law_due)
  have S34 : FnsK P w K mg base 34 (("_law_sure", c_law_sure) :: fns_law_sure) := S33.cons (fn_def (x := "_law_sure") (F := FU) (N := N_law_sure) (b := b_law_sure) B S33 F33 g33 b33 sc_law_sure k_law_sure)
  have S35 : FnsK P w K mg base 35 (("_law_bent", c_law_bent) :: fns_law_bent) := S34.cons (fn_def (x := "_law_bent") (F := FU) (N := N_law_bent) (b := b_law_bent) B S34 F34 g34 b34 sc_law_bent k_law_bent)
  exact law_def (F := FU) (N := N_law) (ps := P_law) (b := b_law) B S35 F35 sc_law k_law rfl hc
end W2

/-! What halls, rows, draws and sources are: the program's recognizers, the law's draws. -/
namespace W2
open PySem L2

def frm (d : D) (lo hi : Int) : Bool :=
  match d with
  | .int i => decide (lo ≤ i) && decide (i ≤ hi)
  | _ => false
def SFrom (c : List AV → CRes) : Prop := ∀ d lo hi, d.plain = true → c [.val d, .val (.int lo), .val (.int hi)] = .ok (.bl (frm d lo hi), false) []
theorem from_s (Γ : Ctr) : SFrom (conD Γ FU 3 3 b_is_from) := by
  intro d lo hi hd
  cases d with
  | int i =>
    by_cases h1 : lo ≤ i <;> by_cases h2 : i ≤ hi <;> simp [b_is_from, LIM, Function.comp_def, conD, runD, evalSs, evalS, evalE, evalL, evalA, evalAnd, evalOr, evalI, evalJ, evalH, seqR, seqD, isSeqE, partR, partD, entry, iosAt, setS, parS, gather, iosOf, callR, putIos, binD, cmpD, ixD, atI, ixN, slD, isiD, D.ty, boolsOf, bindT, bindTs, wipeE, plainAt, backE, lend, Env.hide, SV.hide, SV.isOwn, SV.dat, SV.put, ownAt, shutE, ixD', compF, ofO, R.bind, R.bindB, R.toS, R.toSB, RS.bind, bq_len, bq_abs, bq_min, bq_max, bq_int, bq_all, bq_sorted, bq_list, bq_tuple, bLen, bAbs, bMin, bMax, bInt, bAll, bSorted, bList, bTuple, frm, h1, h2]
  | _ => first | (simp [b_is_from, LIM, Function.comp_def, conD, runD, evalSs, evalS, evalE, evalL, evalA, evalAnd, evalOr, evalI, evalJ, evalH, seqR, seqD, isSeqE, partR, partD, entry, iosAt, setS, parS, gather, iosOf, callR, putIos, binD, cmpD, ixD, atI, ixN, slD, isiD, D.ty, boolsOf, bindT, bindTs, wipeE, plainAt, backE, lend, Env.hide, SV.hide, SV.isOwn, SV.dat, SV.put, ownAt, shutE, ixD', compF, ofO, R.bind, R.bindB, R.toS, R.toSB, RS.bind, bq_len, bq_abs, bq_min, bq_max, bq_int, bq_all, bq_sorted, bq_list, bq_tuple, bLen, bAbs, bMin, bMax, bInt, bAll, bSorted, bList, bTuple, frm]; done) | (simp [D.plain] at hd)
theorem frm_int {d : D} {lo hi : Int} (h : frm d lo hi = true) : ∃ i, d = .int i ∧ lo ≤ i ∧ i ≤ hi := by
  cases d with
  | int i => simp [frm] at h; exact ⟨i, rfl, h⟩
  | _ => simp [frm] at h
theorem cutD1 {a : D} : cutD [a] (some 1) none = [] := by rfl
theorem cutD2 {a b : D} : cutD [a, b] (some 1) none = [b] := by rfl
theorem cutD3 {a b c : D} : cutD [a, b, c] (some 1) none = [b, c] := by rfl
def adj : List D → Bool
  | .int a :: .int b :: r => decide (a ≤ b) && adj (.int b :: r)
  | _ :: _ :: _ => false
  | _ => true
def wids (d : D) (top : Int) : Bool :=
  match d with
  | .tup ds => decide (1 ≤ ds.length) && (decide (ds.length ≤ 3) && (ds.all (fun w => frm w 0 top) && adj ds))
  | _ => false
def SWid (c : List AV → CRes) : Prop := ∀ d top, d.plain = true → c [.val d, .val (.int top)] = .ok (.bl (wids d top), false) []
theorem wid_s (Γ : Ctr) (c : List AV → CRes) (h : Γ.fn "is_from" = some c) (hc : SFrom c) (hg : Γ.gv "MOST_WIDTHS" = some (.int 3)) : SWid (conD Γ FU 2 5 b_are_widths) := by
  intro d top hd
  cases d with
  | tup ds =>
    have pl : D.plainL ds = true := by simpa [D.plain] using hd
    match ds, pl with
    | [], _ => simp [b_are_widths, LIM, Function.comp_def, conD, runD, evalSs, evalS, evalE, evalL, evalA, evalAnd, evalOr, evalI, evalJ, evalH, seqR, seqD, isSeqE, partR, partD, entry, iosAt, setS, parS, gather, iosOf, callR, putIos, binD, cmpD, ixD, atI, ixN, slD, isiD, D.ty, boolsOf, bindT, bindTs, wipeE, plainAt, backE, lend, Env.hide, SV.hide, SV.isOwn, SV.dat, SV.put, ownAt, shutE, ixD', compF, ofO, R.bind, R.bindB, R.toS, R.toSB, RS.bind, bq_len, bq_abs, bq_min, bq_max, bq_int, bq_all, bq_sorted, bq_list, bq_tuple, bLen, bAbs, bMin, bMax, bInt, bAll, bSorted, bList, bTuple, wids, hg]
    | [a], pl =>
      simp only [D.plainL, Bool.and_eq_true] at pl
      have ha := hc a 0 top pl.1
      cases e : frm a 0 top with
      | false => simp [b_are_widths, LIM, Function.comp_def, conD, runD, evalSs, evalS, evalE, evalL, evalA, evalAnd, evalOr, evalI, evalJ, evalH, seqR, seqD, isSeqE, partR, partD, entry, iosAt, setS, parS, gather, iosOf, callR, putIos, binD, cmpD, ixD, atI, ixN, slD, isiD, D.ty, boolsOf, bindT, bindTs, wipeE, plainAt, backE, lend, Env.hide, SV.hide, SV.isOwn, SV.dat, SV.put, ownAt, shutE, ixD', compF, ofO, R.bind, R.bindB, R.toS, R.toSB, RS.bind, bq_len, bq_abs, bq_min, bq_max, bq_int, bq_all, bq_sorted, bq_list, bq_tuple, bLen, bAbs, bMin, bMax, bInt, bAll, bSorted, bList, bTuple, wids, hg, h, ha, e, compL]
      | true => simp [b_are_widths, LIM, Function.comp_def, conD, runD, evalSs, evalS, evalE, evalL, evalA, evalAnd, evalOr, evalI, evalJ, evalH, seqR, seqD, isSeqE, partR, partD, entry, iosAt, setS, parS, gather, iosOf, callR, putIos, binD, cmpD, ixD, atI, ixN, slD, isiD, D.ty, boolsOf, bindT, bindTs, wipeE, plainAt, backE, lend, Env.hide, SV.hide, SV.isOwn, SV.dat, SV.put, ownAt, shutE, ixD', compF, ofO, R.bind, R.bindB, R.toS, R.toSB, RS.bind, bq_len, bq_abs, bq_min, bq_max, bq_int, bq_all, bq_sorted, bq_list, bq_tuple, bLen, bAbs, bMin, bMax, bInt, bAll, bSorted, bList, bTuple, wids, hg, h, ha, e, compL, zipD, cutD1, adj]
    | [a, b], pl =>
      simp only [D.plainL, Bool.and_eq_true] at pl
      have ha := hc a 0 top pl.1
      have hb := hc b 0 top pl.2.1
      cases e1 : frm a 0 top with
      | false => simp [b_are_widths, LIM, Function.comp_def, conD, runD, evalSs, evalS, evalE, evalL, evalA, evalAnd, evalOr, evalI, evalJ, evalH, seqR, seqD, isSeqE, partR, partD, entry, iosAt, setS, parS, gather, iosOf, callR, putIos, binD, cmpD, ixD, atI, ixN, slD, isiD, D.ty, boolsOf, bindT, bindTs, wipeE, plainAt, backE, lend, Env.hide, SV.hide, SV.isOwn, SV.dat, SV.put, ownAt, shutE, ixD', compF, ofO, R.bind, R.bindB, R.toS, R.toSB, RS.bind, bq_len, bq_abs, bq_min, bq_max, bq_int, bq_all, bq_sorted, bq_list, bq_tuple, bLen, bAbs, bMin, bMax, bInt, bAll, bSorted, bList, bTuple, wids, hg, h, ha, hb, e1, compL]
      | true =>
        cases e2 : frm b 0 top with
        | false => simp [b_are_widths, LIM, Function.comp_def, conD, runD, evalSs, evalS, evalE, evalL, evalA, evalAnd, evalOr, evalI, evalJ, evalH, seqR, seqD, isSeqE, partR, partD, entry, iosAt, setS, parS, gather, iosOf, callR, putIos, binD, cmpD, ixD, atI, ixN, slD, isiD, D.ty, boolsOf, bindT, bindTs, wipeE, plainAt, backE, lend, Env.hide, SV.hide, SV.isOwn, SV.dat, SV.put, ownAt, shutE, ixD', compF, ofO, R.bind, R.bindB, R.toS, R.toSB, RS.bind, bq_len, bq_abs, bq_min, bq_max, bq_int, bq_all, bq_sorted, bq_list, bq_tuple, bLen, bAbs, bMin, bMax, bInt, bAll, bSorted, bList, bTuple, wids, hg, h, ha, hb, e1, e2, compL]
        | true =>
          obtain ⟨i, rfl, _⟩ := frm_int e1
          obtain ⟨j, rfl, _⟩ := frm_int e2
          simp [b_are_widths, LIM, Function.comp_def, conD, runD, evalSs, evalS, evalE, evalL, evalA, evalAnd, evalOr, evalI, evalJ, evalH, seqR, seqD, isSeqE, partR, partD, entry, iosAt, setS, parS, gather, iosOf, callR, putIos, binD, cmpD, ixD, atI, ixN, slD, isiD, D.ty, boolsOf, bindT, bindTs, wipeE, plainAt, backE, lend, Env.hide, SV.hide, SV.isOwn, SV.dat, SV.put, ownAt, shutE, ixD', compF, ofO, R.bind, R.bindB, R.toS, R.toSB, RS.bind, bq_len, bq_abs, bq_min, bq_max, bq_int, bq_all, bq_sorted, bq_list, bq_tuple, bLen, bAbs, bMin, bMax, bInt, bAll, bSorted, bList, bTuple, wids, hg, h, ha, hb, e1, e2, compL, zipD, cutD2, adj]
    | [a, b, c2], pl =>
      simp only [D.plainL, Bool.and_eq_true] at pl
      have ha := hc a 0 top pl.1
      have hb := hc b 0 top pl.2.1
      have hcc := hc c2 0 top pl.2.2.1
      cases e1 : frm a 0 top with
      | false => simp [b_are_widths, LIM, Function.comp_def, conD, runD, evalSs, evalS, evalE, evalL, evalA, evalAnd, evalOr, evalI, evalJ, evalH, seqR, seqD, isSeqE, partR, partD, entry, iosAt, setS, parS, gather, iosOf, callR, putIos, binD, cmpD, ixD, atI, ixN, slD, isiD, D.ty, boolsOf, bindT, bindTs, wipeE, plainAt, backE, lend, Env.hide, SV.hide, SV.isOwn, SV.dat, SV.put, ownAt, shutE, ixD', compF, ofO, R.bind, R.bindB, R.toS, R.toSB, RS.bind, bq_len, bq_abs, bq_min, bq_max, bq_int, bq_all, bq_sorted, bq_list, bq_tuple, bLen, bAbs, bMin, bMax, bInt, bAll, bSorted, bList, bTuple, wids, hg, h, ha, hb, hcc, e1, compL]
      | true =>
        cases e2 : frm b 0 top with
        | false => simp [b_are_widths, LIM, Function.comp_def, conD, runD, evalSs, evalS, evalE, evalL, evalA, evalAnd, evalOr, evalI, evalJ, evalH, seqR, seqD, isSeqE, partR, partD, entry, iosAt, setS, parS, gather, iosOf, callR, putIos, binD, cmpD, ixD, atI, ixN, slD, isiD, D.ty, boolsOf, bindT, bindTs, wipeE, plainAt, backE, lend, Env.hide, SV.hide, SV.isOwn, SV.dat, SV.put, ownAt, shutE, ixD', compF, ofO, R.bind, R.bindB, R.toS, R.toSB, RS.bind, bq_len, bq_abs, bq_min, bq_max, bq_int, bq_all, bq_sorted, bq_list, bq_tuple, bLen, bAbs, bMin, bMax, bInt, bAll, bSorted, bList, bTuple, wids, hg, h, ha, hb, hcc, e1, e2, compL]
        | true =>
          cases e3 : frm c2 0 top with
          | false => simp [b_are_widths, LIM, Function.comp_def, conD, runD, evalSs, evalS, evalE, evalL, evalA, evalAnd, evalOr, evalI, evalJ, evalH, seqR, seqD, isSeqE, partR, partD, entry, iosAt, setS, parS, gather, iosOf, callR, putIos, binD, cmpD, ixD, atI, ixN, slD, isiD, D.ty, boolsOf, bindT, bindTs, wipeE, plainAt, backE, lend, Env.hide, SV.hide, SV.isOwn, SV.dat, SV.put, ownAt, shutE, ixD', compF, ofO, R.bind, R.bindB, R.toS, R.toSB, RS.bind, bq_len, bq_abs, bq_min, bq_max, bq_int, bq_all, bq_sorted, bq_list, bq_tuple, bLen, bAbs, bMin, bMax, bInt, bAll, bSorted, bList, bTuple, wids, hg, h, ha, hb, hcc, e1, e2, e3, compL]
          | true =>
            obtain ⟨i, rfl, _⟩ := frm_int e1
            obtain ⟨j, rfl, _⟩ := frm_int e2
            obtain ⟨k, rfl, _⟩ := frm_int e3
            simp [b_are_widths, LIM, Function.comp_def, conD, runD, evalSs, evalS, evalE, evalL, evalA, evalAnd, evalOr, evalI, evalJ, evalH, seqR, seqD, isSeqE, partR, partD, entry, iosAt, setS, parS, gather, iosOf, callR, putIos, binD, cmpD, ixD, atI, ixN, slD, isiD, D.ty, boolsOf, bindT, bindTs, wipeE, plainAt, backE, lend, Env.hide, SV.hide, SV.isOwn, SV.dat, SV.put, ownAt, shutE, ixD', compF, ofO, R.bind, R.bindB, R.toS, R.toSB, RS.bind, bq_len, bq_abs, bq_min, bq_max, bq_int, bq_all, bq_sorted, bq_list, bq_tuple, bLen, bAbs, bMin, bMax, bInt, bAll, bSorted, bList, bTuple, wids, hg, h, ha, hb, hcc, e1, e2, e3, compL, zipD, cutD3, adj]
    | a :: b :: e :: f :: r, pl =>
      have n3 : ¬ ((r.length : Int) + 1 + 1 + 1 + 1 ≤ 3) := by omega
      have n1 : 1 ≤ (r.length : Int) + 1 + 1 + 1 + 1 := by omega
      simp [b_are_widths, LIM, Function.comp_def, conD, runD, evalSs, evalS, evalE, evalL, evalA, evalAnd, evalOr, evalI, evalJ, evalH, seqR, seqD, isSeqE, partR, partD, entry, iosAt, setS, parS, gather, iosOf, callR, putIos, binD, cmpD, ixD, atI, ixN, slD, isiD, D.ty, boolsOf, bindT, bindTs, wipeE, plainAt, backE, lend, Env.hide, SV.hide, SV.isOwn, SV.dat, SV.put, ownAt, shutE, ixD', compF, ofO, R.bind, R.bindB, R.toS, R.toSB, RS.bind, bq_len, bq_abs, bq_min, bq_max, bq_int, bq_all, bq_sorted, bq_list, bq_tuple, bLen, bAbs, bMin, bMax, bInt, bAll, bSorted, bList, bTuple, wids, hg, n3, n1]
  | _ => first | (simp [b_are_widths, LIM, Function.comp_def, conD, runD, evalSs, evalS, evalE, evalL, evalA, evalAnd, evalOr, evalI, evalJ, evalH, seqR, seqD, isSeqE, partR, partD, entry, iosAt, setS, parS, gather, iosOf, callR, putIos, binD, cmpD, ixD, atI, ixN, slD, isiD, D.ty, boolsOf, bindT, bindTs, wipeE, plainAt, backE, lend, Env.hide, SV.hide, SV.isOwn, SV.dat, SV.put, ownAt, shutE, ixD', compF, ofO, R.bind, R.bindB, R.toS, R.toSB, RS.bind, bq_len, bq_abs, bq_min, bq_max, bq_int, bq_all, bq_sorted, bq_list, bq_tuple, bLen, bAbs, bMin, bMax, bInt, bAll, bSorted, bList, bTuple, wids]; done) | (simp [D.plain] at hd)

/-! ### one of some words -/
def oneOf (d : D) (ws : List Str) : Bool :=
  match d with
  | .str x => ws.any fun w => decide (w = x)
  | _ => false
def SOne (c : List AV → CRes) : Prop := ∀ (d : D) (ws : List Str), d.plain = true → ws.all PyData.strOk = true → c [.val d, .val (.tup (ws.map D.str))] = .ok (.bl (oneOf d ws), false) []
theorem plain_strs : ∀ ws : List Str, ws.all PyData.strOk = true → D.plainL (ws.map D.str) = true
  | [], _ => rfl
  | w :: ws, h => by
    simp only [List.all_cons, Bool.and_eq_true] at h
    simp [D.plainL, D.plain, h.1, plain_strs ws h.2]
theorem dep_strs : ∀ ws : List Str, D.depL (ws.map D.str) = 0
  | [] => rfl
  | w :: ws => by simp [D.depL, D.dep, dep_strs ws]
theorem one_s (Γ : Ctr) : SOne (conD Γ FU 2 2 b_is_one_of) := by
  intro d ws hd hw
  have g1 : (D.tup (ws.map D.str)).good = true := by
    unfold D.good
    simp [D.plain, plain_strs ws hw, D.dep, dep_strs]
  cases d with
  | str x =>
    have g2 : (D.str x).good = true := by
      unfold D.good
      simp only [D.plain] at hd
      simp [D.plain, hd, D.dep]
    have e : ∀ ws : List Str, ((ws.map D.str).any fun z => z.eqv (.str x)) = ws.any fun w => decide (w = x) := by
      intro ws
      induction ws with
      | nil => rfl
      | cons w ws ih => simp [D.eqv, Function.comp_def]
    simp [b_is_one_of, LIM, Function.comp_def, conD, runD, evalSs, evalS, evalE, evalL, evalA, evalAnd, evalOr, evalI, evalJ, evalH, seqR, seqD, isSeqE, partR, partD, entry, iosAt, setS, parS, gather, iosOf, callR, putIos, binD, cmpD, ixD, atI, ixN, slD, isiD, D.ty, boolsOf, bindT, bindTs, wipeE, plainAt, backE, lend, Env.hide, SV.hide, SV.isOwn, SV.dat, SV.put, ownAt, shutE, ixD', compF, ofO, R.bind, R.bindB, R.toS, R.toSB, RS.bind, bq_len, bq_abs, bq_min, bq_max, bq_int, bq_all, bq_sorted, bq_list, bq_tuple, bLen, bAbs, bMin, bMax, bInt, bAll, bSorted, bList, bTuple, oneOf, g1, g2, e]
    try rfl
  | _ => first | (simp [b_is_one_of, LIM, Function.comp_def, conD, runD, evalSs, evalS, evalE, evalL, evalA, evalAnd, evalOr, evalI, evalJ, evalH, seqR, seqD, isSeqE, partR, partD, entry, iosAt, setS, parS, gather, iosOf, callR, putIos, binD, cmpD, ixD, atI, ixN, slD, isiD, D.ty, boolsOf, bindT, bindTs, wipeE, plainAt, backE, lend, Env.hide, SV.hide, SV.isOwn, SV.dat, SV.put, ownAt, shutE, ixD', compF, ofO, R.bind, R.bindB, R.toS, R.toSB, RS.bind, bq_len, bq_abs, bq_min, bq_max, bq_int, bq_all, bq_sorted, bq_list, bq_tuple, bLen, bAbs, bMin, bMax, bInt, bAll, bSorted, bList, bTuple, oneOf]; done) | (simp [D.plain] at hd)

/-! ### halls -/
def isHall (d : D) : Bool :=
  match d with
  | .tup [t, w, f, o, p] => frm t 1 4 && (match t with
    | .int i => wids w i
    | _ => false) && oneOf f ["narrow", "wide"] && oneOf o ["first", "last", "near"] && (p.isN || frm p 1 4)
  | _ => false
def SHall (c : List AV → CRes) : Prop := ∀ d, d.plain = true → c [.val d] = .ok (.bl (isHall d), false) []
theorem has_s (Γ : Ctr) (c1 c2 c3 : List AV → CRes) (h1 : Γ.fn "is_from" = some c1) (h2 : Γ.fn "are_widths" = some c2) (h3 : Γ.fn "is_one_of" = some c3) (s1 : SFrom c1) (s2 : SWid c2) (s3 : SOne c3)
    (g1 : Γ.gv "MOST_TOP" = some (.int 4)) (g2 : Γ.gv "FITS" = some (.tup [.str "narrow", .str "wide"])) (g3 : Γ.gv "ORDERS" = some (.tup [.str "first", .str "last", .str "near"])) (g4 : Γ.gv "MOST_PATIENCE" = some (.int 4)) : SHall (conD Γ FU 1 1 b_has_hall) := by
  intro d hd
  have good0 : ∀ i : Int, (D.int i).good = true := fun i => by rfl
  cases d with
  | tup ds =>
    have pl : D.plainL ds = true := by simpa [D.plain] using hd
    match ds, pl with
    | [t, w, f, o, p], pl =>
      simp only [D.plainL, Bool.and_eq_true] at pl
      obtain ⟨pt, pw, pf, po, pp, _⟩ := pl
      have k1 := s1 t 1 4 pt
      have k4 := s1 p 1 4 pp
      have k2 := s3 f ["narrow", "wide"] pf (by decide +kernel)
      have k3 := s3 o ["first", "last", "near"] po (by decide +kernel)
      simp only [List.map_cons, List.map_nil] at k2 k3
      cases e1 : frm t 1 4 with
      | false => simp [b_has_hall, LIM, Function.comp_def, conD, runD, evalSs, evalS, evalE, evalL, evalA, evalAnd, evalOr, evalI, evalJ, evalH, seqR, seqD, isSeqE, partR, partD, entry, iosAt, setS, parS, gather, iosOf, callR, putIos, binD, cmpD, ixD, atI, ixN, slD, isiD, D.ty, boolsOf, bindT, bindTs, wipeE, plainAt, backE, lend, Env.hide, SV.hide, SV.isOwn, SV.dat, SV.put, ownAt, shutE, ixD', compF, ofO, R.bind, R.bindB, R.toS, R.toSB, RS.bind, bq_len, bq_abs, bq_min, bq_max, bq_int, bq_all, bq_sorted, bq_list, bq_tuple, bLen, bAbs, bMin, bMax, bInt, bAll, bSorted, bList, bTuple, isHall, h1, h2, h3, g1, g2, g3, g4, k1, e1, good0, D.eqv]
      | true =>
        obtain ⟨i, rfl, _⟩ := frm_int e1
        have k5 := s2 w i pw
        cases e2 : wids w i with
        | false => simp [b_has_hall, LIM, Function.comp_def, conD, runD, evalSs, evalS, evalE, evalL, evalA, evalAnd, evalOr, evalI, evalJ, evalH, seqR, seqD, isSeqE, partR, partD, entry, iosAt, setS, parS, gather, iosOf, callR, putIos, binD, cmpD, ixD, atI, ixN, slD, isiD, D.ty, boolsOf, bindT, bindTs, wipeE, plainAt, backE, lend, Env.hide, SV.hide, SV.isOwn, SV.dat, SV.put, ownAt, shutE, ixD', compF, ofO, R.bind, R.bindB, R.toS, R.toSB, RS.bind, bq_len, bq_abs, bq_min, bq_max, bq_int, bq_all, bq_sorted, bq_list, bq_tuple, bLen, bAbs, bMin, bMax, bInt, bAll, bSorted, bList, bTuple, isHall, h1, h2, h3, g1, g2, g3, g4, k1, k2, k3, k4, k5, e1, e2, good0, D.eqv]
        | true =>
          cases e3 : oneOf f ["narrow", "wide"] with
          | false => simp [b_has_hall, LIM, Function.comp_def, conD, runD, evalSs, evalS, evalE, evalL, evalA, evalAnd, evalOr, evalI, evalJ, evalH, seqR, seqD, isSeqE, partR, partD, entry, iosAt, setS, parS, gather, iosOf, callR, putIos, binD, cmpD, ixD, atI, ixN, slD, isiD, D.ty, boolsOf, bindT, bindTs, wipeE, plainAt, backE, lend, Env.hide, SV.hide, SV.isOwn, SV.dat, SV.put, ownAt, shutE, ixD', compF, ofO, R.bind, R.bindB, R.toS, R.toSB, RS.bind, bq_len, bq_abs, bq_min, bq_max, bq_int, bq_all, bq_sorted, bq_list, bq_tuple, bLen, bAbs, bMin, bMax, bInt, bAll, bSorted, bList, bTuple, isHall, h1, h2, h3, g1, g2, g3, g4, k1, k2, k3, k4, k5, e1, e2, e3, good0, D.eqv]
          | true =>
            cases e4 : oneOf o ["first", "last", "near"] with
            | false => simp [b_has_hall, LIM, Function.comp_def, conD, runD, evalSs, evalS, evalE, evalL, evalA, evalAnd, evalOr, evalI, evalJ, evalH, seqR, seqD, isSeqE, partR, partD, entry, iosAt, setS, parS, gather, iosOf, callR, putIos, binD, cmpD, ixD, atI, ixN, slD, isiD, D.ty, boolsOf, bindT, bindTs, wipeE, plainAt, backE, lend, Env.hide, SV.hide, SV.isOwn, SV.dat, SV.put, ownAt, shutE, ixD', compF, ofO, R.bind, R.bindB, R.toS, R.toSB, RS.bind, bq_len, bq_abs, bq_min, bq_max, bq_int, bq_all, bq_sorted, bq_list, bq_tuple, bLen, bAbs, bMin, bMax, bInt, bAll, bSorted, bList, bTuple, isHall, h1, h2, h3, g1, g2, g3, g4, k1, k2, k3, k4, k5, e1, e2, e3, e4, good0, D.eqv]
            | true =>
              cases e5 : p.isN <;> simp [b_has_hall, LIM, Function.comp_def, conD, runD, evalSs, evalS, evalE, evalL, evalA, evalAnd, evalOr, evalI, evalJ, evalH, seqR, seqD, isSeqE, partR, partD, entry, iosAt, setS, parS, gather, iosOf, callR, putIos, binD, cmpD, ixD, atI, ixN, slD, isiD, D.ty, boolsOf, bindT, bindTs, wipeE, plainAt, backE, lend, Env.hide, SV.hide, SV.isOwn, SV.dat, SV.put, ownAt, shutE, ixD', compF, ofO, R.bind, R.bindB, R.toS, R.toSB, RS.bind, bq_len, bq_abs, bq_min, bq_max, bq_int, bq_all, bq_sorted, bq_list, bq_tuple, bLen, bAbs, bMin, bMax, bInt, bAll, bSorted, bList, bTuple, isHall, h1, h2, h3, g1, g2, g3, g4, k1, k2, k3, k4, k5, e1, e2, e3, e4, e5, good0, D.eqv]
    | [], _ => simp [b_has_hall, LIM, Function.comp_def, conD, runD, evalSs, evalS, evalE, evalL, evalA, evalAnd, evalOr, evalI, evalJ, evalH, seqR, seqD, isSeqE, partR, partD, entry, iosAt, setS, parS, gather, iosOf, callR, putIos, binD, cmpD, ixD, atI, ixN, slD, isiD, D.ty, boolsOf, bindT, bindTs, wipeE, plainAt, backE, lend, Env.hide, SV.hide, SV.isOwn, SV.dat, SV.put, ownAt, shutE, ixD', compF, ofO, R.bind, R.bindB, R.toS, R.toSB, RS.bind, bq_len, bq_abs, bq_min, bq_max, bq_int, bq_all, bq_sorted, bq_list, bq_tuple, bLen, bAbs, bMin, bMax, bInt, bAll, bSorted, bList, bTuple, isHall, good0, D.eqv]
    | [_], _ => simp [b_has_hall, LIM, Function.comp_def, conD, runD, evalSs, evalS, evalE, evalL, evalA, evalAnd, evalOr, evalI, evalJ, evalH, seqR, seqD, isSeqE, partR, partD, entry, iosAt, setS, parS, gather, iosOf, callR, putIos, binD, cmpD, ixD, atI, ixN, slD, isiD, D.ty, boolsOf, bindT, bindTs, wipeE, plainAt, backE, lend, Env.hide, SV.hide, SV.isOwn, SV.dat, SV.put, ownAt, shutE, ixD', compF, ofO, R.bind, R.bindB, R.toS, R.toSB, RS.bind, bq_len, bq_abs, bq_min, bq_max, bq_int, bq_all, bq_sorted, bq_list, bq_tuple, bLen, bAbs, bMin, bMax, bInt, bAll, bSorted, bList, bTuple, isHall, good0, D.eqv]
    | [_, _], _ => simp [b_has_hall, LIM, Function.comp_def, conD, runD, evalSs, evalS, evalE, evalL, evalA, evalAnd, evalOr, evalI, evalJ, evalH, seqR, seqD, isSeqE, partR, partD, entry, iosAt, setS, parS, gather, iosOf, callR, putIos, binD, cmpD, ixD, atI, ixN, slD, isiD, D.ty, boolsOf, bindT, bindTs, wipeE, plainAt, backE, lend, Env.hide, SV.hide, SV.isOwn, SV.dat, SV.put, ownAt, shutE, ixD', compF, ofO, R.bind, R.bindB, R.toS, R.toSB, RS.bind, bq_len, bq_abs, bq_min, bq_max, bq_int, bq_all, bq_sorted, bq_list, bq_tuple, bLen, bAbs, bMin, bMax, bInt, bAll, bSorted, bList, bTuple, isHall, good0, D.eqv]
    | [_, _, _], _ => simp [b_has_hall, LIM, Function.comp_def, conD, runD, evalSs, evalS, evalE, evalL, evalA, evalAnd, evalOr, evalI, evalJ, evalH, seqR, seqD, isSeqE, partR, partD, entry, iosAt, setS, parS, gather, iosOf, callR, putIos, binD, cmpD, ixD, atI, ixN, slD, isiD, D.ty, boolsOf, bindT, bindTs, wipeE, plainAt, backE, lend, Env.hide, SV.hide, SV.isOwn, SV.dat, SV.put, ownAt, shutE, ixD', compF, ofO, R.bind, R.bindB, R.toS, R.toSB, RS.bind, bq_len, bq_abs, bq_min, bq_max, bq_int, bq_all, bq_sorted, bq_list, bq_tuple, bLen, bAbs, bMin, bMax, bInt, bAll, bSorted, bList, bTuple, isHall, good0, D.eqv]
    | [_, _, _, _], _ => simp [b_has_hall, LIM, Function.comp_def, conD, runD, evalSs, evalS, evalE, evalL, evalA, evalAnd, evalOr, evalI, evalJ, evalH, seqR, seqD, isSeqE, partR, partD, entry, iosAt, setS, parS, gather, iosOf, callR, putIos, binD, cmpD, ixD, atI, ixN, slD, isiD, D.ty, boolsOf, bindT, bindTs, wipeE, plainAt, backE, lend, Env.hide, SV.hide, SV.isOwn, SV.dat, SV.put, ownAt, shutE, ixD', compF, ofO, R.bind, R.bindB, R.toS, R.toSB, RS.bind, bq_len, bq_abs, bq_min, bq_max, bq_int, bq_all, bq_sorted, bq_list, bq_tuple, bLen, bAbs, bMin, bMax, bInt, bAll, bSorted, bList, bTuple, isHall, good0, D.eqv]
    | _ :: _ :: _ :: _ :: _ :: _ :: r, _ =>
      have n5 : ((r.length : Int) + 1 + 1 + 1 + 1 + 1 + 1 == 5) = false := by rw [beq_eq_false_iff_ne]; omega
      simp [b_has_hall, LIM, Function.comp_def, conD, runD, evalSs, evalS, evalE, evalL, evalA, evalAnd, evalOr, evalI, evalJ, evalH, seqR, seqD, isSeqE, partR, partD, entry, iosAt, setS, parS, gather, iosOf, callR, putIos, binD, cmpD, ixD, atI, ixN, slD, isiD, D.ty, boolsOf, bindT, bindTs, wipeE, plainAt, backE, lend, Env.hide, SV.hide, SV.isOwn, SV.dat, SV.put, ownAt, shutE, ixD', compF, ofO, R.bind, R.bindB, R.toS, R.toSB, RS.bind, bq_len, bq_abs, bq_min, bq_max, bq_int, bq_all, bq_sorted, bq_list, bq_tuple, bLen, bAbs, bMin, bMax, bInt, bAll, bSorted, bList, bTuple, isHall, good0, D.eqv, n5]
  | _ => first | (simp [b_has_hall, LIM, Function.comp_def, conD, runD, evalSs, evalS, evalE, evalL, evalA, evalAnd, evalOr, evalI, evalJ, evalH, seqR, seqD, isSeqE, partR, partD, entry, iosAt, setS, parS, gather, iosOf, callR, putIos, binD, cmpD, ixD, atI, ixN, slD, isiD, D.ty, boolsOf, bindT, bindTs, wipeE, plainAt, backE, lend, Env.hide, SV.hide, SV.isOwn, SV.dat, SV.put, ownAt, shutE, ixD', compF, ofO, R.bind, R.bindB, R.toS, R.toSB, RS.bind, bq_len, bq_abs, bq_min, bq_max, bq_int, bq_all, bq_sorted, bq_list, bq_tuple, bLen, bAbs, bMin, bMax, bInt, bAll, bSorted, bList, bTuple, isHall]; done) | (simp [D.plain] at hd)
def SNeed (c : List AV → CRes) : Prop := ∀ d, d.plain = true → c [.val d] = if isHall d then .ok (.non, false) [] else .err ⟨"InvalidHall", []⟩ []
theorem need_s (Γ : Ctr) (c : List AV → CRes) (h : Γ.fn "has_hall" = some c) (s : SHall c) (hx : Γ.ex "InvalidHall" = true) : SNeed (conD Γ FU 1 1 b_need_hall) := by
  intro d hd
  have := s d hd
  cases e : isHall d <;> simp [b_need_hall, LIM, Function.comp_def, conD, runD, evalSs, evalS, evalE, evalL, evalA, evalAnd, evalOr, evalI, evalJ, evalH, seqR, seqD, isSeqE, partR, partD, entry, iosAt, setS, parS, gather, iosOf, callR, putIos, binD, cmpD, ixD, atI, ixN, slD, isiD, D.ty, boolsOf, bindT, bindTs, wipeE, plainAt, backE, lend, Env.hide, SV.hide, SV.isOwn, SV.dat, SV.put, ownAt, shutE, ixD', compF, ofO, R.bind, R.bindB, R.toS, R.toSB, RS.bind, bq_len, bq_abs, bq_min, bq_max, bq_int, bq_all, bq_sorted, bq_list, bq_tuple, bLen, bAbs, bMin, bMax, bInt, bAll, bSorted, bList, bTuple, h, this, e, hx]

/-! ### rows -/
def isRow (top : Int) (d : D) : Bool :=
  match d with
  | .tup ds => decide (ds.length ≤ 60) && ds.all fun x => x.isN || frm x 0 top
  | _ => false
def SHasRow (c : List AV → CRes) : Prop := ∀ d top ds, d.plain = true → c [.val (.tup (.int top :: ds)), .val d] = .ok (.bl (isRow top d), false) []
theorem boolsOf_map (g : D → Bool) : ∀ ds : List D, boolsOf (ds.map fun d => .bl (g d)) = some (ds.map g)
  | [] => rfl
  | d :: ds => by simp [boolsOf, boolsOf_map g ds]
theorem plainL_mem : ∀ {ds : List D} {d : D}, D.plainL ds = true → d ∈ ds → d.plain = true
  | [], _, _, h => by cases h
  | e :: ds, d, p, h => by
    simp only [D.plainL, Bool.and_eq_true] at p
    rcases List.mem_cons.mp h with rfl | h
    · exact p.1
    · exact plainL_mem p.2 h
theorem isHall_top {d : D} (h : isHall d = true) : ∃ top ds, d = .tup (.int top :: ds) ∧ 1 ≤ top ∧ top ≤ 4 := by
  unfold isHall at h
  split at h
  · rename_i t w f o p
    simp only [Bool.and_eq_true] at h
    obtain ⟨i, rfl, h1, h2⟩ := frm_int h.1.1.1.1
    exact ⟨i, _, rfl, h1, h2⟩
  · cases h
def SNeedRow (c : List AV → CRes) : Prop := ∀ d top ds, d.plain = true → c [.val (.tup (.int top :: ds)), .val d] = if isRow top d then .ok (.non, false) [] else .err ⟨"InvalidRow", []⟩ []
/-! ### sorting whole numbers -/
theorem le_ints (a b : Int) : PySem.W.dataLe false D.py (.int a) (.int b) = decide (a ≤ b) := by
  show (!PySem.W.dataLt (.int b) (.int a)) = _
  rw [PySem.W.dataLt_int, PySem.W.not_lt_int]
abbrev sortI (is : List Int) : List Int := is.mergeSort fun a b => decide (a ≤ b)
theorem good_int (i : Int) : (D.int i).good = true := by rfl
theorem ints_all (p : D → Bool) : ∀ is : List Int, (∀ i, p (.int i) = true) → (is.map D.int).all p = true
  | [], _ => rfl
  | i :: is, h => by simp [h]
theorem alikes_ints (is : List Int) : D.alikes (is.map D.int) = true := by
  unfold D.alikes
  exact ints_all _ is fun i => ints_all _ is fun j => by rfl
theorem sort_ints (is : List Int) (hl : is.length ≤ LIM) : sortD (is.map D.int) = some ((sortI is).map D.int) := by
  have h1 : (is.map D.int).all D.good = true := ints_all _ is good_int
  have h2 : (is.map D.int).all D.isNT = true := ints_all _ is fun _ => rfl
  have h3 : decide ((is.map D.int).length ≤ LIM) = true := by simpa using hl
  rw [sortD_ms]
  rw [h1, h2, h3, alikes_ints]
  simp only [Bool.or_true, Bool.and_true, if_true]
  rw [show (sortI is).map D.int = (is.map D.int).mergeSort (PySem.W.dataLe false D.py) from List.map_mergeSort fun a _ b _ => (le_ints a b).symm]
theorem sortI_pw (is : List Int) : (sortI is).Pairwise fun a b => a ≤ b := by
  have := List.pairwise_mergeSort (le := fun a b : Int => decide (a ≤ b)) (fun a b c h1 h2 => by simp at *; omega) (fun a b => by simp; omega) is
  simpa using this
theorem sortI_self {is : List Int} (h : is.Pairwise fun a b => a ≤ b) : sortI is = is := List.mergeSort_of_pairwise (by simpa using h)
theorem sortI_len (is : List Int) : (sortI is).length = is.length := (List.mergeSort_perm is _).length_eq
theorem sortI_mem {is : List Int} {i : Int} : i ∈ sortI is ↔ i ∈ is := (List.mergeSort_perm is _).mem_iff
theorem adj_pw : ∀ {is : List Int}, adj (is.map D.int) = true ↔ is.Pairwise fun a b => a ≤ b
  | [] => by simp [adj]
  | [a] => by simp [adj]
  | a :: b :: r => by
    have ih := adj_pw (is := b :: r)
    simp only [List.map_cons] at ih
    simp only [List.map_cons, adj, Bool.and_eq_true, decide_eq_true_eq]
    rw [ih, List.pairwise_cons (a := a) (l := b :: r)]
    constructor
    · rintro ⟨h1, h2⟩
      refine ⟨fun x hx => ?_, h2⟩
      rcases List.mem_cons.mp hx with rfl | hx
      · exact h1
      · have := (List.pairwise_cons.mp h2).1 x hx
        omega
    · rintro ⟨h1, h2⟩
      exact ⟨h1 b List.mem_cons_self, h2⟩
theorem eqv_ints : ∀ as bs : List Int, D.eqvL (as.map D.int) (bs.map D.int) = decide (as = bs)
  | [], [] => rfl
  | [], _ :: _ => by simp [D.eqvL]
  | _ :: _, [] => by simp [D.eqvL]
  | a :: as, b :: bs => by
    simp only [List.map_cons, D.eqvL, D.eqv, eqv_ints as bs]
    by_cases h1 : a = b <;> by_cases h2 : as = bs <;> simp [h1, h2]
theorem good_ints (is : List Int) : (D.lst (is.map D.int)).good = true := by
  have h1 : ∀ is : List Int, D.plainL (is.map D.int) = true := fun is => by
    induction is with
    | nil => rfl
    | cons i is ih => simp [D.plainL, D.plain, ih]
  have h2 : ∀ is : List Int, D.depL (is.map D.int) = 0 := fun is => by
    induction is with
    | nil => rfl
    | cons i is ih => simp [D.depL, D.dep, ih]
  simp [D.good, D.plain, h1, D.dep, h2]
theorem sort_adj (is : List Int) : decide (is = sortI is) = adj (is.map D.int) := by
  cases h : adj (is.map D.int) with
  | true => rw [sortI_self (adj_pw.mp h)]; simp
  | false =>
    rw [decide_eq_false_iff_not]
    intro e
    have := sortI_pw is
    rw [← e] at this
    rw [adj_pw.mpr this] at h
    cases h

/-! ### values of a depth -/
def Vd (n m : Nat) (d : D) : Prop := d.plain = true ∧ d.dep ≤ n ∧ True
theorem depL_mem : ∀ {ds : List D} {d : D}, d ∈ ds → d.dep ≤ D.depL ds
  | [], _, h => by cases h
  | e :: ds, d, h => by
    simp only [D.depL]
    rcases List.mem_cons.mp h with rfl | h
    · exact Nat.le_max_left _ _
    · exact Nat.le_trans (depL_mem h) (Nat.le_max_right _ _)
theorem depL_le {n : Nat} : ∀ {ds : List D}, (∀ d ∈ ds, d.dep ≤ n) → D.depL ds ≤ n
  | [], _ => Nat.zero_le _
  | e :: ds, h => by
    simp only [D.depL]
    exact Nat.max_le.mpr ⟨h e List.mem_cons_self, depL_le fun d hd => h d (List.mem_cons_of_mem _ hd)⟩
theorem plainL_of : ∀ {ds : List D}, (∀ d ∈ ds, d.plain = true) → D.plainL ds = true
  | [], _ => rfl
  | e :: ds, h => by
    simp only [D.plainL, Bool.and_eq_true]
    exact ⟨h e List.mem_cons_self, plainL_of fun d hd => h d (List.mem_cons_of_mem _ hd)⟩
theorem good_of {d : D} (h1 : d.plain = true) (h2 : d.dep ≤ 60) : d.good = true := by simp [D.good, h1, h2]
theorem good_filter {ds : List D} (p : D → Bool) (h1 : D.plainL ds = true) (h2 : D.depL ds ≤ 50) : (D.lst (ds.filter p)).good = true := by
  refine good_of ?_ ?_
  · simp only [D.plain]
    exact plainL_of fun d hd => plainL_mem h1 (List.mem_filter.mp hd).1
  · simp only [D.dep]
    have : D.depL (ds.filter p) ≤ 50 := depL_le fun d hd => Nat.le_trans (depL_mem (List.mem_filter.mp hd).1) h2
    omega
theorem good_nil : (D.lst []).good = true := by rfl
theorem eqv_nil (ds : List D) : D.eqvL ds [] = ds.isEmpty := by
  cases ds <;> simp [D.eqvL]
theorem filter_none (p : D → Bool) (ds : List D) : (ds.filter fun d => !p d).isEmpty = ds.all p := by
  induction ds with
  | nil => rfl
  | cons d ds ih => cases e : p d <;> simp [e, ih]
theorem frm_ints {lo hi : Int} : ∀ {ds : List D}, ds.all (fun d => frm d lo hi) = true → ∃ is : List Int, ds = is.map D.int
  | [], _ => ⟨[], rfl⟩
  | d :: ds, h => by
    simp only [List.all_cons, Bool.and_eq_true] at h
    obtain ⟨i, rfl, _⟩ := frm_int h.1
    obtain ⟨is, rfl⟩ := frm_ints h.2
    exact ⟨i :: is, rfl⟩

def isStr : D → Bool
  | .str _ => true
  | _ => false
/-! ### the draws -/
def SDraw (c : List AV → CRes) : Prop := ∀ a b m : Int, 0 < m → m < 1073741824 → 0 ≤ b → b < 2147483648 → ∃ r a' b', c [.io (.lst [.int a, .int b]), .val (.int m)] = .ok (.int r, false) [.lst [.int a', .int b']] ∧ 0 ≤ r ∧ r < m ∧ 0 ≤ b' ∧ b' < 2147483648
theorem draw_s (Γ : Ctr) : SDraw (conD Γ FU 2 4 b_law_draw) := by
  intro a b m h1 h2 h3 h4
  by_cases ha : 0 < a
  · refine ⟨a % m, a / m, b, ?_, Int.emod_nonneg _ (by omega), Int.emod_lt_of_pos _ h1, h3, h4⟩
    simp [b_law_draw, LIM, Function.comp_def, conD, runD, evalSs, evalS, evalE, evalL, evalA, evalAnd, evalOr, evalI, evalJ, evalH, seqR, seqD, isSeqE, partR, partD, entry, iosAt, setS, parS, gather, iosOf, callR, putIos, binD, cmpD, ixD, atI, ixN, slD, isiD, D.ty, boolsOf, bindT, bindTs, wipeE, plainAt, backE, lend, Env.hide, SV.hide, SV.isOwn, SV.dat, SV.put, ownAt, shutE, ixD', compF, ofO, R.bind, R.bindB, R.toS, R.toSB, RS.bind, bq_len, bq_abs, bq_min, bq_max, bq_int, bq_all, bq_sorted, bq_list, bq_tuple, bLen, bAbs, bMin, bMax, bInt, bAll, bSorted, bList, bTuple, ha, h1, h2, D.hard]
  · have e1 : (0 : Int) ≤ (b * 48271 + 83) % 2147483237 := Int.emod_nonneg _ (by decide)
    have e2 : (b * 48271 + 83) % 2147483237 < 2147483237 := Int.emod_lt_of_pos _ (by decide)
    generalize hb : (b * 48271 + 83) % 2147483237 = b2 at e1 e2
    refine ⟨(b2 * (b2 / 41 + 26) % 2147483179 / 32) % m, a, b2, ?_, Int.emod_nonneg _ (by omega), Int.emod_lt_of_pos _ h1, e1, by omega⟩
    have e3 : -18446744073709551616 < b2 ∧ b2 < 18446744073709551616 := by omega
    simp [b_law_draw, LIM, Function.comp_def, conD, runD, evalSs, evalS, evalE, evalL, evalA, evalAnd, evalOr, evalI, evalJ, evalH, seqR, seqD, isSeqE, partR, partD, entry, iosAt, setS, parS, gather, iosOf, callR, putIos, binD, cmpD, ixD, atI, ixN, slD, isiD, D.ty, boolsOf, bindT, bindTs, wipeE, plainAt, backE, lend, Env.hide, SV.hide, SV.isOwn, SV.dat, SV.put, ownAt, shutE, ixD', compF, ofO, R.bind, R.bindB, R.toS, R.toSB, RS.bind, bq_len, bq_abs, bq_min, bq_max, bq_int, bq_all, bq_sorted, bq_list, bq_tuple, bLen, bAbs, bMin, bMax, bInt, bAll, bSorted, bList, bTuple, ha, h1, h2, D.hard, hb, e3]
theorem comp_inv {Γ : Ctr} {ρ ρ1 : Env} {vs : List Nat} {elt src cond : E} {tg : Tg} {ds : List D} (I : Env → Prop) (J : D → Prop) (hs : evalI Γ src ρ = .ok ds ρ1) (hp : plainAt ρ1 vs = true) (h0 : I ρ1) (h : ∀ d ∈ ds, ∀ ρ, I ρ → ∃ y ρ', compF (evalE Γ cond) (evalE Γ elt) tg vs d ρ = .ok (some y) ρ' ∧ J y ∧ I ρ') (hl : ds.length ≤ LIM) :
    ∃ ys ρ', evalE Γ (.comp vs elt tg src cond) ρ = .ok (.lst ys, true) ρ' ∧ ys.length = ds.length ∧ (∀ y ∈ ys, J y) ∧ I ρ' := by
  obtain ⟨ys, ρ', e1, e2, e3, e4⟩ := compL_inv I J (ds := ds) (acc := []) h0 (fun y hy => by cases hy) h (by simpa using hl)
  refine ⟨ys, ρ', ?_, by simpa using e2, e3, e4⟩
  rw [evalE_comp, hs]
  show (if plainAt ρ1 vs = true then _ else _) = _
  rw [if_pos hp, e1]
  rfl
mutual
def D.wid : D → Nat
  | .tup ds => max ds.length (D.widL ds)
  | .lst ds => max ds.length (D.widL ds)
  | _ => 0
def D.widL : List D → Nat
  | [] => 0
  | d :: ds => max d.wid (D.widL ds)
end
theorem widL_mem : ∀ {ds : List D} {d : D}, d ∈ ds → d.wid ≤ D.widL ds
  | [], _, h => by cases h
  | e :: ds, d, h => by
    simp only [D.widL]
    rcases List.mem_cons.mp h with rfl | h
    · exact Nat.le_max_left _ _
    · exact Nat.le_trans (widL_mem h) (Nat.le_max_right _ _)
theorem widL_le {n : Nat} : ∀ {ds : List D}, (∀ d ∈ ds, d.wid ≤ n) → D.widL ds ≤ n
  | [], _ => Nat.zero_le _
  | e :: ds, h => by
    simp only [D.widL]
    exact Nat.max_le.mpr ⟨h e List.mem_cons_self, widL_le fun d hd => h d (List.mem_cons_of_mem _ hd)⟩
/-- a plain value of bounded depth and width -/
structure Pd (n m : Nat) (d : D) : Prop where
  pl : d.plain = true
  dp : d.dep ≤ n
  wd : d.wid ≤ m
theorem Pd.mono {n m n' m' : Nat} {d : D} (p : Pd n m d) (h1 : n ≤ n') (h2 : m ≤ m') : Pd n' m' d := ⟨p.pl, Nat.le_trans p.dp h1, Nat.le_trans p.wd h2⟩
theorem Pd.tup {n m : Nat} {ds : List D} (hl : ds.length ≤ m) (h : ∀ d ∈ ds, Pd n m d) : Pd (n + 1) m (.tup ds) :=
  ⟨by simp only [D.plain]; exact plainL_of fun d hd => (h d hd).pl, by simp only [D.dep]; exact Nat.succ_le_succ (depL_le fun d hd => (h d hd).dp), by simp only [D.wid]; exact Nat.max_le.mpr ⟨hl, widL_le fun d hd => (h d hd).wd⟩⟩
theorem Pd.item {n m : Nat} {ds : List D} (p : Pd (n + 1) m (.tup ds)) : ds.length ≤ m ∧ ∀ d ∈ ds, Pd n m d := by
  have h1 := p.pl
  have h2 := p.dp
  have h3 := p.wd
  simp only [D.plain] at h1
  simp only [D.dep] at h2
  simp only [D.wid] at h3
  exact ⟨Nat.le_trans (Nat.le_max_left _ _) h3, fun d hd => ⟨plainL_mem h1 hd, Nat.le_trans (depL_mem hd) (by omega), Nat.le_trans (widL_mem hd) (Nat.le_trans (Nat.le_max_right _ _) h3)⟩⟩
theorem cut_take {ds : List D} {r : Int} (h : 0 ≤ r) : cutD ds none (some r) = ds.take r.toNat := by
  unfold cutD
  rw [HT.sIx_none, show HT.sIx ds.length ds.length (some r) = min r.toNat ds.length from if_neg (by omega)]
  rw [List.drop_zero, Nat.sub_zero]
  by_cases hr : r.toNat ≤ ds.length
  · rw [Nat.min_eq_left hr]
  · rw [Nat.min_eq_right (by omega), List.take_of_length_le (Nat.le_refl _), List.take_of_length_le (by omega)]
theorem cut_drop {ds : List D} {r : Int} (h : 0 ≤ r) : cutD ds (some r) none = ds.drop r.toNat := by
  unfold cutD
  rw [HT.sIx_none, show HT.sIx ds.length 0 (some r) = min r.toNat ds.length from if_neg (by omega)]
  by_cases hr : r.toNat ≤ ds.length
  · rw [Nat.min_eq_left hr, List.take_of_length_le (by simp)]
  · rw [Nat.min_eq_right (by omega), List.drop_of_length_le (by omega : ds.length ≤ r.toNat)]
    simp

/-! ### choice -/
def SChoice (c : List AV → CRes) : Prop := ∀ (a b : Int) (ds : List D), ds ≠ [] → ds.length ≤ LIM → 0 ≤ b → b < 2147483648 → ∃ d a' b', c [.io (.lst [.int a, .int b]), .val (.lst ds)] = .ok (d, false) [.lst [.int a', .int b']] ∧ d ∈ ds ∧ 0 ≤ b' ∧ b' < 2147483648
theorem choice_s (Γ : Ctr) (c : List AV → CRes) (h : Γ.fn "_law_draw" = some c) (s : SDraw c) : SChoice (conD Γ FU 2 2 b_law_choice) := by
  intro a b ds hn hl hb1 hb2
  have hl' : 0 < ds.length := List.length_pos_iff.mpr hn
  have hl2 : ds.length ≤ 100000 := hl
  obtain ⟨r, a', b', e, r1, r2, k1, k2⟩ := s a b ds.length (by omega) (by omega) hb1 hb2
  have hr : r.toNat < ds.length := by omega
  refine ⟨ds[r.toNat], a', b', ?_, List.getElem_mem hr, k1, k2⟩
  have e2 : ds[r.toNat]? = some ds[r.toNat] := List.getElem?_eq_getElem hr
  simp [b_law_choice, LIM, Function.comp_def, conD, runD, evalSs, evalS, evalE, evalL, evalA, evalAnd, evalOr, evalI, evalJ, evalH, seqR, seqD, isSeqE, partR, partD, entry, iosAt, setS, parS, gather, iosOf, callR, putIos, binD, cmpD, ixD, atI, ixN, slD, isiD, D.ty, boolsOf, bindT, bindTs, wipeE, plainAt, backE, lend, Env.hide, SV.hide, SV.isOwn, SV.dat, SV.put, ownAt, shutE, ixD', compF, ofO, R.bind, R.bindB, R.toS, R.toSB, RS.bind, bq_len, bq_abs, bq_min, bq_max, bq_int, bq_all, bq_sorted, bq_list, bq_tuple, bLen, bAbs, bMin, bMax, bInt, bAll, bSorted, bList, bTuple, h, e, r1, r2, e2]

/-! ### halls -/
def SMade (c : List AV → CRes) : Prop := ∀ a b : Int, 0 ≤ b → b < 2147483648 → ∃ d a' b', c [.io (.lst [.int a, .int b]), .val (.int 4)] = .ok (d, false) [.lst [.int a', .int b']] ∧ isHall d = true ∧ Pd 2 5 d ∧ 0 ≤ b' ∧ b' < 2147483648
theorem ints_of {p : Int → Prop} : ∀ {ds : List D}, (∀ d ∈ ds, ∃ i, d = .int i ∧ p i) → ∃ is : List Int, ds = is.map D.int ∧ ∀ i ∈ is, p i
  | [], _ => ⟨[], rfl, fun _ h => by cases h⟩
  | d :: ds, h => by
    obtain ⟨i, rfl, hi⟩ := h d List.mem_cons_self
    obtain ⟨is, rfl, his⟩ := ints_of fun e he => h e (List.mem_cons_of_mem _ he)
    refine ⟨i :: is, rfl, fun j hj => ?_⟩
    rcases List.mem_cons.mp hj with rfl | hj
    · exact hi
    · exact his j hj
theorem Pd.int (n m : Nat) (i : Int) : Pd n m (.int i) := ⟨rfl, Nat.zero_le _, Nat.zero_le _⟩
theorem Pd.str' (n m : Nat) {x : Str} (h : PyData.strOk x = true) : Pd n m (.str x) := ⟨h, Nat.zero_le _, Nat.zero_le _⟩
theorem Pd.non' (n m : Nat) : Pd n m .non := ⟨rfl, Nat.zero_le _, Nat.zero_le _⟩
theorem all_frm {is : List Int} {top : Int} (h : ∀ i ∈ is, 0 ≤ i ∧ i ≤ top) : (is.map D.int).all (fun w => frm w 0 top) = true := by
  rw [List.all_eq_true]
  intro d hd
  obtain ⟨i, hi, rfl⟩ := List.mem_map.mp hd
  obtain ⟨h1, h2⟩ := h i hi
  simp [frm, h1, h2]
theorem made_s (Γ : Ctr) (c1 c2 : List AV → CRes) (h1 : Γ.fn "_law_draw" = some c1) (h2 : Γ.fn "_law_choice" = some c2) (s1 : SDraw c1) (s2 : SChoice c2) : SMade (conD Γ FU 2 7 b_law_hall) := by
  intro a b hb1 hb2
  obtain ⟨t, a1, b1, e1, t0, t4, p1, q1⟩ := s1 a b 4 (by decide) (by decide) hb1 hb2
  obtain ⟨n, a2, b2, e2, n0, n3, p2, q2⟩ := s1 a1 b1 3 (by decide) (by decide) p1 q1
  obtain ⟨ys, ρ', e3, hlen, hJ, a3, b3, rfl, p3, q3⟩ := comp_inv (Γ := Γ) (ρ := [.io (.lst [.int a1, .int b1]), .val (.int 4), .no, .no, .val (.int (1 + t)), .no, .no]) (ρ1 := [.io (.lst [.int a2, .int b2]), .val (.int 4), .no, .no, .val (.int (1 + t)), .no, .no])
    (vs := [5]) (elt := .call "_law_draw" [(.io 0), (.bin .Add (.var 4) (.cst (.int 1)))]) (tg := .nm 5) (src := .rng1 (.bin .Add (.cst (.int 1)) (.call "_law_draw" [(.io 0), (.cst (.int 3))]))) (cond := .cst (.bl true)) (ds := rangeD 0 (1 + n).toNat)
    (fun ρ => ∃ a3 b3, ρ = [.io (.lst [.int a3, .int b3]), .val (.int 4), .no, .no, .val (.int (1 + t)), .no, .no] ∧ 0 ≤ b3 ∧ b3 < 2147483648) (fun y => ∃ i, y = .int i ∧ 0 ≤ i ∧ i ≤ 1 + t)
    (by
      have z : -4611686018427387904 ≤ 1 + n ∧ 1 + n < 4611686018427387904 := by omega
      simp [LIM, Function.comp_def, conD, runD, evalSs, evalS, evalE, evalL, evalA, evalAnd, evalOr, evalI, evalJ, evalH, seqR, seqD, isSeqE, partR, partD, entry, iosAt, setS, parS, gather, iosOf, callR, putIos, binD, cmpD, ixD, atI, ixN, slD, isiD, D.ty, boolsOf, bindT, bindTs, wipeE, plainAt, backE, lend, Env.hide, SV.hide, SV.isOwn, SV.dat, SV.put, ownAt, shutE, ixD', compF, ofO, R.bind, R.bindB, R.toS, R.toSB, RS.bind, bq_len, bq_abs, bq_min, bq_max, bq_int, bq_all, bq_sorted, bq_list, bq_tuple, bLen, bAbs, bMin, bMax, bInt, bAll, bSorted, bList, bTuple, h1, e2, z]) (by rfl) ⟨a2, b2, rfl, p2, q2⟩ (by
      rintro d hd ρ ⟨a3, b3, rfl, p3, q3⟩
      obtain ⟨r, a4, b4, e4, r0, r1, p4, q4⟩ := s1 a3 b3 (1 + t + 1) (by omega) (by omega) p3 q3
      refine ⟨.int r, [.io (.lst [.int a4, .int b4]), .val (.int 4), .no, .no, .val (.int (1 + t)), .no, .no], ?_, ⟨r, rfl, r0, by omega⟩, ⟨a4, b4, rfl, p4, q4⟩⟩
      simp [LIM, Function.comp_def, conD, runD, evalSs, evalS, evalE, evalL, evalA, evalAnd, evalOr, evalI, evalJ, evalH, seqR, seqD, isSeqE, partR, partD, entry, iosAt, setS, parS, gather, iosOf, callR, putIos, binD, cmpD, ixD, atI, ixN, slD, isiD, D.ty, boolsOf, bindT, bindTs, wipeE, plainAt, backE, lend, Env.hide, SV.hide, SV.isOwn, SV.dat, SV.put, ownAt, shutE, ixD', compF, ofO, R.bind, R.bindB, R.toS, R.toSB, RS.bind, bq_len, bq_abs, bq_min, bq_max, bq_int, bq_all, bq_sorted, bq_list, bq_tuple, bLen, bAbs, bMin, bMax, bInt, bAll, bSorted, bList, bTuple, h1, e4]) (by simp [rangeD, LIM]; omega)
  obtain ⟨is, rfl, hi⟩ := ints_of hJ
  have hlen' : is.length = (1 + n).toNat := by simpa [rangeD] using hlen
  have hs := sort_ints is (by unfold LIM; omega)
  obtain ⟨f, a4, b4, e4, hf, p4, q4⟩ := s2 a3 b3 [.str "narrow", .str "wide"] (by simp) (by decide) p3 q3
  obtain ⟨o, a5, b5, e5, ho, p5, q5⟩ := s2 a4 b4 [.str "first", .str "last", .str "near"] (by simp) (by decide) p4 q4
  obtain ⟨p, a6, b6, e6, hp, p6, q6⟩ := s2 a5 b5 [.non, .non, .int 1, .int 2, .int 3] (by simp) (by decide) p5 q5
  refine ⟨.tup [.int (1 + t), .tup ((sortI is).map D.int), f, o, p], a6, b6, ?_, ?_, ?_, p6, q6⟩
  · simp [↓e3, b_law_hall, LIM, Function.comp_def, conD, runD, evalSs, evalS, evalE, evalL, evalA, evalAnd, evalOr, evalI, evalJ, evalH, seqR, seqD, isSeqE, partR, partD, entry, iosAt, setS, parS, gather, iosOf, callR, putIos, binD, cmpD, ixD, atI, ixN, slD, isiD, D.ty, boolsOf, bindT, bindTs, wipeE, plainAt, backE, lend, Env.hide, SV.hide, SV.isOwn, SV.dat, SV.put, ownAt, shutE, ixD', compF, ofO, R.bind, R.bindB, R.toS, R.toSB, RS.bind, bq_len, bq_abs, bq_min, bq_max, bq_int, bq_all, bq_sorted, bq_list, bq_tuple, bLen, bAbs, bMin, bMax, bInt, bAll, bSorted, bList, bTuple, h1, h2, e1, hs, e4, e5, e6]
  · have hw : wids (.tup ((sortI is).map D.int)) (1 + t) = true := by
      have m1 : adj ((sortI is).map D.int) = true := adj_pw.mpr (sortI_pw is)
      have m2 := all_frm (is := sortI is) (top := 1 + t) fun i hi' => hi i (sortI_mem.mp hi')
      have m3 : 1 ≤ is.length ∧ is.length ≤ 3 := by omega
      simp [wids, sortI_len, m1, m3]
      simpa using m2
    have m0 : (1 : Int) ≤ 1 + t ∧ 1 + t ≤ 4 := by omega
    simp only [List.mem_cons, List.mem_nil_iff, or_false] at hf ho hp
    have f1 : oneOf f ["narrow", "wide"] = true := by rcases hf with rfl | rfl <;> decide +kernel
    have f2 : oneOf o ["first", "last", "near"] = true := by rcases ho with rfl | rfl | rfl <;> decide +kernel
    have f3 : (p.isN || frm p 1 4) = true := by rcases hp with rfl | rfl | rfl | rfl | rfl <;> rfl
    simp [isHall, hw, f1, f2, m0, frm]
    simpa [frm] using f3
  · simp only [List.mem_cons, List.mem_nil_iff, or_false] at hf ho hp
    refine Pd.tup (by simp) fun d hd => ?_
    simp only [List.mem_cons, List.mem_nil_iff, or_false] at hd
    rcases hd with rfl | rfl | rfl | rfl | rfl
    · exact .int _ _ _
    · refine Pd.tup (by simp [sortI_len]; omega) fun d hd => ?_
      obtain ⟨i, _, rfl⟩ := List.mem_map.mp hd
      exact .int _ _ _
    · rcases hf with rfl | rfl <;> exact .str' _ _ (by decide +kernel)
    · rcases ho with rfl | rfl | rfl <;> exact .str' _ _ (by decide +kernel)
    · rcases hp with rfl | rfl | rfl | rfl | rfl <;> first | exact .non' _ _ | exact .int _ _ _

/-! ### rows -/
def SMadeRow (c : List AV → CRes) : Prop := ∀ a b top m : Int, 1 ≤ top → top ≤ 4 → 0 ≤ m → m ≤ 60 → 0 ≤ b → b < 2147483648 → ∃ d a' b', c [.io (.lst [.int a, .int b]), .val (.int top), .val (.int m)] = .ok (d, false) [.lst [.int a', .int b']] ∧ isRow top d = true ∧ Pd 1 60 d ∧ 0 ≤ b' ∧ b' < 2147483648
theorem range_mem {n : Nat} {d : D} (h : d ∈ rangeD 0 n) : ∃ i : Nat, i < n ∧ d = .int i := by
  unfold rangeD at h
  obtain ⟨i, hi, rfl⟩ := List.mem_map.mp h
  exact ⟨i, List.mem_range.mp hi, by simp⟩
theorem madeRow_s (Γ : Ctr) (c1 c2 : List AV → CRes) (h1 : Γ.fn "_law_draw" = some c1) (h2 : Γ.fn "_law_choice" = some c2) (s1 : SDraw c1) (s2 : SChoice c2) : SMadeRow (conD Γ FU 3 5 b_law_row) := by
  intro a b top m t1 t4 m0 m60 hb1 hb2
  obtain ⟨n, a2, b2, e2, n0, n3, p2, q2⟩ := s1 a b (m + 1) (by omega) (by omega) hb1 hb2
  obtain ⟨ws, hws⟩ : ∃ ws, ws = D.non :: ((rangeD 0 (top + 1).toNat) ++ (rangeD 0 (top + 1).toNat)) := ⟨_, rfl⟩
  have hwl : ws.length ≤ 11 := by rw [hws]; simp [rangeD]; omega
  have hwm : ∀ d ∈ ws, d = .non ∨ ∃ i : Int, d = .int i ∧ 0 ≤ i ∧ i ≤ top := by
    intro d hd
    rw [hws] at hd
    rcases List.mem_cons.mp hd with rfl | hd
    · exact .inl rfl
    · have : d ∈ rangeD 0 (top + 1).toNat := (List.mem_append.mp hd).elim id id
      obtain ⟨i, hi, rfl⟩ := range_mem this
      exact .inr ⟨i, rfl, by omega, by omega⟩
  obtain ⟨ys, ρ', e3, hlen, hJ, a3, b3, rfl, p3, q3⟩ := comp_inv (Γ := Γ) (ρ := [.io (.lst [.int a, .int b]), .val (.int top), .val (.int m), .val (.lst ws), .no]) (ρ1 := [.io (.lst [.int a2, .int b2]), .val (.int top), .val (.int m), .val (.lst ws), .no])
    (vs := [4]) (elt := .call "_law_choice" [(.io 0), (.var 3)]) (tg := .nm 4) (src := .rng1 (.call "_law_draw" [(.io 0), (.bin .Add (.var 2) (.cst (.int 1)))])) (cond := .cst (.bl true)) (ds := rangeD 0 n.toNat)
    (fun ρ => ∃ a3 b3, ρ = [.io (.lst [.int a3, .int b3]), .val (.int top), .val (.int m), .val (.lst ws), .no] ∧ 0 ≤ b3 ∧ b3 < 2147483648) (fun y => y ∈ ws)
    (by
      have z : -4611686018427387904 ≤ n ∧ n < 4611686018427387904 := by omega
      simp [LIM, Function.comp_def, conD, runD, evalSs, evalS, evalE, evalL, evalA, evalAnd, evalOr, evalI, evalJ, evalH, seqR, seqD, isSeqE, partR, partD, entry, iosAt, setS, parS, gather, iosOf, callR, putIos, binD, cmpD, ixD, atI, ixN, slD, isiD, D.ty, boolsOf, bindT, bindTs, wipeE, plainAt, backE, lend, Env.hide, SV.hide, SV.isOwn, SV.dat, SV.put, ownAt, shutE, ixD', compF, ofO, R.bind, R.bindB, R.toS, R.toSB, RS.bind, bq_len, bq_abs, bq_min, bq_max, bq_int, bq_all, bq_sorted, bq_list, bq_tuple, bLen, bAbs, bMin, bMax, bInt, bAll, bSorted, bList, bTuple, h1, e2, z]) (by rfl) ⟨a2, b2, rfl, p2, q2⟩ (by
      rintro d hd ρ ⟨a3, b3, rfl, p3, q3⟩
      obtain ⟨y, a4, b4, e4, hy, p4, q4⟩ := s2 a3 b3 ws (by rw [hws]; simp) (by unfold LIM; omega) p3 q3
      refine ⟨y, [.io (.lst [.int a4, .int b4]), .val (.int top), .val (.int m), .val (.lst ws), .no], ?_, hy, ⟨a4, b4, rfl, p4, q4⟩⟩
      simp [LIM, Function.comp_def, conD, runD, evalSs, evalS, evalE, evalL, evalA, evalAnd, evalOr, evalI, evalJ, evalH, seqR, seqD, isSeqE, partR, partD, entry, iosAt, setS, parS, gather, iosOf, callR, putIos, binD, cmpD, ixD, atI, ixN, slD, isiD, D.ty, boolsOf, bindT, bindTs, wipeE, plainAt, backE, lend, Env.hide, SV.hide, SV.isOwn, SV.dat, SV.put, ownAt, shutE, ixD', compF, ofO, R.bind, R.bindB, R.toS, R.toSB, RS.bind, bq_len, bq_abs, bq_min, bq_max, bq_int, bq_all, bq_sorted, bq_list, bq_tuple, bLen, bAbs, bMin, bMax, bInt, bAll, bSorted, bList, bTuple, h2, e4]) (by simp [rangeD, LIM]; omega)
  have hlen' : ys.length = n.toNat := by simpa [rangeD] using hlen
  refine ⟨.tup ys, a3, b3, ?_, ?_, ?_, p3, q3⟩
  · have z : -4611686018427387904 ≤ top + 1 ∧ top + 1 < 4611686018427387904 := by omega
    have z2 : (top + 1).toNat ≤ 100000 := by omega
    have z3 : (top + 1).toNat ≤ 100 := by omega
    have rl : (rangeD 0 (top + 1).toNat).length = (top + 1).toNat := by simp [rangeD]
    have fl : (List.replicate 2 (rangeD 0 (top + 1).toNat)).flatten = rangeD 0 (top + 1).toNat ++ rangeD 0 (top + 1).toNat := by simp [List.replicate]
    have z4 : (top + 1).toNat + (top + 1).toNat ≤ 100000 := by omega
    generalize hr : rangeD 0 (top + 1).toNat = rs at *
    have es : D.non :: (rs ++ rs) = ws := hws.symm
    simp [↓e3, b_law_row, LIM, Function.comp_def, conD, runD, evalSs, evalS, evalE, evalL, evalA, evalAnd, evalOr, evalI, evalJ, evalH, seqR, seqD, isSeqE, partR, partD, entry, iosAt, setS, parS, gather, iosOf, callR, putIos, binD, cmpD, ixD, atI, ixN, slD, isiD, D.ty, boolsOf, bindT, bindTs, wipeE, plainAt, backE, lend, Env.hide, SV.hide, SV.isOwn, SV.dat, SV.put, ownAt, shutE, ixD', compF, ofO, R.bind, R.bindB, R.toS, R.toSB, RS.bind, bq_len, bq_abs, bq_min, bq_max, bq_int, bq_all, bq_sorted, bq_list, bq_tuple, bLen, bAbs, bMin, bMax, bInt, bAll, bSorted, bList, bTuple, hr, rl, z, z2, z3, z4, fl, es]
  · have z : ys.length ≤ 60 := by omega
    simp only [isRow, z, decide_true, Bool.true_and, List.all_eq_true]
    intro d hd
    rcases hwm d (hJ d hd) with rfl | ⟨i, rfl, h1, h2⟩
    · rfl
    · simp [frm, h1, h2]
  · refine Pd.tup (by omega) fun d hd => ?_
    rcases hwm d (hJ d hd) with rfl | ⟨i, rfl, h1, h2⟩
    · exact .non' _ _
    · exact .int _ _ _
def SSource (c : List AV → CRes) : Prop := ∀ (ns : List Int) (k : Int), 0 ≤ k → ∃ a b, c [.val (.frz (ns.map D.int)), .val (.int k)] = .ok (.lst [.int a, .int b], true) [] ∧ 0 ≤ b ∧ b < 2147483648
theorem source_s (Γ : Ctr) : SSource (conD Γ FU 2 3 b_law_source) := by
  intro ns k hk
  have fin : ∀ v : Int, 0 ≤ (v * 16807 + 10061 * k + 83) % 2147483237 ∧ (v * 16807 + 10061 * k + 83) % 2147483237 < 2147483648 := fun v => ⟨Int.emod_nonneg _ (by decide), by have := Int.emod_lt_of_pos (v * 16807 + 10061 * k + 83) (show (0 : Int) < 2147483237 by decide); omega⟩
  by_cases hl : k < ns.length
  · have hx : k.toNat < ns.length := by omega
    have ex : ns[k.toNat]? = some ns[k.toNat] := List.getElem?_eq_getElem hx
    obtain ⟨v, hv⟩ : ∃ v : Int, v = if ns[k.toNat] < 0 then -ns[k.toNat] else ns[k.toNat] := ⟨_, rfl⟩
    by_cases hb : 100000000000000000 < v
    · refine ⟨v, (v * 16807 + 10061 * k + 83) % 2147483237, ?_, (fin v).1, (fin v).2⟩
      simp [b_law_source, LIM, Function.comp_def, conD, runD, evalSs, evalS, evalE, evalL, evalA, evalAnd, evalOr, evalI, evalJ, evalH, seqR, seqD, isSeqE, partR, partD, entry, iosAt, setS, parS, gather, iosOf, callR, putIos, binD, cmpD, ixD, atI, ixN, slD, isiD, D.ty, boolsOf, bindT, bindTs, wipeE, plainAt, backE, lend, Env.hide, SV.hide, SV.isOwn, SV.dat, SV.put, ownAt, shutE, ixD', compF, ofO, R.bind, R.bindB, R.toS, R.toSB, RS.bind, bq_len, bq_abs, bq_min, bq_max, bq_int, bq_all, bq_sorted, bq_list, bq_tuple, bLen, bAbs, bMin, bMax, bInt, bAll, bSorted, bList, bTuple, hl, hk, hx, ← hv, hb]
    · refine ⟨0, (v * 16807 + 10061 * k + 83) % 2147483237, ?_, (fin v).1, (fin v).2⟩
      simp [b_law_source, LIM, Function.comp_def, conD, runD, evalSs, evalS, evalE, evalL, evalA, evalAnd, evalOr, evalI, evalJ, evalH, seqR, seqD, isSeqE, partR, partD, entry, iosAt, setS, parS, gather, iosOf, callR, putIos, binD, cmpD, ixD, atI, ixN, slD, isiD, D.ty, boolsOf, bindT, bindTs, wipeE, plainAt, backE, lend, Env.hide, SV.hide, SV.isOwn, SV.dat, SV.put, ownAt, shutE, ixD', compF, ofO, R.bind, R.bindB, R.toS, R.toSB, RS.bind, bq_len, bq_abs, bq_min, bq_max, bq_int, bq_all, bq_sorted, bq_list, bq_tuple, bLen, bAbs, bMin, bMax, bInt, bAll, bSorted, bList, bTuple, hl, hk, hx, ← hv, hb]
  · by_cases hb : 100000000000000000 < 109 * k + 61
    · refine ⟨109 * k + 61, ((109 * k + 61) * 16807 + 10061 * k + 83) % 2147483237, ?_, (fin _).1, (fin _).2⟩
      simp [b_law_source, LIM, Function.comp_def, conD, runD, evalSs, evalS, evalE, evalL, evalA, evalAnd, evalOr, evalI, evalJ, evalH, seqR, seqD, isSeqE, partR, partD, entry, iosAt, setS, parS, gather, iosOf, callR, putIos, binD, cmpD, ixD, atI, ixN, slD, isiD, D.ty, boolsOf, bindT, bindTs, wipeE, plainAt, backE, lend, Env.hide, SV.hide, SV.isOwn, SV.dat, SV.put, ownAt, shutE, ixD', compF, ofO, R.bind, R.bindB, R.toS, R.toSB, RS.bind, bq_len, bq_abs, bq_min, bq_max, bq_int, bq_all, bq_sorted, bq_list, bq_tuple, bLen, bAbs, bMin, bMax, bInt, bAll, bSorted, bList, bTuple, hl, hk, hb]
    · refine ⟨0, ((109 * k + 61) * 16807 + 10061 * k + 83) % 2147483237, ?_, (fin _).1, (fin _).2⟩
      simp [b_law_source, LIM, Function.comp_def, conD, runD, evalSs, evalS, evalE, evalL, evalA, evalAnd, evalOr, evalI, evalJ, evalH, seqR, seqD, isSeqE, partR, partD, entry, iosAt, setS, parS, gather, iosOf, callR, putIos, binD, cmpD, ixD, atI, ixN, slD, isiD, D.ty, boolsOf, bindT, bindTs, wipeE, plainAt, backE, lend, Env.hide, SV.hide, SV.isOwn, SV.dat, SV.put, ownAt, shutE, ixD', compF, ofO, R.bind, R.bindB, R.toS, R.toSB, RS.bind, bq_len, bq_abs, bq_min, bq_max, bq_int, bq_all, bq_sorted, bq_list, bq_tuple, bLen, bAbs, bMin, bMax, bInt, bAll, bSorted, bList, bTuple, hl, hk, hb]
theorem bindT_ok {i : Nat} {d : D} {ρ : Env} (h : i < ρ.length) (n : ∀ d, ρ[i]? ≠ some (.io d)) : bindT (.nm i) d ρ = some (ρ.set i (.val d)) := by
  simp only [bindT]
  split
  · rename_i e; exact absurd e (n _)
  · rfl
  · rename_i e; rw [List.getElem?_eq_getElem h] at e; cases e
theorem bindT_tp (ts : List Tg) (ds : List D) (ρ : Env) : bindT (.tp ts) (.tup ds) ρ = bindTs ts ds ρ := by simp only [bindT]
def NI (s : SV) : Prop := ∀ d, ¬ s = .io d
theorem ni_val (d : D) : NI (.val d) := fun e z => by cases z
theorem ni_own (d : D) : NI (.own d) := fun e z => by cases z
theorem ni_no : NI .no := fun e z => by cases z
end W2

/-! Halls, those who wait, the pair that is made first: in plain terms. -/
namespace W2
open PySem L2

abbrev P3 := Int × Int × Int
def e3 (p : P3) : D := .tup [.int p.1, .int p.2.1, .int p.2.2]
def absI (i : Int) : Int := if i < 0 then -i else i
structure Hl where
  top : Int
  ws : List Int
  f : Str
  o : Str
  pat : Option Int
def patD : Option Int → D
  | none => .non
  | some i => .int i
def Hl.d (h : Hl) : D := .tup [.int h.top, .tup (h.ws.map D.int), .str h.f, .str h.o, patD h.pat]
structure Hl.Ok (h : Hl) : Prop where
  t1 : 1 ≤ h.top
  t4 : h.top ≤ 4
  w1 : 1 ≤ h.ws.length
  w3 : h.ws.length ≤ 3
  f : h.f = "narrow" ∨ h.f = "wide"
  o : h.o = "first" ∨ h.o = "last" ∨ h.o = "near"
  p : ∀ i, h.pat = some i → 1 ≤ i ∧ i ≤ 4
theorem oneOf2 {d : D} {a b : Str} (h : oneOf d [a, b] = true) : d = .str a ∨ d = .str b := by
  cases d with
  | str x => simp [oneOf] at h; rcases h with h | h <;> simp [h]
  | _ => simp [oneOf] at h
theorem oneOf3 {d : D} {a b c : Str} (h : oneOf d [a, b, c] = true) : d = .str a ∨ d = .str b ∨ d = .str c := by
  cases d with
  | str x => simp [oneOf] at h; rcases h with h | h | h <;> simp [h]
  | _ => simp [oneOf] at h
theorem isHall_elim {d : D} (h : isHall d = true) : ∃ x : Hl, d = x.d ∧ x.Ok := by
  unfold isHall at h
  split at h
  · rename_i t w f o p
    simp only [Bool.and_eq_true] at h
    obtain ⟨⟨⟨⟨h1, h2⟩, h3⟩, h4⟩, h5⟩ := h
    obtain ⟨i, rfl, t1, t4⟩ := frm_int h1
    have h2 : wids w i = true := h2
    unfold wids at h2
    split at h2
    · rename_i ds
      simp only [Bool.and_eq_true, decide_eq_true_eq] at h2
      obtain ⟨w1, w3, hw, _⟩ := h2
      obtain ⟨ws, rfl⟩ := frm_ints hw
      have hf := oneOf2 h3
      have ho := oneOf3 h4
      obtain ⟨pat, rfl, hp⟩ : ∃ pat, p = patD pat ∧ ∀ i, pat = some i → 1 ≤ i ∧ i ≤ 4 := by
        rw [Bool.or_eq_true] at h5
        rcases h5 with h5 | h5
        · cases p <;> first | exact ⟨none, rfl, fun _ z => nomatch z⟩ | cases h5
        · obtain ⟨i, rfl, p1, p2⟩ := frm_int h5
          exact ⟨some i, rfl, fun j z => by cases z; exact ⟨p1, p2⟩⟩
      obtain ⟨fs, rfl, hfs⟩ : ∃ x : Str, f = .str x ∧ (x = "narrow" ∨ x = "wide") := by
        rcases hf with rfl | rfl <;> simp
      obtain ⟨os, rfl, hos⟩ : ∃ x : Str, o = .str x ∧ (x = "first" ∨ x = "last" ∨ x = "near") := by
        rcases ho with rfl | rfl | rfl <;> simp
      exact ⟨⟨i, ws, fs, os, pat⟩, rfl, t1, t4, by simpa using w1, by simpa using w3, hfs, hos, hp⟩
    · cases h2
  · cases h
def Hl.most (h : Hl) : Int :=
  match h.pat with
  | none => (h.ws.length : Int) - 1
  | some i => i
def wtOf (f : Str) (p q : P3) : Int := if f = "wide" then (if p.2.2 < q.2.2 then q.2.2 else p.2.2) else (if q.2.2 < p.2.2 then q.2.2 else p.2.2)
def Hl.win (h : Hl) (w : Int) : Int := h.ws.getD (if (h.ws.length : Int) - 1 < w then (h.ws.length : Int) - 1 else w).toNat 0
def Hl.fit (h : Hl) (p q : P3) : Bool := decide (absI (p.2.1 - q.2.1) ≤ h.win (wtOf h.f p q))

/-! ### pairs -/
abbrev z3 : P3 := (0, 0, 0)
def prsI (fit : P3 → P3 → Bool) (L : List P3) (i : Nat) (m : Nat) : List (Nat × Nat) := ((List.range m).filter fun k => fit (L.getD i z3) (L.getD (i + 1 + k) z3)).map fun k => (i, i + 1 + k)
def prsN (fit : P3 → P3 → Bool) (L : List P3) (n : Nat) : List (Nat × Nat) := (List.range n).flatMap fun i => prsI fit L i (L.length - (i + 1))
abbrev prs (fit : P3 → P3 → Bool) (L : List P3) : List (Nat × Nat) := prsN fit L L.length
theorem prs_mem {fit : P3 → P3 → Bool} {L : List P3} {a : Nat × Nat} (h : a ∈ prs fit L) : a.1 < a.2 ∧ a.2 < L.length := by
  unfold prs prsN prsI at h
  simp only [List.mem_flatMap, List.mem_range, List.mem_map, List.mem_filter] at h
  obtain ⟨i, hi, k, ⟨hk, _⟩, rfl⟩ := h
  exact ⟨by simp; omega, by simp; omega⟩
theorem prsI_len (fit : P3 → P3 → Bool) (L : List P3) (i m : Nat) : (prsI fit L i m).length ≤ m := by
  unfold prsI
  rw [List.length_map]
  exact Nat.le_trans (List.length_filter_le _ _) (by simp)
theorem prsN_len (fit : P3 → P3 → Bool) (L : List P3) : ∀ n, (prsN fit L n).length ≤ n * L.length
  | 0 => by simp [prsN]
  | n + 1 => by
    have ih := prsN_len fit L n
    have h2 := prsI_len fit L n (L.length - (n + 1))
    unfold prsN at ih ⊢
    rw [List.range_succ, List.flatMap_append, List.length_append, Nat.succ_mul]
    simp only [List.flatMap_cons, List.flatMap_nil, List.append_nil]
    omega

/-! ### the least -/
abbrev K3 := Int × Int × Int
def ltK (x y : K3) : Bool := decide (x.1 < y.1 ∨ (x.1 = y.1 ∧ (x.2.1 < y.2.1 ∨ (x.2.1 = y.2.1 ∧ x.2.2 < y.2.2))))
theorem ltK_self (x : K3) : ltK x x = false := by simp [ltK]
theorem ltK_tri {x y : K3} (h1 : ltK x y = false) (h2 : ltK y x = false) : x = y := by
  obtain ⟨a, b, c⟩ := x
  obtain ⟨d, e, f⟩ := y
  simp only [ltK, decide_eq_false_iff_not] at h1 h2
  have : a = d ∧ b = e ∧ c = f := by omega
  obtain ⟨rfl, rfl, rfl⟩ := this
  rfl
theorem ltK_trans {x y z : K3} (h1 : ltK y x = false) (h2 : ltK z y = false) : ltK z x = false := by
  obtain ⟨a, b, c⟩ := x
  obtain ⟨d, e, f⟩ := y
  obtain ⟨g, h, i⟩ := z
  simp only [ltK, decide_eq_false_iff_not] at h1 h2 ⊢
  omega
theorem ltK_total (x y : K3) : ltK x y = false ∨ ltK y x = false := by
  obtain ⟨a, b, c⟩ := x
  obtain ⟨d, e, f⟩ := y
  simp only [ltK, decide_eq_false_iff_not]
  omega
def best {α : Type} (k : α → K3) (a : α) (l : List α) : α := l.foldl (fun a y => if ltK (k y) (k a) then y else a) a
theorem best_mem {α : Type} (k : α → K3) : ∀ (l : List α) (a : α), best k a l ∈ a :: l
  | [], a => by simp [best]
  | b :: l, a => by
    have ih := best_mem k l (if ltK (k b) (k a) then b else a)
    have e : best k a (b :: l) = best k (if ltK (k b) (k a) then b else a) l := rfl
    rw [e]
    rcases List.mem_cons.mp ih with h | h
    · rw [h]; split <;> simp
    · simp [h]
theorem best_le {α : Type} (k : α → K3) : ∀ (l : List α) (a x : α), x ∈ a :: l → ltK (k x) (k (best k a l)) = false
  | [], a, x, h => by
    simp at h; subst h
    exact ltK_self _
  | b :: l, a, x, h => by
    have e : best k a (b :: l) = best k (if ltK (k b) (k a) then b else a) l := rfl
    rw [e]
    have ih := best_le k l (if ltK (k b) (k a) then b else a)
    have i0 := ih _ List.mem_cons_self
    rcases List.mem_cons.mp h with rfl | h
    · cases hb : ltK (k b) (k x) with
      | false => rw [hb] at i0; exact i0
      | true =>
        rw [hb] at i0
        refine ltK_trans i0 ?_
        rcases ltK_total (k b) (k x) with z | z
        · rw [hb] at z; cases z
        · exact z
    · rcases List.mem_cons.mp h with rfl | h
      · cases hb : ltK (k x) (k a) with
        | true => rw [hb] at i0; exact i0
        | false => rw [hb] at i0; exact ltK_trans i0 hb
      · exact ih x (List.mem_cons_of_mem _ h)
theorem sort_best {α : Type} (k : α → K3) (a : α) (l : List α) (inj : ∀ x ∈ a :: l, ∀ y ∈ a :: l, k x = k y → x = y) : ∃ t, (a :: l).mergeSort (fun x y => !ltK (k y) (k x)) = best k a l :: t := by
  have pw := List.pairwise_mergeSort (le := fun x y : α => !ltK (k y) (k x)) (fun a b c h1 h2 => by
    simp only [Bool.not_eq_true'] at h1 h2 ⊢
    exact ltK_trans h1 h2) (fun a b => by
    rcases ltK_total (k a) (k b) with h | h <;> simp [h]) (a :: l)
  have pm := List.mergeSort_perm (a :: l) (fun x y : α => !ltK (k y) (k x))
  cases e : (a :: l).mergeSort (fun x y : α => !ltK (k y) (k x)) with
  | nil => rw [e] at pm; have := pm.length_eq; simp at this
  | cons b t =>
    rw [e] at pw pm
    refine ⟨t, ?_⟩
    have hb : b ∈ a :: l := pm.mem_iff.mp List.mem_cons_self
    have h1 := best_le k l a b hb
    have h2 : ltK (k (best k a l)) (k b) = false := by
      rcases List.mem_cons.mp (pm.mem_iff.mpr (best_mem k l a)) with z | z
      · rw [← z]; exact ltK_self _
      · have := (List.pairwise_cons.mp pw).1 _ z
        simpa using this
    rw [inj b hb _ (best_mem k l a) (ltK_tri h1 h2)]

/-! ### min and max of rows of data -/
theorem bestD_min {α : Type} (g : α → D) (k : α → K3) (h : ∀ x y, PySem.W.dataLt (g x).py (g y).py = ltK (k x) (k y)) : ∀ (l : List α) (a : α), ((l.map g).foldl (fun a y => if (if false = true then PySem.W.dataLt a.py y.py else PySem.W.dataLt y.py a.py) then y else a) (g a)) = g (best k a l)
  | [], a => rfl
  | b :: l, a => by
    have ih := bestD_min g k h l (if ltK (k b) (k a) then b else a)
    rw [show best k a (b :: l) = best k (if ltK (k b) (k a) then b else a) l from rfl, ← ih]
    simp only [List.map_cons, List.foldl_cons, Bool.false_eq_true, if_false, h b a]
    congr 1
    split <;> rfl
theorem bestD_max {α : Type} (g : α → D) (k : α → K3) (h : ∀ x y, PySem.W.dataLt (g x).py (g y).py = ltK (k y) (k x)) : ∀ (l : List α) (a : α), ((l.map g).foldl (fun a y => if (if true = true then PySem.W.dataLt a.py y.py else PySem.W.dataLt y.py a.py) then y else a) (g a)) = g (best k a l)
  | [], a => rfl
  | b :: l, a => by
    have ih := bestD_max g k h l (if ltK (k b) (k a) then b else a)
    rw [show best k a (b :: l) = best k (if ltK (k b) (k a) then b else a) l from rfl, ← ih]
    simp only [List.map_cons, List.foldl_cons, if_true, h a b]
    congr 1
    split <;> rfl
def keyO (o : Str) (L : List P3) (a : Nat × Nat) : K3 :=
  if o = "last" then (0, -(a.2 : Int), -(a.1 : Int)) else
  if o = "near" then (absI ((L.getD a.1 z3).2.1 - (L.getD a.2 z3).2.1), a.1, a.2) else (0, a.1, a.2)
theorem keyO_inj (o : Str) (L : List P3) {a b : Nat × Nat} (h : keyO o L a = keyO o L b) : a = b := by
  obtain ⟨a1, a2⟩ := a
  obtain ⟨b1, b2⟩ := b
  unfold keyO at h
  simp only at h
  split at h
  · simp only [Prod.mk.injEq] at h; simp only [Prod.mk.injEq]; omega
  · split at h
    · simp only [Prod.mk.injEq] at h; simp only [Prod.mk.injEq]; omega
    · simp only [Prod.mk.injEq] at h; simp only [Prod.mk.injEq]; omega
def pick (h : Hl) (L : List P3) : Option (Nat × Nat) :=
  match prs h.fit L with
  | [] => none
  | a :: l => some (best (keyO h.o L) a l)
theorem pick_mem {h : Hl} {L : List P3} {a : Nat × Nat} (e : pick h L = some a) : a.1 < a.2 ∧ a.2 < L.length := by
  unfold pick at e
  split at e
  · cases e
  · rename_i b l q
    cases e
    exact prs_mem (q ▸ best_mem _ l b)

/-! ### a beat -/
def rem (L : List P3) (a : Nat × Nat) : List P3 := L.take a.1 ++ ((L.drop (a.1 + 1)).take (a.2 - (a.1 + 1)) ++ L.drop (a.2 + 1))
def rounds (h : Hl) : Nat → List P3 → List P3 × List (Int × Int)
  | 0, L => (L, [])
  | n + 1, L => match pick h L with
    | none => (L, [])
    | some a => ((rounds h n (rem L a)).1, ((L.getD a.1 z3).1, (L.getD a.2 z3).1) :: (rounds h n (rem L a)).2)
def nowOf (h : Hl) (L : List P3) (num : Int) (c : Option Int) : List P3 :=
  L.map (fun p => (p.1, p.2.1, if p.2.2 + 1 < h.most then p.2.2 + 1 else h.most)) ++ (match c with
    | none => []
    | some s => [(num, s, 0)])
def goneOf (h : Hl) (L : List P3) : List Int := (L.filter fun p => match h.pat with
  | none => false
  | some i => decide (i ≤ p.2.2)).map (·.1)
def beatW (h : Hl) (L : List P3) (num : Int) (c : Option Int) : List P3 := let r := (rounds h (nowOf h L num c).length (nowOf h L num c)).1; r.filter fun p => !(goneOf h r).any fun z => z == p.1
def beatM (h : Hl) (L : List P3) (num : Int) (c : Option Int) : List (Int × Int) := (rounds h (nowOf h L num c).length (nowOf h L num c)).2
def beatG (h : Hl) (L : List P3) (num : Int) (c : Option Int) : List Int := goneOf h (rounds h (nowOf h L num c).length (nowOf h L num c)).1
/-- who waits: in the order of coming, counted in bounds -/
structure WtOk (h : Hl) (n : Nat) (L : List P3) : Prop where
  up : L.Pairwise fun p q => p.1 < q.1
  lt : ∀ p ∈ L, p.1 < n
  w0 : ∀ p ∈ L, 0 ≤ p.2.2 ∧ p.2.2 ≤ h.most
  len : L.length ≤ n
theorem rem_sub (L : List P3) {a : Nat × Nat} (h : a.1 < a.2) : (rem L a).Sublist L := by
  have e : L = L.take a.1 ++ ((L.drop a.1).take (a.2 - a.1) ++ L.drop a.2) := by
    have h1 : L.drop a.2 = (L.drop a.1).drop (a.2 - a.1) := by rw [List.drop_drop]; congr 1; omega
    rw [h1, List.take_append_drop, List.take_append_drop]
  unfold rem
  rw (occs := .pos [4]) [e]
  refine List.Sublist.append (List.Sublist.refl _) (List.Sublist.append ?_ ?_)
  · have : (L.drop (a.1 + 1)).take (a.2 - (a.1 + 1)) = ((L.drop a.1).take (a.2 - a.1)).drop 1 := by
      rw [List.drop_take, List.drop_drop]; congr 1
    rw [this]
    exact List.drop_sublist _ _
  · rw [show L.drop (a.2 + 1) = (L.drop a.2).drop 1 by rw [List.drop_drop]]
    exact List.drop_sublist _ _
theorem rem_len {L : List P3} {a : Nat × Nat} (h1 : a.1 < a.2) (h2 : a.2 < L.length) : (rem L a).length + 2 = L.length := by
  unfold rem
  simp
  omega
theorem rounds_sub (h : Hl) : ∀ (n : Nat) (L : List P3), (rounds h n L).1.Sublist L ∧ (rounds h n L).2.length ≤ n
  | 0, L => ⟨List.Sublist.refl _, by simp [rounds]⟩
  | n + 1, L => by
    simp only [rounds]
    split
    · exact ⟨List.Sublist.refl _, by simp⟩
    · rename_i a e
      obtain ⟨h1, h2⟩ := rounds_sub h n (rem L a)
      exact ⟨h1.trans (rem_sub L (pick_mem e).1), by simpa using h2⟩
theorem most_pos {h : Hl} (k : h.Ok) : 0 ≤ h.most ∧ h.most ≤ 4 := by
  unfold Hl.most
  have h1 := k.w1
  have h3 := k.w3
  split
  · omega
  · rename_i i e
    have := k.p i e
    omega
theorem now_ok {h : Hl} (k : h.Ok) {n : Nat} {L : List P3} (w : WtOk h n L) (c : Option Int) : WtOk h (n + 1) (nowOf h L n c) := by
  have m := most_pos k
  refine ⟨?_, fun p hp => ?_, fun p hp => ?_, ?_⟩
  · unfold nowOf
    rw [List.pairwise_append]
    refine ⟨?_, ?_, fun p hp q hq => ?_⟩
    · rw [List.pairwise_map]
      exact w.up.imp fun h => h
    · cases c <;> simp
    · cases c with
      | none => simp at hq
      | some s =>
        simp at hq
        subst hq
        obtain ⟨p', hp', rfl⟩ := List.mem_map.mp hp
        exact w.lt p' hp'
  · rcases List.mem_append.mp hp with hp | hp
    · obtain ⟨p', hp', rfl⟩ := List.mem_map.mp hp
      have := w.lt p' hp'
      show p'.1 < _
      omega
    · cases c with
      | none => simp at hp
      | some s => simp at hp; subst hp; show (n : Int) < _; omega
  · rcases List.mem_append.mp hp with hp | hp
    · obtain ⟨p', hp', rfl⟩ := List.mem_map.mp hp
      have := w.w0 p' hp'
      show 0 ≤ (if p'.2.2 + 1 < h.most then p'.2.2 + 1 else h.most) ∧ (if p'.2.2 + 1 < h.most then p'.2.2 + 1 else h.most) ≤ h.most
      split <;> omega
    · cases c with
      | none => simp at hp
      | some s => simp at hp; subst hp; exact ⟨by show (0:Int) ≤ 0; omega, m.1⟩
  · unfold nowOf
    have := w.len
    cases c <;> simp <;> omega
theorem WtOk.sub {h : Hl} {n : Nat} {L L' : List P3} (w : WtOk h n L) (s : L'.Sublist L) : WtOk h n L' := ⟨w.up.sublist s, fun p hp => w.lt p (s.subset hp), fun p hp => w.w0 p (s.subset hp), Nat.le_trans s.length_le w.len⟩
theorem rounds_ok {h : Hl} {n m : Nat} {L : List P3} (w : WtOk h n L) : WtOk h n (rounds h m L).1 := w.sub (rounds_sub h m L).1
theorem beat_ok {h : Hl} (k : h.Ok) {n : Nat} {L : List P3} (w : WtOk h n L) (c : Option Int) : WtOk h (n + 1) (beatW h L n c) := (rounds_ok (now_ok k w c)).sub List.filter_sublist
end W2

/-! What the program's defs of a beat answer. -/
namespace W2
open PySem L2

def SMost (c : List AV → CRes) : Prop := ∀ h : Hl, h.Ok → c [.val h.d] = .ok (.int h.most, false) []
theorem most_s (Γ : Ctr) : SMost (conD Γ FU 1 1 b_most_waited) := by
  intro h k
  obtain ⟨top, ws, f, o, pat⟩ := h
  cases pat <;> simp [b_most_waited, LIM, Function.comp_def, conD, runD, evalSs, evalS, evalE, evalL, evalA, evalAnd, evalOr, evalI, evalJ, evalH, seqR, seqD, isSeqE, partR, partD, entry, iosAt, setS, parS, gather, iosOf, callR, putIos, binD, cmpD, ixD, atI, ixN, slD, isiD, D.ty, boolsOf, bindT, bindTs, wipeE, plainAt, backE, lend, Env.hide, SV.hide, SV.isOwn, SV.dat, SV.put, ownAt, shutE, ixD', compF, ofO, R.bind, R.bindB, R.toS, R.toSB, RS.bind, bq_len, bq_abs, bq_min, bq_max, bq_int, bq_all, bq_sorted, bq_list, bq_tuple, bLen, bAbs, bMin, bMax, bInt, bAll, bSorted, bList, bTuple, Hl.d, patD, Hl.most, D.isN]
def SFit (c : List AV → CRes) : Prop := ∀ h : Hl, h.Ok → ∀ p q : P3, 0 ≤ p.2.2 → 0 ≤ q.2.2 → c [.val h.d, .val (e3 p), .val (e3 q)] = .ok (.bl (h.fit p q), false) []
theorem good_str {x : Str} (h : PyData.strOk x = true) : (D.str x).good = true := good_of h (by simp [D.dep])
theorem ok_wide : PyData.strOk ("wide" : Str) = true := by decide +kernel
theorem ok_narrow : PyData.strOk ("narrow" : Str) = true := by decide +kernel
theorem nw_ne : ¬ (("narrow" : Str) = "wide") := by decide +kernel
theorem win_get {ws : List Int} {w : Int} (h : 1 ≤ ws.length) (hw : 0 ≤ w) : ∃ m : Int, m = (if (ws.length : Int) - 1 < w then (ws.length : Int) - 1 else w) ∧ 0 ≤ m ∧ m < ws.length ∧ ws[m.toNat]? = some (ws.getD m.toNat 0) := by
  refine ⟨_, rfl, ?_, ?_, ?_⟩
  · split <;> omega
  · split <;> omega
  · have : (if (ws.length : Int) - 1 < w then (ws.length : Int) - 1 else w).toNat < ws.length := by split <;> omega
    rw [List.getElem?_eq_getElem this]
    simp [this]
theorem fit_s (Γ : Ctr) : SFit (conD Γ FU 3 5 b_do_fit) := by
  intro h k p q hp hq
  obtain ⟨top, ws, f, o, pat⟩ := h
  obtain ⟨pn, ps, pw⟩ := p
  obtain ⟨qn, qs, qw⟩ := q
  have w1 : 1 ≤ ws.length := k.w1
  simp only at hp hq
  have g1 := good_str ok_wide
  have g2 := good_str ok_narrow
  have kf : f = "narrow" ∨ f = "wide" := k.f
  rcases kf with rfl | rfl
  · obtain ⟨m, hm, m0, m1, mx⟩ := win_get (w := if qw < pw then qw else pw) w1 (by split <;> omega)
    simp [b_do_fit, LIM, Function.comp_def, conD, runD, evalSs, evalS, evalE, evalL, evalA, evalAnd, evalOr, evalI, evalJ, evalH, seqR, seqD, isSeqE, partR, partD, entry, iosAt, setS, parS, gather, iosOf, callR, putIos, binD, cmpD, ixD, atI, ixN, slD, isiD, D.ty, boolsOf, bindT, bindTs, wipeE, plainAt, backE, lend, Env.hide, SV.hide, SV.isOwn, SV.dat, SV.put, ownAt, shutE, ixD', compF, ofO, R.bind, R.bindB, R.toS, R.toSB, RS.bind, bq_len, bq_abs, bq_min, bq_max, bq_int, bq_all, bq_sorted, bq_list, bq_tuple, bLen, bAbs, bMin, bMax, bInt, bAll, bSorted, bList, bTuple, Hl.d, e3, g1, g2, D.eqv, nw_ne, ← hm, m0, m1, mx, Hl.fit, Hl.win, wtOf, absI]
  · obtain ⟨m, hm, m0, m1, mx⟩ := win_get (w := if pw < qw then qw else pw) w1 (by split <;> omega)
    simp [b_do_fit, LIM, Function.comp_def, conD, runD, evalSs, evalS, evalE, evalL, evalA, evalAnd, evalOr, evalI, evalJ, evalH, seqR, seqD, isSeqE, partR, partD, entry, iosAt, setS, parS, gather, iosOf, callR, putIos, binD, cmpD, ixD, atI, ixN, slD, isiD, D.ty, boolsOf, bindT, bindTs, wipeE, plainAt, backE, lend, Env.hide, SV.hide, SV.isOwn, SV.dat, SV.put, ownAt, shutE, ixD', compF, ofO, R.bind, R.bindB, R.toS, R.toSB, RS.bind, bq_len, bq_abs, bq_min, bq_max, bq_int, bq_all, bq_sorted, bq_list, bq_tuple, bLen, bAbs, bMin, bMax, bInt, bAll, bSorted, bList, bTuple, Hl.d, e3, g1, g2, D.eqv, nw_ne, ← hm, m0, m1, mx, Hl.fit, Hl.win, wtOf, absI]

/-! ### all pairs that fit -/
def ij (a : Nat × Nat) : D := .tup [.int a.1, .int a.2]
theorem range_getL {lo : Int} {n k : Nat} {d : D} (h : (rangeD lo n)[k]? = some d) : k < n ∧ d = .int (lo + k) := by
  unfold rangeD at h
  rw [List.getElem?_map, Option.map_eq_some_iff] at h
  obtain ⟨j, hj, rfl⟩ := h
  obtain ⟨h1, h2⟩ := List.getElem?_eq_some_iff.mp hj
  simp at h1 h2
  subst h2
  exact ⟨h1, rfl⟩
theorem getD_some {L : List P3} {i : Nat} (h : i < L.length) : L[i]? = some (L.getD i z3) := by
  rw [List.getElem?_eq_getElem h]; simp [h]
theorem prsI_succ (fit : P3 → P3 → Bool) (L : List P3) (i k : Nat) : prsI fit L i (k + 1) = prsI fit L i k ++ (if fit (L.getD i z3) (L.getD (i + 1 + k) z3) then [(i, i + 1 + k)] else []) := by
  unfold prsI
  rw [List.range_succ, List.filter_append, List.map_append]
  congr 1
  cases e : fit (L.getD i z3) (L.getD (i + 1 + k) z3) <;> simp only [List.filter_cons, e, List.filter_nil, Bool.false_eq_true, if_false, if_true, List.map_nil, List.map_cons]
theorem prsN_succ (fit : P3 → P3 → Bool) (L : List P3) (n : Nat) : prsN fit L (n + 1) = prsN fit L n ++ prsI fit L n (L.length - (n + 1)) := by
  unfold prsN
  rw [List.range_succ, List.flatMap_append]
  simp
def fB1 : List St := [.ife (.call "do_fit" [(.var 0), (.var 4), (.ix (.var 1) (.var 3))]) [.app 2 (.tup [(.var 5), (.var 3)])] []]
def fB2 : List St := [.for_ (.nm 3) (.rng2 (.bin .Add (.var 5) (.cst (.int 1))) (.blt "len" [(.var 1)])) fB1]
theorem b_fitting_eq : b_fitting = [.own 2 (.lst []), .for_ (.tp [(.nm 5), (.nm 4)]) (.enu (.var 1)) fB2, .retO 2] := rfl
def SFitting (c : List AV → CRes) : Prop := ∀ h : Hl, h.Ok → ∀ (n : Nat) (L : List P3), WtOk h n L → n ≤ 100 → c [.val h.d, .val (.lst (L.map e3))] = .ok (.lst ((prs h.fit L).map ij), true) []
theorem w0_get {h : Hl} {n : Nat} {L : List P3} (w : WtOk h n L) {i : Nat} (hi : i < L.length) : 0 ≤ (L.getD i z3).2.2 := by
  refine (w.w0 _ ?_).1
  have := getD_some hi
  exact List.mem_of_getElem? this
theorem fit_in {Γ : Ctr} {c : List AV → CRes} (hf : Γ.fn "do_fit" = some c) (s : SFit c) {h : Hl} (k : h.Ok) {n : Nat} {L : List P3} (w : WtOk h n L) (hn : n ≤ 100) {i : Nat} (hi : i < L.length) {acc : List D} (ha : acc.length ≤ 10000) {x3 : SV} (n3 : NI x3) :
    ∃ y3, NI y3 ∧ forL (evalSs Γ FU fB1) (.nm 3) (rangeD ((i : Int) + 1) (L.length - (i + 1))) [.val h.d, .val (.lst (L.map e3)), .own (.lst acc), x3, .val (e3 (L.getD i z3)), .val (.int i)] = .nxt [.val h.d, .val (.lst (L.map e3)), .own (.lst (acc ++ (prsI h.fit L i (L.length - (i + 1))).map ij)), y3, .val (e3 (L.getD i z3)), .val (.int i)] := by
  have wl := w.len
  obtain ⟨ρ', e, y3, h1, h2⟩ := forL_inv (f := evalSs Γ FU fB1) (t := .nm 3) (fun k ρ => ∃ y3, ρ = [.val h.d, .val (.lst (L.map e3)), .own (.lst (acc ++ (prsI h.fit L i k).map ij)), y3, .val (e3 (L.getD i z3)), .val (.int i)] ∧ NI y3) (ds := rangeD ((i : Int) + 1) (L.length - (i + 1))) (ρ := [.val h.d, .val (.lst (L.map e3)), .own (.lst acc), x3, .val (e3 (L.getD i z3)), .val (.int i)]) 0
    ⟨x3, by simp [prsI], n3⟩ (by
    rintro k' d hd ρ ⟨y, rfl, ny⟩
    obtain ⟨hk, rfl⟩ := range_getL hd
    rw [Nat.zero_add]
    have hj : i + 1 + k' < L.length := by omega
    have ex : L[i + 1 + k']? = some (L.getD (i + 1 + k') z3) := getD_some hj
    have key := s h k (L.getD i z3) (L.getD (i + 1 + k') z3) (w0_get w hi) (w0_get w hj)
    have pl := prsI_len h.fit L i k'
    have hl : acc.length + (prsI h.fit L i k').length < 100000 := by omega
    rw [prsI_succ]
    generalize prsI h.fit L i k' = ps at *
    generalize e3 (L.getD i z3) = ei at *
    generalize h.fit (L.getD i z3) (L.getD (i + 1 + k') z3) = ft at *
    generalize L.getD (i + 1 + k') z3 = q at *
    obtain ⟨j, hj'⟩ : ∃ j, j = i + 1 + k' := ⟨_, rfl⟩
    have ej : (i : Int) + 1 + k' = (j : Int) := by omega
    rw [ej]
    rw [← hj'] at ex hj ⊢
    generalize hh : h.d = hd' at *
    have exq : L[j] = q := by rw [List.getElem?_eq_getElem hj] at ex; exact Option.some.inj ex
    refine ⟨_, _, bindT_ok (i := 3) (by simp) (by simpa [NI] using ny), ?_, .val (.int (j : Int)), rfl, ni_val _⟩
    cases ft with
    | false => simp [fB1, LIM, Function.comp_def, conD, runD, evalSs, evalS, evalE, evalL, evalA, evalAnd, evalOr, evalI, evalJ, evalH, seqR, seqD, isSeqE, partR, partD, entry, iosAt, setS, parS, gather, iosOf, callR, putIos, binD, cmpD, ixD, atI, ixN, slD, isiD, D.ty, boolsOf, bindT, bindTs, wipeE, plainAt, backE, lend, Env.hide, SV.hide, SV.isOwn, SV.dat, SV.put, ownAt, shutE, ixD', compF, ofO, R.bind, R.bindB, R.toS, R.toSB, RS.bind, bq_len, bq_abs, bq_min, bq_max, bq_int, bq_all, bq_sorted, bq_list, bq_tuple, bLen, bAbs, bMin, bMax, bInt, bAll, bSorted, bList, bTuple, hf, hj, exq, key]
    | true => simp [fB1, LIM, Function.comp_def, conD, runD, evalSs, evalS, evalE, evalL, evalA, evalAnd, evalOr, evalI, evalJ, evalH, seqR, seqD, isSeqE, partR, partD, entry, iosAt, setS, parS, gather, iosOf, callR, putIos, binD, cmpD, ixD, atI, ixN, slD, isiD, D.ty, boolsOf, bindT, bindTs, wipeE, plainAt, backE, lend, Env.hide, SV.hide, SV.isOwn, SV.dat, SV.put, ownAt, shutE, ixD', compF, ofO, R.bind, R.bindB, R.toS, R.toSB, RS.bind, bq_len, bq_abs, bq_min, bq_max, bq_int, bq_all, bq_sorted, bq_list, bq_tuple, bLen, bAbs, bMin, bMax, bInt, bAll, bSorted, bList, bTuple, hf, hj, exq, key, hl, ij])
  subst h1
  refine ⟨y3, h2, ?_⟩
  rw [e]
  simp [rangeD]
end W2

/-! All pairs that fit; the pair that is made first. -/
namespace W2
open PySem L2

theorem rng2_val {Γ : Ctr} {a b : E} {ρ : Env} {lo hi : Int} (ha : evalE Γ a ρ = .ok (.int lo, false) ρ) (hb : evalE Γ b ρ = .ok (.int hi, false) ρ) (h : (-(2 ^ 62) ≤ lo ∧ lo < 2 ^ 62) ∧ (-(2 ^ 62) ≤ hi ∧ hi < 2 ^ 62)) : evalI Γ (.rng2 a b) ρ = .ok (rangeD lo (hi - lo).toNat) ρ := by
  rw [evalI_rng2, ha]
  simp only [R.bind_ok]
  rw [hb]
  simp only [R.bind_ok]
  rw [if_pos h]
theorem fit_out {Γ : Ctr} {c : List AV → CRes} (hf : Γ.fn "do_fit" = some c) (s : SFit c) {h : Hl} (k : h.Ok) {n : Nat} {L : List P3} (w : WtOk h n L) (hn : n ≤ 100) {i : Nat} (hi : i < L.length) {x3 : SV} (n3 : NI x3) : ∃ y3, NI y3 ∧
    evalSs Γ FU fB2 [.val h.d, .val (.lst (L.map e3)), .own (.lst ((prsN h.fit L i).map ij)), x3, .val (e3 (L.getD i z3)), .val (.int i)] = .nxt [.val h.d, .val (.lst (L.map e3)), .own (.lst ((prsN h.fit L (i + 1)).map ij)), y3, .val (e3 (L.getD i z3)), .val (.int i)] := by
  have wl := w.len
  have ha : ((prsN h.fit L i).map ij).length ≤ 10000 := by
    have pl := prsN_len h.fit L i
    rw [List.length_map]
    have mm : i * L.length ≤ 100 * 100 := Nat.mul_le_mul (by omega) (by omega)
    omega
  obtain ⟨y3, m3, ef⟩ := fit_in (Γ := Γ) hf s k w hn hi ha n3
  refine ⟨y3, m3, ?_⟩
  rw [prsN_succ, List.map_append]
  generalize L.getD i z3 = p at *
  generalize prsN h.fit L i = ps at *
  generalize prsI h.fit L i (L.length - (i + 1)) = qs at *
  have bb : (-(2 ^ 62) ≤ (i : Int) + 1 ∧ (i : Int) + 1 < 2 ^ 62) ∧ (-(2 ^ 62) ≤ (L.length : Int) ∧ (L.length : Int) < 2 ^ 62) := by omega
  have ei : evalI Γ (.rng2 (.bin .Add (.var 5) (.cst (.int 1))) (.blt "len" [(.var 1)])) [.val h.d, .val (.lst (L.map e3)), .own (.lst (ps.map ij)), x3, .val (e3 p), .val (.int i)] = .ok (rangeD ((i : Int) + 1) ((L.length : Int) - ((i : Int) + 1)).toNat) [.val h.d, .val (.lst (L.map e3)), .own (.lst (ps.map ij)), x3, .val (e3 p), .val (.int i)] := by
    exact rng2_val (by simp [LIM, Function.comp_def, conD, runD, evalSs, evalS, evalE, evalL, evalA, evalAnd, evalOr, evalI, evalJ, evalH, seqR, seqD, isSeqE, partR, partD, entry, iosAt, setS, parS, gather, iosOf, callR, putIos, binD, cmpD, ixD, atI, ixN, slD, isiD, D.ty, boolsOf, bindT, bindTs, wipeE, plainAt, backE, lend, Env.hide, SV.hide, SV.isOwn, SV.dat, SV.put, ownAt, shutE, ixD', compF, ofO, R.bind, R.bindB, R.toS, R.toSB, RS.bind, bq_len, bq_abs, bq_min, bq_max, bq_int, bq_all, bq_sorted, bq_list, bq_tuple, bLen, bAbs, bMin, bMax, bInt, bAll, bSorted, bList, bTuple]) (by simp [LIM, Function.comp_def, conD, runD, evalSs, evalS, evalE, evalL, evalA, evalAnd, evalOr, evalI, evalJ, evalH, seqR, seqD, isSeqE, partR, partD, entry, iosAt, setS, parS, gather, iosOf, callR, putIos, binD, cmpD, ixD, atI, ixN, slD, isiD, D.ty, boolsOf, bindT, bindTs, wipeE, plainAt, backE, lend, Env.hide, SV.hide, SV.isOwn, SV.dat, SV.put, ownAt, shutE, ixD', compF, ofO, R.bind, R.bindB, R.toS, R.toSB, RS.bind, bq_len, bq_abs, bq_min, bq_max, bq_int, bq_all, bq_sorted, bq_list, bq_tuple, bLen, bAbs, bMin, bMax, bInt, bAll, bSorted, bList, bTuple]) bb
  have tn : ((L.length : Int) - ((i : Int) + 1)).toNat = L.length - (i + 1) := by omega
  have b1 : -4611686018427387904 ≤ (i : Int) + 1 ∧ (i : Int) + 1 < 4611686018427387904 := by omega
  have b2 : -4611686018427387904 ≤ (L.length : Int) ∧ (L.length : Int) < 4611686018427387904 := by omega
  rw [tn] at ei
  simp only [fB2, evalSs, evalS, ei, R.toS_ok, ef, RS.bind_nxt]
theorem fitting_s (Γ : Ctr) (c : List AV → CRes) (hf : Γ.fn "do_fit" = some c) (s : SFit c) : SFitting (conD Γ FU 2 6 b_fitting) := by
  intro h k n L w hn
  obtain ⟨ρ', e, x3, x4, x5, h1, _⟩ := forL_inv (f := evalSs Γ FU fB2) (t := .tp [(.nm 5), (.nm 4)]) (fun k ρ => ∃ x3 x4 x5, ρ = [.val h.d, .val (.lst (L.map e3)), .own (.lst ((prsN h.fit L k).map ij)), x3, x4, x5] ∧ NI x3 ∧ NI x4 ∧ NI x5) (ds := enumD 0 (L.map e3)) (ρ := [.val h.d, .val (.lst (L.map e3)), .own (.lst []), .no, .no, .no]) 0
    ⟨.no, .no, .no, by simp [prsN], ni_no, ni_no, ni_no⟩ (by
    rintro i d hd ρ ⟨x3, x4, x5, rfl, n3, n4, n5⟩
    obtain ⟨x, hx, rfl⟩ := enumD_get hd
    rw [List.getElem?_map, Option.map_eq_some_iff] at hx
    obtain ⟨p, hp, rfl⟩ := hx
    rw [Nat.zero_add]
    have hi : i < L.length := (List.getElem?_eq_some_iff.mp hp).1
    have ep : p = L.getD i z3 := by
      rw [getD_some hi] at hp
      exact (Option.some.inj hp).symm
    subst ep
    obtain ⟨y3, m3, ef⟩ := fit_out (Γ := Γ) hf s k w hn hi n3
    have n4' : ∀ d, ¬ x4 = .io d := n4
    have n5' : ∀ d, ¬ x5 = .io d := n5
    refine ⟨_, _, ?_, ef, y3, .val (e3 (L.getD i z3)), .val (.int i), rfl, m3, ni_val _, ni_val _⟩
    simp [bindT_ok, bindT_tp, bindTs, n4', n5'])
  subst h1
  rw [Nat.zero_add, enumD_len, List.length_map] at e
  rw [show prs h.fit L = prsN h.fit L L.length from rfl]
  generalize prsN h.fit L L.length = ps at *
  simp [b_fitting_eq, LIM, Function.comp_def, conD, runD, evalSs, evalS, evalE, evalL, evalA, evalAnd, evalOr, evalI, evalJ, evalH, seqR, seqD, isSeqE, partR, partD, entry, iosAt, setS, parS, gather, iosOf, callR, putIos, binD, cmpD, ixD, atI, ixN, slD, isiD, D.ty, boolsOf, bindT, bindTs, wipeE, plainAt, backE, lend, Env.hide, SV.hide, SV.isOwn, SV.dat, SV.put, ownAt, shutE, ixD', compF, ofO, R.bind, R.bindB, R.toS, R.toSB, RS.bind, bq_len, bq_abs, bq_min, bq_max, bq_int, bq_all, bq_sorted, bq_list, bq_tuple, bLen, bAbs, bMin, bMax, bInt, bAll, bSorted, bList, bTuple, e]
end W2

/-! The pair that is made first. -/
namespace W2
open PySem L2

theorem compL_filt {α : Type} {f : D → Env → R (Option D)} (u : α → D) (p : α → Bool) (g : α → D) {ρ : Env} : ∀ {xs : List α} {acc : List D}, (∀ x ∈ xs, f (u x) ρ = .ok (if p x = true then some (g x) else none) ρ) → acc.length + xs.length ≤ LIM → compL f (xs.map u) acc ρ = .ok (acc ++ (xs.filter p).map g) ρ
  | [], acc, _, _ => by simp [compL]
  | x :: xs, acc, h, hl => by
    simp only [List.length_cons] at hl
    simp only [List.map_cons, compL]
    rw [h x List.mem_cons_self]
    cases e : p x with
    | false =>
      show compL f (xs.map u) acc ρ = _
      rw [compL_filt u p g (fun y hy => h y (List.mem_cons_of_mem _ hy)) (by omega)]
      simp [e]
    | true =>
      show (if acc.length < LIM then compL f (xs.map u) (acc ++ [g x]) ρ else .bad) = _
      rw [if_pos (by omega), compL_filt u p g (fun y hy => h y (List.mem_cons_of_mem _ hy)) (by simp; omega)]
      simp [e]
theorem comp_filt {α : Type} {Γ : Ctr} {ρ : Env} {vs : List Nat} {elt src cond : E} {tg : Tg} (xs : List α) (u : α → D) (p : α → Bool) (g : α → D) (hs : evalI Γ src ρ = .ok (xs.map u) ρ) (hp : plainAt ρ vs = true) (h : ∀ x ∈ xs, compF (evalE Γ cond) (evalE Γ elt) tg vs (u x) ρ = .ok (if p x = true then some (g x) else none) ρ) (hl : xs.length ≤ LIM) :
    evalE Γ (.comp vs elt tg src cond) ρ = .ok (.lst ((xs.filter p).map g), true) ρ := by
  rw [evalE_comp, hs]
  show (if plainAt ρ vs = true then _ else _) = _
  rw [if_pos hp, compL_filt u p g h (by simpa using hl), List.nil_append]
  rfl
theorem comp_map {α : Type} {Γ : Ctr} {ρ : Env} {vs : List Nat} {elt src cond : E} {tg : Tg} (xs : List α) (u : α → D) (g : α → D) (hs : evalI Γ src ρ = .ok (xs.map u) ρ) (hp : plainAt ρ vs = true) (h : ∀ x ∈ xs, compF (evalE Γ cond) (evalE Γ elt) tg vs (u x) ρ = .ok (some (g x)) ρ) (hl : xs.length ≤ LIM) :
    evalE Γ (.comp vs elt tg src cond) ρ = .ok (.lst (xs.map g), true) ρ := by
  have := comp_filt (Γ := Γ) (ρ := ρ) (vs := vs) (elt := elt) (src := src) (cond := cond) (tg := tg) xs u (fun _ => true) g hs hp (fun x hx => by rw [h x hx]; rfl) hl
  rwa [List.filter_eq_self.mpr (fun _ _ => rfl)] at this
theorem good_map {α : Type} {g : α → D} {n : Nat} (hn : n ≤ 59) (h : ∀ x, (g x).plain = true ∧ (g x).dep ≤ n) (l : List α) : (D.lst (l.map g)).good = true := by
  refine good_of ?_ ?_
  · simp only [D.plain]
    exact plainL_of fun d hd => by
      obtain ⟨x, _, rfl⟩ := List.mem_map.mp hd
      exact (h x).1
  · simp only [D.dep]
    have : D.depL (l.map g) ≤ n := depL_le fun d hd => by
      obtain ⟨x, _, rfl⟩ := List.mem_map.mp hd
      exact (h x).2
    omega
theorem alikes_map {α : Type} {g : α → D} (h : ∀ x y, PySem.W.alike (g x).py (g y).py = true) (l : List α) : D.alikes (l.map g) = true := by
  unfold D.alikes
  rw [List.all_eq_true]
  intro d hd
  rw [List.all_eq_true]
  intro e he
  obtain ⟨x, _, rfl⟩ := List.mem_map.mp hd
  obtain ⟨y, _, rfl⟩ := List.mem_map.mp he
  exact h x y
theorem best_min {α : Type} {g : α → D} {k : α → K3} (h : ∀ x y, PySem.W.dataLt (g x).py (g y).py = ltK (k x) (k y)) (ha : ∀ x y, PySem.W.alike (g x).py (g y).py = true) (hg : ∀ x, (g x).plain = true ∧ (g x).dep ≤ 50) (hn : ∀ x, (g x).isN = false) {a : α} {l : List α} (hl : l.length < LIM) : bMin [.lst (g a :: l.map g)] = some (g (best k a l), false) := by
  have h1 := good_map (by decide) hg (a :: l)
  have h2 := alikes_map ha (a :: l)
  have h3 : ((a :: l).map g).any D.isN = false := by
    rw [List.any_eq_false]
    intro d hd
    obtain ⟨x, _, rfl⟩ := List.mem_map.mp hd
    simp [hn x]
  simp only [List.map_cons] at h1 h2 h3
  have h4 := bestD_min g k h l a
  show (bestD false (g a) (l.map g)).map (fun y => (y, false)) = _
  unfold bestD
  rw [h1, h2, h3, h4]
  simp [hl]
theorem best_max {α : Type} {g : α → D} {k : α → K3} (h : ∀ x y, PySem.W.dataLt (g x).py (g y).py = ltK (k y) (k x)) (ha : ∀ x y, PySem.W.alike (g x).py (g y).py = true) (hg : ∀ x, (g x).plain = true ∧ (g x).dep ≤ 50) (hn : ∀ x, (g x).isN = false) {a : α} {l : List α} (hl : l.length < LIM) : bMax [.lst (g a :: l.map g)] = some (g (best k a l), false) := by
  have h1 := good_map (by decide) hg (a :: l)
  have h2 := alikes_map ha (a :: l)
  have h3 : ((a :: l).map g).any D.isN = false := by
    rw [List.any_eq_false]
    intro d hd
    obtain ⟨x, _, rfl⟩ := List.mem_map.mp hd
    simp [hn x]
  simp only [List.map_cons] at h1 h2 h3
  have h4 := bestD_max g k h l a
  show (bestD true (g a) (l.map g)).map (fun y => (y, false)) = _
  unfold bestD
  rw [h1, h2, h3, h4]
  simp [hl]

def ji (a : Nat × Nat) : D := .tup [.int a.2, .int a.1]
def nij (L : List P3) (a : Nat × Nat) : D := .tup [.int (absI ((L.getD a.1 z3).2.1 - (L.getD a.2 z3).2.1)), .tup [.int a.1, .int a.2]]
theorem lt_ij (L : List P3) (x y : Nat × Nat) : PySem.W.dataLt (ij x).py (ij y).py = ltK (keyO "first" L x) (keyO "first" L y) := by
  have e1 : ¬ (("first" : Str) = "last") := by decide +kernel
  have e2 : ¬ (("first" : Str) = "near") := by decide +kernel
  show PySem.W.dataLt (.tuple [.int x.1, .int x.2]) (.tuple [.int y.1, .int y.2]) = _
  rw [PySem.W.dataLt_ii]
  unfold keyO ltK
  rw [if_neg e1, if_neg e2, if_neg e1, if_neg e2]
  simp
theorem lt_ji (L : List P3) (x y : Nat × Nat) : PySem.W.dataLt (ji x).py (ji y).py = ltK (keyO "last" L y) (keyO "last" L x) := by
  show PySem.W.dataLt (.tuple [.int x.2, .int x.1]) (.tuple [.int y.2, .int y.1]) = _
  rw [PySem.W.dataLt_ii]
  unfold keyO ltK
  rw [if_pos rfl, if_pos rfl]
  obtain ⟨x1, x2⟩ := x
  obtain ⟨y1, y2⟩ := y
  simp only
  rw [decide_eq_decide]
  rw [true_and, or_iff_right (Int.lt_irrefl 0)]
  omega
theorem lt_nij (L : List P3) (x y : Nat × Nat) : PySem.W.dataLt (nij L x).py (nij L y).py = ltK (keyO "near" L x) (keyO "near" L y) := by
  have e1 : ¬ (("near" : Str) = "last") := by decide +kernel
  unfold keyO ltK
  rw [if_neg e1, if_pos rfl, if_neg e1, if_pos rfl]
  unfold nij
  generalize absI ((L.getD x.1 z3).2.1 - (L.getD x.2 z3).2.1) = da
  generalize absI ((L.getD y.1 z3).2.1 - (L.getD y.2 z3).2.1) = db
  show PySem.W.dataLt (.tuple [.int da, .tuple [.int x.1, .int x.2]]) (.tuple [.int db, .tuple [.int y.1, .int y.2]]) = _
  rw [PySem.W.dataLt_pair (by simp [PySem.W.alike]) (by simp [PySem.W.alike, PySem.W.alikeAll]), PySem.W.dataLt_int, PySem.W.dataLt_ii]
  simp only [PyData.eqv, PyData.eqvAll, beq_iff_eq, Bool.and_eq_true, Bool.and_true]
  by_cases h1 : da = db
  · subst h1
    by_cases h2 : (x.1 : Int) = y.1 ∧ (x.2 : Int) = y.2
    · simp [h2]
    · rw [if_pos rfl, if_neg h2]
      simp
  · rw [if_neg h1]
    simp [h1]
def SChosen (c : List AV → CRes) : Prop := ∀ h : Hl, h.Ok → ∀ (L : List P3) (a : Nat × Nat) (l : List (Nat × Nat)), (∀ x ∈ a :: l, x.1 < x.2 ∧ x.2 < L.length) → l.length < 20000 → L.length ≤ 1000 → c [.val h.d, .val (.lst (L.map e3)), .val (.lst ((a :: l).map ij))] = .ok (ij (best (keyO h.o L) a l), false) []
theorem ok_first : PyData.strOk ("first" : Str) = true := by decide +kernel
theorem ok_last : PyData.strOk ("last" : Str) = true := by decide +kernel
theorem ok_near : PyData.strOk ("near" : Str) = true := by decide +kernel
theorem ne_fl : ¬ (("first" : Str) = "last") := by decide +kernel
theorem ne_fn : ¬ (("first" : Str) = "near") := by decide +kernel
theorem ne_ln : ¬ (("last" : Str) = "near") := by decide +kernel
theorem ne_lf : ¬ (("last" : Str) = "first") := by decide +kernel
theorem ne_nf : ¬ (("near" : Str) = "first") := by decide +kernel
theorem ne_nl : ¬ (("near" : Str) = "last") := by decide +kernel
theorem chosen_s (Γ : Ctr) : SChosen (conD Γ FU 3 7 b_chosen) := by
  intro h k L a l hm hl hL
  obtain ⟨top, ws, f, o, pat⟩ := h
  have g1 := good_str ok_first
  have g2 := good_str ok_last
  have g3 := good_str ok_near
  have ko : o = "first" ∨ o = "last" ∨ o = "near" := k.o
  have hl' : l.length < LIM := by unfold LIM; omega
  rcases ko with rfl | rfl | rfl
  · have bm := best_min (lt_ij L) (fun x y => by simp [ij, D.py, D.pyL, PySem.W.alike, PySem.W.alikeAll]) (fun x => by simp [ij, D.plain, D.plainL, D.dep, D.depL]) (fun x => rfl) (a := a) hl'
    generalize best (keyO "first" L) a l = b at *
    simp only [List.map_cons]
    generalize ij a = ia at *
    generalize l.map ij = il at *
    simp only [bMin] at bm
    simp [b_chosen, LIM, Function.comp_def, conD, runD, evalSs, evalS, evalE, evalL, evalA, evalAnd, evalOr, evalI, evalJ, evalH, seqR, seqD, isSeqE, partR, partD, entry, iosAt, setS, parS, gather, iosOf, callR, putIos, binD, cmpD, ixD, atI, ixN, slD, isiD, D.ty, boolsOf, bindT, bindTs, wipeE, plainAt, backE, lend, Env.hide, SV.hide, SV.isOwn, SV.dat, SV.put, ownAt, shutE, ixD', compF, ofO, R.bind, R.bindB, R.toS, R.toSB, RS.bind, bq_len, bq_abs, bq_min, bq_max, bq_int, bq_all, bq_sorted, bq_list, bq_tuple, bLen, bAbs, bMin, bMax, bInt, bAll, bSorted, bList, bTuple, Hl.d, g1, D.eqv, bm]
  · have bm := best_max (lt_ji L) (fun x y => by simp [ji, D.py, D.pyL, PySem.W.alike, PySem.W.alikeAll]) (fun x => by simp [ji, D.plain, D.plainL, D.dep, D.depL]) (fun x => rfl) (a := a) hl'
    have key := comp_map (Γ := Γ) (vs := [5, 6]) (elt := .tup [(.var 6), (.var 5)]) (tg := .tp [(.nm 5), (.nm 6)]) (src := .var 2) (cond := .cst (.bl true)) (ρ := [.val (.tup [.int top, .tup (ws.map D.int), .str f, .str "last", patD pat]), .val (.lst (L.map e3)), .val (.lst ((a :: l).map ij)), .no, .no, .no, .no]) (a :: l) ij ji (by simp [LIM, Function.comp_def, conD, runD, evalSs, evalS, evalE, evalL, evalA, evalAnd, evalOr, evalI, evalJ, evalH, seqR, seqD, isSeqE, partR, partD, entry, iosAt, setS, parS, gather, iosOf, callR, putIos, binD, cmpD, ixD, atI, ixN, slD, isiD, D.ty, boolsOf, bindT, bindTs, wipeE, plainAt, backE, lend, Env.hide, SV.hide, SV.isOwn, SV.dat, SV.put, ownAt, shutE, ixD', compF, ofO, R.bind, R.bindB, R.toS, R.toSB, RS.bind, bq_len, bq_abs, bq_min, bq_max, bq_int, bq_all, bq_sorted, bq_list, bq_tuple, bLen, bAbs, bMin, bMax, bInt, bAll, bSorted, bList, bTuple]) (by rfl) (fun x hx => by simp [LIM, Function.comp_def, conD, runD, evalSs, evalS, evalE, evalL, evalA, evalAnd, evalOr, evalI, evalJ, evalH, seqR, seqD, isSeqE, partR, partD, entry, iosAt, setS, parS, gather, iosOf, callR, putIos, binD, cmpD, ixD, atI, ixN, slD, isiD, D.ty, boolsOf, bindT, bindTs, wipeE, plainAt, backE, lend, Env.hide, SV.hide, SV.isOwn, SV.dat, SV.put, ownAt, shutE, ixD', compF, ofO, R.bind, R.bindB, R.toS, R.toSB, RS.bind, bq_len, bq_abs, bq_min, bq_max, bq_int, bq_all, bq_sorted, bq_list, bq_tuple, bLen, bAbs, bMin, bMax, bInt, bAll, bSorted, bList, bTuple, ij, ji]) (by simp; omega)
    generalize best (keyO "last" L) a l = b at *
    generalize hi : (a :: l).map ij = il at *
    simp only [List.map_cons] at key
    generalize ji a = ia at *
    generalize l.map ji = jl at *
    simp only [bMax] at bm
    simp [↓key, b_chosen, LIM, Function.comp_def, conD, runD, evalSs, evalS, evalE, evalL, evalA, evalAnd, evalOr, evalI, evalJ, evalH, seqR, seqD, isSeqE, partR, partD, entry, iosAt, setS, parS, gather, iosOf, callR, putIos, binD, cmpD, ixD, atI, ixN, slD, isiD, D.ty, boolsOf, bindT, bindTs, wipeE, plainAt, backE, lend, Env.hide, SV.hide, SV.isOwn, SV.dat, SV.put, ownAt, shutE, ixD', compF, ofO, R.bind, R.bindB, R.toS, R.toSB, RS.bind, bq_len, bq_abs, bq_min, bq_max, bq_int, bq_all, bq_sorted, bq_list, bq_tuple, bLen, bAbs, bMin, bMax, bInt, bAll, bSorted, bList, bTuple, Hl.d, g1, g2, D.eqv, bm, ne_lf, ji, ij]
  · have bm := best_min (lt_nij L) (fun x y => by simp [nij, D.py, D.pyL, PySem.W.alike, PySem.W.alikeAll]) (fun x => by simp [nij, D.plain, D.plainL, D.dep, D.depL]) (fun x => rfl) (a := a) hl'
    have key := comp_map (Γ := Γ) (vs := [5, 6]) (elt := .tup [(.blt "abs" [(.bin .Sub (.ix (.ix (.var 1) (.var 5)) (.cst (.int 1))) (.ix (.ix (.var 1) (.var 6)) (.cst (.int 1))))]), (.tup [(.var 5), (.var 6)])]) (tg := .tp [(.nm 5), (.nm 6)]) (src := .var 2) (cond := .cst (.bl true)) (ρ := [.val (.tup [.int top, .tup (ws.map D.int), .str f, .str "near", patD pat]), .val (.lst (L.map e3)), .val (.lst ((a :: l).map ij)), .no, .no, .no, .no]) (a :: l) ij (nij L) (by simp [LIM, Function.comp_def, conD, runD, evalSs, evalS, evalE, evalL, evalA, evalAnd, evalOr, evalI, evalJ, evalH, seqR, seqD, isSeqE, partR, partD, entry, iosAt, setS, parS, gather, iosOf, callR, putIos, binD, cmpD, ixD, atI, ixN, slD, isiD, D.ty, boolsOf, bindT, bindTs, wipeE, plainAt, backE, lend, Env.hide, SV.hide, SV.isOwn, SV.dat, SV.put, ownAt, shutE, ixD', compF, ofO, R.bind, R.bindB, R.toS, R.toSB, RS.bind, bq_len, bq_abs, bq_min, bq_max, bq_int, bq_all, bq_sorted, bq_list, bq_tuple, bLen, bAbs, bMin, bMax, bInt, bAll, bSorted, bList, bTuple]) (by rfl) (fun x hx => by
      obtain ⟨h1, h2⟩ := hm x hx
      have x1 : x.1 < L.length := by omega
      have q1 : L[x.1] = L.getD x.1 z3 := by simp [x1]
      have q2 : L[x.2] = L.getD x.2 z3 := by simp [h2]
      unfold nij
      generalize L.getD x.1 z3 = p at *
      generalize L.getD x.2 z3 = q at *
      simp [LIM, Function.comp_def, conD, runD, evalSs, evalS, evalE, evalL, evalA, evalAnd, evalOr, evalI, evalJ, evalH, seqR, seqD, isSeqE, partR, partD, entry, iosAt, setS, parS, gather, iosOf, callR, putIos, binD, cmpD, ixD, atI, ixN, slD, isiD, D.ty, boolsOf, bindT, bindTs, wipeE, plainAt, backE, lend, Env.hide, SV.hide, SV.isOwn, SV.dat, SV.put, ownAt, shutE, ixD', compF, ofO, R.bind, R.bindB, R.toS, R.toSB, RS.bind, bq_len, bq_abs, bq_min, bq_max, bq_int, bq_all, bq_sorted, bq_list, bq_tuple, bLen, bAbs, bMin, bMax, bInt, bAll, bSorted, bList, bTuple, ij, x1, h2, q1, q2, e3, absI]) (by simp; omega)
    generalize best (keyO "near" L) a l = b at *
    generalize hi : (a :: l).map ij = il at *
    simp only [List.map_cons] at key
    generalize nij L a = ia at *
    generalize l.map (nij L) = jl at *
    simp only [bMin] at bm
    simp [↓key, b_chosen, LIM, Function.comp_def, conD, runD, evalSs, evalS, evalE, evalL, evalA, evalAnd, evalOr, evalI, evalJ, evalH, seqR, seqD, isSeqE, partR, partD, entry, iosAt, setS, parS, gather, iosOf, callR, putIos, binD, cmpD, ixD, atI, ixN, slD, isiD, D.ty, boolsOf, bindT, bindTs, wipeE, plainAt, backE, lend, Env.hide, SV.hide, SV.isOwn, SV.dat, SV.put, ownAt, shutE, ixD', compF, ofO, R.bind, R.bindB, R.toS, R.toSB, RS.bind, bq_len, bq_abs, bq_min, bq_max, bq_int, bq_all, bq_sorted, bq_list, bq_tuple, bLen, bAbs, bMin, bMax, bInt, bAll, bSorted, bList, bTuple, Hl.d, g1, g2, g3, D.eqv, bm, ne_nf, ne_nl, nij, ij]
end W2

/-! The program's beat. -/
namespace W2
open PySem L2

theorem sIx_pos {n d : Nat} {r : Int} (h : 0 ≤ r) : HT.sIx n d (some r) = min r.toNat n := if_neg (by omega)
theorem cut_mid {ds : List D} {a b : Nat} (h : a ≤ b) (hb : b ≤ ds.length) : cutD ds (some (a : Int)) (some (b : Int)) = (ds.drop a).take (b - a) := by
  unfold cutD
  rw [sIx_pos (by omega), sIx_pos (by omega)]
  rw [Int.toNat_natCast, Int.toNat_natCast, Nat.min_eq_left hb, Nat.min_eq_left (Nat.le_trans h hb)]
theorem cutN_take {ds : List D} {a : Nat} : cutD ds none (some (a : Int)) = ds.take a := by
  rw [cut_take (by omega), Int.toNat_natCast]
theorem cutN_drop {ds : List D} {a : Nat} : cutD ds (some (a : Int)) none = ds.drop a := by
  rw [cut_drop (by omega), Int.toNat_natCast]
def m2 (p : Int × Int) : D := .tup [.int p.1, .int p.2]
def wB : List St := [.tgt (.tp [(.nm 8), (.nm 9)]) (.call "chosen" [(.var 0), (.var 7), (.var 10)]),
    .set 5 (.bin .Add (.var 5) (.lst [(.tup [(.ix (.ix (.var 7) (.var 8)) (.cst (.int 0))), (.ix (.ix (.var 7) (.var 9)) (.cst (.int 0)))])])),
    .set 7 (.bin .Add (.bin .Add (.sl (.var 7) .off (.var 8)) (.sl (.var 7) (.bin .Add (.var 8) (.cst (.int 1))) (.var 9))) (.sl (.var 7) (.bin .Add (.var 9) (.cst (.int 1))) .off)),
    .set 10 (.call "fitting" [(.var 0), (.var 7)])]
abbrev wC : E := .cmp .NotEq (.var 10) (.lst [])
theorem beat_turn {Γ : Ctr} {c1 c2 : List AV → CRes} (hf : Γ.fn "fitting" = some c1) (hc : Γ.fn "chosen" = some c2) (s1 : SFitting c1) (s2 : SChosen c2) {h : Hl} (k : h.Ok) {n : Nat} {cur : List P3} (w : WtOk h n cur) (hn : n ≤ 100) {a : Nat × Nat} {l : List (Nat × Nat)} (hp : prs h.fit cur = a :: l) {made : List D} (hm : made.length ≤ 1000) {dL dn dc dm : D} {x8 x9 : SV} (n8 : NI x8) (n9 : NI x9) :
    evalSs Γ FU wB [.val h.d, .val dL, .val dn, .val dc, .no, .val (.lst made), .val dm, .val (.lst (cur.map e3)), x8, x9, .val (.lst ((a :: l).map ij)), .no, .no, .no] =
      .nxt [.val h.d, .val dL, .val dn, .val dc, .no, .val (.lst (made ++ [m2 ((cur.getD (best (keyO h.o cur) a l).1 z3).1, (cur.getD (best (keyO h.o cur) a l).2 z3).1)])), .val dm, .val (.lst ((rem cur (best (keyO h.o cur) a l)).map e3)), .val (.int (best (keyO h.o cur) a l).1), .val (.int (best (keyO h.o cur) a l).2), .val (.lst ((prs h.fit (rem cur (best (keyO h.o cur) a l))).map ij)), .no, .no, .no] := by
  have wl := w.len
  have pl := prsN_len h.fit cur cur.length
  have hl : l.length < 20000 := by
    have e : (prs h.fit cur).length = l.length + 1 := by rw [hp]; rfl
    have mm : cur.length * cur.length ≤ 100 * 100 := Nat.mul_le_mul (by omega) (by omega)
    have pl : (prs h.fit cur).length ≤ cur.length * cur.length := pl
    omega
  have key1 := s2 h k cur a l (fun x hx => prs_mem (hp ▸ hx)) hl (by omega)
  have bm := prs_mem (hp ▸ best_mem (keyO h.o cur) l a)
  have key2 := s1 h k n (rem cur (best (keyO h.o cur) a l)) (w.sub (rem_sub cur bm.1)) hn
  generalize best (keyO h.o cur) a l = b at *
  generalize prs h.fit (rem cur b) = ps at *
  generalize (a :: l).map ij = il at *
  obtain ⟨i, j⟩ := b
  simp only at bm
  have hi : i < cur.length := by omega
  have q1 : cur[i] = cur.getD i z3 := by simp [hi]
  have q2 : cur[j] = cur.getD j z3 := by simp [bm.2]
  generalize cur.getD i z3 = p at *
  generalize cur.getD j z3 = q at *
  have ct1 : cutD (cur.map e3) none (some (i : Int)) = (cur.take i).map e3 := by rw [cutN_take, List.map_take]
  have ct2 : cutD (cur.map e3) (some ((i : Int) + 1)) (some (j : Int)) = ((cur.drop (i + 1)).take (j - (i + 1))).map e3 := by
    have := cut_mid (ds := cur.map e3) (a := i + 1) (b := j) (by omega) (by simp; omega)
    rw [show ((i : Int) + 1) = ((i + 1 : Nat) : Int) by omega, this, List.map_take, List.map_drop]
  have ct3 : cutD (cur.map e3) (some ((j : Int) + 1)) none = (cur.drop (j + 1)).map e3 := by
    rw [show ((j : Int) + 1) = ((j + 1 : Nat) : Int) by omega, cutN_drop, List.map_drop]
  have rl := rem_len (L := cur) (a := (i, j)) bm.1 bm.2
  unfold rem at key2 rl ⊢
  simp only at key2 rl ⊢
  generalize cur.take i = A at *
  generalize (cur.drop (i + 1)).take (j - (i + 1)) = B at *
  generalize cur.drop (j + 1) = C at *
  simp only [List.length_append] at rl
  simp only [List.map_append] at key2 ⊢
  have l1 : A.length ≤ 100000 := by omega
  have l2 : B.length ≤ 100000 := by omega
  have l3 : A.length + B.length ≤ 100000 := by omega
  have l4 : C.length ≤ 100000 := by omega
  have l5 : made.length ≤ 100000 := by omega
  have n8' : ∀ d, ¬ x8 = .io d := n8
  have n9' : ∀ d, ¬ x9 = .io d := n9
  generalize h.d = hd at *
  simp only [ij] at key1
  simp [wB, LIM, Function.comp_def, conD, runD, evalSs, evalS, evalE, evalL, evalA, evalAnd, evalOr, evalI, evalJ, evalH, seqR, seqD, isSeqE, partR, partD, entry, iosAt, parS, gather, iosOf, callR, putIos, binD, cmpD, ixD, atI, ixN, slD, isiD, D.ty, boolsOf, wipeE, plainAt, backE, lend, Env.hide, SV.hide, SV.isOwn, SV.dat, SV.put, ownAt, shutE, ixD', compF, ofO, R.bind, R.bindB, R.toS, R.toSB, RS.bind, bq_len, bq_abs, bq_min, bq_max, bq_int, bq_all, bq_sorted, bq_list, bq_tuple, bLen, bAbs, bMin, bMax, bInt, bAll, bSorted, bList, bTuple, setS_ok, bindT_ok, bindT_tp, bindTs, hf, hc, key1, key2, hi, bm.2, q1, q2, e3, m2, ct1, ct2, ct3, l1, l2, l3, l4, l5, n8', n9', List.append_assoc]

/-! ### the rounds of a beat -/
theorem ne_nil_test {Γ : Ctr} {ρ : Env} {ps : List (Nat × Nat)} (e : ρ[10]? = some (.val (.lst (ps.map ij)))) : evalE Γ wC ρ = .ok (.bl (!ps.isEmpty), false) ρ := by
  have g1 : (D.lst (ps.map ij)).good = true := good_map (n := 1) (by decide) (fun x => by simp [ij, D.plain, D.plainL, D.dep, D.depL]) ps
  have en := eqv_nil (ps.map ij)
  simp only [evalE, evalL, e, R.bind_ok, List.length_nil, Nat.zero_le, if_true, cmpD, g1, good_nil, Bool.and_self, Option.map_some, ofO_some, D.eqv, en]
  simp
def PN (s : SV) : Prop := s = .no ∨ ∃ d, s = .val d
theorem PN.ni {s : SV} (h : PN s) : NI s := by
  rcases h with rfl | ⟨d, rfl⟩
  · exact ni_no
  · exact ni_val d
theorem whl_beat {Γ : Ctr} {c1 c2 : List AV → CRes} (hf : Γ.fn "fitting" = some c1) (hc : Γ.fn "chosen" = some c2) (s1 : SFitting c1) (s2 : SChosen c2) {h : Hl} (k : h.Ok) {n : Nat} (hn : n ≤ 100) {dL dn dc dm : D} : ∀ (m F : Nat) (cur : List P3) (made : List D) (x8 x9 : SV), cur.length ≤ m → m < F → WtOk h n cur → made.length + m ≤ 1000 → PN x8 → PN x9 →
    ∃ y8 y9, PN y8 ∧ PN y9 ∧ whlL (evalE Γ wC) (evalSs Γ FU wB) F [.val h.d, .val dL, .val dn, .val dc, .no, .val (.lst made), .val dm, .val (.lst (cur.map e3)), x8, x9, .val (.lst ((prs h.fit cur).map ij)), .no, .no, .no] =
      .nxt [.val h.d, .val dL, .val dn, .val dc, .no, .val (.lst (made ++ (rounds h m cur).2.map m2)), .val dm, .val (.lst ((rounds h m cur).1.map e3)), y8, y9, .val (.lst []), .no, .no, .no]
  | m, 0, _, _, _, _, _, h2, _, _, _, _ => absurd h2 (Nat.not_lt_zero m)
  | m, F + 1, cur, made, x8, x9, h1, h2, w, hm, n8, n9 => by
    simp only [whlL]
    rw [ne_nil_test rfl]
    cases hp : prs h.fit cur with
    | nil =>
      refine ⟨x8, x9, n8, n9, ?_⟩
      have er : rounds h m cur = (cur, []) := by
        cases m with
        | zero => rfl
        | succ m =>
          have : pick h cur = none := by unfold pick; rw [hp]
          simp only [rounds, this]
      simp only [List.isEmpty_nil, Bool.not_true, R.toSB_ok, er, List.map_nil, List.append_nil]
    | cons a l =>
      have bm := prs_mem (hp ▸ best_mem (keyO h.o cur) l a)
      obtain ⟨m', rfl⟩ : ∃ m', m = m' + 1 := ⟨m - 1, by omega⟩
      have ep : pick h cur = some (best (keyO h.o cur) a l) := by unfold pick; rw [hp]
      have rl := rem_len bm.1 bm.2
      have turn := beat_turn (Γ := Γ) (dL := dL) (dn := dn) (dc := dc) (dm := dm) hf hc s1 s2 k w hn hp (made := made) (by omega) n8.ni n9.ni
      obtain ⟨y8, y9, m8, m9, ih⟩ := whl_beat hf hc s1 s2 k hn (dL := dL) (dn := dn) (dc := dc) (dm := dm) m' F (rem cur (best (keyO h.o cur) a l)) (made ++ [m2 ((cur.getD (best (keyO h.o cur) a l).1 z3).1, (cur.getD (best (keyO h.o cur) a l).2 z3).1)]) (.val (.int (best (keyO h.o cur) a l).1)) (.val (.int (best (keyO h.o cur) a l).2)) (by omega) (by omega) (w.sub (rem_sub cur bm.1)) (by simp; omega) (.inr ⟨_, rfl⟩) (.inr ⟨_, rfl⟩)
      refine ⟨y8, y9, m8, m9, ?_⟩
      simp only [List.isEmpty_cons, Bool.not_false, R.toSB_ok]
      rw [turn]
      simp only [RS.bind_nxt]
      rw [ih]
      simp only [rounds, ep, List.map_cons, List.append_assoc, List.singleton_append]

theorem evalSs_app {Γ : Ctr} {F : Nat} : ∀ (a b : List St) (ρ : Env), evalSs Γ F (a ++ b) ρ = (evalSs Γ F a ρ).bind (evalSs Γ F b)
  | [], b, ρ => by simp [evalSs]
  | s :: a, b, ρ => by
    simp only [List.cons_append, evalSs]
    cases e : evalS Γ F s ρ <;> simp [RS.bind, evalSs_app a b]
def bPre : List St := b_beat_of.take 4
def bPost : List St := b_beat_of.drop 5
theorem b_beat_eq : b_beat_of = bPre ++ ([.whl wC wB] ++ bPost) := rfl
def e3n (h : Hl) (p : P3) : P3 := (p.1, p.2.1, if p.2.2 + 1 < h.most then p.2.2 + 1 else h.most)
theorem now_eq (h : Hl) (L : List P3) (n : Int) (c : Option Int) : (nowOf h L n c).map e3 = L.map (fun p => e3 (e3n h p)) ++ (match c with
    | none => []
    | some s => [.tup [.int n, .int s, .int 0]]) := by
  unfold nowOf
  rw [List.map_append, List.map_map]
  cases c <;> rfl
theorem pre_ok {Γ : Ctr} {c0 c1 : List AV → CRes} (hm : Γ.fn "most_waited" = some c0) (hf : Γ.fn "fitting" = some c1) (s0 : SMost c0) (s1 : SFitting c1) {h : Hl} (k : h.Ok) {n : Nat} (hn : n < 100) {L : List P3} (w : WtOk h n L) (c : Option Int) :
    evalSs Γ FU bPre [.val h.d, .val (.lst (L.map e3)), .val (.int n), .val (patD c), .no, .no, .no, .no, .no, .no, .no, .no, .no, .no] =
      .nxt [.val h.d, .val (.lst (L.map e3)), .val (.int n), .val (patD c), .no, .val (.lst []), .val (.int h.most), .val (.lst ((nowOf h L n c).map e3)), .no, .no, .val (.lst ((prs h.fit (nowOf h L n c)).map ij)), .no, .no, .no] := by
  have k0 := s0 h k
  have k1 := s1 h k (n + 1) (nowOf h L n c) (now_ok k w c) (by omega)
  have wl := w.len
  have key := comp_map (Γ := Γ) (vs := [8, 12, 13]) (elt := .tup [(.var 8), (.var 12), (.blt "min" [(.var 6), (.bin .Add (.var 13) (.cst (.int 1)))])]) (tg := .tp [(.nm 8), (.nm 12), (.nm 13)]) (src := .var 1) (cond := .cst (.bl true)) (ρ := [.val h.d, .val (.lst (L.map e3)), .val (.int n), .val (patD c), .no, .no, .val (.int h.most), .no, .no, .no, .no, .no, .no, .no]) L e3 (fun p => e3 (e3n h p)) (by simp [LIM, Function.comp_def, conD, runD, evalSs, evalS, evalE, evalL, evalA, evalAnd, evalOr, evalI, evalJ, evalH, seqR, seqD, isSeqE, partR, partD, entry, iosAt, setS, parS, gather, iosOf, callR, putIos, binD, cmpD, ixD, atI, ixN, slD, isiD, D.ty, boolsOf, bindT, bindTs, wipeE, plainAt, backE, lend, Env.hide, SV.hide, SV.isOwn, SV.dat, SV.put, ownAt, shutE, ixD', compF, ofO, R.bind, R.bindB, R.toS, R.toSB, RS.bind, bq_len, bq_abs, bq_min, bq_max, bq_int, bq_all, bq_sorted, bq_list, bq_tuple, bLen, bAbs, bMin, bMax, bInt, bAll, bSorted, bList, bTuple]) (by rfl) (fun x hx => by
    generalize h.d = hd
    simp [LIM, Function.comp_def, conD, runD, evalSs, evalS, evalE, evalL, evalA, evalAnd, evalOr, evalI, evalJ, evalH, seqR, seqD, isSeqE, partR, partD, entry, iosAt, setS, parS, gather, iosOf, callR, putIos, binD, cmpD, ixD, atI, ixN, slD, isiD, D.ty, boolsOf, bindT, bindTs, wipeE, plainAt, backE, lend, Env.hide, SV.hide, SV.isOwn, SV.dat, SV.put, ownAt, shutE, ixD', compF, ofO, R.bind, R.bindB, R.toS, R.toSB, RS.bind, bq_len, bq_abs, bq_min, bq_max, bq_int, bq_all, bq_sorted, bq_list, bq_tuple, bLen, bAbs, bMin, bMax, bInt, bAll, bSorted, bList, bTuple, e3, e3n]) (by unfold LIM; omega)
  have ll : (L.map fun p => e3 (e3n h p)).length ≤ 100000 := by simp; omega
  generalize prs h.fit (nowOf h L n c) = ps at *
  rw [now_eq] at k1 ⊢
  generalize (L.map fun p => e3 (e3n h p)) = NL at *
  generalize hL : L.map e3 = LL at *
  generalize h.d = hd at *
  generalize h.most = mo at *
  have e0 : evalE Γ (.call "most_waited" [(.var 0)]) [.val hd, .val (.lst LL), .val (.int n), .val (patD c), .no, .no, .no, .no, .no, .no, .no, .no, .no, .no] = .ok (.int mo, false) [.val hd, .val (.lst LL), .val (.int n), .val (patD c), .no, .no, .no, .no, .no, .no, .no, .no, .no, .no] := by
    simp [LIM, Function.comp_def, conD, runD, evalSs, evalS, evalE, evalL, evalA, evalAnd, evalOr, evalI, evalJ, evalH, seqR, seqD, isSeqE, partR, partD, entry, iosAt, setS, parS, gather, iosOf, callR, putIos, binD, cmpD, ixD, atI, ixN, slD, isiD, D.ty, boolsOf, bindT, bindTs, wipeE, plainAt, backE, lend, Env.hide, SV.hide, SV.isOwn, SV.dat, SV.put, ownAt, shutE, ixD', compF, ofO, R.bind, R.bindB, R.toS, R.toSB, RS.bind, bq_len, bq_abs, bq_min, bq_max, bq_int, bq_all, bq_sorted, bq_list, bq_tuple, bLen, bAbs, bMin, bMax, bInt, bAll, bSorted, bList, bTuple, hm, k0]
  cases c with
  | none =>
    simp only [List.append_nil] at k1 ⊢
    simp only [patD] at key ⊢
    simp [↓key, bPre, b_beat_of, LIM, Function.comp_def, conD, runD, evalSs, evalS, evalE, evalL, evalA, evalAnd, evalOr, evalI, evalJ, evalH, seqR, seqD, isSeqE, partR, partD, entry, iosAt, setS, parS, gather, iosOf, callR, putIos, binD, cmpD, ixD, atI, ixN, slD, isiD, D.ty, boolsOf, bindT, bindTs, wipeE, plainAt, backE, lend, Env.hide, SV.hide, SV.isOwn, SV.dat, SV.put, ownAt, shutE, ixD', compF, ofO, R.bind, R.bindB, R.toS, R.toSB, RS.bind, bq_len, bq_abs, bq_min, bq_max, bq_int, bq_all, bq_sorted, bq_list, bq_tuple, bLen, bAbs, bMin, bMax, bInt, bAll, bSorted, bList, bTuple, hm, k0, hf, k1, patD, D.isN]
  | some s =>
    simp only at k1 ⊢
    simp only [patD] at key ⊢
    simp [↓key, bPre, b_beat_of, LIM, Function.comp_def, conD, runD, evalSs, evalS, evalE, evalL, evalA, evalAnd, evalOr, evalI, evalJ, evalH, seqR, seqD, isSeqE, partR, partD, entry, iosAt, setS, parS, gather, iosOf, callR, putIos, binD, cmpD, ixD, atI, ixN, slD, isiD, D.ty, boolsOf, bindT, bindTs, wipeE, plainAt, backE, lend, Env.hide, SV.hide, SV.isOwn, SV.dat, SV.put, ownAt, shutE, ixD', compF, ofO, R.bind, R.bindB, R.toS, R.toSB, RS.bind, bq_len, bq_abs, bq_min, bq_max, bq_int, bq_all, bq_sorted, bq_list, bq_tuple, bLen, bAbs, bMin, bMax, bInt, bAll, bSorted, bList, bTuple, hm, k0, hf, k1, patD, D.isN, ll]
theorem post_ok {Γ : Ctr} {h : Hl} (k : h.Ok) {Rs : List P3} (hR : Rs.length ≤ 1000) {made : List D} {dL dn dc dm : D} {x8 x9 : SV} (n8 : PN x8) (n9 : PN x9) :
    ∃ ρ', evalSs Γ FU bPost [.val h.d, .val dL, .val dn, .val dc, .no, .val (.lst made), .val dm, .val (.lst (Rs.map e3)), x8, x9, .val (.lst []), .no, .no, .no] =
      .ret (.tup [.lst ((Rs.filter fun p => !(goneOf h Rs).any fun z => z == p.1).map e3), .lst made, .lst ((goneOf h Rs).map D.int)], false) (.val h.d :: .val dL :: .val dn :: .val dc :: ρ') := by
  have p8 : plainAt [.val h.d, .val dL, .val dn, .val dc, .no, .val (.lst made), .val dm, .val (.lst (Rs.map e3)), x8, x9, .val (.lst []), .no, .no, .no] [8, 12, 13] = true := by
    rcases n8 with rfl | ⟨d, rfl⟩ <;> rfl
  have key1 := comp_filt (Γ := Γ) (vs := [8, 12, 13]) (elt := .var 8) (tg := .tp [(.nm 8), (.nm 12), (.nm 13)]) (src := .var 7) (cond := .andE [(.cmp .IsNot (.ix (.var 0) (.cst (.int 4))) (.cst .non)), (.cmp .GtE (.var 13) (.ix (.var 0) (.cst (.int 4))))]) (ρ := [.val h.d, .val dL, .val dn, .val dc, .no, .val (.lst made), .val dm, .val (.lst (Rs.map e3)), x8, x9, .val (.lst []), .no, .no, .no]) Rs e3
    (fun p => match h.pat with | none => false | some i => decide (i ≤ p.2.2)) (fun p => .int p.1) (by simp [LIM, Function.comp_def, conD, runD, evalSs, evalS, evalE, evalL, evalA, evalAnd, evalOr, evalI, evalJ, evalH, seqR, seqD, isSeqE, partR, partD, entry, iosAt, setS, parS, gather, iosOf, callR, putIos, binD, cmpD, ixD, atI, ixN, slD, isiD, D.ty, boolsOf, bindT, bindTs, wipeE, plainAt, backE, lend, Env.hide, SV.hide, SV.isOwn, SV.dat, SV.put, ownAt, shutE, ixD', compF, ofO, R.bind, R.bindB, R.toS, R.toSB, RS.bind, bq_len, bq_abs, bq_min, bq_max, bq_int, bq_all, bq_sorted, bq_list, bq_tuple, bLen, bAbs, bMin, bMax, bInt, bAll, bSorted, bList, bTuple]) p8 (fun x hx => by
      obtain ⟨top, ws, f, o, pat⟩ := h
      cases pat with
      | none => simp [LIM, Function.comp_def, conD, runD, evalSs, evalS, evalE, evalL, evalA, evalAnd, evalOr, evalI, evalJ, evalH, seqR, seqD, isSeqE, partR, partD, entry, iosAt, setS, parS, gather, iosOf, callR, putIos, binD, cmpD, ixD, atI, ixN, slD, isiD, D.ty, boolsOf, bindT, bindTs, wipeE, plainAt, backE, lend, Env.hide, SV.hide, SV.isOwn, SV.dat, SV.put, ownAt, shutE, ixD', compF, ofO, R.bind, R.bindB, R.toS, R.toSB, RS.bind, bq_len, bq_abs, bq_min, bq_max, bq_int, bq_all, bq_sorted, bq_list, bq_tuple, bLen, bAbs, bMin, bMax, bInt, bAll, bSorted, bList, bTuple, e3, Hl.d, patD, D.isN]
      | some i =>
        by_cases hi : i ≤ x.2.2 <;> simp [LIM, Function.comp_def, conD, runD, evalSs, evalS, evalE, evalL, evalA, evalAnd, evalOr, evalI, evalJ, evalH, seqR, seqD, isSeqE, partR, partD, entry, iosAt, setS, parS, gather, iosOf, callR, putIos, binD, cmpD, ixD, atI, ixN, slD, isiD, D.ty, boolsOf, bindT, bindTs, wipeE, plainAt, backE, lend, Env.hide, SV.hide, SV.isOwn, SV.dat, SV.put, ownAt, shutE, ixD', compF, ofO, R.bind, R.bindB, R.toS, R.toSB, RS.bind, bq_len, bq_abs, bq_min, bq_max, bq_int, bq_all, bq_sorted, bq_list, bq_tuple, bLen, bAbs, bMin, bMax, bInt, bAll, bSorted, bList, bTuple, e3, Hl.d, patD, D.isN, hi]) (by unfold LIM; omega)
  have eg : ((Rs.filter fun p => match h.pat with | none => false | some i => decide (i ≤ p.2.2)).map fun p => D.int p.1) = (goneOf h Rs).map D.int := by
    unfold goneOf; rw [List.map_map]; rfl
  rw [eg] at key1
  have gg := good_ints (goneOf h Rs)
  have ga : ∀ z : Int, ((goneOf h Rs).map D.int).any (fun y => y.eqv (.int z)) = (goneOf h Rs).any fun y => y == z := fun z => by
    rw [List.any_map]; rfl
  generalize goneOf h Rs = G at *
  have key2 := comp_filt (Γ := Γ) (vs := [11]) (elt := .var 11) (tg := .nm 11) (src := .var 7) (cond := .cmp .NotIn (.ix (.var 11) (.cst (.int 0))) (.var 4)) (ρ := [.val h.d, .val dL, .val dn, .val dc, .val (.lst (G.map D.int)), .val (.lst made), .val dm, .val (.lst (Rs.map e3)), x8, x9, .val (.lst []), .no, .no, .no]) Rs e3
    (fun p => !G.any fun z => z == p.1) e3 (by simp [LIM, Function.comp_def, conD, runD, evalSs, evalS, evalE, evalL, evalA, evalAnd, evalOr, evalI, evalJ, evalH, seqR, seqD, isSeqE, partR, partD, entry, iosAt, setS, parS, gather, iosOf, callR, putIos, binD, cmpD, ixD, atI, ixN, slD, isiD, D.ty, boolsOf, bindT, bindTs, wipeE, plainAt, backE, lend, Env.hide, SV.hide, SV.isOwn, SV.dat, SV.put, ownAt, shutE, ixD', compF, ofO, R.bind, R.bindB, R.toS, R.toSB, RS.bind, bq_len, bq_abs, bq_min, bq_max, bq_int, bq_all, bq_sorted, bq_list, bq_tuple, bLen, bAbs, bMin, bMax, bInt, bAll, bSorted, bList, bTuple]) (by rfl) (fun x hx => by
      generalize h.d = hd
      have ga' := ga x.1
      cases hz : G.any (fun z => z == x.1) with
      | false => rw [hz] at ga'; simp [LIM, Function.comp_def, conD, runD, evalSs, evalS, evalE, evalL, evalA, evalAnd, evalOr, evalI, evalJ, evalH, seqR, seqD, isSeqE, partR, partD, entry, iosAt, setS, parS, gather, iosOf, callR, putIos, binD, cmpD, ixD, atI, ixN, slD, isiD, D.ty, boolsOf, bindT, bindTs, wipeE, plainAt, backE, lend, Env.hide, SV.hide, SV.isOwn, SV.dat, SV.put, ownAt, shutE, ixD', compF, ofO, R.bind, R.bindB, R.toS, R.toSB, RS.bind, bq_len, bq_abs, bq_min, bq_max, bq_int, bq_all, bq_sorted, bq_list, bq_tuple, bLen, bAbs, bMin, bMax, bInt, bAll, bSorted, bList, bTuple, e3, gg, ga', good_int]
      | true => rw [hz] at ga'; simp [LIM, Function.comp_def, conD, runD, evalSs, evalS, evalE, evalL, evalA, evalAnd, evalOr, evalI, evalJ, evalH, seqR, seqD, isSeqE, partR, partD, entry, iosAt, setS, parS, gather, iosOf, callR, putIos, binD, cmpD, ixD, atI, ixN, slD, isiD, D.ty, boolsOf, bindT, bindTs, wipeE, plainAt, backE, lend, Env.hide, SV.hide, SV.isOwn, SV.dat, SV.put, ownAt, shutE, ixD', compF, ofO, R.bind, R.bindB, R.toS, R.toSB, RS.bind, bq_len, bq_abs, bq_min, bq_max, bq_int, bq_all, bq_sorted, bq_list, bq_tuple, bLen, bAbs, bMin, bMax, bInt, bAll, bSorted, bList, bTuple, e3, gg, ga', good_int]) (by unfold LIM; omega)
  generalize (Rs.filter fun p => !G.any fun z => z == p.1).map e3 = W at *
  generalize G.map D.int = GD at *
  generalize Rs.map e3 = RD at *
  generalize h.d = hd at *
  refine ⟨[.val (.lst GD), .val (.lst made), .val dm, .val (.lst RD), x8, x9, .val (.lst []), .no, .no, .no], ?_⟩
  simp [bPost, b_beat_of, LIM, Function.comp_def, conD, runD, evalSs, evalS, evalE, evalL, evalA, evalAnd, evalOr, evalI, evalJ, evalH, seqR, seqD, isSeqE, partR, partD, entry, iosAt, parS, gather, iosOf, callR, putIos, binD, cmpD, ixD, atI, ixN, slD, isiD, D.ty, boolsOf, wipeE, plainAt, backE, lend, Env.hide, SV.hide, SV.isOwn, SV.dat, SV.put, ownAt, shutE, ixD', compF, ofO, R.bind, R.bindB, R.toS, R.toSB, RS.bind, bq_len, bq_abs, bq_min, bq_max, bq_int, bq_all, bq_sorted, bq_list, bq_tuple, bLen, bAbs, bMin, bMax, bInt, bAll, bSorted, bList, bTuple, setS_ok, bindT_ok, bindT_tp, bindTs, ↓key1, ↓key2]
def beatR (h : Hl) (L : List P3) (n : Nat) (c : Option Int) : D := .tup [.lst ((beatW h L n c).map e3), .lst ((beatM h L n c).map m2), .lst ((beatG h L n c).map D.int)]
def SBeat (c : List AV → CRes) : Prop := ∀ h : Hl, h.Ok → ∀ (n : Nat) (L : List P3), WtOk h n L → n < 100 → ∀ o : Option Int, c [.val h.d, .val (.lst (L.map e3)), .val (.int n), .val (patD o)] = .ok (beatR h L n o, false) []
theorem conD_ret {Γ : Ctr} {F p n : Nat} {t : List St} {as : List AV} {v : Vl} {ρ : Env} {ds : List D} (hl : as.length = p) (e : evalSs Γ F t (entry n as) = .ret v ρ) (hi : iosAt as ρ = some ds) : conD Γ F p n t as = .ok v ds := by
  unfold conD
  rw [if_pos hl]
  unfold runD
  rw [e]
  simp only [hi]
theorem beat_s (Γ : Ctr) (c0 c1 c2 : List AV → CRes) (hm : Γ.fn "most_waited" = some c0) (hf : Γ.fn "fitting" = some c1) (hc : Γ.fn "chosen" = some c2) (s0 : SMost c0) (s1 : SFitting c1) (s2 : SChosen c2) : SBeat (conD Γ FU 4 14 b_beat_of) := by
  intro h k n L w hn o
  have e1 := pre_ok hm hf s0 s1 k hn w o
  have wn := now_ok k w o
  have ln := wn.len
  obtain ⟨y8, y9, m8, m9, e2⟩ := whl_beat hf hc s1 s2 k (n := n + 1) (by omega) (dL := .lst (L.map e3)) (dn := .int n) (dc := patD o) (dm := .int h.most) (nowOf h L n o).length FU (nowOf h L n o) [] .no .no (Nat.le_refl _) (by show _ < 100000; omega) wn (by simp; omega) (.inl rfl) (.inl rfl)
  have lr := (rounds_sub h (nowOf h L n o).length (nowOf h L n o)).1.length_le
  obtain ⟨ρ', ee3⟩ := post_ok (Γ := Γ) k (Rs := (rounds h (nowOf h L n o).length (nowOf h L n o)).1) (by omega) (made := [] ++ (rounds h (nowOf h L n o).length (nowOf h L n o)).2.map m2) (dL := .lst (L.map e3)) (dn := .int n) (dc := patD o) (dm := .int h.most) m8 m9
  have e4 : evalSs Γ FU b_beat_of [.val h.d, .val (.lst (L.map e3)), .val (.int n), .val (patD o), .no, .no, .no, .no, .no, .no, .no, .no, .no, .no] = .ret (beatR h L n o, false) (.val h.d :: .val (.lst (L.map e3)) :: .val (.int n) :: .val (patD o) :: ρ') := by
    rw [b_beat_eq, evalSs_app, e1]
    simp only [RS.bind_nxt]
    rw [evalSs_app]
    simp only [evalSs, evalS]
    rw [e2]
    simp only [RS.bind_nxt]
    exact ee3
  exact conD_ret rfl e4 rfl
end W2

/-! Rows of comings. -/
namespace W2
open PySem L2

def cnt : Option Int → Nat
  | none => 0
  | some _ => 1
theorem now_ok2 {h : Hl} (k : h.Ok) {n : Nat} {L : List P3} (w : WtOk h n L) (c : Option Int) : WtOk h (n + cnt c) (nowOf h L n c) := by
  cases c with
  | some s => exact now_ok k w (some s)
  | none =>
    have m := most_pos k
    unfold nowOf
    simp only [List.append_nil]
    refine ⟨?_, fun p hp => ?_, fun p hp => ?_, ?_⟩
    · rw [List.pairwise_map]
      exact w.up.imp fun h => h
    · obtain ⟨p', hp', rfl⟩ := List.mem_map.mp hp
      exact w.lt p' hp'
    · obtain ⟨p', hp', rfl⟩ := List.mem_map.mp hp
      have := w.w0 p' hp'
      show 0 ≤ (if p'.2.2 + 1 < h.most then p'.2.2 + 1 else h.most) ∧ (if p'.2.2 + 1 < h.most then p'.2.2 + 1 else h.most) ≤ h.most
      split <;> omega
    · simp
      exact w.len
theorem beat_ok2 {h : Hl} (k : h.Ok) {n : Nat} {L : List P3} (w : WtOk h n L) (c : Option Int) : WtOk h (n + cnt c) (beatW h L n c) := (rounds_ok (now_ok2 k w c)).sub List.filter_sublist
theorem beatM_len {h : Hl} (k : h.Ok) {n : Nat} {L : List P3} (w : WtOk h n L) (c : Option Int) : (beatM h L n c).length ≤ n + 1 := by
  have h1 := (rounds_sub h (nowOf h L n c).length (nowOf h L n c)).2
  have h2 := (now_ok k w c).len
  unfold beatM
  omega
theorem beatG_len {h : Hl} (k : h.Ok) {n : Nat} {L : List P3} (w : WtOk h n L) (c : Option Int) : (beatG h L n c).length ≤ n + 1 := by
  have h1 := (rounds_sub h (nowOf h L n c).length (nowOf h L n c)).1.length_le
  have h2 := (now_ok k w c).len
  have h3 : (beatG h L n c).length ≤ (rounds h (nowOf h L n c).length (nowOf h L n c)).1.length := by
    unfold beatG goneOf
    rw [List.length_map]
    exact List.length_filter_le _ _
  omega
def t3 (k : Nat) (p : Int × Int) : D := .tup [.int k, .int p.1, .int p.2]
def t2 (k : Nat) (i : Int) : D := .tup [.int k, .int i]
structure RSt where
  W : List P3
  n : Nat
  M : List D
  G : List D
def runS (h : Hl) (row : List (Option Int)) : Nat → RSt
  | 0 => ⟨[], 0, [], []⟩
  | k + 1 => ⟨beatW h (runS h row k).W (runS h row k).n (row.getD k none), (runS h row k).n + cnt (row.getD k none), (runS h row k).M ++ (beatM h (runS h row k).W (runS h row k).n (row.getD k none)).map (t3 k), (runS h row k).G ++ (beatG h (runS h row k).W (runS h row k).n (row.getD k none)).map (t2 k)⟩
theorem runS_ok {h : Hl} (k : h.Ok) (row : List (Option Int)) : ∀ i, i ≤ 60 → WtOk h (runS h row i).n (runS h row i).W ∧ (runS h row i).n ≤ i ∧ (runS h row i).M.length ≤ 61 * i ∧ (runS h row i).G.length ≤ 61 * i
  | 0, _ => ⟨⟨by simp [runS], by simp [runS], by simp [runS], by simp [runS]⟩, Nat.le_refl _, by simp [runS], by simp [runS]⟩
  | i + 1, hi => by
    obtain ⟨h1, h2, h3, h4⟩ := runS_ok k row i (by omega)
    have hm := beatM_len k h1 (row.getD i none)
    have hg := beatG_len k h1 (row.getD i none)
    refine ⟨beat_ok2 k h1 _, ?_, ?_, ?_⟩
    · show _ + cnt _ ≤ _
      have : cnt (row.getD i none) ≤ 1 := by cases row.getD i none <;> simp [cnt]
      omega
    · show List.length (_ ++ _ : List D) ≤ _
      rw [List.length_append, List.length_map]
      omega
    · show List.length (_ ++ _ : List D) ≤ _
      rw [List.length_append, List.length_map]
      omega
def runR (h : Hl) (row : List (Option Int)) : D := .tup [.lst ((runS h row row.length).W.map e3), .lst (runS h row row.length).M, .lst (runS h row row.length).G]
def SRun (c : List AV → CRes) : Prop := ∀ h : Hl, h.Ok → ∀ row : List (Option Int), row.length ≤ 60 → c [.val h.d, .val (.tup (row.map patD))] = .ok (runR h row, false) []
def rB : List St := [.tgt (.tp [(.nm 11), (.nm 10), (.nm 5)]) (.call "beat_of" [(.var 0), (.var 11), (.var 7), (.var 3)]),
    .set 6 (.bin .Add (.var 6) (.comp [8, 9] (.tup [(.var 2), (.var 8), (.var 9)]) (.tp [(.nm 8), (.nm 9)]) (.var 10) (.cst (.bl true)))),
    .set 4 (.bin .Add (.var 4) (.comp [8] (.tup [(.var 2), (.var 8)]) (.nm 8) (.var 5) (.cst (.bl true)))),
    .set 7 (.bin .Add (.var 7) (.blt "int" [(.cmp .IsNot (.var 3) (.cst .non))]))]
theorem run_turn {Γ : Ctr} {c : List AV → CRes} (hb : Γ.fn "beat_of" = some c) (s : SBeat c) {h : Hl} (k : h.Ok) {n i : Nat} {W : List P3} (w : WtOk h n W) (hn : n ≤ 60) {M G : List D} (hM : M.length ≤ 5000) (hG : G.length ≤ 5000) (o : Option Int) {rd : D} {x5 x10 : SV} (n5 : PN x5) (n10 : PN x10) :
    ∃ y5 y10, PN y5 ∧ PN y10 ∧ evalSs Γ FU rB [.val h.d, .val rd, .val (.int i), .val (patD o), .val (.lst G), x5, .val (.lst M), .val (.int n), .no, .no, x10, .val (.lst (W.map e3))] =
      .nxt [.val h.d, .val rd, .val (.int i), .val (patD o), .val (.lst (G ++ (beatG h W n o).map (t2 i))), y5, .val (.lst (M ++ (beatM h W n o).map (t3 i))), .val (.int ((n + cnt o : Nat) : Int)), .no, .no, y10, .val (.lst ((beatW h W n o).map e3))] := by
  have key := s h k n W w (by omega) o
  have lm := beatM_len k w o
  have lg := beatG_len k w o
  have ec : (n : Int) + (if (!(patD o).isN) = true then 1 else 0) = ((n + cnt o : Nat) : Int) := by
    cases o with
    | none => simp [patD, D.isN, cnt]
    | some _ => simp [patD, D.isN, cnt]
  unfold beatR at key
  generalize beatM h W n o = m at *
  generalize beatG h W n o = g at *
  generalize (beatW h W n o).map e3 = nw at *
  generalize patD o = od at *
  generalize h.d = hd at *
  refine ⟨.val (.lst (g.map D.int)), .val (.lst (m.map m2)), .inr ⟨_, rfl⟩, .inr ⟨_, rfl⟩, ?_⟩
  have k1 := comp_map (Γ := Γ) (vs := [8, 9]) (elt := .tup [(.var 2), (.var 8), (.var 9)]) (tg := .tp [(.nm 8), (.nm 9)]) (src := .var 10) (cond := .cst (.bl true)) (ρ := [.val hd, .val rd, .val (.int i), .val od, .val (.lst G), .val (.lst (g.map D.int)), .val (.lst M), .val (.int n), .no, .no, .val (.lst (m.map m2)), .val (.lst nw)]) m m2 (t3 i) (by simp [LIM, Function.comp_def, conD, runD, evalSs, evalS, evalE, evalL, evalA, evalAnd, evalOr, evalI, evalJ, evalH, seqR, seqD, isSeqE, partR, partD, entry, iosAt, setS, parS, gather, iosOf, callR, putIos, binD, cmpD, ixD, atI, ixN, slD, isiD, D.ty, boolsOf, bindT, bindTs, wipeE, plainAt, backE, lend, Env.hide, SV.hide, SV.isOwn, SV.dat, SV.put, ownAt, shutE, ixD', compF, ofO, R.bind, R.bindB, R.toS, R.toSB, RS.bind, bq_len, bq_abs, bq_min, bq_max, bq_int, bq_all, bq_sorted, bq_list, bq_tuple, bLen, bAbs, bMin, bMax, bInt, bAll, bSorted, bList, bTuple]) (by rfl) (fun x hx => by simp [LIM, Function.comp_def, conD, runD, evalSs, evalS, evalE, evalL, evalA, evalAnd, evalOr, evalI, evalJ, evalH, seqR, seqD, isSeqE, partR, partD, entry, iosAt, setS, parS, gather, iosOf, callR, putIos, binD, cmpD, ixD, atI, ixN, slD, isiD, D.ty, boolsOf, bindT, bindTs, wipeE, plainAt, backE, lend, Env.hide, SV.hide, SV.isOwn, SV.dat, SV.put, ownAt, shutE, ixD', compF, ofO, R.bind, R.bindB, R.toS, R.toSB, RS.bind, bq_len, bq_abs, bq_min, bq_max, bq_int, bq_all, bq_sorted, bq_list, bq_tuple, bLen, bAbs, bMin, bMax, bInt, bAll, bSorted, bList, bTuple, m2, t3]) (by unfold LIM; omega)
  have k2 := comp_map (Γ := Γ) (vs := [8]) (elt := .tup [(.var 2), (.var 8)]) (tg := .nm 8) (src := .var 5) (cond := .cst (.bl true)) (ρ := [.val hd, .val rd, .val (.int i), .val od, .val (.lst G), .val (.lst (g.map D.int)), .val (.lst (M ++ m.map (t3 i))), .val (.int n), .no, .no, .val (.lst (m.map m2)), .val (.lst nw)]) g D.int (t2 i) (by simp [LIM, Function.comp_def, conD, runD, evalSs, evalS, evalE, evalL, evalA, evalAnd, evalOr, evalI, evalJ, evalH, seqR, seqD, isSeqE, partR, partD, entry, iosAt, setS, parS, gather, iosOf, callR, putIos, binD, cmpD, ixD, atI, ixN, slD, isiD, D.ty, boolsOf, bindT, bindTs, wipeE, plainAt, backE, lend, Env.hide, SV.hide, SV.isOwn, SV.dat, SV.put, ownAt, shutE, ixD', compF, ofO, R.bind, R.bindB, R.toS, R.toSB, RS.bind, bq_len, bq_abs, bq_min, bq_max, bq_int, bq_all, bq_sorted, bq_list, bq_tuple, bLen, bAbs, bMin, bMax, bInt, bAll, bSorted, bList, bTuple]) (by rfl) (fun x hx => by simp [LIM, Function.comp_def, conD, runD, evalSs, evalS, evalE, evalL, evalA, evalAnd, evalOr, evalI, evalJ, evalH, seqR, seqD, isSeqE, partR, partD, entry, iosAt, setS, parS, gather, iosOf, callR, putIos, binD, cmpD, ixD, atI, ixN, slD, isiD, D.ty, boolsOf, bindT, bindTs, wipeE, plainAt, backE, lend, Env.hide, SV.hide, SV.isOwn, SV.dat, SV.put, ownAt, shutE, ixD', compF, ofO, R.bind, R.bindB, R.toS, R.toSB, RS.bind, bq_len, bq_abs, bq_min, bq_max, bq_int, bq_all, bq_sorted, bq_list, bq_tuple, bLen, bAbs, bMin, bMax, bInt, bAll, bSorted, bList, bTuple, t2]) (by unfold LIM; omega)
  have n5' : ∀ d, ¬ x5 = .io d := n5.ni
  have n10' : ∀ d, ¬ x10 = .io d := n10.ni
  have l1 : M.length ≤ 100000 := by omega
  have l2 : G.length ≤ 100000 := by omega
  have l3 : (m.map (t3 i)).length ≤ 100000 := by rw [List.length_map]; omega
  have l4 : (g.map (t2 i)).length ≤ 100000 := by rw [List.length_map]; omega
  generalize m.map (t3 i) = mt at *
  generalize g.map (t2 i) = gt at *
  generalize g.map D.int = gd at *
  generalize m.map m2 = md at *
  generalize W.map e3 = wd at *
  generalize ((n + cnt o : Nat) : Int) = n' at *
  simp [rB, LIM, Function.comp_def, conD, runD, evalSs, evalS, evalE, evalL, evalA, evalAnd, evalOr, evalI, evalJ, evalH, seqR, seqD, isSeqE, partR, partD, entry, iosAt, parS, gather, iosOf, callR, putIos, binD, cmpD, ixD, atI, ixN, slD, isiD, D.ty, boolsOf, wipeE, plainAt, backE, lend, Env.hide, SV.hide, SV.isOwn, SV.dat, SV.put, ownAt, shutE, ixD', compF, ofO, R.bind, R.bindB, R.toS, R.toSB, RS.bind, bq_len, bq_abs, bq_min, bq_max, bq_int, bq_all, bq_sorted, bq_list, bq_tuple, bLen, bAbs, bMin, bMax, bInt, bAll, bSorted, bList, bTuple, setS_ok, bindT_ok, bindT_tp, bindTs, hb, key, ↓k1, ↓k2, n5', n10', l1, l2, l3, l4]
  simpa using ec
theorem getD_none {row : List (Option Int)} {i : Nat} {o : Option Int} (h : row[i]? = some o) : o = row.getD i none := by
  rw [List.getD_eq_getElem?_getD, h]; rfl
end W2

/-! The law's own pair. -/
namespace W2
open PySem L2

def SWin (c : List AV → CRes) : Prop := ∀ h : Hl, h.Ok → ∀ w : Int, 0 ≤ w → c [.val h.d, .val (.int w)] = .ok (.int (h.win w), false) []
theorem window_s (Γ : Ctr) : SWin (conD Γ FU 2 2 b_law_window) := by
  intro h k w hw
  obtain ⟨top, ws, f, o, pat⟩ := h
  obtain ⟨m, hm, m0, m1, mx⟩ := win_get (ws := ws) (w := w) k.w1 hw
  simp [b_law_window, LIM, Function.comp_def, conD, runD, evalSs, evalS, evalE, evalL, evalA, evalAnd, evalOr, evalI, evalJ, evalH, seqR, seqD, isSeqE, partR, partD, entry, iosAt, setS, parS, gather, iosOf, callR, putIos, binD, cmpD, ixD, atI, ixN, slD, isiD, D.ty, boolsOf, bindT, bindTs, wipeE, plainAt, backE, lend, Env.hide, SV.hide, SV.isOwn, SV.dat, SV.put, ownAt, shutE, ixD', compF, ofO, R.bind, R.bindB, R.toS, R.toSB, RS.bind, bq_len, bq_abs, bq_min, bq_max, bq_int, bq_all, bq_sorted, bq_list, bq_tuple, bLen, bAbs, bMin, bMax, bInt, bAll, bSorted, bList, bTuple, Hl.d, ← hm, m0, m1, mx, Hl.win]
theorem max2 (a b : Int) : bMax [.lst [.int a, .int b]] = some (.int (if a < b then b else a), false) := by
  show (bestD true (.int a) [.int b]).map (fun y => (y, false)) = _
  unfold bestD
  rw [show (D.lst [.int a, .int b]).good = true from rfl, show D.alikes [.int a, .int b] = true from rfl, show [D.int a, .int b].any D.isN = false from rfl]
  simp only [List.foldl_cons, List.foldl_nil, if_true, D.py, PySem.W.dataLt_int]
  by_cases h : a < b <;> simp [h, LIM]
theorem min2 (a b : Int) : bMin [.lst [.int a, .int b]] = some (.int (if b < a then b else a), false) := by
  show (bestD false (.int a) [.int b]).map (fun y => (y, false)) = _
  unfold bestD
  rw [show (D.lst [.int a, .int b]).good = true from rfl, show D.alikes [.int a, .int b] = true from rfl, show [D.int a, .int b].any D.isN = false from rfl]
  simp only [List.foldl_cons, List.foldl_nil, Bool.false_eq_true, if_false, D.py, PySem.W.dataLt_int]
  by_cases h : b < a <;> simp [h, LIM]
theorem law_fit_s (Γ : Ctr) (c : List AV → CRes) (hw : Γ.fn "_law_window" = some c) (s : SWin c) : SFit (conD Γ FU 3 5 b_law_fits) := by
  intro h k p q hp hq
  obtain ⟨pn, ps, pw⟩ := p
  obtain ⟨qn, qs, qw⟩ := q
  simp only at hp hq
  have g1 := good_str ok_wide
  have g2 := good_str ok_narrow
  have kf : h.f = "narrow" ∨ h.f = "wide" := k.f
  have key := s h k (wtOf h.f (pn, ps, pw) (qn, qs, qw)) (by unfold wtOf; simp only; split <;> split <;> omega)
  obtain ⟨top, ws, f, o, pat⟩ := h
  simp only at kf
  have x1 := max2 pw qw
  have x2 := min2 pw qw
  simp only [bMax] at x1
  simp only [bMin] at x2
  rcases kf with rfl | rfl
  · simp only [wtOf, if_neg nw_ne, Hl.d] at key
    simp [b_law_fits, LIM, Function.comp_def, conD, runD, evalSs, evalS, evalE, evalL, evalA, evalAnd, evalOr, evalI, evalJ, evalH, seqR, seqD, isSeqE, partR, partD, entry, iosAt, setS, parS, gather, iosOf, callR, putIos, binD, cmpD, ixD, atI, ixN, slD, isiD, D.ty, boolsOf, bindT, bindTs, wipeE, plainAt, backE, lend, Env.hide, SV.hide, SV.isOwn, SV.dat, SV.put, ownAt, shutE, ixD', compF, ofO, R.bind, R.bindB, R.toS, R.toSB, RS.bind, bq_len, bq_abs, bq_min, bq_max, bq_int, bq_all, bq_sorted, bq_list, bq_tuple, bLen, bAbs, bMin, bMax, bInt, bAll, bSorted, bList, bTuple, Hl.d, e3, g1, g2, D.eqv, nw_ne, x1, x2, hw, key, Hl.fit, wtOf, absI]
  · simp only [wtOf, if_true, Hl.d] at key
    simp [b_law_fits, LIM, Function.comp_def, conD, runD, evalSs, evalS, evalE, evalL, evalA, evalAnd, evalOr, evalI, evalJ, evalH, seqR, seqD, isSeqE, partR, partD, entry, iosAt, setS, parS, gather, iosOf, callR, putIos, binD, cmpD, ixD, atI, ixN, slD, isiD, D.ty, boolsOf, bindT, bindTs, wipeE, plainAt, backE, lend, Env.hide, SV.hide, SV.isOwn, SV.dat, SV.put, ownAt, shutE, ixD', compF, ofO, R.bind, R.bindB, R.toS, R.toSB, RS.bind, bq_len, bq_abs, bq_min, bq_max, bq_int, bq_all, bq_sorted, bq_list, bq_tuple, bLen, bAbs, bMin, bMax, bInt, bAll, bSorted, bList, bTuple, Hl.d, e3, g1, g2, D.eqv, nw_ne, x1, x2, hw, key, Hl.fit, wtOf, absI]

/-! ### rows -/
def keyD (o : Str) (L : List P3) (a : Nat × Nat) : D :=
  if o = "near" then .tup [.int (absI ((L.getD a.1 z3).2.1 - (L.getD a.2 z3).2.1)), .int (L.getD a.1 z3).1, .int (L.getD a.2 z3).1] else
  if o = "last" then .tup [.int (0 - (L.getD a.2 z3).1), .int (0 - (L.getD a.1 z3).1)] else .tup [.int (L.getD a.1 z3).1, .int (L.getD a.2 z3).1]
def rowL (o : Str) (L : List P3) (a : Nat × Nat) : D := .tup [keyD o L a, e3 (L.getD a.1 z3), e3 (L.getD a.2 z3)]
theorem num_lt {L : List P3} (up : L.Pairwise fun p q => p.1 < q.1) {i j : Nat} (h : i < j) (hj : j < L.length) : (L.getD i z3).1 < (L.getD j z3).1 := by
  have := List.pairwise_iff_getElem.mp up i j (by omega) hj h
  have e1 : L.getD i z3 = L[i] := by simp [show i < L.length by omega]
  have e2 : L.getD j z3 = L[j] := by simp [hj]
  rw [e1, e2]; exact this
theorem num_iff {L : List P3} (up : L.Pairwise fun p q => p.1 < q.1) {i j : Nat} (hi : i < L.length) (hj : j < L.length) : ((L.getD i z3).1 < (L.getD j z3).1 ↔ i < j) ∧ ((L.getD i z3).1 = (L.getD j z3).1 ↔ i = j) := by
  rcases Nat.lt_trichotomy i j with h | h | h
  · have := num_lt up h hj
    constructor <;> constructor <;> intro <;> omega
  · subst h
    constructor <;> constructor <;> intro <;> omega
  · have := num_lt up h hi
    constructor <;> constructor <;> intro <;> omega
theorem lt_iii (a b c d e f : Int) : PySem.W.dataLt (.tuple [.int a, .int b, .int c]) (.tuple [.int d, .int e, .int f]) = decide (a < d ∨ (a = d ∧ (b < e ∨ (b = e ∧ c < f)))) := by
  rw [PySem.W.dataLt_tuple]
  show PySem.W.rowLt ([a, b, c].map PyData.int) ([d, e, f].map PyData.int) = _
  rw [PySem.W.dataLt_ints, decide_eq_decide]
  simp [List.cons_lt_cons_iff]
theorem lt_rowK {ka kb : PyData} {pa pb qa qb : PyData} (h : PySem.W.alike ka kb = true) : PySem.W.dataLt (.tuple [ka, pa, qa]) (.tuple [kb, pb, qb]) = if PyData.eqv ka kb = true then PySem.W.rowLt [pa, qa] [pb, qb] else PySem.W.dataLt ka kb := by
  rw [PySem.W.dataLt_tuple, PySem.W.dataLt_cons h]
  rfl
theorem lt_rowL {o : Str} (ho : o = "first" ∨ o = "last" ∨ o = "near") {L : List P3} (up : L.Pairwise fun p q => p.1 < q.1) {x y : Nat × Nat} (hx : x.1 < x.2 ∧ x.2 < L.length) (hy : y.1 < y.2 ∧ y.2 < L.length) : PySem.W.dataLt (rowL o L x).py (rowL o L y).py = ltK (keyO o L x) (keyO o L y) := by
  obtain ⟨x1, x2⟩ := x
  obtain ⟨y1, y2⟩ := y
  simp only at hx hy
  have n1 := num_iff up (i := x1) (j := y1) (by omega) (by omega)
  have n2 := num_iff up (i := x2) (j := y2) hx.2 hy.2
  have n3 := num_iff up (i := y1) (j := x1) (by omega) (by omega)
  have n4 := num_iff up (i := y2) (j := x2) hy.2 hx.2
  by_cases hxy : x1 = y1 ∧ x2 = y2
  · obtain ⟨rfl, rfl⟩ := hxy
    rw [ltK_self]
    exact PyProof.Rows.lex_irrefl _
  · have ne1 : ¬ ((L.getD x1 z3).1 = (L.getD y1 z3).1 ∧ (L.getD x2 z3).1 = (L.getD y2 z3).1) := fun z => hxy ⟨n1.2.mp z.1, n2.2.mp z.2⟩
    show PySem.W.dataLt (.tuple [(keyD o L (x1, x2)).py, (e3 (L.getD x1 z3)).py, (e3 (L.getD x2 z3)).py]) (.tuple [(keyD o L (y1, y2)).py, (e3 (L.getD y1 z3)).py, (e3 (L.getD y2 z3)).py]) = _
    rcases ho with rfl | rfl | rfl
    · unfold keyD keyO ltK
      rw [if_neg ne_fn, if_neg ne_fl, if_neg ne_fn, if_neg ne_fl, if_neg ne_fl, if_neg ne_fn, if_neg ne_fl, if_neg ne_fn]
      simp only at *
      generalize (L.getD x1 z3).1 = a at *
      generalize (L.getD x2 z3).1 = b at *
      generalize (L.getD y1 z3).1 = c at *
      generalize (L.getD y2 z3).1 = d at *
      rw [lt_rowK (by simp [D.py, D.pyL, PySem.W.alike, PySem.W.alikeAll]), if_neg (by simp [D.py, D.pyL, PyData.eqv, PyData.eqvAll]; omega)]
      simp only [D.py, D.pyL]
      rw [PySem.W.dataLt_ii, decide_eq_decide, n1.1, n1.2, n2.1]
      simp only [Int.lt_irrefl, false_or, true_and]
      omega
    · unfold keyD keyO ltK
      rw [if_neg ne_ln, if_pos rfl, if_neg ne_ln, if_pos rfl, if_pos rfl, if_pos rfl]
      simp only at *
      generalize (L.getD x1 z3).1 = a at *
      generalize (L.getD x2 z3).1 = b at *
      generalize (L.getD y1 z3).1 = c at *
      generalize (L.getD y2 z3).1 = d at *
      rw [lt_rowK (by simp [D.py, D.pyL, PySem.W.alike, PySem.W.alikeAll]), if_neg (by simp [D.py, D.pyL, PyData.eqv, PyData.eqvAll]; omega)]
      simp only [D.py, D.pyL]
      rw [PySem.W.dataLt_ii, decide_eq_decide]
      have q1 : (0 - b < 0 - d) ↔ y2 < x2 := by rw [← n4.1]; omega
      have q2 : (0 - b = 0 - d) ↔ x2 = y2 := by rw [← n2.2]; omega
      have q3 : (0 - a < 0 - c) ↔ y1 < x1 := by rw [← n3.1]; omega
      rw [q1, q2, q3, or_iff_right (Int.lt_irrefl 0), true_and]
      omega
    · unfold keyD keyO ltK
      rw [if_pos rfl, if_pos rfl, if_neg ne_nl, if_pos rfl, if_neg ne_nl, if_pos rfl]
      simp only at *
      generalize absI ((L.getD x1 z3).2.1 - (L.getD x2 z3).2.1) = da at *
      generalize absI ((L.getD y1 z3).2.1 - (L.getD y2 z3).2.1) = db at *
      generalize (L.getD x1 z3).1 = a at *
      generalize (L.getD x2 z3).1 = b at *
      generalize (L.getD y1 z3).1 = c at *
      generalize (L.getD y2 z3).1 = d at *
      rw [lt_rowK (by simp [D.py, D.pyL, PySem.W.alike, PySem.W.alikeAll]), if_neg (by simp [D.py, D.pyL, PyData.eqv, PyData.eqvAll]; omega)]
      simp only [D.py, D.pyL]
      rw [lt_iii, decide_eq_decide, n1.1, n1.2, n2.1]
      omega
theorem e3_good (p : P3) : (e3 p).plain = true ∧ (e3 p).dep ≤ 1 := by simp [e3, D.plain, D.plainL, D.dep, D.depL]
theorem keyD_good (o : Str) (L : List P3) (a : Nat × Nat) : (keyD o L a).plain = true ∧ (keyD o L a).dep ≤ 1 := by
  unfold keyD
  split
  · simp [D.plain, D.plainL, D.dep, D.depL]
  · split <;> simp [D.plain, D.plainL, D.dep, D.depL]
theorem rowL_good (o : Str) (L : List P3) (a : Nat × Nat) : (rowL o L a).plain = true ∧ (rowL o L a).dep ≤ 2 := by
  obtain ⟨h1, h2⟩ := keyD_good o L a
  obtain ⟨h3, h4⟩ := e3_good (L.getD a.1 z3)
  obtain ⟨h5, h6⟩ := e3_good (L.getD a.2 z3)
  unfold rowL
  simp only [D.plain, D.plainL, D.dep, D.depL, h1, h3, h5, Bool.and_self]
  exact ⟨trivial, by omega⟩
theorem keyD_alike (o : Str) (L : List P3) (a b : Nat × Nat) : PySem.W.alike (keyD o L a).py (keyD o L b).py = true := by
  unfold keyD
  split
  · simp [D.py, D.pyL, PySem.W.alike, PySem.W.alikeAll]
  · split <;> simp [D.py, D.pyL, PySem.W.alike, PySem.W.alikeAll]
theorem rowL_alike (o : Str) (L : List P3) (a b : Nat × Nat) : PySem.W.alike (rowL o L a).py (rowL o L b).py = true := by
  have := keyD_alike o L a b
  unfold rowL
  generalize keyD o L a = ka at *
  generalize keyD o L b = kb at *
  simp [D.py, D.pyL, PySem.W.alike, PySem.W.alikeAll, this, e3]
theorem sort_rows {o : Str} (ho : o = "first" ∨ o = "last" ∨ o = "near") {L : List P3} (up : L.Pairwise fun p q => p.1 < q.1) {a : Nat × Nat} {l : List (Nat × Nat)} (hm : ∀ x ∈ a :: l, x.1 < x.2 ∧ x.2 < L.length) (hl : l.length < LIM) : ∃ t, sortD ((a :: l).map (rowL o L)) = some (rowL o L (best (keyO o L) a l) :: t) := by
  obtain ⟨t, ht⟩ := sort_best (keyO o L) a l fun x _ y _ e => keyO_inj o L e
  refine ⟨t.map (rowL o L), ?_⟩
  have h1 : ((a :: l).map (rowL o L)).all D.good = true := by
    rw [List.all_eq_true]
    intro d hd
    obtain ⟨x, _, rfl⟩ := List.mem_map.mp hd
    exact good_of (rowL_good o L x).1 (by have := (rowL_good o L x).2; omega)
  have h2 : ((a :: l).map (rowL o L)).all D.isT1 = true := by
    rw [List.all_eq_true]
    intro d hd
    obtain ⟨x, _, rfl⟩ := List.mem_map.mp hd
    rfl
  have h3 : decide (((a :: l).map (rowL o L)).length ≤ LIM) = true := by rw [List.length_map]; simp only [List.length_cons, decide_eq_true_eq]; omega
  have h4 := alikes_map (rowL_alike o L) (a :: l)
  rw [sortD_ms]
  rw [h1, h2, h3, h4]
  simp only [Bool.true_or, Bool.or_true, Bool.and_true, if_true]
  rw [← List.map_cons, ← ht, List.map_mergeSort]
  intro x hx y hy
  show (!ltK (keyO o L y) (keyO o L x)) = !PySem.W.dataLt (rowL o L y).py (rowL o L x).py
  rw [lt_rowL ho up (hm y hy) (hm x hx)]
end W2

/-! The law's own beat. -/
namespace W2
open PySem L2

def pickD (h : Hl) (L : List P3) : D :=
  match pick h L with
  | none => .non
  | some a => .tup [e3 (L.getD a.1 z3), e3 (L.getD a.2 z3)]
def SPick (c : List AV → CRes) : Prop := ∀ h : Hl, h.Ok → ∀ (n : Nat) (L : List P3), WtOk h n L → n ≤ 100 → c [.val h.d, .val (.lst (L.map e3))] = .ok (pickD h L, false) []
def pB1 : List St := [.ife (.call "_law_fits" [(.var 0), (.var 4), (.var 5)]) [.set 3 (.tup [(.ix (.var 4) (.cst (.int 0))), (.ix (.var 5) (.cst (.int 0)))]),
    .ife (.cmp .Eq (.ix (.var 0) (.cst (.int 3))) (.cst (.str "last"))) [.set 3 (.tup [(.bin .Sub (.cst (.int 0)) (.ix (.var 5) (.cst (.int 0)))), (.bin .Sub (.cst (.int 0)) (.ix (.var 4) (.cst (.int 0))))])] [],
    .ife (.cmp .Eq (.ix (.var 0) (.cst (.int 3))) (.cst (.str "near"))) [.set 3 (.tup [(.blt "abs" [(.bin .Sub (.ix (.var 4) (.cst (.int 1))) (.ix (.var 5) (.cst (.int 1))))]), (.ix (.var 4) (.cst (.int 0))), (.ix (.var 5) (.cst (.int 0)))])] [],
    .app 6 (.tup [(.var 3), (.var 4), (.var 5)])] []]
def pB2 : List St := [.for_ (.nm 5) (.sl (.var 1) (.bin .Add (.var 2) (.cst (.int 1))) .off) pB1]
theorem b_picked_eq : b_law_picked = [.own 6 (.lst []), .for_ (.tp [(.nm 2), (.nm 4)]) (.enu (.var 1)) pB2, .ret (.ite (.brw [6] (.cmp .NotEq (.var 6) (.lst []))) (.sl (.brw [6] (.ix (.blt "sorted" [(.var 6)]) (.cst (.int 0)))) (.cst (.int 1)) .off) (.cst .non))] := rfl
theorem pick_step {Γ : Ctr} {c : List AV → CRes} (hf : Γ.fn "_law_fits" = some c) {h : Hl} (k : h.Ok) {p q : P3} {ft : Bool} (key : c [.val h.d, .val (e3 p), .val (e3 q)] = .ok (.bl ft, false) []) {dL : D} {i : Int} {acc : List D} (hl : acc.length < 100000) {x3 : SV} (n3 : PN x3) :
    ∃ y3, PN y3 ∧ evalSs Γ FU pB1 [.val h.d, .val dL, .val (.int i), x3, .val (e3 p), .val (e3 q), .own (.lst acc)] =
      .nxt [.val h.d, .val dL, .val (.int i), y3, .val (e3 p), .val (e3 q), .own (.lst (acc ++ if ft = true then [.tup [(if h.o = "near" then D.tup [.int (absI (p.2.1 - q.2.1)), .int p.1, .int q.1] else if h.o = "last" then .tup [.int (0 - q.1), .int (0 - p.1)] else .tup [.int p.1, .int q.1]), e3 p, e3 q]] else []))] := by
  have n3' : ∀ d, ¬ x3 = .io d := n3.ni
  cases ft with
  | false =>
    refine ⟨x3, n3, ?_⟩
    generalize h.d = hd at *
    simp [pB1, LIM, Function.comp_def, conD, runD, evalSs, evalS, evalE, evalL, evalA, evalAnd, evalOr, evalI, evalJ, evalH, seqR, seqD, isSeqE, partR, partD, entry, iosAt, parS, gather, iosOf, callR, putIos, binD, cmpD, ixD, atI, ixN, slD, isiD, D.ty, boolsOf, wipeE, plainAt, backE, lend, Env.hide, SV.hide, SV.isOwn, SV.dat, SV.put, ownAt, shutE, ixD', compF, ofO, R.bind, R.bindB, R.toS, R.toSB, RS.bind, bq_len, bq_abs, bq_min, bq_max, bq_int, bq_all, bq_sorted, bq_list, bq_tuple, bLen, bAbs, bMin, bMax, bInt, bAll, bSorted, bList, bTuple, setS_ok, bindT_ok, bindT_tp, bindTs, hf, key]
  | true =>
    have g1 := good_str ok_first
    have g2 := good_str ok_last
    have g3 := good_str ok_near
    have ko : h.o = "first" ∨ h.o = "last" ∨ h.o = "near" := k.o
    obtain ⟨top, ws, f, o, pat⟩ := h
    obtain ⟨pn, ps, pw⟩ := p
    obtain ⟨qn, qs, qw⟩ := q
    simp only at ko
    rcases ko with rfl | rfl | rfl
    · refine ⟨.val (.tup [.int pn, .int qn]), .inr ⟨_, rfl⟩, ?_⟩
      simp only [e3, Hl.d] at key
      simp [pB1, LIM, Function.comp_def, conD, runD, evalSs, evalS, evalE, evalL, evalA, evalAnd, evalOr, evalI, evalJ, evalH, seqR, seqD, isSeqE, partR, partD, entry, iosAt, parS, gather, iosOf, callR, putIos, binD, cmpD, ixD, atI, ixN, slD, isiD, D.ty, boolsOf, wipeE, plainAt, backE, lend, Env.hide, SV.hide, SV.isOwn, SV.dat, SV.put, ownAt, shutE, ixD', compF, ofO, R.bind, R.bindB, R.toS, R.toSB, RS.bind, bq_len, bq_abs, bq_min, bq_max, bq_int, bq_all, bq_sorted, bq_list, bq_tuple, bLen, bAbs, bMin, bMax, bInt, bAll, bSorted, bList, bTuple, setS_ok, bindT_ok, bindT_tp, bindTs, hf, key, e3, Hl.d, g1, g2, g3, D.eqv, ne_fl, ne_fn, n3', hl]
    · refine ⟨.val (.tup [.int (0 - qn), .int (0 - pn)]), .inr ⟨_, rfl⟩, ?_⟩
      simp only [e3, Hl.d] at key
      simp [pB1, LIM, Function.comp_def, conD, runD, evalSs, evalS, evalE, evalL, evalA, evalAnd, evalOr, evalI, evalJ, evalH, seqR, seqD, isSeqE, partR, partD, entry, iosAt, parS, gather, iosOf, callR, putIos, binD, cmpD, ixD, atI, ixN, slD, isiD, D.ty, boolsOf, wipeE, plainAt, backE, lend, Env.hide, SV.hide, SV.isOwn, SV.dat, SV.put, ownAt, shutE, ixD', compF, ofO, R.bind, R.bindB, R.toS, R.toSB, RS.bind, bq_len, bq_abs, bq_min, bq_max, bq_int, bq_all, bq_sorted, bq_list, bq_tuple, bLen, bAbs, bMin, bMax, bInt, bAll, bSorted, bList, bTuple, setS_ok, bindT_ok, bindT_tp, bindTs, hf, key, e3, Hl.d, g1, g2, g3, D.eqv, ne_ln, n3', hl]
    · refine ⟨.val (.tup [.int (absI (ps - qs)), .int pn, .int qn]), .inr ⟨_, rfl⟩, ?_⟩
      simp only [e3, Hl.d] at key
      simp [pB1, LIM, Function.comp_def, conD, runD, evalSs, evalS, evalE, evalL, evalA, evalAnd, evalOr, evalI, evalJ, evalH, seqR, seqD, isSeqE, partR, partD, entry, iosAt, parS, gather, iosOf, callR, putIos, binD, cmpD, ixD, atI, ixN, slD, isiD, D.ty, boolsOf, wipeE, plainAt, backE, lend, Env.hide, SV.hide, SV.isOwn, SV.dat, SV.put, ownAt, shutE, ixD', compF, ofO, R.bind, R.bindB, R.toS, R.toSB, RS.bind, bq_len, bq_abs, bq_min, bq_max, bq_int, bq_all, bq_sorted, bq_list, bq_tuple, bLen, bAbs, bMin, bMax, bInt, bAll, bSorted, bList, bTuple, setS_ok, bindT_ok, bindT_tp, bindTs, hf, key, e3, Hl.d, g1, g2, g3, D.eqv, ne_nl, n3', hl, absI]
theorem pick_in {Γ : Ctr} {c : List AV → CRes} (hf : Γ.fn "_law_fits" = some c) (s : SFit c) {h : Hl} (k : h.Ok) {n : Nat} {L : List P3} (w : WtOk h n L) (hn : n ≤ 100) {i : Nat} (hi : i < L.length) {acc : List D} (ha : acc.length ≤ 10000) {x3 x5 : SV} (n3 : PN x3) (n5 : PN x5) :
    ∃ y3 y5, PN y3 ∧ PN y5 ∧ forL (evalSs Γ FU pB1) (.nm 5) ((L.drop (i + 1)).map e3) [.val h.d, .val (.lst (L.map e3)), .val (.int i), x3, .val (e3 (L.getD i z3)), x5, .own (.lst acc)] = .nxt [.val h.d, .val (.lst (L.map e3)), .val (.int i), y3, .val (e3 (L.getD i z3)), y5, .own (.lst (acc ++ (prsI h.fit L i (L.length - (i + 1))).map (rowL h.o L)))] := by
  have wl := w.len
  obtain ⟨ρ', e, y3, y5, h1, h2, h3⟩ := forL_inv (f := evalSs Γ FU pB1) (t := .nm 5) (fun k ρ => ∃ y3 y5, ρ = [.val h.d, .val (.lst (L.map e3)), .val (.int i), y3, .val (e3 (L.getD i z3)), y5, .own (.lst (acc ++ (prsI h.fit L i k).map (rowL h.o L)))] ∧ PN y3 ∧ PN y5) (ds := (L.drop (i + 1)).map e3) (ρ := [.val h.d, .val (.lst (L.map e3)), .val (.int i), x3, .val (e3 (L.getD i z3)), x5, .own (.lst acc)]) 0
    ⟨x3, x5, by simp [prsI], n3, n5⟩ (by
    rintro k' d hd ρ ⟨y3, y5, rfl, m3, m5⟩
    rw [List.getElem?_map, Option.map_eq_some_iff] at hd
    obtain ⟨q, hq, rfl⟩ := hd
    rw [List.getElem?_drop] at hq
    have hj : i + 1 + k' < L.length := (List.getElem?_eq_some_iff.mp hq).1
    have eq : q = L.getD (i + 1 + k') z3 := by
      rw [getD_some hj] at hq
      exact (Option.some.inj hq).symm
    subst eq
    rw [Nat.zero_add]
    have key := s h k (L.getD i z3) (L.getD (i + 1 + k') z3) (w0_get w hi) (w0_get w hj)
    have pl := prsI_len h.fit L i k'
    obtain ⟨z3', m3', et⟩ := pick_step (Γ := Γ) hf k key (dL := .lst (L.map e3)) (i := i) (acc := acc ++ (prsI h.fit L i k').map (rowL h.o L)) (by rw [List.length_append, List.length_map]; omega) m3
    refine ⟨_, _, bindT_ok (i := 5) (by simp) (by simpa [NI] using m5.ni), et, z3', .val (e3 (L.getD (i + 1 + k') z3)), ?_, m3', .inr ⟨_, rfl⟩⟩
    rw [prsI_succ, List.map_append, List.append_assoc]
    congr 8
    cases h.fit (L.getD i z3) (L.getD (i + 1 + k') z3) <;> rfl)
  subst h1
  refine ⟨y3, y5, h2, h3, ?_⟩
  rw [e]
  simp
theorem picked_s (Γ : Ctr) (c : List AV → CRes) (hf : Γ.fn "_law_fits" = some c) (s : SFit c) : SPick (conD Γ FU 2 7 b_law_picked) := by
  intro h k n L w hn
  have wl := w.len
  obtain ⟨ρ', e, x2, x3, x4, x5, h1, p2, p3, p4, p5⟩ := forL_inv (f := evalSs Γ FU pB2) (t := .tp [(.nm 2), (.nm 4)]) (fun k ρ => ∃ x2 x3 x4 x5, ρ = [.val h.d, .val (.lst (L.map e3)), x2, x3, x4, x5, .own (.lst ((prsN h.fit L k).map (rowL h.o L)))] ∧ PN x2 ∧ PN x3 ∧ PN x4 ∧ PN x5) (ds := enumD 0 (L.map e3)) (ρ := [.val h.d, .val (.lst (L.map e3)), .no, .no, .no, .no, .own (.lst [])]) 0
    ⟨.no, .no, .no, .no, by simp [prsN], .inl rfl, .inl rfl, .inl rfl, .inl rfl⟩ (by
    rintro i d hd ρ ⟨x2, x3, x4, x5, rfl, n2, n3, n4, n5⟩
    obtain ⟨x, hx, rfl⟩ := enumD_get hd
    rw [List.getElem?_map, Option.map_eq_some_iff] at hx
    obtain ⟨p, hp, rfl⟩ := hx
    rw [Nat.zero_add]
    have hi : i < L.length := (List.getElem?_eq_some_iff.mp hp).1
    have ep : p = L.getD i z3 := by
      rw [getD_some hi] at hp
      exact (Option.some.inj hp).symm
    subst ep
    have ha : ((prsN h.fit L i).map (rowL h.o L)).length ≤ 10000 := by
      have pl := prsN_len h.fit L i
      rw [List.length_map]
      have mm : i * L.length ≤ 100 * 100 := Nat.mul_le_mul (by omega) (by omega)
      omega
    obtain ⟨y3, y5, m3, m5, ef⟩ := pick_in (Γ := Γ) hf s k w hn hi ha n3 n5
    have n2' : ∀ d, ¬ x2 = .io d := n2.ni
    have n4' : ∀ d, ¬ x4 = .io d := n4.ni
    refine ⟨[.val h.d, .val (.lst (L.map e3)), .val (.int i), x3, .val (e3 (L.getD i z3)), x5, .own (.lst ((prsN h.fit L i).map (rowL h.o L)))], _, ?_, ?_, .val (.int i), y3, .val (e3 (L.getD i z3)), y5, rfl, .inr ⟨_, rfl⟩, m3, .inr ⟨_, rfl⟩, m5⟩
    · simp [bindT_ok, bindT_tp, bindTs, n2', n4']
    · rw [prsN_succ, List.map_append]
      have ct : cutD (L.map e3) (some ((i : Int) + 1)) none = (L.drop (i + 1)).map e3 := by
        rw [show ((i : Int) + 1) = ((i + 1 : Nat) : Int) by omega, cutN_drop, List.map_drop]
      generalize (L.drop (i + 1)).map e3 = dr at *
      generalize L.map e3 = Ld at *
      generalize e3 (L.getD i z3) = p at *
      generalize (prsN h.fit L i).map (rowL h.o L) = ps at *
      generalize (prsI h.fit L i (L.length - (i + 1))).map (rowL h.o L) = qs at *
      generalize h.d = hd at *
      simp [pB2, LIM, Function.comp_def, conD, runD, evalSs, evalS, evalE, evalL, evalA, evalAnd, evalOr, evalI, evalJ, evalH, seqR, seqD, isSeqE, partR, partD, entry, iosAt, setS, parS, gather, iosOf, callR, putIos, binD, cmpD, ixD, atI, ixN, slD, isiD, D.ty, boolsOf, bindT, bindTs, wipeE, plainAt, backE, lend, Env.hide, SV.hide, SV.isOwn, SV.dat, SV.put, ownAt, shutE, ixD', compF, ofO, R.bind, R.bindB, R.toS, R.toSB, RS.bind, bq_len, bq_abs, bq_min, bq_max, bq_int, bq_all, bq_sorted, bq_list, bq_tuple, bLen, bAbs, bMin, bMax, bInt, bAll, bSorted, bList, bTuple, ct, ef])
  subst h1
  rw [Nat.zero_add, enumD_len, List.length_map] at e
  have g1 : (D.lst ((prs h.fit L).map (rowL h.o L))).good = true := good_map (n := 2) (by decide) (rowL_good h.o L) _
  have pl : (prs h.fit L).length ≤ 10000 := by
    have pl := prsN_len h.fit L L.length
    have mm : L.length * L.length ≤ 100 * 100 := Nat.mul_le_mul (by omega) (by omega)
    have pl : (prs h.fit L).length ≤ L.length * L.length := pl
    omega
  rw [show prsN h.fit L L.length = prs h.fit L from rfl] at e
  unfold pickD pick
  cases hp : prs h.fit L with
  | nil =>
    rw [hp] at e
    simp only [List.map_nil] at e
    generalize h.d = hd at *
    simp [b_picked_eq, LIM, Function.comp_def, conD, runD, evalSs, evalS, evalE, evalL, evalA, evalAnd, evalOr, evalI, evalJ, evalH, seqR, seqD, isSeqE, partR, partD, entry, iosAt, setS, parS, gather, iosOf, callR, putIos, binD, cmpD, ixD, atI, ixN, slD, isiD, D.ty, boolsOf, bindT, bindTs, wipeE, plainAt, backE, lend, Env.hide, SV.hide, SV.isOwn, SV.dat, SV.put, ownAt, shutE, ixD', compF, ofO, R.bind, R.bindB, R.toS, R.toSB, RS.bind, bq_len, bq_abs, bq_min, bq_max, bq_int, bq_all, bq_sorted, bq_list, bq_tuple, bLen, bAbs, bMin, bMax, bInt, bAll, bSorted, bList, bTuple, e, good_nil, D.eqv, D.eqvL, D.hard]
  | cons a l =>
    rw [hp] at e g1 pl
    obtain ⟨t, ht⟩ := sort_rows k.o w.up (a := a) (l := l) (fun x hx => prs_mem (hp ▸ hx)) (by unfold LIM; simp only [List.length_cons] at pl; omega)
    have hne : D.eqvL ((a :: l).map (rowL h.o L)) [] = false := rfl
    show _ = CRes.ok (D.tup [e3 (L.getD (best (keyO h.o L) a l).1 z3), e3 (L.getD (best (keyO h.o L) a l).2 z3)], false) []
    generalize best (keyO h.o L) a l = b at *
    generalize (a :: l).map (rowL h.o L) = il at *
    unfold rowL at ht
    have hk : (keyD h.o L b).hard = true := by
      unfold keyD
      split
      · rfl
      · split <;> rfl
    have he : ∀ p, (e3 p).hard = true := fun p => rfl
    have hr : D.hardL [keyD h.o L b, e3 (L.getD b.1 z3), e3 (L.getD b.2 z3)] = true := by simp [D.hardL, hk, he]
    generalize keyD h.o L b = kd at *
    generalize e3 (L.getD b.1 z3) = p at *
    generalize e3 (L.getD b.2 z3) = q at *
    generalize L.map e3 = Ld at *
    generalize h.d = hd at *
    simp [b_picked_eq, LIM, Function.comp_def, conD, runD, evalSs, evalS, evalE, evalL, evalA, evalAnd, evalOr, evalI, evalJ, evalH, seqR, seqD, isSeqE, partR, partD, entry, iosAt, setS, parS, gather, iosOf, callR, putIos, binD, cmpD, ixD, atI, ixN, slD, isiD, D.ty, boolsOf, bindT, bindTs, wipeE, plainAt, backE, lend, Env.hide, SV.hide, SV.isOwn, SV.dat, SV.put, ownAt, shutE, ixD', compF, ofO, R.bind, R.bindB, R.toS, R.toSB, RS.bind, bq_len, bq_abs, bq_min, bq_max, bq_int, bq_all, bq_sorted, bq_list, bq_tuple, bLen, bAbs, bMin, bMax, bInt, bAll, bSorted, bList, bTuple, e, g1, good_nil, D.eqv, hne, D.hard, ht, hr, cutD3]
end W2

/-! The law's own beat. -/
namespace W2
open PySem L2

theorem e3_eqv (p q : P3) : (e3 p).eqv (e3 q) = decide (p = q) := by
  obtain ⟨a, b, c⟩ := p
  obtain ⟨d, e, f⟩ := q
  simp only [e3, D.eqv, D.eqvL, Bool.and_true]
  by_cases h1 : a = d <;> by_cases h2 : b = e <;> by_cases h3 : c = f <;> simp [h1, h2, h3]
theorem filter_rem {L : List P3} (up : L.Pairwise fun p q => p.1 < q.1) {i j : Nat} (hij : i < j) (hj : j < L.length) : (L.filter fun x => !(decide (L.getD i z3 = x) || decide (L.getD j z3 = x))) = rem L (i, j) := by
  have hi : i < L.length := by omega
  have e1 : L.getD i z3 = L[i] := by simp [hi]
  have e2 : L.getD j z3 = L[j] := by simp [hj]
  have ne : ∀ (m : Nat) (hm : m < L.length), m ≠ i → m ≠ j → (!(decide (L.getD i z3 = L[m]) || decide (L.getD j z3 = L[m]))) = true := by
    intro m hm h1 h2
    have n1 := (num_iff up hi hm).2
    have n2 := (num_iff up hj hm).2
    have e3 : L.getD m z3 = L[m] := by simp [hm]
    rw [e3] at n1 n2
    have q1 : ¬ L.getD i z3 = L[m] := fun z => h1 (n1.mp (by rw [z])).symm
    have q2 : ¬ L.getD j z3 = L[m] := fun z => h2 (n2.mp (by rw [z])).symm
    rw [decide_eq_false q1, decide_eq_false q2]; rfl
  have s1 : L = L.take i ++ (L[i] :: ((L.drop (i + 1)).take (j - (i + 1)) ++ (L[j] :: L.drop (j + 1)))) := by
    have a1 : L.drop j = L[j] :: L.drop (j + 1) := List.drop_eq_getElem_cons hj
    have a2 : L.drop i = L[i] :: L.drop (i + 1) := List.drop_eq_getElem_cons hi
    have a3 : (L.drop (i + 1)).drop (j - (i + 1)) = L.drop j := by rw [List.drop_drop]; congr 1; omega
    rw [← a1, ← a3, List.take_append_drop, ← a2, List.take_append_drop]
  have f1 : (L.take i).filter (fun x => !(decide (L.getD i z3 = x) || decide (L.getD j z3 = x))) = L.take i := List.filter_eq_self.mpr fun x hx => by
    obtain ⟨m, hm, rfl⟩ := List.mem_iff_getElem.mp hx
    rw [List.getElem_take]
    rw [List.length_take] at hm
    exact ne m (by omega) (by omega) (by omega)
  have f2 : ((L.drop (i + 1)).take (j - (i + 1))).filter (fun x => !(decide (L.getD i z3 = x) || decide (L.getD j z3 = x))) = (L.drop (i + 1)).take (j - (i + 1)) := List.filter_eq_self.mpr fun x hx => by
    obtain ⟨m, hm, rfl⟩ := List.mem_iff_getElem.mp hx
    rw [List.length_take, List.length_drop] at hm
    rw [List.getElem_take, List.getElem_drop]
    exact ne (i + 1 + m) (by omega) (by omega) (by omega)
  have f3 : (L.drop (j + 1)).filter (fun x => !(decide (L.getD i z3 = x) || decide (L.getD j z3 = x))) = L.drop (j + 1) := List.filter_eq_self.mpr fun x hx => by
    obtain ⟨m, hm, rfl⟩ := List.mem_iff_getElem.mp hx
    rw [List.length_drop] at hm
    rw [List.getElem_drop]
    exact ne (j + 1 + m) (by omega) (by omega) (by omega)
  have g1 : (fun x => !(decide (L.getD i z3 = x) || decide (L.getD j z3 = x))) L[i] = false := by
    show (!(decide (L.getD i z3 = L[i]) || decide (L.getD j z3 = L[i]))) = false
    rw [decide_eq_true e1]; rfl
  have g2 : (fun x => !(decide (L.getD i z3 = x) || decide (L.getD j z3 = x))) L[j] = false := by
    show (!(decide (L.getD i z3 = L[j]) || decide (L.getD j z3 = L[j]))) = false
    rw [decide_eq_true e2, Bool.or_true]; rfl
  unfold rem
  generalize (fun x => !(decide (L.getD i z3 = x) || decide (L.getD j z3 = x))) = P at *
  simp only
  conv => lhs; rw [s1]
  rw [List.filter_append, List.filter_cons, List.filter_append, List.filter_cons, f1, f2, f3]
  rw [if_neg (by rw [show P L[i] = false from g1]; exact Bool.false_ne_true), if_neg (by rw [show P L[j] = false from g2]; exact Bool.false_ne_true)]
def lwB : List St := [.app 5 (.tup [(.ix (.ix (.var 11) (.cst (.int 0))) (.cst (.int 0))), (.ix (.ix (.var 11) (.cst (.int 1))) (.cst (.int 0)))]),
    .set 10 (.comp [8] (.var 8) (.nm 8) (.var 10) (.cmp .NotIn (.var 8) (.var 11))),
    .set 11 (.call "_law_picked" [(.var 0), (.var 10)])]
abbrev lwC : E := .cmp .IsNot (.var 11) (.cst .non)
theorem lbeat_turn {Γ : Ctr} {c1 : List AV → CRes} (hf : Γ.fn "_law_picked" = some c1) (s1 : SPick c1) {h : Hl} (k : h.Ok) {n : Nat} {cur : List P3} (w : WtOk h n cur) (hn : n ≤ 100) {a : Nat × Nat} (hp : pick h cur = some a) {made : List D} (hm : made.length ≤ 1000) {dL dn dc dm : D} :
    evalSs Γ FU lwB [.val h.d, .val dL, .val dn, .val dc, .no, .own (.lst made), .val dm, .no, .no, .no, .val (.lst (cur.map e3)), .val (pickD h cur), .no] =
      .nxt [.val h.d, .val dL, .val dn, .val dc, .no, .own (.lst (made ++ [m2 ((cur.getD a.1 z3).1, (cur.getD a.2 z3).1)])), .val dm, .no, .no, .no, .val (.lst ((rem cur a).map e3)), .val (pickD h (rem cur a)), .no] := by
  have wl := w.len
  have bm := pick_mem hp
  have key := s1 h k n (rem cur a) (w.sub (rem_sub cur bm.1)) hn
  have ep : pickD h cur = .tup [e3 (cur.getD a.1 z3), e3 (cur.getD a.2 z3)] := by unfold pickD; rw [hp]
  have gt : (D.tup [e3 (cur.getD a.1 z3), e3 (cur.getD a.2 z3)]).good = true := by rfl
  have ge : ∀ p, (e3 p).good = true := fun p => by rfl
  have kc := comp_filt (Γ := Γ) (vs := [8]) (elt := .var 8) (tg := .nm 8) (src := .var 10) (cond := .cmp .NotIn (.var 8) (.var 11)) (ρ := [.val h.d, .val dL, .val dn, .val dc, .no, .own (.lst (made ++ [m2 ((cur.getD a.1 z3).1, (cur.getD a.2 z3).1)])), .val dm, .no, .no, .no, .val (.lst (cur.map e3)), .val (pickD h cur), .no]) cur e3
    (fun x => !(decide (cur.getD a.1 z3 = x) || decide (cur.getD a.2 z3 = x))) e3 (by simp [LIM, Function.comp_def, conD, runD, evalSs, evalS, evalE, evalL, evalA, evalAnd, evalOr, evalI, evalJ, evalH, seqR, seqD, isSeqE, partR, partD, entry, iosAt, setS, parS, gather, iosOf, callR, putIos, binD, cmpD, ixD, atI, ixN, slD, isiD, D.ty, boolsOf, bindT, bindTs, wipeE, plainAt, backE, lend, Env.hide, SV.hide, SV.isOwn, SV.dat, SV.put, ownAt, shutE, ixD', compF, ofO, R.bind, R.bindB, R.toS, R.toSB, RS.bind, bq_len, bq_abs, bq_min, bq_max, bq_int, bq_all, bq_sorted, bq_list, bq_tuple, bLen, bAbs, bMin, bMax, bInt, bAll, bSorted, bList, bTuple]) (by rfl) (fun x hx => by
      rw [ep]
      have q1 := e3_eqv (cur.getD a.1 z3) x
      have q2 := e3_eqv (cur.getD a.2 z3) x
      have q3 := ge x
      generalize decide (cur.getD a.1 z3 = x) = b1 at *
      generalize decide (cur.getD a.2 z3 = x) = b2 at *
      generalize e3 (cur.getD a.1 z3) = p at *
      generalize e3 (cur.getD a.2 z3) = q at *
      generalize e3 x = y at *
      generalize h.d = hd at *
      cases b1 <;> cases b2 <;> simp [LIM, Function.comp_def, conD, runD, evalSs, evalS, evalE, evalL, evalA, evalAnd, evalOr, evalI, evalJ, evalH, seqR, seqD, isSeqE, partR, partD, entry, iosAt, setS, parS, gather, iosOf, callR, putIos, binD, cmpD, ixD, atI, ixN, slD, isiD, D.ty, boolsOf, bindT, bindTs, wipeE, plainAt, backE, lend, Env.hide, SV.hide, SV.isOwn, SV.dat, SV.put, ownAt, shutE, ixD', compF, ofO, R.bind, R.bindB, R.toS, R.toSB, RS.bind, bq_len, bq_abs, bq_min, bq_max, bq_int, bq_all, bq_sorted, bq_list, bq_tuple, bLen, bAbs, bMin, bMax, bInt, bAll, bSorted, bList, bTuple, q1, q2, q3, gt]) (by unfold LIM; omega)
  obtain ⟨i, j⟩ := a
  rw [filter_rem w.up bm.1 bm.2] at kc
  rw [ep] at kc ⊢
  simp only at *
  have l5 : made.length < 100000 := by omega
  generalize pickD h (rem cur (i, j)) = pn at *
  generalize (rem cur (i, j)).map e3 = nc at *
  generalize cur.map e3 = cd at *
  generalize cur.getD i z3 = p at *
  generalize cur.getD j z3 = q at *
  generalize h.d = hd at *
  unfold e3 m2 at *
  simp [lwB, LIM, Function.comp_def, conD, runD, evalSs, evalS, evalE, evalL, evalA, evalAnd, evalOr, evalI, evalJ, evalH, seqR, seqD, isSeqE, partR, partD, entry, iosAt, setS, parS, gather, iosOf, callR, putIos, binD, cmpD, ixD, atI, ixN, slD, isiD, D.ty, boolsOf, bindT, bindTs, wipeE, plainAt, backE, lend, Env.hide, SV.hide, SV.isOwn, SV.dat, SV.put, ownAt, shutE, ixD', compF, ofO, R.bind, R.bindB, R.toS, R.toSB, RS.bind, bq_len, bq_abs, bq_min, bq_max, bq_int, bq_all, bq_sorted, bq_list, bq_tuple, bLen, bAbs, bMin, bMax, bInt, bAll, bSorted, bList, bTuple, hf, key, ↓kc, l5]
theorem not_non_test {Γ : Ctr} {ρ : Env} {h : Hl} {L : List P3} (e : ρ[11]? = some (.val (pickD h L))) : evalE Γ lwC ρ = .ok (.bl (pick h L).isSome, false) ρ := by
  simp only [evalE, e, R.bind_ok, cmpD, Option.map_some, ofO_some]
  unfold pickD
  cases pick h L <;> rfl
theorem whl_lbeat {Γ : Ctr} {c1 : List AV → CRes} (hf : Γ.fn "_law_picked" = some c1) (s1 : SPick c1) {h : Hl} (k : h.Ok) {n : Nat} (hn : n ≤ 100) {dL dn dc dm : D} : ∀ (m F : Nat) (cur : List P3) (made : List D), cur.length ≤ m → m < F → WtOk h n cur → made.length + m ≤ 1000 →
    whlL (evalE Γ lwC) (evalSs Γ FU lwB) F [.val h.d, .val dL, .val dn, .val dc, .no, .own (.lst made), .val dm, .no, .no, .no, .val (.lst (cur.map e3)), .val (pickD h cur), .no] =
      .nxt [.val h.d, .val dL, .val dn, .val dc, .no, .own (.lst (made ++ (rounds h m cur).2.map m2)), .val dm, .no, .no, .no, .val (.lst ((rounds h m cur).1.map e3)), .val .non, .no]
  | m, 0, _, _, _, h2, _, _ => absurd h2 (Nat.not_lt_zero m)
  | m, F + 1, cur, made, h1, h2, w, hm => by
    simp only [whlL]
    rw [not_non_test (h := h) (L := cur) rfl]
    cases hp : pick h cur with
    | none =>
      have er : rounds h m cur = (cur, []) := by
        cases m with
        | zero => rfl
        | succ m => simp only [rounds, hp]
      have en : pickD h cur = .non := by unfold pickD; rw [hp]
      simp only [Option.isSome_none, R.toSB_ok, er, List.map_nil, List.append_nil, en]
    | some a =>
      have bm := pick_mem hp
      obtain ⟨m', rfl⟩ : ∃ m', m = m' + 1 := ⟨m - 1, by omega⟩
      have rl := rem_len bm.1 bm.2
      have turn := lbeat_turn (Γ := Γ) (dL := dL) (dn := dn) (dc := dc) (dm := dm) hf s1 k w hn hp (made := made) (by omega)
      have ih := whl_lbeat hf s1 k hn (dL := dL) (dn := dn) (dc := dc) (dm := dm) m' F (rem cur a) (made ++ [m2 ((cur.getD a.1 z3).1, (cur.getD a.2 z3).1)]) (by omega) (by omega) (w.sub (rem_sub cur bm.1)) (by simp; omega)
      simp only [Option.isSome_some, R.toSB_ok]
      rw [turn]
      simp only [RS.bind_nxt]
      rw [ih]
      simp only [rounds, hp, List.map_cons, List.append_assoc, List.singleton_append]
def lPre : List St := b_law_beat.take 5
def lPost : List St := b_law_beat.drop 6
theorem b_lbeat_eq : b_law_beat = lPre ++ ([.whl lwC lwB] ++ lPost) := rfl
theorem lpre_ok {Γ : Ctr} {c1 : List AV → CRes} (hf : Γ.fn "_law_picked" = some c1) (s1 : SPick c1) {h : Hl} (k : h.Ok) {n : Nat} (hn : n < 100) {L : List P3} (w : WtOk h n L) (c : Option Int) :
    evalSs Γ FU lPre [.val h.d, .val (.lst (L.map e3)), .val (.int n), .val (patD c), .no, .no, .no, .no, .no, .no, .no, .no, .no] =
      .nxt [.val h.d, .val (.lst (L.map e3)), .val (.int n), .val (patD c), .no, .own (.lst []), .val (.int h.most), .no, .no, .no, .val (.lst ((nowOf h L n c).map e3)), .val (pickD h (nowOf h L n c)), .no] := by
  have k1 := s1 h k (n + 1) (nowOf h L n c) (now_ok k w c) (by omega)
  have wl := w.len
  have key := comp_map (Γ := Γ) (vs := [7, 9, 12]) (elt := .tup [(.var 7), (.var 9), (.blt "min" [(.var 6), (.bin .Add (.var 12) (.cst (.int 1)))])]) (tg := .tp [(.nm 7), (.nm 9), (.nm 12)]) (src := .var 1) (cond := .cst (.bl true)) (ρ := [.val h.d, .val (.lst (L.map e3)), .val (.int n), .val (patD c), .no, .no, .val (.int h.most), .no, .no, .no, .no, .no, .no]) L e3 (fun p => e3 (e3n h p)) (by simp [LIM, Function.comp_def, conD, runD, evalSs, evalS, evalE, evalL, evalA, evalAnd, evalOr, evalI, evalJ, evalH, seqR, seqD, isSeqE, partR, partD, entry, iosAt, setS, parS, gather, iosOf, callR, putIos, binD, cmpD, ixD, atI, ixN, slD, isiD, D.ty, boolsOf, bindT, bindTs, wipeE, plainAt, backE, lend, Env.hide, SV.hide, SV.isOwn, SV.dat, SV.put, ownAt, shutE, ixD', compF, ofO, R.bind, R.bindB, R.toS, R.toSB, RS.bind, bq_len, bq_abs, bq_min, bq_max, bq_int, bq_all, bq_sorted, bq_list, bq_tuple, bLen, bAbs, bMin, bMax, bInt, bAll, bSorted, bList, bTuple]) (by rfl) (fun x hx => by
    generalize h.d = hd
    simp [LIM, Function.comp_def, conD, runD, evalSs, evalS, evalE, evalL, evalA, evalAnd, evalOr, evalI, evalJ, evalH, seqR, seqD, isSeqE, partR, partD, entry, iosAt, setS, parS, gather, iosOf, callR, putIos, binD, cmpD, ixD, atI, ixN, slD, isiD, D.ty, boolsOf, bindT, bindTs, wipeE, plainAt, backE, lend, Env.hide, SV.hide, SV.isOwn, SV.dat, SV.put, ownAt, shutE, ixD', compF, ofO, R.bind, R.bindB, R.toS, R.toSB, RS.bind, bq_len, bq_abs, bq_min, bq_max, bq_int, bq_all, bq_sorted, bq_list, bq_tuple, bLen, bAbs, bMin, bMax, bInt, bAll, bSorted, bList, bTuple, e3, e3n]) (by unfold LIM; omega)
  have ll : (L.map fun p => e3 (e3n h p)).length ≤ 100000 := by simp; omega
  have em : evalE Γ (.ite (.cmp .IsNot (.ix (.var 0) (.cst (.int 4))) (.cst .non)) (.ix (.var 0) (.cst (.int 4))) (.bin .Sub (.blt "len" [(.ix (.var 0) (.cst (.int 1)))]) (.cst (.int 1)))) [.val h.d, .val (.lst (L.map e3)), .val (.int n), .val (patD c), .no, .no, .no, .no, .no, .no, .no, .no, .no] = .ok (.int h.most, false) [.val h.d, .val (.lst (L.map e3)), .val (.int n), .val (patD c), .no, .no, .no, .no, .no, .no, .no, .no, .no] := by
    obtain ⟨top, ws, f, o, pat⟩ := h
    generalize L.map e3 = Ld
    cases pat <;> simp [LIM, Function.comp_def, conD, runD, evalSs, evalS, evalE, evalL, evalA, evalAnd, evalOr, evalI, evalJ, evalH, seqR, seqD, isSeqE, partR, partD, entry, iosAt, setS, parS, gather, iosOf, callR, putIos, binD, cmpD, ixD, atI, ixN, slD, isiD, D.ty, boolsOf, bindT, bindTs, wipeE, plainAt, backE, lend, Env.hide, SV.hide, SV.isOwn, SV.dat, SV.put, ownAt, shutE, ixD', compF, ofO, R.bind, R.bindB, R.toS, R.toSB, RS.bind, bq_len, bq_abs, bq_min, bq_max, bq_int, bq_all, bq_sorted, bq_list, bq_tuple, bLen, bAbs, bMin, bMax, bInt, bAll, bSorted, bList, bTuple, Hl.d, patD, Hl.most, D.isN]
  generalize pickD h (nowOf h L n c) = pk at *
  rw [now_eq] at k1 ⊢
  generalize (L.map fun p => e3 (e3n h p)) = NL at *
  generalize hL : L.map e3 = LL at *
  generalize h.d = hd at *
  generalize h.most = mo at *
  cases c with
  | none =>
    simp only [List.append_nil] at k1 ⊢
    simp only [patD] at key em ⊢
    simp [↓em, ↓key, lPre, b_law_beat, LIM, Function.comp_def, conD, runD, evalSs, evalS, evalE, evalL, evalA, evalAnd, evalOr, evalI, evalJ, evalH, seqR, seqD, isSeqE, partR, partD, entry, iosAt, setS, parS, gather, iosOf, callR, putIos, binD, cmpD, ixD, atI, ixN, slD, isiD, D.ty, boolsOf, bindT, bindTs, wipeE, plainAt, backE, lend, Env.hide, SV.hide, SV.isOwn, SV.dat, SV.put, ownAt, shutE, ixD', compF, ofO, R.bind, R.bindB, R.toS, R.toSB, RS.bind, bq_len, bq_abs, bq_min, bq_max, bq_int, bq_all, bq_sorted, bq_list, bq_tuple, bLen, bAbs, bMin, bMax, bInt, bAll, bSorted, bList, bTuple, hf, k1, D.isN, ll]
  | some s =>
    simp only at k1 ⊢
    simp only [patD] at key em ⊢
    simp [↓em, ↓key, lPre, b_law_beat, LIM, Function.comp_def, conD, runD, evalSs, evalS, evalE, evalL, evalA, evalAnd, evalOr, evalI, evalJ, evalH, seqR, seqD, isSeqE, partR, partD, entry, iosAt, setS, parS, gather, iosOf, callR, putIos, binD, cmpD, ixD, atI, ixN, slD, isiD, D.ty, boolsOf, bindT, bindTs, wipeE, plainAt, backE, lend, Env.hide, SV.hide, SV.isOwn, SV.dat, SV.put, ownAt, shutE, ixD', compF, ofO, R.bind, R.bindB, R.toS, R.toSB, RS.bind, bq_len, bq_abs, bq_min, bq_max, bq_int, bq_all, bq_sorted, bq_list, bq_tuple, bLen, bAbs, bMin, bMax, bInt, bAll, bSorted, bList, bTuple, hf, k1, D.isN, ll]
theorem lpost_ok {Γ : Ctr} {h : Hl} (k : h.Ok) {Rs : List P3} (hR : Rs.length ≤ 1000) (hw : ∀ p ∈ Rs, p.2.2 ≤ h.most) {made : List D} {dL dn dc dm : D} :
    ∃ ρ', evalSs Γ FU lPost [.val h.d, .val dL, .val dn, .val dc, .no, .own (.lst made), .val dm, .no, .no, .no, .val (.lst (Rs.map e3)), .val .non, .no] =
      .ret (.tup [.lst ((Rs.filter fun p => !(goneOf h Rs).any fun z => z == p.1).map e3), .lst made, .lst ((goneOf h Rs).map D.int)], false) (.val h.d :: .val dL :: .val dn :: .val dc :: ρ') := by
  have key1 := comp_filt (Γ := Γ) (vs := [8]) (elt := .ix (.var 8) (.cst (.int 0))) (tg := .nm 8) (src := .var 10) (cond := .cmp .Eq (.ix (.var 8) (.cst (.int 2))) (.ix (.var 0) (.cst (.int 4)))) (ρ := [.val h.d, .val dL, .val dn, .val dc, .no, .own (.lst made), .val dm, .no, .no, .no, .val (.lst (Rs.map e3)), .val .non, .no]) Rs e3
    (fun p => match h.pat with | none => false | some i => decide (i ≤ p.2.2)) (fun p => .int p.1) (by simp [LIM, Function.comp_def, conD, runD, evalSs, evalS, evalE, evalL, evalA, evalAnd, evalOr, evalI, evalJ, evalH, seqR, seqD, isSeqE, partR, partD, entry, iosAt, setS, parS, gather, iosOf, callR, putIos, binD, cmpD, ixD, atI, ixN, slD, isiD, D.ty, boolsOf, bindT, bindTs, wipeE, plainAt, backE, lend, Env.hide, SV.hide, SV.isOwn, SV.dat, SV.put, ownAt, shutE, ixD', compF, ofO, R.bind, R.bindB, R.toS, R.toSB, RS.bind, bq_len, bq_abs, bq_min, bq_max, bq_int, bq_all, bq_sorted, bq_list, bq_tuple, bLen, bAbs, bMin, bMax, bInt, bAll, bSorted, bList, bTuple]) (by rfl) (fun x hx => by
      have hx := hw x hx
      obtain ⟨top, ws, f, o, pat⟩ := h
      have gn : D.non.good = true := by rfl
      cases pat with
      | none => simp [LIM, Function.comp_def, conD, runD, evalSs, evalS, evalE, evalL, evalA, evalAnd, evalOr, evalI, evalJ, evalH, seqR, seqD, isSeqE, partR, partD, entry, iosAt, setS, parS, gather, iosOf, callR, putIos, binD, cmpD, ixD, atI, ixN, slD, isiD, D.ty, boolsOf, bindT, bindTs, wipeE, plainAt, backE, lend, Env.hide, SV.hide, SV.isOwn, SV.dat, SV.put, ownAt, shutE, ixD', compF, ofO, R.bind, R.bindB, R.toS, R.toSB, RS.bind, bq_len, bq_abs, bq_min, bq_max, bq_int, bq_all, bq_sorted, bq_list, bq_tuple, bLen, bAbs, bMin, bMax, bInt, bAll, bSorted, bList, bTuple, e3, Hl.d, patD, D.eqv, good_int, gn]
      | some i =>
        have hx : x.2.2 ≤ i := hx
        by_cases hi : i ≤ x.2.2
        · have : (x.2.2 == i) = true := by rw [beq_iff_eq]; omega
          simp [LIM, Function.comp_def, conD, runD, evalSs, evalS, evalE, evalL, evalA, evalAnd, evalOr, evalI, evalJ, evalH, seqR, seqD, isSeqE, partR, partD, entry, iosAt, setS, parS, gather, iosOf, callR, putIos, binD, cmpD, ixD, atI, ixN, slD, isiD, D.ty, boolsOf, bindT, bindTs, wipeE, plainAt, backE, lend, Env.hide, SV.hide, SV.isOwn, SV.dat, SV.put, ownAt, shutE, ixD', compF, ofO, R.bind, R.bindB, R.toS, R.toSB, RS.bind, bq_len, bq_abs, bq_min, bq_max, bq_int, bq_all, bq_sorted, bq_list, bq_tuple, bLen, bAbs, bMin, bMax, bInt, bAll, bSorted, bList, bTuple, e3, Hl.d, patD, D.eqv, good_int, hi, this]
        · have : (x.2.2 == i) = false := by rw [beq_eq_false_iff_ne]; omega
          simp [LIM, Function.comp_def, conD, runD, evalSs, evalS, evalE, evalL, evalA, evalAnd, evalOr, evalI, evalJ, evalH, seqR, seqD, isSeqE, partR, partD, entry, iosAt, setS, parS, gather, iosOf, callR, putIos, binD, cmpD, ixD, atI, ixN, slD, isiD, D.ty, boolsOf, bindT, bindTs, wipeE, plainAt, backE, lend, Env.hide, SV.hide, SV.isOwn, SV.dat, SV.put, ownAt, shutE, ixD', compF, ofO, R.bind, R.bindB, R.toS, R.toSB, RS.bind, bq_len, bq_abs, bq_min, bq_max, bq_int, bq_all, bq_sorted, bq_list, bq_tuple, bLen, bAbs, bMin, bMax, bInt, bAll, bSorted, bList, bTuple, e3, Hl.d, patD, D.eqv, good_int, hi, this]) (by unfold LIM; omega)
  have eg : ((Rs.filter fun p => match h.pat with | none => false | some i => decide (i ≤ p.2.2)).map fun p => D.int p.1) = (goneOf h Rs).map D.int := by
    unfold goneOf; rw [List.map_map]; rfl
  rw [eg] at key1
  have gg := good_ints (goneOf h Rs)
  have ga : ∀ z : Int, ((goneOf h Rs).map D.int).any (fun y => y.eqv (.int z)) = (goneOf h Rs).any fun y => y == z := fun z => by
    rw [List.any_map]; rfl
  generalize goneOf h Rs = G at *
  have key2 := comp_filt (Γ := Γ) (vs := [8]) (elt := .var 8) (tg := .nm 8) (src := .var 10) (cond := .cmp .NotIn (.ix (.var 8) (.cst (.int 0))) (.var 4)) (ρ := [.val h.d, .val dL, .val dn, .val dc, .val (.lst (G.map D.int)), .val (.lst made), .val dm, .no, .no, .no, .val (.lst (Rs.map e3)), .val .non, .no]) Rs e3
    (fun p => !G.any fun z => z == p.1) e3 (by simp [LIM, Function.comp_def, conD, runD, evalSs, evalS, evalE, evalL, evalA, evalAnd, evalOr, evalI, evalJ, evalH, seqR, seqD, isSeqE, partR, partD, entry, iosAt, setS, parS, gather, iosOf, callR, putIos, binD, cmpD, ixD, atI, ixN, slD, isiD, D.ty, boolsOf, bindT, bindTs, wipeE, plainAt, backE, lend, Env.hide, SV.hide, SV.isOwn, SV.dat, SV.put, ownAt, shutE, ixD', compF, ofO, R.bind, R.bindB, R.toS, R.toSB, RS.bind, bq_len, bq_abs, bq_min, bq_max, bq_int, bq_all, bq_sorted, bq_list, bq_tuple, bLen, bAbs, bMin, bMax, bInt, bAll, bSorted, bList, bTuple]) (by rfl) (fun x hx => by
      generalize h.d = hd
      have ga' := ga x.1
      cases hz : G.any (fun z => z == x.1) with
      | false => rw [hz] at ga'; simp [LIM, Function.comp_def, conD, runD, evalSs, evalS, evalE, evalL, evalA, evalAnd, evalOr, evalI, evalJ, evalH, seqR, seqD, isSeqE, partR, partD, entry, iosAt, setS, parS, gather, iosOf, callR, putIos, binD, cmpD, ixD, atI, ixN, slD, isiD, D.ty, boolsOf, bindT, bindTs, wipeE, plainAt, backE, lend, Env.hide, SV.hide, SV.isOwn, SV.dat, SV.put, ownAt, shutE, ixD', compF, ofO, R.bind, R.bindB, R.toS, R.toSB, RS.bind, bq_len, bq_abs, bq_min, bq_max, bq_int, bq_all, bq_sorted, bq_list, bq_tuple, bLen, bAbs, bMin, bMax, bInt, bAll, bSorted, bList, bTuple, e3, gg, ga', good_int]
      | true => rw [hz] at ga'; simp [LIM, Function.comp_def, conD, runD, evalSs, evalS, evalE, evalL, evalA, evalAnd, evalOr, evalI, evalJ, evalH, seqR, seqD, isSeqE, partR, partD, entry, iosAt, setS, parS, gather, iosOf, callR, putIos, binD, cmpD, ixD, atI, ixN, slD, isiD, D.ty, boolsOf, bindT, bindTs, wipeE, plainAt, backE, lend, Env.hide, SV.hide, SV.isOwn, SV.dat, SV.put, ownAt, shutE, ixD', compF, ofO, R.bind, R.bindB, R.toS, R.toSB, RS.bind, bq_len, bq_abs, bq_min, bq_max, bq_int, bq_all, bq_sorted, bq_list, bq_tuple, bLen, bAbs, bMin, bMax, bInt, bAll, bSorted, bList, bTuple, e3, gg, ga', good_int]) (by unfold LIM; omega)
  generalize (Rs.filter fun p => !G.any fun z => z == p.1).map e3 = W at *
  generalize G.map D.int = GD at *
  generalize Rs.map e3 = RD at *
  generalize h.d = hd at *
  refine ⟨[.val (.lst GD), .val (.lst made), .val dm, .no, .no, .no, .val (.lst RD), .val .non, .no], ?_⟩
  simp [lPost, b_law_beat, LIM, Function.comp_def, conD, runD, evalSs, evalS, evalE, evalL, evalA, evalAnd, evalOr, evalI, evalJ, evalH, seqR, seqD, isSeqE, partR, partD, entry, iosAt, setS, parS, gather, iosOf, callR, putIos, binD, cmpD, ixD, atI, ixN, slD, isiD, D.ty, boolsOf, bindT, bindTs, wipeE, plainAt, backE, lend, Env.hide, SV.hide, SV.isOwn, SV.dat, SV.put, ownAt, shutE, ixD', compF, ofO, R.bind, R.bindB, R.toS, R.toSB, RS.bind, bq_len, bq_abs, bq_min, bq_max, bq_int, bq_all, bq_sorted, bq_list, bq_tuple, bLen, bAbs, bMin, bMax, bInt, bAll, bSorted, bList, bTuple, ↓key1, ↓key2]
theorem lbeat_s (Γ : Ctr) (c1 : List AV → CRes) (hf : Γ.fn "_law_picked" = some c1) (s1 : SPick c1) : SBeat (conD Γ FU 4 13 b_law_beat) := by
  intro h k n L w hn o
  have e1 := lpre_ok hf s1 k hn w o
  have wn := now_ok k w o
  have ln := wn.len
  have e2 := whl_lbeat hf s1 k (n := n + 1) (by omega) (dL := .lst (L.map e3)) (dn := .int n) (dc := patD o) (dm := .int h.most) (nowOf h L n o).length FU (nowOf h L n o) [] (Nat.le_refl _) (by show _ < 100000; omega) wn (by simp; omega)
  have lr := (rounds_sub h (nowOf h L n o).length (nowOf h L n o)).1.length_le
  obtain ⟨ρ', ee3⟩ := lpost_ok (Γ := Γ) k (Rs := (rounds h (nowOf h L n o).length (nowOf h L n o)).1) (by omega) (fun p hp => ((rounds_ok wn).w0 p hp).2) (made := [] ++ (rounds h (nowOf h L n o).length (nowOf h L n o)).2.map m2) (dL := .lst (L.map e3)) (dn := .int n) (dc := patD o) (dm := .int h.most)
  have e4 : evalSs Γ FU b_law_beat [.val h.d, .val (.lst (L.map e3)), .val (.int n), .val (patD o), .no, .no, .no, .no, .no, .no, .no, .no, .no] = .ret (beatR h L n o, false) (.val h.d :: .val (.lst (L.map e3)) :: .val (.int n) :: .val (patD o) :: ρ') := by
    rw [b_lbeat_eq, evalSs_app, e1]
    simp only [RS.bind_nxt]
    rw [evalSs_app]
    simp only [evalSs, evalS]
    rw [e2]
    simp only [RS.bind_nxt]
    exact ee3
  exact conD_ret rfl e4 rfl
end W2

/-! The law's rows of comings; stands; what the package gives. -/
namespace W2
open PySem L2

def lrB : List St := [.tgt (.tp [(.nm 11), (.nm 7), (.nm 6)]) (.call "_law_beat" [(.var 0), (.var 11), (.var 3), (.var 4)]),
    .set 10 (.bin .Add (.var 10) (.comp [8, 9] (.tup [(.var 2), (.var 8), (.var 9)]) (.tp [(.nm 8), (.nm 9)]) (.var 7) (.cst (.bl true)))),
    .set 5 (.bin .Add (.var 5) (.comp [8] (.tup [(.var 2), (.var 8)]) (.nm 8) (.var 6) (.cst (.bl true)))),
    .set 3 (.bin .Add (.var 3) (.ite (.cmp .Is (.var 4) (.cst .non)) (.cst (.int 0)) (.cst (.int 1))))]
theorem b_lrun_eq : b_law_run = [.tgt (.tp [(.nm 11), (.nm 10), (.nm 5), (.nm 3)]) (.tup [(.lst []), (.lst []), (.lst []), (.cst (.int 0))]), .for_ (.tp [(.nm 2), (.nm 4)]) (.enu (.var 1)) lrB, .ret (.tup [(.var 11), (.var 10), (.var 5)])] := rfl
theorem lrun_turn {Γ : Ctr} {c : List AV → CRes} (hb : Γ.fn "_law_beat" = some c) (s : SBeat c) {h : Hl} (k : h.Ok) {n i : Nat} {W : List P3} (w : WtOk h n W) (hn : n ≤ 60) {M G : List D} (hM : M.length ≤ 5000) (hG : G.length ≤ 5000) (o : Option Int) {rd : D} {x6 x7 : SV} (n6 : PN x6) (n7 : PN x7) :
    ∃ y6 y7, PN y6 ∧ PN y7 ∧ evalSs Γ FU lrB [.val h.d, .val rd, .val (.int i), .val (.int n), .val (patD o), .val (.lst G), x6, x7, .no, .no, .val (.lst M), .val (.lst (W.map e3))] =
      .nxt [.val h.d, .val rd, .val (.int i), .val (.int ((n + cnt o : Nat) : Int)), .val (patD o), .val (.lst (G ++ (beatG h W n o).map (t2 i))), y6, y7, .no, .no, .val (.lst (M ++ (beatM h W n o).map (t3 i))), .val (.lst ((beatW h W n o).map e3))] := by
  have key := s h k n W w (by omega) o
  have lm := beatM_len k w o
  have lg := beatG_len k w o
  have ec : (n : Int) + (if (patD o).isN = true then 0 else 1) = ((n + cnt o : Nat) : Int) := by
    cases o with
    | none => simp [patD, D.isN, cnt]
    | some _ => simp [patD, D.isN, cnt]
  unfold beatR at key
  generalize beatM h W n o = m at *
  generalize beatG h W n o = g at *
  generalize (beatW h W n o).map e3 = nw at *
  generalize patD o = od at *
  generalize h.d = hd at *
  refine ⟨.val (.lst (g.map D.int)), .val (.lst (m.map m2)), .inr ⟨_, rfl⟩, .inr ⟨_, rfl⟩, ?_⟩
  have k1 := comp_map (Γ := Γ) (vs := [8, 9]) (elt := .tup [(.var 2), (.var 8), (.var 9)]) (tg := .tp [(.nm 8), (.nm 9)]) (src := .var 7) (cond := .cst (.bl true)) (ρ := [.val hd, .val rd, .val (.int i), .val (.int n), .val od, .val (.lst G), .val (.lst (g.map D.int)), .val (.lst (m.map m2)), .no, .no, .val (.lst M), .val (.lst nw)]) m m2 (t3 i) (by simp [LIM, Function.comp_def, conD, runD, evalSs, evalS, evalE, evalL, evalA, evalAnd, evalOr, evalI, evalJ, evalH, seqR, seqD, isSeqE, partR, partD, entry, iosAt, setS, parS, gather, iosOf, callR, putIos, binD, cmpD, ixD, atI, ixN, slD, isiD, D.ty, boolsOf, bindT, bindTs, wipeE, plainAt, backE, lend, Env.hide, SV.hide, SV.isOwn, SV.dat, SV.put, ownAt, shutE, ixD', compF, ofO, R.bind, R.bindB, R.toS, R.toSB, RS.bind, bq_len, bq_abs, bq_min, bq_max, bq_int, bq_all, bq_sorted, bq_list, bq_tuple, bLen, bAbs, bMin, bMax, bInt, bAll, bSorted, bList, bTuple]) (by rfl) (fun x hx => by simp [LIM, Function.comp_def, conD, runD, evalSs, evalS, evalE, evalL, evalA, evalAnd, evalOr, evalI, evalJ, evalH, seqR, seqD, isSeqE, partR, partD, entry, iosAt, setS, parS, gather, iosOf, callR, putIos, binD, cmpD, ixD, atI, ixN, slD, isiD, D.ty, boolsOf, bindT, bindTs, wipeE, plainAt, backE, lend, Env.hide, SV.hide, SV.isOwn, SV.dat, SV.put, ownAt, shutE, ixD', compF, ofO, R.bind, R.bindB, R.toS, R.toSB, RS.bind, bq_len, bq_abs, bq_min, bq_max, bq_int, bq_all, bq_sorted, bq_list, bq_tuple, bLen, bAbs, bMin, bMax, bInt, bAll, bSorted, bList, bTuple, m2, t3]) (by unfold LIM; omega)
  have k2 := comp_map (Γ := Γ) (vs := [8]) (elt := .tup [(.var 2), (.var 8)]) (tg := .nm 8) (src := .var 6) (cond := .cst (.bl true)) (ρ := [.val hd, .val rd, .val (.int i), .val (.int n), .val od, .val (.lst G), .val (.lst (g.map D.int)), .val (.lst (m.map m2)), .no, .no, .val (.lst (M ++ m.map (t3 i))), .val (.lst nw)]) g D.int (t2 i) (by simp [LIM, Function.comp_def, conD, runD, evalSs, evalS, evalE, evalL, evalA, evalAnd, evalOr, evalI, evalJ, evalH, seqR, seqD, isSeqE, partR, partD, entry, iosAt, setS, parS, gather, iosOf, callR, putIos, binD, cmpD, ixD, atI, ixN, slD, isiD, D.ty, boolsOf, bindT, bindTs, wipeE, plainAt, backE, lend, Env.hide, SV.hide, SV.isOwn, SV.dat, SV.put, ownAt, shutE, ixD', compF, ofO, R.bind, R.bindB, R.toS, R.toSB, RS.bind, bq_len, bq_abs, bq_min, bq_max, bq_int, bq_all, bq_sorted, bq_list, bq_tuple, bLen, bAbs, bMin, bMax, bInt, bAll, bSorted, bList, bTuple]) (by rfl) (fun x hx => by simp [LIM, Function.comp_def, conD, runD, evalSs, evalS, evalE, evalL, evalA, evalAnd, evalOr, evalI, evalJ, evalH, seqR, seqD, isSeqE, partR, partD, entry, iosAt, setS, parS, gather, iosOf, callR, putIos, binD, cmpD, ixD, atI, ixN, slD, isiD, D.ty, boolsOf, bindT, bindTs, wipeE, plainAt, backE, lend, Env.hide, SV.hide, SV.isOwn, SV.dat, SV.put, ownAt, shutE, ixD', compF, ofO, R.bind, R.bindB, R.toS, R.toSB, RS.bind, bq_len, bq_abs, bq_min, bq_max, bq_int, bq_all, bq_sorted, bq_list, bq_tuple, bLen, bAbs, bMin, bMax, bInt, bAll, bSorted, bList, bTuple, t2]) (by unfold LIM; omega)
  have n6' : ∀ d, ¬ x6 = .io d := n6.ni
  have n7' : ∀ d, ¬ x7 = .io d := n7.ni
  have l1 : M.length ≤ 100000 := by omega
  have l2 : G.length ≤ 100000 := by omega
  have l3 : (m.map (t3 i)).length ≤ 100000 := by rw [List.length_map]; omega
  have l4 : (g.map (t2 i)).length ≤ 100000 := by rw [List.length_map]; omega
  generalize m.map (t3 i) = mt at *
  generalize g.map (t2 i) = gt at *
  generalize g.map D.int = gd at *
  generalize m.map m2 = md at *
  generalize W.map e3 = wd at *
  generalize ((n + cnt o : Nat) : Int) = n' at *
  cases hz : od.isN with
  | true =>
    rw [hz] at ec
    simp [lrB, LIM, Function.comp_def, conD, runD, evalSs, evalS, evalE, evalL, evalA, evalAnd, evalOr, evalI, evalJ, evalH, seqR, seqD, isSeqE, partR, partD, entry, iosAt, parS, gather, iosOf, callR, putIos, binD, cmpD, ixD, atI, ixN, slD, isiD, D.ty, boolsOf, wipeE, plainAt, backE, lend, Env.hide, SV.hide, SV.isOwn, SV.dat, SV.put, ownAt, shutE, ixD', compF, ofO, R.bind, R.bindB, R.toS, R.toSB, RS.bind, bq_len, bq_abs, bq_min, bq_max, bq_int, bq_all, bq_sorted, bq_list, bq_tuple, bLen, bAbs, bMin, bMax, bInt, bAll, bSorted, bList, bTuple, setS_ok, bindT_ok, bindT_tp, bindTs, hb, key, ↓k1, ↓k2, n6', n7', l1, l2, l3, l4, hz]
    simpa using ec
  | false =>
    rw [hz] at ec
    simp [lrB, LIM, Function.comp_def, conD, runD, evalSs, evalS, evalE, evalL, evalA, evalAnd, evalOr, evalI, evalJ, evalH, seqR, seqD, isSeqE, partR, partD, entry, iosAt, parS, gather, iosOf, callR, putIos, binD, cmpD, ixD, atI, ixN, slD, isiD, D.ty, boolsOf, wipeE, plainAt, backE, lend, Env.hide, SV.hide, SV.isOwn, SV.dat, SV.put, ownAt, shutE, ixD', compF, ofO, R.bind, R.bindB, R.toS, R.toSB, RS.bind, bq_len, bq_abs, bq_min, bq_max, bq_int, bq_all, bq_sorted, bq_list, bq_tuple, bLen, bAbs, bMin, bMax, bInt, bAll, bSorted, bList, bTuple, setS_ok, bindT_ok, bindT_tp, bindTs, hb, key, ↓k1, ↓k2, n6', n7', l1, l2, l3, l4, hz]
    simpa using ec
theorem lrun_s (Γ : Ctr) (c : List AV → CRes) (hb : Γ.fn "_law_beat" = some c) (s : SBeat c) : SRun (conD Γ FU 2 12 b_law_run) := by
  intro h k row hr
  obtain ⟨ρ', e, x2, x4, x6, x7, h1, _⟩ := forL_inv (f := evalSs Γ FU lrB) (t := .tp [(.nm 2), (.nm 4)]) (fun i ρ => ∃ x2 x4 x6 x7, ρ = [.val h.d, .val (.tup (row.map patD)), x2, .val (.int (runS h row i).n), x4, .val (.lst (runS h row i).G), x6, x7, .no, .no, .val (.lst (runS h row i).M), .val (.lst ((runS h row i).W.map e3))] ∧ PN x2 ∧ PN x4 ∧ PN x6 ∧ PN x7) (ds := enumD 0 (row.map patD)) (ρ := [.val h.d, .val (.tup (row.map patD)), .no, .val (.int 0), .no, .val (.lst []), .no, .no, .no, .no, .val (.lst []), .val (.lst [])]) 0
    ⟨.no, .no, .no, .no, rfl, .inl rfl, .inl rfl, .inl rfl, .inl rfl⟩ (by
    rintro i d hd ρ ⟨x2, x4, x6, x7, rfl, n2, n4, n6, n7⟩
    obtain ⟨x, hx, rfl⟩ := enumD_get hd
    rw [List.getElem?_map, Option.map_eq_some_iff] at hx
    obtain ⟨o, ho, rfl⟩ := hx
    rw [Nat.zero_add]
    have hi : i < row.length := (List.getElem?_eq_some_iff.mp ho).1
    have eo := getD_none ho
    obtain ⟨w, wn, wM, wG⟩ := runS_ok k row i (by omega)
    obtain ⟨y6, y7, p6, p7, et⟩ := lrun_turn (Γ := Γ) (i := i) hb s k w (by omega) (M := (runS h row i).M) (G := (runS h row i).G) (by omega) (by omega) o (rd := .tup (row.map patD)) n6 n7
    refine ⟨[.val h.d, .val (.tup (row.map patD)), .val (.int i), .val (.int (runS h row i).n), .val (patD o), .val (.lst (runS h row i).G), x6, x7, .no, .no, .val (.lst (runS h row i).M), .val (.lst ((runS h row i).W.map e3))], _, ?_, et, .val (.int i), .val (patD o), y6, y7, ?_, .inr ⟨_, rfl⟩, .inr ⟨_, rfl⟩, p6, p7⟩
    · have n2' : ∀ d, ¬ x2 = .io d := n2.ni
      have n4' : ∀ d, ¬ x4 = .io d := n4.ni
      simp [bindT_ok, bindT_tp, bindTs, n2', n4']
    · subst eo
      rfl)
  subst h1
  rw [Nat.zero_add, enumD_len, List.length_map] at e
  refine conD_ret (ρ := [.val h.d, .val (.tup (row.map patD)), x2, .val (.int (runS h row row.length).n), x4, .val (.lst (runS h row row.length).G), x6, x7, .no, .no, .val (.lst (runS h row row.length).M), .val (.lst ((runS h row row.length).W.map e3))]) rfl ?_ rfl
  unfold runR
  generalize runS h row row.length = st at *
  generalize h.d = hd at *
  simp [b_lrun_eq, LIM, Function.comp_def, conD, runD, evalSs, evalS, evalE, evalL, evalA, evalAnd, evalOr, evalI, evalJ, evalH, seqR, seqD, isSeqE, partR, partD, entry, iosAt, setS, parS, gather, iosOf, callR, putIos, binD, cmpD, ixD, atI, ixN, slD, isiD, D.ty, boolsOf, bindT, bindTs, wipeE, plainAt, backE, lend, Env.hide, SV.hide, SV.isOwn, SV.dat, SV.put, ownAt, shutE, ixD', compF, ofO, R.bind, R.bindB, R.toS, R.toSB, RS.bind, bq_len, bq_abs, bq_min, bq_max, bq_int, bq_all, bq_sorted, bq_list, bq_tuple, bLen, bAbs, bMin, bMax, bInt, bAll, bSorted, bList, bTuple, e]

end W2

/-! What is seen of rows, and the rows by which it is seen: in plain terms. -/
namespace W2
open PySem L2

/-- what is seen of a beat: whether somebody came, the pairs, who gave up -/
abbrev Sn := Bool × List (Int × Int) × List Int
abbrev leP (a b : Int × Int) : Bool := decide (a.1 < b.1 ∨ (a.1 = b.1 ∧ a.2 ≤ b.2))
abbrev sortM (l : List (Int × Int)) : List (Int × Int) := l.mergeSort leP
def snD (b : Sn) : D := .tup [.bl b.1, .tup (b.2.1.map m2), .tup (b.2.2.map D.int)]
def seenD (s : List Sn) : D := .tup (s.map snD)
def sawOf (h : Hl) (st : RSt) (o : Option Int) : Sn := (o.isSome, sortM (beatM h st.W st.n o), beatG h st.W st.n o)
/-- behind one coming more -/
def stepS (h : Hl) (k : Nat) (st : RSt) (o : Option Int) : RSt := ⟨beatW h st.W st.n o, st.n + cnt o, st.M ++ (beatM h st.W st.n o).map (t3 k), st.G ++ (beatG h st.W st.n o).map (t2 k)⟩
theorem runS_step (h : Hl) (row : List (Option Int)) (k : Nat) : runS h row (k + 1) = stepS h k (runS h row k) (row.getD k none) := rfl
theorem runS_app (h : Hl) (row : List (Option Int)) (o : Option Int) : ∀ k, k ≤ row.length → runS h (row ++ [o]) k = runS h row k
  | 0, _ => rfl
  | k + 1, hk => by
    rw [runS_step, runS_step, runS_app h row o k (by omega)]
    congr 1
    rw [List.getD_eq_getElem?_getD, List.getD_eq_getElem?_getD, List.getElem?_append_left (by omega)]
theorem runS_snoc (h : Hl) (row : List (Option Int)) (o : Option Int) : runS h (row ++ [o]) (row.length + 1) = stepS h row.length (runS h row row.length) o := by
  rw [runS_step, runS_app h row o row.length (Nat.le_refl _)]
  congr 1
  rw [List.getD_eq_getElem?_getD, List.getElem?_append_right (Nat.le_refl _)]
  simp
/-- what is seen of a row -/
def seenOf (h : Hl) (row : List (Option Int)) : List Sn := (List.range row.length).map fun k => sawOf h (runS h row k) (row.getD k none)
theorem seenOf_snoc (h : Hl) (row : List (Option Int)) (o : Option Int) : seenOf h (row ++ [o]) = seenOf h row ++ [sawOf h (runS h row row.length) o] := by
  unfold seenOf
  rw [List.length_append, List.length_singleton, List.range_succ, List.map_append]
  congr 1
  · apply List.map_congr_left
    intro k hk
    rw [List.mem_range] at hk
    rw [runS_app h row o k (by omega), List.getD_eq_getElem?_getD, List.getD_eq_getElem?_getD, List.getElem?_append_left hk]
  · rw [List.map_singleton, runS_app h row o row.length (Nat.le_refl _), List.getD_eq_getElem?_getD, List.getElem?_append_right (Nat.le_refl _)]
    simp
def optsOf (h : Hl) (c : Bool) : List (Option Int) := if c then (List.range (h.top + 1).toNat).map (fun (i : Nat) => some (i : Int)) else [none]
theorem opts_some {h : Hl} {c : Bool} {o : Option Int} (m : o ∈ optsOf h c) : o.isSome = c := by
  unfold optsOf at m
  cases c with
  | true =>
    simp only [if_true, List.mem_map] at m
    obtain ⟨i, _, rfl⟩ := m
    rfl
  | false =>
    simp at m
    subst m
    rfl
/-- all rows in whose beats somebody comes as was seen -/
def rowsOf (h : Hl) : List Sn → List (List (Option Int))
  | [] => [[]]
  | s => rowsR h s.reverse
where rowsR (h : Hl) : List Sn → List (List (Option Int))
  | [] => [[]]
  | b :: r => (rowsR h r).flatMap fun row => (optsOf h b.1).map fun o => row ++ [o]
theorem rowsOf_eq (h : Hl) (s : List Sn) : rowsOf h s = rowsOf.rowsR h s.reverse := by
  cases s <;> rfl
theorem rowsOf_snoc (h : Hl) (s : List Sn) (b : Sn) : rowsOf h (s ++ [b]) = (rowsOf h s).flatMap fun row => (optsOf h b.1).map fun o => row ++ [o] := by
  rw [rowsOf_eq, rowsOf_eq, List.reverse_append]
  rfl
theorem rows_len {h : Hl} : ∀ (s : List Sn) (row : List (Option Int)), row ∈ rowsOf.rowsR h s → row.length = s.length
  | [], row, m => by simp [rowsOf.rowsR] at m; subst m; rfl
  | b :: s, row, m => by
    simp only [rowsOf.rowsR, List.mem_flatMap, List.mem_map] at m
    obtain ⟨r, hr, o, _, rfl⟩ := m
    simp [rows_len s r hr]
/-- who came, by strength -/
def strOf (row : List (Option Int)) : List Int := row.filterMap id
/-- the strengths and who waits, by which all is seen so, as the program finds them -/
def toldR (h : Hl) : List Sn → List (List Int × List P3)
  | [] => [([], [])]
  | b :: r => (toldR h r).flatMap fun x => ((optsOf h b.1).filter fun o => decide (sortM (beatM h x.2 x.1.length o) = b.2.1 ∧ beatG h x.2 x.1.length o = b.2.2)).map fun o => (x.1 ++ o.toList, beatW h x.2 x.1.length o)
def told (h : Hl) (s : List Sn) : List (List Int × List P3) := toldR h s.reverse
theorem strOf_snoc (row : List (Option Int)) (o : Option Int) : strOf (row ++ [o]) = strOf row ++ o.toList := by
  unfold strOf
  rw [List.filterMap_append]
  cases o <;> rfl
theorem runS_nR (h : Hl) : ∀ r : List (Option Int), (runS h r.reverse r.reverse.length).n = (strOf r.reverse).length
  | [] => rfl
  | o :: r => by
    rw [List.reverse_cons, List.length_append, List.length_singleton, runS_snoc, strOf_snoc, List.length_append, ← runS_nR h r]
    show _ + cnt o = _
    cases o <;> rfl
theorem runS_n (h : Hl) (row : List (Option Int)) : (runS h row row.length).n = (strOf row).length := by
  have := runS_nR h row.reverse
  rwa [List.reverse_reverse] at this
theorem flatMap_filt {α β : Type} (Q : α → Bool) (F : α → List β) : ∀ l : List α, (l.filter Q).flatMap F = l.flatMap fun a => if Q a = true then F a else []
  | [] => rfl
  | a :: l => by
    cases e : Q a <;> simp [e, flatMap_filt Q F l]
theorem filt_flatMap {α β γ : Type} (P : β → Bool) (G : α → List β) (g : β → γ) : ∀ l : List α, ((l.flatMap G).filter P).map g = l.flatMap fun a => ((G a).filter P).map g
  | [] => rfl
  | a :: l => by simp [filt_flatMap P G g l]
theorem flatMap_cong {α β : Type} {F G : α → List β} : ∀ {l : List α}, (∀ a ∈ l, F a = G a) → l.flatMap F = l.flatMap G
  | [], _ => rfl
  | a :: l, h => by
    rw [List.flatMap_cons, List.flatMap_cons, h a List.mem_cons_self, flatMap_cong fun b hb => h b (List.mem_cons_of_mem _ hb)]
/-- it is the rows that are seen so -/
theorem told_eq (h : Hl) : ∀ s : List Sn, toldR h s = ((rowsOf.rowsR h s).filter fun row => decide (seenOf h row = s.reverse)).map fun row => (strOf row, (runS h row row.length).W)
  | [] => by simp [toldR, rowsOf.rowsR, seenOf, strOf, runS]
  | b :: s => by
    simp only [toldR, rowsOf.rowsR]
    rw [told_eq h s, List.flatMap_map, flatMap_filt, filt_flatMap]
    refine flatMap_cong fun row hr => ?_
    simp only [decide_eq_true_eq]
    rw [List.filter_map, List.map_map]
    by_cases hs : seenOf h row = s.reverse
    · rw [if_pos hs]
      have ef : (optsOf h b.1).filter (fun o => decide (sortM (beatM h (runS h row row.length).W (strOf row).length o) = b.2.1 ∧ beatG h (runS h row row.length).W (strOf row).length o = b.2.2)) = (optsOf h b.1).filter ((fun row => decide (seenOf h row = (b :: s).reverse)) ∘ fun o => row ++ [o]) := by
        apply List.filter_congr
        intro o ho
        have h1 := opts_some ho
        simp only [Function.comp_apply]
        rw [decide_eq_decide, seenOf_snoc, List.reverse_cons, hs, List.append_cancel_left_eq]
        unfold sawOf
        rw [runS_n, h1]
        obtain ⟨b1, b2, b3⟩ := b
        simp
      rw [← ef]
      apply List.map_congr_left
      intro o _
      simp only [Function.comp_apply]
      rw [strOf_snoc, List.length_append, List.length_singleton, runS_snoc, ← runS_n]
      rfl
    · rw [if_neg hs]
      symm
      rw [List.map_eq_nil_iff, List.filter_eq_nil_iff]
      intro o _
      simp only [Function.comp_apply, decide_eq_true_eq, seenOf_snoc, List.reverse_cons]
      intro z
      exact hs (List.append_inj_left' z rfl)
end W2

/-! Sorted pairs, sorted strengths. -/
namespace W2
open PySem L2

theorem le_m2 (a b : Int × Int) : PySem.W.dataLe false D.py (m2 a) (m2 b) = leP a b := by
  show (!PySem.W.dataLt (.tuple [.int b.1, .int b.2]) (.tuple [.int a.1, .int a.2])) = _
  rw [PySem.W.dataLt_ii]
  unfold leP
  by_cases h : b.1 < a.1 ∨ (b.1 = a.1 ∧ b.2 < a.2)
  · rw [decide_eq_true h, decide_eq_false (by omega)]; rfl
  · rw [decide_eq_false h, decide_eq_true (by omega)]; rfl
theorem sort_m2 (M : List (Int × Int)) (hl : M.length ≤ LIM) : sortD (M.map m2) = some ((sortM M).map m2) := by
  have h1 : (M.map m2).all D.good = true := by
    rw [List.all_eq_true]
    intro d hd
    obtain ⟨x, _, rfl⟩ := List.mem_map.mp hd
    rfl
  have h2 : (M.map m2).all D.isT1 = true := by
    rw [List.all_eq_true]
    intro d hd
    obtain ⟨x, _, rfl⟩ := List.mem_map.mp hd
    rfl
  have h3 : decide ((M.map m2).length ≤ LIM) = true := by rw [List.length_map]; simpa using hl
  have h4 := alikes_map (g := m2) (fun x y => by simp [m2, D.py, D.pyL, PySem.W.alike, PySem.W.alikeAll]) M
  rw [sortD_ms]
  rw [h1, h2, h3, h4]
  simp only [Bool.true_or, Bool.or_true, Bool.and_true, if_true]
  rw [show (sortM M).map m2 = (M.map m2).mergeSort (PySem.W.dataLe false D.py) from List.map_mergeSort fun a _ b _ => (le_m2 a b).symm]
def strD (st : List Int) : D := .tup (st.map D.int)
/-- the strengths in order, as the rows stand for them -/
def sortS (l : List (List Int)) : List D := (l.map strD).mergeSort (PySem.W.dataLe false D.py)
theorem strD_good (st : List Int) : (strD st).good = true := by
  refine good_of ?_ ?_
  · simp only [strD, D.plain]
    exact plainL_of fun d hd => by
      obtain ⟨x, _, rfl⟩ := List.mem_map.mp hd
      rfl
  · simp only [strD, D.dep]
    have : D.depL (st.map D.int) ≤ 0 := depL_le fun d hd => by
      obtain ⟨x, _, rfl⟩ := List.mem_map.mp hd
      simp [D.dep]
    omega
theorem alike_ints : ∀ a b : List Int, a.length = b.length → PySem.W.alikeAll (D.pyL (a.map D.int)) (D.pyL (b.map D.int)) = true
  | [], [], _ => rfl
  | [], _ :: _, h => by cases h
  | _ :: _, [], h => by cases h
  | x :: a, y :: b, h => by
    simp only [List.map_cons, D.pyL, D.py, PySem.W.alikeAll, PySem.W.alike, Bool.true_and]
    exact alike_ints a b (by simpa using h)
theorem sort_strs {l : List (List Int)} {m : Nat} (hm : ∀ st ∈ l, st.length = m) (h0 : m = 0 → l.length ≤ 1) (hl : l.length ≤ LIM) : sortD (l.map strD) = some (sortS l) := by
  have h1 : (l.map strD).all D.good = true := by
    rw [List.all_eq_true]
    intro d hd
    obtain ⟨x, _, rfl⟩ := List.mem_map.mp hd
    exact strD_good x
  have h3 : decide ((l.map strD).length ≤ LIM) = true := by rw [List.length_map]; simpa using hl
  have h4 : D.alikes (l.map strD) = true := by
    unfold D.alikes
    rw [List.all_eq_true]
    intro d hd
    rw [List.all_eq_true]
    intro e he
    obtain ⟨x, hx, rfl⟩ := List.mem_map.mp hd
    obtain ⟨y, hy, rfl⟩ := List.mem_map.mp he
    simp only [strD, D.py, PySem.W.alike]
    exact alike_ints x y ((hm x hx).trans (hm y hy).symm)
  have h2 : (D.oneE (l.map strD) || ((l.map strD).all D.isT1 || (l.map strD).all D.isNT)) = true := by
    cases m with
    | zero =>
      have h0 := h0 rfl
      match l, h0, hm with
      | [], _, _ => rfl
      | [st], _, hm =>
        have := hm st List.mem_cons_self
        cases st with
        | nil => rfl
        | cons a t => cases this
    | succ m =>
      have : (l.map strD).all D.isT1 = true := by
        rw [List.all_eq_true]
        intro d hd
        obtain ⟨x, hx, rfl⟩ := List.mem_map.mp hd
        have := hm x hx
        cases x with
        | nil => cases this
        | cons a t => rfl
      rw [this]
      simp
  rw [sortD_ms]
  unfold sortS
  rw [h1, h2, h3, h4]
  rfl
/-- how many came -/
def camN (s : List Sn) : Nat := (s.filter fun b => b.1).length
theorem told_len {h : Hl} : ∀ (s : List Sn) (x : List Int × List P3), x ∈ toldR h s → x.1.length = camN s
  | [], x, m => by simp [toldR] at m; subst m; rfl
  | b :: s, x, m => by
    simp only [toldR, List.mem_flatMap, List.mem_map, List.mem_filter] at m
    obtain ⟨y, hy, o, ⟨ho, _⟩, rfl⟩ := m
    have h1 := told_len s y hy
    have h2 := opts_some ho
    unfold camN at h1 ⊢
    cases o with
    | none =>
      have h2 : b.1 = false := h2.symm
      simp [h1, h2]
    | some i =>
      have h2 : b.1 = true := h2.symm
      simp [h1, h2]
theorem told_one {h : Hl} : ∀ s : List Sn, camN s = 0 → (toldR h s).length ≤ 1
  | [], _ => by simp [toldR]
  | b :: s, h0 => by
    have hb : b.1 = false := by
      cases e : b.1 with
      | false => rfl
      | true => unfold camN at h0; simp [e] at h0
    have hs : camN s = 0 := by unfold camN at h0 ⊢; simpa [hb] using h0
    have ih := told_one (h := h) s hs
    simp only [toldR]
    match toldR h s, ih with
    | [], _ => simp
    | [y], _ =>
      simp only [List.flatMap_cons, List.flatMap_nil, List.append_nil, List.length_map]
      refine Nat.le_trans (List.length_filter_le _ _) ?_
      rw [hb]
      simp [optsOf]
theorem told_size {h : Hl} (k : h.Ok) : ∀ s : List Sn, (toldR h s).length ≤ 5 ^ s.length
  | [] => by simp [toldR]
  | b :: s => by
    have ih := told_size k s
    have t4 := k.t4
    simp only [toldR]
    have go : ∀ l : List (List Int × List P3), (l.flatMap fun x => ((optsOf h b.1).filter fun o => decide (sortM (beatM h x.2 x.1.length o) = b.2.1 ∧ beatG h x.2 x.1.length o = b.2.2)).map fun o => (x.1 ++ o.toList, beatW h x.2 x.1.length o)).length ≤ l.length * 5 := by
      intro l
      induction l with
      | nil => simp
      | cons y l ih =>
        rw [List.flatMap_cons, List.length_append, List.length_map, List.length_cons]
        have h5 : ((optsOf h b.1).filter fun o => decide (sortM (beatM h y.2 y.1.length o) = b.2.1 ∧ beatG h y.2 y.1.length o = b.2.2)).length ≤ 5 := by
          refine Nat.le_trans (List.length_filter_le _ _) ?_
          unfold optsOf
          cases b.1 <;> simp
          omega
        omega
    have := go (toldR h s)
    rw [List.length_cons, Nat.pow_succ]
    omega
end W2

/-! What the program tells back. -/
namespace W2
open PySem L2

theorem forL_flat {α : Type} {f : Env → RS} {t : Tg} (u : α → D) (G : α → List D) (B : Nat) (I : List D → Env → Prop) : ∀ (xs : List α) (acc : List D) (ρ : Env), I acc ρ → acc.length + (xs.flatMap G).length ≤ B → (∀ x ∈ xs, ∀ acc ρ, I acc ρ → acc.length + (G x).length ≤ B → ∃ ρ1 ρ2, bindT t (u x) ρ = some ρ1 ∧ f ρ1 = .nxt ρ2 ∧ I (acc ++ G x) ρ2) →
    ∃ ρ', forL f t (xs.map u) ρ = .nxt ρ' ∧ I (acc ++ xs.flatMap G) ρ'
  | [], acc, ρ, h, _, _ => ⟨ρ, by simp [forL], by simpa using h⟩
  | x :: xs, acc, ρ, h, hb, st => by
    rw [List.flatMap_cons, List.length_append] at hb
    obtain ⟨ρ1, ρ2, e1, e2, e3⟩ := st x List.mem_cons_self acc ρ h (by omega)
    obtain ⟨ρ', k1, k2⟩ := forL_flat u G B I xs (acc ++ G x) ρ2 e3 (by rw [List.length_append]; omega) fun y hy => st y (List.mem_cons_of_mem _ hy)
    refine ⟨ρ', ?_, by rw [List.flatMap_cons, ← List.append_assoc]; exact k2⟩
    simp only [List.map_cons, forL]
    rw [e1]
    show (f ρ1).bind (forL f t (xs.map u)) = _
    rw [e2]
    exact k1
theorem flat_filt {α β : Type} (p : α → Bool) (g : α → β) : ∀ xs : List α, (xs.flatMap fun x => if p x = true then [g x] else []) = (xs.filter p).map g
  | [] => rfl
  | x :: xs => by cases e : p x <;> simp [e, flat_filt p g xs]
theorem eqv_m2s : ∀ a b : List (Int × Int), D.eqvL (a.map m2) (b.map m2) = decide (a = b)
  | [], [] => rfl
  | [], _ :: _ => by simp [D.eqvL]
  | _ :: _, [] => by simp [D.eqvL]
  | (a, b) :: as, (c, d) :: bs => by
    simp only [List.map_cons, D.eqvL, m2, D.eqv, Bool.and_true]
    rw [show D.eqvL (as.map m2) (bs.map m2) = decide (as = bs) from eqv_m2s as bs]
    by_cases h1 : a = c <;> by_cases h2 : b = d <;> by_cases h3 : as = bs <;> simp [h1, h2, h3]
theorem good_m2s (l : List (Int × Int)) : (D.tup (l.map m2)).good = true := by
  have := good_map (g := m2) (n := 1) (by decide) (fun x => by simp [m2, D.plain, D.plainL, D.dep, D.depL]) l
  unfold D.good at this ⊢
  simpa [D.plain, D.dep] using this
theorem good_tints (l : List Int) : (D.tup (l.map D.int)).good = true := strD_good l
def foundD (x : List Int × List P3) : D := .tup [strD x.1, .lst (x.2.map e3)]
def tB3 : List St := [.tgt (.tp [(.nm 11), (.nm 8), (.nm 5)]) (.call "beat_of" [(.var 0), (.var 12), (.blt "len" [(.var 10)]), (.var 3)]),
    .ife (.andE [(.cmp .Eq (.blt "tuple" [(.blt "sorted" [(.var 8)])]) (.var 9)), (.cmp .Eq (.blt "tuple" [(.var 5)]) (.var 7))]) [.app 6 (.tup [(.bin .Add (.var 10) (.ite (.var 2) (.tup [(.var 3)]) (.tup []))), (.var 11)])] []]
abbrev tSrc : E := .ite (.var 2) (.lrg (.rng1 (.bin .Add (.ix (.var 0) (.cst (.int 0))) (.cst (.int 1))))) (.lst [(.cst .non)])
def tB2 : List St := [.for_ (.nm 3) tSrc tB3]
def tB1 : List St := [.own 6 (.lst []), .for_ (.tp [(.nm 10), (.nm 12)]) (.var 4) tB2, .mov 4 6]
theorem b_told_eq : b_told_of = [.set 4 (.lst [(.tup [(.tup []), (.lst [])])]), .for_ (.tp [(.nm 2), (.nm 9), (.nm 7)]) (.var 1) tB1, .ret (.blt "sorted" [(.comp [10, 12] (.var 10) (.tp [(.nm 10), (.nm 12)]) (.var 4) (.cst (.bl true)))])] := rfl
/-- whether it is seen so, with one coming more -/
abbrev isSo (h : Hl) (b : Sn) (x : List Int × List P3) (o : Option Int) : Bool := decide (sortM (beatM h x.2 x.1.length o) = b.2.1 ∧ beatG h x.2 x.1.length o = b.2.2)
theorem told_turn {Γ : Ctr} {c : List AV → CRes} (hb : Γ.fn "beat_of" = some c) (s : SBeat c) {h : Hl} (k : h.Ok) {b : Sn} {x : List Int × List P3} (w : WtOk h x.1.length x.2) (hn : x.1.length ≤ 50) {o : Option Int} (ho : o.isSome = b.1) {sd fd : D} {acc : List D} (ha : acc.length < 100000) {x5 x8 x11 : SV} (n5 : PN x5) (n8 : PN x8) (n11 : PN x11) :
    ∃ y5 y8 y11, PN y5 ∧ PN y8 ∧ PN y11 ∧ evalSs Γ FU tB3 [.val h.d, .val sd, .val (.bl b.1), .val (patD o), .val fd, x5, .own (.lst acc), .val (.tup (b.2.2.map D.int)), x8, .val (.tup (b.2.1.map m2)), .val (strD x.1), x11, .val (.lst (x.2.map e3))] =
      .nxt [.val h.d, .val sd, .val (.bl b.1), .val (patD o), .val fd, y5, .own (.lst (acc ++ if isSo h b x o = true then [foundD (x.1 ++ o.toList, beatW h x.2 x.1.length o)] else [])), .val (.tup (b.2.2.map D.int)), y8, .val (.tup (b.2.1.map m2)), .val (strD x.1), y11, .val (.lst (x.2.map e3))] := by
  obtain ⟨st, W⟩ := x
  obtain ⟨b1, b2, b3⟩ := b
  simp only at *
  have key := s h k st.length W w (by omega) o
  have lm := beatM_len k w o
  have sm := sort_m2 (beatM h W st.length o) (by unfold LIM; omega)
  unfold beatR at key
  unfold isSo
  simp only
  generalize beatM h W st.length o = M at *
  generalize beatG h W st.length o = G at *
  have e1 := eqv_m2s (sortM M) b2
  have e2 := eqv_ints G b3
  have g1 := good_m2s (sortM M)
  have g2 := good_m2s b2
  have g3 := good_tints G
  have g4 := good_tints b3
  have n5' : ∀ d, ¬ x5 = .io d := n5.ni
  have n8' : ∀ d, ¬ x8 = .io d := n8.ni
  have n11' : ∀ d, ¬ x11 = .io d := n11.ni
  have ls : (st.map D.int).length = st.length := List.length_map _
  have l1 : st.length + 1 ≤ 100000 := by omega
  have l0 : st.length ≤ 100000 := by omega
  refine ⟨.val (.lst (G.map D.int)), .val (.lst (M.map m2)), .val (.lst ((beatW h W st.length o).map e3)), .inr ⟨_, rfl⟩, .inr ⟨_, rfl⟩, .inr ⟨_, rfl⟩, ?_⟩
  have fd2 : foundD (st ++ o.toList, beatW h W st.length o) = .tup [.tup (st.map D.int ++ (o.toList).map D.int), .lst ((beatW h W st.length o).map e3)] := by
    unfold foundD strD
    rw [List.map_append]
  rw [fd2]
  generalize (beatW h W st.length o).map e3 = nw at *
  generalize W.map e3 = wd at *
  unfold strD
  generalize h.d = hd at *
  have dm : decide (sortM M = b2 ∧ G = b3) = (decide (sortM M = b2) && decide (G = b3)) := by
    by_cases h1 : sortM M = b2 <;> by_cases h2 : G = b3 <;> simp [h1, h2]
  rw [dm]
  generalize decide (sortM M = b2) = q1 at *
  generalize decide (G = b3) = q2 at *
  generalize (sortM M).map m2 = ms at *
  generalize b2.map m2 = bm at *
  generalize M.map m2 = mm at *
  generalize b3.map D.int = bg at *
  generalize G.map D.int = gg at *
  generalize hs : st.map D.int = sD at *
  cases o with
  | none =>
    have ho : b1 = false := ho.symm
    subst ho
    simp only [patD] at key ⊢
    cases q1 <;> cases q2 <;> simp [tB3, LIM, Function.comp_def, conD, runD, evalSs, evalS, evalE, evalL, evalA, evalAnd, evalOr, evalI, evalJ, evalH, seqR, seqD, isSeqE, partR, partD, entry, iosAt, parS, gather, iosOf, callR, putIos, binD, cmpD, ixD, atI, ixN, slD, isiD, D.ty, boolsOf, wipeE, plainAt, backE, lend, Env.hide, SV.hide, SV.isOwn, SV.dat, SV.put, ownAt, shutE, ixD', compF, ofO, R.bind, R.bindB, R.toS, R.toSB, RS.bind, bq_len, bq_abs, bq_min, bq_max, bq_int, bq_all, bq_sorted, bq_list, bq_tuple, bLen, bAbs, bMin, bMax, bInt, bAll, bSorted, bList, bTuple, setS_ok, bindT_ok, bindT_tp, bindTs, hb, key, sm, n5', n8', n11', g1, g2, g3, g4, D.eqv, e1, e2, ls, ha, l0]
  | some i =>
    have ho : b1 = true := ho.symm
    subst ho
    simp only [patD] at key ⊢
    cases q1 <;> cases q2 <;> simp [tB3, LIM, Function.comp_def, conD, runD, evalSs, evalS, evalE, evalL, evalA, evalAnd, evalOr, evalI, evalJ, evalH, seqR, seqD, isSeqE, partR, partD, entry, iosAt, parS, gather, iosOf, callR, putIos, binD, cmpD, ixD, atI, ixN, slD, isiD, D.ty, boolsOf, wipeE, plainAt, backE, lend, Env.hide, SV.hide, SV.isOwn, SV.dat, SV.put, ownAt, shutE, ixD', compF, ofO, R.bind, R.bindB, R.toS, R.toSB, RS.bind, bq_len, bq_abs, bq_min, bq_max, bq_int, bq_all, bq_sorted, bq_list, bq_tuple, bLen, bAbs, bMin, bMax, bInt, bAll, bSorted, bList, bTuple, setS_ok, bindT_ok, bindT_tp, bindTs, hb, key, sm, n5', n8', n11', g1, g2, g3, g4, D.eqv, e1, e2, ls, ha, l1]
end W2

/-! The strengths that the program tells back. -/
namespace W2
open PySem L2

/-- what one who is told so far comes to with one more -/
def outR (h : Hl) (b : Sn) (x : List Int × List P3) : List (List Int × List P3) := ((optsOf h b.1).filter (isSo h b x)).map fun o => (x.1 ++ o.toList, beatW h x.2 x.1.length o)
theorem toldR_cons (h : Hl) (b : Sn) (s : List Sn) : toldR h (b :: s) = (toldR h s).flatMap (outR h b) := rfl
theorem opts_len {h : Hl} (k : h.Ok) (c : Bool) : (optsOf h c).length ≤ 5 := by
  have t4 := k.t4
  unfold optsOf
  cases c <;> simp
  omega
theorem outR_len {h : Hl} (k : h.Ok) (b : Sn) (x : List Int × List P3) : (outR h b x).length ≤ 5 := by
  unfold outR
  rw [List.length_map]
  exact Nat.le_trans (List.length_filter_le _ _) (opts_len k b.1)
theorem flat_len {α β : Type} (G : α → List β) (h : ∀ x, (G x).length ≤ 5) : ∀ l : List α, (l.flatMap G).length ≤ 5 * l.length
  | [] => by simp
  | a :: l => by
    have := flat_len G h l
    have := h a
    rw [List.flatMap_cons, List.length_append, List.length_cons]
    omega
theorem flat_map2 {α β γ : Type} (G : α → List β) (g : β → γ) : ∀ l : List α, (l.flatMap G).map g = l.flatMap fun a => (G a).map g
  | [] => rfl
  | a :: l => by simp [flat_map2 G g l]
/-- who waits is well counted -/
theorem told_ok {h : Hl} (k : h.Ok) : ∀ (s : List Sn) (x : List Int × List P3), x ∈ toldR h s → WtOk h x.1.length x.2
  | [], x, m => by
    simp [toldR] at m
    subst m
    exact ⟨by simp, by simp, by simp, by simp⟩
  | b :: s, x, m => by
    rw [toldR_cons, List.mem_flatMap] at m
    obtain ⟨y, hy, m⟩ := m
    unfold outR at m
    simp only [List.mem_map, List.mem_filter] at m
    obtain ⟨o, _, rfl⟩ := m
    have := beat_ok2 k (told_ok k s y hy) o
    simp only
    rw [List.length_append]
    cases o <;> exact this
/-- the comings that are tried -/
theorem src_val {Γ : Ctr} {h : Hl} (k : h.Ok) (c : Bool) {ρ : Env} (e0 : ρ[0]? = some (.val h.d)) (e2 : ρ[2]? = some (.val (.bl c))) : evalI Γ tSrc ρ = .ok ((optsOf h c).map patD) ρ := by
  have t1 := k.t1
  have t4 := k.t4
  obtain ⟨top, ws, f, o, pat⟩ := h
  simp only at t1 t4
  have hb : -4611686018427387904 ≤ top + 1 ∧ top + 1 < 4611686018427387904 := by omega
  have hl : (rangeD 0 (top + 1).toNat).length ≤ 100000 := by simp [rangeD]; omega
  have hr : rangeD 0 (top + 1).toNat = (optsOf ⟨top, ws, f, o, pat⟩ true).map patD := by
    unfold rangeD optsOf
    simp only [if_true, List.map_map]
    apply List.map_congr_left
    intro i _
    simp [patD]
  rw [evalI_seq rfl]
  cases c with
  | true =>
    rw [← hr]
    generalize hrs : rangeD 0 (top + 1).toNat = rs at *
    simp [tSrc, LIM, Function.comp_def, conD, runD, evalSs, evalS, evalE, evalL, evalA, evalAnd, evalOr, evalI, evalJ, evalH, seqR, seqD, isSeqE, partR, partD, entry, iosAt, setS, parS, gather, iosOf, callR, putIos, binD, cmpD, ixD, atI, ixN, slD, isiD, D.ty, boolsOf, bindT, bindTs, wipeE, plainAt, backE, lend, Env.hide, SV.hide, SV.isOwn, SV.dat, SV.put, ownAt, shutE, ixD', compF, ofO, R.bind, R.bindB, R.toS, R.toSB, RS.bind, bq_len, bq_abs, bq_min, bq_max, bq_int, bq_all, bq_sorted, bq_list, bq_tuple, bLen, bAbs, bMin, bMax, bInt, bAll, bSorted, bList, bTuple, e0, e2, Hl.d, hb, hl, hrs]
  | false => simp [tSrc, LIM, Function.comp_def, conD, runD, evalSs, evalS, evalE, evalL, evalA, evalAnd, evalOr, evalI, evalJ, evalH, seqR, seqD, isSeqE, partR, partD, entry, iosAt, setS, parS, gather, iosOf, callR, putIos, binD, cmpD, ixD, atI, ixN, slD, isiD, D.ty, boolsOf, bindT, bindTs, wipeE, plainAt, backE, lend, Env.hide, SV.hide, SV.isOwn, SV.dat, SV.put, ownAt, shutE, ixD', compF, ofO, R.bind, R.bindB, R.toS, R.toSB, RS.bind, bq_len, bq_abs, bq_min, bq_max, bq_int, bq_all, bq_sorted, bq_list, bq_tuple, bLen, bAbs, bMin, bMax, bInt, bAll, bSorted, bList, bTuple, e2, optsOf, patD]
section
variable {Γ : Ctr} {c : List AV → CRes} (hb : Γ.fn "beat_of" = some c) (s : SBeat c) {h : Hl} (k : h.Ok)
include hb s k
theorem told_in {b : Sn} {x : List Int × List P3} (w : WtOk h x.1.length x.2) (hn : x.1.length ≤ 50) {sd fd : D} {acc : List D} (ha : acc.length + 5 ≤ 99999) {x3 x5 x8 x11 : SV} (n3 : PN x3) (n5 : PN x5) (n8 : PN x8) (n11 : PN x11) :
    ∃ y3 y5 y8 y11, PN y3 ∧ PN y5 ∧ PN y8 ∧ PN y11 ∧ forL (evalSs Γ FU tB3) (.nm 3) ((optsOf h b.1).map patD) [.val h.d, .val sd, .val (.bl b.1), x3, .val fd, x5, .own (.lst acc), .val (.tup (b.2.2.map D.int)), x8, .val (.tup (b.2.1.map m2)), .val (strD x.1), x11, .val (.lst (x.2.map e3))] =
      .nxt [.val h.d, .val sd, .val (.bl b.1), y3, .val fd, y5, .own (.lst (acc ++ (outR h b x).map foundD)), .val (.tup (b.2.2.map D.int)), y8, .val (.tup (b.2.1.map m2)), .val (strD x.1), y11, .val (.lst (x.2.map e3))] := by
  have ho := opts_len k b.1
  have hG : ∀ l : List (Option Int), (l.flatMap fun o => if isSo h b x o = true then [foundD (x.1 ++ o.toList, beatW h x.2 x.1.length o)] else []).length ≤ l.length := by
    intro l
    rw [flat_filt (isSo h b x) (fun o => foundD (x.1 ++ o.toList, beatW h x.2 x.1.length o)) l, List.length_map]
    exact List.length_filter_le _ _
  have := hG (optsOf h b.1)
  obtain ⟨ρ', e, y3, y5, y8, y11, p3, p5, p8, p11, h1⟩ := forL_flat (f := evalSs Γ FU tB3) (t := .nm 3) patD (fun o => if isSo h b x o = true then [foundD (x.1 ++ o.toList, beatW h x.2 x.1.length o)] else []) 99999
    (fun acc ρ => ∃ y3 y5 y8 y11, PN y3 ∧ PN y5 ∧ PN y8 ∧ PN y11 ∧ ρ = [.val h.d, .val sd, .val (.bl b.1), y3, .val fd, y5, .own (.lst acc), .val (.tup (b.2.2.map D.int)), y8, .val (.tup (b.2.1.map m2)), .val (strD x.1), y11, .val (.lst (x.2.map e3))]) (optsOf h b.1) acc [.val h.d, .val sd, .val (.bl b.1), x3, .val fd, x5, .own (.lst acc), .val (.tup (b.2.2.map D.int)), x8, .val (.tup (b.2.1.map m2)), .val (strD x.1), x11, .val (.lst (x.2.map e3))]
    ⟨x3, x5, x8, x11, n3, n5, n8, n11, rfl⟩ (by omega) (by
    rintro o mo acc ρ ⟨x3, x5, x8, x11, n3, n5, n8, n11, rfl⟩ hl
    have hs := opts_some mo
    obtain ⟨y5, y8, y11, p5, p8, p11, et⟩ := told_turn hb s k w hn hs (sd := sd) (fd := fd) (acc := acc) (by omega) n5 n8 n11
    exact ⟨_, _, bindT_ok (i := 3) (by simp) (by simpa [NI] using n3.ni), et, .val (patD o), y5, y8, y11, .inr ⟨_, rfl⟩, p5, p8, p11, rfl⟩)
  subst h1
  rw [flat_filt (isSo h b x) (fun o => foundD (x.1 ++ o.toList, beatW h x.2 x.1.length o))] at e
  refine ⟨y3, y5, y8, y11, p3, p5, p8, p11, ?_⟩
  rw [e]
  unfold outR
  rw [List.map_map]
  rfl
theorem told_mid {b : Sn} {X : List (List Int × List P3)} (hw : ∀ x ∈ X, WtOk h x.1.length x.2 ∧ x.1.length ≤ 50) (hX : X.length ≤ 16000) {sd : D} {x3 x5 x8 x10 x11 x12 : SV} (n3 : PN x3) (n5 : PN x5) (n8 : PN x8) (n10 : PN x10) (n11 : PN x11) (n12 : PN x12) :
    ∃ y3 y5 y8 y10 y11 y12, PN y3 ∧ PN y5 ∧ PN y8 ∧ PN y10 ∧ PN y11 ∧ PN y12 ∧ forL (evalSs Γ FU tB2) (.tp [(.nm 10), (.nm 12)]) (X.map foundD) [.val h.d, .val sd, .val (.bl b.1), x3, .val (.lst (X.map foundD)), x5, .own (.lst []), .val (.tup (b.2.2.map D.int)), x8, .val (.tup (b.2.1.map m2)), x10, x11, x12] =
      .nxt [.val h.d, .val sd, .val (.bl b.1), y3, .val (.lst (X.map foundD)), y5, .own (.lst ((X.flatMap (outR h b)).map foundD)), .val (.tup (b.2.2.map D.int)), y8, .val (.tup (b.2.1.map m2)), y10, y11, y12] := by
  have hl := flat_len (outR h b) (outR_len k b) X
  generalize hfd : D.lst (X.map foundD) = fd
  obtain ⟨ρ', e, y3, y5, y8, y10, y11, y12, p3, p5, p8, p10, p11, p12, h1⟩ := forL_flat (f := evalSs Γ FU tB2) (t := .tp [(.nm 10), (.nm 12)]) foundD (fun x => (outR h b x).map foundD) 90000
    (fun acc ρ => ∃ y3 y5 y8 y10 y11 y12, PN y3 ∧ PN y5 ∧ PN y8 ∧ PN y10 ∧ PN y11 ∧ PN y12 ∧ ρ = [.val h.d, .val sd, .val (.bl b.1), y3, .val fd, y5, .own (.lst acc), .val (.tup (b.2.2.map D.int)), y8, .val (.tup (b.2.1.map m2)), y10, y11, y12]) X [] [.val h.d, .val sd, .val (.bl b.1), x3, .val fd, x5, .own (.lst []), .val (.tup (b.2.2.map D.int)), x8, .val (.tup (b.2.1.map m2)), x10, x11, x12]
    ⟨x3, x5, x8, x10, x11, x12, n3, n5, n8, n10, n11, n12, rfl⟩ (by
      have : ((X.flatMap fun x => (outR h b x).map foundD)).length = (X.flatMap (outR h b)).length := by rw [← flat_map2, List.length_map]
      rw [this, List.length_nil]
      omega) (by
    rintro x mx acc ρ ⟨x3, x5, x8, x10, x11, x12, n3, n5, n8, n10, n11, n12, rfl⟩ hl
    obtain ⟨w, hn⟩ := hw x mx
    obtain ⟨y3, y5, y8, y11, p3, p5, p8, p11, et⟩ := told_in hb s k (b := b) (x := x) w hn (sd := sd) (fd := fd) (acc := acc) (by omega) n3 n5 n8 n11
    refine ⟨[.val h.d, .val sd, .val (.bl b.1), x3, .val fd, x5, .own (.lst acc), .val (.tup (b.2.2.map D.int)), x8, .val (.tup (b.2.1.map m2)), .val (strD x.1), x11, .val (.lst (x.2.map e3))], _, ?_, ?_, y3, y5, y8, .val (strD x.1), y11, .val (.lst (x.2.map e3)), p3, p5, p8, .inr ⟨_, rfl⟩, p11, .inr ⟨_, rfl⟩, rfl⟩
    · have n10' : ∀ d, ¬ x10 = .io d := n10.ni
      have n12' : ∀ d, ¬ x12 = .io d := n12.ni
      simp [foundD, bindT_ok, bindT_tp, bindTs, n10', n12']
    · have es := src_val (Γ := Γ) k b.1 (ρ := [.val h.d, .val sd, .val (.bl b.1), x3, .val fd, x5, .own (.lst acc), .val (.tup (b.2.2.map D.int)), x8, .val (.tup (b.2.1.map m2)), .val (strD x.1), x11, .val (.lst (x.2.map e3))]) rfl rfl
      unfold tB2
      simp only [evalSs, evalS]
      rw [es]
      simp only [R.toS_ok]
      rw [et]
      rfl)
  subst h1
  refine ⟨y3, y5, y8, y10, y11, y12, p3, p5, p8, p10, p11, p12, ?_⟩
  rw [e, List.nil_append, flat_map2]
end
end W2

/-! All that is told back. -/
namespace W2
open PySem L2

def STold (c : List AV → CRes) : Prop := ∀ h : Hl, h.Ok → ∀ T : List Sn, T.length ≤ 6 → c [.val h.d, .val (seenD T)] = .ok (.lst (sortS ((told h T).map (·.1))), true) []
theorem camN_le (s : List Sn) : camN s ≤ s.length := List.length_filter_le _ _
section
variable {Γ : Ctr} {c : List AV → CRes} (hb : Γ.fn "beat_of" = some c) (s : SBeat c) {h : Hl} (k : h.Ok)
include hb s k
theorem told_step {b : Sn} {X : List (List Int × List P3)} (hw : ∀ x ∈ X, WtOk h x.1.length x.2 ∧ x.1.length ≤ 50) (hX : X.length ≤ 16000) {sd : D} {x3 x5 x8 x10 x11 x12 : SV} (n3 : PN x3) (n5 : PN x5) (n8 : PN x8) (n10 : PN x10) (n11 : PN x11) (n12 : PN x12) :
    ∃ y3 y5 y8 y10 y11 y12, PN y3 ∧ PN y5 ∧ PN y8 ∧ PN y10 ∧ PN y11 ∧ PN y12 ∧ evalSs Γ FU tB1 [.val h.d, .val sd, .val (.bl b.1), x3, .val (.lst (X.map foundD)), x5, .no, .val (.tup (b.2.2.map D.int)), x8, .val (.tup (b.2.1.map m2)), x10, x11, x12] =
      .nxt [.val h.d, .val sd, .val (.bl b.1), y3, .val (.lst ((X.flatMap (outR h b)).map foundD)), y5, .no, .val (.tup (b.2.2.map D.int)), y8, .val (.tup (b.2.1.map m2)), y10, y11, y12] := by
  obtain ⟨y3, y5, y8, y10, y11, y12, p3, p5, p8, p10, p11, p12, e⟩ := told_mid hb s k (b := b) hw hX (sd := sd) n3 n5 n8 n10 n11 n12
  refine ⟨y3, y5, y8, y10, y11, y12, p3, p5, p8, p10, p11, p12, ?_⟩
  generalize X.map foundD = fd at *
  generalize (X.flatMap (outR h b)).map foundD = fd' at *
  generalize h.d = hd at *
  simp [tB1, LIM, Function.comp_def, conD, runD, evalSs, evalS, evalE, evalL, evalA, evalAnd, evalOr, evalI, evalJ, evalH, seqR, seqD, isSeqE, partR, partD, entry, iosAt, parS, gather, iosOf, callR, putIos, binD, cmpD, ixD, atI, ixN, slD, isiD, D.ty, boolsOf, wipeE, plainAt, backE, lend, Env.hide, SV.hide, SV.isOwn, SV.dat, SV.put, ownAt, shutE, ixD', compF, ofO, R.bind, R.bindB, R.toS, R.toSB, RS.bind, bq_len, bq_abs, bq_min, bq_max, bq_int, bq_all, bq_sorted, bq_list, bq_tuple, bLen, bAbs, bMin, bMax, bInt, bAll, bSorted, bList, bTuple, setS_ok, bindT_ok, bindT_tp, bindTs, e]
theorem told_loop (T : List Sn) (hT : T.length ≤ 6) {sd : D} :
    ∃ y2 y3 y5 y7 y8 y9 y10 y11 y12, PN y10 ∧ PN y12 ∧ forL (evalSs Γ FU tB1) (.tp [(.nm 2), (.nm 9), (.nm 7)]) (T.map snD) [.val h.d, .val sd, .no, .no, .val (.lst [.tup [.tup [], .lst []]]), .no, .no, .no, .no, .no, .no, .no, .no] =
      .nxt [.val h.d, .val sd, y2, y3, .val (.lst ((told h T).map foundD)), y5, .no, y7, y8, y9, y10, y11, y12] := by
  obtain ⟨ρ', e, y2, y3, y5, y7, y8, y9, y10, y11, y12, h1, _, _, _, _, _, _, p10, _, p12⟩ := forL_inv (f := evalSs Γ FU tB1) (t := .tp [(.nm 2), (.nm 9), (.nm 7)]) (fun i ρ => ∃ y2 y3 y5 y7 y8 y9 y10 y11 y12, ρ = [.val h.d, .val sd, y2, y3, .val (.lst ((toldR h (T.take i).reverse).map foundD)), y5, .no, y7, y8, y9, y10, y11, y12] ∧ PN y2 ∧ PN y3 ∧ PN y5 ∧ PN y7 ∧ PN y8 ∧ PN y9 ∧ PN y10 ∧ PN y11 ∧ PN y12) (ds := T.map snD) (ρ := [.val h.d, .val sd, .no, .no, .val (.lst [.tup [.tup [], .lst []]]), .no, .no, .no, .no, .no, .no, .no, .no]) 0
    ⟨.no, .no, .no, .no, .no, .no, .no, .no, .no, rfl, .inl rfl, .inl rfl, .inl rfl, .inl rfl, .inl rfl, .inl rfl, .inl rfl, .inl rfl, .inl rfl⟩ (by
    rintro i d hd ρ ⟨x2, x3, x5, x7, x8, x9, x10, x11, x12, rfl, n2, n3, n5, n7, n8, n9, n10, n11, n12⟩
    rw [List.getElem?_map, Option.map_eq_some_iff] at hd
    obtain ⟨b, hb', rfl⟩ := hd
    rw [Nat.zero_add]
    have hi : i < T.length := (List.getElem?_eq_some_iff.mp hb').1
    have et1 : (T.take (i + 1)).reverse = b :: (T.take i).reverse := by
      rw [List.take_succ, hb']
      simp
    have hl1 : (T.take i).reverse.length = i := by simp; omega
    have hX := told_size k (T.take i).reverse
    rw [hl1] at hX
    have h5 : 5 ^ i ≤ 5 ^ 6 := Nat.pow_le_pow_right (by decide) (by omega)
    have hw : ∀ x ∈ toldR h (T.take i).reverse, WtOk h x.1.length x.2 ∧ x.1.length ≤ 50 := fun x hx => ⟨told_ok k _ x hx, by
      have h1 := told_len _ x hx
      have h2 := camN_le (T.take i).reverse
      omega⟩
    obtain ⟨y3, y5, y8, y10, y11, y12, p3, p5, p8, p10, p11, p12, et⟩ := told_step hb s k (b := b) (X := toldR h (T.take i).reverse) hw (by omega) (sd := sd) n3 n5 n8 n10 n11 n12
    refine ⟨[.val h.d, .val sd, .val (.bl b.1), x3, .val (.lst ((toldR h (T.take i).reverse).map foundD)), x5, .no, .val (.tup (b.2.2.map D.int)), x8, .val (.tup (b.2.1.map m2)), x10, x11, x12], _, ?_, et, .val (.bl b.1), y3, y5, .val (.tup (b.2.2.map D.int)), y8, .val (.tup (b.2.1.map m2)), y10, y11, y12, ?_, .inr ⟨_, rfl⟩, p3, p5, .inr ⟨_, rfl⟩, p8, .inr ⟨_, rfl⟩, p10, p11, p12⟩
    · have n2' : ∀ d, ¬ x2 = .io d := n2.ni
      have n7' : ∀ d, ¬ x7 = .io d := n7.ni
      have n9' : ∀ d, ¬ x9 = .io d := n9.ni
      simp [snD, bindT_ok, bindT_tp, bindTs, n2', n7', n9']
    · rw [et1, toldR_cons])
  subst h1
  rw [Nat.zero_add, List.length_map, List.take_length] at e
  exact ⟨y2, y3, y5, y7, y8, y9, y10, y11, y12, p10, p12, e⟩
end
theorem told_s (Γ : Ctr) (c : List AV → CRes) (hb : Γ.fn "beat_of" = some c) (s : SBeat c) : STold (conD Γ FU 2 13 b_told_of) := by
  intro h k T hT
  obtain ⟨y2, y3, y5, y7, y8, y9, y10, y11, y12, p10, p12, e⟩ := told_loop hb s k T hT (sd := seenD T)
  have hz := told_size k T.reverse
  rw [List.length_reverse] at hz
  have h5 : 5 ^ T.length ≤ 5 ^ 6 := Nat.pow_le_pow_right (by decide) hT
  have hlen : (told h T).length ≤ 20000 := by unfold told; omega
  have ss := sort_strs (l := (told h T).map (·.1)) (m := camN T.reverse) (fun st hst => by
    obtain ⟨x, hx, rfl⟩ := List.mem_map.mp hst
    exact told_len _ x hx) (fun h0 => by rw [List.length_map]; exact told_one _ h0) (by rw [List.length_map]; unfold LIM; omega)
  have hp : plainAt [.val h.d, .val (seenD T), y2, y3, .val (.lst ((told h T).map foundD)), y5, .no, y7, y8, y9, y10, y11, y12] [10, 12] = true := by
    rcases p10 with rfl | ⟨d, rfl⟩ <;> rcases p12 with rfl | ⟨d', rfl⟩ <;> rfl
  have k1 := comp_map (Γ := Γ) (vs := [10, 12]) (elt := .var 10) (tg := .tp [(.nm 10), (.nm 12)]) (src := .var 4) (cond := .cst (.bl true)) (ρ := [.val h.d, .val (seenD T), y2, y3, .val (.lst ((told h T).map foundD)), y5, .no, y7, y8, y9, y10, y11, y12]) (told h T) foundD (fun x => strD x.1) (by simp [LIM, Function.comp_def, conD, runD, evalSs, evalS, evalE, evalL, evalA, evalAnd, evalOr, evalI, evalJ, evalH, seqR, seqD, isSeqE, partR, partD, entry, iosAt, setS, parS, gather, iosOf, callR, putIos, binD, cmpD, ixD, atI, ixN, slD, isiD, D.ty, boolsOf, bindT, bindTs, wipeE, plainAt, backE, lend, Env.hide, SV.hide, SV.isOwn, SV.dat, SV.put, ownAt, shutE, ixD', compF, ofO, R.bind, R.bindB, R.toS, R.toSB, RS.bind, bq_len, bq_abs, bq_min, bq_max, bq_int, bq_all, bq_sorted, bq_list, bq_tuple, bLen, bAbs, bMin, bMax, bInt, bAll, bSorted, bList, bTuple]) hp (fun x hx => by
    rcases p10 with rfl | ⟨d, rfl⟩ <;> rcases p12 with rfl | ⟨d', rfl⟩ <;> simp [LIM, Function.comp_def, conD, runD, evalSs, evalS, evalE, evalL, evalA, evalAnd, evalOr, evalI, evalJ, evalH, seqR, seqD, isSeqE, partR, partD, entry, iosAt, setS, parS, gather, iosOf, callR, putIos, binD, cmpD, ixD, atI, ixN, slD, isiD, D.ty, boolsOf, bindT, bindTs, wipeE, plainAt, backE, lend, Env.hide, SV.hide, SV.isOwn, SV.dat, SV.put, ownAt, shutE, ixD', compF, ofO, R.bind, R.bindB, R.toS, R.toSB, RS.bind, bq_len, bq_abs, bq_min, bq_max, bq_int, bq_all, bq_sorted, bq_list, bq_tuple, bLen, bAbs, bMin, bMax, bInt, bAll, bSorted, bList, bTuple, foundD]) (by unfold LIM; omega)
  rw [List.map_map] at ss
  rw [show (fun x : List Int × List P3 => strD x.1) = (strD ∘ fun x : List Int × List P3 => x.1) from rfl] at k1
  generalize (told h T).map (strD ∘ fun x : List Int × List P3 => x.1) = sl at *
  generalize sortS ((told h T).map (·.1)) = res at *
  unfold seenD at *
  generalize T.map snD = td at *
  generalize (told h T).map foundD = fd at *
  generalize h.d = hd at *
  refine conD_ret (ρ := [.val hd, .val (.tup td), y2, y3, .val (.lst fd), y5, .no, y7, y8, y9, y10, y11, y12]) rfl ?_ rfl
  simp [b_told_eq, LIM, Function.comp_def, conD, runD, evalSs, evalS, evalE, evalL, evalA, evalAnd, evalOr, evalI, evalJ, evalH, seqR, seqD, isSeqE, partR, partD, entry, iosAt, setS, parS, gather, iosOf, callR, putIos, binD, cmpD, ixD, atI, ixN, slD, isiD, D.ty, boolsOf, bindT, bindTs, wipeE, plainAt, backE, lend, Env.hide, SV.hide, SV.isOwn, SV.dat, SV.put, ownAt, shutE, ixD', compF, ofO, R.bind, R.bindB, R.toS, R.toSB, RS.bind, bq_len, bq_abs, bq_min, bq_max, bq_int, bq_all, bq_sorted, bq_list, bq_tuple, bLen, bAbs, bMin, bMax, bInt, bAll, bSorted, bList, bTuple, e, ↓k1, ss]
end W2

/-! What is seen is well formed. -/
namespace W2
open PySem L2

abbrev ltP (a b : Int × Int) : Prop := a.1 < b.1 ∨ (a.1 = b.1 ∧ a.2 < b.2)
structure SnOk (b : Sn) : Prop where
  p : ∀ x ∈ b.2.1, 0 ≤ x.1 ∧ x.1 < x.2 ∧ x.2 ≤ 9
  pu : b.2.1.Pairwise ltP
  pl : b.2.1.length ≤ 9
  g : ∀ x ∈ b.2.2, 0 ≤ x ∧ x ≤ 9
  gu : b.2.2.Pairwise fun x y => x < y
  gl : b.2.2.length ≤ 9
theorem adj_zip {α : Type} {R : α → α → Prop} : ∀ {l : List α}, l.Pairwise R → ∀ x ∈ l.zip (l.drop 1), R x.1 x.2
  | [], _, x, h => by simp at h
  | [a], _, x, h => by simp at h
  | a :: b :: t, p, x, h => by
    have h : x ∈ (a, b) :: (b :: t).zip t := h
    rcases List.mem_cons.mp h with rfl | h
    · exact (List.pairwise_cons.mp p).1 b List.mem_cons_self
    · exact adj_zip (l := b :: t) (List.pairwise_cons.mp p).2 x h
theorem zipD_map {α β : Type} (f : α → D) (g : β → D) : ∀ (a : List α) (b : List β), zipD (a.map f) (b.map g) = (a.zip b).map fun x => .tup [f x.1, g x.2]
  | [], _ => by simp [zipD]
  | _ :: _, [] => by simp [zipD]
  | a :: as, b :: bs => by simp [zipD, zipD_map f g as bs]
theorem bools_true {α : Type} : ∀ l : List α, boolsOf (l.map fun _ => D.bl true) = some (l.map fun _ => true)
  | [] => rfl
  | a :: l => by simp [boolsOf, bools_true l]
theorem all_true {α : Type} : ∀ l : List α, (l.map fun _ => true).all id = true
  | [] => rfl
  | a :: l => by simp
theorem lt_m2 (a b : Int × Int) (h : ltP a b) : cmpD .Lt (m2 a) (m2 b) = some true := by
  have g : ∀ a : Int × Int, (m2 a).good = true := fun a => by simp [m2, D.good, D.plain, D.plainL, D.dep, D.depL]
  have g1 := g a
  have g2 := g b
  have al : PySem.W.alike (m2 a).py (m2 b).py = true := by simp [m2, D.py, D.pyL, PySem.W.alike, PySem.W.alikeAll]
  have lt : PySem.W.dataLt (m2 a).py (m2 b).py = true := by
    show PySem.W.dataLt (.tuple [.int a.1, .int a.2]) (.tuple [.int b.1, .int b.2]) = _
    rw [PySem.W.dataLt_ii]
    exact decide_eq_true h
  unfold m2 at g1 g2 al lt ⊢
  simp only [cmpD, g1, g2, al, lt, Bool.and_self, if_true]
def SPairs (c : List AV → CRes) : Prop := ∀ l : List (Int × Int), (∀ x ∈ l, 0 ≤ x.1 ∧ x.1 < x.2 ∧ x.2 ≤ 9) → l.Pairwise ltP → l.length ≤ 9 → c [.val (.tup (l.map m2))] = .ok (.bl true, false) []
def pB : List St := [.ife (.orE [(.notE (.isi (.var 3) "tuple")), (.cmp .NotEq (.blt "len" [(.var 3)]) (.cst (.int 2))), (.notE (.blt "all" [(.comp [1] (.call "is_from" [(.var 1), (.cst (.int 0)), (.cst (.int 9))]) (.nm 1) (.var 3) (.cst (.bl true)))]))]) [.ret (.cst (.bl false))] [],
    .ife (.cmp .GtE (.ix (.var 3) (.cst (.int 0))) (.ix (.var 3) (.cst (.int 1)))) [.ret (.cst (.bl false))] []]
theorem b_pairs_eq : b_are_pairs = [.ife (.orE [(.notE (.isi (.var 0) "tuple")), (.cmp .Gt (.blt "len" [(.var 0)]) (.cst (.int 9)))]) [.ret (.cst (.bl false))] [],
    .for_ (.nm 3) (.var 0) pB,
    .ret (.blt "all" [(.comp [1, 2] (.cmp .Lt (.var 1) (.var 2)) (.tp [(.nm 1), (.nm 2)]) (.zip (.var 0) (.sl (.var 0) (.cst (.int 1)) .off)) (.cst (.bl true)))])] := rfl
theorem pair_turn {Γ : Ctr} {c : List AV → CRes} (hf : Γ.fn "is_from" = some c) (s : SFrom c) {x : Int × Int} (h : 0 ≤ x.1 ∧ x.1 < x.2 ∧ x.2 ≤ 9) {d : D} : evalSs Γ FU pB [.val d, .no, .no, .val (m2 x)] = .nxt [.val d, .no, .no, .val (m2 x)] := by
  obtain ⟨a, b⟩ := x
  simp only at h
  have q1 := s (.int a) 0 9 rfl
  have q2 := s (.int b) 0 9 rfl
  have f1 : frm (.int a) 0 9 = true := by simp [frm]; omega
  have f2 : frm (.int b) 0 9 = true := by simp [frm]; omega
  have g : ∀ i : Int, (D.int i).good = true := good_int
  have hab : ¬ b ≤ a := by omega
  rw [f1] at q1
  rw [f2] at q2
  simp [pB, LIM, Function.comp_def, conD, runD, evalSs, evalS, evalE, evalL, evalA, evalAnd, evalOr, evalI, evalJ, evalH, seqR, seqD, isSeqE, partR, partD, entry, iosAt, setS, parS, gather, iosOf, callR, putIos, binD, cmpD, ixD, atI, ixN, slD, isiD, D.ty, boolsOf, bindT, bindTs, wipeE, plainAt, backE, lend, Env.hide, SV.hide, SV.isOwn, SV.dat, SV.put, ownAt, shutE, ixD', compF, ofO, R.bind, R.bindB, R.toS, R.toSB, RS.bind, bq_len, bq_abs, bq_min, bq_max, bq_int, bq_all, bq_sorted, bq_list, bq_tuple, bLen, bAbs, bMin, bMax, bInt, bAll, bSorted, bList, bTuple, m2, hf, q1, q2, g, D.eqv, compL, hab]
theorem pairs_ok_s (Γ : Ctr) (c : List AV → CRes) (hf : Γ.fn "is_from" = some c) (s : SFrom c) : SPairs (conD Γ FU 1 4 b_are_pairs) := by
  intro l hp hu hl
  obtain ⟨ρ', e, x3, h1, n3⟩ := forL_inv (f := evalSs Γ FU pB) (t := .nm 3) (fun i ρ => ∃ x3, ρ = [.val (.tup (l.map m2)), .no, .no, x3] ∧ PN x3) (ds := l.map m2) (ρ := [.val (.tup (l.map m2)), .no, .no, .no]) 0
    ⟨.no, rfl, .inl rfl⟩ (by
    rintro i d hd ρ ⟨x3, rfl, n3⟩
    rw [List.getElem?_map, Option.map_eq_some_iff] at hd
    obtain ⟨x, hx, rfl⟩ := hd
    exact ⟨_, _, bindT_ok (i := 3) (by simp) (by simpa [NI] using n3.ni), pair_turn hf s (hp x (List.mem_of_getElem? hx)), .val (m2 x), rfl, .inr ⟨_, rfl⟩⟩)
  subst h1
  have ez : evalI Γ (.zip (.var 0) (.sl (.var 0) (.cst (.int 1)) .off)) [.val (.tup (l.map m2)), .no, .no, x3] = .ok ((l.zip (l.drop 1)).map fun x => .tup [m2 x.1, m2 x.2]) [.val (.tup (l.map m2)), .no, .no, x3] := by
    rw [← zipD_map, List.map_drop]
    have := cutN_drop (ds := l.map m2) (a := 1)
    have this : cutD (l.map m2) (some 1) none = (l.map m2).drop 1 := this
    generalize l.map m2 = ld at *
    simp [LIM, Function.comp_def, conD, runD, evalSs, evalS, evalE, evalL, evalA, evalAnd, evalOr, evalI, evalJ, evalH, seqR, seqD, isSeqE, partR, partD, entry, iosAt, setS, parS, gather, iosOf, callR, putIos, binD, cmpD, ixD, atI, ixN, slD, isiD, D.ty, boolsOf, bindT, bindTs, wipeE, plainAt, backE, lend, Env.hide, SV.hide, SV.isOwn, SV.dat, SV.put, ownAt, shutE, ixD', compF, ofO, R.bind, R.bindB, R.toS, R.toSB, RS.bind, bq_len, bq_abs, bq_min, bq_max, bq_int, bq_all, bq_sorted, bq_list, bq_tuple, bLen, bAbs, bMin, bMax, bInt, bAll, bSorted, bList, bTuple, this]
  have k1 := comp_map (Γ := Γ) (vs := [1, 2]) (elt := .cmp .Lt (.var 1) (.var 2)) (tg := .tp [(.nm 1), (.nm 2)]) (src := .zip (.var 0) (.sl (.var 0) (.cst (.int 1)) .off)) (cond := .cst (.bl true)) (ρ := [.val (.tup (l.map m2)), .no, .no, x3]) (l.zip (l.drop 1)) (fun x => .tup [m2 x.1, m2 x.2]) (fun _ => .bl true) ez (by rfl) (fun x hx => by
    have := lt_m2 x.1 x.2 (adj_zip hu x hx)
    generalize m2 x.1 = u at *
    generalize m2 x.2 = v at *
    simp only [compF, bindT, bindTs, wipeE, evalE, R.bind, R.bindB, List.getElem?_cons_zero, List.getElem?_cons_succ, List.set_cons_zero, List.set_cons_succ, this, Option.map_some, ofO]
    rfl) (by
      have : (l.zip (l.drop 1)).length ≤ l.length := by rw [List.length_zip]; exact Nat.min_le_left _ _
      unfold LIM; omega)
  have hb := bools_true (l.zip (l.drop 1))
  have hz : ¬ (9 : Int) < (l.map m2).length := by rw [List.length_map]; omega
  have ha := all_true (l.zip (l.drop 1))
  generalize ((l.zip (l.drop 1)).map fun _ => D.bl true) = bd at *
  generalize ((l.zip (l.drop 1)).map fun _ => true) = bs at *
  generalize l.map m2 = ld at *
  refine conD_ret (ρ := [.val (.tup ld), .no, .no, x3]) rfl ?_ rfl
  simp [b_pairs_eq, LIM, Function.comp_def, conD, runD, evalSs, evalS, evalE, evalL, evalA, evalAnd, evalOr, evalI, evalJ, evalH, seqR, seqD, isSeqE, partR, partD, entry, iosAt, setS, parS, gather, iosOf, callR, putIos, binD, cmpD, ixD, atI, ixN, slD, isiD, D.ty, boolsOf, bindT, bindTs, wipeE, plainAt, backE, lend, Env.hide, SV.hide, SV.isOwn, SV.dat, SV.put, ownAt, shutE, ixD', compF, ofO, R.bind, R.bindB, R.toS, R.toSB, RS.bind, bq_len, bq_abs, bq_min, bq_max, bq_int, bq_all, bq_sorted, bq_list, bq_tuple, bLen, bAbs, bMin, bMax, bInt, bAll, bSorted, bList, bTuple, hz, e, ↓k1, hb, ha]
def SGone (c : List AV → CRes) : Prop := ∀ l : List Int, (∀ x ∈ l, 0 ≤ x ∧ x ≤ 9) → (l.Pairwise fun x y => x < y) → l.length ≤ 9 → c [.val (.tup (l.map D.int))] = .ok (.bl true, false) []
theorem gone_ok_s (Γ : Ctr) (c : List AV → CRes) (hf : Γ.fn "is_from" = some c) (s : SFrom c) : SGone (conD Γ FU 1 3 b_are_gone) := by
  intro l hp hu hl
  have k0 := comp_map (Γ := Γ) (vs := [1]) (elt := .call "is_from" [(.var 1), (.cst (.int 0)), (.cst (.int 9))]) (tg := .nm 1) (src := .var 0) (cond := .cst (.bl true)) (ρ := [.val (.tup (l.map D.int)), .no, .no]) l D.int (fun _ => .bl true) (by simp [LIM, Function.comp_def, conD, runD, evalSs, evalS, evalE, evalL, evalA, evalAnd, evalOr, evalI, evalJ, evalH, seqR, seqD, isSeqE, partR, partD, entry, iosAt, setS, parS, gather, iosOf, callR, putIos, binD, cmpD, ixD, atI, ixN, slD, isiD, D.ty, boolsOf, bindT, bindTs, wipeE, plainAt, backE, lend, Env.hide, SV.hide, SV.isOwn, SV.dat, SV.put, ownAt, shutE, ixD', compF, ofO, R.bind, R.bindB, R.toS, R.toSB, RS.bind, bq_len, bq_abs, bq_min, bq_max, bq_int, bq_all, bq_sorted, bq_list, bq_tuple, bLen, bAbs, bMin, bMax, bInt, bAll, bSorted, bList, bTuple]) (by rfl) (fun x hx => by
    have q := s (.int x) 0 9 rfl
    have f : frm (.int x) 0 9 = true := by have := hp x hx; simp [frm]; omega
    rw [f] at q
    simp [LIM, Function.comp_def, conD, runD, evalSs, evalS, evalE, evalL, evalA, evalAnd, evalOr, evalI, evalJ, evalH, seqR, seqD, isSeqE, partR, partD, entry, iosAt, setS, parS, gather, iosOf, callR, putIos, binD, cmpD, ixD, atI, ixN, slD, isiD, D.ty, boolsOf, bindT, bindTs, wipeE, plainAt, backE, lend, Env.hide, SV.hide, SV.isOwn, SV.dat, SV.put, ownAt, shutE, ixD', compF, ofO, R.bind, R.bindB, R.toS, R.toSB, RS.bind, bq_len, bq_abs, bq_min, bq_max, bq_int, bq_all, bq_sorted, bq_list, bq_tuple, bLen, bAbs, bMin, bMax, bInt, bAll, bSorted, bList, bTuple, hf, q]) (by unfold LIM; omega)
  have ez : evalI Γ (.zip (.var 0) (.sl (.var 0) (.cst (.int 1)) .off)) [.val (.tup (l.map D.int)), .no, .no] = .ok ((l.zip (l.drop 1)).map fun x => .tup [D.int x.1, D.int x.2]) [.val (.tup (l.map D.int)), .no, .no] := by
    rw [← zipD_map, List.map_drop]
    have := cutN_drop (ds := l.map D.int) (a := 1)
    have this : cutD (l.map D.int) (some 1) none = (l.map D.int).drop 1 := this
    generalize l.map D.int = ld at *
    simp [LIM, Function.comp_def, conD, runD, evalSs, evalS, evalE, evalL, evalA, evalAnd, evalOr, evalI, evalJ, evalH, seqR, seqD, isSeqE, partR, partD, entry, iosAt, setS, parS, gather, iosOf, callR, putIos, binD, cmpD, ixD, atI, ixN, slD, isiD, D.ty, boolsOf, bindT, bindTs, wipeE, plainAt, backE, lend, Env.hide, SV.hide, SV.isOwn, SV.dat, SV.put, ownAt, shutE, ixD', compF, ofO, R.bind, R.bindB, R.toS, R.toSB, RS.bind, bq_len, bq_abs, bq_min, bq_max, bq_int, bq_all, bq_sorted, bq_list, bq_tuple, bLen, bAbs, bMin, bMax, bInt, bAll, bSorted, bList, bTuple, this]
  have k1 := comp_map (Γ := Γ) (vs := [1, 2]) (elt := .cmp .Lt (.var 1) (.var 2)) (tg := .tp [(.nm 1), (.nm 2)]) (src := .zip (.var 0) (.sl (.var 0) (.cst (.int 1)) .off)) (cond := .cst (.bl true)) (ρ := [.val (.tup (l.map D.int)), .no, .no]) (l.zip (l.drop 1)) (fun x => .tup [D.int x.1, D.int x.2]) (fun _ => .bl true) ez (by rfl) (fun x hx => by
    have := adj_zip hu x hx
    simp [LIM, Function.comp_def, conD, runD, evalSs, evalS, evalE, evalL, evalA, evalAnd, evalOr, evalI, evalJ, evalH, seqR, seqD, isSeqE, partR, partD, entry, iosAt, setS, parS, gather, iosOf, callR, putIos, binD, cmpD, ixD, atI, ixN, slD, isiD, D.ty, boolsOf, bindT, bindTs, wipeE, plainAt, backE, lend, Env.hide, SV.hide, SV.isOwn, SV.dat, SV.put, ownAt, shutE, ixD', compF, ofO, R.bind, R.bindB, R.toS, R.toSB, RS.bind, bq_len, bq_abs, bq_min, bq_max, bq_int, bq_all, bq_sorted, bq_list, bq_tuple, bLen, bAbs, bMin, bMax, bInt, bAll, bSorted, bList, bTuple, this]) (by
      have : (l.zip (l.drop 1)).length ≤ l.length := by rw [List.length_zip]; exact Nat.min_le_left _ _
      unfold LIM; omega)
  have hb := bools_true (l.zip (l.drop 1))
  have hb0 := bools_true l
  have ha0 := all_true l
  have hz : ¬ (9 : Int) < (l.map D.int).length := by rw [List.length_map]; omega
  have ha := all_true (l.zip (l.drop 1))
  generalize ((l.zip (l.drop 1)).map fun _ => D.bl true) = bd at *
  generalize ((l.zip (l.drop 1)).map fun _ => true) = bs at *
  generalize (l.map fun _ => D.bl true) = bd0 at *
  generalize (l.map fun _ => true) = bs0 at *
  generalize l.map D.int = ld at *
  refine conD_ret (ρ := [.val (.tup ld), .no, .no]) rfl ?_ rfl
  simp [b_are_gone, LIM, Function.comp_def, conD, runD, evalSs, evalS, evalE, evalL, evalA, evalAnd, evalOr, evalI, evalJ, evalH, seqR, seqD, isSeqE, partR, partD, entry, iosAt, setS, parS, gather, iosOf, callR, putIos, binD, cmpD, ixD, atI, ixN, slD, isiD, D.ty, boolsOf, bindT, bindTs, wipeE, plainAt, backE, lend, Env.hide, SV.hide, SV.isOwn, SV.dat, SV.put, ownAt, shutE, ixD', compF, ofO, R.bind, R.bindB, R.toS, R.toSB, RS.bind, bq_len, bq_abs, bq_min, bq_max, bq_int, bq_all, bq_sorted, bq_list, bq_tuple, bLen, bAbs, bMin, bMax, bInt, bAll, bSorted, bList, bTuple, hz, ↓k0, ↓k1, hb, ha, hb0, ha0]
def SIsBeat (c : List AV → CRes) : Prop := ∀ b : Sn, SnOk b → c [.val (snD b)] = .ok (.bl true, false) []
theorem isbeat_s (Γ : Ctr) (c1 c2 : List AV → CRes) (h1 : Γ.fn "are_pairs" = some c1) (h2 : Γ.fn "are_gone" = some c2) (s1 : SPairs c1) (s2 : SGone c2) : SIsBeat (conD Γ FU 1 1 b_is_beat) := by
  intro b k
  have q1 := s1 _ k.p k.pu k.pl
  have q2 := s2 _ k.g k.gu k.gl
  obtain ⟨b1, b2, b3⟩ := b
  simp only at q1 q2
  unfold snD
  simp only
  generalize b2.map m2 = u at *
  generalize b3.map D.int = v at *
  have g : ∀ i : Int, (D.int i).good = true := good_int
  simp [b_is_beat, LIM, Function.comp_def, conD, runD, evalSs, evalS, evalE, evalL, evalA, evalAnd, evalOr, evalI, evalJ, evalH, seqR, seqD, isSeqE, partR, partD, entry, iosAt, setS, parS, gather, iosOf, callR, putIos, binD, cmpD, ixD, atI, ixN, slD, isiD, D.ty, boolsOf, bindT, bindTs, wipeE, plainAt, backE, lend, Env.hide, SV.hide, SV.isOwn, SV.dat, SV.put, ownAt, shutE, ixD', compF, ofO, R.bind, R.bindB, R.toS, R.toSB, RS.bind, bq_len, bq_abs, bq_min, bq_max, bq_int, bq_all, bq_sorted, bq_list, bq_tuple, bLen, bAbs, bMin, bMax, bInt, bAll, bSorted, bList, bTuple, h1, h2, q1, q2, g, D.eqv]
def SNeedSeen (c : List AV → CRes) : Prop := ∀ T : List Sn, T.length ≤ 6 → (∀ b ∈ T, SnOk b) → c [.val (seenD T)] = .ok (.non, false) []
theorem needSeen_s (Γ : Ctr) (c : List AV → CRes) (h : Γ.fn "is_beat" = some c) (s : SIsBeat c) (hm : Γ.gv "MOST_SEEN" = some (.int 6)) : SNeedSeen (conD Γ FU 1 2 b_need_seen) := by
  intro T hT hk
  have k0 := comp_map (Γ := Γ) (vs := [1]) (elt := .call "is_beat" [(.var 1)]) (tg := .nm 1) (src := .var 0) (cond := .cst (.bl true)) (ρ := [.val (.tup (T.map snD)), .no]) T snD (fun _ => .bl true) (by simp [LIM, Function.comp_def, conD, runD, evalSs, evalS, evalE, evalL, evalA, evalAnd, evalOr, evalI, evalJ, evalH, seqR, seqD, isSeqE, partR, partD, entry, iosAt, setS, parS, gather, iosOf, callR, putIos, binD, cmpD, ixD, atI, ixN, slD, isiD, D.ty, boolsOf, bindT, bindTs, wipeE, plainAt, backE, lend, Env.hide, SV.hide, SV.isOwn, SV.dat, SV.put, ownAt, shutE, ixD', compF, ofO, R.bind, R.bindB, R.toS, R.toSB, RS.bind, bq_len, bq_abs, bq_min, bq_max, bq_int, bq_all, bq_sorted, bq_list, bq_tuple, bLen, bAbs, bMin, bMax, bInt, bAll, bSorted, bList, bTuple]) (by rfl) (fun x hx => by
    have q := s x (hk x hx)
    generalize snD x = u at *
    simp [LIM, Function.comp_def, conD, runD, evalSs, evalS, evalE, evalL, evalA, evalAnd, evalOr, evalI, evalJ, evalH, seqR, seqD, isSeqE, partR, partD, entry, iosAt, setS, parS, gather, iosOf, callR, putIos, binD, cmpD, ixD, atI, ixN, slD, isiD, D.ty, boolsOf, bindT, bindTs, wipeE, plainAt, backE, lend, Env.hide, SV.hide, SV.isOwn, SV.dat, SV.put, ownAt, shutE, ixD', compF, ofO, R.bind, R.bindB, R.toS, R.toSB, RS.bind, bq_len, bq_abs, bq_min, bq_max, bq_int, bq_all, bq_sorted, bq_list, bq_tuple, bLen, bAbs, bMin, bMax, bInt, bAll, bSorted, bList, bTuple, h, q]) (by unfold LIM; omega)
  have hb0 := bools_true T
  have ha0 := all_true T
  have hz : ¬ (6 : Int) < (T.map snD).length := by rw [List.length_map]; omega
  unfold seenD
  generalize (T.map fun _ => D.bl true) = bd0 at *
  generalize (T.map fun _ => true) = bs0 at *
  generalize T.map snD = ld at *
  simp [b_need_seen, LIM, Function.comp_def, conD, runD, evalSs, evalS, evalE, evalL, evalA, evalAnd, evalOr, evalI, evalJ, evalH, seqR, seqD, isSeqE, partR, partD, entry, iosAt, setS, parS, gather, iosOf, callR, putIos, binD, cmpD, ixD, atI, ixN, slD, isiD, D.ty, boolsOf, bindT, bindTs, wipeE, plainAt, backE, lend, Env.hide, SV.hide, SV.isOwn, SV.dat, SV.put, ownAt, shutE, ixD', compF, ofO, R.bind, R.bindB, R.toS, R.toSB, RS.bind, bq_len, bq_abs, bq_min, bq_max, bq_int, bq_all, bq_sorted, bq_list, bq_tuple, bLen, bAbs, bMin, bMax, bInt, bAll, bSorted, bList, bTuple, hz, hm, ↓k0, hb0, ha0]

/-! ### what rows show is so -/
theorem pick_fst {L : List P3} (u : L.Pairwise fun p q => p.1 < q.1) {a : Nat × Nat} (h1 : a.1 < a.2) (h2 : a.2 < L.length) : ∀ x ∈ rem L a, x.1 ≠ (L.getD a.1 z3).1 := by
  intro x hx
  have g1 : L.getD a.1 z3 = L[a.1]'(by omega) := by rw [List.getD_eq_getElem?_getD, List.getElem?_eq_getElem (by omega)]; rfl
  rw [g1]
  have hx : x ∈ L.take a.1 ∨ x ∈ L.drop (a.1 + 1) := by
    unfold rem at hx
    rcases List.mem_append.mp hx with hx | hx
    · exact .inl hx
    · rcases List.mem_append.mp hx with hx | hx
      · exact .inr (List.mem_of_mem_take hx)
      · refine .inr ?_
        rw [show a.2 + 1 = a.1 + 1 + (a.2 - a.1) by omega, ← List.drop_drop] at hx
        exact List.mem_of_mem_drop hx
  have e : L = L.take a.1 ++ (L[a.1]'(by omega) :: L.drop (a.1 + 1)) := by
    rw [List.getElem_cons_drop, List.take_append_drop]
  rw [e, List.pairwise_append] at u
  obtain ⟨_, u2, u3⟩ := u
  rcases hx with hx | hx
  · have := u3 x hx _ List.mem_cons_self
    omega
  · have := (List.pairwise_cons.mp u2).1 x hx
    omega
theorem pick_lt {L : List P3} (u : L.Pairwise fun p q => p.1 < q.1) {a : Nat × Nat} (h1 : a.1 < a.2) (h2 : a.2 < L.length) : (L.getD a.1 z3).1 < (L.getD a.2 z3).1 := by
  rw [List.getD_eq_getElem?_getD, List.getD_eq_getElem?_getD, List.getElem?_eq_getElem h2, List.getElem?_eq_getElem (by omega)]
  exact List.pairwise_iff_getElem.mp u a.1 a.2 (by omega) h2 h1
theorem rounds_pairs (h : Hl) : ∀ (n : Nat) (L : List P3), (L.Pairwise fun p q => p.1 < q.1) → (∀ x ∈ (rounds h n L).2, x.1 < x.2 ∧ (∃ p ∈ L, p.1 = x.1) ∧ ∃ p ∈ L, p.1 = x.2) ∧ (rounds h n L).2.Nodup
  | 0, L, u => by simp [rounds]
  | n + 1, L, u => by
    simp only [rounds]
    split
    · simp
    · rename_i a e
      have pm := pick_mem e
      have sb := rem_sub L pm.1
      obtain ⟨k1, k2⟩ := rounds_pairs h n (rem L a) (u.sublist sb)
      have m1 : L.getD a.1 z3 ∈ L := by
        rw [List.getD_eq_getElem?_getD, List.getElem?_eq_getElem (by omega)]
        exact List.getElem_mem _
      have m2' : L.getD a.2 z3 ∈ L := by
        rw [List.getD_eq_getElem?_getD, List.getElem?_eq_getElem pm.2]
        exact List.getElem_mem _
      refine ⟨fun x hx => ?_, ?_⟩
      · rcases List.mem_cons.mp hx with rfl | hx
        · exact ⟨pick_lt u pm.1 pm.2, ⟨_, m1, rfl⟩, ⟨_, m2', rfl⟩⟩
        · obtain ⟨h1, ⟨p, hp, e1⟩, ⟨q, hq, e2⟩⟩ := k1 x hx
          exact ⟨h1, ⟨p, sb.subset hp, e1⟩, ⟨q, sb.subset hq, e2⟩⟩
      · refine List.nodup_cons.mpr ⟨fun hx => ?_, k2⟩
        obtain ⟨_, ⟨p, hp, e1⟩, _⟩ := k1 _ hx
        exact pick_fst u pm.1 pm.2 p hp e1
theorem leP_trans (a b c : Int × Int) (h1 : leP a b = true) (h2 : leP b c = true) : leP a c = true := by
  simp only [leP, decide_eq_true_eq] at *
  omega
theorem leP_total (a b : Int × Int) : (leP a b || leP b a) = true := by
  simp only [leP, Bool.or_eq_true, decide_eq_true_eq]
  omega
theorem sortM_lt {M : List (Int × Int)} (nd : M.Nodup) : (sortM M).Pairwise ltP := by
  have h1 : (sortM M).Pairwise fun a b => leP a b = true := List.pairwise_mergeSort leP_trans leP_total M
  have h2 : (sortM M).Nodup := (List.mergeSort_perm M leP).nodup_iff.mpr nd
  refine (h1.and h2).imp fun {a b} h => ?_
  obtain ⟨h3, h4⟩ := h
  simp only [leP, decide_eq_true_eq] at h3
  obtain ⟨a1, a2⟩ := a
  obtain ⟨b1, b2⟩ := b
  have h4 : ¬ (a1 = b1 ∧ a2 = b2) := fun z => h4 (by rw [z.1, z.2])
  simp only [ltP] at *
  omega
/-- numbers of comers are none below 0 -/
def Pos (L : List P3) : Prop := ∀ p ∈ L, 0 ≤ p.1
theorem pos_now {h : Hl} {L : List P3} {n : Nat} (p : Pos L) (o : Option Int) : Pos (nowOf h L n o) := by
  intro x hx
  unfold nowOf at hx
  rcases List.mem_append.mp hx with hx | hx
  · obtain ⟨y, hy, rfl⟩ := List.mem_map.mp hx
    exact p y hy
  · cases o with
    | none => simp at hx
    | some s => simp at hx; subst hx; exact Int.natCast_nonneg n
theorem pos_beat {h : Hl} {L : List P3} {n : Nat} (p : Pos L) (o : Option Int) : Pos (beatW h L n o) := fun x hx => pos_now (h := h) (n := n) p o x ((rounds_sub h _ _).1.subset (List.mem_filter.mp hx).1)
theorem pos_run (h : Hl) (row : List (Option Int)) : ∀ i, Pos (runS h row i).W
  | 0 => fun x hx => by simp [runS] at hx
  | i + 1 => pos_beat (pos_run h row i) _
theorem saw_ok {h : Hl} (k : h.Ok) {n : Nat} {W : List P3} (w : WtOk h n W) (ps : Pos W) (hn : n ≤ 8) (M G : List D) (o : Option Int) : SnOk (sawOf h ⟨W, n, M, G⟩ o) := by
  have wn := now_ok k w o
  have pn := pos_now (h := h) (n := n) ps o
  obtain ⟨r1, r2⟩ := rounds_pairs h (nowOf h W n o).length (nowOf h W n o) wn.up
  have lm := beatM_len k w o
  have lg := beatG_len k w o
  have sp : (sortM (beatM h W n o)).length = (beatM h W n o).length := (List.mergeSort_perm _ _).length_eq
  have rs := rounds_sub h (nowOf h W n o).length (nowOf h W n o)
  refine ⟨fun x hx => ?_, sortM_lt r2, by show (sortM (beatM h W n o)).length ≤ 9; omega, fun x hx => ?_, ?_, by show (beatG h W n o).length ≤ 9; omega⟩
  · have hx : x ∈ beatM h W n o := (List.mergeSort_perm _ _).mem_iff.mp hx
    obtain ⟨h1, ⟨p, hp, e1⟩, ⟨q, hq, e2⟩⟩ := r1 x hx
    have a1 := pn p hp
    have a2 := wn.lt q hq
    omega
  · have hx : x ∈ beatG h W n o := hx
    unfold beatG goneOf at hx
    obtain ⟨p, hp, rfl⟩ := List.mem_map.mp hx
    have hp := rs.1.subset (List.mem_filter.mp hp).1
    have a1 := pn p hp
    have a2 := wn.lt p hp
    omega
  · show (beatG h W n o).Pairwise _
    unfold beatG goneOf
    rw [List.pairwise_map]
    exact (wn.up.sublist rs.1).sublist List.filter_sublist
theorem seen_ok {h : Hl} (k : h.Ok) {row : List (Option Int)} (hr : row.length ≤ 8) : ∀ b ∈ seenOf h row, SnOk b := by
  intro b hb
  unfold seenOf at hb
  obtain ⟨i, hi, rfl⟩ := List.mem_map.mp hb
  rw [List.mem_range] at hi
  obtain ⟨w, wn, _⟩ := runS_ok k row i (by omega)
  have ps := pos_run h row i
  generalize runS h row i = st at *
  obtain ⟨W, n, M, G⟩ := st
  exact saw_ok k w ps (Nat.le_trans (show n ≤ i from wn) (by omega)) M G _
end W2

/-! What is seen, as the law finds it; the rows. -/
namespace W2
open PySem L2

def tagL {α : Type} (B : Nat → List α) (k : Nat) : List (Nat × α) := (List.range k).flatMap fun i => (B i).map fun x => (i, x)
theorem tagL_succ {α : Type} (B : Nat → List α) (k : Nat) : tagL B (k + 1) = tagL B k ++ (B k).map fun x => (k, x) := by
  unfold tagL
  rw [List.range_succ, List.flatMap_append]
  simp
theorem tag_filt {α β : Type} (B : Nat → List α) (g : Nat × α → β) (i : Nat) : ∀ k, ((tagL B k).filter fun x => decide (x.1 = i)).map g = if i < k then (B i).map fun y => g (i, y) else []
  | 0 => by simp [tagL]
  | k + 1 => by
    rw [tagL_succ, List.filter_append, List.map_append, tag_filt B g i k, List.filter_map, List.map_map]
    by_cases h1 : i = k
    · subst h1
      have ft : (B i).filter (fun _ => true) = B i := List.filter_eq_self.mpr (by simp)
      simp [Function.comp_def, ft]
    · have h2 : ¬ k = i := fun z => h1 z.symm
      by_cases h3 : i < k
      · have h4 : i < k + 1 := by omega
        simp [Function.comp_def, h2, h3, h4]
      · have h4 : ¬ i < k + 1 := by omega
        simp [Function.comp_def, h2, h3, h4]
theorem runS_M (h : Hl) (row : List (Option Int)) : ∀ k, (runS h row k).M = (tagL (fun i => beatM h (runS h row i).W (runS h row i).n (row.getD i none)) k).map fun x => t3 x.1 x.2
  | 0 => rfl
  | k + 1 => by
    rw [tagL_succ, List.map_append, ← runS_M h row k, List.map_map]
    rfl
theorem runS_G (h : Hl) (row : List (Option Int)) : ∀ k, (runS h row k).G = (tagL (fun i => beatG h (runS h row i).W (runS h row i).n (row.getD i none)) k).map fun x => t2 x.1 x.2
  | 0 => rfl
  | k + 1 => by
    rw [tagL_succ, List.map_append, ← runS_G h row k, List.map_map]
    rfl
def SSeen (c : List AV → CRes) : Prop := ∀ h : Hl, h.Ok → ∀ row : List (Option Int), row.length ≤ 60 → c [.val h.d, .val (.tup (row.map patD))] = .ok (seenD (seenOf h row), false) []
def lsB : List St := [.set 8 (.blt "sorted" [(.comp [2, 9, 10] (.tup [(.var 9), (.var 10)]) (.tp [(.nm 2), (.nm 9), (.nm 10)]) (.var 11) (.cmp .Eq (.var 2) (.var 3)))]),
    .set 7 (.blt "tuple" [(.comp [2, 9] (.var 9) (.tp [(.nm 2), (.nm 9)]) (.var 6) (.cmp .Eq (.var 2) (.var 3)))]),
    .set 5 (.bin .Add (.var 5) (.tup [(.tup [(.cmp .IsNot (.var 4) (.cst .non)), (.blt "tuple" [(.var 8)]), (.var 7)])]))]
theorem b_lseen_eq : b_law_seen = [.tgt (.tp [(.nm 12), (.nm 11), (.nm 6)]) (.call "_law_run" [(.var 0), (.var 1)]), .set 5 (.tup []), .for_ (.tp [(.nm 3), (.nm 4)]) (.enu (.var 1)) lsB, .ret (.var 5)] := rfl
theorem lseen_turn {Γ : Ctr} {BM : Nat → List (Int × Int)} {BG : Nat → List Int} {n i : Nat} (hi : i < n) (hM : (tagL BM n).length ≤ 5000) (hG : (tagL BG n).length ≤ 5000) (hB : (BM i).length ≤ 5000) (o : Option Int) {hd rd wd : D} {fs : List D} (hf : fs.length ≤ 1000) {x7 x8 : SV} (n7 : PN x7) (n8 : PN x8) :
    ∃ y7 y8, PN y7 ∧ PN y8 ∧ evalSs Γ FU lsB [.val hd, .val rd, .no, .val (.int i), .val (patD o), .val (.tup fs), .val (.lst ((tagL BG n).map fun x => t2 x.1 x.2)), x7, x8, .no, .no, .val (.lst ((tagL BM n).map fun x => t3 x.1 x.2)), .val wd] =
      .nxt [.val hd, .val rd, .no, .val (.int i), .val (patD o), .val (.tup (fs ++ [snD (o.isSome, sortM (BM i), BG i)])), .val (.lst ((tagL BG n).map fun x => t2 x.1 x.2)), y7, y8, .no, .no, .val (.lst ((tagL BM n).map fun x => t3 x.1 x.2)), .val wd] := by
  have n7' : ∀ d, ¬ x7 = .io d := n7.ni
  have n8' : ∀ d, ¬ x8 = .io d := n8.ni
  have k1 : ∀ x8 : SV, evalE Γ (.comp [2, 9, 10] (.tup [(.var 9), (.var 10)]) (.tp [(.nm 2), (.nm 9), (.nm 10)]) (.var 11) (.cmp .Eq (.var 2) (.var 3))) [.val hd, .val rd, .no, .val (.int i), .val (patD o), .val (.tup fs), .val (.lst ((tagL BG n).map fun x => t2 x.1 x.2)), x7, x8, .no, .no, .val (.lst ((tagL BM n).map fun x => t3 x.1 x.2)), .val wd] = .ok (.lst ((BM i).map m2), true) _ := fun x8 => by
    have := comp_filt (Γ := Γ) (vs := [2, 9, 10]) (elt := .tup [(.var 9), (.var 10)]) (tg := .tp [(.nm 2), (.nm 9), (.nm 10)]) (src := .var 11) (cond := .cmp .Eq (.var 2) (.var 3)) (ρ := [.val hd, .val rd, .no, .val (.int i), .val (patD o), .val (.tup fs), .val (.lst ((tagL BG n).map fun x => t2 x.1 x.2)), x7, x8, .no, .no, .val (.lst ((tagL BM n).map fun x => t3 x.1 x.2)), .val wd])
      (tagL BM n) (fun x => t3 x.1 x.2) (fun x => decide (x.1 = i)) (fun x => m2 x.2) (by simp [LIM, Function.comp_def, conD, runD, evalSs, evalS, evalE, evalL, evalA, evalAnd, evalOr, evalI, evalJ, evalH, seqR, seqD, isSeqE, partR, partD, entry, iosAt, setS, parS, gather, iosOf, callR, putIos, binD, cmpD, ixD, atI, ixN, slD, isiD, D.ty, boolsOf, bindT, bindTs, wipeE, plainAt, backE, lend, Env.hide, SV.hide, SV.isOwn, SV.dat, SV.put, ownAt, shutE, ixD', compF, ofO, R.bind, R.bindB, R.toS, R.toSB, RS.bind, bq_len, bq_abs, bq_min, bq_max, bq_int, bq_all, bq_sorted, bq_list, bq_tuple, bLen, bAbs, bMin, bMax, bInt, bAll, bSorted, bList, bTuple]) (by rfl) (fun x _ => by
        obtain ⟨j, a, b⟩ := x
        by_cases hj : j = i
        · subst hj
          simp [LIM, Function.comp_def, conD, runD, evalSs, evalS, evalE, evalL, evalA, evalAnd, evalOr, evalI, evalJ, evalH, seqR, seqD, isSeqE, partR, partD, entry, iosAt, setS, parS, gather, iosOf, callR, putIos, binD, cmpD, ixD, atI, ixN, slD, isiD, D.ty, boolsOf, bindT, bindTs, wipeE, plainAt, backE, lend, Env.hide, SV.hide, SV.isOwn, SV.dat, SV.put, ownAt, shutE, ixD', compF, ofO, R.bind, R.bindB, R.toS, R.toSB, RS.bind, bq_len, bq_abs, bq_min, bq_max, bq_int, bq_all, bq_sorted, bq_list, bq_tuple, bLen, bAbs, bMin, bMax, bInt, bAll, bSorted, bList, bTuple, t3, m2, good_int, D.eqv]
        · have hj' : ((j : Int) == (i : Int)) = false := by rw [beq_eq_false_iff_ne]; omega
          simp [LIM, Function.comp_def, conD, runD, evalSs, evalS, evalE, evalL, evalA, evalAnd, evalOr, evalI, evalJ, evalH, seqR, seqD, isSeqE, partR, partD, entry, iosAt, setS, parS, gather, iosOf, callR, putIos, binD, cmpD, ixD, atI, ixN, slD, isiD, D.ty, boolsOf, bindT, bindTs, wipeE, plainAt, backE, lend, Env.hide, SV.hide, SV.isOwn, SV.dat, SV.put, ownAt, shutE, ixD', compF, ofO, R.bind, R.bindB, R.toS, R.toSB, RS.bind, bq_len, bq_abs, bq_min, bq_max, bq_int, bq_all, bq_sorted, bq_list, bq_tuple, bLen, bAbs, bMin, bMax, bInt, bAll, bSorted, bList, bTuple, t3, m2, good_int, D.eqv, hj, hj']) (by unfold LIM; omega)
    rw [this, tag_filt, if_pos hi]
  have k2 : ∀ x8 : SV, evalE Γ (.comp [2, 9] (.var 9) (.tp [(.nm 2), (.nm 9)]) (.var 6) (.cmp .Eq (.var 2) (.var 3))) [.val hd, .val rd, .no, .val (.int i), .val (patD o), .val (.tup fs), .val (.lst ((tagL BG n).map fun x => t2 x.1 x.2)), x7, x8, .no, .no, .val (.lst ((tagL BM n).map fun x => t3 x.1 x.2)), .val wd] = .ok (.lst ((BG i).map D.int), true) _ := fun x8 => by
    have := comp_filt (Γ := Γ) (vs := [2, 9]) (elt := .var 9) (tg := .tp [(.nm 2), (.nm 9)]) (src := .var 6) (cond := .cmp .Eq (.var 2) (.var 3)) (ρ := [.val hd, .val rd, .no, .val (.int i), .val (patD o), .val (.tup fs), .val (.lst ((tagL BG n).map fun x => t2 x.1 x.2)), x7, x8, .no, .no, .val (.lst ((tagL BM n).map fun x => t3 x.1 x.2)), .val wd])
      (tagL BG n) (fun x => t2 x.1 x.2) (fun x => decide (x.1 = i)) (fun x => D.int x.2) (by simp [LIM, Function.comp_def, conD, runD, evalSs, evalS, evalE, evalL, evalA, evalAnd, evalOr, evalI, evalJ, evalH, seqR, seqD, isSeqE, partR, partD, entry, iosAt, setS, parS, gather, iosOf, callR, putIos, binD, cmpD, ixD, atI, ixN, slD, isiD, D.ty, boolsOf, bindT, bindTs, wipeE, plainAt, backE, lend, Env.hide, SV.hide, SV.isOwn, SV.dat, SV.put, ownAt, shutE, ixD', compF, ofO, R.bind, R.bindB, R.toS, R.toSB, RS.bind, bq_len, bq_abs, bq_min, bq_max, bq_int, bq_all, bq_sorted, bq_list, bq_tuple, bLen, bAbs, bMin, bMax, bInt, bAll, bSorted, bList, bTuple]) (by rfl) (fun x _ => by
        obtain ⟨j, a⟩ := x
        by_cases hj : j = i
        · subst hj
          simp [LIM, Function.comp_def, conD, runD, evalSs, evalS, evalE, evalL, evalA, evalAnd, evalOr, evalI, evalJ, evalH, seqR, seqD, isSeqE, partR, partD, entry, iosAt, setS, parS, gather, iosOf, callR, putIos, binD, cmpD, ixD, atI, ixN, slD, isiD, D.ty, boolsOf, bindT, bindTs, wipeE, plainAt, backE, lend, Env.hide, SV.hide, SV.isOwn, SV.dat, SV.put, ownAt, shutE, ixD', compF, ofO, R.bind, R.bindB, R.toS, R.toSB, RS.bind, bq_len, bq_abs, bq_min, bq_max, bq_int, bq_all, bq_sorted, bq_list, bq_tuple, bLen, bAbs, bMin, bMax, bInt, bAll, bSorted, bList, bTuple, t2, good_int, D.eqv]
        · have hj' : ((j : Int) == (i : Int)) = false := by rw [beq_eq_false_iff_ne]; omega
          simp [LIM, Function.comp_def, conD, runD, evalSs, evalS, evalE, evalL, evalA, evalAnd, evalOr, evalI, evalJ, evalH, seqR, seqD, isSeqE, partR, partD, entry, iosAt, setS, parS, gather, iosOf, callR, putIos, binD, cmpD, ixD, atI, ixN, slD, isiD, D.ty, boolsOf, bindT, bindTs, wipeE, plainAt, backE, lend, Env.hide, SV.hide, SV.isOwn, SV.dat, SV.put, ownAt, shutE, ixD', compF, ofO, R.bind, R.bindB, R.toS, R.toSB, RS.bind, bq_len, bq_abs, bq_min, bq_max, bq_int, bq_all, bq_sorted, bq_list, bq_tuple, bLen, bAbs, bMin, bMax, bInt, bAll, bSorted, bList, bTuple, t2, good_int, D.eqv, hj, hj']) (by unfold LIM; omega)
    rw [this, tag_filt, if_pos hi]
  have sm := sort_m2 (BM i) (by unfold LIM; omega)
  have hf' : fs.length + 1 ≤ 100000 := by omega
  refine ⟨.val (.tup ((BG i).map D.int)), .val (.lst ((sortM (BM i)).map m2)), .inr ⟨_, rfl⟩, .inr ⟨_, rfl⟩, ?_⟩
  have os : (!(patD o).isN) = o.isSome := by cases o <;> rfl
  generalize ((tagL BG n).map fun x => t2 x.1 x.2) = gl at *
  generalize ((tagL BM n).map fun x => t3 x.1 x.2) = ml at *
  unfold snD
  simp only
  generalize (sortM (BM i)).map m2 = u at *
  generalize (BM i).map m2 = u0 at *
  generalize (BG i).map D.int = v at *
  generalize patD o = od at *
  generalize o.isSome = q at *
  simp [lsB, LIM, Function.comp_def, conD, runD, evalSs, evalS, evalE, evalL, evalA, evalAnd, evalOr, evalI, evalJ, evalH, seqR, seqD, isSeqE, partR, partD, entry, iosAt, parS, gather, iosOf, callR, putIos, binD, cmpD, ixD, atI, ixN, slD, isiD, D.ty, boolsOf, wipeE, plainAt, backE, lend, Env.hide, SV.hide, SV.isOwn, SV.dat, SV.put, ownAt, shutE, ixD', compF, ofO, R.bind, R.bindB, R.toS, R.toSB, RS.bind, bq_len, bq_abs, bq_min, bq_max, bq_int, bq_all, bq_sorted, bq_list, bq_tuple, bLen, bAbs, bMin, bMax, bInt, bAll, bSorted, bList, bTuple, setS_ok, bindT_ok, bindT_tp, bindTs, ↓k1, ↓k2, sm, n7', n8', hf', os]
theorem lseen_s (Γ : Ctr) (c : List AV → CRes) (hb : Γ.fn "_law_run" = some c) (s : SRun c) : SSeen (conD Γ FU 2 13 b_law_seen) := by
  intro h k row hr
  have hrun := s h k row hr
  obtain ⟨w, wn, wM, wG⟩ := runS_ok k row row.length (by omega)
  unfold runR at hrun
  rw [runS_M, runS_G] at hrun
  rw [runS_M, List.length_map] at wM
  rw [runS_G, List.length_map] at wG
  obtain ⟨BM, hBM⟩ : ∃ BM : Nat → List (Int × Int), BM = fun i => beatM h (runS h row i).W (runS h row i).n (row.getD i none) := ⟨_, rfl⟩
  obtain ⟨BG, hBG⟩ : ∃ BG : Nat → List Int, BG = fun i => beatG h (runS h row i).W (runS h row i).n (row.getD i none) := ⟨_, rfl⟩
  rw [← hBM] at hrun wM
  rw [← hBG] at hrun wG
  have hsaw : ∀ i, sawOf h (runS h row i) (row.getD i none) = ((row.getD i none).isSome, sortM (BM i), BG i) := fun i => by rw [hBM, hBG]; rfl
  obtain ⟨ρ', e, x3, x4, x7, x8, h1, _⟩ := forL_inv (f := evalSs Γ FU lsB) (t := .tp [(.nm 3), (.nm 4)]) (fun i ρ => ∃ x3 x4 x7 x8, ρ = [.val h.d, .val (.tup (row.map patD)), .no, x3, x4, .val (.tup (((List.range i).map fun k => sawOf h (runS h row k) (row.getD k none)).map snD)), .val (.lst ((tagL BG row.length).map fun x => t2 x.1 x.2)), x7, x8, .no, .no, .val (.lst ((tagL BM row.length).map fun x => t3 x.1 x.2)), .val (.lst ((runS h row row.length).W.map e3))] ∧ PN x3 ∧ PN x4 ∧ PN x7 ∧ PN x8) (ds := enumD 0 (row.map patD)) (ρ := [.val h.d, .val (.tup (row.map patD)), .no, .no, .no, .val (.tup []), .val (.lst ((tagL BG row.length).map fun x => t2 x.1 x.2)), .no, .no, .no, .no, .val (.lst ((tagL BM row.length).map fun x => t3 x.1 x.2)), .val (.lst ((runS h row row.length).W.map e3))]) 0
    ⟨.no, .no, .no, .no, rfl, .inl rfl, .inl rfl, .inl rfl, .inl rfl⟩ (by
    rintro i d hd ρ ⟨x3, x4, x7, x8, rfl, n3, n4, n7, n8⟩
    obtain ⟨x, hx, rfl⟩ := enumD_get hd
    rw [List.getElem?_map, Option.map_eq_some_iff] at hx
    obtain ⟨o, ho, rfl⟩ := hx
    rw [Nat.zero_add]
    have hi : i < row.length := (List.getElem?_eq_some_iff.mp ho).1
    have eo := getD_none ho
    have hBi : (BM i).length ≤ 5000 := by
      obtain ⟨w, wn, _⟩ := runS_ok k row i (by omega)
      have := beatM_len k w (row.getD i none)
      rw [hBM]
      simp only
      omega
    obtain ⟨y7, y8, p7, p8, et⟩ := lseen_turn (Γ := Γ) (BM := BM) (BG := BG) hi (by omega) (by omega) hBi o (hd := h.d) (rd := .tup (row.map patD)) (wd := .lst ((runS h row row.length).W.map e3)) (fs := ((List.range i).map fun k => sawOf h (runS h row k) (row.getD k none)).map snD) (by simp; omega) n7 n8
    refine ⟨_, _, ?_, et, .val (.int i), .val (patD o), y7, y8, ?_, .inr ⟨_, rfl⟩, .inr ⟨_, rfl⟩, p7, p8⟩
    · have n3' : ∀ d, ¬ x3 = .io d := n3.ni
      have n4' : ∀ d, ¬ x4 = .io d := n4.ni
      simp [bindT_ok, bindT_tp, bindTs, n3', n4']
    · rw [List.range_succ, List.map_append, List.map_append, List.map_singleton, List.map_singleton, hsaw i, ← eo])
  subst h1
  rw [Nat.zero_add, enumD_len, List.length_map] at e
  unfold seenOf
  unfold seenD
  generalize ((List.range row.length).map fun k => sawOf h (runS h row k) (row.getD k none)).map snD = res at *
  generalize ((tagL BG row.length).map fun x => t2 x.1 x.2) = gl at *
  generalize ((tagL BM row.length).map fun x => t3 x.1 x.2) = ml at *
  generalize (runS h row row.length).W.map e3 = wl at *
  generalize h.d = hd at *
  generalize row.map patD = rd at *
  refine conD_ret (ρ := [.val hd, .val (.tup rd), .no, x3, x4, .val (.tup res), .val (.lst gl), x7, x8, .no, .no, .val (.lst ml), .val (.lst wl)]) rfl ?_ rfl
  simp [b_lseen_eq, LIM, Function.comp_def, conD, runD, evalSs, evalS, evalE, evalL, evalA, evalAnd, evalOr, evalI, evalJ, evalH, seqR, seqD, isSeqE, partR, partD, entry, iosAt, setS, parS, gather, iosOf, callR, putIos, binD, cmpD, ixD, atI, ixN, slD, isiD, D.ty, boolsOf, bindT, bindTs, wipeE, plainAt, backE, lend, Env.hide, SV.hide, SV.isOwn, SV.dat, SV.put, ownAt, shutE, ixD', compF, ofO, R.bind, R.bindB, R.toS, R.toSB, RS.bind, bq_len, bq_abs, bq_min, bq_max, bq_int, bq_all, bq_sorted, bq_list, bq_tuple, bLen, bAbs, bMin, bMax, bInt, bAll, bSorted, bList, bTuple, hb, hrun, e]
end W2

/-! The law's rows, and what is due. -/
namespace W2
open PySem L2

def rowD (row : List (Option Int)) : D := .tup (row.map patD)
abbrev rowsT (h : Hl) (T : List Sn) : List (List (Option Int)) := rowsOf.rowsR h T.reverse
def SRows (c : List AV → CRes) : Prop := ∀ h : Hl, h.Ok → ∀ T : List Sn, T.length ≤ 6 → c [.val h.d, .val (seenD T)] = .ok (.lst ((rowsT h T).map rowD), false) []
theorem rows_size {h : Hl} (k : h.Ok) : ∀ s : List Sn, (rowsOf.rowsR h s).length ≤ 5 ^ s.length
  | [] => by simp [rowsOf.rowsR]
  | b :: s => by
    have ih := rows_size k s
    have := flat_len (fun row : List (Option Int) => (optsOf h b.1).map fun o => row ++ [o]) (fun x => by rw [List.length_map]; exact opts_len k b.1) (rowsOf.rowsR h s)
    simp only [rowsOf.rowsR]
    rw [List.length_cons, Nat.pow_succ]
    omega
def lwB2 : List St := [.set 7 (.ite (.ix (.var 2) (.cst (.int 0))) (.lrg (.rng1 (.bin .Add (.ix (.var 0) (.cst (.int 0))) (.cst (.int 1))))) (.lst [(.cst .non)])),
    .set 5 (.bin .Add (.var 5) (.comp [3] (.bin .Add (.var 6) (.tup [(.var 3)])) (.nm 3) (.var 7) (.cst (.bl true))))]
def lwB1 : List St := [.set 5 (.lst []), .for_ (.nm 6) (.var 4) lwB2, .set 4 (.var 5)]
theorem b_lrows_eq : b_law_rows = [.set 4 (.lst [(.tup [])]), .for_ (.nm 2) (.var 1) lwB1, .ret (.var 4)] := rfl
theorem src2_val {Γ : Ctr} {h : Hl} (k : h.Ok) (b : Sn) {ρ : Env} (e0 : ρ[0]? = some (.val h.d)) (e2 : ρ[2]? = some (.val (snD b))) : evalE Γ (.ite (.ix (.var 2) (.cst (.int 0))) (.lrg (.rng1 (.bin .Add (.ix (.var 0) (.cst (.int 0))) (.cst (.int 1))))) (.lst [(.cst .non)])) ρ = .ok (.lst ((optsOf h b.1).map patD), true) ρ := by
  have t1 := k.t1
  have t4 := k.t4
  obtain ⟨top, ws, f, o, pat⟩ := h
  simp only at t1 t4
  have hb : -4611686018427387904 ≤ top + 1 ∧ top + 1 < 4611686018427387904 := by omega
  have hl : (rangeD 0 (top + 1).toNat).length ≤ 100000 := by simp [rangeD]; omega
  have hr : rangeD 0 (top + 1).toNat = (optsOf ⟨top, ws, f, o, pat⟩ true).map patD := by
    unfold rangeD optsOf
    simp only [if_true, List.map_map]
    apply List.map_congr_left
    intro i _
    simp [patD]
  obtain ⟨c, b2, b3⟩ := b
  unfold snD at e2
  simp only at e2 ⊢
  cases c with
  | true =>
    rw [← hr]
    generalize hrs : rangeD 0 (top + 1).toNat = rs at *
    simp [LIM, Function.comp_def, conD, runD, evalSs, evalS, evalE, evalL, evalA, evalAnd, evalOr, evalI, evalJ, evalH, seqR, seqD, isSeqE, partR, partD, entry, iosAt, setS, parS, gather, iosOf, callR, putIos, binD, cmpD, ixD, atI, ixN, slD, isiD, D.ty, boolsOf, bindT, bindTs, wipeE, plainAt, backE, lend, Env.hide, SV.hide, SV.isOwn, SV.dat, SV.put, ownAt, shutE, ixD', compF, ofO, R.bind, R.bindB, R.toS, R.toSB, RS.bind, bq_len, bq_abs, bq_min, bq_max, bq_int, bq_all, bq_sorted, bq_list, bq_tuple, bLen, bAbs, bMin, bMax, bInt, bAll, bSorted, bList, bTuple, e0, e2, Hl.d, hb, hl, hrs]
  | false => simp [LIM, Function.comp_def, conD, runD, evalSs, evalS, evalE, evalL, evalA, evalAnd, evalOr, evalI, evalJ, evalH, seqR, seqD, isSeqE, partR, partD, entry, iosAt, setS, parS, gather, iosOf, callR, putIos, binD, cmpD, ixD, atI, ixN, slD, isiD, D.ty, boolsOf, bindT, bindTs, wipeE, plainAt, backE, lend, Env.hide, SV.hide, SV.isOwn, SV.dat, SV.put, ownAt, shutE, ixD', compF, ofO, R.bind, R.bindB, R.toS, R.toSB, RS.bind, bq_len, bq_abs, bq_min, bq_max, bq_int, bq_all, bq_sorted, bq_list, bq_tuple, bLen, bAbs, bMin, bMax, bInt, bAll, bSorted, bList, bTuple, e2, optsOf, patD]
section
variable {Γ : Ctr} {h : Hl} (k : h.Ok)
include k
theorem lrows_in {b : Sn} {row : List (Option Int)} (hr : row.length ≤ 50) {sd fd : D} {acc : List D} (ha : acc.length ≤ 90000) {x7 : SV} (n7 : PN x7) :
    ∃ y7, PN y7 ∧ evalSs Γ FU lwB2 [.val h.d, .val sd, .val (snD b), .no, .val fd, .val (.lst acc), .val (rowD row), x7] =
      .nxt [.val h.d, .val sd, .val (snD b), .no, .val fd, .val (.lst (acc ++ (optsOf h b.1).map fun o => rowD (row ++ [o]))), .val (rowD row), y7] := by
  have n7' : ∀ d, ¬ x7 = .io d := n7.ni
  have es := src2_val (Γ := Γ) k b (ρ := [.val h.d, .val sd, .val (snD b), .no, .val fd, .val (.lst acc), .val (rowD row), x7]) rfl rfl
  have ol := opts_len k b.1
  have k1 := comp_map (Γ := Γ) (vs := [3]) (elt := .bin .Add (.var 6) (.tup [(.var 3)])) (tg := .nm 3) (src := .var 7) (cond := .cst (.bl true)) (ρ := [.val h.d, .val sd, .val (snD b), .no, .val fd, .val (.lst acc), .val (rowD row), .val (.lst ((optsOf h b.1).map patD))]) (optsOf h b.1) patD (fun o => rowD (row ++ [o])) (by simp [LIM, Function.comp_def, conD, runD, evalSs, evalS, evalE, evalL, evalA, evalAnd, evalOr, evalI, evalJ, evalH, seqR, seqD, isSeqE, partR, partD, entry, iosAt, setS, parS, gather, iosOf, callR, putIos, binD, cmpD, ixD, atI, ixN, slD, isiD, D.ty, boolsOf, bindT, bindTs, wipeE, plainAt, backE, lend, Env.hide, SV.hide, SV.isOwn, SV.dat, SV.put, ownAt, shutE, ixD', compF, ofO, R.bind, R.bindB, R.toS, R.toSB, RS.bind, bq_len, bq_abs, bq_min, bq_max, bq_int, bq_all, bq_sorted, bq_list, bq_tuple, bLen, bAbs, bMin, bMax, bInt, bAll, bSorted, bList, bTuple]) (by rfl) (fun o _ => by
    have hl : (row.map patD).length + 1 ≤ 100000 := by rw [List.length_map]; omega
    unfold rowD
    rw [List.map_append, List.map_singleton]
    generalize row.map patD = rd at *
    generalize patD o = od at *
    simp [LIM, Function.comp_def, conD, runD, evalSs, evalS, evalE, evalL, evalA, evalAnd, evalOr, evalI, evalJ, evalH, seqR, seqD, isSeqE, partR, partD, entry, iosAt, setS, parS, gather, iosOf, callR, putIos, binD, cmpD, ixD, atI, ixN, slD, isiD, D.ty, boolsOf, bindT, bindTs, wipeE, plainAt, backE, lend, Env.hide, SV.hide, SV.isOwn, SV.dat, SV.put, ownAt, shutE, ixD', compF, ofO, R.bind, R.bindB, R.toS, R.toSB, RS.bind, bq_len, bq_abs, bq_min, bq_max, bq_int, bq_all, bq_sorted, bq_list, bq_tuple, bLen, bAbs, bMin, bMax, bInt, bAll, bSorted, bList, bTuple, hl]) (by unfold LIM; omega)
  have l1 : acc.length ≤ 100000 := by omega
  have l2 : ((optsOf h b.1).map fun o => rowD (row ++ [o])).length ≤ 100000 := by rw [List.length_map]; omega
  refine ⟨.val (.lst ((optsOf h b.1).map patD)), .inr ⟨_, rfl⟩, ?_⟩
  generalize ((optsOf h b.1).map fun o => rowD (row ++ [o])) = res at *
  generalize (optsOf h b.1).map patD = od at *
  generalize rowD row = rd at *
  generalize snD b = bd at *
  generalize h.d = hd at *
  unfold lwB2
  rw [evalSs, evalS, es]
  simp [LIM, Function.comp_def, conD, runD, evalSs, evalS, evalE, evalL, evalA, evalAnd, evalOr, evalI, evalJ, evalH, seqR, seqD, isSeqE, partR, partD, entry, iosAt, parS, gather, iosOf, callR, putIos, binD, cmpD, ixD, atI, ixN, slD, isiD, D.ty, boolsOf, wipeE, plainAt, backE, lend, Env.hide, SV.hide, SV.isOwn, SV.dat, SV.put, ownAt, shutE, ixD', compF, ofO, R.bind, R.bindB, R.toS, R.toSB, RS.bind, bq_len, bq_abs, bq_min, bq_max, bq_int, bq_all, bq_sorted, bq_list, bq_tuple, bLen, bAbs, bMin, bMax, bInt, bAll, bSorted, bList, bTuple, setS_ok, bindT_ok, bindT_tp, bindTs, ↓k1, l1, l2, n7']
theorem lrows_step {b : Sn} {X : List (List (Option Int))} (hw : ∀ x ∈ X, x.length ≤ 50) (hX : X.length ≤ 16000) {sd : D} {x5 x6 x7 : SV} (n5 : PN x5) (n6 : PN x6) (n7 : PN x7) :
    ∃ y5 y6 y7, PN y5 ∧ PN y6 ∧ PN y7 ∧ evalSs Γ FU lwB1 [.val h.d, .val sd, .val (snD b), .no, .val (.lst (X.map rowD)), x5, x6, x7] =
      .nxt [.val h.d, .val sd, .val (snD b), .no, .val (.lst ((X.flatMap fun row => (optsOf h b.1).map fun o => row ++ [o]).map rowD)), y5, y6, y7] := by
  have hl := flat_len (fun row : List (Option Int) => (optsOf h b.1).map fun o => row ++ [o]) (fun x => by rw [List.length_map]; exact opts_len k b.1) X
  have fm := flat_map2 (fun row : List (Option Int) => (optsOf h b.1).map fun o => row ++ [o]) rowD X
  simp only [List.map_map, Function.comp_def] at fm
  have n5' : ∀ d, ¬ x5 = .io d := n5.ni
  obtain ⟨ρ', e, y6, y7, p6, p7, h1⟩ := forL_flat (f := evalSs Γ FU lwB2) (t := .nm 6) rowD (fun row => (optsOf h b.1).map fun o => rowD (row ++ [o])) 90000
    (fun acc ρ => ∃ y6 y7, PN y6 ∧ PN y7 ∧ ρ = [.val h.d, .val sd, .val (snD b), .no, .val (.lst (X.map rowD)), .val (.lst acc), y6, y7]) X [] [.val h.d, .val sd, .val (snD b), .no, .val (.lst (X.map rowD)), .val (.lst []), x6, x7]
    ⟨x6, x7, n6, n7, rfl⟩ (by
      rw [← fm, List.length_map, List.length_nil]
      omega) (by
    rintro row mr acc ρ ⟨x6, x7, n6, n7, rfl⟩ hl
    obtain ⟨y7, p7, et⟩ := lrows_in (Γ := Γ) k (b := b) (row := row) (hw row mr) (sd := sd) (fd := .lst (X.map rowD)) (acc := acc) (by omega) n7
    exact ⟨_, _, bindT_ok (i := 6) (by simp) (by simpa [NI] using n6.ni), et, .val (rowD row), y7, .inr ⟨_, rfl⟩, p7, rfl⟩)
  subst h1
  rw [List.nil_append, ← fm] at e
  refine ⟨.val (.lst ((X.flatMap fun row => (optsOf h b.1).map fun o => row ++ [o]).map rowD)), y6, y7, .inr ⟨_, rfl⟩, p6, p7, ?_⟩
  generalize ((X.flatMap fun row => (optsOf h b.1).map fun o => row ++ [o]).map rowD) = res at *
  generalize X.map rowD = xd at *
  generalize snD b = bd at *
  generalize h.d = hd at *
  simp [lwB1, LIM, Function.comp_def, conD, runD, evalSs, evalS, evalE, evalL, evalA, evalAnd, evalOr, evalI, evalJ, evalH, seqR, seqD, isSeqE, partR, partD, entry, iosAt, parS, gather, iosOf, callR, putIos, binD, cmpD, ixD, atI, ixN, slD, isiD, D.ty, boolsOf, wipeE, plainAt, backE, lend, Env.hide, SV.hide, SV.isOwn, SV.dat, SV.put, ownAt, shutE, ixD', compF, ofO, R.bind, R.bindB, R.toS, R.toSB, RS.bind, bq_len, bq_abs, bq_min, bq_max, bq_int, bq_all, bq_sorted, bq_list, bq_tuple, bLen, bAbs, bMin, bMax, bInt, bAll, bSorted, bList, bTuple, setS_ok, bindT_ok, bindT_tp, bindTs, e, n5']
end
theorem lrows_s (Γ : Ctr) : SRows (conD Γ FU 2 8 b_law_rows) := by
  intro h k T hT
  obtain ⟨ρ', e, y2, y5, y6, y7, h1, _⟩ := forL_inv (f := evalSs Γ FU lwB1) (t := .nm 2) (fun i ρ => ∃ y2 y5 y6 y7, ρ = [.val h.d, .val (seenD T), y2, .no, .val (.lst ((rowsOf.rowsR h (T.take i).reverse).map rowD)), y5, y6, y7] ∧ PN y2 ∧ PN y5 ∧ PN y6 ∧ PN y7) (ds := T.map snD) (ρ := [.val h.d, .val (seenD T), .no, .no, .val (.lst [.tup []]), .no, .no, .no]) 0
    ⟨.no, .no, .no, .no, rfl, .inl rfl, .inl rfl, .inl rfl, .inl rfl⟩ (by
    rintro i d hd ρ ⟨x2, x5, x6, x7, rfl, n2, n5, n6, n7⟩
    rw [List.getElem?_map, Option.map_eq_some_iff] at hd
    obtain ⟨b, hb', rfl⟩ := hd
    rw [Nat.zero_add]
    have hi : i < T.length := (List.getElem?_eq_some_iff.mp hb').1
    have et1 : (T.take (i + 1)).reverse = b :: (T.take i).reverse := by
      rw [List.take_succ, hb']
      simp
    have hl1 : (T.take i).reverse.length = i := by simp; omega
    have hX := rows_size k (T.take i).reverse
    rw [hl1] at hX
    have h5 : 5 ^ i ≤ 5 ^ 6 := Nat.pow_le_pow_right (by decide) (by omega)
    have hw : ∀ x ∈ rowsOf.rowsR h (T.take i).reverse, x.length ≤ 50 := fun x hx => by
      have := rows_len _ x hx
      omega
    obtain ⟨y5, y6, y7, p5, p6, p7, et⟩ := lrows_step (Γ := Γ) k (b := b) (X := rowsOf.rowsR h (T.take i).reverse) hw (by omega) (sd := seenD T) n5 n6 n7
    refine ⟨_, _, bindT_ok (i := 2) (by simp) (by simpa [NI] using n2.ni), et, .val (snD b), y5, y6, y7, ?_, .inr ⟨_, rfl⟩, p5, p6, p7⟩
    rw [et1]
    rfl)
  subst h1
  rw [Nat.zero_add, List.length_map, List.take_length] at e
  unfold seenD at *
  unfold rowsT
  generalize (rowsOf.rowsR h T.reverse).map rowD = res at *
  generalize T.map snD = td at *
  generalize h.d = hd at *
  refine conD_ret (ρ := [.val hd, .val (.tup td), y2, .no, .val (.lst res), y5, y6, y7]) rfl ?_ rfl
  simp [b_lrows_eq, LIM, Function.comp_def, conD, runD, evalSs, evalS, evalE, evalL, evalA, evalAnd, evalOr, evalI, evalJ, evalH, seqR, seqD, isSeqE, partR, partD, entry, iosAt, setS, parS, gather, iosOf, callR, putIos, binD, cmpD, ixD, atI, ixN, slD, isiD, D.ty, boolsOf, bindT, bindTs, wipeE, plainAt, backE, lend, Env.hide, SV.hide, SV.isOwn, SV.dat, SV.put, ownAt, shutE, ixD', compF, ofO, R.bind, R.bindB, R.toS, R.toSB, RS.bind, bq_len, bq_abs, bq_min, bq_max, bq_int, bq_all, bq_sorted, bq_list, bq_tuple, bLen, bAbs, bMin, bMax, bInt, bAll, bSorted, bList, bTuple, e]

/-! ### what is due -/
theorem eqv_sn (a b : Sn) : D.eqv (snD a) (snD b) = decide (a = b) := by
  obtain ⟨a1, a2, a3⟩ := a
  obtain ⟨b1, b2, b3⟩ := b
  simp only [snD, D.eqv, D.eqvL, Bool.and_true]
  rw [eqv_m2s, eqv_ints]
  by_cases h1 : a1 = b1 <;> by_cases h2 : a2 = b2 <;> by_cases h3 : a3 = b3 <;> simp [h1, h2, h3]
theorem eqv_sns : ∀ a b : List Sn, D.eqvL (a.map snD) (b.map snD) = decide (a = b)
  | [], [] => rfl
  | [], _ :: _ => by simp [D.eqvL]
  | _ :: _, [] => by simp [D.eqvL]
  | a :: as, b :: bs => by
    simp only [List.map_cons, D.eqvL]
    rw [eqv_sn, eqv_sns as bs]
    by_cases h1 : a = b <;> by_cases h2 : as = bs <;> simp [h1, h2]
theorem sn_flat (b : Sn) : (snD b).plain = true ∧ (snD b).dep ≤ 3 := by
  have p1 : D.plainL (b.2.1.map m2) = true := plainL_of fun d hd => by
    obtain ⟨x, _, rfl⟩ := List.mem_map.mp hd
    rfl
  have p2 : D.plainL (b.2.2.map D.int) = true := plainL_of fun d hd => by
    obtain ⟨x, _, rfl⟩ := List.mem_map.mp hd
    rfl
  have d1 : D.depL (b.2.1.map m2) ≤ 1 := depL_le fun d hd => by
    obtain ⟨x, _, rfl⟩ := List.mem_map.mp hd
    simp [m2, D.dep, D.depL]
  have d2 : D.depL (b.2.2.map D.int) ≤ 0 := depL_le fun d hd => by
    obtain ⟨x, _, rfl⟩ := List.mem_map.mp hd
    simp [D.dep]
  constructor
  · simp [snD, D.plain, D.plainL, p1, p2]
  · simp only [snD, D.dep, D.depL]
    omega
theorem good_seen (T : List Sn) : (seenD T).good = true := by
  refine good_of ?_ ?_
  · simp only [seenD, D.plain]
    exact plainL_of fun d hd => by
      obtain ⟨x, _, rfl⟩ := List.mem_map.mp hd
      exact (sn_flat x).1
  · simp only [seenD, D.dep]
    have : D.depL (T.map snD) ≤ 3 := depL_le fun d hd => by
      obtain ⟨x, _, rfl⟩ := List.mem_map.mp hd
      exact (sn_flat x).2
    omega
theorem eqv_seen (a b : List Sn) : D.eqv (seenD a) (seenD b) = decide (a = b) := by
  simp only [seenD, D.eqv]
  exact eqv_sns a b
theorem str_filt : ∀ row : List (Option Int), (row.filter fun o => o.isSome).map patD = (strOf row).map D.int
  | [] => rfl
  | none :: row => by
    have := str_filt row
    simpa [strOf] using this
  | some i :: row => by
    have := str_filt row
    simpa [strOf, patD] using this
def SDue (c : List AV → CRes) : Prop := ∀ h : Hl, h.Ok → ∀ T : List Sn, T.length ≤ 6 → c [.val h.d, .val (seenD T)] = .ok (.lst (sortS ((told h T).map (·.1))), true) []
def duB : List St := [.ife (.cmp .Eq (.call "_law_seen" [(.var 0), (.var 4)]) (.var 1)) [.app 3 (.blt "tuple" [(.comp [2] (.var 2) (.nm 2) (.var 4) (.cmp .IsNot (.var 2) (.cst .non)))])] []]
theorem b_ldue_eq : b_law_due = [.own 3 (.lst []), .for_ (.nm 4) (.call "_law_rows" [(.var 0), (.var 1)]) duB, .shut [3] (.ret (.blt "sorted" [(.var 3)]))] := rfl
theorem due_turn {Γ : Ctr} {c : List AV → CRes} (hb : Γ.fn "_law_seen" = some c) (s : SSeen c) {h : Hl} (k : h.Ok) {T : List Sn} {row : List (Option Int)} (hr : row.length ≤ 60) {acc : List D} (ha : acc.length < 100000) :
    evalSs Γ FU duB [.val h.d, .val (seenD T), .no, .own (.lst acc), .val (rowD row)] = .nxt [.val h.d, .val (seenD T), .no, .own (.lst (acc ++ if decide (seenOf h row = T) = true then [strD (strOf row)] else [])), .val (rowD row)] := by
  have q := s h k row hr
  have g1 := good_seen (seenOf h row)
  have g2 := good_seen T
  have ev := eqv_seen (seenOf h row) T
  have k1 := comp_filt (Γ := Γ) (vs := [2]) (elt := .var 2) (tg := .nm 2) (src := .var 4) (cond := .cmp .IsNot (.var 2) (.cst .non)) (ρ := [.val h.d, .val (seenD T), .no, .own (.lst acc), .val (.tup (row.map patD))]) row patD (fun o => o.isSome) patD (by simp [LIM, Function.comp_def, conD, runD, evalSs, evalS, evalE, evalL, evalA, evalAnd, evalOr, evalI, evalJ, evalH, seqR, seqD, isSeqE, partR, partD, entry, iosAt, setS, parS, gather, iosOf, callR, putIos, binD, cmpD, ixD, atI, ixN, slD, isiD, D.ty, boolsOf, bindT, bindTs, wipeE, plainAt, backE, lend, Env.hide, SV.hide, SV.isOwn, SV.dat, SV.put, ownAt, shutE, ixD', compF, ofO, R.bind, R.bindB, R.toS, R.toSB, RS.bind, bq_len, bq_abs, bq_min, bq_max, bq_int, bq_all, bq_sorted, bq_list, bq_tuple, bLen, bAbs, bMin, bMax, bInt, bAll, bSorted, bList, bTuple]) (by rfl) (fun o _ => by
    cases o <;> simp [LIM, Function.comp_def, conD, runD, evalSs, evalS, evalE, evalL, evalA, evalAnd, evalOr, evalI, evalJ, evalH, seqR, seqD, isSeqE, partR, partD, entry, iosAt, setS, parS, gather, iosOf, callR, putIos, binD, cmpD, ixD, atI, ixN, slD, isiD, D.ty, boolsOf, bindT, bindTs, wipeE, plainAt, backE, lend, Env.hide, SV.hide, SV.isOwn, SV.dat, SV.put, ownAt, shutE, ixD', compF, ofO, R.bind, R.bindB, R.toS, R.toSB, RS.bind, bq_len, bq_abs, bq_min, bq_max, bq_int, bq_all, bq_sorted, bq_list, bq_tuple, bLen, bAbs, bMin, bMax, bInt, bAll, bSorted, bList, bTuple, patD, D.isN]) (by unfold LIM; omega)
  rw [str_filt] at k1
  unfold rowD strD
  generalize seenD (seenOf h row) = sd at *
  generalize seenD T = td at *
  generalize decide (seenOf h row = T) = p at *
  generalize row.map patD = rd at *
  generalize (strOf row).map D.int = st at *
  generalize h.d = hd at *
  cases p <;> simp [duB, LIM, Function.comp_def, conD, runD, evalSs, evalS, evalE, evalL, evalA, evalAnd, evalOr, evalI, evalJ, evalH, seqR, seqD, isSeqE, partR, partD, entry, iosAt, setS, parS, gather, iosOf, callR, putIos, binD, cmpD, ixD, atI, ixN, slD, isiD, D.ty, boolsOf, bindT, bindTs, wipeE, plainAt, backE, lend, Env.hide, SV.hide, SV.isOwn, SV.dat, SV.put, ownAt, shutE, ixD', compF, ofO, R.bind, R.bindB, R.toS, R.toSB, RS.bind, bq_len, bq_abs, bq_min, bq_max, bq_int, bq_all, bq_sorted, bq_list, bq_tuple, bLen, bAbs, bMin, bMax, bInt, bAll, bSorted, bList, bTuple, hb, q, g1, g2, ev, ↓k1, ha]
theorem told_rows (h : Hl) (T : List Sn) : ((rowsT h T).filter fun row => decide (seenOf h row = T)).map strOf = (told h T).map (·.1) := by
  unfold told
  rw [told_eq, List.reverse_reverse, List.map_map]
  rfl
theorem told_srt {h : Hl} (k : h.Ok) {T : List Sn} (hT : T.length ≤ 6) : sortD (((told h T).map (·.1)).map strD) = some (sortS ((told h T).map (·.1))) := by
  have hz := told_size k T.reverse
  rw [List.length_reverse] at hz
  have h5 : 5 ^ T.length ≤ 5 ^ 6 := Nat.pow_le_pow_right (by decide) hT
  have hlen : (told h T).length ≤ 20000 := by unfold told; omega
  exact sort_strs (l := (told h T).map (·.1)) (m := camN T.reverse) (fun st hst => by
    obtain ⟨x, hx, rfl⟩ := List.mem_map.mp hst
    exact told_len _ x hx) (fun h0 => by rw [List.length_map]; exact told_one _ h0) (by rw [List.length_map]; unfold LIM; omega)
theorem due_s (Γ : Ctr) (c1 c2 : List AV → CRes) (h1 : Γ.fn "_law_rows" = some c1) (h2 : Γ.fn "_law_seen" = some c2) (s1 : SRows c1) (s2 : SSeen c2) : SDue (conD Γ FU 2 5 b_law_due) := by
  intro h k T hT
  have q1 := s1 h k T hT
  have hX : (rowsT h T).length ≤ 5 ^ T.reverse.length := rows_size k T.reverse
  rw [List.length_reverse] at hX
  have h5 : 5 ^ T.length ≤ 5 ^ 6 := Nat.pow_le_pow_right (by decide) hT
  have hfl : ((rowsT h T).flatMap fun row => if decide (seenOf h row = T) = true then [strD (strOf row)] else []) = ((told h T).map (·.1)).map strD := by
    rw [flat_filt (fun row => decide (seenOf h row = T)) (fun row => strD (strOf row)), ← told_rows, List.map_map]
    rfl
  have hlen : ((rowsT h T).flatMap fun row => if decide (seenOf h row = T) = true then [strD (strOf row)] else []).length ≤ 20000 := by
    rw [flat_filt (fun row => decide (seenOf h row = T)) (fun row => strD (strOf row)), List.length_map]
    have := List.length_filter_le (fun row => decide (seenOf h row = T)) (rowsT h T)
    omega
  obtain ⟨ρ', e, y4, p4, hh⟩ := forL_flat (f := evalSs Γ FU duB) (t := .nm 4) rowD (fun row => if decide (seenOf h row = T) = true then [strD (strOf row)] else []) 90000
    (fun acc ρ => ∃ y4, PN y4 ∧ ρ = [.val h.d, .val (seenD T), .no, .own (.lst acc), y4]) (rowsT h T) [] [.val h.d, .val (seenD T), .no, .own (.lst []), .no]
    ⟨.no, .inl rfl, rfl⟩ (by rw [List.length_nil]; omega) (by
    rintro row mr acc ρ ⟨x4, n4, rfl⟩ hl
    have hr : row.length ≤ 60 := by
      have := rows_len _ row mr
      rw [List.length_reverse] at this
      omega
    exact ⟨_, _, bindT_ok (i := 4) (by simp) (by simpa [NI] using n4.ni), due_turn h2 s2 k hr (by omega), .val (rowD row), .inr ⟨_, rfl⟩, rfl⟩)
  subst hh
  rw [List.nil_append, hfl] at e
  have ss := told_srt k hT
  generalize ((told h T).map (·.1)).map strD = sl at *
  generalize sortS ((told h T).map (·.1)) = res at *
  generalize (rowsT h T).map rowD = rs at *
  generalize seenD T = td at *
  generalize h.d = hd at *
  refine conD_ret (ρ := [.val hd, .val td, .no, .val (.lst sl), y4]) rfl ?_ rfl
  simp [b_ldue_eq, LIM, Function.comp_def, conD, runD, evalSs, evalS, evalE, evalL, evalA, evalAnd, evalOr, evalI, evalJ, evalH, seqR, seqD, isSeqE, partR, partD, entry, iosAt, setS, parS, gather, iosOf, callR, putIos, binD, cmpD, ixD, atI, ixN, slD, isiD, D.ty, boolsOf, bindT, bindTs, wipeE, plainAt, backE, lend, Env.hide, SV.hide, SV.isOwn, SV.dat, SV.put, ownAt, shutE, ixD', compF, ofO, R.bind, R.bindB, R.toS, R.toSB, RS.bind, bq_len, bq_abs, bq_min, bq_max, bq_int, bq_all, bq_sorted, bq_list, bq_tuple, bLen, bAbs, bMin, bMax, bInt, bAll, bSorted, bList, bTuple, h1, q1, e, ss]
end W2

/-! What surely is so. -/
namespace W2
open PySem L2

def sortL (l : List (List Int)) : List (List Int) := l.mergeSort fun a b => PySem.W.dataLe false D.py (strD a) (strD b)
theorem sortS_eq (l : List (List Int)) : sortS l = (sortL l).map strD := by
  unfold sortS sortL
  exact (show (l.mergeSort fun a b => PySem.W.dataLe false D.py (strD a) (strD b)).map strD = (l.map strD).mergeSort (PySem.W.dataLe false D.py) from List.map_mergeSort fun a _ b _ => (rfl : PySem.W.dataLe false D.py (strD a) (strD b) = PySem.W.dataLe false D.py (strD a) (strD b))).symm
theorem sortL_mem {l : List (List Int)} {x : List Int} : x ∈ sortL l ↔ x ∈ l := (List.mergeSort_perm l _).mem_iff
theorem sortL_len (l : List (List Int)) : (sortL l).length = l.length := (List.mergeSort_perm l _).length_eq
def sureAt (X : List (List Int)) (x : List Int) (i : Nat) : Option Int := if X.all (fun y => y.getD i 0 == x.getD i 0) = true then some (x.getD i 0) else none
def sureD (X : List (List Int)) : D :=
  match X with
  | [] => .non
  | x :: t => .tup ((List.range x.length).map fun i => patD (sureAt (x :: t) x i))

/-! ### the different ones, ascending -/
theorem asc_len {hi : Int} : ∀ {l : List Int} {lo : Int}, (l.Pairwise fun a b => a < b) → (∀ x ∈ l, lo ≤ x ∧ x ≤ hi) → l.length ≤ (hi - lo + 1).toNat
  | [], _, _, _ => by simp
  | a :: l, lo, p, h => by
    have p' := List.pairwise_cons.mp p
    have ha := h a List.mem_cons_self
    have := asc_len (l := l) (lo := a + 1) (hi := hi) p'.2 fun x hx => ⟨by have := p'.1 x hx; omega, (h x (List.mem_cons_of_mem _ hx)).2⟩
    rw [List.length_cons]
    omega
theorem ssI_all {s : Int} : ∀ {l : List Int}, l ≠ [] → (∀ x ∈ l, x = s) → ssI l = [s]
  | [], h, _ => absurd rfl h
  | [i], _, h => by rw [h i List.mem_cons_self]; rfl
  | i :: j :: l, _, h => by
    have e : ssI (i :: j :: l) = insI i (ssI (j :: l)) := rfl
    rw [e, ssI_all (l := j :: l) (by simp) fun x hx => h x (List.mem_cons_of_mem _ hx), h i List.mem_cons_self]
    simp [insI]
/-- one alone, just where all are alike -/
theorem ssI_sure (X : List (List Int)) (x : List Int) (t : List (List Int)) (i : Nat) (e : X = x :: t) : (match ssI (X.map fun y => y.getD i 0) with
    | [s] => some s
    | _ => none) = sureAt X x i := by
  unfold sureAt
  by_cases h : X.all (fun y => y.getD i 0 == x.getD i 0) = true
  · rw [if_pos h]
    have := ssI_all (s := x.getD i 0) (l := X.map fun y => y.getD i 0) (by rw [e]; simp) (fun z hz => by
      obtain ⟨y, hy, rfl⟩ := List.mem_map.mp hz
      have := List.all_eq_true.mp h y hy
      exact eq_of_beq this)
    rw [this]
  · rw [if_neg h]
    split
    · rename_i s hs
      refine absurd ?_ h
      rw [List.all_eq_true]
      intro y hy
      have m1 : y.getD i 0 ∈ ssI (X.map fun y => y.getD i 0) := ssI_mem.mpr (List.mem_map.mpr ⟨y, hy, rfl⟩)
      have m2 : x.getD i 0 ∈ ssI (X.map fun y => y.getD i 0) := ssI_mem.mpr (List.mem_map.mpr ⟨x, by rw [e]; exact List.mem_cons_self, rfl⟩)
      rw [hs, List.mem_singleton] at m1 m2
      rw [m1, m2]
      exact beq_self_eq_true s
    · rfl
theorem ints_of_map : ∀ l : List Int, intsOf (l.map D.int) = some l
  | [] => rfl
  | i :: l => by simp [intsOf, ints_of_map l]
theorem bools_map {α : Type} (f : α → Bool) : ∀ l : List α, boolsOf (l.map fun x => D.bl (f x)) = some (l.map f)
  | [] => rfl
  | a :: l => by simp [boolsOf, bools_map f l]
theorem all_map {α : Type} (f : α → Bool) : ∀ l : List α, (l.map f).all id = l.all f
  | [] => rfl
  | a :: l => by rw [List.map_cons, List.all_cons, List.all_cons, all_map f l]; rfl
theorem str_flat (st : List Int) : (strD st).plain = true ∧ (strD st).dep ≤ 1 := by
  have p2 : D.plainL (st.map D.int) = true := plainL_of fun d hd => by
    obtain ⟨x, _, rfl⟩ := List.mem_map.mp hd
    rfl
  have d2 : D.depL (st.map D.int) ≤ 0 := depL_le fun d hd => by
    obtain ⟨x, _, rfl⟩ := List.mem_map.mp hd
    simp [D.dep]
  constructor
  · simp [strD, D.plain, p2]
  · simp only [strD, D.dep]
    omega
theorem good_strs (X : List (List Int)) : (D.lst (X.map strD)).good = true := good_map (n := 1) (by decide) str_flat X
theorem ix_str {y : List Int} {i : Nat} (h : i < y.length) : ixD (strD y) (.int i) = some (.int (y.getD i 0)) := by
  have e : (y.map D.int)[i]? = some (.int (y.getD i 0)) := by
    rw [List.getElem?_map, List.getElem?_eq_getElem h, List.getD_eq_getElem?_getD, List.getElem?_eq_getElem h]
    rfl
  have h1 : ¬ ((i : Int) < 0) := by omega
  simp [strD, ixD, atI, ixN, e, h]

/-! ### the program -/
theorem strOk_of {h : Hl} (k : h.Ok) : h.d.plain = true := by
  obtain ⟨top, ws, f, o, pat⟩ := h
  have h1 : PyData.strOk f = true := by
    rcases k.f with z | z
    · rw [show f = "narrow" from z]; exact ok_narrow
    · rw [show f = "wide" from z]; exact ok_wide
  have h2 : PyData.strOk o = true := by
    rcases k.o with z | z | z
    · rw [show o = "first" from z]; exact ok_first
    · rw [show o = "last" from z]; exact ok_last
    · rw [show o = "near" from z]; exact ok_near
  have h3 : D.plainL (ws.map D.int) = true := plainL_of fun d hd => by
    obtain ⟨i, _, rfl⟩ := List.mem_map.mp hd
    rfl
  have h4 : (patD pat).plain = true := by cases pat <;> rfl
  simp [Hl.d, D.plain, D.plainL, h1, h2, h3, h4]
def suB : List St := [.set 3 (.bin .Add (.var 3) (.tup [(.ite (.blt "all" [(.comp [4] (.cmp .Eq (.ix (.var 4) (.var 2)) (.var 6)) (.nm 4) (.var 5) (.cst (.bl true)))]) (.var 6) (.cst .non))]))]
theorem b_surely_eq : b_surely_told = [.expr (.call "need_hall" [(.var 0)]),
    .expr (.call "need_seen" [(.var 1)]),
    .set 5 (.call "told_of" [(.var 0), (.var 1)]),
    .ife (.cmp .Eq (.var 5) (.lst [])) [.ret (.cst .non)] [],
    .set 3 (.tup []),
    .for_ (.tp [(.nm 2), (.nm 6)]) (.enu (.ix (.var 5) (.cst (.int 0)))) suB,
    .ret (.var 3)] := rfl
theorem su_turn {Γ : Ctr} {X : List (List Int)} {x : List Int} {i : Nat} (hi : i < x.length) (hX : ∀ y ∈ X, y.length = x.length) (hl : X.length ≤ 20000) {hd' : SV} {sd : D} {fs : List D} (hf : fs.length ≤ 1000) :
    evalSs Γ FU suB [hd', .val sd, .val (.int i), .val (.tup fs), .no, .val (.lst (X.map strD)), .val (.int (x.getD i 0))] = .nxt [hd', .val sd, .val (.int i), .val (.tup (fs ++ [patD (sureAt X x i)])), .no, .val (.lst (X.map strD)), .val (.int (x.getD i 0))] := by
  have k1 := comp_map (Γ := Γ) (vs := [4]) (elt := .cmp .Eq (.ix (.var 4) (.var 2)) (.var 6)) (tg := .nm 4) (src := .var 5) (cond := .cst (.bl true)) (ρ := [hd', .val sd, .val (.int i), .val (.tup fs), .no, .val (.lst (X.map strD)), .val (.int (x.getD i 0))]) X strD (fun y => .bl (y.getD i 0 == x.getD i 0)) (by simp [LIM, Function.comp_def, conD, runD, evalSs, evalS, evalE, evalL, evalA, evalAnd, evalOr, evalI, evalJ, evalH, seqR, seqD, isSeqE, partR, partD, entry, iosAt, setS, parS, gather, iosOf, callR, putIos, binD, cmpD, ixD, atI, ixN, slD, isiD, D.ty, boolsOf, bindT, bindTs, wipeE, plainAt, backE, lend, Env.hide, SV.hide, SV.isOwn, SV.dat, SV.put, ownAt, shutE, ixD', compF, ofO, R.bind, R.bindB, R.toS, R.toSB, RS.bind, bq_len, bq_abs, bq_min, bq_max, bq_int, bq_all, bq_sorted, bq_list, bq_tuple, bLen, bAbs, bMin, bMax, bInt, bAll, bSorted, bList, bTuple]) (by rfl) (fun y hy => by
    have := ix_str (y := y) (i := i) (by rw [hX y hy]; exact hi)
    generalize y.getD i 0 = a at *
    generalize x.getD i 0 = b at *
    generalize strD y = sy at *
    simp only [compF, bindT, wipeE, evalE, R.bind, R.bindB, List.getElem?_cons_zero, List.getElem?_cons_succ, List.set_cons_zero, List.set_cons_succ, this, Option.map_some, ofO, cmpD, good_int, Bool.and_self, if_true, D.eqv]
    rfl) (by unfold LIM; omega)
  have hb := bools_map (fun y : List Int => y.getD i 0 == x.getD i 0) X
  have ha := all_map (fun y : List Int => y.getD i 0 == x.getD i 0) X
  have hf' : fs.length + 1 ≤ 100000 := by omega
  unfold sureAt
  generalize (X.map fun y : List Int => D.bl (y.getD i 0 == x.getD i 0)) = bd at *
  generalize (X.map fun y : List Int => (y.getD i 0 == x.getD i 0)) = bs at *
  generalize (X.all fun y : List Int => (y.getD i 0 == x.getD i 0)) = q at *
  generalize X.map strD = xd at *
  generalize x.getD i 0 = s at *
  cases q <;> simp [suB, LIM, Function.comp_def, conD, runD, evalSs, evalS, evalE, evalL, evalA, evalAnd, evalOr, evalI, evalJ, evalH, seqR, seqD, isSeqE, partR, partD, entry, iosAt, setS, parS, gather, iosOf, callR, putIos, binD, cmpD, ixD, atI, ixN, slD, isiD, D.ty, boolsOf, bindT, bindTs, wipeE, plainAt, backE, lend, Env.hide, SV.hide, SV.isOwn, SV.dat, SV.put, ownAt, shutE, ixD', compF, ofO, R.bind, R.bindB, R.toS, R.toSB, RS.bind, bq_len, bq_abs, bq_min, bq_max, bq_int, bq_all, bq_sorted, bq_list, bq_tuple, bLen, bAbs, bMin, bMax, bInt, bAll, bSorted, bList, bTuple, ↓k1, hb, ha, hf', patD]
theorem enum_ints (x : List Int) {i : Nat} {d : D} (hd : (enumD 0 (x.map D.int))[i]? = some d) : i < x.length ∧ d = .tup [.int i, .int (x.getD i 0)] := by
  obtain ⟨y, hy, rfl⟩ := enumD_get hd
  rw [List.getElem?_map, Option.map_eq_some_iff] at hy
  obtain ⟨a, ha, rfl⟩ := hy
  refine ⟨(List.getElem?_eq_some_iff.mp ha).1, ?_⟩
  rw [Nat.zero_add, List.getD_eq_getElem?_getD, ha]
  rfl
theorem su_loop {Γ : Ctr} {X : List (List Int)} {x : List Int} (hx : x.length ≤ 900) (hX : ∀ y ∈ X, y.length = x.length) (hl : X.length ≤ 20000) {hd' : SV} {sd : D} :
    ∃ y2 y6, forL (evalSs Γ FU suB) (.tp [(.nm 2), (.nm 6)]) (enumD 0 (x.map D.int)) [hd', .val sd, .no, .val (.tup []), .no, .val (.lst (X.map strD)), .no] = .nxt [hd', .val sd, y2, .val (.tup ((List.range x.length).map fun i => patD (sureAt X x i))), .no, .val (.lst (X.map strD)), y6] := by
  obtain ⟨ρ', e, y2, y6, h1, _⟩ := forL_inv (f := evalSs Γ FU suB) (t := .tp [(.nm 2), (.nm 6)]) (fun i ρ => ∃ y2 y6, ρ = [hd', .val sd, y2, .val (.tup ((List.range i).map fun i => patD (sureAt X x i))), .no, .val (.lst (X.map strD)), y6] ∧ PN y2 ∧ PN y6) (ds := enumD 0 (x.map D.int)) (ρ := [hd', .val sd, .no, .val (.tup []), .no, .val (.lst (X.map strD)), .no]) 0
    ⟨.no, .no, rfl, .inl rfl, .inl rfl⟩ (by
    rintro i d hd ρ ⟨x2, x6, rfl, n2, n6⟩
    obtain ⟨hi, rfl⟩ := enum_ints x hd
    rw [Nat.zero_add]
    have et := su_turn (Γ := Γ) (X := X) (x := x) hi hX hl (hd' := hd') (sd := sd) (fs := (List.range i).map fun i => patD (sureAt X x i)) (by simp; omega)
    refine ⟨_, _, ?_, et, .val (.int i), .val (.int (x.getD i 0)), ?_, .inr ⟨_, rfl⟩, .inr ⟨_, rfl⟩⟩
    · have n2' : ∀ d, ¬ x2 = .io d := n2.ni
      have n6' : ∀ d, ¬ x6 = .io d := n6.ni
      simp [bindT_ok, bindT_tp, bindTs, n2', n6']
    · rw [List.range_succ, List.map_append, List.map_singleton])
  subst h1
  rw [Nat.zero_add, enumD_len, List.length_map] at e
  exact ⟨y2, y6, e⟩
def SSurely (c : List AV → CRes) : Prop := ∀ h : Hl, h.Ok → isHall h.d = true → ∀ T : List Sn, T.length ≤ 6 → (∀ b ∈ T, SnOk b) → c [.val h.d, .val (seenD T)] = .ok (sureD (sortL ((told h T).map (·.1))), false) []
theorem told_lens {h : Hl} {T : List Sn} : ∀ y ∈ sortL ((told h T).map (·.1)), y.length = camN T.reverse := by
  intro y hy
  obtain ⟨x, hx, rfl⟩ := List.mem_map.mp (sortL_mem.mp hy)
  exact told_len _ x hx
theorem surely_s (Γ : Ctr) (c1 c2 c3 : List AV → CRes) (h1 : Γ.fn "need_hall" = some c1) (h2 : Γ.fn "need_seen" = some c2) (h3 : Γ.fn "told_of" = some c3) (s1 : SNeed c1) (s2 : SNeedSeen c2) (s3 : STold c3) : SSurely (conD Γ FU 2 7 b_surely_told) := by
  intro h k hh T hT hk
  have q1 := s1 h.d (strOk_of k)
  rw [hh] at q1
  have q2 := s2 T hT hk
  have q3 := s3 h k T hT
  rw [sortS_eq] at q3
  have hz := told_size k T.reverse
  rw [List.length_reverse] at hz
  have h5 : 5 ^ T.length ≤ 5 ^ 6 := Nat.pow_le_pow_right (by decide) hT
  have hlen : (sortL ((told h T).map (·.1))).length ≤ 20000 := by
    rw [sortL_len, List.length_map]
    unfold told
    omega
  have hlens := told_lens (h := h) (T := T)
  have hc := camN_le T.reverse
  rw [List.length_reverse] at hc
  generalize sortL ((told h T).map (·.1)) = X at *
  cases X with
  | nil =>
    simp only [List.map_nil] at q3
    simp [b_surely_eq, LIM, Function.comp_def, conD, runD, evalSs, evalS, evalE, evalL, evalA, evalAnd, evalOr, evalI, evalJ, evalH, seqR, seqD, isSeqE, partR, partD, entry, iosAt, setS, parS, gather, iosOf, callR, putIos, binD, cmpD, ixD, atI, ixN, slD, isiD, D.ty, boolsOf, bindT, bindTs, wipeE, plainAt, backE, lend, Env.hide, SV.hide, SV.isOwn, SV.dat, SV.put, ownAt, shutE, ixD', compF, ofO, R.bind, R.bindB, R.toS, R.toSB, RS.bind, bq_len, bq_abs, bq_min, bq_max, bq_int, bq_all, bq_sorted, bq_list, bq_tuple, bLen, bAbs, bMin, bMax, bInt, bAll, bSorted, bList, bTuple, h1, h2, h3, q1, q2, q3, sureD, good_nil, D.eqv, D.eqvL]
  | cons x t =>
    have hx := hlens x List.mem_cons_self
    obtain ⟨y2, y6, e⟩ := su_loop (Γ := Γ) (X := x :: t) (x := x) (by omega) (fun y hy => by rw [hlens y hy, hx]) hlen (hd' := .val h.d) (sd := seenD T)
    have g1 := good_strs (x :: t)
    have en := eqv_nil ((x :: t).map strD)
    unfold sureD
    simp only
    generalize ((List.range x.length).map fun i => patD (sureAt (x :: t) x i)) = res at *
    have e0 : ∀ hz, ((x :: t).map strD)[0]'hz = .tup (x.map D.int) := fun _ => rfl
    have e1 : ((x :: t).map strD).isEmpty = false := rfl
    have e2 : 0 < ((x :: t).map strD).length := by simp
    rw [e1] at en
    generalize (x :: t).map strD = xd at *
    generalize x.map D.int = xi at *
    generalize seenD T = td at *
    generalize h.d = hd at *
    refine conD_ret (ρ := [.val hd, .val td, y2, .val (.tup res), .no, .val (.lst xd), y6]) rfl ?_ rfl
    simp [b_surely_eq, LIM, Function.comp_def, conD, runD, evalSs, evalS, evalE, evalL, evalA, evalAnd, evalOr, evalI, evalJ, evalH, seqR, seqD, isSeqE, partR, partD, entry, iosAt, setS, parS, gather, iosOf, callR, putIos, binD, cmpD, ixD, atI, ixN, slD, isiD, D.ty, boolsOf, bindT, bindTs, wipeE, plainAt, backE, lend, Env.hide, SV.hide, SV.isOwn, SV.dat, SV.put, ownAt, shutE, ixD', compF, ofO, R.bind, R.bindB, R.toS, R.toSB, RS.bind, bq_len, bq_abs, bq_min, bq_max, bq_int, bq_all, bq_sorted, bq_list, bq_tuple, bLen, bAbs, bMin, bMax, bInt, bAll, bSorted, bList, bTuple, h1, h2, h3, q1, q2, q3, g1, good_nil, D.eqv, en, e0, e2, e]

/-! ### the law -/
def lsuB : List St := [.set 4 (.sset (.comp [3] (.ix (.var 3) (.var 1)) (.nm 3) (.var 0) (.cst (.bl true)))),
    .set 2 (.bin .Add (.var 2) (.tup [(.ite (.cmp .Eq (.blt "len" [(.var 4)]) (.cst (.int 1))) (.ix (.var 4) (.cst (.int 0))) (.cst .non))]))]
theorem b_lsure_eq : b_law_sure = [.ife (.cmp .Eq (.var 0) (.lst [])) [.ret (.cst .non)] [], .set 2 (.tup []), .for_ (.nm 1) (.rng1 (.blt "len" [(.ix (.var 0) (.cst (.int 0)))])) lsuB, .ret (.var 2)] := rfl
theorem lsu_turn {Γ : Ctr} {X t : List (List Int)} {x : List Int} (ex : X = x :: t) {i : Nat} (hi : i < x.length) (hX : ∀ y ∈ X, y.length = x.length) (hv : ∀ y ∈ X, ∀ z ∈ y, 0 ≤ z ∧ z ≤ 4) (hl : X.length ≤ 3000) {fs : List D} (hf : fs.length ≤ 1000) {x4 : SV} (n4 : PN x4) :
    ∃ y4, PN y4 ∧ evalSs Γ FU lsuB [.val (.lst (X.map strD)), .val (.int i), .val (.tup fs), .no, x4] = .nxt [.val (.lst (X.map strD)), .val (.int i), .val (.tup (fs ++ [patD (sureAt X x i)])), .no, y4] := by
  have k1 := comp_map (Γ := Γ) (vs := [3]) (elt := .ix (.var 3) (.var 1)) (tg := .nm 3) (src := .var 0) (cond := .cst (.bl true)) (ρ := [.val (.lst (X.map strD)), .val (.int i), .val (.tup fs), .no, x4]) X strD (fun y => .int (y.getD i 0)) (by simp [LIM, Function.comp_def, conD, runD, evalSs, evalS, evalE, evalL, evalA, evalAnd, evalOr, evalI, evalJ, evalH, seqR, seqD, isSeqE, partR, partD, entry, iosAt, setS, parS, gather, iosOf, callR, putIos, binD, cmpD, ixD, atI, ixN, slD, isiD, D.ty, boolsOf, bindT, bindTs, wipeE, plainAt, backE, lend, Env.hide, SV.hide, SV.isOwn, SV.dat, SV.put, ownAt, shutE, ixD', compF, ofO, R.bind, R.bindB, R.toS, R.toSB, RS.bind, bq_len, bq_abs, bq_min, bq_max, bq_int, bq_all, bq_sorted, bq_list, bq_tuple, bLen, bAbs, bMin, bMax, bInt, bAll, bSorted, bList, bTuple]) (by rfl) (fun y hy => by
    have := ix_str (y := y) (i := i) (by rw [hX y hy]; exact hi)
    generalize y.getD i 0 = a at *
    generalize strD y = sy at *
    simp only [compF, bindT, wipeE, evalE, R.bind, R.bindB, List.getElem?_cons_zero, List.getElem?_cons_succ, List.set_cons_zero, List.set_cons_succ, this, Option.map_some, ofO]
    rfl) (by unfold LIM; omega)
  have hb := ints_of_map (X.map fun y : List Int => y.getD i 0)
  rw [List.map_map] at hb
  rw [show (D.int ∘ fun y : List Int => y.getD i 0) = fun y : List Int => D.int (y.getD i 0) from rfl] at hb
  have hs := ssI_sure X x t i ex
  have hn : (ssI (X.map fun y : List Int => y.getD i 0)).length < 64 := by
    have := asc_len (hi := 4) (lo := 0) (ssI_pw (X.map fun y : List Int => y.getD i 0)) (fun z hz => by
      obtain ⟨y, hy, rfl⟩ := List.mem_map.mp (ssI_mem.mp hz)
      refine hv y hy _ ?_
      have hiy : i < y.length := by rw [hX y hy]; exact hi
      rw [List.getD_eq_getElem?_getD, List.getElem?_eq_getElem hiy]
      exact List.getElem_mem hiy)
    have e : ((4 : Int) - 0 + 1).toNat = 5 := rfl
    rw [e] at this
    omega
  have hl' : (X.map fun y : List Int => y.getD i 0).length ≤ 3000 := by rw [List.length_map]; exact hl
  have hf' : fs.length + 1 ≤ 100000 := by omega
  have n4' : ∀ d, ¬ x4 = .io d := n4.ni
  generalize (X.map fun y : List Int => D.int (y.getD i 0)) = bd at *
  generalize (X.map fun y : List Int => (y.getD i 0)) = ns at *
  generalize sureAt X x i = so at *
  generalize X.map strD = xd at *
  refine ⟨.val (.lst ((ssI ns).map D.int)), .inr ⟨_, rfl⟩, ?_⟩
  have hss : ssetD (.lst bd) = some (ssI ns) := by
    simp only [ssetD, hb, Option.bind_some]
    rw [if_pos ⟨hl', hn⟩]
  subst hs
  generalize ssI ns = ss at *
  match ss with
  | [] => simp [lsuB, LIM, Function.comp_def, conD, runD, evalSs, evalS, evalE, evalL, evalA, evalAnd, evalOr, evalI, evalJ, evalH, seqR, seqD, isSeqE, partR, partD, entry, iosAt, parS, gather, iosOf, callR, putIos, binD, cmpD, ixD, atI, ixN, slD, isiD, D.ty, boolsOf, wipeE, plainAt, backE, lend, Env.hide, SV.hide, SV.isOwn, SV.dat, SV.put, ownAt, shutE, ixD', compF, ofO, R.bind, R.bindB, R.toS, R.toSB, RS.bind, bq_len, bq_abs, bq_min, bq_max, bq_int, bq_all, bq_sorted, bq_list, bq_tuple, bLen, bAbs, bMin, bMax, bInt, bAll, bSorted, bList, bTuple, setS_ok, bindT_ok, bindT_tp, bindTs, ↓k1, hss, hf', n4', good_int, D.eqv, patD]
  | [s] => simp [lsuB, LIM, Function.comp_def, conD, runD, evalSs, evalS, evalE, evalL, evalA, evalAnd, evalOr, evalI, evalJ, evalH, seqR, seqD, isSeqE, partR, partD, entry, iosAt, parS, gather, iosOf, callR, putIos, binD, cmpD, ixD, atI, ixN, slD, isiD, D.ty, boolsOf, wipeE, plainAt, backE, lend, Env.hide, SV.hide, SV.isOwn, SV.dat, SV.put, ownAt, shutE, ixD', compF, ofO, R.bind, R.bindB, R.toS, R.toSB, RS.bind, bq_len, bq_abs, bq_min, bq_max, bq_int, bq_all, bq_sorted, bq_list, bq_tuple, bLen, bAbs, bMin, bMax, bInt, bAll, bSorted, bList, bTuple, setS_ok, bindT_ok, bindT_tp, bindTs, ↓k1, hss, hf', n4', good_int, D.eqv, patD]
  | a :: b :: r =>
    have z : ((r.length : Int) + 1 + 1 == 1) = false := by rw [beq_eq_false_iff_ne]; omega
    simp [lsuB, LIM, Function.comp_def, conD, runD, evalSs, evalS, evalE, evalL, evalA, evalAnd, evalOr, evalI, evalJ, evalH, seqR, seqD, isSeqE, partR, partD, entry, iosAt, parS, gather, iosOf, callR, putIos, binD, cmpD, ixD, atI, ixN, slD, isiD, D.ty, boolsOf, wipeE, plainAt, backE, lend, Env.hide, SV.hide, SV.isOwn, SV.dat, SV.put, ownAt, shutE, ixD', compF, ofO, R.bind, R.bindB, R.toS, R.toSB, RS.bind, bq_len, bq_abs, bq_min, bq_max, bq_int, bq_all, bq_sorted, bq_list, bq_tuple, bLen, bAbs, bMin, bMax, bInt, bAll, bSorted, bList, bTuple, setS_ok, bindT_ok, bindT_tp, bindTs, ↓k1, hss, hf', n4', good_int, D.eqv, patD, z]
def SSure (c : List AV → CRes) : Prop := ∀ (X : List (List Int)) (m : Nat), m ≤ 900 → (∀ y ∈ X, y.length = m) → (∀ y ∈ X, ∀ z ∈ y, 0 ≤ z ∧ z ≤ 4) → X.length ≤ 3000 → c [.val (.lst (X.map strD))] = .ok (sureD X, false) []
theorem lsure_s (Γ : Ctr) : SSure (conD Γ FU 1 5 b_law_sure) := by
  intro X m hm hlens hv hl
  cases X with
  | nil => simp [b_lsure_eq, LIM, Function.comp_def, conD, runD, evalSs, evalS, evalE, evalL, evalA, evalAnd, evalOr, evalI, evalJ, evalH, seqR, seqD, isSeqE, partR, partD, entry, iosAt, setS, parS, gather, iosOf, callR, putIos, binD, cmpD, ixD, atI, ixN, slD, isiD, D.ty, boolsOf, bindT, bindTs, wipeE, plainAt, backE, lend, Env.hide, SV.hide, SV.isOwn, SV.dat, SV.put, ownAt, shutE, ixD', compF, ofO, R.bind, R.bindB, R.toS, R.toSB, RS.bind, bq_len, bq_abs, bq_min, bq_max, bq_int, bq_all, bq_sorted, bq_list, bq_tuple, bLen, bAbs, bMin, bMax, bInt, bAll, bSorted, bList, bTuple, sureD, good_nil, D.eqv, D.eqvL]
  | cons x t =>
    have hx := hlens x List.mem_cons_self
    obtain ⟨ρ', e, y1, y4, h1, _⟩ := forL_inv (f := evalSs Γ FU lsuB) (t := .nm 1) (fun i ρ => ∃ y1 y4, ρ = [.val (.lst ((x :: t).map strD)), y1, .val (.tup ((List.range i).map fun i => patD (sureAt (x :: t) x i))), .no, y4] ∧ PN y1 ∧ PN y4) (ds := rangeD 0 x.length) (ρ := [.val (.lst ((x :: t).map strD)), .no, .val (.tup []), .no, .no]) 0
      ⟨.no, .no, rfl, .inl rfl, .inl rfl⟩ (by
      rintro i d hd ρ ⟨x1, x4, rfl, n1, n4⟩
      obtain ⟨hi, rfl⟩ := range_getL hd
      rw [Nat.zero_add, Int.zero_add]
      obtain ⟨y4, p4, et⟩ := lsu_turn (Γ := Γ) (X := x :: t) (x := x) rfl hi (fun y hy => by rw [hlens y hy, hx]) hv hl (fs := (List.range i).map fun i => patD (sureAt (x :: t) x i)) (by simp; omega) n4
      refine ⟨_, _, bindT_ok (i := 1) (by simp) (by simpa [NI] using n1.ni), et, .val (.int i), y4, ?_, .inr ⟨_, rfl⟩, p4⟩
      rw [List.range_succ, List.map_append, List.map_singleton])
    subst h1
    rw [Nat.zero_add, show (rangeD 0 x.length).length = x.length by simp [rangeD]] at e
    have g1 := good_strs (x :: t)
    have en := eqv_nil ((x :: t).map strD)
    unfold sureD
    simp only
    generalize ((List.range x.length).map fun i => patD (sureAt (x :: t) x i)) = res at *
    have e0 : ∀ hz, ((x :: t).map strD)[0]'hz = .tup (x.map D.int) := fun _ => rfl
    have e1 : ((x :: t).map strD).isEmpty = false := rfl
    have e2 : 0 < ((x :: t).map strD).length := by simp
    have e3 : -4611686018427387904 ≤ ((x.map D.int).length : Int) ∧ ((x.map D.int).length : Int) < 4611686018427387904 := by rw [List.length_map]; omega
    rw [show rangeD 0 x.length = rangeD 0 (x.map D.int).length by rw [List.length_map]] at e
    rw [e1] at en
    generalize (x :: t).map strD = xd at *
    generalize x.map D.int = xi at *
    refine conD_ret (ρ := [.val (.lst xd), y1, .val (.tup res), .no, y4]) rfl ?_ rfl
    simp [b_lsure_eq, LIM, Function.comp_def, conD, runD, evalSs, evalS, evalE, evalL, evalA, evalAnd, evalOr, evalI, evalJ, evalH, seqR, seqD, isSeqE, partR, partD, entry, iosAt, setS, parS, gather, iosOf, callR, putIos, binD, cmpD, ixD, atI, ixN, slD, isiD, D.ty, boolsOf, bindT, bindTs, wipeE, plainAt, backE, lend, Env.hide, SV.hide, SV.isOwn, SV.dat, SV.put, ownAt, shutE, ixD', compF, ofO, R.bind, R.bindB, R.toS, R.toSB, RS.bind, bq_len, bq_abs, bq_min, bq_max, bq_int, bq_all, bq_sorted, bq_list, bq_tuple, bLen, bAbs, bMin, bMax, bInt, bAll, bSorted, bList, bTuple, g1, good_nil, D.eqv, en, e0, e2, e3, e]
end W2

/-! Halls and rows that are drawn: how great they are at most. -/
namespace W2
open PySem L2

def SMadeM (c : List AV → CRes) : Prop := ∀ a b m : Int, 1 ≤ m → m ≤ 4 → 0 ≤ b → b < 2147483648 → ∃ d a' b', c [.io (.lst [.int a, .int b]), .val (.int m)] = .ok (d, false) [.lst [.int a', .int b']] ∧ isHall d = true ∧ Pd 2 5 d ∧ (∃ t ds, d = .tup (.int t :: ds) ∧ t ≤ m) ∧ 0 ≤ b' ∧ b' < 2147483648
theorem madeM_s (Γ : Ctr) (c1 c2 : List AV → CRes) (h1 : Γ.fn "_law_draw" = some c1) (h2 : Γ.fn "_law_choice" = some c2) (s1 : SDraw c1) (s2 : SChoice c2) : SMadeM (conD Γ FU 2 7 b_law_hall) := by
  intro a b m hm1 hm4 hb1 hb2
  obtain ⟨t, a1, b1, e1, t0, t4, p1, q1⟩ := s1 a b m (by omega) (by omega) hb1 hb2
  obtain ⟨n, a2, b2, e2, n0, n3, p2, q2⟩ := s1 a1 b1 3 (by decide) (by decide) p1 q1
  obtain ⟨ys, ρ', e3, hlen, hJ, a3, b3, rfl, p3, q3⟩ := comp_inv (Γ := Γ) (ρ := [.io (.lst [.int a1, .int b1]), .val (.int m), .no, .no, .val (.int (1 + t)), .no, .no]) (ρ1 := [.io (.lst [.int a2, .int b2]), .val (.int m), .no, .no, .val (.int (1 + t)), .no, .no])
    (vs := [5]) (elt := .call "_law_draw" [(.io 0), (.bin .Add (.var 4) (.cst (.int 1)))]) (tg := .nm 5) (src := .rng1 (.bin .Add (.cst (.int 1)) (.call "_law_draw" [(.io 0), (.cst (.int 3))]))) (cond := .cst (.bl true)) (ds := rangeD 0 (1 + n).toNat)
    (fun ρ => ∃ a3 b3, ρ = [.io (.lst [.int a3, .int b3]), .val (.int m), .no, .no, .val (.int (1 + t)), .no, .no] ∧ 0 ≤ b3 ∧ b3 < 2147483648) (fun y => ∃ i, y = .int i ∧ 0 ≤ i ∧ i ≤ 1 + t)
    (by
      have z : -4611686018427387904 ≤ 1 + n ∧ 1 + n < 4611686018427387904 := by omega
      simp [LIM, Function.comp_def, conD, runD, evalSs, evalS, evalE, evalL, evalA, evalAnd, evalOr, evalI, evalJ, evalH, seqR, seqD, isSeqE, partR, partD, entry, iosAt, setS, parS, gather, iosOf, callR, putIos, binD, cmpD, ixD, atI, ixN, slD, isiD, D.ty, boolsOf, bindT, bindTs, wipeE, plainAt, backE, lend, Env.hide, SV.hide, SV.isOwn, SV.dat, SV.put, ownAt, shutE, ixD', compF, ofO, R.bind, R.bindB, R.toS, R.toSB, RS.bind, bq_len, bq_abs, bq_min, bq_max, bq_int, bq_all, bq_sorted, bq_list, bq_tuple, bLen, bAbs, bMin, bMax, bInt, bAll, bSorted, bList, bTuple, h1, e2, z]) (by rfl) ⟨a2, b2, rfl, p2, q2⟩ (by
      rintro d hd ρ ⟨a3, b3, rfl, p3, q3⟩
      obtain ⟨r, a4, b4, e4, r0, r1, p4, q4⟩ := s1 a3 b3 (1 + t + 1) (by omega) (by omega) p3 q3
      refine ⟨.int r, [.io (.lst [.int a4, .int b4]), .val (.int m), .no, .no, .val (.int (1 + t)), .no, .no], ?_, ⟨r, rfl, r0, by omega⟩, ⟨a4, b4, rfl, p4, q4⟩⟩
      simp [LIM, Function.comp_def, conD, runD, evalSs, evalS, evalE, evalL, evalA, evalAnd, evalOr, evalI, evalJ, evalH, seqR, seqD, isSeqE, partR, partD, entry, iosAt, setS, parS, gather, iosOf, callR, putIos, binD, cmpD, ixD, atI, ixN, slD, isiD, D.ty, boolsOf, bindT, bindTs, wipeE, plainAt, backE, lend, Env.hide, SV.hide, SV.isOwn, SV.dat, SV.put, ownAt, shutE, ixD', compF, ofO, R.bind, R.bindB, R.toS, R.toSB, RS.bind, bq_len, bq_abs, bq_min, bq_max, bq_int, bq_all, bq_sorted, bq_list, bq_tuple, bLen, bAbs, bMin, bMax, bInt, bAll, bSorted, bList, bTuple, h1, e4]) (by simp [rangeD, LIM]; omega)
  obtain ⟨is, rfl, hi⟩ := ints_of hJ
  have hlen' : is.length = (1 + n).toNat := by simpa [rangeD] using hlen
  have hs := sort_ints is (by unfold LIM; omega)
  obtain ⟨f, a4, b4, e4, hf, p4, q4⟩ := s2 a3 b3 [.str "narrow", .str "wide"] (by simp) (by decide) p3 q3
  obtain ⟨o, a5, b5, e5, ho, p5, q5⟩ := s2 a4 b4 [.str "first", .str "last", .str "near"] (by simp) (by decide) p4 q4
  obtain ⟨p, a6, b6, e6, hp, p6, q6⟩ := s2 a5 b5 [.non, .non, .int 1, .int 2, .int 3] (by simp) (by decide) p5 q5
  refine ⟨.tup [.int (1 + t), .tup ((sortI is).map D.int), f, o, p], a6, b6, ?_, ?_, ?_, ⟨_, _, rfl, by omega⟩, p6, q6⟩
  · simp [↓e3, b_law_hall, LIM, Function.comp_def, conD, runD, evalSs, evalS, evalE, evalL, evalA, evalAnd, evalOr, evalI, evalJ, evalH, seqR, seqD, isSeqE, partR, partD, entry, iosAt, setS, parS, gather, iosOf, callR, putIos, binD, cmpD, ixD, atI, ixN, slD, isiD, D.ty, boolsOf, bindT, bindTs, wipeE, plainAt, backE, lend, Env.hide, SV.hide, SV.isOwn, SV.dat, SV.put, ownAt, shutE, ixD', compF, ofO, R.bind, R.bindB, R.toS, R.toSB, RS.bind, bq_len, bq_abs, bq_min, bq_max, bq_int, bq_all, bq_sorted, bq_list, bq_tuple, bLen, bAbs, bMin, bMax, bInt, bAll, bSorted, bList, bTuple, h1, h2, e1, hs, e4, e5, e6]
  · have hw : wids (.tup ((sortI is).map D.int)) (1 + t) = true := by
      have w1 : adj ((sortI is).map D.int) = true := adj_pw.mpr (sortI_pw is)
      have w2 := all_frm (is := sortI is) (top := 1 + t) fun i hi' => hi i (sortI_mem.mp hi')
      have w3 : 1 ≤ is.length ∧ is.length ≤ 3 := by omega
      simp [wids, sortI_len, w1, w3]
      simpa using w2
    have w0 : (1 : Int) ≤ 1 + t ∧ 1 + t ≤ 4 := by omega
    simp only [List.mem_cons, List.mem_nil_iff, or_false] at hf ho hp
    have f1 : oneOf f ["narrow", "wide"] = true := by rcases hf with rfl | rfl <;> decide +kernel
    have f2 : oneOf o ["first", "last", "near"] = true := by rcases ho with rfl | rfl | rfl <;> decide +kernel
    have f3 : (p.isN || frm p 1 4) = true := by rcases hp with rfl | rfl | rfl | rfl | rfl <;> rfl
    simp [isHall, hw, f1, f2, w0, frm]
    simpa [frm] using f3
  · simp only [List.mem_cons, List.mem_nil_iff, or_false] at hf ho hp
    refine Pd.tup (by simp) fun d hd => ?_
    simp only [List.mem_cons, List.mem_nil_iff, or_false] at hd
    rcases hd with rfl | rfl | rfl | rfl | rfl
    · exact .int _ _ _
    · refine Pd.tup (by simp [sortI_len]; omega) fun d hd => ?_
      obtain ⟨i, _, rfl⟩ := List.mem_map.mp hd
      exact .int _ _ _
    · rcases hf with rfl | rfl <;> exact .str' _ _ (by decide +kernel)
    · rcases ho with rfl | rfl | rfl <;> exact .str' _ _ (by decide +kernel)
    · rcases hp with rfl | rfl | rfl | rfl | rfl <;> first | exact .non' _ _ | exact .int _ _ _

def SMadeRowM (c : List AV → CRes) : Prop := ∀ a b top m : Int, 1 ≤ top → top ≤ 4 → 0 ≤ m → m ≤ 60 → 0 ≤ b → b < 2147483648 → ∃ d a' b', c [.io (.lst [.int a, .int b]), .val (.int top), .val (.int m)] = .ok (d, false) [.lst [.int a', .int b']] ∧ isRow top d = true ∧ Pd 1 60 d ∧ (∃ ds, d = .tup ds ∧ (ds.length : Int) ≤ m) ∧ 0 ≤ b' ∧ b' < 2147483648
theorem madeRowM_s (Γ : Ctr) (c1 c2 : List AV → CRes) (h1 : Γ.fn "_law_draw" = some c1) (h2 : Γ.fn "_law_choice" = some c2) (s1 : SDraw c1) (s2 : SChoice c2) : SMadeRowM (conD Γ FU 3 5 b_law_row) := by
  intro a b top m t1 t4 m0 m60 hb1 hb2
  obtain ⟨n, a2, b2, e2, n0, n3, p2, q2⟩ := s1 a b (m + 1) (by omega) (by omega) hb1 hb2
  obtain ⟨ws, hws⟩ : ∃ ws, ws = D.non :: ((rangeD 0 (top + 1).toNat) ++ (rangeD 0 (top + 1).toNat)) := ⟨_, rfl⟩
  have hwl : ws.length ≤ 11 := by rw [hws]; simp [rangeD]; omega
  have hwm : ∀ d ∈ ws, d = .non ∨ ∃ i : Int, d = .int i ∧ 0 ≤ i ∧ i ≤ top := by
    intro d hd
    rw [hws] at hd
    rcases List.mem_cons.mp hd with rfl | hd
    · exact .inl rfl
    · have : d ∈ rangeD 0 (top + 1).toNat := (List.mem_append.mp hd).elim id id
      obtain ⟨i, hi, rfl⟩ := range_mem this
      exact .inr ⟨i, rfl, by omega, by omega⟩
  obtain ⟨ys, ρ', e3, hlen, hJ, a3, b3, rfl, p3, q3⟩ := comp_inv (Γ := Γ) (ρ := [.io (.lst [.int a, .int b]), .val (.int top), .val (.int m), .val (.lst ws), .no]) (ρ1 := [.io (.lst [.int a2, .int b2]), .val (.int top), .val (.int m), .val (.lst ws), .no])
    (vs := [4]) (elt := .call "_law_choice" [(.io 0), (.var 3)]) (tg := .nm 4) (src := .rng1 (.call "_law_draw" [(.io 0), (.bin .Add (.var 2) (.cst (.int 1)))])) (cond := .cst (.bl true)) (ds := rangeD 0 n.toNat)
    (fun ρ => ∃ a3 b3, ρ = [.io (.lst [.int a3, .int b3]), .val (.int top), .val (.int m), .val (.lst ws), .no] ∧ 0 ≤ b3 ∧ b3 < 2147483648) (fun y => y ∈ ws)
    (by
      have z : -4611686018427387904 ≤ n ∧ n < 4611686018427387904 := by omega
      simp [LIM, Function.comp_def, conD, runD, evalSs, evalS, evalE, evalL, evalA, evalAnd, evalOr, evalI, evalJ, evalH, seqR, seqD, isSeqE, partR, partD, entry, iosAt, setS, parS, gather, iosOf, callR, putIos, binD, cmpD, ixD, atI, ixN, slD, isiD, D.ty, boolsOf, bindT, bindTs, wipeE, plainAt, backE, lend, Env.hide, SV.hide, SV.isOwn, SV.dat, SV.put, ownAt, shutE, ixD', compF, ofO, R.bind, R.bindB, R.toS, R.toSB, RS.bind, bq_len, bq_abs, bq_min, bq_max, bq_int, bq_all, bq_sorted, bq_list, bq_tuple, bLen, bAbs, bMin, bMax, bInt, bAll, bSorted, bList, bTuple, h1, e2, z]) (by rfl) ⟨a2, b2, rfl, p2, q2⟩ (by
      rintro d hd ρ ⟨a3, b3, rfl, p3, q3⟩
      obtain ⟨y, a4, b4, e4, hy, p4, q4⟩ := s2 a3 b3 ws (by rw [hws]; simp) (by unfold LIM; omega) p3 q3
      refine ⟨y, [.io (.lst [.int a4, .int b4]), .val (.int top), .val (.int m), .val (.lst ws), .no], ?_, hy, ⟨a4, b4, rfl, p4, q4⟩⟩
      simp [LIM, Function.comp_def, conD, runD, evalSs, evalS, evalE, evalL, evalA, evalAnd, evalOr, evalI, evalJ, evalH, seqR, seqD, isSeqE, partR, partD, entry, iosAt, setS, parS, gather, iosOf, callR, putIos, binD, cmpD, ixD, atI, ixN, slD, isiD, D.ty, boolsOf, bindT, bindTs, wipeE, plainAt, backE, lend, Env.hide, SV.hide, SV.isOwn, SV.dat, SV.put, ownAt, shutE, ixD', compF, ofO, R.bind, R.bindB, R.toS, R.toSB, RS.bind, bq_len, bq_abs, bq_min, bq_max, bq_int, bq_all, bq_sorted, bq_list, bq_tuple, bLen, bAbs, bMin, bMax, bInt, bAll, bSorted, bList, bTuple, h2, e4]) (by simp [rangeD, LIM]; omega)
  have hlen' : ys.length = n.toNat := by simpa [rangeD] using hlen
  refine ⟨.tup ys, a3, b3, ?_, ?_, ?_, ⟨ys, rfl, by omega⟩, p3, q3⟩
  · have z : -4611686018427387904 ≤ top + 1 ∧ top + 1 < 4611686018427387904 := by omega
    have z2 : (top + 1).toNat ≤ 100000 := by omega
    have z3 : (top + 1).toNat ≤ 100 := by omega
    have rl : (rangeD 0 (top + 1).toNat).length = (top + 1).toNat := by simp [rangeD]
    have fl : (List.replicate 2 (rangeD 0 (top + 1).toNat)).flatten = rangeD 0 (top + 1).toNat ++ rangeD 0 (top + 1).toNat := by simp [List.replicate]
    have z4 : (top + 1).toNat + (top + 1).toNat ≤ 100000 := by omega
    generalize hr : rangeD 0 (top + 1).toNat = rs at *
    have es : D.non :: (rs ++ rs) = ws := hws.symm
    simp [↓e3, b_law_row, LIM, Function.comp_def, conD, runD, evalSs, evalS, evalE, evalL, evalA, evalAnd, evalOr, evalI, evalJ, evalH, seqR, seqD, isSeqE, partR, partD, entry, iosAt, setS, parS, gather, iosOf, callR, putIos, binD, cmpD, ixD, atI, ixN, slD, isiD, D.ty, boolsOf, bindT, bindTs, wipeE, plainAt, backE, lend, Env.hide, SV.hide, SV.isOwn, SV.dat, SV.put, ownAt, shutE, ixD', compF, ofO, R.bind, R.bindB, R.toS, R.toSB, RS.bind, bq_len, bq_abs, bq_min, bq_max, bq_int, bq_all, bq_sorted, bq_list, bq_tuple, bLen, bAbs, bMin, bMax, bInt, bAll, bSorted, bList, bTuple, hr, rl, z, z2, z3, z4, fl, es]
  · have z : ys.length ≤ 60 := by omega
    simp only [isRow, z, decide_true, Bool.true_and, List.all_eq_true]
    intro d hd
    rcases hwm d (hJ d hd) with rfl | ⟨i, rfl, h1, h2⟩
    · rfl
    · simp [frm, h1, h2]
  · refine Pd.tup (by omega) fun d hd => ?_
    rcases hwm d (hJ d hd) with rfl | ⟨i, rfl, h1, h2⟩
    · exact .non' _ _
    · exact .int _ _ _
end W2

/-! What was seen otherwise; what is refused. -/
namespace W2
open PySem L2

def bents (b : Sn) : List Sn := [(b.1, [], b.2.2), (b.1, [(0, 1)], b.2.2), (b.1, b.2.1, []), (b.1, b.2.1, [0]), (!b.1, b.2.1, b.2.2)]
theorem bents_ok {b b' : Sn} (k : SnOk b) (m : b' ∈ bents b) : SnOk b' := by
  unfold bents at m
  simp only [List.mem_cons, List.mem_nil_iff, or_false] at m
  rcases m with rfl | rfl | rfl | rfl | rfl
  · exact ⟨by simp, by simp, by simp, k.g, k.gu, k.gl⟩
  · exact ⟨by simp, by simp, by simp, k.g, k.gu, k.gl⟩
  · exact ⟨k.p, k.pu, k.pl, by simp, by simp, by simp⟩
  · exact ⟨k.p, k.pu, k.pl, by simp, by simp, by simp⟩
  · exact ⟨k.p, k.pu, k.pl, k.g, k.gu, k.gl⟩
def SBent (c : List AV → CRes) : Prop := ∀ (a b : Int) (T : List Sn), T ≠ [] → T.length ≤ 60 → (∀ b ∈ T, SnOk b) → 0 ≤ b → b < 2147483648 → ∃ (T' : List Sn) (a' b' : Int), c [.io (.lst [.int a, .int b]), .val (seenD T)] = .ok (seenD T', false) [.lst [.int a', .int b']] ∧ T'.length = T.length ∧ (∀ b ∈ T', SnOk b) ∧ 0 ≤ b' ∧ b' < 2147483648
theorem bent_s (Γ : Ctr) (c1 c2 : List AV → CRes) (h1 : Γ.fn "_law_draw" = some c1) (h2 : Γ.fn "_law_choice" = some c2) (s1 : SDraw c1) (s2 : SChoice c2) : SBent (conD Γ FU 2 7 b_law_bent) := by
  intro a b T hn hl hk hb1 hb2
  have hl' : 0 < T.length := List.length_pos_iff.mpr hn
  obtain ⟨r, a1, b1, e1, r1, r2, k1, k2⟩ := s1 a b T.length (by omega) (by omega) hb1 hb2
  obtain ⟨i, rfl⟩ : ∃ i : Nat, r = (i : Int) := ⟨r.toNat, by omega⟩
  have hi : i < T.length := by omega
  obtain ⟨d, a2, b2, e2, hd, k3, k4⟩ := s2 a1 b1 ((bents T[i]).map snD) (by simp [bents]) (by simp [bents, LIM]) k1 k2
  obtain ⟨b', hb', rfl⟩ := List.mem_map.mp hd
  refine ⟨T.take i ++ [b'] ++ T.drop (i + 1), a2, b2, ?_, by simp; omega, fun x hx => ?_, k3, k4⟩
  · have ex : ∀ hz, (T.map snD)[i]'hz = snD T[i] := fun hz => by simp
    have hz : i < (T.map snD).length := by simpa using hi
    have c1' := cutN_take (ds := T.map snD) (a := i)
    have c2' : cutD (T.map snD) (some ((i : Int) + 1)) none = (T.drop (i + 1)).map snD := by
      have := cutN_drop (ds := T.map snD) (a := i + 1)
      rw [List.map_drop, ← this]
      rfl
    have l1 : min i (T.map snD).length ≤ 99999 := by simp; omega
    have l2 : min i (T.map snD).length + 1 + ((T.drop (i + 1)).map snD).length ≤ 100000 := by simp; omega
    have l3 : min i (T.map snD).length + (((T.drop (i + 1)).map snD).length + 1) ≤ 100000 := by simp; omega
    unfold seenD at *
    rw [List.map_append, List.map_append, List.map_singleton, List.map_take]
    generalize snD b' = bd at *
    generalize T[i] = b at *
    obtain ⟨q1, q2, q3⟩ := b
    simp only [bents, List.map_cons, List.map_nil, snD, m2] at e2 ex
    rw [← List.length_map (f := snD)] at e1
    generalize T.map snD = td at *
    generalize (T.drop (i + 1)).map snD = dr at *
    change ∀ hz, td[i]'hz = .tup [.bl q1, .tup (q2.map m2), .tup (q3.map D.int)] at ex
    change c2 [.io (.lst [.int a1, .int b1]), .val (.lst [.tup [.bl q1, .tup [], .tup (q3.map D.int)], .tup [.bl q1, .tup [.tup [.int 0, .int 1]], .tup (q3.map D.int)], .tup [.bl q1, .tup (q2.map m2), .tup []], .tup [.bl q1, .tup (q2.map m2), .tup [.int 0]], .tup [.bl (!q1), .tup (q2.map m2), .tup (q3.map D.int)]])] = _ at e2
    generalize q2.map m2 = w2 at *
    generalize q3.map D.int = w3 at *
    simp [b_law_bent, LIM, Function.comp_def, conD, runD, evalSs, evalS, evalE, evalL, evalA, evalAnd, evalOr, evalI, evalJ, evalH, seqR, seqD, isSeqE, partR, partD, entry, iosAt, setS, parS, gather, iosOf, callR, putIos, binD, cmpD, ixD, atI, ixN, slD, isiD, D.ty, boolsOf, bindT, bindTs, wipeE, plainAt, backE, lend, Env.hide, SV.hide, SV.isOwn, SV.dat, SV.put, ownAt, shutE, ixD', compF, ofO, R.bind, R.bindB, R.toS, R.toSB, RS.bind, bq_len, bq_abs, bq_min, bq_max, bq_int, bq_all, bq_sorted, bq_list, bq_tuple, bLen, bAbs, bMin, bMax, bInt, bAll, bSorted, bList, bTuple, h1, e1, h2, e2, hz, ex, c1', c2', l1, l2, l3]
  · rcases List.mem_append.mp hx with hx | hx
    · rcases List.mem_append.mp hx with hx | hx
      · exact hk x (List.mem_of_mem_take hx)
      · rw [List.mem_singleton.mp hx]
        exact bents_ok (hk _ (List.getElem_mem hi)) hb'
    · exact hk x (List.mem_of_mem_drop hx)

/-! ### refused -/
def xSeen : Exn := ⟨"InvalidSeen", []⟩
def xHallE : Exn := ⟨"InvalidHall", []⟩
structure STel (c : List AV → CRes) : Prop where
  run : ∀ h : Hl, h.Ok → isHall h.d = true → ∀ T : List Sn, T.length ≤ 6 → (∀ b ∈ T, SnOk b) → c [.val h.d, .val (seenD T)] = .ok (.lst (sortS ((told h T).map (·.1))), true) []
def SBad (c : List AV → CRes) : Prop := ∀ h : Hl, h.Ok → isHall h.d = true → ∀ d : D, c_need_seen [.val d] = .err xSeen [] → c [.val h.d, .val d] = .err xSeen []
section
variable (Γ : Ctr) (c1 c3 : List AV → CRes) (h1 : Γ.fn "need_hall" = some c1) (h2 : Γ.fn "need_seen" = some c_need_seen) (h3 : Γ.fn "told_of" = some c3) (s1 : SNeed c1)
include h1 h2 h3 s1
theorem tel_s (s2 : SNeedSeen c_need_seen) (s3 : STold c3) : STel (conD Γ FU 2 2 b_strengths_told) := by
  refine ⟨fun h k hh T hT hk => ?_⟩
  have q1 := s1 h.d (strOk_of k)
  rw [hh] at q1
  have q2 := s2 T hT hk
  have q3 := s3 h k T hT
  generalize sortS ((told h T).map (·.1)) = res at *
  generalize seenD T = td at *
  generalize c_need_seen = c2 at *
  generalize h.d = hd at *
  simp [b_strengths_told, LIM, Function.comp_def, conD, runD, evalSs, evalS, evalE, evalL, evalA, evalAnd, evalOr, evalI, evalJ, evalH, seqR, seqD, isSeqE, partR, partD, entry, iosAt, setS, parS, gather, iosOf, callR, putIos, binD, cmpD, ixD, atI, ixN, slD, isiD, D.ty, boolsOf, bindT, bindTs, wipeE, plainAt, backE, lend, Env.hide, SV.hide, SV.isOwn, SV.dat, SV.put, ownAt, shutE, ixD', compF, ofO, R.bind, R.bindB, R.toS, R.toSB, RS.bind, bq_len, bq_abs, bq_min, bq_max, bq_int, bq_all, bq_sorted, bq_list, bq_tuple, bLen, bAbs, bMin, bMax, bInt, bAll, bSorted, bList, bTuple, h1, h2, h3, q1, q2, q3]
theorem bad1_s : SBad (conD Γ FU 2 2 b_strengths_told) := by
  intro h k hh d q2
  have q1 := s1 h.d (strOk_of k)
  rw [hh] at q1
  generalize c_need_seen = c2 at *
  generalize h.d = hd at *
  simp [b_strengths_told, LIM, Function.comp_def, conD, runD, evalSs, evalS, evalE, evalL, evalA, evalAnd, evalOr, evalI, evalJ, evalH, seqR, seqD, isSeqE, partR, partD, entry, iosAt, setS, parS, gather, iosOf, callR, putIos, binD, cmpD, ixD, atI, ixN, slD, isiD, D.ty, boolsOf, bindT, bindTs, wipeE, plainAt, backE, lend, Env.hide, SV.hide, SV.isOwn, SV.dat, SV.put, ownAt, shutE, ixD', compF, ofO, R.bind, R.bindB, R.toS, R.toSB, RS.bind, bq_len, bq_abs, bq_min, bq_max, bq_int, bq_all, bq_sorted, bq_list, bq_tuple, bLen, bAbs, bMin, bMax, bInt, bAll, bSorted, bList, bTuple, h1, h2, q1, q2]
theorem bad2_s : SBad (conD Γ FU 2 7 b_surely_told) := by
  intro h k hh d q2
  have q1 := s1 h.d (strOk_of k)
  rw [hh] at q1
  generalize c_need_seen = c2 at *
  generalize h.d = hd at *
  simp [b_surely_told, LIM, Function.comp_def, conD, runD, evalSs, evalS, evalE, evalL, evalA, evalAnd, evalOr, evalI, evalJ, evalH, seqR, seqD, isSeqE, partR, partD, entry, iosAt, setS, parS, gather, iosOf, callR, putIos, binD, cmpD, ixD, atI, ixN, slD, isiD, D.ty, boolsOf, bindT, bindTs, wipeE, plainAt, backE, lend, Env.hide, SV.hide, SV.isOwn, SV.dat, SV.put, ownAt, shutE, ixD', compF, ofO, R.bind, R.bindB, R.toS, R.toSB, RS.bind, bq_len, bq_abs, bq_min, bq_max, bq_int, bq_all, bq_sorted, bq_list, bq_tuple, bLen, bAbs, bMin, bMax, bInt, bAll, bSorted, bList, bTuple, h1, h2, q1, q2]
end
def SRef (c : List AV → CRes) : Prop := ∀ h : Hl, h.Ok → isHall h.d = true → ∀ d : D, c_need_seen [.val d] = .err xSeen [] → c [.val h.d, .val d] = .ok (.bl true, false) []
def rfB : List St := [.tryS [.expr (.vcall 2 [(.var 0), (.var 1)])] [("InvalidSeen", [.app 3 (.cst (.str "seen"))])]]
theorem b_ref_eq : b_law_refused = [.own 3 (.lst []), .for_ (.nm 2) (.lst [(.glb "strengths_told"), (.glb "surely_told")]) rfB, .ret (.brw [3] (.cmp .Eq (.var 3) (.bin .Mult (.lst [(.cst (.str "seen"))]) (.cst (.int 2)))))] := rfl
theorem rf_turn {Γ : Ctr} {f : Str} {c : List AV → CRes} (h1 : Γ.fn f = some c) (hs : Γ.sub "InvalidSeen" "InvalidSeen" = some true) {hd d : D} (q : c [.val hd, .val d] = .err xSeen []) {acc : List D} (ha : acc.length < 100000) : evalSs Γ FU rfB [.val hd, .val d, .val (.fn f), .own (.lst acc)] = .nxt [.val hd, .val d, .val (.fn f), .own (.lst (acc ++ [.str "seen"]))] := by
  unfold xSeen at q
  simp [rfB, LIM, Function.comp_def, conD, runD, evalSs, evalS, evalE, evalL, evalA, evalAnd, evalOr, evalI, evalJ, evalH, seqR, seqD, isSeqE, partR, partD, entry, iosAt, setS, parS, gather, iosOf, callR, putIos, binD, cmpD, ixD, atI, ixN, slD, isiD, D.ty, boolsOf, bindT, bindTs, wipeE, plainAt, backE, lend, Env.hide, SV.hide, SV.isOwn, SV.dat, SV.put, ownAt, shutE, ixD', compF, ofO, R.bind, R.bindB, R.toS, R.toSB, RS.bind, bq_len, bq_abs, bq_min, bq_max, bq_int, bq_all, bq_sorted, bq_list, bq_tuple, bLen, bAbs, bMin, bMax, bInt, bAll, bSorted, bList, bTuple, h1, q, hs, ha]
theorem ref_s (Γ : Ctr) (c1 c2 : List AV → CRes) (h1 : Γ.fn "strengths_told" = some c1) (h2 : Γ.fn "surely_told" = some c2) (g1 : Γ.gv "strengths_told" = some (.fn "strengths_told")) (g2 : Γ.gv "surely_told" = some (.fn "surely_told")) (hs : Γ.sub "InvalidSeen" "InvalidSeen" = some true) (s1 : SBad c1) (s2 : SBad c2) : SRef (conD Γ FU 2 4 b_law_refused) := by
  intro h k hh d q
  have q1 := s1 h k hh d q
  have q2 := s2 h k hh d q
  generalize h.d = hd at *
  have e1 := rf_turn (Γ := Γ) h1 hs (hd := hd) (d := d) q1 (acc := []) (by decide)
  have e2 := rf_turn (Γ := Γ) h2 hs (hd := hd) (d := d) q2 (acc := [.str "seen"]) (by decide)
  have gd : (D.lst [.str "seen", .str "seen"]).good = true := by decide +kernel
  simp only [List.nil_append, List.cons_append] at e1 e2
  simp [b_ref_eq, LIM, Function.comp_def, conD, runD, evalSs, evalS, evalE, evalL, evalA, evalAnd, evalOr, evalI, evalJ, evalH, seqR, seqD, isSeqE, partR, partD, entry, iosAt, setS, parS, gather, iosOf, callR, putIos, binD, cmpD, ixD, atI, ixN, slD, isiD, D.ty, boolsOf, bindT, bindTs, wipeE, plainAt, backE, lend, Env.hide, SV.hide, SV.isOwn, SV.dat, SV.put, ownAt, shutE, ixD', compF, ofO, R.bind, R.bindB, R.toS, R.toSB, RS.bind, bq_len, bq_abs, bq_min, bq_max, bq_int, bq_all, bq_sorted, bq_list, bq_tuple, bLen, bAbs, bMin, bMax, bInt, bAll, bSorted, bList, bTuple, g1, g2, forL, e1, e2, gd, D.eqv, D.eqvL, D.hard]
def odds : List D := [.non, .lst [], .tup [.bl true], .tup [.tup [.bl true, .tup []]], .tup [.tup [.int 1, .tup [], .tup []]], .tup [.tup [.bl true, .lst [], .tup []]], .tup [.tup [.bl true, .tup [.tup [.int 1, .int 0]], .tup []]],
  .tup [.tup [.bl true, .tup [], .tup [.int 1, .int 0]]], .tup [.tup [.bl true, .tup [.tup [.int 0, .int 1], .tup [.int 0, .int 1]], .tup []]], .tup [.tup [.bl true, .tup [.tup [.int 0, .int 10]], .tup []]],
  .tup [.tup [.bl true, .tup [], .tup [.bl true]]], .tup [.tup [.bl false, .tup [], .tup []], .tup [.bl false, .tup [], .tup []], .tup [.bl false, .tup [], .tup []], .tup [.bl false, .tup [], .tup []], .tup [.bl false, .tup [], .tup []], .tup [.bl false, .tup [], .tup []], .tup [.bl false, .tup [], .tup []]]]
theorem odds_bad : ∀ d ∈ odds, c_need_seen [.val d] = .err xSeen [] := by
  intro d hd
  unfold odds at hd
  simp only [List.mem_cons, List.mem_nil_iff, or_false] at hd
  rcases hd with rfl | rfl | rfl | rfl | rfl | rfl | rfl | rfl | rfl | rfl | rfl | rfl <;> kernel_rfl
def oS1 : St := .set 2 (.lst [(.cst .non), (.lst []), (.tup [(.cst (.bl true))]), (.tup [(.tup [(.cst (.bl true)), (.tup [])])]), (.tup [(.tup [(.cst (.int 1)), (.tup []), (.tup [])])]), (.tup [(.tup [(.cst (.bl true)), (.lst []), (.tup [])])]), (.tup [(.tup [(.cst (.bl true)), (.tup [(.tup [(.cst (.int 1)), (.cst (.int 0))])]), (.tup [])])])])
def oS2 : St := .set 2 (.bin .Add (.var 2) (.lst [(.tup [(.tup [(.cst (.bl true)), (.tup []), (.tup [(.cst (.int 1)), (.cst (.int 0))])])]), (.tup [(.tup [(.cst (.bl true)), (.tup [(.tup [(.cst (.int 0)), (.cst (.int 1))]), (.tup [(.cst (.int 0)), (.cst (.int 1))])]), (.tup [])])]), (.tup [(.tup [(.cst (.bl true)), (.tup [(.tup [(.cst (.int 0)), (.cst (.int 10))])]), (.tup [])])])]))
def oS3 : St := .set 2 (.bin .Add (.var 2) (.lst [(.tup [(.tup [(.cst (.bl true)), (.tup []), (.tup [(.cst (.bl true))])])]), (.bin .Mult (.tup [(.tup [(.cst (.bl false)), (.tup []), (.tup [])])]) (.cst (.int 7)))]))
theorem b_allref_eq : b_law_all_refused = [oS1, oS2, oS3, .ret (.cmp .Eq (.comp [1] (.var 1) (.nm 1) (.var 2) (.notE (.call "_law_refused" [(.var 0), (.var 1)]))) (.lst []))] := rfl
theorem o_all {Γ : Ctr} {hd : D} (ss : List St) : evalSs Γ FU (oS1 :: oS2 :: oS3 :: ss) [.val hd, .no, .no] = evalSs Γ FU ss [.val hd, .no, .val (.lst odds)] := by kernel_rfl
def SAllRef (c : List AV → CRes) : Prop := ∀ h : Hl, h.Ok → isHall h.d = true → c [.val h.d] = .ok (.bl true, false) []
theorem allref_s (Γ : Ctr) (c : List AV → CRes) (h1 : Γ.fn "_law_refused" = some c) (s : SRef c) : SAllRef (conD Γ FU 1 3 b_law_all_refused) := by
  intro h k hh
  have k1 := comp_filt (Γ := Γ) (vs := [1]) (elt := .var 1) (tg := .nm 1) (src := .var 2) (cond := .notE (.call "_law_refused" [(.var 0), (.var 1)])) (ρ := [.val h.d, .no, .val (.lst odds)]) odds id (fun _ => false) id (by simp [LIM, Function.comp_def, conD, runD, evalSs, evalS, evalE, evalL, evalA, evalAnd, evalOr, evalI, evalJ, evalH, seqR, seqD, isSeqE, partR, partD, entry, iosAt, setS, parS, gather, iosOf, callR, putIos, binD, cmpD, ixD, atI, ixN, slD, isiD, D.ty, boolsOf, bindT, bindTs, wipeE, plainAt, backE, lend, Env.hide, SV.hide, SV.isOwn, SV.dat, SV.put, ownAt, shutE, ixD', compF, ofO, R.bind, R.bindB, R.toS, R.toSB, RS.bind, bq_len, bq_abs, bq_min, bq_max, bq_int, bq_all, bq_sorted, bq_list, bq_tuple, bLen, bAbs, bMin, bMax, bInt, bAll, bSorted, bList, bTuple]) (by rfl) (fun d hd => by
    have q := s h k hh d (odds_bad d hd)
    generalize h.d = hd at *
    simp [LIM, Function.comp_def, conD, runD, evalSs, evalS, evalE, evalL, evalA, evalAnd, evalOr, evalI, evalJ, evalH, seqR, seqD, isSeqE, partR, partD, entry, iosAt, setS, parS, gather, iosOf, callR, putIos, binD, cmpD, ixD, atI, ixN, slD, isiD, D.ty, boolsOf, bindT, bindTs, wipeE, plainAt, backE, lend, Env.hide, SV.hide, SV.isOwn, SV.dat, SV.put, ownAt, shutE, ixD', compF, ofO, R.bind, R.bindB, R.toS, R.toSB, RS.bind, bq_len, bq_abs, bq_min, bq_max, bq_int, bq_all, bq_sorted, bq_list, bq_tuple, bLen, bAbs, bMin, bMax, bInt, bAll, bSorted, bList, bTuple, h1, q]) (by decide)
  rw [List.filter_eq_nil_iff.mpr (by simp), List.map_nil] at k1
  generalize h.d = hd at *
  rw [b_allref_eq]
  refine conD_ret (ρ := [.val hd, .no, .val (.lst odds)]) rfl ?_ rfl
  refine (o_all _).trans ?_
  simp [LIM, Function.comp_def, conD, runD, evalSs, evalS, evalE, evalL, evalA, evalAnd, evalOr, evalI, evalJ, evalH, seqR, seqD, isSeqE, partR, partD, entry, iosAt, setS, parS, gather, iosOf, callR, putIos, binD, cmpD, ixD, atI, ixN, slD, isiD, D.ty, boolsOf, bindT, bindTs, wipeE, plainAt, backE, lend, Env.hide, SV.hide, SV.isOwn, SV.dat, SV.put, ownAt, shutE, ixD', compF, ofO, R.bind, R.bindB, R.toS, R.toSB, RS.bind, bq_len, bq_abs, bq_min, bq_max, bq_int, bq_all, bq_sorted, bq_list, bq_tuple, bLen, bAbs, bMin, bMax, bInt, bAll, bSorted, bList, bTuple, ↓k1, good_nil, D.eqv, D.eqvL]
end W2

/-! The law answers True. -/
namespace W2
open PySem L2

theorem t_draw : SDraw c_law_draw := draw_s _
theorem t_choice : SChoice c_law_choice := choice_s _ _ q_law_choice_law_draw t_draw
theorem t_made : SMadeM c_law_hall := madeM_s _ _ _ q_law_hall_law_draw q_law_hall_law_choice t_draw t_choice
theorem t_madeRow : SMadeRowM c_law_row := madeRowM_s _ _ _ q_law_row_law_draw q_law_row_law_choice t_draw t_choice
theorem t_from : SFrom c_is_from := from_s _
theorem t_wid : SWid c_are_widths := wid_s _ _ q_are_widths_is_from t_from (v_MOST_WIDTHS _)
theorem t_one : SOne c_is_one_of := one_s _
theorem t_has : SHall c_has_hall := has_s _ _ _ _ q_has_hall_is_from q_has_hall_are_widths q_has_hall_is_one_of t_from t_wid t_one (v_MOST_TOP _) (v_FITS _) (v_ORDERS _) (v_MOST_PATIENCE _)
theorem t_need : SNeed c_need_hall := need_s _ _ q_need_hall_has_hall t_has (e_InvalidHall _)
theorem t_most : SMost c_most_waited := most_s _
theorem t_fit : SFit c_do_fit := fit_s _
theorem t_fitting : SFitting c_fitting := fitting_s _ _ q_fitting_do_fit t_fit
theorem t_chosen : SChosen c_chosen := chosen_s _
theorem t_beat : SBeat c_beat_of := beat_s _ _ _ _ q_beat_of_most_waited q_beat_of_fitting q_beat_of_chosen t_most t_fitting t_chosen
theorem t_source : SSource c_law_source := source_s _
theorem t_win : SWin c_law_window := window_s _
theorem t_lfit : SFit c_law_fits := law_fit_s _ _ q_law_fits_law_window t_win
theorem t_pick : SPick c_law_picked := picked_s _ _ q_law_picked_law_fits t_lfit
theorem t_lbeat : SBeat c_law_beat := lbeat_s _ _ q_law_beat_law_picked t_pick
theorem t_lrun : SRun c_law_run := lrun_s _ _ q_law_run_law_beat t_lbeat
theorem t_pairs : SPairs c_are_pairs := pairs_ok_s _ _ q_are_pairs_is_from t_from
theorem t_gone : SGone c_are_gone := gone_ok_s _ _ q_are_gone_is_from t_from
theorem t_isbeat : SIsBeat c_is_beat := isbeat_s _ _ _ q_is_beat_are_pairs q_is_beat_are_gone t_pairs t_gone
theorem t_needSeen : SNeedSeen c_need_seen := needSeen_s _ _ q_need_seen_is_beat t_isbeat (v_MOST_SEEN _)
theorem t_told : STold c_told_of := told_s _ _ q_told_of_beat_of t_beat
theorem t_tel : STel c_strengths_told := tel_s _ _ _ q_strengths_told_need_hall q_strengths_told_need_seen q_strengths_told_told_of t_need t_needSeen t_told
theorem t_surely : SSurely c_surely_told := surely_s _ _ _ _ q_surely_told_need_hall q_surely_told_need_seen q_surely_told_told_of t_need t_needSeen t_told
theorem t_bad1 : SBad c_strengths_told := bad1_s _ _ _ q_strengths_told_need_hall q_strengths_told_need_seen q_strengths_told_told_of t_need
theorem t_bad2 : SBad c_surely_told := bad2_s _ _ _ q_surely_told_need_hall q_surely_told_need_seen q_surely_told_told_of t_need
theorem t_ref : SRef c_law_refused := ref_s _ _ _ q_law_refused_strengths_told q_law_refused_surely_told (v_strengths_told _) (v_surely_told _) (e_InvalidSeen_InvalidSeen _) t_bad1 t_bad2
theorem t_allref : SAllRef c_law_all_refused := allref_s _ _ q_law_all_refused_law_refused t_ref
theorem t_seen : SSeen c_law_seen := lseen_s _ _ q_law_seen_law_run t_lrun
theorem t_rows : SRows c_law_rows := lrows_s _
theorem t_due : SDue c_law_due := due_s _ _ _ q_law_due_law_rows q_law_due_law_seen t_rows t_seen
theorem t_sure : SSure c_law_sure := lsure_s _
theorem t_bent : SBent c_law_bent := bent_s _ _ _ q_law_bent_law_draw q_law_bent_law_choice t_draw t_choice

/-! ### what is equal to itself -/
mutual
theorem eqv_refl : ∀ d : D, d.plain = true → d.eqv d = true
  | .non, _ => rfl
  | .bl b, _ => by simp [D.eqv]
  | .int i, _ => by simp [D.eqv]
  | .str x, _ => by simp [D.eqv]
  | .tup ds, h => by simp only [D.eqv]; exact eqvL_refl ds (by simpa [D.plain] using h)
  | .lst ds, h => by simp only [D.eqv]; exact eqvL_refl ds (by simpa [D.plain] using h)
  | .dic _ _, h => by simp [D.plain] at h
  | .frz _, h => by simp [D.plain] at h
  | .fn _, h => by simp [D.plain] at h
theorem eqvL_refl : ∀ ds : List D, D.plainL ds = true → D.eqvL ds ds = true
  | [], _ => rfl
  | d :: ds, h => by
    simp only [D.plainL, Bool.and_eq_true] at h
    simp only [D.eqvL, eqv_refl d h.1, eqvL_refl ds h.2, Bool.and_self]
end
theorem eqv_good {d : D} (h : d.good = true) : d.eqv d = true := by
  refine eqv_refl d ?_
  unfold D.good at h
  rw [Bool.and_eq_true] at h
  exact h.1
theorem isRow_elim {top : Int} {d : D} (h : isRow top d = true) : ∃ row : List (Option Int), d = .tup (row.map patD) ∧ row.length ≤ 60 := by
  unfold isRow at h
  split at h
  · rename_i ds
    simp only [Bool.and_eq_true, decide_eq_true_eq, List.all_eq_true] at h
    obtain ⟨h1, h2⟩ := h
    have : ∀ ds : List D, (∀ x ∈ ds, (x.isN || frm x 0 top) = true) → ∃ row : List (Option Int), ds = row.map patD := by
      intro ds
      induction ds with
      | nil => exact fun _ => ⟨[], rfl⟩
      | cons d ds ih =>
        intro hz
        obtain ⟨row, rfl⟩ := ih fun x hx => hz x (List.mem_cons_of_mem _ hx)
        have hd := hz d List.mem_cons_self
        rw [Bool.or_eq_true] at hd
        rcases hd with hd | hd
        · cases d <;> first | exact ⟨none :: row, rfl⟩ | cases hd
        · obtain ⟨i, rfl, _⟩ := frm_int hd
          exact ⟨some i :: row, rfl⟩
    obtain ⟨row, rfl⟩ := this ds h2
    exact ⟨row, rfl, by simpa using h1⟩
  · cases h
/-- a def of the package that goes through a row and gives what g makes of it -/
structure SApi (g : Hl → List (Option Int) → D) (c : List AV → CRes) : Prop where
  run : ∀ h : Hl, h.Ok → isHall h.d = true → ∀ row : List (Option Int), isRow h.top (.tup (row.map patD)) = true → row.length ≤ 60 → c [.val h.d, .val (.tup (row.map patD))] = .ok (g h row, false) []
  hall : ∀ d e : D, d.plain = true → isHall d = false → c [.val d, .val e] = .err xHall []
  row : ∀ h : Hl, h.Ok → isHall h.d = true → ∀ e : D, e.plain = true → isRow h.top e = false → c [.val h.d, .val e] = .err xRow []
theorem opts_val {h : Hl} (k : h.Ok) {c : Bool} {o : Option Int} (m : o ∈ optsOf h c) : ∀ z ∈ o.toList, 0 ≤ z ∧ z ≤ 4 := by
  intro z hz
  unfold optsOf at m
  cases c with
  | false =>
    simp at m
    subst m
    simp at hz
  | true =>
    simp only [if_true, List.mem_map, List.mem_range] at m
    obtain ⟨i, hi, rfl⟩ := m
    simp at hz
    subst hz
    have := k.t4
    omega
theorem told_vals {h : Hl} (k : h.Ok) : ∀ (s : List Sn) (x : List Int × List P3), x ∈ toldR h s → ∀ z ∈ x.1, 0 ≤ z ∧ z ≤ 4
  | [], x, m => by simp [toldR] at m; subst m; simp
  | b :: s, x, m => by
    simp only [toldR, List.mem_flatMap, List.mem_map, List.mem_filter] at m
    obtain ⟨y, hy, o, ⟨ho, _⟩, rfl⟩ := m
    intro z hz
    rcases List.mem_append.mp hz with hz | hz
    · exact told_vals k s y hy z hz
    · exact opts_val k ho z hz
theorem good_sure (X : List (List Int)) : (sureD X).good = true := by
  cases X with
  | nil => rfl
  | cons x t =>
    refine good_of ?_ ?_
    · simp only [sureD, D.plain]
      exact plainL_of fun d hd => by
        obtain ⟨i, _, rfl⟩ := List.mem_map.mp hd
        cases sureAt (x :: t) x i <;> rfl
    · simp only [sureD, D.dep]
      have : D.depL ((List.range x.length).map fun i => patD (sureAt (x :: t) x i)) ≤ 2 := depL_le fun d hd => by
        obtain ⟨i, _, rfl⟩ := List.mem_map.mp hd
        cases sureAt (x :: t) x i <;> simp [patD, D.dep]
      omega
theorem seen_len (h : Hl) (row : List (Option Int)) : (seenOf h row).length = row.length := by simp [seenOf]

def forB : St → List St
  | .for_ _ _ b => b
  | _ => []
def body1 : List St := forB (b_law.getD 0 (.rse ""))
def tB : List St := forB (body1.getD 1 (.rse ""))
def aB : List St := forB (tB.getD 3 (.rse ""))
theorem aB_eq : aB = [.set 2 (.call "_law_due" [(.var 3), (.var 6)]),
    .ife (.cmp .NotEq (.call "strengths_told" [(.var 3), (.var 6)]) (.var 2)) [.ret (.cst (.bl false))] [],
    .ife (.cmp .NotEq (.call "surely_told" [(.var 3), (.var 6)]) (.call "_law_sure" [(.var 2)])) [.ret (.cst (.bl false))] [],
    .set 6 (.ite (.cmp .NotEq (.var 6) (.tup [])) (.call "_law_bent" [(.io 7), (.var 6)]) (.var 6))] := rfl
theorem tB_eq : tB = [.set 3 (.call "_law_hall" [(.io 7), (.cst (.int 3))]),
    .set 5 (.call "_law_row" [(.io 7), (.ix (.var 3) (.cst (.int 0))), (.cst (.int 4))]),
    .set 6 (.call "_law_seen" [(.var 3), (.var 5)]),
    .for_ (.nm 1) (.rng1 (.cst (.int 2))) aB] := rfl
theorem body1_eq : body1 = [.own 7 (.call "_law_source" [(.var 0), (.var 4)]), .for_ (.nm 8) (.rng1 (.cst (.int 2))) tB, .ife (.notE (.call "_law_all_refused" [(.var 3)])) [.ret (.cst (.bl false))] []] := rfl
theorem b_law_eq : b_law = [.for_ (.nm 4) (.rng1 (.bin .Add (.cst (.int 1)) (.blt "min" [(.blt "len" [(.var 0)]), (.cst (.int 8))]))) body1, .ret (.call "_law_written_right" [])] := rfl

abbrev GW : Ctr := gam fns_law
theorem again_turn {h : Hl} (k : h.Ok) (hh : isHall h.d = true) {T : List Sn} (hT : T.length ≤ 4) (hk : ∀ b ∈ T, SnOk b) {fz kk : D} {a b : Int} {x1 x2 x5 x8 : SV} (n2 : PN x2) (b1 : 0 ≤ b) (b2 : b < 2147483648) :
    ∃ (T' : List Sn) (a' b' : Int) (y2 : SV), PN y2 ∧ T'.length ≤ 4 ∧ (∀ b ∈ T', SnOk b) ∧ 0 ≤ b' ∧ b' < 2147483648 ∧ evalSs GW FU aB [.val fz, x1, x2, .val h.d, .val kk, x5, .val (seenD T), .own (.lst [.int a, .int b]), x8] =
      .nxt [.val fz, x1, y2, .val h.d, .val kk, x5, .val (seenD T'), .own (.lst [.int a', .int b']), x8] := by
  have r1 := t_due h k T (by omega)
  have r2 := t_tel.run h k hh T (by omega) hk
  have r3 := t_surely h k hh T (by omega) hk
  have hz := told_size k T.reverse
  rw [List.length_reverse] at hz
  have h5 : 5 ^ T.length ≤ 5 ^ 4 := Nat.pow_le_pow_right (by decide) hT
  have hlen : (sortL ((told h T).map (·.1))).length ≤ 3000 := by
    rw [sortL_len, List.length_map]
    unfold told
    omega
  have hc := camN_le T.reverse
  rw [List.length_reverse] at hc
  have r4 := t_sure (sortL ((told h T).map (·.1))) (camN T.reverse) (by omega) told_lens (fun y hy => by
    obtain ⟨x, hx, rfl⟩ := List.mem_map.mp (sortL_mem.mp hy)
    exact told_vals k _ x hx) hlen
  rw [sortS_eq] at r1 r2
  have g1 := good_strs (sortL ((told h T).map (·.1)))
  have g2 := good_sure (sortL ((told h T).map (·.1)))
  have v1 := eqv_good g1
  have v2 := eqv_good g2
  have n2' : ∀ d, ¬ x2 = .io d := n2.ni
  generalize sureD (sortL ((told h T).map (·.1))) = su at *
  generalize (sortL ((told h T).map (·.1))).map strD = du at *
  have g3 := good_seen T
  have g4 := eqv_seen T []
  have e0 : seenD [] = .tup [] := rfl
  by_cases hn : T = []
  · refine ⟨T, a, b, .val (.lst du), .inr ⟨_, rfl⟩, hT, hk, b1, b2, ?_⟩
    subst hn
    rw [e0] at *
    generalize h.d = hd at *
    rw [aB_eq]
    simp [LIM, Function.comp_def, conD, runD, evalSs, evalS, evalE, evalL, evalA, evalAnd, evalOr, evalI, evalJ, evalH, seqR, seqD, isSeqE, partR, partD, entry, iosAt, parS, gather, iosOf, callR, putIos, binD, cmpD, ixD, atI, ixN, slD, isiD, D.ty, boolsOf, wipeE, plainAt, backE, lend, Env.hide, SV.hide, SV.isOwn, SV.dat, SV.put, ownAt, shutE, ixD', compF, ofO, R.bind, R.bindB, R.toS, R.toSB, RS.bind, bq_len, bq_abs, bq_min, bq_max, bq_int, bq_all, bq_sorted, bq_list, bq_tuple, bLen, bAbs, bMin, bMax, bInt, bAll, bSorted, bList, bTuple, setS_ok, bindT_ok, bindT_tp, bindTs, q_law_law_due, q_law_strengths_told, q_law_surely_told, q_law_law_sure, r1, r2, r3, r4, g1, g2, g3, g4, v1, v2, n2']
  · obtain ⟨T', a', b', e5, l5, k5, c1, c2⟩ := t_bent a b T hn (by omega) hk b1 b2
    refine ⟨T', a', b', .val (.lst du), .inr ⟨_, rfl⟩, by omega, k5, c1, c2, ?_⟩
    rw [e0] at g4
    have gz : (D.tup []).good = true := by decide +kernel
    have g4 : D.eqv (seenD T) (.tup []) = false := by rw [g4]; exact decide_eq_false hn
    generalize seenD T = td at *
    generalize seenD T' = td' at *
    generalize h.d = hd at *
    rw [aB_eq]
    simp [LIM, Function.comp_def, conD, runD, evalSs, evalS, evalE, evalL, evalA, evalAnd, evalOr, evalI, evalJ, evalH, seqR, seqD, isSeqE, partR, partD, entry, iosAt, parS, gather, iosOf, callR, putIos, binD, cmpD, ixD, atI, ixN, slD, isiD, D.ty, boolsOf, wipeE, plainAt, backE, lend, Env.hide, SV.hide, SV.isOwn, SV.dat, SV.put, ownAt, shutE, ixD', compF, ofO, R.bind, R.bindB, R.toS, R.toSB, RS.bind, bq_len, bq_abs, bq_min, bq_max, bq_int, bq_all, bq_sorted, bq_list, bq_tuple, bLen, bAbs, bMin, bMax, bInt, bAll, bSorted, bList, bTuple, setS_ok, bindT_ok, bindT_tp, bindTs, q_law_law_due, q_law_strengths_told, q_law_surely_told, q_law_law_sure, q_law_law_bent, r1, r2, r3, r4, e5, g1, g2, g3, g4, gz, v1, v2, n2']
theorem again_loop {h : Hl} (k : h.Ok) (hh : isHall h.d = true) {T : List Sn} (hT : T.length ≤ 4) (hk : ∀ b ∈ T, SnOk b) {fz kk : D} {a b : Int} {x1 x2 x5 x8 : SV} (n1 : PN x1) (n2 : PN x2) (b1 : 0 ≤ b) (b2 : b < 2147483648) :
    ∃ (T' : List Sn) (a' b' : Int) (y1 y2 : SV), PN y1 ∧ PN y2 ∧ 0 ≤ b' ∧ b' < 2147483648 ∧ forL (evalSs GW FU aB) (.nm 1) (rangeD 0 2) [.val fz, x1, x2, .val h.d, .val kk, x5, .val (seenD T), .own (.lst [.int a, .int b]), x8] =
      .nxt [.val fz, y1, y2, .val h.d, .val kk, x5, .val (seenD T'), .own (.lst [.int a', .int b']), x8] := by
  obtain ⟨ρ', e, T', a', b', y1, y2, h1, p1, p2, _, _, c1, c2⟩ := forL_inv (f := evalSs GW FU aB) (t := .nm 1) (fun i ρ => ∃ (T : List Sn) (a b : Int) (x1 x2 : SV), ρ = [.val fz, x1, x2, .val h.d, .val kk, x5, .val (seenD T), .own (.lst [.int a, .int b]), x8] ∧ PN x1 ∧ PN x2 ∧ T.length ≤ 4 ∧ (∀ b ∈ T, SnOk b) ∧ 0 ≤ b ∧ b < 2147483648) (ds := rangeD 0 2) (ρ := [.val fz, x1, x2, .val h.d, .val kk, x5, .val (seenD T), .own (.lst [.int a, .int b]), x8]) 0
    ⟨T, a, b, x1, x2, rfl, n1, n2, hT, hk, b1, b2⟩ (by
    rintro i d hd ρ ⟨T, a, b, x1, x2, rfl, n1, n2, hT, hk, b1, b2⟩
    obtain ⟨T', a', b', y2, p2, l', k', c1, c2, et⟩ := again_turn k hh hT hk (fz := fz) (kk := kk) (x1 := .val d) (x5 := x5) (x8 := x8) (a := a) n2 b1 b2
    exact ⟨_, _, bindT_ok (i := 1) (by simp) (by simpa [NI] using n1.ni), et, T', a', b', .val d, y2, rfl, .inr ⟨_, rfl⟩, p2, l', k', c1, c2⟩)
  subst h1
  exact ⟨T', a', b', y1, y2, p1, p2, c1, c2, e⟩
theorem row_turn {fz kk : D} {a b : Int} {x1 x2 x3 x5 x6 x8 : SV} (n1 : PN x1) (n2 : PN x2) (n3 : PN x3) (n5 : PN x5) (n6 : PN x6) (b1 : 0 ≤ b) (b2 : b < 2147483648) :
    ∃ (a' b' : Int) (y1 y2 y5 y6 : SV) (h : Hl), h.Ok ∧ isHall h.d = true ∧ PN y1 ∧ PN y2 ∧ PN y5 ∧ PN y6 ∧ 0 ≤ b' ∧ b' < 2147483648 ∧ evalSs GW FU tB [.val fz, x1, x2, x3, .val kk, x5, x6, .own (.lst [.int a, .int b]), x8] =
      .nxt [.val fz, y1, y2, .val h.d, .val kk, y5, y6, .own (.lst [.int a', .int b']), x8] := by
  obtain ⟨hd0, a1, b1', e1, hh, ph, _, p1, q1⟩ := t_made a b 3 (by decide) (by decide) b1 b2
  obtain ⟨h, rfl, ok⟩ := isHall_elim hh
  obtain ⟨r, a3, b3', e3', hr, pr, ⟨ds, rd, hds⟩, p3, q3⟩ := t_madeRow a1 b1' h.top 4 ok.t1 ok.t4 (by decide) (by decide) p1 q1
  obtain ⟨row, rfl, hl⟩ := isRow_elim hr
  have hl4 : row.length ≤ 4 := by
    injection rd with rd
    rw [← rd, List.length_map] at hds
    omega
  have r1 := t_seen h ok row hl
  obtain ⟨T', a', b', y1, y2, m1, m2, c1, c2, el⟩ := again_loop ok hh (T := seenOf h row) (by rw [seen_len]; exact hl4) (seen_ok ok (by omega)) (fz := fz) (kk := kk) (a := a3) (b := b3') (x5 := .val (.tup (row.map patD))) (x8 := x8) n1 n2 p3 q3
  refine ⟨a', b', y1, y2, .val (.tup (row.map patD)), .val (seenD T'), h, ok, hh, m1, m2, .inr ⟨_, rfl⟩, .inr ⟨_, rfl⟩, c1, c2, ?_⟩
  have n3' : ∀ d, ¬ x3 = .io d := n3.ni
  have n5' : ∀ d, ¬ x5 = .io d := n5.ni
  have n6' : ∀ d, ¬ x6 = .io d := n6.ni
  generalize seenD (seenOf h row) = sd at *
  generalize row.map patD = rw' at *
  rw [tB_eq]
  unfold Hl.d at *
  simp [LIM, Function.comp_def, conD, runD, evalSs, evalS, evalE, evalL, evalA, evalAnd, evalOr, evalI, evalJ, evalH, seqR, seqD, isSeqE, partR, partD, entry, iosAt, parS, gather, iosOf, callR, putIos, binD, cmpD, ixD, atI, ixN, slD, isiD, D.ty, boolsOf, wipeE, plainAt, backE, lend, Env.hide, SV.hide, SV.isOwn, SV.dat, SV.put, ownAt, shutE, ixD', compF, ofO, R.bind, R.bindB, R.toS, R.toSB, RS.bind, bq_len, bq_abs, bq_min, bq_max, bq_int, bq_all, bq_sorted, bq_list, bq_tuple, bLen, bAbs, bMin, bMax, bInt, bAll, bSorted, bList, bTuple, setS_ok, bindT_ok, bindT_tp, bindTs, q_law_law_hall, q_law_law_row, q_law_law_seen, e1, e3', r1, el, n3', n5', n6']
theorem rows_loop {fz kk : D} {a b : Int} {x1 x2 x3 x5 x6 x8 : SV} (n1 : PN x1) (n2 : PN x2) (n3 : PN x3) (n5 : PN x5) (n6 : PN x6) (n8 : PN x8) (b1 : 0 ≤ b) (b2 : b < 2147483648) :
    ∃ (a' b' : Int) (y1 y2 y5 y6 y8 : SV) (h : Hl), h.Ok ∧ isHall h.d = true ∧ PN y1 ∧ PN y2 ∧ PN y5 ∧ PN y6 ∧ PN y8 ∧ forL (evalSs GW FU tB) (.nm 8) (rangeD 0 2) [.val fz, x1, x2, x3, .val kk, x5, x6, .own (.lst [.int a, .int b]), x8] =
      .nxt [.val fz, y1, y2, .val h.d, .val kk, y5, y6, .own (.lst [.int a', .int b']), y8] := by
  obtain ⟨ρ', e, a', b', y1, y2, y3, y5, y6, y8, h1, p1, p2, p3, p5, p6, p8, c1, c2, hh⟩ := forL_inv (f := evalSs GW FU tB) (t := .nm 8) (fun i ρ => ∃ (a b : Int) (x1 x2 x3 x5 x6 x8 : SV), ρ = [.val fz, x1, x2, x3, .val kk, x5, x6, .own (.lst [.int a, .int b]), x8] ∧ PN x1 ∧ PN x2 ∧ PN x3 ∧ PN x5 ∧ PN x6 ∧ PN x8 ∧ 0 ≤ b ∧ b < 2147483648 ∧ (0 < i → ∃ h : Hl, h.Ok ∧ isHall h.d = true ∧ x3 = .val h.d)) (ds := rangeD 0 2) (ρ := [.val fz, x1, x2, x3, .val kk, x5, x6, .own (.lst [.int a, .int b]), x8]) 0
    ⟨a, b, x1, x2, x3, x5, x6, x8, rfl, n1, n2, n3, n5, n6, n8, b1, b2, fun z => absurd z (Nat.lt_irrefl 0)⟩ (by
    rintro i d hd ρ ⟨a, b, x1, x2, x3, x5, x6, x8, rfl, n1, n2, n3, n5, n6, n8, b1, b2, _⟩
    obtain ⟨a', b', y1, y2, y5, y6, h, ok, hh, m1, m2, m5, m6, c1, c2, et⟩ := row_turn (fz := fz) (kk := kk) (x8 := .val d) (a := a) (b := b) n1 n2 n3 n5 n6 b1 b2
    exact ⟨_, _, bindT_ok (i := 8) (by simp) (by simpa [NI] using n8.ni), et, a', b', y1, y2, .val h.d, y5, y6, .val d, rfl, m1, m2, .inr ⟨_, rfl⟩, m5, m6, .inr ⟨_, rfl⟩, c1, c2, fun _ => ⟨h, ok, hh, rfl⟩⟩)
  obtain ⟨h, ok, hi, rfl⟩ := hh (by decide)
  subst h1
  exact ⟨a', b', y1, y2, y5, y6, y8, h, ok, hi, p1, p2, p5, p6, p8, e⟩
theorem cell_turn {fz : List Int} {k : Nat} {x1 x2 x3 x5 x6 x7 x8 : SV} (n1 : PN x1) (n2 : PN x2) (n3 : PN x3) (n5 : PN x5) (n6 : PN x6) (n7 : NI x7) (n8 : PN x8) :
    ∃ y1 y2 y3 y5 y6 y7 y8, PN y1 ∧ PN y2 ∧ PN y3 ∧ PN y5 ∧ PN y6 ∧ NI y7 ∧ PN y8 ∧
      evalSs GW FU body1 [.val (.frz (fz.map D.int)), x1, x2, x3, .val (.int k), x5, x6, x7, x8] = .nxt [.val (.frz (fz.map D.int)), y1, y2, y3, .val (.int k), y5, y6, y7, y8] := by
  obtain ⟨a, b, e0, b1, b2⟩ := t_source fz k (by omega)
  obtain ⟨a', b', y1, y2, y5, y6, y8, h, ok, hh, m1, m2, m5, m6, m8, e1⟩ := rows_loop (fz := .frz (fz.map D.int)) (kk := .int k) (a := a) (b := b) n1 n2 n3 n5 n6 n8 b1 b2
  have e2 := t_allref h ok hh
  refine ⟨y1, y2, .val h.d, y5, y6, .own (.lst [.int a', .int b']), y8, m1, m2, .inr ⟨_, rfl⟩, m5, m6, ni_own _, m8, ?_⟩
  have n7' : ∀ d, ¬ x7 = .io d := n7
  generalize h.d = hd at *
  generalize D.frz (fz.map D.int) = fd at *
  rw [body1_eq]
  simp [LIM, Function.comp_def, conD, runD, evalSs, evalS, evalE, evalL, evalA, evalAnd, evalOr, evalI, evalJ, evalH, seqR, seqD, isSeqE, partR, partD, entry, iosAt, parS, gather, iosOf, callR, putIos, binD, cmpD, ixD, atI, ixN, slD, isiD, D.ty, boolsOf, wipeE, plainAt, backE, lend, Env.hide, SV.hide, SV.isOwn, SV.dat, SV.put, ownAt, shutE, ixD', compF, ofO, R.bind, R.bindB, R.toS, R.toSB, RS.bind, bq_len, bq_abs, bq_min, bq_max, bq_int, bq_all, bq_sorted, bq_list, bq_tuple, bLen, bAbs, bMin, bMax, bInt, bAll, bSorted, bList, bTuple, setS_ok, bindT_ok, bindT_tp, bindTs, q_law_law_source, q_law_law_all_refused, e0, e1, e2, n7']
theorem cells_loop (fz : List Int) (n : Nat) : ∃ y1 y2 y3 y4 y5 y6 y7 y8, forL (evalSs GW FU body1) (.nm 4) (rangeD 0 n) [.val (.frz (fz.map D.int)), .no, .no, .no, .no, .no, .no, .no, .no] = .nxt [.val (.frz (fz.map D.int)), y1, y2, y3, y4, y5, y6, y7, y8] := by
  obtain ⟨ρ', e, y1, y2, y3, y4, y5, y6, y7, y8, h1, _⟩ := forL_inv (f := evalSs GW FU body1) (t := .nm 4) (fun i ρ => ∃ y1 y2 y3 y4 y5 y6 y7 y8, ρ = [.val (.frz (fz.map D.int)), y1, y2, y3, y4, y5, y6, y7, y8] ∧ PN y1 ∧ PN y2 ∧ PN y3 ∧ PN y4 ∧ PN y5 ∧ PN y6 ∧ NI y7 ∧ PN y8) (ds := rangeD 0 n) (ρ := [.val (.frz (fz.map D.int)), .no, .no, .no, .no, .no, .no, .no, .no]) 0
    ⟨.no, .no, .no, .no, .no, .no, .no, .no, rfl, .inl rfl, .inl rfl, .inl rfl, .inl rfl, .inl rfl, .inl rfl, ni_no, .inl rfl⟩ (by
    rintro i d hd ρ ⟨x1, x2, x3, x4, x5, x6, x7, x8, rfl, n1, n2, n3, n4, n5, n6, n7, n8⟩
    obtain ⟨hi, rfl⟩ := range_getL hd
    obtain ⟨y1, y2, y3, y5, y6, y7, y8, m1, m2, m3, m5, m6, m7, m8, et⟩ := cell_turn (fz := fz) (k := i) n1 n2 n3 n5 n6 n7 n8
    refine ⟨_, _, bindT_ok (i := 4) (by simp) (by simpa [NI] using n4.ni), ?_, y1, y2, y3, .val (.int i), y5, y6, y7, y8, rfl, m1, m2, m3, .inr ⟨_, rfl⟩, m5, m6, m7, m8⟩
    simp only [List.set_cons_succ, List.set_cons_zero, Int.zero_add]
    exact et)
  subst h1
  exact ⟨y1, y2, y3, y4, y5, y6, y7, y8, e⟩
theorem written : c_law_written_right [] = .ok (.bl true, false) [] := by kernel_rfl
theorem law_true : ∀ ns : List Int, ns.length ≤ 63 → c_law [.val (.frz (ns.map D.int))] = .ok (.bl true, false) [] := by
  intro ns hl
  obtain ⟨n, hn⟩ : ∃ n : Nat, n = (1 + (if (8 : Int) < ns.length then 8 else (ns.length : Int))).toNat := ⟨_, rfl⟩
  obtain ⟨y1, y2, y3, y4, y5, y6, y7, y8, e⟩ := cells_loop ns n
  have hz : -4611686018427387904 ≤ 1 + (if (8 : Int) < ns.length then 8 else (ns.length : Int)) ∧ 1 + (if (8 : Int) < ns.length then 8 else (ns.length : Int)) < 4611686018427387904 := by split <;> omega
  rw [hn] at e
  have wr := written
  simp [c_law, b_law_eq, LIM, Function.comp_def, conD, runD, evalSs, evalS, evalE, evalL, evalA, evalAnd, evalOr, evalI, evalJ, evalH, seqR, seqD, isSeqE, partR, partD, entry, iosAt, parS, gather, iosOf, callR, putIos, binD, cmpD, ixD, atI, ixN, slD, isiD, D.ty, boolsOf, wipeE, plainAt, backE, lend, Env.hide, SV.hide, SV.isOwn, SV.dat, SV.put, ownAt, shutE, ixD', compF, ofO, R.bind, R.bindB, R.toS, R.toSB, RS.bind, bq_len, bq_abs, bq_min, bq_max, bq_int, bq_all, bq_sorted, bq_list, bq_tuple, bLen, bAbs, bMin, bMax, bInt, bAll, bSorted, bList, bTuple, setS_ok, bindT_ok, bindT_tp, bindTs, hz, e, q_law_law_written_right, wr]
end W2

open PySem PySem.W PyProof.Rows
set_option maxHeartbeats 0 in
theorem PySem.Challenge.cw_widerpairs_k09_whole_strengths_told_back_holds : PySem.Challenge.rw_widerpairs_k09_whole_strengths_told_back.Holds := by
  w_on; o_law; k_head; (case hw => w_witness2)
  k_fill
  refine W2.walk_law (l := PySem.Challenge.rw_widerpairs_k09_whole_strengths_told_back) (k := 36) (x := "_law_script") ⟨rfl, by decide, by decide⟩ rfl rfl (fun w h Y => PySem.W.kIn_of Y) ?F
  case F =>
    intro w mg fa h KX G hmg
    refine' W2.all_mk KX G hmg ?a0 ?l0 ?c0 ?k0 ?a1 ?l1 ?c1 ?k1 ?a2 ?l2 ?c2 ?k2 ?a3 ?l3 ?c3 ?k3 ?a4 ?l4 ?c4 ?k4 ?a5 ?l5 ?c5 ?k5 ?a6 ?l6 ?c6 ?k6 ?a7 ?l7 ?c7 ?k7 ?a8 ?l8 ?c8 ?k8 ?a9 ?l9 ?c9 ?k9 ?a10 ?l10 ?c10 ?k10 ?a11 ?l11 ?c11 ?k11 ?a12 ?l12 ?c12 ?k12 ?a13 ?l13 ?c13 ?k13 ?a14 ?l14 ?c14 ?k14 ?a15 ?l15 ?c15 ?k15 ?a16 ?l16 ?c16 ?k16 ?a17 ?l17 ?c17 ?k17 ?a18 ?l18 ?c18 ?k18 ?a19 ?l19 ?c19 ?k19 ?a20 ?l20 ?c20 ?k20 ?a21 ?l21 ?c21 ?k21 ?a22 ?l22 ?c22 ?k22 ?a23 ?l23 ?c23 ?k23 ?a24 ?l24 ?c24 ?k24 ?a25 ?l25 ?c25 ?k25 ?a26 ?l26 ?c26 ?k26 ?a27 ?l27 ?c27 ?k27 ?a28 ?l28 ?c28 ?k28 ?a29 ?l29 ?c29 ?k29 ?a30 ?l30 ?c30 ?k30 ?a31 ?l31 ?c31 ?k31 ?a32 ?l32 ?c32 ?k32 ?a33 ?l33 ?c33 ?k33 ?a34 ?l34 ?c34 ?k34 ?a35 ?l35 ?c35 ?k35 ?v0 ?w0 ?v1 ?w1 ?v2 ?v3 ?v4 ?v5 ?x0 ?xe0 ?xk0 ?xb0 ?xt0 ?xc0 ?x1 ?xe1 ?xk1 ?xb1 ?xt1 ?xc1 ?y0 ?y1 ?z0 ?z1 ?z2 ?z3 ?z4 ?z5 ?z6 ?z7 ?z8 ?z9 ?z10 ?z11 ?z12 ?z13 ?z14 ?z15 ?z16 ?z17 ?z18 W2.law_true
    (case a0 => k_is)
    (case l0 => k_is)
    (case c0 => k_is)
    (case k0 => k_is)
    (case a1 => k_is)
    (case l1 => k_is)
    (case c1 => k_is)
    (case k1 => k_is)
    (case a2 => k_is)
    (case l2 => k_is)
    (case c2 => k_is)
    (case k2 => k_is)
    (case a3 => k_is)
    (case l3 => k_is)
    (case c3 => k_is)
    (case k3 => k_is)
    (case a4 => k_is)
    (case l4 => k_is)
    (case c4 => k_is)
    (case k4 => k_is)
    (case a5 => k_is)
    (case l5 => k_is)
    (case c5 => k_is)
    (case k5 => k_is)
    (case a6 => k_is)
    (case l6 => k_is)
    (case c6 => k_is)
    (case k6 => k_is)
    (case a7 => k_is)
    (case l7 => k_is)
    (case c7 => k_is)
    (case k7 => k_is)
    (case a8 => k_is)
    (case l8 => k_is)
    (case c8 => k_is)
    (case k8 => k_is)
    (case a9 => k_is)
    (case l9 => k_is)
    (case c9 => k_is)
    (case k9 => k_is)
    (case a10 => k_is)
    (case l10 => k_is)
    (case c10 => k_is)
    (case k10 => k_is)
    (case a11 => k_is)
    (case l11 => k_is)
    (case c11 => k_is)
    (case k11 => k_is)
    (case a12 => k_is)
    (case l12 => k_is)
    (case c12 => k_is)
    (case k12 => k_is)
    (case a13 => k_is)
    (case l13 => k_is)
    (case c13 => k_is)
    (case k13 => k_is)
    (case a14 => k_is)
    (case l14 => k_is)
    (case c14 => k_is)
    (case k14 => k_is)
    (case a15 => k_is)
    (case l15 => k_is)
    (case c15 => k_is)
    (case k15 => k_is)
    (case a16 => k_is)
    (case l16 => k_is)
    (case c16 => k_is)
    (case k16 => k_is)
    (case a17 => k_is)
    (case l17 => k_is)
    (case c17 => k_is)
    (case k17 => k_is)
    (case a18 => k_is)
    (case l18 => k_is)
    (case c18 => k_is)
    (case k18 => k_is)
    (case a19 => k_is)
    (case l19 => k_is)
    (case c19 => k_is)
    (case k19 => k_is)
    (case a20 => k_is)
    (case l20 => k_is)
    (case c20 => k_is)
    (case k20 => k_is)
    (case a21 => k_is)
    (case l21 => k_is)
    (case c21 => k_is)
    (case k21 => k_is)
    (case a22 => k_is)
    (case l22 => k_is)
    (case c22 => k_is)
    (case k22 => k_is)
    (case a23 => k_is)
    (case l23 => k_is)
    (case c23 => k_is)
    (case k23 => k_is)
    (case a24 => k_is)
    (case l24 => k_is)
    (case c24 => k_is)
    (case k24 => k_is)
    (case a25 => k_is)
    (case l25 => k_is)
    (case c25 => k_is)
    (case k25 => k_is)
    (case a26 => k_is)
    (case l26 => k_is)
    (case c26 => k_is)
    (case k26 => k_is)
    (case a27 => k_is)
    (case l27 => k_is)
    (case c27 => k_is)
    (case k27 => k_is)
    (case a28 => k_is)
    (case l28 => k_is)
    (case c28 => k_is)
    (case k28 => k_is)
    (case a29 => k_is)
    (case l29 => k_is)
    (case c29 => k_is)
    (case k29 => k_is)
    (case a30 => k_is)
    (case l30 => k_is)
    (case c30 => k_is)
    (case k30 => k_is)
    (case a31 => k_is)
    (case l31 => k_is)
    (case c31 => k_is)
    (case k31 => k_is)
    (case a32 => k_is)
    (case l32 => k_is)
    (case c32 => k_is)
    (case k32 => k_is)
    (case a33 => k_is)
    (case l33 => k_is)
    (case c33 => k_is)
    (case k33 => k_is)
    (case a34 => k_is)
    (case l34 => k_is)
    (case c34 => k_is)
    (case k34 => k_is)
    (case a35 => k_is)
    (case l35 => k_is)
    (case c35 => k_is)
    (case k35 => k_is)
    (case v0 => k_is)
    (case w0 => k_is)
    (case v1 => k_is)
    (case w1 => k_is)
    (case v2 => k_is)
    (case v3 => k_is)
    (case v4 => k_is)
    (case v5 => k_is)
    (case x0 => k_is)
    (case xe0 => k_exc)
    (case xk0 => k_is)
    (case xb0 => k_is)
    (case xt0 => k_is)
    (case xc0 => k_is)
    (case x1 => k_is)
    (case xe1 => k_exc)
    (case xk1 => k_is)
    (case xb1 => k_is)
    (case xt1 => k_is)
    (case xc1 => k_is)
    (case y0 => first | rfl | k_is)
    (case y1 => first | rfl | k_is)
    (case z0 => k_is)
    (case z1 => k_is)
    (case z2 => k_is)
    (case z3 => k_is)
    (case z4 => k_is)
    (case z5 => k_is)
    (case z6 => k_is)
    (case z7 => k_is)
    (case z8 => k_is)
    (case z9 => k_is)
    (case z10 => k_is)
    (case z11 => k_is)
    (case z12 => k_is)
    (case z13 => k_is)
    (case z14 => k_is)
    (case z15 => k_is)
    (case z16 => k_is)
    (case z17 => k_is)
    (case z18 => k_is)
#print axioms PySem.Challenge.cw_widerpairs_k09_whole_strengths_told_back_holds

