import PyProof.Rows.All
import HandS.ForMost
import HandS.ForExc
import HandS.TryMany
import HandS.ExcInit
import HandS.ExcIs
import HandS.ExcField
import HandS.Star
import HandS.Flow
import HandS.HeadHook2
import KE.KDictKeyed
import KE.KDictDisplayH
import KE.KDictCopyH
import HandS.Walk
import HandS.TupAny
import HandS.TupMul
import HandS.TupLe
import HandS.Deep
import HandS.Style
import KE.LtSeq
import KE.KDictLaws
import HandS.Comp
import KE.GoesEnum
import HandS.IsInst
import HandS.Text
import HandS.More
import HandS.SetFor
import HandS.ReCall
import HandS.RaiseMore
import HandS.HeadHook4
import HandS.HeadEnd
import HandS.Head0
import HandS.Head1
import HandS.Head2
import PySem.Challenge.RW_fewclash_k66_texts_by_hand_and_refused
set_option Elab.async false
set_option linter.all false
set_option maxRecDepth 100000
section
namespace FC
open PySem PySem.Spec PyProof.Rows L2

/-- a value of the evaluator -/
inductive D where
  | non | bl (b : Bool) | int (i : Int) | str (x : Str)
  | tup (ds : List D)
  | rol (ds : List D)
  | loc (l : Nat)
  | ty (n : String)
  | fn (f : Nat)
  | cls (c : Nat)

/-- a mutable object -/
inductive LO where
  | lst (ds : List D)
  | dic (kvs : List (D × D))
  | ins (c : Nat) (fs : List (Nat × D))
  | lck (o : LO)

/-- a tree by the binary places of a number -/
inductive T where
  | nil
  | node (o : Option LO) (l r : T)

namespace T
def get : T → Nat → Option LO
  | nil, _ => none
  | node o l r, k => bif Nat.beq k 0 then o else bif Nat.beq (k % 2) 1 then l.get (k / 2) else r.get (k / 2 - 1)
def put : Nat → T → Nat → LO → T
  | 0, t, _, _ => t
  | f + 1, nil, k, x => bif Nat.beq k 0 then node (some x) nil nil else bif Nat.beq (k % 2) 1 then node none (put f nil (k / 2) x) nil else node none nil (put f nil (k / 2 - 1) x)
  | f + 1, node o l r, k, x => bif Nat.beq k 0 then node (some x) l r else bif Nat.beq (k % 2) 1 then node o (put f l (k / 2) x) r else node o l (put f r (k / 2 - 1) x)
/-- the same, each part made at once -/
def putC {R : Type} : Nat → T → Nat → LO → (T → R) → R
  | 0, t, _, _, c => c t
  | f + 1, nil, k, x, c => bif Nat.beq k 0 then c (node (some x) nil nil) else bif Nat.beq (k % 2) 1 then putC f nil (k / 2) x fun t => c (node none t nil) else putC f nil (k / 2 - 1) x fun t => c (node none nil t)
  | f + 1, node o l r, k, x, c => bif Nat.beq k 0 then c (node (some x) l r) else bif Nat.beq (k % 2) 1 then putC f l (k / 2) x fun t => c (node o t r) else putC f r (k / 2 - 1) x fun t => c (node o l t)
theorem putC_eq {R : Type} : ∀ (f : Nat) (t : T) (k : Nat) (x : LO) (c : T → R), putC f t k x c = c (put f t k x)
  | 0, _, _, _, _ => rfl
  | f + 1, nil, k, x, c => by
    rw [putC, put, putC_eq f, putC_eq f]
    cases Nat.beq k 0 <;> cases Nat.beq (k % 2) 1 <;> rfl
  | f + 1, node o l r, k, x, c => by
    rw [putC, put, putC_eq f, putC_eq f]
    cases Nat.beq k 0 <;> cases Nat.beq (k % 2) 1 <;> rfl
theorem get_nil (k : Nat) : nil.get k = none := by unfold get; rfl
theorem get_node (o : Option LO) (l r : T) (k : Nat) : (node o l r).get k = if k = 0 then o else if k % 2 = 1 then l.get (k / 2) else r.get (k / 2 - 1) := by
  rw [get]
  by_cases h : k = 0
  · subst h; rfl
  · rw [if_neg h]
    have : Nat.beq k 0 = false := by cases k with | zero => exact absurd rfl h | succ n => rfl
    rw [this]
    by_cases h2 : k % 2 = 1
    · rw [if_pos h2, h2]; rfl
    · rw [if_neg h2]
      have : Nat.beq (k % 2) 1 = false := by
        rw [show k % 2 = 0 by omega]; rfl
      rw [this]; rfl
theorem put_nil (f k : Nat) (x : LO) : put (f + 1) nil k x = put (f + 1) (node none nil nil) k x := by
  rw [put, put]
theorem put_node (f k : Nat) (x : LO) (o : Option LO) (l r : T) : put (f + 1) (node o l r) k x = if k = 0 then node (some x) l r else if k % 2 = 1 then node o (put f l (k / 2) x) r else node o l (put f r (k / 2 - 1) x) := by
  rw [put]
  by_cases h : k = 0
  · subst h; rfl
  · rw [if_neg h]
    have : Nat.beq k 0 = false := by cases k with | zero => exact absurd rfl h | succ n => rfl
    rw [this]
    by_cases h2 : k % 2 = 1
    · rw [if_pos h2, h2]; rfl
    · rw [if_neg h2]
      have : Nat.beq (k % 2) 1 = false := by
        rw [show k % 2 = 0 by omega]; rfl
      rw [this]; rfl
theorem get_put_node {f : Nat} (ih : ∀ (t : T) (k j : Nat) (x : LO), k + 1 < 2 ^ f → (put f t k x).get j = if j = k then some x else t.get j) (o : Option LO) (l r : T) (k j : Nat) (x : LO) (h : k + 1 < 2 ^ (f + 1)) :
    (put (f + 1) (node o l r) k x).get j = if j = k then some x else (node o l r).get j := by
  rw [put_node]
  have hp : 2 ^ (f + 1) = 2 * 2 ^ f := by rw [Nat.pow_succ]; omega
  by_cases h0 : k = 0
  · subst h0
    rw [if_pos rfl, get_node]
    by_cases hj : j = 0
    · rw [if_pos hj, if_pos hj]
    · rw [if_neg hj, if_neg hj, get_node, if_neg hj]
  · rw [if_neg h0]
    by_cases h1 : k % 2 = 1
    · rw [if_pos h1, get_node]
      by_cases hj : j = 0
      · rw [if_pos hj, if_neg (by omega), get_node, if_pos hj]
      · rw [if_neg hj]
        by_cases hj1 : j % 2 = 1
        · rw [if_pos hj1, ih _ _ _ _ (by omega)]
          by_cases e : j = k
          · subst e; rw [if_pos rfl, if_pos rfl]
          · rw [if_neg (by omega), if_neg e, get_node, if_neg hj, if_pos hj1]
        · rw [if_neg hj1, if_neg (by rintro rfl; exact hj1 h1), get_node, if_neg hj, if_neg hj1]
    · rw [if_neg h1, get_node]
      by_cases hj : j = 0
      · rw [if_pos hj, if_neg (by omega), get_node, if_pos hj]
      · rw [if_neg hj]
        by_cases hj1 : j % 2 = 1
        · rw [if_pos hj1, if_neg (by rintro rfl; exact h1 hj1), get_node, if_neg hj, if_pos hj1]
        · rw [if_neg hj1, ih _ _ _ _ (by omega)]
          by_cases e : j = k
          · subst e; rw [if_pos rfl, if_pos rfl]
          · rw [if_neg (by omega), if_neg e, get_node, if_neg hj, if_neg hj1]
theorem get_put : ∀ (f : Nat) (t : T) (k j : Nat) (x : LO), k + 1 < 2 ^ f → (put f t k x).get j = if j = k then some x else t.get j
  | 0, _, _, _, _, h => by simp at h
  | f + 1, node o l r, k, j, x, h => get_put_node (get_put f) o l r k j x h
  | f + 1, nil, k, j, x, h => by
    rw [put_nil, get_put_node (get_put f) none nil nil k j x h, get_nil, get_node]
    by_cases e : j = k
    · rw [if_pos e, if_pos e]
    · rw [if_neg e, if_neg e]
      by_cases hj : j = 0
      · rw [if_pos hj]
      · rw [if_neg hj, get_nil, get_nil, ite_self]
end T

/-! ### made at once, for the kernel -/
def frcN {R : Type} (n : Nat) (c : Nat → R) : R := match n with
  | 0 => c 0
  | k + 1 => c (k + 1)
theorem frcN_eq {R : Type} (n : Nat) (c : Nat → R) : frcN n c = c n := by cases n <;> rfl
def frcI {R : Type} (i : Int) (c : Int → R) : R := match i with
  | .ofNat n => frcN n fun k => c (.ofNat k)
  | .negSucc n => frcN n fun k => c (.negSucc k)
theorem frcI_eq {R : Type} (i : Int) (c : Int → R) : frcI i c = c i := by cases i <;> (unfold frcI; exact frcN_eq _ _)
def frcL {R : Type} : List D → (List D → R) → R
  | [], c => c []
  | d :: ds, c => frcL ds fun es => c (d :: es)
theorem frcL_eq {R : Type} : ∀ (ds : List D) (c : List D → R), frcL ds c = c ds
  | [], _ => rfl
  | d :: ds, c => by rw [frcL, frcL_eq ds]
/-- the evaluator's heap: how many objects, and these -/
structure LH where
  n : Nat
  t : T
namespace LH
def get (L : LH) (l : Nat) : Option LO := L.t.get l
def big : Nat := 1099511627775
/-- an object stored anew -/
def put (L : LH) (l : Nat) (o : LO) : LH := T.putC 40 L.t l o fun t => ⟨L.n, t⟩
def new (L : LH) (o : LO) : LH := T.putC 40 L.t L.n o fun t => frcN (L.n + 1) fun n => ⟨n, t⟩
theorem put_eq {L : LH} {l : Nat} {o : LO} : L.put l o = ⟨L.n, L.t.put 40 l o⟩ := T.putC_eq ..
theorem new_eq {L : LH} {o : LO} : L.new o = ⟨L.n + 1, L.t.put 40 L.n o⟩ := by unfold new; rw [T.putC_eq, frcN_eq]
theorem get_put {L : LH} {l j : Nat} {o : LO} (h : l < big) : (L.put l o).get j = if j = l then some o else L.get j := by
  rw [put_eq]
  exact T.get_put 40 _ _ _ _ (by rw [show big = 2 ^ 40 - 1 from by decide] at h; omega)
theorem get_new {L : LH} {j : Nat} {o : LO} (h : L.n < big) : (L.new o).get j = if j = L.n then some o else L.get j := by
  rw [new_eq]
  exact T.get_put 40 _ _ _ _ (by rw [show big = 2 ^ 40 - 1 from by decide] at h; omega)
theorem n_put {L : LH} {l : Nat} {o : LO} : (L.put l o).n = L.n := by rw [put_eq]
theorem n_new {L : LH} {o : LO} : (L.new o).n = L.n + 1 := by rw [new_eq]
end LH

/-- what is fixed through a law: where the functions and the classes stand, the fields' names -/
structure GE where
  K : PySem.W.Frag
  P : Program
  w : World
  fa : Nat → Addr
  ca : Nat → Addr
  fnm : List Str

/-- where the mutable objects stand -/
structure M where
  n : Nat
  μ : Nat → Addr

/-- a list that nobody stores into -/
def SqR (K : PySem.W.Frag) (H : Hp) (a : Addr) (xs : List V) : Prop := (∃ o, H a = some (.frz o (.lst xs))) ∨ ∃ (o : Obj) (its : Array Value) (n : Nat), K.lookup a = some o ∧ o.cls = .type "list" ∧ o.dict = none ∧ o.data = .seq its n ∧ its.size ≤ sizeLine ∧ Vals xs its.toList
theorem SqR.sq {K : PySem.W.Frag} {H : Hp} {a : Addr} {xs : List V} (h : SqR K H a xs) : SqL K H a xs := by
  rcases h with ⟨o, h⟩ | h
  · exact .inl (.inr ⟨o, h⟩)
  · exact .inr h
mutual
inductive Rep (g : GE) (m : M) (H : Hp) : D → V → Prop
  | non : Rep g m H .non .non
  | bl (b : Bool) : Rep g m H (.bl b) (.bl b)
  | int (i : Int) : Rep g m H (.int i) (.int i)
  | str (x : Str) : Rep g m H (.str x) (.str x)
  | tup {ds : List D} {a : Addr} {vs : List V} : SqT g.K H a vs → RepL g m H ds vs → Rep g m H (.tup ds) (.ref a)
  | rol {ds : List D} {a : Addr} {vs : List V} : SqR g.K H a vs → RepL g m H ds vs → Rep g m H (.rol ds) (.ref a)
  | loc {l : Nat} : l < m.n → Rep g m H (.loc l) (.ref (m.μ l))
  | ty (n : String) : Rep g m H (.ty n) (.ty n)
  | fn (f : Nat) : Rep g m H (.fn f) (.ref (g.fa f))
  | cls (c : Nat) : Rep g m H (.cls c) (.ref (g.ca c))
inductive RepL (g : GE) (m : M) (H : Hp) : List D → List V → Prop
  | nil : RepL g m H [] []
  | cons {d : D} {v : V} {ds : List D} {vs : List V} : Rep g m H d v → RepL g m H ds vs → RepL g m H (d :: ds) (v :: vs)
end


/-- the key that a value is, if it is one -/
def nkey : D → Option NestedKey
  | .non => some .none
  | .bl b => some (.num (if b = true then 1 else 0))
  | .int i => some (.num i)
  | .str x => some (.text x)
  | .tup ds => (nkeys ds).map .tup
  | _ => none
where nkeys : List D → Option (List NestedKey)
  | [] => some []
  | d :: ds => match nkey d, nkeys ds with
    | some k, some ks => some (k :: ks)
    | _, _ => none
/-- a dict's own object: its entries -/
def dictHO (a : Addr) (es : Array DictEntry) : HO := .ext fun h => ∃ ep, h.DictRaw a es ep
/-- an entry is a row -/
structure EntryIs (g : GE) (m : M) (H : Hp) (r : D × D) (e : DictEntry) : Prop where
  key : ∃ kv k, RelV kv e.key ∧ Rep g m H r.1 kv ∧ nkey r.1 = some k ∧ k.depth ≤ 8 ∧ e.hash = k.hash g.w
  val : ∃ v, RelV v e.val ∧ Rep g m H r.2 v

/-- a key that is a tuple; a key carried by value -/
def isTup : D → Bool
  | .tup _ => true
  | _ => false
def isSc : D → Bool
  | .non => true
  | .int _ => true
  | .str _ => true
  | _ => false
/-- what is true of a dict's rows: not too many, keys of one sort, none twice -/
structure DShape (kvs : List (D × D)) : Prop where
  few : kvs.length ≤ 1000000
  sort : (∀ r ∈ kvs, isTup r.1 = true) ∨ (∀ r ∈ kvs, isSc r.1 = true)
  once : (kvs.map fun r => nkey r.1).Nodup

/-- fields by name -/
def FieldsAre (g : GE) (m : M) (H : Hp) (fs : List (Nat × D)) (fvs : List (Str × V)) : Prop :=
  fvs.length ≤ 200 ∧ ∀ f : Nat, ∀ x : Str, g.fnm[f]? = some x → match fs.lookup f with
    | some d => ∃ v, fvs.lookup x = some v ∧ Rep g m H d v
    | none => fvs.lookup x = none

/-- what an object is -/
def ORep (g : GE) (m : M) (H : Hp) (a : Addr) : LO → Prop
  | .lst ds => ∃ vs, H a = some (.lst vs) ∧ RepL g m H ds vs
  | .dic kvs => (a == sysModules) = false ∧ DShape kvs ∧ ∃ es : Array DictEntry, H a = some (dictHO a es) ∧ Paired (EntryIs g m H) kvs es.toList
  | .ins c fs => ∃ dx fvs, H a = some (.ins (g.ca c) dx fvs) ∧ FieldsAre g m H fs fvs
  | .lck o => ORep g m H a o

def Locked (L : LH) (l : Nat) : Prop := ∃ o, L.get l = some (.lck o)

/-- the evaluator's heap and the abstract one -/
structure HRel (g : GE) (m : M) (L : LH) (H : Hp) : Prop where
  nn : L.n = m.n
  sm : m.n < LH.big
  inj : ∀ l l', l < m.n → l' < m.n → m.μ l = m.μ l' → l = l'
  obj : ∀ l, l < m.n → ∃ o, L.get l = some o ∧ ORep g m H (m.μ l) o

/-- from one state to a later one -/
structure Ext (m : M) (L : LH) (H : Hp) (m' : M) (L' : LH) (H' : Hp) : Prop where
  nn : m.n ≤ m'.n
  μ : ∀ l, l < m.n → m'.μ l = m.μ l
  keep : ∀ a o, H a = some o → (∀ l, l < m.n → m.μ l = a → Locked L l) → H' a = some o
  lk : ∀ l, l < m.n → Locked L l → L'.get l = L.get l
  new : ∀ l, m.n ≤ l → l < m'.n → H (m'.μ l) = none
  live : ∀ a, H' a = none → H a = none
theorem Ext.refl {m : M} {L : LH} {H : Hp} : Ext m L H m L H := ⟨Nat.le_refl _, fun _ _ => rfl, fun _ _ h _ => h, fun _ _ _ => rfl, fun _ h1 h2 => absurd h2 (Nat.not_lt.mpr h1), fun _ h => h⟩
theorem Ext.trans {m1 m2 m3 : M} {L1 L2 L3 : LH} {H1 H2 H3 : Hp} (a : Ext m1 L1 H1 m2 L2 H2) (b : Ext m2 L2 H2 m3 L3 H3) : Ext m1 L1 H1 m3 L3 H3 where
  nn := Nat.le_trans a.nn b.nn
  μ := fun l h => (b.μ l (Nat.lt_of_lt_of_le h a.nn)).trans (a.μ l h)
  keep := fun c o h k => by
    refine b.keep c o (a.keep c o h k) fun l hl e => ?_
    by_cases q : l < m1.n
    · obtain ⟨x, hx⟩ := k l q ((a.μ l q).symm.trans e)
      exact ⟨x, (a.lk l q ⟨x, hx⟩).trans hx⟩
    · have := a.new l (Nat.le_of_not_lt q) hl
      rw [e, h] at this
      cases this
  lk := fun l h k => by
    have e := a.lk l h k
    obtain ⟨x, hx⟩ := k
    exact (b.lk l (Nat.lt_of_lt_of_le h a.nn) ⟨x, e.trans hx⟩).trans e
  new := fun l h1 h2 => by
    by_cases q : l < m2.n
    · rw [b.μ l q]; exact a.new l h1 q
    · exact a.live _ (b.new l (Nat.le_of_not_lt q) h2)
  live := fun c h => a.live c (b.live c h)

section
variable {g : GE} {m m' : M} {L L' : LH} {H H' : Hp}
/-- what a mutable object is not -/
theorem ORep.mut : ∀ {o : LO} {a : Addr}, ORep g m H a o → (∃ vs, H a = some (.lst vs)) ∨ (∃ φ, H a = some (.ext φ)) ∨ ∃ C dx fs, H a = some (.ins C dx fs)
  | .lst _, _, ⟨vs, h, _⟩ => .inl ⟨vs, h⟩
  | .dic _, _, ⟨_, _, _, h, _⟩ => .inr (.inl ⟨_, h⟩)
  | .ins _ _, _, ⟨dx, fvs, h, _⟩ => .inr (.inr ⟨_, dx, fvs, h⟩)
  | .lck o, a, h => ORep.mut (o := o) h
theorem HRel.not_tup (R : HRel g m L H) {a : Addr} {vs : List V} (h : H a = some (.tup vs)) : ∀ l, l < m.n → m.μ l ≠ a := fun l hl e => by
  obtain ⟨o, _, q⟩ := R.obj l hl
  rw [e] at q
  rcases q.mut with ⟨_, q⟩ | ⟨_, q⟩ | ⟨_, _, _, q⟩ <;> rw [h] at q <;> cases q
theorem HRel.not_frz (R : HRel g m L H) {a : Addr} {o : Obj} {u : HO} (h : H a = some (.frz o u)) : ∀ l, l < m.n → m.μ l ≠ a := fun l hl e => by
  obtain ⟨o, _, q⟩ := R.obj l hl
  rw [e] at q
  rcases q.mut with ⟨_, q⟩ | ⟨_, q⟩ | ⟨_, _, _, q⟩ <;> rw [h] at q <;> cases q
theorem Ext.tup (e : Ext m L H m' L' H') (R : HRel g m L H) {a : Addr} {vs : List V} (h : SqT g.K H a vs) : SqT g.K H' a vs := by
  rcases h with (h | ⟨o, h⟩) | h
  · exact .inl (.inl (e.keep a _ h fun l hl q => absurd q (R.not_tup h l hl)))
  · exact .inl (.inr ⟨o, e.keep a _ h fun l hl q => absurd q (R.not_frz h l hl)⟩)
  · exact .inr h
mutual
theorem Rep.ext (e : Ext m L H m' L' H') (R : HRel g m L H) : ∀ {d : D} {v : V}, Rep g m H d v → Rep g m' H' d v
  | _, _, .non => .non
  | _, _, .bl b => .bl b
  | _, _, .int i => .int i
  | _, _, .str x => .str x
  | _, _, .tup h r => .tup (e.tup R h) (RepL.ext e R r)
  | _, _, .rol h r => .rol (h.elim (fun ⟨o, z⟩ => .inl ⟨o, e.keep _ _ z fun l hl q => absurd q (R.not_frz z l hl)⟩) .inr) (RepL.ext e R r)
  | _, _, .loc (l := l) h => by
    have q := Rep.loc (g := g) (H := H') (Nat.lt_of_lt_of_le h e.nn)
    rw [e.μ l h] at q
    exact q
  | _, _, .ty n => .ty n
  | _, _, .fn f => .fn f
  | _, _, .cls c => .cls c
theorem RepL.ext (e : Ext m L H m' L' H') (R : HRel g m L H) : ∀ {ds : List D} {vs : List V}, RepL g m H ds vs → RepL g m' H' ds vs
  | _, _, .nil => .nil
  | _, _, .cons h r => .cons (Rep.ext e R h) (RepL.ext e R r)
end
theorem RepL.length : ∀ {ds : List D} {vs : List V}, RepL g m H ds vs → ds.length = vs.length
  | _, _, .nil => rfl
  | _, _, .cons _ r => by rw [List.length_cons, List.length_cons, RepL.length r]
theorem RepL.get : ∀ {ds : List D} {vs : List V} {i : Nat} {d : D}, RepL g m H ds vs → ds[i]? = some d → ∃ v, vs[i]? = some v ∧ Rep g m H d v
  | _, _, _, _, .nil, e => by simp at e
  | _, _, 0, _, .cons h _, e => by simp at e; subst e; exact ⟨_, rfl, h⟩
  | _, _, i + 1, d, .cons _ r, e => by
    obtain ⟨v, h1, h2⟩ := RepL.get (i := i) (d := d) r (by simpa using e)
    exact ⟨v, by simpa using h1, h2⟩
theorem RepL.get' : ∀ {ds : List D} {vs : List V} {i : Nat} {v : V}, RepL g m H ds vs → vs[i]? = some v → ∃ d, ds[i]? = some d ∧ Rep g m H d v
  | _, _, _, _, .nil, e => by simp at e
  | _, _, 0, _, .cons h _, e => by simp at e; subst e; exact ⟨_, rfl, h⟩
  | _, _, i + 1, d, .cons _ r, e => by
    obtain ⟨v, h1, h2⟩ := RepL.get' (i := i) (v := d) r (by simpa using e)
    exact ⟨v, by simpa using h1, h2⟩
theorem RepL.app : ∀ {ds es : List D} {vs us : List V}, RepL g m H ds vs → RepL g m H es us → RepL g m H (ds ++ es) (vs ++ us)
  | _, _, _, _, .nil, s => s
  | _, _, _, _, .cons h r, s => .cons h (RepL.app r s)
theorem RepL.set : ∀ {ds : List D} {vs : List V} (i : Nat) {d : D} {v : V}, RepL g m H ds vs → Rep g m H d v → RepL g m H (ds.set i d) (vs.set i v)
  | _, _, _, _, _, .nil, _ => .nil
  | _, _, 0, _, _, .cons _ r, q => .cons q r
  | _, _, i + 1, _, _, .cons h r, q => .cons h (RepL.set i r q)
theorem RepL.take : ∀ {ds : List D} {vs : List V} (i : Nat), RepL g m H ds vs → RepL g m H (ds.take i) (vs.take i)
  | _, _, 0, _ => .nil
  | _, _, _ + 1, .nil => .nil
  | _, _, i + 1, .cons h r => .cons h (RepL.take i r)
theorem RepL.drop : ∀ {ds : List D} {vs : List V} (i : Nat), RepL g m H ds vs → RepL g m H (ds.drop i) (vs.drop i)
  | _, _, 0, h => h
  | _, _, _ + 1, .nil => .nil
  | _, _, i + 1, .cons _ r => RepL.drop i r
theorem RepL.rev {ds : List D} {vs : List V} (h : RepL g m H ds vs) : RepL g m H ds.reverse vs.reverse := by
  induction ds generalizing vs with
  | nil => cases h; exact .nil
  | cons d ds ih =>
    cases h with
    | cons a b => rw [List.reverse_cons, List.reverse_cons]; exact (ih b).app (.cons a .nil)
theorem RepL.split : ∀ {ds es : List D} {ws : List V}, RepL g m H (ds ++ es) ws → ∃ vs us, ws = vs ++ us ∧ RepL g m H ds vs ∧ RepL g m H es us
  | [], _, ws, h => ⟨[], ws, rfl, .nil, h⟩
  | d :: ds, es, _, .cons h r => by
    obtain ⟨vs, us, e, h1, h2⟩ := RepL.split (ds := ds) r
    exact ⟨_ :: vs, us, by rw [e]; rfl, .cons h h1, h2⟩
theorem EntryIs.ext (e : Ext m L H m' L' H') (R : HRel g m L H) {r : D × D} {x : DictEntry} (h : EntryIs g m H r x) : EntryIs g m' H' r x := by
  obtain ⟨⟨kv, k, a, b, c⟩, ⟨v, p, q⟩⟩ := h
  exact ⟨⟨kv, k, a, b.ext e R, c⟩, ⟨v, p, q.ext e R⟩⟩
theorem Paired.imp2 {α β : Type} {F G : α → β → Prop} (f : ∀ a b, F a b → G a b) : ∀ {xs : List α} {ys : List β}, Paired F xs ys → Paired G xs ys
  | _, _, .nil => .nil
  | _, _, .cons h r => .cons (f _ _ h) (FC.Paired.imp2 f r)
theorem FieldsAre.ext (e : Ext m L H m' L' H') (R : HRel g m L H) {fs : List (Nat × D)} {fvs : List (Str × V)} (h : FieldsAre g m H fs fvs) : FieldsAre g m' H' fs fvs := by
  refine ⟨h.1, fun f x hx => ?_⟩
  have q := h.2 f x hx
  cases z : fs.lookup f with
  | none => rw [z] at q; exact q
  | some d =>
    rw [z] at q
    obtain ⟨v, q1, q2⟩ := q
    exact ⟨v, q1, q2.ext e R⟩
/-- an object whose own description stands, in a later state -/
theorem ORep.later (e : Ext m L H m' L' H') (R : HRel g m L H) : ∀ {o : LO} {a b : Addr}, ORep g m H a o → b = a → H' b = H a → ORep g m' H' b o
  | .lst _, _, _, ⟨vs, h, r⟩, _, q => ⟨vs, q.trans h, r.ext e R⟩
  | .dic _, a, b, ⟨h0, h1, es, h2, r⟩, e1, q => by
    subst e1
    exact ⟨h0, h1, es, q.trans h2, FC.Paired.imp2 (fun _ _ z => z.ext e R) r⟩
  | .ins _ _, _, _, ⟨dx, fvs, h, r⟩, _, q => ⟨dx, fvs, q.trans h, r.ext e R⟩
  | .lck o, _, _, h, e1, q => ORep.later e R (o := o) h e1 q
end
end FC
end

section
namespace FC
open PySem PySem.Spec PyProof.Rows L2

/-! ### stores and new objects -/
section
variable {g : GE} {m : M} {L : LH} {H : Hp}
/-- a fresh address is tracked -/
theorem Ext.laid {a : Addr} {o : HO} (h : H a = none) : Ext m L H m L (upd H a o) where
  nn := Nat.le_refl _
  μ := fun _ _ => rfl
  keep := fun b u q _ => by rw [upd_ne (ne_of_none q h)]; exact q
  lk := fun _ _ _ => rfl
  new := fun _ h1 h2 => absurd h2 (Nat.not_lt.mpr h1)
  live := fun b q => by
    by_cases e : b = a
    · subst e; exact h
    · rw [upd_ne e] at q; exact q
theorem HRel.laid (R : HRel g m L H) {a : Addr} {o : HO} (h : H a = none) : HRel g m L (upd H a o) where
  nn := R.nn
  sm := R.sm
  inj := R.inj
  obj := fun l hl => by
    obtain ⟨x, h1, h2⟩ := R.obj l hl
    refine ⟨x, h1, h2.later (Ext.laid h) R rfl (upd_ne fun e => ?_)⟩
    rw [e] at h2
    rcases h2.mut with ⟨_, q⟩ | ⟨_, q⟩ | ⟨_, _, _, q⟩ <;> rw [h] at q <;> cases q
/-- one object more: at a -/
def M.more (m : M) (a : Addr) : M := ⟨m.n + 1, fun l => if l = m.n then a else m.μ l⟩
theorem M.more_new {m : M} {a : Addr} : (m.more a).μ m.n = a := if_pos rfl
theorem M.more_old {m : M} {a : Addr} {l : Nat} (h : l < m.n) : (m.more a).μ l = m.μ l := if_neg (Nat.ne_of_lt h)
theorem Ext.made {a : Addr} {o : LO} {H' : Hp} (R : HRel g m L H) (hs : m.n + 1 < LH.big) (h : H a = none) (k : ∀ b u, H b = some u → H' b = some u) (lv : ∀ b, H' b = none → H b = none) : Ext m L H (m.more a) (L.new o) H' where
  nn := Nat.le_succ _
  μ := fun _ hl => M.more_old hl
  keep := fun b u q _ => k b u q
  lk := fun l hl _ => by
    rw [LH.get_new (by rw [R.nn]; omega), if_neg (by rw [R.nn]; exact Nat.ne_of_lt hl)]
  new := fun l h1 h2 => by
    have e : l = m.n := Nat.le_antisymm (Nat.lt_succ_iff.mp h2) h1
    subst e
    rw [M.more_new]; exact h
  live := lv
theorem HRel.made {a : Addr} {o : LO} {H' : Hp} (R : HRel g m L H) (hs : m.n + 1 < LH.big) (h : H a = none) (k : ∀ b u, H b = some u → H' b = some u) (lv : ∀ b, H' b = none → H b = none)
    (new : ORep g (m.more a) H' a o) : HRel g (m.more a) (L.new o) H' where
  nn := by rw [LH.n_new, R.nn]; rfl
  sm := hs
  inj := fun l l' h1 h2 e => by
    have lt : ∀ {l}, l < (m.more a).n → l = m.n ∨ l < m.n := fun {l} q => by
      have : l < m.n + 1 := q
      omega
    have ne : ∀ {l}, l < m.n → m.μ l ≠ a := fun {l} hl e => by
      obtain ⟨x, _, h2⟩ := R.obj l hl
      rw [e] at h2
      rcases h2.mut with ⟨_, q⟩ | ⟨_, q⟩ | ⟨_, _, _, q⟩ <;> rw [h] at q <;> cases q
    rcases lt h1 with q1 | q1 <;> rcases lt h2 with q2 | q2
    · rw [q1, q2]
    · rw [q1, M.more_new, M.more_old q2] at e; exact absurd e.symm (ne q2)
    · rw [q2, M.more_new, M.more_old q1] at e; exact absurd e (ne q1)
    · rw [M.more_old q1, M.more_old q2] at e; exact R.inj l l' q1 q2 e
  obj := fun l hl => by
    have hb : L.n < LH.big := by rw [R.nn]; omega
    by_cases e : l = m.n
    · subst e
      refine ⟨o, by rw [LH.get_new hb, if_pos R.nn.symm], ?_⟩
      rw [M.more_new]; exact new
    · have hl' : l < m.n := by
        have : l < m.n + 1 := hl
        omega
      obtain ⟨x, h1, h2⟩ := R.obj l hl'
      refine ⟨x, by rw [LH.get_new hb, if_neg (by rw [R.nn]; exact e)]; exact h1, ?_⟩
      rw [M.more_old hl']
      refine h2.later (Ext.made (o := o) R hs h k lv) R rfl ?_
      rcases h2.mut with ⟨_, q⟩ | ⟨_, q⟩ | ⟨_, _, _, q⟩ <;> rw [q] <;> exact k _ _ q
/-- an object is changed -/
theorem Ext.chg {l : Nat} {o : LO} {u : HO} (R : HRel g m L H) (hl : l < m.n) (nl : ¬ Locked L l) : Ext m L H m (L.put l o) (upd H (m.μ l) u) where
  nn := Nat.le_refl _
  μ := fun _ _ => rfl
  keep := fun b v q k => by
    by_cases e : b = m.μ l
    · exact absurd (k l hl e.symm) nl
    · rw [upd_ne e]; exact q
  lk := fun l' h1 h2 => by
    rw [LH.get_put (Nat.lt_trans hl R.sm)]
    rw [if_neg (by rintro rfl; exact nl h2)]
  new := fun _ h1 h2 => absurd h2 (Nat.not_lt.mpr h1)
  live := fun b q => by
    by_cases e : b = m.μ l
    · subst e; rw [upd_same] at q; cases q
    · rw [upd_ne e] at q; exact q
theorem HRel.chg {l : Nat} {o : LO} {u : HO} (R : HRel g m L H) (hl : l < m.n) (nl : ¬ Locked L l) (new : ORep g m (upd H (m.μ l) u) (m.μ l) o) : HRel g m (L.put l o) (upd H (m.μ l) u) where
  nn := LH.n_put.trans R.nn
  sm := R.sm
  inj := R.inj
  obj := fun l' hl' => by
    rw [LH.get_put (Nat.lt_trans hl R.sm)]
    by_cases e : l' = l
    · subst e; exact ⟨o, if_pos rfl, new⟩
    · obtain ⟨x, h1, h2⟩ := R.obj l' hl'
      refine ⟨x, by rw [if_neg e]; exact h1, h2.later (Ext.chg (o := o) (u := u) R hl nl) R rfl (upd_ne fun q => e (R.inj l' l hl' hl q))⟩
/-- an object is locked, or unlocked: nothing moves -/
theorem HRel.relock {l : Nat} {o : LO} (R : HRel g m L H) (hl : l < m.n) (new : ORep g m H (m.μ l) o) : HRel g m (L.put l o) H where
  nn := LH.n_put.trans R.nn
  sm := R.sm
  inj := R.inj
  obj := fun l' hl' => by
    rw [LH.get_put (Nat.lt_trans hl R.sm)]
    by_cases e : l' = l
    · subst e; exact ⟨o, if_pos rfl, new⟩
    · obtain ⟨x, h1, h2⟩ := R.obj l' hl'
      exact ⟨x, by rw [if_neg e]; exact h1, h2⟩
end

/-! ### slots -/
/-- the names' values -/
abbrev Sl := List (Option D)
def SRel (g : GE) (m : M) (H : Hp) (δ : Sl) (σ : L2.St) : Prop := σ.length = δ.length ∧ ∀ (i : Nat) (d : D), δ[i]? = some (some d) → ∃ v, σ[i]? = some (some v) ∧ Rep g m H d v
section
variable {g : GE} {m m' : M} {L L' : LH} {H H' : Hp} {δ : Sl} {σ : L2.St}
theorem SRel.ext (s : SRel g m H δ σ) (e : Ext m L H m' L' H') (R : HRel g m L H) : SRel g m' H' δ σ := ⟨s.1, fun i d h => by
  obtain ⟨v, h1, h2⟩ := s.2 i d h
  exact ⟨v, h1, h2.ext e R⟩⟩
theorem SRel.set (s : SRel g m H δ σ) (i : Nat) {d : D} {v : V} (r : Rep g m H d v) : SRel g m H (δ.set i (some d)) (σ.set i (some v)) := by
  refine ⟨by simpa using s.1, fun j e h => ?_⟩
  by_cases q : j = i
  · subst q
    by_cases hj : j < δ.length
    · rw [List.getElem?_set_self hj] at h
      cases h
      exact ⟨v, by rw [List.getElem?_set_self (by rw [s.1]; exact hj)], r⟩
    · rw [List.getElem?_eq_none (by simpa using hj)] at h; cases h
  · rw [List.getElem?_set_ne (Ne.symm q)] at h ⊢
    exact s.2 j e h
theorem SRel.unset (s : SRel g m H δ σ) (i : Nat) (x : Option V) : SRel g m H (δ.set i none) (σ.set i x) := by
  refine ⟨by simpa using s.1, fun j e h => ?_⟩
  by_cases q : j = i
  · subst q
    by_cases hj : j < δ.length
    · rw [List.getElem?_set_self hj] at h; cases h
    · rw [List.getElem?_eq_none (by simpa using hj)] at h; cases h
  · rw [List.getElem?_set_ne (Ne.symm q)] at h ⊢
    exact s.2 j e h
def wipeD (δ : Sl) : List Nat → Sl
  | [] => δ
  | v :: vs => (wipeD δ vs).set v none
theorem SRel.wipe (s : SRel g m H δ σ) : ∀ vs : List Nat, SRel g m H (wipeD δ vs) (L2.wipe σ vs)
  | [] => s
  | v :: vs => (SRel.wipe s vs).unset v none
def startD (n : Nat) (ds : List D) : Sl := ds.map some ++ List.replicate (n - ds.length) none
theorem SRel.start {N : List Str} {ds : List D} {vs : List V} (r : RepL g m H ds vs) : SRel g m H (startD N.length ds) (L2.start N vs) := by
  have hl := r.length
  refine ⟨by simp [startD, L2.start, hl], fun i d h => ?_⟩
  unfold startD at h
  unfold L2.start
  by_cases hi : i < ds.length
  · rw [List.getElem?_append_left (by simpa using hi), List.getElem?_map] at h
    rw [List.getElem?_append_left (by simpa [← hl] using hi), List.getElem?_map]
    have e : ds[i]? = some d := by
      cases q : ds[i]? with
      | none => rw [q] at h; cases h
      | some x => rw [q] at h; cases h; rfl
    obtain ⟨v, h1, h2⟩ := r.get e
    exact ⟨v, by rw [h1]; rfl, h2⟩
  · rw [List.getElem?_append_right (by simpa using hi), List.getElem?_replicate] at h
    split at h <;> cases h
end

/-! ### results -/
/-- an exception: its class, its number -/
structure XD where
  c : Nat
  f : Option D
inductive Rs (α : Type) where
  | ok (a : α) (L : LH)
  | ex (x : XD) (L : LH)
  | bad
def Rs.bind {α β : Type} : Rs α → (α → LH → Rs β) → Rs β
  | .ok a L, f => f a L
  | .ex x L, _ => .ex x L
  | .bad, _ => .bad
/-- how an exception lies -/
def XRep (g : GE) (m : M) (H : Hp) (x : XD) (cv : Value) (dd : Option Addr) : Prop :=
  cv = .ref (g.ca x.c) ∧ match x.f with
    | none => dd = none
    | some d => ∃ a v, dd = some a ∧ H a = some (.xd [("number", v)]) ∧ Rep g m H d v

section
variable (g : GE) (W : WX) (σ : L2.St) {α β : Type} (Rl : M → Hp → α → β → Prop)
def TMP (r : Rs α) (m : M) (L : LH) (H : Hp) (Q : β → Hp → Prop) : Prop :=
  match r with
  | .ok a L' => ∀ m' H' v, Ext m L H m' L' H' → HRel g m' L' H' → Rl m' H' a v → Q v H'
  | .ex x L' => ∀ m' H' cv dd, Ext m L H m' L' H' → HRel g m' L' H' → XRep g m' H' x cv dd → W cv dd σ H'
  | .bad => False
end
section
variable {g : GE} {W : WX} {σ : L2.St} {α β γ ε : Type} {Rl : M → Hp → α → β → Prop} {Rl' : M → Hp → γ → ε → Prop} {m m' : M} {L L' : LH} {H H' : Hp}
theorem TMP.shift {r : Rs α} {Q : β → Hp → Prop} (e : Ext m L H m' L' H') (h : TMP g W σ Rl r m L H Q) : TMP g W σ Rl r m' L' H' Q := by
  cases r with
  | ok a L2 => exact fun m2 H2 v e2 => h m2 H2 v (e.trans e2)
  | ex x L2 => exact fun m2 H2 cv dd e2 => h m2 H2 cv dd (e.trans e2)
  | bad => exact h
theorem TMP.mono {r : Rs α} {Q Q' : β → Hp → Prop} (h : TMP g W σ Rl r m L H Q) (k : ∀ v H', Q v H' → Q' v H') : TMP g W σ Rl r m L H Q' := by
  cases r with
  | ok a L2 => exact fun m2 H2 v e r q => k _ _ (h m2 H2 v e r q)
  | ex x L2 => exact h
  | bad => exact h
theorem TMP.bind {r : Rs α} {f : α → LH → Rs γ} {Q : ε → Hp → Prop} (h : TMP g W σ Rl' (r.bind f) m L H Q) :
    TMP g W σ Rl r m L H (fun v H' => ∃ m' L' a, Ext m L H m' L' H' ∧ HRel g m' L' H' ∧ Rl m' H' a v ∧ TMP g W σ Rl' (f a L') m' L' H' Q) := by
  cases r with
  | ok a L2 => exact fun m2 H2 v e r q => ⟨m2, L2, a, e, r, q, TMP.shift e h⟩
  | ex x L2 => exact h
  | bad => exact h
end

/-! ### readings -/
section
variable (g : GE) (W : WX)
abbrev FE := Sl → LH → Rs D
def TE' (f : FE) : TE := fun σ H Q => ∃ m L δ, HRel g m L H ∧ SRel g m H δ σ ∧ TMP g W σ (Rep g) (f δ L) m L H Q
abbrev FT := Sl → LH → Rs Bool
def RB (_ : M) (_ : Hp) (b c : Bool) : Prop := b = c
def TT' (f : FT) : TT := fun σ H Q => ∃ m L δ, HRel g m L H ∧ SRel g m H δ σ ∧ TMP g W σ RB (f δ L) m L H Q
abbrev FL := Sl → LH → Rs (List D)
def TA' (f : FL) : TA := fun σ H Q => ∃ m L δ, HRel g m L H ∧ SRel g m H δ σ ∧ TMP g W σ (RepL g) (f δ L) m L H Q
/-- a statement's end -/
inductive Fl where
  | nx | rt (d : D) | bk | ct
inductive SR where
  | go (f : Fl) (δ : Sl) (L : LH)
  | ex (x : XD) (δ : Sl) (L : LH)
  | bad
def TSP (D : Ends) (r : SR) (m : M) (L : LH) (H : Hp) : Prop :=
  match r with
  | .go .nx δ' L' => ∀ m' H' σ', Ext m L H m' L' H' → HRel g m' L' H' → SRel g m' H' δ' σ' → D.nx σ' H'
  | .go (.rt d) _ L' => ∀ m' H' v, Ext m L H m' L' H' → HRel g m' L' H' → Rep g m' H' d v → D.rt v H'
  | .go .bk δ' L' => ∀ m' H' σ', Ext m L H m' L' H' → HRel g m' L' H' → SRel g m' H' δ' σ' → D.bk σ' H'
  | .go .ct δ' L' => ∀ m' H' σ', Ext m L H m' L' H' → HRel g m' L' H' → SRel g m' H' δ' σ' → D.ct σ' H'
  | .ex x δ' L' => ∀ m' H' σ' cv dd, Ext m L H m' L' H' → HRel g m' L' H' → SRel g m' H' δ' σ' → XRep g m' H' x cv dd → W cv dd σ' H'
  | .bad => False
abbrev FS := Sl → LH → SR
def TS' (f : FS) : TS := fun D σ H => ∃ m L δ, HRel g m L H ∧ SRel g m H δ σ ∧ TSP g W D (f δ L) m L H
end
theorem _root_.L2.PE.imp {X : Cx} {e : Expr} {t t' : TE} (h : PE X e t) (k : ∀ σ H Q, t' σ H Q → t σ H Q) : PE X e t' := ⟨fun p s σ H Q I q => h.run p s σ H Q I (k σ H Q q)⟩
theorem _root_.L2.PT.imp {X : Cx} {e : Expr} {t t' : TT} (h : PT X e t) (k : ∀ σ H Q, t' σ H Q → t σ H Q) : PT X e t' := ⟨fun p s σ H Q I q => h.run p s σ H Q I (k σ H Q q)⟩
theorem _root_.L2.PA.imp {X : Cx} {e : List Expr} {t t' : TA} (h : PA X e t) (k : ∀ σ H Q, t' σ H Q → t σ H Q) : PA X e t' := ⟨fun o p s σ H Q I q => h.run o p s σ H Q I (k σ H Q q)⟩
theorem _root_.L2.PS.imp {X : Cx} {e : Stmt} {t t' : TS} (h : PS X e t) (k : ∀ D σ H, t' D σ H → t D σ H) : PS X e t' := ⟨fun p s σ H D I q => h.run p s σ H D I (k D σ H q)⟩
theorem _root_.L2.PSs.imp {X : Cx} {e : List Stmt} {t t' : TS} (h : PSs X e t) (k : ∀ D σ H, t' D σ H → t D σ H) : PSs X e t' := ⟨fun p s σ H D I q => h.run p s σ H D I (k D σ H q)⟩
section
variable {g : GE} {W : WX} {D D' : Ends} {m m' : M} {L L' : LH} {H H' : Hp}
theorem TSP.shift {r : SR} (e : Ext m L H m' L' H') (h : TSP g W D r m L H) : TSP g W D r m' L' H' := by
  cases r with
  | go f δ L2 =>
    cases f with
    | nx => exact fun m2 H2 v e2 => h m2 H2 v (e.trans e2)
    | rt d => exact fun m2 H2 v e2 => h m2 H2 v (e.trans e2)
    | bk => exact fun m2 H2 v e2 => h m2 H2 v (e.trans e2)
    | ct => exact fun m2 H2 v e2 => h m2 H2 v (e.trans e2)
  | ex x δ L2 => exact fun m2 H2 σ cv dd e2 => h m2 H2 σ cv dd (e.trans e2)
  | bad => exact h
/-- an expression ahead of a statement's end -/
def Rs.then {α : Type} (r : Rs α) (δ : Sl) (f : α → LH → SR) : SR :=
  match r with
  | .ok a L => f a L
  | .ex x L => .ex x δ L
  | .bad => .bad
theorem TMP.then {α β : Type} {Rl : M → Hp → α → β → Prop} {δ : Sl} {σ : L2.St} {r : Rs α} {f : α → LH → SR} (R : HRel g m L H) (s : SRel g m H δ σ) (h : TSP g W D (r.then δ f) m L H) :
    TMP g W σ Rl r m L H (fun v H' => ∃ m' L' a, Ext m L H m' L' H' ∧ HRel g m' L' H' ∧ Rl m' H' a v ∧ TSP g W D (f a L') m' L' H') := by
  cases r with
  | ok a L2 => exact fun m2 H2 v e r q => ⟨m2, L2, a, e, r, q, TSP.shift e h⟩
  | ex x L2 => exact fun m2 H2 cv dd e2 r2 x2 => h m2 H2 σ cv dd e2 r2 (s.ext e2 R) x2
  | bad => exact h
end
end FC
end

section
namespace FC
open PySem PySem.Spec PyProof.Rows L2

/-! ### reading the evaluator's heap -/
def LO.lst? : LO → Option (List D)
  | .lst ds => some ds
  | .lck o => o.lst?
  | _ => none
def LO.dic? : LO → Option (List (D × D))
  | .dic ds => some ds
  | .lck o => o.dic?
  | _ => none
def LH.lst (L : LH) (l : Nat) : Option (List D) := (L.get l).bind LO.lst?
def LH.dic (L : LH) (l : Nat) : Option (List (D × D)) := (L.get l).bind LO.dic?
/-- unlocked -/
def LH.lstW (L : LH) (l : Nat) : Option (List D) := match L.get l with
  | some (.lst ds) => some ds
  | _ => none
def LH.dicW (L : LH) (l : Nat) : Option (List (D × D)) := match L.get l with
  | some (.dic ds) => some ds
  | _ => none
/-- a new object -/
def LH.add (L : LH) (o : LO) : Option (D × LH) := bif Nat.ble L.n 1000000000 then some (.loc L.n, L.new o) else none
section
variable {g : GE} {m : M} {L : LH} {H : Hp}
theorem ORep.lst : ∀ {o : LO} {a : Addr} {ds : List D}, ORep g m H a o → o.lst? = some ds → ∃ vs, H a = some (.lst vs) ∧ RepL g m H ds vs
  | .lst _, _, _, h, e => by cases e; exact h
  | .lck o, _, _, h, e => ORep.lst (o := o) h e
  | .dic _, _, _, _, e => by cases e
  | .ins _ _, _, _, _, e => by cases e
theorem ORep.dic : ∀ {o : LO} {a : Addr} {ds : List (D × D)}, ORep g m H a o → o.dic? = some ds → ORep g m H a (.dic ds)
  | .dic _, _, _, h, e => by cases e; exact h
  | .lck o, _, _, h, e => ORep.dic (o := o) h e
  | .lst _, _, _, _, e => by cases e
  | .ins _ _, _, _, _, e => by cases e
theorem HRel.lst (R : HRel g m L H) {l : Nat} {ds : List D} (hl : l < m.n) (e : L.lst l = some ds) : ∃ vs, H (m.μ l) = some (.lst vs) ∧ RepL g m H ds vs := by
  obtain ⟨o, h1, h2⟩ := R.obj l hl
  unfold LH.lst at e
  rw [h1] at e
  exact h2.lst e
theorem HRel.dic (R : HRel g m L H) {l : Nat} {ds : List (D × D)} (hl : l < m.n) (e : L.dic l = some ds) : ORep g m H (m.μ l) (.dic ds) := by
  obtain ⟨o, h1, h2⟩ := R.obj l hl
  unfold LH.dic at e
  rw [h1] at e
  exact h2.dic e
theorem LH.lstW_get {L : LH} {l : Nat} {ds : List D} (e : L.lstW l = some ds) : L.get l = some (.lst ds) := by
  unfold LH.lstW at e
  split at e
  · rename_i q; cases e; exact q
  · cases e
theorem LH.dicW_get {L : LH} {l : Nat} {ds : List (D × D)} (e : L.dicW l = some ds) : L.get l = some (.dic ds) := by
  unfold LH.dicW at e
  split at e
  · rename_i q; cases e; exact q
  · cases e
theorem LH.lstW_nl {L : LH} {l : Nat} {ds : List D} (e : L.lstW l = some ds) : ¬ Locked L l := fun ⟨o, h⟩ => by rw [LH.lstW_get e] at h; cases h
theorem LH.dicW_nl {L : LH} {l : Nat} {ds : List (D × D)} (e : L.dicW l = some ds) : ¬ Locked L l := fun ⟨o, h⟩ => by rw [LH.dicW_get e] at h; cases h
theorem LH.lst_of {L : LH} {l : Nat} {ds : List D} (e : L.lstW l = some ds) : L.lst l = some ds := by unfold LH.lst; rw [LH.lstW_get e]; rfl
theorem LH.dic_of {L : LH} {l : Nat} {ds : List (D × D)} (e : L.dicW l = some ds) : L.dic l = some ds := by unfold LH.dic; rw [LH.dicW_get e]; rfl
theorem HRel.room (R : HRel g m L H) (h : Nat.ble L.n 1000000000 = true) : m.n + 1 < LH.big := by
  have := Nat.le_of_ble_eq_true h
  have e := R.nn
  have : LH.big = 1099511627775 := rfl
  omega
theorem upd_live {a : Addr} {o : HO} (h : H a = none) : (∀ b u, H b = some u → upd H a o b = some u) ∧ ∀ b, upd H a o b = none → H b = none :=
  ⟨fun b u q => by rw [upd_ne (ne_of_none q h)]; exact q, fun b q => by
    by_cases e : b = a
    · subst e; exact h
    · rw [upd_ne e] at q; exact q⟩
/-- a new list -/
theorem newL (R : HRel g m L H) {ds : List D} {vs : List V} (r : RepL g m H ds vs) {d : D} {L' : LH} (e : L.add (.lst ds) = some (d, L')) {Q : VK} (q : ∀ m' H' v, Ext m L H m' L' H' → HRel g m' L' H' → Rep g m' H' d v → Q v H') :
    ∀ p, H p = none → Q (.ref p) (upd H p (.lst vs)) := fun p hp => by
  unfold LH.add at e
  cases hb : Nat.ble L.n 1000000000 with
  | false => rw [hb] at e; cases e
  | true =>
    rw [hb] at e
    cases e
    have hs := R.room hb
    obtain ⟨k, lv⟩ := upd_live (o := .lst vs) hp
    have E := Ext.made (o := .lst ds) R hs hp k lv
    refine q (m.more p) _ (.ref p) E (R.made hs hp k lv ⟨vs, upd_same, r.ext E R⟩) ?_
    have z : Rep g (m.more p) (upd H p (.lst vs)) (.loc m.n) (.ref ((m.more p).μ m.n)) := .loc (Nat.lt_succ_self _)
    rw [M.more_new] at z
    rw [R.nn]
    exact z
/-- a new tuple -/
theorem newT (R : HRel g m L H) {ds : List D} {vs : List V} (r : RepL g m H ds vs) {Q : VK} (q : ∀ m' H' v, Ext m L H m' L H' → HRel g m' L H' → Rep g m' H' (.tup ds) v → Q v H') :
    ∀ p, H p = none → Q (.ref p) (upd H p (.tup vs)) := fun p hp =>
  q m _ (.ref p) (Ext.laid hp) (R.laid hp) (.tup (SqT.of upd_same) (r.ext (Ext.laid hp) R))
/-- a list stored anew -/
theorem chgL (R : HRel g m L H) {l : Nat} {ds0 ds : List D} {vs : List V} (hl : l < m.n) (hw : L.lstW l = some ds0) (r : RepL g m H ds vs) :
    Ext m L H m (L.put l (.lst ds)) (upd H (m.μ l) (.lst vs)) ∧ HRel g m (L.put l (.lst ds)) (upd H (m.μ l) (.lst vs)) := by
  have E := Ext.chg (o := .lst ds) (u := .lst vs) R hl (LH.lstW_nl hw)
  exact ⟨E, R.chg hl (LH.lstW_nl hw) ⟨vs, upd_same, r.ext E R⟩⟩
end

/-! ### values as data -/
mutual
def pyD (orc : Nat → Option PyData) : D → Option PyData
  | .non => some .none
  | .bl b => some (.bool b)
  | .int i => some (.int i)
  | .str x => some (.str x)
  | .tup ds => match pyDs orc ds with
    | some xs => some (.tuple xs)
    | none => none
  | .rol ds => match pyDs orc ds with
    | some xs => some (.list xs)
    | none => none
  | .loc l => orc l
  | .ty _ => none
  | .fn _ => none
  | .cls _ => none
def pyDs (orc : Nat → Option PyData) : List D → Option (List PyData)
  | [] => some []
  | d :: ds => match pyD orc d with
    | some x => match pyDs orc ds with
      | some xs => some (x :: xs)
      | none => none
    | none => none
end
def orc (L : LH) : Nat → Nat → Option PyData
  | 0, _ => none
  | n + 1, l => match L.lst l with
    | some ds => match pyDs (orc L n) ds with
      | some xs => some (.list xs)
      | none => none
    | none => none
section
variable {g : GE} {m : M} {L : LH} {H : Hp}
def OrcOk (g : GE) (m : M) (H : Hp) (o : Nat → Option PyData) : Prop := ∀ l x, l < m.n → o l = some x → Dp g.K H (.ref (m.μ l)) x
mutual
theorem dp_of {o : Nat → Option PyData} (k : OrcOk g m H o) : ∀ {d : D} {v : V} {x : PyData}, Rep g m H d v → pyD o d = some x → Dp g.K H v x
  | _, _, _, .non, e => by cases e; exact .non
  | _, _, _, .bl b, e => by cases e; exact .bl b
  | _, _, _, .int i, e => by cases e; exact .int i
  | _, _, _, .str z, e => by cases e; exact .str z
  | _, _, _, .tup (ds := ds) h r, e => by
    rw [pyD] at e
    cases q : pyDs o ds with
    | none => rw [q] at e; cases e
    | some xs => rw [q] at e; cases e; exact .tup h (dps_of k r q)
  | _, _, _, .rol (ds := ds) h r, e => by
    rw [pyD] at e
    cases q : pyDs o ds with
    | none => rw [q] at e; cases e
    | some xs => rw [q] at e; cases e; exact .lst h.sq (dps_of k r q)
  | _, _, _, .loc h, e => k _ _ h e
  | _, _, _, .ty n, e => by cases e
  | _, _, _, .fn f, e => by cases e
  | _, _, _, .cls c, e => by cases e
theorem dps_of {o : Nat → Option PyData} (k : OrcOk g m H o) : ∀ {ds : List D} {vs : List V} {xs : List PyData}, RepL g m H ds vs → pyDs o ds = some xs → DpAll g.K H vs xs
  | _, _, _, .nil, e => by cases e; exact .nil
  | _, _, _, .cons (d := d) (ds := ds) h r, e => by
    rw [pyDs] at e
    cases q : pyD o d with
    | none => rw [q] at e; cases e
    | some x =>
      rw [q] at e
      cases q2 : pyDs o ds with
      | none => rw [q2] at e; cases e
      | some xs => rw [q2] at e; cases e; exact .cons (dp_of k h q) (dps_of k r q2)
end
theorem orc_ok (R : HRel g m L H) : ∀ n, OrcOk g m H (orc L n)
  | 0, l, x, _, e => by cases e
  | n + 1, l, x, hl, e => by
    rw [orc] at e
    cases q : L.lst l with
    | none => rw [q] at e; cases e
    | some ds =>
      rw [q] at e
      cases q2 : pyDs (orc L n) ds with
      | none => simp only [q2] at e; cases e
      | some xs =>
        simp only [q2] at e
        cases e
        obtain ⟨vs, h1, h2⟩ := R.lst hl q
        exact .lst (SqL.of h1) (dps_of (orc_ok R n) h2 q2)
end
/-- the data of a value -/
def dat (L : LH) (d : D) : Option PyData := match pyD (orc L 12) d with
  | some x => bif SeqAt.shaped x then some x else none
  | none => none
def eqD (L : LH) (d e : D) : Option Bool := match dat L d, dat L e with
  | some x, some y => some (PyData.eqv x y)
  | _, _ => none
theorem dat_ok {g : GE} {m : M} {L : LH} {H : Hp} (R : HRel g m L H) {d : D} {v : V} {x : PyData} (r : Rep g m H d v) (e : dat L d = some x) : Dp g.K H v x ∧ SeqAt.shaped x = true := by
  unfold dat at e
  cases q : pyD (orc L 12) d with
  | none => rw [q] at e; cases e
  | some y =>
    simp only [q] at e
    cases hb : SeqAt.shaped y with
    | false => rw [hb] at e; cases e
    | true => rw [hb] at e; cases e; exact ⟨dp_of (orc_ok R 12) r q, hb⟩

/-! ### operators by values -/
/-- two values in, a value out -/
abbrev F2 := D → D → LH → Option (D × LH)
def rD2 (g : GE) (F : F2) : R2 := fun x y H Q => ∃ m L d e d' L', HRel g m L H ∧ Rep g m H d x ∧ Rep g m H e y ∧ F d e L = some (d', L') ∧ ∀ m' H' v, Ext m L H m' L' H' → HRel g m' L' H' → Rep g m' H' d' v → Q v H'
abbrev F1 := D → LH → Option (D × LH)
def rD1 (g : GE) (F : F1) : V → Hp → VK → Prop := fun x H Q => ∃ m L d d' L', HRel g m L H ∧ Rep g m H d x ∧ F d L = some (d', L') ∧ ∀ m' H' v, Ext m L H m' L' H' → HRel g m' L' H' → Rep g m' H' d' v → Q v H'
abbrev FN := List D → LH → Option (D × LH)
def rDN (g : GE) (F : FN) : List V → Hp → VK → Prop := fun vs H Q => ∃ m L ds d' L', HRel g m L H ∧ RepL g m H ds vs ∧ F ds L = some (d', L') ∧ ∀ m' H' v, Ext m L H m' L' H' → HRel g m' L' H' → Rep g m' H' d' v → Q v H'
/-- a method: the receiver, the arguments -/
abbrev FM := D → List D → LH → Option (D × LH)
def rDM (g : GE) (F : FM) : V → List V → Hp → VK → Prop := fun x vs H Q => ∃ m L d ds d' L', HRel g m L H ∧ Rep g m H d x ∧ RepL g m H ds vs ∧ F d ds L = some (d', L') ∧ ∀ m' H' v, Ext m L H m' L' H' → HRel g m' L' H' → Rep g m' H' d' v → Q v H'

def lim (n : Nat) : Bool := Nat.ble n 1000000
theorem lim_ok {n : Nat} (h : lim n = true) : n ≤ sizeLine := by
  have := Nat.le_of_ble_eq_true h
  have : sizeLine = 16777216 := sizeLine_eq
  omega
theorem lim_lt {n : Nat} (h : lim n = true) : n < sizeLine := by
  have := Nat.le_of_ble_eq_true h
  have : sizeLine = 16777216 := sizeLine_eq
  omega
def smallI (i : Int) : Bool := Nat.ble i.natAbs 18446744073709551615
/-- on whole numbers, quick in the kernel -/
def ltI : Int → Int → Bool
  | .ofNat a, .ofNat b => Nat.blt a b
  | .negSucc _, .ofNat _ => true
  | .ofNat _, .negSucc _ => false
  | .negSucc a, .negSucc b => Nat.blt b a
theorem ltI_eq : ∀ a b : Int, ltI a b = decide (a < b)
  | .ofNat a, .ofNat b => by
    show Nat.blt a b = _
    rw [Bool.eq_iff_iff, Nat.blt_eq, decide_eq_true_iff]
    exact Int.ofNat_lt.symm
  | .negSucc a, .ofNat b => by
    have : Int.ofNat b = (b : Int) := rfl
    exact (decide_eq_true (by omega)).symm
  | .ofNat a, .negSucc b => by
    have : Int.ofNat a = (a : Int) := rfl
    exact (decide_eq_false (by omega)).symm
  | .negSucc a, .negSucc b => by
    show Nat.blt b a = _
    rw [Bool.eq_iff_iff, Nat.blt_eq, decide_eq_true_iff]
    omega
def dAdd : F2
  | .int i, .int j, L => some (.int (i + j), L)
  | .str x, .str y, L => bif lim (x.length + y.length) then some (.str (x ++ y), L) else none
  | .tup xs, .tup ys, L => bif lim (xs.length + ys.length) then some (.tup (xs ++ ys), L) else none
  | .loc a, .loc b, L => match L.lst a, L.lst b with
    | some xs, some ys => bif lim (xs.length + ys.length) then L.add (.lst (xs ++ ys)) else none
    | _, _ => none
  | _, _, _ => none
def dSub : F2
  | .int i, .int j, L => some (.int (i - j), L)
  | _, _, _ => none
def dMod : F2
  | .int i, .int j, L => bif ltI 0 j then some (.int (i % j), L) else none
  | _, _, _ => none
def dFdiv : F2
  | .int i, .int j, L => bif ltI 0 j && ltI j 1073741824 then some (.int (i / j), L) else none
  | _, _, _ => none
def rep (xs : List D) : Nat → List D
  | 0 => []
  | n + 1 => xs ++ rep xs n
def dMul : F2
  | .int i, .int j, L => bif ltI (-18446744073709551616) i && ltI i 18446744073709551616 || ltI (-18446744073709551616) j && ltI j 18446744073709551616 then some (.int (i * j), L) else none
  | .tup xs, .int k, L => match xs with
    | [] => none
    | _ => bif ltI 1 k && ltI k 1000 && Nat.ble xs.length 1000 then some (.tup (rep xs k.toNat), L) else none
  | .loc a, .int k, L => match L.lst a with
    | some xs => bif ltI (-1000000) k && ltI k 1000000 && lim (xs.length * k.toNat) then L.add (.lst (rep xs k.toNat)) else none
    | none => none
  | .str x, .int k, L => bif ltI (-1000) k && ltI k 1000 && Nat.ble x.length 1000 then some (.str (Txt.mul x k), L) else none
  | _, _, _ => none
theorem rep_eq (xs : List D) : ∀ n, rep xs n = (List.replicate n xs).flatten
  | 0 => rfl
  | n + 1 => by rw [rep, List.replicate_succ, List.flatten_cons, rep_eq xs n]

section
variable {X : Cx} {g : GE}
theorem RepL.rep {m : M} {H : Hp} {xs : List D} {vs : List V} (r : RepL g m H xs vs) : ∀ n, RepL g m H (FC.rep xs n) (List.replicate n vs).flatten
  | 0 => .nil
  | n + 1 => by
    rw [FC.rep, List.replicate_succ, List.flatten_cons]
    exact r.app (RepL.rep r n)
theorem od_add (hK : X.K = g.K) : OpR X (binaryOp .Add) (rD2 g dAdd) := by
  rintro pins s σ H x y v u Q I rx ry ⟨m, L, d, e, d', L', R, hd, he, hf, q⟩
  unfold dAdd at hf
  split at hf
  · cases hd; cases he; cases hf
    exact op_add pins s σ H _ _ v u Q I rx ry ⟨_, _, rfl, rfl, q m H _ .refl R (.int _)⟩
  · cases hd; cases he
    rename_i a b
    cases hb : lim (a.length + b.length) with
    | false => rw [hb] at hf; cases hf
    | true =>
      rw [hb] at hf; cases hf
      exact op_add_str pins s σ H _ _ v u Q I rx ry ⟨_, _, rfl, rfl, lim_ok hb, q m H _ .refl R (.str _)⟩
  · rename_i a b
    cases hd with
    | tup h1 r1 =>
    cases he with
    | tup h2 r2 =>
    cases hb : lim (a.length + b.length) with
    | false => rw [hb] at hf; cases hf
    | true =>
      rw [hb] at hf; cases hf
      rw [← hK] at h1 h2
      refine op_catA pins s σ H _ _ v u Q I rx ry ⟨_, _, _, _, rfl, rfl, h1, h2, by rw [← r1.length, ← r2.length]; exact lim_ok hb, fun z => ?_, fun _ z => ?_, fun _ _ => ?_⟩
      · subst z
        cases r1
        exact q m H _ .refl R (.tup (hK ▸ h2) r2)
      · subst z
        cases r2
        refine q m H _ .refl R ?_
        rw [List.append_nil]
        exact .tup (hK ▸ h1) r1
      · exact newT R (r1.app r2) q
  · rename_i a b
    cases hd with
    | loc h1 =>
    cases he with
    | loc h2 =>
    split at hf
    · rename_i xs ys e1 e2
      cases hb : lim (xs.length + ys.length) with
      | false => rw [hb] at hf; cases hf
      | true =>
        rw [hb] at hf
        obtain ⟨vs, k1, r1⟩ := R.lst h1 e1
        obtain ⟨us, k2, r2⟩ := R.lst h2 e2
        exact op_cat pins s σ H _ _ v u Q I rx ry ⟨_, _, _, _, rfl, rfl, k1, k2, by rw [← r1.length, ← r2.length]; exact lim_ok hb, newL R (r1.app r2) hf q⟩
    · cases hf
  · cases hf
theorem od_sub : OpR X (binaryOp .Sub) (rD2 g dSub) := by
  rintro pins s σ H x y v u Q I rx ry ⟨m, L, d, e, d', L', R, hd, he, hf, q⟩
  unfold dSub at hf
  split at hf
  · cases hd; cases he; cases hf
    exact op_sub pins s σ H _ _ v u Q I rx ry ⟨_, _, rfl, rfl, q m H _ .refl R (.int _)⟩
  · cases hf
theorem od_mod : OpR X (binaryOp .Mod) (rD2 g dMod) := by
  rintro pins s σ H x y v u Q I rx ry ⟨m, L, d, e, d', L', R, hd, he, hf, q⟩
  unfold dMod at hf
  split at hf
  · cases hd; cases he
    rename_i j
    cases hb : ltI 0 j with
    | false => rw [hb] at hf; cases hf
    | true =>
      rw [hb] at hf; cases hf
      rw [ltI_eq] at hb
      exact op_mod pins s σ H _ _ v u Q I rx ry ⟨_, _, rfl, rfl, of_decide_eq_true hb, q m H _ .refl R (.int _)⟩
  · cases hf
theorem od_fdiv : OpR X (binaryOp .FloorDiv) (rD2 g dFdiv) := by
  rintro pins s σ H x y v u Q I rx ry ⟨m, L, d, e, d', L', R, hd, he, hf, q⟩
  unfold dFdiv at hf
  split at hf
  · cases hd; cases he
    rename_i j
    cases hb : ltI 0 j && ltI j 1073741824 with
    | false => rw [hb] at hf; cases hf
    | true =>
      rw [hb] at hf; cases hf
      rw [Bool.and_eq_true, ltI_eq, ltI_eq] at hb
      exact op_fdiv pins s σ H _ _ v u Q I rx ry ⟨_, _, rfl, rfl, ⟨of_decide_eq_true hb.1, of_decide_eq_true hb.2⟩, q m H _ .refl R (.int _)⟩
  · cases hf
theorem od_mul (hK : X.K = g.K) : OpR X (binaryOp .Mult) (rD2 g dMul) := by
  rintro pins s σ H x y v u Q I rx ry ⟨m, L, d, e, d', L', R, hd, he, hf, q⟩
  unfold dMul at hf
  split at hf
  · cases hd; cases he
    rename_i i j
    cases hb : ltI (-18446744073709551616) i && ltI i 18446744073709551616 || ltI (-18446744073709551616) j && ltI j 18446744073709551616 with
    | false => rw [hb] at hf; cases hf
    | true =>
      rw [hb] at hf; cases hf
      rw [Bool.or_eq_true, Bool.and_eq_true, Bool.and_eq_true, ltI_eq, ltI_eq, ltI_eq, ltI_eq] at hb
      refine op_mul pins s σ H _ _ v u Q I rx ry ⟨_, _, rfl, rfl, ?_, q m H _ .refl R (.int _)⟩
      rcases hb with ⟨h1, h2⟩ | ⟨h1, h2⟩
      · exact .inl ⟨of_decide_eq_true h1, of_decide_eq_true h2⟩
      · exact .inr ⟨of_decide_eq_true h1, of_decide_eq_true h2⟩
  · rename_i xs k
    cases hd with
    | tup h1 r1 =>
    cases he
    split at hf
    · cases hf
    · rename_i ne
      cases hb : ltI 1 k && ltI k 1000 && Nat.ble xs.length 1000 with
      | false => rw [hb] at hf; cases hf
      | true =>
        rw [hb] at hf; cases hf
        rw [Bool.and_eq_true, Bool.and_eq_true, ltI_eq, ltI_eq] at hb
        have b1 := of_decide_eq_true hb.1.1
        have b2 := of_decide_eq_true hb.1.2
        have b3 := Nat.le_of_ble_eq_true hb.2
        rw [← hK] at h1
        refine op_repT pins s σ H _ _ v u Q I rx ry ⟨_, k, _, rfl, rfl, h1, ?_, by omega, by omega, by rw [← r1.length]; exact b3, newT R (r1.rep k.toNat) q⟩
        intro z
        subst z
        cases r1
        exact ne rfl
  · rename_i a k
    cases hd with
    | loc h1 =>
    cases he
    split at hf
    · rename_i xs e1
      cases hb : ltI (-1000000) k && ltI k 1000000 && lim (xs.length * k.toNat) with
      | false => rw [hb] at hf; cases hf
      | true =>
        rw [hb] at hf
        rw [Bool.and_eq_true, Bool.and_eq_true, ltI_eq, ltI_eq] at hb
        have b1 := of_decide_eq_true hb.1.1
        have b2 := of_decide_eq_true hb.1.2
        obtain ⟨vs, k1, r1⟩ := R.lst h1 e1
        exact op_rep pins s σ H _ _ v u Q I rx ry ⟨_, k, _, rfl, rfl, k1, by omega, by omega, by rw [← r1.length]; exact lim_ok hb.2, newL R (r1.rep k.toNat) hf q⟩
    · cases hf
  · rename_i a k
    cases hd
    cases he
    cases hb : ltI (-1000) k && ltI k 1000 && Nat.ble a.length 1000 with
    | false => rw [hb] at hf; cases hf
    | true =>
      rw [hb] at hf; cases hf
      rw [Bool.and_eq_true, Bool.and_eq_true, ltI_eq, ltI_eq] at hb
      have b1 := of_decide_eq_true hb.1.1
      have b2 := of_decide_eq_true hb.1.2
      have b3 := Nat.le_of_ble_eq_true hb.2
      obtain ⟨t1, rfl⟩ := rx
      obtain ⟨t2, rfl⟩ := ry
      have small : a.length * k.toNat ≤ 1000 * 1000 := Nat.mul_le_mul b3 (by omega)
      have ok : MulOk a k := by
        refine ⟨by simp only [Bool.or_eq_false_iff, decide_eq_false_iff_not]; omega, fun n1 _ z => ?_, fun n1 _ => ?_⟩
        · have h1 : (a.length : Int) ≤ (2 ^ 63 - 1) / k := by
            rw [Int.le_ediv_iff_mul_le (by omega)]
            have h2 : (a.length : Int) * k ≤ 1000 * 1000 := by
              have h3 : ((a.length * k.toNat : Nat) : Int) ≤ ((1000 * 1000 : Nat) : Int) := Int.ofNat_le.mpr small
              rw [Int.natCast_mul, Int.toNat_of_nonneg (by omega)] at h3
              exact h3
            omega
          omega
        · show decide (a.length * k.toNat > sizeLine) = false
          rw [decide_eq_false_iff_not, sizeLine_eq]
          omega
      exact SB.mul ok fun t' k' => ⟨.str (Txt.mul a k), H, I.tok _, ⟨t', rfl⟩, q m H _ .refl R (.str _)⟩
  · cases hf
/-! == and != -/
def dEq : F2 := fun d e L => match eqD L d e with
  | some b => some (.bl b, L)
  | none => none
def dNe : F2 := fun d e L => match eqD L d e with
  | some b => some (.bl (!b), L)
  | none => none
theorem eqD_ok {m : M} {L : LH} {H : Hp} (R : HRel g m L H) {d e : D} {x y : V} {b : Bool} (hd : Rep g m H d x) (he : Rep g m H e y) (h : eqD L d e = some b) : ∃ p r, Dp g.K H x p ∧ Dp g.K H y r ∧ SeqAt.shaped p = true ∧ SeqAt.shaped r = true ∧ b = PyData.eqv p r := by
  unfold eqD at h
  split at h
  · rename_i p r e1 e2
    cases h
    obtain ⟨a1, a2⟩ := dat_ok R hd e1
    obtain ⟨b1, b2⟩ := dat_ok R he e2
    exact ⟨p, r, a1, b1, a2, b2, rfl⟩
  · cases h
theorem od_eq (hK : X.K = g.K) (hu : X.A.units + 64 < cLine) : OpR X (compareOp .Eq) (rD2 g dEq) := by
  rintro pins s σ H x y v u Q I rx ry ⟨m, L, d, e, d', L', R, hd, he, hf, q⟩
  unfold dEq at hf
  split at hf
  · rename_i b hb
    cases hf
    obtain ⟨p, r, a1, b1, a2, b2, rfl⟩ := eqD_ok R hd he hb
    rw [← hK] at a1 b1
    exact op_eqD hu pins s σ H _ _ v u Q I rx ry ⟨p, r, a1, b1, a2, b2, q m H _ .refl R (.bl _)⟩
  · cases hf
theorem od_ne (hK : X.K = g.K) (hu : X.A.units + 64 < cLine) : OpR X (compareOp .NotEq) (rD2 g dNe) := by
  rintro pins s σ H x y v u Q I rx ry ⟨m, L, d, e, d', L', R, hd, he, hf, q⟩
  unfold dNe at hf
  split at hf
  · rename_i b hb
    cases hf
    obtain ⟨p, r, a1, b1, a2, b2, rfl⟩ := eqD_ok R hd he hb
    rw [← hK] at a1 b1
    exact op_neD hu pins s σ H _ _ v u Q I rx ry ⟨p, r, a1, b1, a2, b2, q m H _ .refl R (.bl _)⟩
  · cases hf
/-! is None -/
def isNon : D → Bool
  | .non => true
  | _ => false
theorem isNon_ok {m : M} {H : Hp} {d : D} {x : V} (h : Rep g m H d x) : isNon d = decide (x = .non) := by cases h <;> first | rfl | (symm; exact decide_eq_false (by intro z; cases z))
def dIs : F2
  | d, .non, L => some (.bl (isNon d), L)
  | _, _, _ => none
def dIsNot : F2
  | d, .non, L => some (.bl (!isNon d), L)
  | _, _, _ => none
theorem od_is : OpR X (compareOp .Is) (rD2 g dIs) := by
  rintro pins s σ H x y v u Q I rx ry ⟨m, L, d, e, d', L', R, hd, he, hf, q⟩
  unfold dIs at hf
  split at hf
  · cases he; cases hf
    exact op_isN pins s σ H _ _ v u Q I rx ry ⟨rfl, by rw [← isNon_ok hd]; exact q m H _ .refl R (.bl _)⟩
  · cases hf
theorem od_isNot : OpR X (compareOp .IsNot) (rD2 g dIsNot) := by
  rintro pins s σ H x y v u Q I rx ry ⟨m, L, d, e, d', L', R, hd, he, hf, q⟩
  unfold dIsNot at hf
  split at hf
  · cases he; cases hf
    exact op_notN pins s σ H _ _ v u Q I rx ry ⟨rfl, by rw [← isNon_ok hd]; exact q m H _ .refl R (.bl _)⟩
  · cases hf
end
end FC
end

section
namespace FC
open PySem PySem.Spec PyProof.Rows L2

/-! ### a < b on data -/
mutual
def ltP : PyData → PyData → Option Bool
  | .int a, .int b => some (ltI a b)
  | .bool a, .bool b => some (!a && b)
  | .str x, .str y => some (decide (x.cps.toList < y.cps.toList))
  | .tuple xs, .tuple ys => ltPs xs ys
  | .list xs, .list ys => ltPs xs ys
  | _, _ => none
def ltPs : List PyData → List PyData → Option Bool
  | [], [] => some false
  | [], _ :: _ => some true
  | _ :: _, [] => some false
  | x :: xs, y :: ys => bif PyData.eqv x y then ltPs xs ys else match ltP x y with
    | some k => bif okPs xs ys then some k else none
    | none => none
def okPs : List PyData → List PyData → Bool
  | [], _ => true
  | _ :: _, [] => true
  | x :: xs, y :: ys => (PyData.eqv x y || (ltP x y).isSome) && okPs xs ys
end
abbrev eAt (xs ys : List PyData) (j : Nat) : Bool := PyData.eqv (xs.getD j .none) (ys.getD j .none)
abbrev rAt (xs ys : List PyData) (j : Nat) : Bool := (ltP (xs.getD j .none) (ys.getD j .none)).getD false
theorem firstLt_map {e r : Nat → Bool} {fin : Bool} (f : Nat → Nat) : ∀ l : List Nat, SeqAt.firstLt e r fin (l.map f) = SeqAt.firstLt (fun j => e (f j)) (fun j => r (f j)) fin l
  | [] => rfl
  | j :: t => by
    rw [List.map_cons]
    unfold SeqAt.firstLt
    rw [firstLt_map f t]
theorem okPs_of : ∀ {xs ys : List PyData}, okPs xs ys = true → ∀ j, j < xs.length → j < ys.length → eAt xs ys j = false → ∃ k, ltP (xs.getD j .none) (ys.getD j .none) = some k
  | [], _, _, j, h, _, _ => absurd h (Nat.not_lt_zero _)
  | _ :: _, [], _, j, _, h, _ => absurd h (Nat.not_lt_zero _)
  | x :: xs, y :: ys, h, 0, _, _, e => by
    rw [okPs, Bool.and_eq_true, Bool.or_eq_true] at h
    have e' : PyData.eqv x y = false := e
    rw [e'] at h
    rcases h.1 with q | q
    · cases q
    · exact Option.isSome_iff_exists.mp q
  | x :: xs, y :: ys, h, j + 1, h1, h2, e => by
    rw [okPs, Bool.and_eq_true] at h
    exact okPs_of h.2 j (Nat.lt_of_succ_lt_succ h1) (Nat.lt_of_succ_lt_succ h2) e
theorem ltPs_ok : ∀ {xs ys : List PyData} {k : Bool}, ltPs xs ys = some k → okPs xs ys = true
  | [], _, _, _ => by rw [okPs]
  | _ :: _, [], _, _ => by rw [okPs]
  | x :: xs, y :: ys, k, h => by
    rw [ltPs] at h
    rw [okPs]
    cases e : PyData.eqv x y with
    | true =>
      rw [e] at h
      rw [ltPs_ok (xs := xs) (ys := ys) h]; rfl
    | false =>
      rw [e] at h
      simp only [cond_false] at h
      cases q : ltP x y with
      | none => rw [q] at h; cases h
      | some b =>
        simp only [q] at h
        cases q2 : okPs xs ys with
        | true => rfl
        | false => rw [q2] at h; cases h
theorem ltPs_first : ∀ {xs ys : List PyData} {k : Bool}, ltPs xs ys = some k → SeqAt.firstLt (eAt xs ys) (rAt xs ys) (decide (xs.length < ys.length)) (List.range (min xs.length ys.length)) = k
  | [], [], _, h => by rw [ltPs] at h; cases h; rfl
  | [], y :: ys, _, h => by
    rw [ltPs] at h; cases h
    simp [SeqAt.firstLt]
  | x :: xs, [], _, h => by
    rw [ltPs] at h; cases h
    simp [SeqAt.firstLt]
  | x :: xs, y :: ys, k, h => by
    rw [ltPs] at h
    have e1 : min (x :: xs).length (y :: ys).length = min xs.length ys.length + 1 := by simp only [List.length_cons]; omega
    have e2 : decide ((x :: xs).length < (y :: ys).length) = decide (xs.length < ys.length) := by simp
    rw [e1, e2, List.range_succ_eq_map]
    cases e : PyData.eqv x y with
    | true =>
      rw [e] at h
      rw [SeqAt.firstLt_yes (show eAt (x :: xs) (y :: ys) 0 = true from e), firstLt_map]
      exact ltPs_first (xs := xs) (ys := ys) h
    | false =>
      rw [e] at h
      simp only [cond_false] at h
      rw [SeqAt.firstLt_no (show eAt (x :: xs) (y :: ys) 0 = false from e)]
      show (ltP x y).getD false = k
      cases q : ltP x y with
      | none => rw [q] at h; cases h
      | some b =>
        simp only [q] at h
        cases q2 : okPs xs ys with
        | true => rw [q2] at h; cases h; rfl
        | false => rw [q2] at h; cases h
theorem getD_at {α : Type} {l : List α} {j : Nat} {d : α} (h : j < l.length) : l.getD j d = l[j] := by
  rw [List.getD_eq_getElem?_getD, List.getElem?_eq_getElem h]; rfl
theorem readsAll_at {h : Heap} : ∀ {vs : List Value} {xs : List PyData} {as : List Addr}, ReadsAll h vs xs as → ∀ j (h1 : j < vs.length) (h2 : j < xs.length), ∃ bs, Reads h vs[j] xs[j] bs
  | _, _, _, .cons r _, 0, _, _ => ⟨_, r⟩
  | _, _, _, .cons _ rs, j + 1, h1, h2 => readsAll_at rs j (Nat.lt_of_succ_lt_succ h1) (Nat.lt_of_succ_lt_succ h2)
theorem canAll_at : ∀ {xs : List PyData}, PyData.canLayAll0 xs = true → ∀ j (h2 : j < xs.length), PyData.canLay0 xs[j] = true
  | x :: xs, h, 0, _ => by rw [PyData.canLayAll0, Bool.and_eq_true] at h; exact h.1
  | x :: xs, h, j + 1, h2 => by rw [PyData.canLayAll0, Bool.and_eq_true] at h; exact canAll_at h.2 j (Nat.lt_of_succ_lt_succ h2)
theorem depthAll_at : ∀ {xs : List PyData} (j : Nat) (h2 : j < xs.length), PyData.depth xs[j] ≤ PyData.depthAll xs
  | x :: xs, 0, _ => by simp only [List.getElem_cons_zero, PyData.depthAll]; omega
  | x :: xs, j + 1, h2 => by
    have := depthAll_at (xs := xs) j (Nat.lt_of_succ_lt_succ h2)
    simp only [List.getElem_cons_succ, PyData.depthAll]; omega
theorem lt_bool_rc {A : Around} {s : Shared} {a b : Bool} : SeqAt.RcLt A s (.bool a) (.bool b) (!a && b) := fun prog w E Q h => by
  have q := PyProof.Rows.lt_bool (prog := prog) (w := w) (A := A) (E := E) (s := s) (p := a) (q := b) (Q := Q) (by cases a <;> cases b <;> exact h)
  exact q
mutual
theorem rcLt_reads : ∀ (da db : PyData) (k : Bool), ltP da db = some k → ∀ (A : Around) (s : Shared) (a b : Value) (as bs : List Addr), Reads s.heap a da as → Reads s.heap b db bs → da.canLay0 = true → db.canLay0 = true →
    A.units + min da.depth db.depth < cLine → SeqAt.RcLt A s a b k
  | .int x, .int y, k, hk, A, s, _, _, _, _, ra, rb, _, _, _ => by
    cases ra; cases rb
    rw [ltP] at hk; cases hk
    intro prog w E Q h
    show wpAny (model prog w) A (compareOp .Lt _ _) Q E s
    exact PyProof.Rows.lt_int (by rw [← ltI_eq]; exact h)
  | .bool x, .bool y, k, hk, A, s, _, _, _, _, ra, rb, _, _, _ => by
    cases ra; cases rb
    rw [ltP] at hk; cases hk
    exact lt_bool_rc
  | .str x, .str y, k, hk, A, s, _, _, _, _, ra, rb, _, _, _ => by
    cases ra; cases rb
    rw [ltP] at hk; cases hk
    intro prog w E Q h
    show wpAny (model prog w) A (compareOp .Lt _ _) Q E s
    exact PyProof.Rows.lt_str h
  | .tuple xs, .tuple ys, k, hk, A, s, _, _, _, _, ra, rb, ha, hb, hu => by
    rw [ltP] at hk
    cases ra with
    | @tuple l o vs n _ _ h1 h2 h3 h4 =>
      cases rb with
      | @tuple l' o' vs' n' _ _ k1 k2 k3 k4 =>
        have n1 : vs.size = xs.length := by simpa using SeqAt.ReadsAll.length _ _ _ h4
        have n2 : vs'.size = ys.length := by simpa using SeqAt.ReadsAll.length _ _ _ k4
        have q := SeqAt.RcLt.tuples (A := A) (e := eAt xs ys) (r := rAt xs ys) ⟨_, h1, h2, _, h3⟩ ⟨_, k1, k2, _, k3⟩ (SeqAt.room_here hu)
          (fun j j1 j2 => (rcLt_items xs ys k hk A.in1 s vs.toList vs'.toList _ _ h4 k4 ha hb (SeqAt.room_in hu) j (by simpa using j1) (by simpa using j2)).1)
          (fun j j1 j2 => (rcLt_items xs ys k hk A.in1 s vs.toList vs'.toList _ _ h4 k4 ha hb (SeqAt.room_in hu) j (by simpa using j1) (by simpa using j2)).2)
        rw [n1, n2, ltPs_first hk] at q
        exact q
  | .list xs, .list ys, k, hk, A, s, _, _, _, _, ra, rb, ha, hb, hu => by
    rw [ltP] at hk
    cases ra with
    | @list l o vs n _ _ h1 h2 h3 h4 =>
      cases rb with
      | @list l' o' vs' n' _ _ k1 k2 k3 k4 =>
        have n1 : vs.size = xs.length := by simpa using SeqAt.ReadsAll.length _ _ _ h4
        have n2 : vs'.size = ys.length := by simpa using SeqAt.ReadsAll.length _ _ _ k4
        have q := SeqAt.RcLt.lists (A := A) (e := eAt xs ys) (r := rAt xs ys) ⟨_, h1, h2, _, h3⟩ ⟨_, k1, k2, _, k3⟩ (SeqAt.room_here hu)
          (fun j j1 j2 => (rcLt_items xs ys k hk A.in1 s vs.toList vs'.toList _ _ h4 k4 ha hb (SeqAt.room_in hu) j (by simpa using j1) (by simpa using j2)).1)
          (fun j j1 j2 => (rcLt_items xs ys k hk A.in1 s vs.toList vs'.toList _ _ h4 k4 ha hb (SeqAt.room_in hu) j (by simpa using j1) (by simpa using j2)).2)
        rw [n1, n2, ltPs_first hk] at q
        exact q
  | .none, _, _, hk, _, _, _, _, _, _, _, _, _, _, _ => by simp [ltP] at hk
  | .dict _, _, _, hk, _, _, _, _, _, _, _, _, _, _, _ => by simp [ltP] at hk
  | .int _, .none, _, hk, _, _, _, _, _, _, _, _, _, _, _ => by simp [ltP] at hk
  | .int _, .bool _, _, hk, _, _, _, _, _, _, _, _, _, _, _ => by simp [ltP] at hk
  | .int _, .str _, _, hk, _, _, _, _, _, _, _, _, _, _, _ => by simp [ltP] at hk
  | .int _, .list _, _, hk, _, _, _, _, _, _, _, _, _, _, _ => by simp [ltP] at hk
  | .int _, .tuple _, _, hk, _, _, _, _, _, _, _, _, _, _, _ => by simp [ltP] at hk
  | .int _, .dict _, _, hk, _, _, _, _, _, _, _, _, _, _, _ => by simp [ltP] at hk
  | .bool _, .none, _, hk, _, _, _, _, _, _, _, _, _, _, _ => by simp [ltP] at hk
  | .bool _, .int _, _, hk, _, _, _, _, _, _, _, _, _, _, _ => by simp [ltP] at hk
  | .bool _, .str _, _, hk, _, _, _, _, _, _, _, _, _, _, _ => by simp [ltP] at hk
  | .bool _, .list _, _, hk, _, _, _, _, _, _, _, _, _, _, _ => by simp [ltP] at hk
  | .bool _, .tuple _, _, hk, _, _, _, _, _, _, _, _, _, _, _ => by simp [ltP] at hk
  | .bool _, .dict _, _, hk, _, _, _, _, _, _, _, _, _, _, _ => by simp [ltP] at hk
  | .str _, .none, _, hk, _, _, _, _, _, _, _, _, _, _, _ => by simp [ltP] at hk
  | .str _, .bool _, _, hk, _, _, _, _, _, _, _, _, _, _, _ => by simp [ltP] at hk
  | .str _, .int _, _, hk, _, _, _, _, _, _, _, _, _, _, _ => by simp [ltP] at hk
  | .str _, .list _, _, hk, _, _, _, _, _, _, _, _, _, _, _ => by simp [ltP] at hk
  | .str _, .tuple _, _, hk, _, _, _, _, _, _, _, _, _, _, _ => by simp [ltP] at hk
  | .str _, .dict _, _, hk, _, _, _, _, _, _, _, _, _, _, _ => by simp [ltP] at hk
  | .tuple _, .none, _, hk, _, _, _, _, _, _, _, _, _, _, _ => by simp [ltP] at hk
  | .tuple _, .bool _, _, hk, _, _, _, _, _, _, _, _, _, _, _ => by simp [ltP] at hk
  | .tuple _, .int _, _, hk, _, _, _, _, _, _, _, _, _, _, _ => by simp [ltP] at hk
  | .tuple _, .str _, _, hk, _, _, _, _, _, _, _, _, _, _, _ => by simp [ltP] at hk
  | .tuple _, .list _, _, hk, _, _, _, _, _, _, _, _, _, _, _ => by simp [ltP] at hk
  | .tuple _, .dict _, _, hk, _, _, _, _, _, _, _, _, _, _, _ => by simp [ltP] at hk
  | .list _, .none, _, hk, _, _, _, _, _, _, _, _, _, _, _ => by simp [ltP] at hk
  | .list _, .bool _, _, hk, _, _, _, _, _, _, _, _, _, _, _ => by simp [ltP] at hk
  | .list _, .int _, _, hk, _, _, _, _, _, _, _, _, _, _, _ => by simp [ltP] at hk
  | .list _, .str _, _, hk, _, _, _, _, _, _, _, _, _, _, _ => by simp [ltP] at hk
  | .list _, .tuple _, _, hk, _, _, _, _, _, _, _, _, _, _, _ => by simp [ltP] at hk
  | .list _, .dict _, _, hk, _, _, _, _, _, _, _, _, _, _, _ => by simp [ltP] at hk
theorem rcLt_items : ∀ (xs ys : List PyData) (k : Bool), ltPs xs ys = some k → ∀ (A : Around) (s : Shared) (vs ws : List Value) (as bs : List Addr), ReadsAll s.heap vs xs as → ReadsAll s.heap ws ys bs →
    PyData.canLayAll0 xs = true → PyData.canLayAll0 ys = true → A.units + min (PyData.depthAll xs) (PyData.depthAll ys) < cLine →
    ∀ j (h1 : j < vs.length) (h2 : j < ws.length), SeqAt.EqAt A s vs[j] ws[j] (eAt xs ys j) ∧ (eAt xs ys j = false → SeqAt.RcLt A s vs[j] ws[j] (rAt xs ys j))
  | [], _, _, _, _, _, _, _, _, _, ra, _, _, _, _, j, h1, _ => by cases ra; exact absurd h1 (Nat.not_lt_zero _)
  | _ :: _, [], _, _, _, _, _, _, _, _, _, rb, _, _, _, j, _, h2 => by cases rb; exact absurd h2 (Nat.not_lt_zero _)
  | x :: xs, y :: ys, k, hk, A, s, _, _, _, _, ra, rb, ha, hb, hu, j, h1, h2 => by
    cases ra with
    | cons r rs =>
      cases rb with
      | cons r' rs' =>
        rw [PyData.canLayAll0, Bool.and_eq_true] at ha hb
        have okk := ltPs_ok hk
        cases j with
        | zero =>
          refine ⟨SeqAt.eqAt_reads x y A s _ _ _ _ r r' ha.1 hb.1 (SeqAt.room_head hu), fun e => ?_⟩
          have e' : PyData.eqv x y = false := e
          rw [ltPs, e'] at hk
          simp only [cond_false] at hk
          cases q : ltP x y with
          | none => rw [q] at hk; cases hk
          | some b =>
            show SeqAt.RcLt A s _ _ ((ltP x y).getD false)
            rw [q]
            exact rcLt_reads x y b q A s _ _ _ _ r r' ha.1 hb.1 (SeqAt.room_head hu)
        | succ j =>
          rw [okPs, Bool.and_eq_true] at okk
          exact rcLt_rest xs ys okk.2 A s _ _ _ _ rs rs' ha.2 hb.2 (SeqAt.room_tail hu) j (Nat.lt_of_succ_lt_succ h1) (Nat.lt_of_succ_lt_succ h2)
theorem rcLt_rest : ∀ (xs ys : List PyData), okPs xs ys = true → ∀ (A : Around) (s : Shared) (vs ws : List Value) (as bs : List Addr), ReadsAll s.heap vs xs as → ReadsAll s.heap ws ys bs →
    PyData.canLayAll0 xs = true → PyData.canLayAll0 ys = true → A.units + min (PyData.depthAll xs) (PyData.depthAll ys) < cLine →
    ∀ j (h1 : j < vs.length) (h2 : j < ws.length), SeqAt.EqAt A s vs[j] ws[j] (eAt xs ys j) ∧ (eAt xs ys j = false → SeqAt.RcLt A s vs[j] ws[j] (rAt xs ys j))
  | [], _, _, _, _, _, _, _, _, ra, _, _, _, _, j, h1, _ => by cases ra; exact absurd h1 (Nat.not_lt_zero _)
  | _ :: _, [], _, _, _, _, _, _, _, _, rb, _, _, _, j, _, h2 => by cases rb; exact absurd h2 (Nat.not_lt_zero _)
  | x :: xs, y :: ys, hk, A, s, _, _, _, _, ra, rb, ha, hb, hu, j, h1, h2 => by
    cases ra with
    | cons r rs =>
      cases rb with
      | cons r' rs' =>
        rw [PyData.canLayAll0, Bool.and_eq_true] at ha hb
        rw [okPs, Bool.and_eq_true] at hk
        cases j with
        | zero =>
          refine ⟨SeqAt.eqAt_reads x y A s _ _ _ _ r r' ha.1 hb.1 (SeqAt.room_head hu), fun e => ?_⟩
          have e' : PyData.eqv x y = false := e
          rw [e', Bool.false_or] at hk
          obtain ⟨b, q⟩ := Option.isSome_iff_exists.mp hk.1
          show SeqAt.RcLt A s _ _ ((ltP x y).getD false)
          rw [q]
          exact rcLt_reads x y b q A s _ _ _ _ r r' ha.1 hb.1 (SeqAt.room_head hu)
        | succ j => exact rcLt_rest xs ys hk.2 A s _ _ _ _ rs rs' ha.2 hb.2 (SeqAt.room_tail hu) j (Nat.lt_of_succ_lt_succ h1) (Nat.lt_of_succ_lt_succ h2)
end
def ltD (L : LH) (d e : D) : Option Bool := match d, e with
  | .int i, .int j => some (ltI i j)
  | _, _ => match dat L d, dat L e with
    | some x, some y => ltP x y
    | _, _ => none
def dLt : F2 := fun d e L => match ltD L d e with
  | some b => some (.bl b, L)
  | none => none
theorem min_depth {A : Around} {x y : PyData} (hx : SeqAt.shaped x = true) (hu : A.units + 64 < cLine) : A.units + min x.depth y.depth < cLine := by
  have : x.depth ≤ 64 := of_decide_eq_true (Bool.and_eq_true_iff.mp hx).2
  omega
section
variable {X : Cx} {g : GE}
theorem lt_run (hK : X.K = g.K) {A : Around} (hu : A.units + 64 < cLine) {pins : List (Addr × Obj)} {s : Shared} {σ : L2.St} {H : Hp} {x y : V} {v u : Value} {m : M} {L : LH} {d e : D} {b : Bool} (I : L2.Inv X pins σ H s) (rx : L2.RelV x v) (ry : L2.RelV y u)
    (R : HRel g m L H) (hd : Rep g m H d x) (he : Rep g m H e y) (h : ltD L d e = some b) : SeqAt.RcLt A s v u b := by
  unfold ltD at h
  split at h
  · cases hd; cases he; cases h
    obtain ⟨t, rfl⟩ := rx
    obtain ⟨t', rfl⟩ := ry
    intro prog w E Q q
    show wpAny (model prog w) A (compareOp .Lt _ _) Q E s
    exact PyProof.Rows.lt_int (by rw [← ltI_eq]; exact q)
  · split at h
    · rename_i p r e1 e2
      obtain ⟨a1, a2⟩ := dat_ok R hd e1
      obtain ⟨b1, b2⟩ := dat_ok R he e2
      rw [← hK] at a1 b1
      obtain ⟨as, r1⟩ := Dp.reads I _ _ _ a1 rx
      obtain ⟨bs, r2⟩ := Dp.reads I _ _ _ b1 ry
      exact rcLt_reads p r b h A s v u as bs r1 r2 (SeqAt.canLay_of_shaped a2) (SeqAt.canLay_of_shaped b2) (min_depth a2 hu)
    · cases h
theorem od_lt (hK : X.K = g.K) (hu : X.A.units + 64 < cLine) : OpR X (compareOp .Lt) (rD2 g dLt) := by
  rintro pins s σ H x y v u Q I rx ry ⟨m, L, d, e, d', L', R, hd, he, hf, q⟩
  unfold dLt at hf
  split at hf
  · rename_i b hb
    cases hf
    exact lt_run hK hu I rx ry R hd he hb X.prog X.w X.xe _ ⟨.bl b, H, I, rfl, q m H _ .refl R (.bl _)⟩
  · cases hf
def dLe : F2
  | .int i, .int j, L => some (.bl (!ltI j i), L)
  | _, _, _ => none
def dGt : F2
  | .int i, .int j, L => some (.bl (ltI j i), L)
  | _, _, _ => none
def dGe : F2
  | .int i, .int j, L => some (.bl (!ltI i j), L)
  | _, _, _ => none
theorem not_lt_dec {i j : Int} : (!ltI j i) = decide (i ≤ j) := by
  rw [ltI_eq, Bool.eq_iff_iff]
  simp only [Bool.not_eq_true', decide_eq_false_iff_not, decide_eq_true_iff]
  omega
theorem od_le : OpR X (compareOp .LtE) (rD2 g dLe) := by
  rintro pins s σ H x y v u Q I rx ry ⟨m, L, d, e, d', L', R, hd, he, hf, q⟩
  unfold dLe at hf
  split at hf
  · cases hd; cases he; cases hf
    rw [not_lt_dec] at q
    exact op_le pins s σ H _ _ v u Q I rx ry ⟨_, _, rfl, rfl, q m H _ .refl R (.bl _)⟩
  · cases hf
theorem od_gt : OpR X (compareOp .Gt) (rD2 g dGt) := by
  rintro pins s σ H x y v u Q I rx ry ⟨m, L, d, e, d', L', R, hd, he, hf, q⟩
  unfold dGt at hf
  split at hf
  · cases hd; cases he; cases hf
    rw [ltI_eq] at q
    exact op_gt pins s σ H _ _ v u Q I rx ry ⟨_, _, rfl, rfl, q m H _ .refl R (.bl _)⟩
  · cases hf
theorem od_ge : OpR X (compareOp .GtE) (rD2 g dGe) := by
  rintro pins s σ H x y v u Q I rx ry ⟨m, L, d, e, d', L', R, hd, he, hf, q⟩
  unfold dGe at hf
  split at hf
  · cases hd; cases he; cases hf
    rw [not_lt_dec] at q
    exact op_ge pins s σ H _ _ v u Q I rx ry ⟨_, _, rfl, rfl, q m H _ .refl R (.bl _)⟩
  · cases hf
end
end FC
end

section
namespace FC
open PySem PySem.Spec PyProof.Rows L2

/-! ### keys carried by value, without bools -/
def notBool : Value → Bool
  | .bool _ => false
  | _ => true
def scKind (prog : Program) (w : World) : KeyKind prog w Leaf where
  is := fun k v => Leaf.isOf k v && notBool v
  hash := fun k => k.key.hash w
  inj := fun v a b ha hb => (leafKind prog w).inj v a b (Bool.and_eq_true_iff.mp ha).1 (Bool.and_eq_true_iff.mp hb).1
  byValue := fun k v h => (leafKind prog w).byValue k v (Bool.and_eq_true_iff.mp h).1
  pyHash := fun hv h => (leafKind prog w).pyHash (Bool.and_eq_true_iff.mp hv).1 h
  eqBool := fun hu hv h => (leafKind prog w).eqBool (Bool.and_eq_true_iff.mp hu).1 (Bool.and_eq_true_iff.mp hv).1 h
  «strs» := fun k x t v h => by
    have := (leafKind prog w).strs k x t v (Bool.and_eq_true_iff.mp h).1
    have e : (leafKind prog w).is k v = Leaf.isOf k v := rfl
    rw [e] at this
    rw [this]
    cases v <;> simp [notBool, Value.isStr]
def leafOf : D → Leaf
  | .int i => .num i
  | .str x => .text x
  | _ => .none
theorem nkey_leaf : ∀ {d : D}, isSc d = true → nkey d = some (leafOf d).key
  | .non, _ => rfl
  | .int _, _ => rfl
  | .str _, _ => rfl
  | .bl _, h => by cases h
  | .tup _, h => by cases h
  | .rol _, h => by cases h
  | .loc _, h => by cases h
  | .ty _, h => by cases h
  | .fn _, h => by cases h
  | .cls _, h => by cases h
section
variable {g : GE} {m : M} {L : LH} {H : Hp}
theorem scKind_is {d : D} {v : V} {u : Value} (h : isSc d = true) (r : Rep g m H d v) (rv : L2.RelV v u) : (scKind g.P g.w).is (leafOf d) u = true := by
  cases r with
  | non => cases rv; rfl
  | int i => obtain ⟨t, rfl⟩ := rv; show (decide (i = i) && true) = true; simp
  | str x => obtain ⟨t, rfl⟩ := rv; show (Value.isStrOf x (.str x t) && true) = true; simp [Value.isStrOf]
  | _ => cases h
/-- the key again from its kind -/
theorem scKind_rel {d : D} {u : Value} (h : isSc d = true) (k : (scKind g.P g.w).is (leafOf d) u = true) : ∃ v, L2.RelV v u ∧ Rep g m H d v := by
  have k' : (Leaf.isOf (leafOf d) u && notBool u) = true := k
  rw [Bool.and_eq_true] at k'
  obtain ⟨k1, k2⟩ := k'
  cases d with
  | non =>
    cases u <;> first
      | exact ⟨.non, rfl, .non⟩
      | exact absurd k1 Bool.false_ne_true
  | int i =>
    cases u with
    | int j t =>
      have e : j = i := of_decide_eq_true k1
      exact ⟨.int i, ⟨t, by rw [e]⟩, .int i⟩
    | bool b => exact absurd k2 Bool.false_ne_true
    | _ => exact absurd k1 Bool.false_ne_true
  | str x =>
    obtain ⟨t, rfl⟩ := Value.isStrOf_shape (show Value.isStrOf x u = true from k1)
    exact ⟨.str x, ⟨t, rfl⟩, .str x⟩
  | _ => cases h
end

/-! ### the key of a value, in the heap -/
section
variable {g : GE} {X : Cx} {pins : List (Addr × Obj)} {σ : L2.St} {H : Hp} {s : Shared} {m : M}
theorem nkey_tup {ds : List D} {k : NestedKey} (h : nkey (.tup ds) = some k) : ∃ ks, nkey.nkeys ds = some ks ∧ k = .tup ks := by
  rw [nkey] at h
  cases q : nkey.nkeys ds with
  | none => rw [q] at h; cases h
  | some ks => rw [q] at h; cases h; exact ⟨ks, rfl, rfl⟩
theorem nkeys_cons {d : D} {ds : List D} {ks : List NestedKey} (h : nkey.nkeys (d :: ds) = some ks) : ∃ k ks', nkey d = some k ∧ nkey.nkeys ds = some ks' ∧ ks = k :: ks' := by
  rw [nkey.nkeys] at h
  cases q : nkey d with
  | none => rw [q] at h; cases h
  | some k =>
    rw [q] at h
    cases q2 : nkey.nkeys ds with
    | none => rw [q2] at h; cases h
    | some ks' => rw [q2] at h; cases h; exact ⟨k, ks', rfl, rfl, rfl⟩
mutual
theorem nested_of (hK : X.K = g.K) (I : L2.Inv X pins σ H s) : ∀ {d : D} {v : V} {u : Value} {k : NestedKey}, Rep g m H d v → L2.RelV v u → nkey d = some k → NestedIs s.heap k u
  | _, _, _, _, .non, rv, e => by cases rv; cases e; exact .none
  | _, _, _, _, .bl b, rv, e => by cases rv; cases e; exact .bool rfl
  | _, _, _, _, .int i, rv, e => by obtain ⟨t, rfl⟩ := rv; cases e; exact .int i t
  | _, _, _, _, .str x, rv, e => by obtain ⟨t, rfl⟩ := rv; cases e; exact .text x t
  | _, _, _, _, .tup h r, rv, e => by
    cases rv
    obtain ⟨ks, e1, rfl⟩ := nkey_tup e
    rw [← hK] at h
    obtain ⟨its, rvs, ⟨o, ho, hc, n, hd⟩, _⟩ := I.tuple h
    exact .tup ho hc hd (nestedAll_of hK I r rvs e1)
  | _, _, _, _, .rol _ _, _, e => by cases e
  | _, _, _, _, .loc _, _, e => by cases e
  | _, _, _, _, .ty _, _, e => by cases e
  | _, _, _, _, .fn _, _, e => by cases e
  | _, _, _, _, .cls _, _, e => by cases e
theorem nestedAll_of (hK : X.K = g.K) (I : L2.Inv X pins σ H s) : ∀ {ds : List D} {vs : List V} {us : List Value} {ks : List NestedKey}, RepL g m H ds vs → L2.Vals vs us → nkey.nkeys ds = some ks → NestedAll s.heap ks us
  | _, _, _, _, .nil, rv, e => by cases rv; cases e; exact .nil
  | _, _, _, _, .cons h r, rv, e => by
    cases rv with
    | cons a b =>
      obtain ⟨k, ks', e1, e2, rfl⟩ := nkeys_cons e
      exact .cons (nested_of hK I h a e1) (nestedAll_of hK I r b e2)
end
end

/-! ### looking, storing -/
mutual
def keyEq : D → D → Bool
  | .non, .non => true
  | .bl a, .bl b => a == b
  | .bl a, .int j => (if a = true then 1 else 0) == j
  | .int i, .bl b => i == (if b = true then 1 else 0)
  | .int i, .int j => i == j
  | .str x, .str y => decide (x = y)
  | .tup a, .tup b => keyEqs a b
  | _, _ => false
def keyEqs : List D → List D → Bool
  | [], [] => true
  | a :: as, b :: bs => keyEq a b && keyEqs as bs
  | _, _ => false
end
mutual
theorem keyEq_ok : ∀ {a b : D} {k j : NestedKey}, nkey a = some k → nkey b = some j → keyEq a b = NestedKey.beq k j
  | .non, .non, _, _, h1, h2 => by cases h1; cases h2; rfl
  | .non, .bl _, _, _, h1, h2 => by cases h1; cases h2; rfl
  | .non, .int _, _, _, h1, h2 => by cases h1; cases h2; rfl
  | .non, .str _, _, _, h1, h2 => by cases h1; cases h2; rfl
  | .non, .tup _, _, _, h1, h2 => by cases h1; obtain ⟨ks, _, rfl⟩ := nkey_tup h2; rfl
  | .bl _, .non, _, _, h1, h2 => by cases h1; cases h2; rfl
  | .bl a, .bl b, _, _, h1, h2 => by cases h1; cases h2; cases a <;> cases b <;> rfl
  | .bl a, .int j, _, _, h1, h2 => by cases h1; cases h2; cases a <;> (simp only [keyEq, NestedKey.beq]; rfl)
  | .bl _, .str _, _, _, h1, h2 => by cases h1; cases h2; rfl
  | .bl _, .tup _, _, _, h1, h2 => by cases h1; obtain ⟨ks, _, rfl⟩ := nkey_tup h2; rfl
  | .int _, .non, _, _, h1, h2 => by cases h1; cases h2; rfl
  | .int i, .bl b, _, _, h1, h2 => by cases h1; cases h2; cases b <;> (simp only [keyEq, NestedKey.beq]; rfl)
  | .int i, .int j, _, _, h1, h2 => by cases h1; cases h2; simp only [keyEq, NestedKey.beq]; rfl
  | .int _, .str _, _, _, h1, h2 => by cases h1; cases h2; rfl
  | .int _, .tup _, _, _, h1, h2 => by cases h1; obtain ⟨ks, _, rfl⟩ := nkey_tup h2; rfl
  | .str _, .non, _, _, h1, h2 => by cases h1; cases h2; rfl
  | .str _, .bl _, _, _, h1, h2 => by cases h1; cases h2; rfl
  | .str _, .int _, _, _, h1, h2 => by cases h1; cases h2; rfl
  | .str _, .str _, _, _, h1, h2 => by cases h1; cases h2; simp only [keyEq, NestedKey.beq]
  | .str _, .tup _, _, _, h1, h2 => by cases h1; obtain ⟨ks, _, rfl⟩ := nkey_tup h2; rfl
  | .tup _, .non, _, _, h1, h2 => by cases h2; obtain ⟨ks, _, rfl⟩ := nkey_tup h1; rfl
  | .tup _, .bl _, _, _, h1, h2 => by cases h2; obtain ⟨ks, _, rfl⟩ := nkey_tup h1; rfl
  | .tup _, .int _, _, _, h1, h2 => by cases h2; obtain ⟨ks, _, rfl⟩ := nkey_tup h1; rfl
  | .tup _, .str _, _, _, h1, h2 => by cases h2; obtain ⟨ks, _, rfl⟩ := nkey_tup h1; rfl
  | .tup a, .tup b, _, _, h1, h2 => by
    obtain ⟨ks, e1, rfl⟩ := nkey_tup h1
    obtain ⟨js, e2, rfl⟩ := nkey_tup h2
    rw [keyEq, NestedKey.beq]
    exact keyEqs_ok e1 e2
  | .rol _, _, _, _, h1, _ => by cases h1
  | .loc _, _, _, _, h1, _ => by cases h1
  | .ty _, _, _, _, h1, _ => by cases h1
  | .fn _, _, _, _, h1, _ => by cases h1
  | .cls _, _, _, _, h1, _ => by cases h1
  | .non, .rol _, _, _, _, h2 => by cases h2
  | .non, .loc _, _, _, _, h2 => by cases h2
  | .non, .ty _, _, _, _, h2 => by cases h2
  | .non, .fn _, _, _, _, h2 => by cases h2
  | .non, .cls _, _, _, _, h2 => by cases h2
  | .bl _, .rol _, _, _, _, h2 => by cases h2
  | .bl _, .loc _, _, _, _, h2 => by cases h2
  | .bl _, .ty _, _, _, _, h2 => by cases h2
  | .bl _, .fn _, _, _, _, h2 => by cases h2
  | .bl _, .cls _, _, _, _, h2 => by cases h2
  | .int _, .rol _, _, _, _, h2 => by cases h2
  | .int _, .loc _, _, _, _, h2 => by cases h2
  | .int _, .ty _, _, _, _, h2 => by cases h2
  | .int _, .fn _, _, _, _, h2 => by cases h2
  | .int _, .cls _, _, _, _, h2 => by cases h2
  | .str _, .rol _, _, _, _, h2 => by cases h2
  | .str _, .loc _, _, _, _, h2 => by cases h2
  | .str _, .ty _, _, _, _, h2 => by cases h2
  | .str _, .fn _, _, _, _, h2 => by cases h2
  | .str _, .cls _, _, _, _, h2 => by cases h2
  | .tup _, .rol _, _, _, _, h2 => by cases h2
  | .tup _, .loc _, _, _, _, h2 => by cases h2
  | .tup _, .ty _, _, _, _, h2 => by cases h2
  | .tup _, .fn _, _, _, _, h2 => by cases h2
  | .tup _, .cls _, _, _, _, h2 => by cases h2
theorem keyEqs_ok : ∀ {a b : List D} {k j : List NestedKey}, nkey.nkeys a = some k → nkey.nkeys b = some j → keyEqs a b = NestedKey.beqAll k j
  | [], [], _, _, h1, h2 => by cases h1; cases h2; rfl
  | [], _ :: _, _, _, h1, h2 => by
    cases h1
    obtain ⟨k, ks, _, _, rfl⟩ := nkeys_cons h2
    rfl
  | _ :: _, [], _, _, h1, h2 => by
    cases h2
    obtain ⟨k, ks, _, _, rfl⟩ := nkeys_cons h1
    rfl
  | a :: as, b :: bs, _, _, h1, h2 => by
    obtain ⟨k, ks, e1, e2, rfl⟩ := nkeys_cons h1
    obtain ⟨j, js, e3, e4, rfl⟩ := nkeys_cons h2
    rw [keyEqs, NestedKey.beqAll, keyEq_ok e1 e3, keyEqs_ok e2 e4]
end
theorem keyEq_dec {a b : D} {k j : NestedKey} (h1 : nkey a = some k) (h2 : nkey b = some j) : keyEq a b = decide (k = j) := by
  rw [NestedKey.decide_eq]; exact keyEq_ok h1 h2
def findD : List (D × D) → D → Option D
  | [], _ => none
  | (a, b) :: r, d => bif keyEq a d then some b else findD r d
def putD : List (D × D) → D → D → List (D × D)
  | [], d, e => [(d, e)]
  | (a, b) :: r, d, e => bif keyEq a d then (a, e) :: r else (a, b) :: putD r d e
/-- whether a key is of a dict's sort, and may be one -/
def keyFits (kvs : List (D × D)) (d : D) : Bool := match kvs with
  | [] => isTup d && okKey d || isSc d
  | r :: _ => isTup r.1 && isTup d && okKey d || isSc r.1 && isSc d
where okKey (d : D) : Bool := match nkey d with
  | some k => Nat.ble k.depth 8
  | none => false

/-! ### a dict by its two kinds -/
section
variable {g : GE} {m : M} {L : LH} {H : Hp}
/-- a row and what stands, the key a tuple -/
structure TRow (g : GE) (m : M) (H : Hp) (r : D × D) (x : NestedKey × Addr × Value) : Prop where
  nk : nkey r.1 = some x.1
  tp : isTup r.1 = true
  key : Rep g m H r.1 (.ref x.2.1)
  dp : x.1.depth ≤ 8
  val : ∃ v, L2.RelV v x.2.2 ∧ Rep g m H r.2 v
structure SRow (g : GE) (m : M) (H : Hp) (r : D × D) (x : Leaf × Value) : Prop where
  sc : isSc r.1 = true
  lf : leafOf r.1 = x.1
  val : ∃ v, L2.RelV v x.2 ∧ Rep g m H r.2 v
theorem rep_tup {d : D} {v : V} (h : isTup d = true) (r : Rep g m H d v) : ∃ a, v = .ref a := by
  cases r with
  | tup _ _ => exact ⟨_, rfl⟩
  | _ => cases h
theorem rows_T : ∀ {kvs : List (D × D)} {es : List DictEntry}, Paired (EntryIs g m H) kvs es → (∀ r ∈ kvs, isTup r.1 = true) → ∃ xs, es = xs.map (entryOfKey (nestedKind g.P g.w)) ∧ Paired (TRow g m H) kvs xs
  | _, _, .nil, _ => ⟨[], rfl, .nil⟩
  | r :: _, e :: _, .cons h t, a => by
    obtain ⟨xs, e1, e2⟩ := rows_T t fun r hr => a r (List.mem_cons_of_mem _ hr)
    obtain ⟨⟨kv, k, h1, h2, h3, h4, h5⟩, v, h6, h7⟩ := h
    have tp := a r List.mem_cons_self
    obtain ⟨b, rfl⟩ := rep_tup tp h2
    have hkey : e.key = .ref b := h1
    refine ⟨(k, b, e.val) :: xs, ?_, .cons ⟨h3, tp, h2, h4, v, h6, h7⟩ e2⟩
    rw [List.map_cons, ← e1]
    congr 1
    obtain ⟨eh, ek, ev⟩ := e
    cases hkey
    cases h5
    rfl
theorem rows_S : ∀ {kvs : List (D × D)} {es : List DictEntry}, Paired (EntryIs g m H) kvs es → (∀ r ∈ kvs, isSc r.1 = true) → ∃ ys, Pairs (scKind g.P g.w) es ys ∧ Paired (SRow g m H) kvs ys ∧ ∀ e ∈ es, ∃ k, (scKind g.P g.w).is k e.key = true ∧ e.hash = (scKind g.P g.w).hash k
  | _, _, .nil, _ => ⟨[], .nil, .nil, fun e h => by cases h⟩
  | r :: _, e :: _, .cons h t, a => by
    obtain ⟨ys, e1, e2, e3⟩ := rows_S t fun r hr => a r (List.mem_cons_of_mem _ hr)
    obtain ⟨⟨kv, k, h1, h2, h3, h4, h5⟩, v, h6, h7⟩ := h
    have sc := a r List.mem_cons_self
    have is := scKind_is sc h2 h1
    refine ⟨(leafOf r.1, e.val) :: ys, .cons is rfl e1, .cons ⟨sc, rfl, v, h6, h7⟩ e2, fun e' he => ?_⟩
    rcases List.mem_cons.mp he with rfl | he
    · refine ⟨_, is, ?_⟩
      rw [nkey_leaf sc] at h3
      cases h3
      exact h5
    · exact e3 e' he
theorem entries_T : ∀ {kvs : List (D × D)} {xs : List (NestedKey × Addr × Value)}, Paired (TRow g m H) kvs xs → Paired (EntryIs g m H) kvs (xs.map (entryOfKey (nestedKind g.P g.w)))
  | _, _, .nil => .nil
  | _, _, .cons h t => .cons ⟨⟨.ref _, _, rfl, h.key, h.nk, h.dp, rfl⟩, h.val⟩ (entries_T t)
theorem entries_S : ∀ {kvs : List (D × D)} {es : List DictEntry} {ys : List (Leaf × Value)}, Paired (SRow g m H) kvs ys → Pairs (scKind g.P g.w) es ys → (∀ e ∈ es, ∃ k, (scKind g.P g.w).is k e.key = true ∧ e.hash = (scKind g.P g.w).hash k) → Paired (EntryIs g m H) kvs es
  | _, _, _, .nil, .nil, _ => .nil
  | r :: _, e :: _, y :: _, .cons h t, .cons p1 p2 p3, k => by
    refine .cons ?_ (entries_S t p3 fun e he => k e (List.mem_cons_of_mem _ he))
    obtain ⟨j, j1, j2⟩ := k e List.mem_cons_self
    have e0 := (scKind g.P g.w).inj _ _ _ p1 j1
    rw [← h.lf] at p1 e0
    obtain ⟨v, q1, q2⟩ := scKind_rel (m := m) (H := H) h.sc p1
    refine ⟨⟨v, _, q1, q2, nkey_leaf h.sc, ?_, by rw [j2, ← e0]; rfl⟩, ?_⟩
    · cases leafOf r.1 <;> exact Nat.zero_le _
    · rw [p2]; exact h.val

theorem find_T {d : D} {k : NestedKey} (hd : nkey d = some k) : ∀ {kvs : List (D × D)} {xs : List (NestedKey × Addr × Value)}, Paired (TRow g m H) kvs xs →
    (findD kvs d = none → atKey xs k = none) ∧ ∀ e, findD kvs d = some e → ∃ p v, atKey xs k = some p ∧ L2.RelV v p.2 ∧ Rep g m H e v
  | _, _, .nil => ⟨fun _ => rfl, fun e h => by cases h⟩
  | (a, b) :: r, x :: xs, .cons h t => by
    obtain ⟨i1, i2⟩ := find_T hd t
    have ke := keyEq_dec h.nk hd
    have e1 : atKey (x :: xs) k = if x.1 = k then some x.2 else atKey xs k := by
      unfold atKey
      rw [List.find?_cons]
      by_cases q : x.1 = k
      · rw [if_pos q, decide_eq_true q]; rfl
      · rw [if_neg q, decide_eq_false q]
    rw [e1]
    unfold findD
    by_cases q : x.1 = k
    · rw [if_pos q]
      rw [show keyEq a d = true from ke.trans (decide_eq_true q)]
      obtain ⟨v, v1, v2⟩ := h.val
      exact ⟨(fun z => by cases z), fun e z => by cases z; exact ⟨_, v, rfl, v1, v2⟩⟩
    · rw [if_neg q]
      rw [show keyEq a d = false from ke.trans (decide_eq_false q)]
      exact ⟨i1, i2⟩
theorem find_S {d : D} (hd : isSc d = true) : ∀ {kvs : List (D × D)} {xs : List (Leaf × Value)}, Paired (SRow g m H) kvs xs →
    (findD kvs d = none → valueAt xs (leafOf d) = none) ∧ ∀ e, findD kvs d = some e → ∃ p v, valueAt xs (leafOf d) = some p ∧ L2.RelV v p ∧ Rep g m H e v
  | _, _, .nil => ⟨fun _ => rfl, fun e h => by cases h⟩
  | (a, b) :: r, x :: xs, .cons h t => by
    obtain ⟨i1, i2⟩ := find_S hd t
    have ke := keyEq_dec (nkey_leaf h.sc) (nkey_leaf hd)
    have lf : leafOf a = x.1 := h.lf
    have ke' : keyEq a d = decide (x.1 = leafOf d) := by
      rw [show keyEq a d = _ from ke, ← lf, Bool.eq_iff_iff, decide_eq_true_iff, decide_eq_true_iff]
      exact ⟨Leaf.key_inj, congrArg Leaf.key⟩
    have e1 : valueAt (x :: xs) (leafOf d) = if x.1 = leafOf d then some x.2 else valueAt xs (leafOf d) := by
      unfold valueAt
      rw [List.find?_cons]
      by_cases q : x.1 = leafOf d
      · rw [if_pos q, decide_eq_true q]; rfl
      · rw [if_neg q, decide_eq_false q]
    rw [e1]
    unfold findD
    by_cases q : x.1 = leafOf d
    · rw [if_pos q, ke'.trans (decide_eq_true q)]
      obtain ⟨v, v1, v2⟩ := h.val
      exact ⟨(fun z => by cases z), fun e z => by cases z; exact ⟨_, v, rfl, v1, v2⟩⟩
    · rw [if_neg q, ke'.trans (decide_eq_false q)]
      exact ⟨i1, i2⟩
/-- a row as stored by its key -/
theorem put_rows {ρ : Type} {F : D × D → ρ → Prop} (dec : ρ → Bool) (new : ρ) (upd : ρ → ρ) {d e : D} (hk : ∀ r x, F r x → keyEq r.1 d = dec x) (hu : ∀ r x, F r x → dec x = true → F (r.1, e) (upd x)) (hn : F (d, e) new) :
    ∀ {kvs : List (D × D)} {xs : List ρ}, Paired F kvs xs → (xs.filter dec).length ≤ 1 → Paired F (putD kvs d e) (if xs.any dec then xs.map (fun x => if dec x then upd x else x) else xs ++ [new])
  | _, _, .nil, _ => .cons hn .nil
  | (a, b) :: r, x :: xs, .cons h t, hl => by
    unfold putD
    have ke := hk _ _ h
    cases q : dec x with
    | true =>
      rw [show keyEq a d = true from ke.trans q]
      rw [List.any_cons, q, Bool.true_or, if_pos rfl, List.map_cons, if_pos q]
      rw [List.filter_cons, if_pos q, List.length_cons] at hl
      have hz : xs.filter dec = [] := List.eq_nil_of_length_eq_zero (by omega)
      have em : xs.map (fun x => if dec x then upd x else x) = xs := by
        rw [List.filter_eq_nil_iff] at hz
        rw [List.map_congr_left (g := id) fun y hy => by rw [if_neg (hz y hy)]; rfl, List.map_id]
      rw [em]
      exact .cons (hu _ _ h q) t
    | false =>
      rw [show keyEq a d = false from ke.trans q]
      rw [List.filter_cons, if_neg (by rw [q]; exact Bool.false_ne_true)] at hl
      have ih := put_rows dec new upd hk hu hn t hl
      rw [List.any_cons, q, Bool.false_or]
      by_cases z : xs.any dec = true
      · rw [if_pos z] at ih ⊢
        rw [List.map_cons, if_neg (by rw [q]; exact Bool.false_ne_true)]
        exact .cons h ih
      · rw [if_neg z] at ih ⊢
        rw [List.cons_append]
        exact .cons h ih
theorem filter_le {κ α : Type} [DecidableEq κ] {f : α → κ} {k : κ} : ∀ {l : List α}, (l.map f).Nodup → (l.filter fun x => decide (f x = k)).length ≤ 1
  | [], _ => Nat.zero_le _
  | x :: l, h => by
    rw [List.map_cons, List.nodup_cons] at h
    rw [List.filter_cons]
    by_cases q : f x = k
    · rw [if_pos (decide_eq_true q), List.length_cons]
      have : l.filter (fun x => decide (f x = k)) = [] := List.filter_eq_nil_iff.mpr fun y hy z => h.1 (by
        rw [q, ← of_decide_eq_true z]
        exact List.mem_map_of_mem hy)
      rw [this]
      exact Nat.le_refl _
    · rw [if_neg (by rw [decide_eq_false q]; exact Bool.false_ne_true)]
      exact filter_le h.2
theorem put_T {d e : D} {k : NestedKey} {b : Addr} {u : Value} {v : V} (hd : nkey d = some k) (tp : isTup d = true) (rk : Rep g m H d (.ref b)) (dp : k.depth ≤ 8) (rv : L2.RelV v u) (re : Rep g m H e v)
    {kvs : List (D × D)} {xs : List (NestedKey × Addr × Value)} (h : Paired (TRow g m H) kvs xs) (nd : (xs.map (·.1)).Nodup) : Paired (TRow g m H) (putD kvs d e) (storedH xs k b u) := by
  have q := put_rows (F := TRow g m H) (fun x => decide (x.1 = k)) (k, b, u) (fun x => (x.1, x.2.1, u)) (d := d) (e := e) (fun r x hx => keyEq_dec hx.nk hd)
    (fun r x hx _ => ⟨hx.nk, hx.tp, hx.key, hx.dp, v, rv, re⟩) ⟨hd, tp, rk, dp, v, rv, re⟩ h (filter_le nd)
  have e1 : storedH xs k b u = if xs.any (fun x => decide (x.1 = k)) then xs.map (fun x => if decide (x.1 = k) = true then (x.1, x.2.1, u) else x) else xs ++ [(k, b, u)] := by
    unfold storedH
    have z : (atKey xs k).isSome = xs.any fun x => decide (x.1 = k) := by
      unfold atKey
      rw [Option.isSome_map, Bool.eq_iff_iff, List.find?_isSome, List.any_eq_true]
    rw [z]
    congr 1
    refine List.map_congr_left fun x _ => ?_
    unfold putAt
    by_cases q : x.1 = k
    · rw [if_pos q, if_pos (decide_eq_true q)]
    · rw [if_neg q, if_neg (by rw [decide_eq_false q]; exact Bool.false_ne_true)]
  rw [e1]
  exact q
theorem put_S {d e : D} {u : Value} {v : V} (sc : isSc d = true) (rv : L2.RelV v u) (re : Rep g m H e v)
    {kvs : List (D × D)} {xs : List (Leaf × Value)} (h : Paired (SRow g m H) kvs xs) (nd : (xs.map (·.1)).Nodup) : Paired (SRow g m H) (putD kvs d e) (stored xs (leafOf d) u) := by
  have q := put_rows (F := SRow g m H) (fun x => decide (x.1 = leafOf d)) (leafOf d, u) (fun x => (x.1, u)) (d := d) (e := e) (fun r x hx => by
      rw [keyEq_dec (nkey_leaf hx.sc) (nkey_leaf sc), ← hx.lf, Bool.eq_iff_iff, decide_eq_true_iff, decide_eq_true_iff]
      exact ⟨Leaf.key_inj, congrArg Leaf.key⟩)
    (fun r x hx _ => ⟨hx.sc, hx.lf, v, rv, re⟩) ⟨sc, rfl, v, rv, re⟩ h (filter_le nd)
  have e1 : stored xs (leafOf d) u = if xs.any (fun x => decide (x.1 = leafOf d)) then xs.map (fun x => if decide (x.1 = leafOf d) = true then (x.1, u) else x) else xs ++ [(leafOf d, u)] := by
    unfold stored
    congr 1
    refine List.map_congr_left fun x _ => ?_
    by_cases q : x.1 = leafOf d
    · rw [if_pos q, if_pos (decide_eq_true q)]
    · rw [if_neg q, if_neg (by rw [decide_eq_false q]; exact Bool.false_ne_true)]
  rw [e1]
  exact q
theorem keys_T : ∀ {kvs : List (D × D)} {xs : List (NestedKey × Addr × Value)}, Paired (TRow g m H) kvs xs → kvs.map (fun r => nkey r.1) = (xs.map (·.1)).map some
  | _, _, .nil => rfl
  | _, _, .cons h t => by rw [List.map_cons, List.map_cons, List.map_cons, keys_T t, h.nk]
theorem keys_S : ∀ {kvs : List (D × D)} {xs : List (Leaf × Value)}, Paired (SRow g m H) kvs xs → kvs.map (fun r => nkey r.1) = (xs.map (·.1)).map fun l => some l.key
  | _, _, .nil => rfl
  | _, _, .cons h t => by rw [List.map_cons, List.map_cons, List.map_cons, keys_S t, nkey_leaf h.sc, h.lf]
theorem nodup_some {α : Type} {l : List α} : (l.map some).Nodup ↔ l.Nodup := by
  constructor
  · intro h; exact List.Pairwise.of_map some (fun a b hab e => hab (congrArg some e)) h
  · intro h; exact List.Pairwise.map some (fun a b hab e => hab (Option.some.inj e)) h
theorem nodup_leaf {l : List Leaf} : (l.map fun l => some l.key).Nodup ↔ l.Nodup := by
  constructor
  · intro h; exact List.Pairwise.of_map (fun l : Leaf => some l.key) (fun a b hab e => hab (by rw [e])) h
  · intro h; exact List.Pairwise.map (fun l : Leaf => some l.key) (fun a b hab e => hab (Leaf.key_inj (Option.some.inj e))) h
theorem pairedL {α β : Type} {F : α → β → Prop} : ∀ {xs : List α} {ys : List β}, Paired F xs ys → xs.length = ys.length
  | _, _, .nil => rfl
  | _, _, .cons _ t => by rw [List.length_cons, List.length_cons, pairedL t]
end

/-! ### a dict in the heap -/
/-- the dict at a stands, by tuples or by values -/
inductive DStand (g : GE) (m : M) (H : Hp) (h : Heap) (a : Addr) (kvs : List (D × D)) : Prop
  | T (xs : List (NestedKey × Addr × Value)) : h.DictOfH (nestedKind g.P g.w) a xs → Paired (TRow g m H) kvs xs → DStand g m H h a kvs
  | S (xs : List (Leaf × Value)) : h.DictOf (scKind g.P g.w) a xs → Paired (SRow g m H) kvs xs → DStand g m H h a kvs
section
variable {g : GE} {X : Cx} {pins : List (Addr × Obj)} {σ : L2.St} {H : Hp} {s : Shared} {m : M} {a : Addr} {kvs : List (D × D)}
theorem stand_T (hK : X.K = g.K) (I : L2.Inv X pins σ H s) (h : ORep g m H a (.dic kvs)) (sort : ∀ r ∈ kvs, isTup r.1 = true) : ∃ xs, s.heap.DictOfH (nestedKind g.P g.w) a xs ∧ Paired (TRow g m H) kvs xs := by
  obtain ⟨hd, sh, es, hH, rows⟩ := h
  obtain ⟨⟨ep, o, ho, hx, hdt⟩, _⟩ := I.hok a _ hH
  obtain ⟨xs, e1, e2⟩ := rows_T rows sort
  refine ⟨xs, ⟨o, es, ep, ho, hx, hdt, e1, fun x hx => ?_, ?_⟩, e2⟩
  · have : ∀ {kvs : List (D × D)} {xs : List (NestedKey × Addr × Value)}, Paired (TRow g m H) kvs xs → ∀ x ∈ xs, (nestedKind g.P g.w).is s.heap x.1 x.2.1 := by
      intro kvs xs p
      induction p with
      | nil => intro x hx; cases hx
      | cons h t ih =>
        intro x hx
        rcases List.mem_cons.mp hx with rfl | hx
        · exact ⟨nested_of hK I h.key rfl h.nk, h.dp⟩
        · exact ih x hx
    exact this e2 x hx
  · have := sh.once
    rw [keys_T e2] at this
    exact nodup_some.mp this
theorem stand_S (I : L2.Inv X pins σ H s) (h : ORep g m H a (.dic kvs)) (sort : ∀ r ∈ kvs, isSc r.1 = true) : ∃ xs, s.heap.DictOf (scKind g.P g.w) a xs ∧ Paired (SRow g m H) kvs xs := by
  obtain ⟨hd, sh, es, hH, rows⟩ := h
  obtain ⟨⟨ep, o, ho, hx, hdt⟩, _⟩ := I.hok a _ hH
  obtain ⟨xs, e1, e2, e3⟩ := rows_S rows sort
  refine ⟨xs, ⟨o, es, ep, ho, hx, hdt, fun e he => e3 e (by simpa using he), e1, ?_⟩, e2⟩
  have := sh.once
  rw [keys_S e2] at this
  exact nodup_leaf.mp this
/-- what a key that fits tells -/
theorem fits_cases (sh : DShape kvs) {d : D} (h : keyFits kvs d = true) : (isTup d = true ∧ (∃ k, nkey d = some k ∧ k.depth ≤ 8) ∧ ∀ r ∈ kvs, isTup r.1 = true) ∨ (isSc d = true ∧ ∀ r ∈ kvs, isSc r.1 = true) := by
  have ok : keyFits.okKey d = true → ∃ k, nkey d = some k ∧ k.depth ≤ 8 := fun q => by
    unfold keyFits.okKey at q
    cases e : nkey d with
    | none => rw [e] at q; cases q
    | some k => rw [e] at q; exact ⟨k, rfl, Nat.le_of_ble_eq_true q⟩
  cases kvs with
  | nil =>
    have h' : (isTup d && keyFits.okKey d || isSc d) = true := h
    rw [Bool.or_eq_true, Bool.and_eq_true] at h'
    rcases h' with ⟨h1, h2⟩ | h1
    · exact .inl ⟨h1, ok h2, fun r hr => by cases hr⟩
    · exact .inr ⟨h1, fun r hr => by cases hr⟩
  | cons r rs =>
    have h' : (isTup r.1 && isTup d && keyFits.okKey d || isSc r.1 && isSc d) = true := h
    rw [Bool.or_eq_true, Bool.and_eq_true, Bool.and_eq_true, Bool.and_eq_true] at h'
    have no : isTup r.1 = true → isSc r.1 = true → False := fun a b => by
      cases e : r.1 <;> rw [e] at a b <;> simp [isTup, isSc] at a b
    rcases h' with ⟨⟨h0, h1⟩, h2⟩ | ⟨h0, h1⟩
    · refine .inl ⟨h1, ok h2, ?_⟩
      rcases sh.sort with q | q
      · exact q
      · exact (no h0 (q r List.mem_cons_self)).elim
    · refine .inr ⟨h1, ?_⟩
      rcases sh.sort with q | q
      · exact (no (q r List.mem_cons_self) h0).elim
      · exact q
theorem putD_keys : ∀ {kvs : List (D × D)} {d e : D}, ∀ r ∈ putD kvs d e, r.1 = d ∨ ∃ r' ∈ kvs, r.1 = r'.1
  | [], d, e, r, h => by
    rw [putD, List.mem_singleton] at h
    exact .inl (by rw [h])
  | (a, b) :: kvs, d, e, r, h => by
    rw [putD] at h
    cases q : keyEq a d with
    | true =>
      rw [q] at h
      rcases List.mem_cons.mp h with z | z
      · exact .inr ⟨(a, b), List.mem_cons_self, by rw [z]⟩
      · exact .inr ⟨r, List.mem_cons_of_mem _ z, rfl⟩
    | false =>
      rw [q] at h
      rcases List.mem_cons.mp h with z | z
      · exact .inr ⟨(a, b), List.mem_cons_self, by rw [z]⟩
      · rcases putD_keys r z with w | ⟨r', w1, w2⟩
        · exact .inl w
        · exact .inr ⟨r', List.mem_cons_of_mem _ w1, w2⟩
theorem putD_len : ∀ {kvs : List (D × D)} {d e : D}, (putD kvs d e).length ≤ kvs.length + 1
  | [], d, e => Nat.le_refl _
  | (a, b) :: kvs, d, e => by
    rw [putD]
    cases keyEq a d with
    | true => exact Nat.le_succ _
    | false =>
      have := putD_len (kvs := kvs) (d := d) (e := e)
      show (putD kvs d e).length + 1 ≤ kvs.length + 1 + 1
      omega
end
end FC
end

section
namespace FC
open PySem PySem.Spec PyProof.Rows L2

section
variable {g : GE} {X : Cx} {pins : List (Addr × Obj)} {σ : L2.St} {H : Hp} {s : Shared} {m : M} {L : LH} {kvs kvs' : List (D × D)} {l : Nat}
theorem dictHO_ok {P : Program} {w : World} {H : Hp} {h : Heap} {a : Addr} {es : Array DictEntry} {ep : Nat} (h0 : h.DictRaw a es ep) : ObjOk P w H h a (dictHO a es) :=
  ⟨⟨ep, h0⟩, (let ⟨o, ho, _⟩ := h0; ⟨o, ho⟩), fun _ _ ⟨ep, q⟩ k => ⟨ep, q.at k⟩⟩
/-- a dict written anew -/
theorem dic_put {A : Around} (I : L2.Inv X pins σ H s) (R : HRel g m L H) (hl : l < m.n) (hw : L.dicW l = some kvs) {h' : Heap} {es : Array DictEntry} {ep t : Nat} (hr : h'.DictRaw (m.μ l) es ep) (sb : Heap.SameBut (m.μ l) s.heap h')
    (sh : DShape kvs') (rows : Paired (EntryIs g m H) kvs' es.toList) :
    L2.Inv X pins σ (upd H (m.μ l) (dictHO (m.μ l) es)) { s with heap := h', toks := t } ∧ Ext m L H m (L.put l (.dic kvs')) (upd H (m.μ l) (dictHO (m.μ l) es)) ∧ HRel g m (L.put l (.dic kvs')) (upd H (m.μ l) (dictHO (m.μ l) es)) := by
  obtain ⟨o0, ho0, hx0⟩ := R.obj l hl
  have eo := LH.dicW_get hw
  rw [eo] at ho0
  cases ho0
  obtain ⟨hd, _, es0, hH, _⟩ := hx0
  have E := Ext.chg (o := .dic kvs') (u := dictHO (m.μ l) es) R hl (LH.dicW_nl hw)
  refine ⟨I.write (x := m.μ l) (e := m.μ l) (by rw [hH]; exact True.intro) (.inl rfl) (fun b q hb z => (sb.2 b hb).trans z) (let ⟨o, ho, _⟩ := hr; ⟨o, ho⟩) (dictHO_ok hr), E, R.chg hl (LH.dicW_nl hw) ?_⟩
  exact ⟨hd, sh, es, upd_same, FC.Paired.imp2 (fun _ _ z => z.ext E R) rows⟩
def dshape (kvs : List (D × D)) (d e : D) : Bool := keyFits kvs d && Nat.ble kvs.length 999999
theorem nodup_putD_T {d e : D} {k : NestedKey} (hd : nkey d = some k) {xs : List (NestedKey × Addr × Value)} {b : Addr} {u : Value} (h : Paired (TRow g m H) (putD kvs d e) (storedH xs k b u)) (nd : ((storedH xs k b u).map (·.1)).Nodup) : ((putD kvs d e).map fun r => nkey r.1).Nodup := by
  rw [keys_T h]; exact nodup_some.mpr nd
theorem raw_T {h : Heap} {a : Addr} {xs : List (NestedKey × Addr × Value)} (x : h.DictOfH (nestedKind g.P g.w) a xs) : ∃ (es : Array DictEntry) (ep : Nat), h.DictRaw a es ep ∧ es.toList = xs.map (entryOfKey (nestedKind g.P g.w)) ∧ (xs.map (·.1)).Nodup := by
  obtain ⟨o, es, ep, ho, hc, hd, he, _, hn⟩ := x
  exact ⟨es, ep, ⟨o, ho, hc, hd⟩, he, hn⟩
theorem raw_S {h : Heap} {a : Addr} {xs : List (Leaf × Value)} (x : h.DictOf (scKind g.P g.w) a xs) : ∃ (es : Array DictEntry) (ep : Nat), h.DictRaw a es ep ∧ Pairs (scKind g.P g.w) es.toList xs ∧ (∀ e ∈ es.toList, ∃ k, (scKind g.P g.w).is k e.key = true ∧ e.hash = (scKind g.P g.w).hash k) ∧ (xs.map (·.1)).Nodup := by
  obtain ⟨o, es, ep, ho, hc, hd, hk, hp, hn⟩ := x
  exact ⟨es, ep, ⟨o, ho, hc, hd⟩, hp, fun e he => hk e (by simpa using he), hn⟩
/-- a key stored: the two kinds at once -/
theorem dic_store (hP : X.prog = g.P) (hw0 : X.w = g.w) (hK : X.K = g.K) {A : Around} (hu : A.units + 10 < cLine) (I : L2.Inv X pins σ H s) (R : HRel g m L H) (hl : l < m.n) (hw : L.dicW l = some kvs) {d e : D} {y v : V} {u r : Value} (hf : dshape kvs d e = true)
    (hd : Rep g m H d y) (ry : L2.RelV y u) (he : Rep g m H e v) (rv : L2.RelV v r) {E : Value → Shared → Prop} {Q : Unit → Shared → Prop}
    (h : ∀ s' H', L2.Inv X pins σ H' s' → Ext m L H m (L.put l (.dic (putD kvs d e))) H' → HRel g m (L.put l (.dic (putD kvs d e))) H' → Q () s') : wpAny (model X.prog X.w) A (setItem (.ref (m.μ l)) u r) Q E s := by
  unfold dshape at hf
  rw [Bool.and_eq_true] at hf
  have few := Nat.le_of_ble_eq_true hf.2
  obtain ⟨o0, ho0, hx0⟩ := R.obj l hl
  rw [LH.dicW_get hw] at ho0
  cases ho0
  have sh := hx0.2.1
  have len2 : (putD kvs d e).length ≤ 1000000 := by have := putD_len (kvs := kvs) (d := d) (e := e); omega
  have sl : sizeLine = 16777216 := sizeLine_eq
  rw [hP, hw0]
  rcases fits_cases sh hf.1 with ⟨tp, ⟨k, nk, dp⟩, al⟩ | ⟨sc, al⟩
  · obtain ⟨xs, hm, rows⟩ := stand_T hK I hx0 al
    obtain ⟨b, rfl⟩ := rep_tup tp hd
    cases ry
    have hlen := pairedL rows
    refine wpAny_setItem_heap (knd := nestedKind g.P g.w) (k := k) (show A.in1.units + 8 < cLine by show A.units + 1 + 8 < cLine; omega) ⟨nested_of hK I hd rfl nk, dp⟩ hm (fun h' hm' sb => ?_) (by omega)
    have nd := (raw_T hm).choose_spec.choose_spec.2.2
    have rows' := put_T nk tp hd dp rv he rows nd
    obtain ⟨es, ep, hr, he', nd'⟩ := raw_T hm'
    obtain ⟨I', E', R'⟩ := dic_put (A := A) (t := s.toks + (nestedKind g.P g.w).draws k) I R hl hw hr sb ⟨len2, .inl fun r hr => (by
      rcases putD_keys r hr with z | ⟨r', z1, z2⟩
      · rw [z]; exact tp
      · rw [z2]; exact al r' z1), nodup_putD_T nk rows' nd'⟩ (he' ▸ entries_T rows')
    exact h _ _ I' E' R'
  · obtain ⟨xs, hm, rows⟩ := stand_S I hx0 al
    have hlen := pairedL rows
    refine wpAny_setItem_pairs (k := leafOf d) (scKind_is sc hd ry) hm (fun h' hm' sb => ?_) (by omega)
    obtain ⟨_, _, _, _, _, nd⟩ := raw_S hm
    have rows' := put_S sc rv he rows nd
    obtain ⟨es, ep, hr, hp', hk', nd'⟩ := raw_S hm'
    obtain ⟨I', E', R'⟩ := dic_put (A := A) (t := s.toks + 1) I R hl hw hr sb ⟨len2, .inr fun r hr => (by
      rcases putD_keys r hr with z | ⟨r', z1, z2⟩
      · rw [z]; exact sc
      · rw [z2]; exact al r' z1), by rw [keys_S rows']; exact nodup_leaf.mpr nd'⟩ (entries_S rows' hp' hk')
    exact h _ _ I' E' R'
/-- a key looked for -/
theorem dic_in (hP : X.prog = g.P) (hw0 : X.w = g.w) (hK : X.K = g.K) {A : Around} (hu : A.units + 10 < cLine) (I : L2.Inv X pins σ H s) {a : Addr} (hx : ORep g m H a (.dic kvs)) {d : D} {y : V} {u : Value} (hf : keyFits kvs d = true)
    (hd : Rep g m H d y) (ry : L2.RelV y u) {E : Value → Shared → Prop} {Q : Value → Shared → Prop} (h : ∀ s', L2.Inv X pins σ H s' → Q (.bool (findD kvs d).isSome) s') : wpAny (model X.prog X.w) A (compareOp .In u (.ref a)) Q E s := by
  rw [hP, hw0]
  rcases fits_cases hx.2.1 hf with ⟨tp, ⟨k, nk, dp⟩, al⟩ | ⟨sc, al⟩
  · obtain ⟨xs, hm, rows⟩ := stand_T hK I hx al
    obtain ⟨b, rfl⟩ := rep_tup tp hd
    cases ry
    refine wpAny_in_heap (knd := nestedKind g.P g.w) (k := k) (show A.in1.units + 8 < cLine by show A.units + 1 + 8 < cLine; omega) ⟨nested_of hK I hd rfl nk, dp⟩ hx.1 hm ?_
    have e : (atKey xs k).isSome = (findD kvs d).isSome := by
      cases q : findD kvs d with
      | none => rw [(find_T nk rows).1 q]; rfl
      | some e => obtain ⟨p, v, z, _⟩ := (find_T nk rows).2 e q; rw [z]; rfl
    rw [e]
    exact h _ (I.tok _)
  · obtain ⟨xs, hm, rows⟩ := stand_S I hx al
    refine wpAny_in_of (k := leafOf d) (scKind_is sc hd ry) hx.1 hm.mapOf ?_
    have e : (valueAt xs (leafOf d)).isSome = (findD kvs d).isSome := by
      cases q : findD kvs d with
      | none => rw [(find_S sc rows).1 q]; rfl
      | some e => obtain ⟨p, v, z, _⟩ := (find_S sc rows).2 e q; rw [z]; rfl
    rw [e]
    exact h _ (I.tok _)
theorem dic_notIn (hP : X.prog = g.P) (hw0 : X.w = g.w) (hK : X.K = g.K) {A : Around} (hu : A.units + 10 < cLine) (I : L2.Inv X pins σ H s) {a : Addr} (hx : ORep g m H a (.dic kvs)) {d : D} {y : V} {u : Value} (hf : keyFits kvs d = true)
    (hd : Rep g m H d y) (ry : L2.RelV y u) {E : Value → Shared → Prop} {Q : Value → Shared → Prop} (h : ∀ s', L2.Inv X pins σ H s' → Q (Value.bool (!(findD kvs d).isSome)) s') : wpAny (model X.prog X.w) A (compareOp .NotIn u (.ref a)) Q E s := by
  rw [hP, hw0]
  rcases fits_cases hx.2.1 hf with ⟨tp, ⟨k, nk, dp⟩, al⟩ | ⟨sc, al⟩
  · obtain ⟨xs, hm, rows⟩ := stand_T hK I hx al
    obtain ⟨b, rfl⟩ := rep_tup tp hd
    cases ry
    show wpAny _ _ (do return Value.bool (!(← contains (.ref a) (.ref b)))) Q E s
    refine wpAny_bind (wpAny_contains_heap (knd := nestedKind g.P g.w) (k := k) (show A.in1.units + 8 < cLine by show A.units + 1 + 8 < cLine; omega) ⟨nested_of hK I hd rfl nk, dp⟩ hx.1 hm (wpAny_pure ?_))
    have e : (atKey xs k).isSome = (findD kvs d).isSome := by
      cases q : findD kvs d with
      | none => rw [(find_T nk rows).1 q]; rfl
      | some e => obtain ⟨p, v, z, _⟩ := (find_T nk rows).2 e q; rw [z]; rfl
    rw [e]
    exact h _ (I.tok _)
  · obtain ⟨xs, hm, rows⟩ := stand_S I hx al
    refine wpAny_notIn_of (k := leafOf d) (scKind_is sc hd ry) hx.1 hm.mapOf ?_
    have e : (valueAt xs (leafOf d)).isSome = (findD kvs d).isSome := by
      cases q : findD kvs d with
      | none => rw [(find_S sc rows).1 q]; rfl
      | some e => obtain ⟨p, v, z, _⟩ := (find_S sc rows).2 e q; rw [z]; rfl
    rw [e]
    exact h _ (I.tok _)
end
end FC
end

section
namespace FC
open PySem PySem.Spec PyProof.Rows L2

theorem vals_at : ∀ {xs : List V} {us : List Value} {i : Nat} {u : Value}, L2.Vals xs us → us[i]? = some u → ∃ x, xs[i]? = some x ∧ L2.RelV x u
  | _, _, _, _, .nil, e => by simp at e
  | _, _, 0, _, .cons r _, e => by simp at e; subst e; exact ⟨_, rfl, r⟩
  | _, _, i + 1, u, .cons _ t, e => by
    obtain ⟨x, h1, h2⟩ := vals_at (i := i) (u := u) t (by simpa using e)
    exact ⟨x, by simpa using h1, h2⟩
/-! ### what may be walked: a list, a tuple, a text -/
inductive Sk where
  | lst (a : Addr) (vs : List V)
  | tup (a : Addr) (vs : List V)
  | str (x : Str) (t : Tok)
def Sk.vs : Sk → List V
  | .lst _ vs => vs
  | .tup _ vs => vs
  | .str x _ => x.cps.toList.map fun c => V.str ⟨#[c]⟩
def Sk.G (K : PySem.W.Frag) : Sk → Hp → Prop
  | .lst a vs, H => SqL K H a vs
  | .tup a vs, H => SqT K H a vs
  | .str _ _, _ => True
def Sk.val : Sk → Value
  | .lst a _ => .ref a
  | .tup a _ => .ref a
  | .str x t => .str x t
def Sk.own (it : Addr) (i : Nat) (h : Heap) : Sk → Prop
  | .lst a _ => h.IsListIter it a i
  | .tup a _ => h.IsTupleIter it a i
  | .str x t => h.IsStrIter it (strIterType x) x t i
def Sk.obj : Sk → Obj
  | .lst a _ => { cls := .type "list_iterator", data := .fields #[.ref a, .int 0 0] }
  | .tup a _ => { cls := .type "tuple_iterator", data := .fields #[.ref a, .int 0 0] }
  | .str x t => { cls := .type (strIterType x), data := .fields #[.str x t, .int 0 0] }
section
variable {X : Cx} {pins : List (Addr × Obj)} {σ : L2.St} {H : Hp} {s : Shared} {k k1 k2 k3 : Sk} {it : Addr} {i : Nat} {h h' : Heap}
theorem Sk.own_obj (st : k.own it i h) : ∃ o, h.get? it = some o ∧ (∀ v, o.data ≠ .cell v) ∧ o.cls ≠ .type "list" ∧ o.cls ≠ .type "tuple" := by
  have ty : strIterType = fun (x : Str) => if x.cps.all (· < 128) then "str_ascii_iterator" else "str_iterator" := rfl
  cases k with
  | lst a vs => obtain ⟨o, e, c, d⟩ := st; exact ⟨o, e, (fun v z => by rw [d] at z; cases z), by rw [c]; decide +kernel, by rw [c]; decide +kernel⟩
  | tup a vs => obtain ⟨o, e, c, d⟩ := st; exact ⟨o, e, (fun v z => by rw [d] at z; cases z), by rw [c]; decide +kernel, by rw [c]; decide +kernel⟩
  | str x t =>
    obtain ⟨o, e, c, d⟩ := st
    refine ⟨o, e, (fun v z => by rw [d] at z; cases z), ?_, ?_⟩ <;> (rw [c, ty]; dsimp only; split <;> decide +kernel)
theorem Sk.own_keep (st : k.own it i h) (q : ∀ o, h.get? it = some o → h'.get? it = some o) : k.own it i h' := by
  cases k with
  | lst a vs => obtain ⟨o, e, r⟩ := st; exact ⟨o, q o e, r⟩
  | tup a vs => obtain ⟨o, e, r⟩ := st; exact ⟨o, q o e, r⟩
  | str x t => obtain ⟨o, e, r⟩ := st; exact ⟨o, q o e, r⟩
theorem Sk.own_new (e : h.get? it = some k.obj) : k.own it 0 h := by
  cases k with
  | lst a vs => exact ⟨_, e, rfl, rfl⟩
  | tup a vs => exact ⟨_, e, rfl, rfl⟩
  | str x t => exact ⟨_, e, rfl, rfl⟩
/-- the walked object is none of the iterator's own -/
theorem Sk.apart (I : L2.Inv X pins σ H s) {a c : Addr} {vs : List V} (g : SqL X.K H a vs ∨ SqT X.K H a vs) (f : FpOk X pins H c) : a ≠ c := by
  intro e
  subst e
  have base : ∀ o, X.K.lookup a = some o → False := fun o q => by
    have hb := I.ok.mod.kin a o q
    rcases f.2.2.2.1 with z | z
    · exact I.ok.noex a o hb z
    · exact absurd (Nat.lt_of_lt_of_le (Heap.lt_size hb) (Nat.le_trans I.ok.bsz z)) (Nat.lt_irrefl _)
  rcases g with (( q | ⟨o, q⟩) | ⟨o, _, _, q, _⟩) | ((q | ⟨o, q⟩) | ⟨o, _, _, q, _⟩)
  · rw [f.1] at q; cases q
  · rw [f.1] at q; cases q
  · exact base o q
  · rw [f.1] at q; cases q
  · rw [f.1] at q; cases q
  · exact base o q
/-- what the iterator draws -/
theorem Sk.draws (I : L2.Inv X pins σ H s) (g : k.G X.K H) (f : FpOk X pins H it) {A : Around} (hh : A.handled = none) : ∃ (fpx : List Addr) (Pv : Nat → Value → Prop) (B : Heap → Prop),
    Draws X.prog X.w A it (it :: fpx) k.vs.length Pv (fun i h => k.own it i h ∧ B h) ∧ B s.heap ∧ (∀ c, FpOk X pins H c → c ∉ fpx) ∧ ∀ i v, Pv i v → ∃ x, k.vs[i]? = some x ∧ L2.RelV x v := by
  cases k with
  | lst a vs =>
    obtain ⟨its, rv, p, hz⟩ := I.list g
    have e : vs.length = its.toArray.size := by rw [List.size_toArray]; exact rv.length
    refine ⟨[a], fun i v => its.toArray[i]? = some v, fun h => h.IsList a its.toArray, ?_, p.isList, fun c hc => ?_, fun i v q => ?_⟩
    · show Draws _ _ A it [it, a] vs.length _ _
      rw [e]; exact Draws.list hh it a (Sk.apart I (.inl g) f) its.toArray
    · rw [List.mem_singleton]; exact (Sk.apart I (.inl g) hc).symm
    · obtain ⟨x, h1, h2⟩ := FC.vals_at rv (by simpa using q)
      exact ⟨x, h1, h2⟩
  | tup a vs =>
    obtain ⟨its, rv, p, hz⟩ := I.tuple g
    have e : vs.length = its.toArray.size := by rw [List.size_toArray]; exact rv.length
    refine ⟨[a], fun i v => its.toArray[i]? = some v, fun h => h.IsTuple a its.toArray, ?_, p, fun c hc => ?_, fun i v q => ?_⟩
    · show Draws _ _ A it [it, a] vs.length _ _
      rw [e]; exact Draws.tuple hh it a (Sk.apart I (.inr g) f) its.toArray
    · rw [List.mem_singleton]; exact (Sk.apart I (.inr g) hc).symm
    · obtain ⟨x, h1, h2⟩ := FC.vals_at rv (by simpa using q)
      exact ⟨x, h1, h2⟩
  | str x t =>
    have e : (Sk.str x t).vs.length = x.cps.size := by simp [Sk.vs]
    have D := Draws.text (prog := X.prog) (w := X.w) hh it x t
    refine ⟨[], (fun i v => ∃ c u, x.cps[i]? = some c ∧ v = Value.str ⟨#[c]⟩ u), fun _ => True, ?_, True.intro, fun c hc => by simp, ?_⟩
    · rw [e]
      exact ⟨fun i h st => D.live i h st.1, fun i h h' st q => ⟨D.frame i h h' st.1 q, True.intro⟩, fun i s Q E hi st hQ => D.item i s Q E hi st.1 fun x h' tk p st' sb => hQ x h' tk p ⟨st', True.intro⟩ sb, fun s Q E st hE => D.done s Q E st.1 hE⟩
    · rintro i v ⟨c, u, q, rfl⟩
      refine ⟨.str ⟨#[c]⟩, ?_, ⟨u, rfl⟩⟩
      show (x.cps.toList.map fun c => V.str ⟨#[c]⟩)[i]? = _
      rw [List.getElem?_map, Array.getElem?_toList, q]; rfl
end
end FC
end

section
namespace FC
open PySem PySem.Spec PyProof.Rows L2

/-! ### walks that hand out new tuples -/
def Jp (n : Nat) (G : Hp → Prop) (F : Nat → Option (List V)) : It :=
  ⟨fun i H => i < n ∧ G H, fun i H v H' => ∃ T xs, v = .ref T ∧ H T = none ∧ H' = upd H T (.tup xs) ∧ F i = some xs, fun i H => i = n ∧ G H⟩
theorem turn_T {P : Program} {w : World} {K : PySem.W.Frag} {elts : List Expr} {kk : Nat} {tpos : Pos} {n : Nat} {G : Hp → Prop} {F : Nat → Option (List V)} {it : Addr} {fpo : List Addr} {tn : Nat → Heap → Prop} (hm : it ∈ fpo)
    (hobj : ∀ i h, tn i h → ∀ b ∈ fpo, ∃ o, h.get? b = some o ∧ ∀ v, o.data ≠ .cell v) (hkeep : ∀ i h h', tn i h → (∀ b ∈ fpo, ∀ o, h.get? b = some o → h'.get? b = some o) → tn i h')
    (hself : ∀ (A : Around) (i : Nat) (s : Shared) (Q : Value → Shared → Prop) (E : Value → Shared → Prop), tn i s.heap → Q (.ref it) s → wpAny (model P w) A (pyIter (.ref it)) Q E s)
    (hW : ∀ (X : Cx), X.prog = P → X.w = w → X.K = K → X.calm = true → ∀ (i : Nat) (pins : List (Addr × Obj)) (s : Shared) (σ : L2.St) (H : Hp), L2.Inv X pins σ H s → (∀ b ∈ fpo, FpOk X pins H b) → tn i s.heap → G H →
      ∃ (fp wr : List Addr) (Pt : Nat → Array Value → Prop) (B : Heap → Prop) (Mid : Nat → Addr → Heap → Prop), WalksT P w X.A it fp wr n Pt (fun i h => tn i h ∧ B h) Mid ∧ B s.heap ∧ (∀ b ∈ wr, b ∈ fpo) ∧
        ∀ i vals, Pt i vals → ∃ xs, F i = some xs ∧ L2.Vals xs vals.toList ∧ xs.length ≤ sizeLine) :
    Turn P w K (.Tuple elts kk tpos) (Jp n G F) fpo it tn where
  mem := hm
  obj := hobj
  keep := hkeep
  item := by
    intro X hP hw hK hc i pins s σ H E I hf st hg
    obtain ⟨fp, wr, Pt, B, Mid, W, hB, sub, val⟩ := hW X hP hw hK hc i pins s σ H I hf st hg.2
    refine W.item i s _ _ hg.1 ⟨st, hB⟩ fun T vals h1 tk hp hT htup mid hk => ⟨.ref T, rfl, ?_⟩
    have hTw : T ∉ wr := W.apart i T h1 mid
    refine W.go elts kk tpos i T _ _ _ mid fun h2 st2 hk2 => ?_
    obtain ⟨xs, hF, rv, hz⟩ := val i vals hp
    have hTn : H T = none := I.hok.fresh hT
    have hkeep2 : ∀ b o, b ∉ wr → s.heap.get? b = some o → h2.get? b = some o := fun b o hb e => hk2 b o hb (hk b o hb e)
    have new : ObjOk X.prog X.w (upd H T (.tup xs)) h2 T (.tup xs) := by
      obtain ⟨o, e, r⟩ := htup
      exact ⟨hz, vals.toList, rv, o, hk2 T o hTw e, by simpa using r⟩
    have I2 : L2.Inv X pins σ (upd H T (.tup xs)) { s with heap := h2, toks := tk } := I.turnedNew (ch := wr) hkeep2 (fun b hb => hf b (sub b hb)) hT new
    refine ⟨.ref T, _, I2, rfl, ⟨T, xs, rfl, hTn, rfl, hF⟩, st2.1, fun b hb => ?_⟩
    obtain ⟨o, e, _⟩ := hobj i _ st b hb
    rw [upd_ne (Nat.ne_of_lt (Nat.lt_of_lt_of_le (Heap.lt_size e) hT))]
    exact (hf b hb).1
  done := by
    intro X hP hw hK hc i pins s σ H E I hf st hg
    obtain ⟨fp, wr, Pt, B, Mid, W, hB, sub, val⟩ := hW X hP hw hK hc i pins s σ H I hf st hg.2
    obtain ⟨e, _⟩ := hg
    subst e
    exact W.done s _ _ ⟨st, hB⟩ fun h1 tk hk => ⟨rfl, I.turnedL (ch := wr) hk fun b hb => hf b (sub b hb)⟩
  self := hself
theorem WT_congr {prog : Program} {w : World} {A : Around} {I : Addr} {fp wr : List Addr} {n : Nat} {Pt : Nat → Array Value → Prop} {St St' : Nat → Heap → Prop} {Mid : Nat → Addr → Heap → Prop} (W : WalksT prog w A I fp wr n Pt St Mid) (e : ∀ i h, St i h ↔ St' i h) : WalksT prog w A I fp wr n Pt St' Mid := by
  have q : St = St' := by
    funext i h
    exact propext (e i h)
  rw [← q]; exact W
/-- enumerate -/
def enumF (vs : List V) (i : Nat) : Option (List V) := vs[i]?.map fun x => [V.int (i : Nat), x]
theorem turn_enumK {P : Program} {w : World} {K : PySem.W.Frag} {elts : List Expr} {kk : Nat} {tpos : Pos} (k : Sk) {e it : Addr} (hne : e ≠ it) :
    Turn P w K (.Tuple elts kk tpos) (Jp k.vs.length (k.G K) (enumF k.vs)) [e, it] e (fun i h => (∃ old, IsEnum h e it ((i : Nat) : Int) old) ∧ k.own it i h) := by
  refine turn_T (by simp) (fun i h st b hb => ?_) (fun i h h' st q => ?_) (fun A i s Q E st h => ?_) ?_
  · have e' : b = e ∨ b = it := by simpa using hb
    rcases e' with rfl | rfl
    · obtain ⟨⟨old, z⟩, _⟩ := st
      exact ⟨_, z, fun v q => nomatch q⟩
    · obtain ⟨o, z, d, _⟩ := Sk.own_obj st.2
      exact ⟨o, z, d⟩
  · obtain ⟨⟨old, z⟩, y⟩ := st
    exact ⟨⟨old, q e (by simp) _ z⟩, Sk.own_keep y fun o x => q it (by simp) o x⟩
  · obtain ⟨⟨old, z⟩, _⟩ := st
    exact wpAny_pyIter_enum z h
  · intro X hP hw hK hc i pins s σ H I hf st hg
    subst hP hw hK
    have hh : X.A.in1.handled = none := I.ok.hd hc
    obtain ⟨fpx, Pv, B, D, hB, ap, val⟩ := Sk.draws I hg (hf it (by simp)) hh
    have z := ap e (hf e (by simp))
    have W := WalksT.enumerateD D e hne (by simp [hne, z]) (by simp)
    refine ⟨_, _, _, B, _, WT_congr W fun i h => ⟨fun ⟨y1, y2, y3⟩ => ⟨⟨y1, y2⟩, y3⟩, fun ⟨⟨y1, y2⟩, y3⟩ => ⟨y1, y2, y3⟩⟩, hB, fun b hb => hb, ?_⟩
    · rintro i vals ⟨t, x, hp, rfl⟩
      obtain ⟨v, hv, r⟩ := val i x hp
      refine ⟨[.int (i : Nat), v], by unfold enumF; rw [hv]; rfl, .cons ⟨t, rfl⟩ (.cons r .nil), by show 2 ≤ sizeLine; decide⟩
/-- zip of two -/
def zipF2 (xs ys : List V) (i : Nat) : Option (List V) := match xs[i]?, ys[i]? with
  | some x, some y => some [x, y]
  | _, _ => none
def zipF3 (xs ys zs : List V) (i : Nat) : Option (List V) := match xs[i]?, ys[i]?, zs[i]? with
  | some x, some y, some z => some [x, y, z]
  | _, _, _ => none
theorem turn_zip2K {P : Program} {w : World} {K : PySem.W.Frag} {elts : List Expr} {kk : Nat} {tpos : Pos} (k1 k2 : Sk) {z TI TO i1 i2 : Addr} (d : [z, TI, TO, i1, i2].Nodup) :
    Turn P w K (.Tuple elts kk tpos) (Jp (min k1.vs.length k2.vs.length) (fun H => k1.G K H ∧ k2.G K H) (zipF2 k1.vs k2.vs)) [z, TI, TO, i1, i2] z
      (fun i h => IsZip h z TI TO .none ∧ IsTupOf2 h TI (.ref i1) (.ref i2) ∧ (∃ a1 a2, IsTupOf2 h TO a1 a2) ∧ k1.own i1 i h ∧ k2.own i2 i h) := by
  have nd : (z ≠ TI ∧ z ≠ TO ∧ z ≠ i1 ∧ z ≠ i2) ∧ (TI ≠ TO ∧ TI ≠ i1 ∧ TI ≠ i2) ∧ (TO ≠ i1 ∧ TO ≠ i2) ∧ i1 ≠ i2 := by simpa using d
  obtain ⟨⟨d1, d2, d3, d4⟩, ⟨d5, d6, d7⟩, ⟨d8, d9⟩, d10⟩ := nd
  refine turn_T (by simp) (fun i h st b hb => ?_) (fun i h h' st q => ?_) (fun A i s Q E st h => wpAny_pyIter_zip st.1 h) ?_
  · obtain ⟨s1, s2, ⟨a1, a2, s3⟩, s4, s5⟩ := st
    have e' : b = z ∨ b = TI ∨ b = TO ∨ b = i1 ∨ b = i2 := by simpa using hb
    rcases e' with rfl | rfl | rfl | rfl | rfl
    · exact ⟨_, s1, fun v q => nomatch q⟩
    · exact ⟨_, s2, fun v q => nomatch q⟩
    · exact ⟨_, s3, fun v q => nomatch q⟩
    · obtain ⟨o, x, c, _⟩ := Sk.own_obj s4
      exact ⟨o, x, c⟩
    · obtain ⟨o, x, c, _⟩ := Sk.own_obj s5
      exact ⟨o, x, c⟩
  · obtain ⟨s1, s2, ⟨a1, a2, s3⟩, s4, s5⟩ := st
    exact ⟨q z (by simp) _ s1, q TI (by simp) _ s2, ⟨a1, a2, q TO (by simp) _ s3⟩, Sk.own_keep s4 fun o x => q i1 (by simp) o x, Sk.own_keep s5 fun o x => q i2 (by simp) o x⟩
  · intro X hP hw hK hc i pins s σ H I hf st hg
    subst hP hw hK
    have hh : X.A.in1.handled = none := I.ok.hd hc
    obtain ⟨fx1, P1, B1, D1, hB1, ap1, val1⟩ := Sk.draws I hg.1 (hf i1 (by simp)) hh
    obtain ⟨fx2, P2, B2, D2, hB2, ap2, val2⟩ := Sk.draws I hg.2 (hf i2 (by simp)) hh
    have S : ZipSep2 z TI TO i1 i2 (i1 :: fx1) (i2 :: fx2) :=
      { TIz := d1.symm, TOz := d2.symm, TITO := d5, TIi1 := d6, mem1 := by simp, zf1 := by simp [d3, ap1 z (hf z (by simp))], Tf1 := by simp [d8, ap1 TO (hf TO (by simp))], TIi2 := d7, mem2 := by simp,
        zf2 := by simp [d4, ap2 z (hf z (by simp))], Tf2 := by simp [d9, ap2 TO (hf TO (by simp))], sep1_2 := by simp [d10, ap2 i1 (hf i1 (by simp))], sep2_1 := by simp [d10.symm, ap1 i2 (hf i2 (by simp))] }
    have W := WalksT.zipD2 S D1 D2
    refine ⟨_, _, _, (fun h => B1 h ∧ B2 h), _, WT_congr W fun i h => ⟨fun ⟨t1, t2, t3, ⟨t4, t5⟩, t6, t7⟩ => ⟨⟨t1, t2, t3, t4, t6⟩, t5, t7⟩, fun ⟨⟨t1, t2, t3, t4, t6⟩, t5, t7⟩ => ⟨t1, t2, t3, ⟨t4, t5⟩, t6, t7⟩⟩, ⟨hB1, hB2⟩, fun b hb => ?_, ?_⟩
    · have e' : b = z ∨ b = TO ∨ b = i1 ∨ b = i2 := by simpa using hb
      rcases e' with rfl | rfl | rfl | rfl <;> simp
    · rintro i vals ⟨x1, x2, h1, h2, rfl⟩
      obtain ⟨v1, e1, r1⟩ := val1 i x1 h1
      obtain ⟨v2, e2, r2⟩ := val2 i x2 h2
      exact ⟨[v1, v2], by unfold zipF2; rw [e1, e2], .cons r1 (.cons r2 .nil), by show 2 ≤ sizeLine; decide⟩
theorem turn_zip3K {P : Program} {w : World} {K : PySem.W.Frag} {elts : List Expr} {kk : Nat} {tpos : Pos} (k1 k2 k3 : Sk) {z TI TO i1 i2 i3 : Addr} (d : [z, TI, TO, i1, i2, i3].Nodup) :
    Turn P w K (.Tuple elts kk tpos) (Jp (min (min k1.vs.length k2.vs.length) k3.vs.length) (fun H => k1.G K H ∧ k2.G K H ∧ k3.G K H) (zipF3 k1.vs k2.vs k3.vs)) [z, TI, TO, i1, i2, i3] z
      (fun i h => IsZip h z TI TO .none ∧ IsTupOf3 h TI (.ref i1) (.ref i2) (.ref i3) ∧ (∃ a1 a2 a3, IsTupOf3 h TO a1 a2 a3) ∧ k1.own i1 i h ∧ k2.own i2 i h ∧ k3.own i3 i h) := by
  have nd : (z ≠ TI ∧ z ≠ TO ∧ z ≠ i1 ∧ z ≠ i2 ∧ z ≠ i3) ∧ (TI ≠ TO ∧ TI ≠ i1 ∧ TI ≠ i2 ∧ TI ≠ i3) ∧ (TO ≠ i1 ∧ TO ≠ i2 ∧ TO ≠ i3) ∧ (i1 ≠ i2 ∧ i1 ≠ i3) ∧ i2 ≠ i3 := by simpa using d
  obtain ⟨⟨d1, d2, d3, d4, d11⟩, ⟨d5, d6, d7, d12⟩, ⟨d8, d9, d13⟩, ⟨d10, d14⟩, d15⟩ := nd
  refine turn_T (by simp) (fun i h st b hb => ?_) (fun i h h' st q => ?_) (fun A i s Q E st h => wpAny_pyIter_zip st.1 h) ?_
  · obtain ⟨s1, s2, ⟨a1, a2, a3, s3⟩, s4, s5, s6⟩ := st
    have e' : b = z ∨ b = TI ∨ b = TO ∨ b = i1 ∨ b = i2 ∨ b = i3 := by simpa using hb
    rcases e' with rfl | rfl | rfl | rfl | rfl | rfl
    · exact ⟨_, s1, fun v q => nomatch q⟩
    · exact ⟨_, s2, fun v q => nomatch q⟩
    · exact ⟨_, s3, fun v q => nomatch q⟩
    · obtain ⟨o, x, c, _⟩ := Sk.own_obj s4
      exact ⟨o, x, c⟩
    · obtain ⟨o, x, c, _⟩ := Sk.own_obj s5
      exact ⟨o, x, c⟩
    · obtain ⟨o, x, c, _⟩ := Sk.own_obj s6
      exact ⟨o, x, c⟩
  · obtain ⟨s1, s2, ⟨a1, a2, a3, s3⟩, s4, s5, s6⟩ := st
    exact ⟨q z (by simp) _ s1, q TI (by simp) _ s2, ⟨a1, a2, a3, q TO (by simp) _ s3⟩, Sk.own_keep s4 fun o x => q i1 (by simp) o x, Sk.own_keep s5 fun o x => q i2 (by simp) o x, Sk.own_keep s6 fun o x => q i3 (by simp) o x⟩
  · intro X hP hw hK hc i pins s σ H I hf st hg
    subst hP hw hK
    have hh : X.A.in1.handled = none := I.ok.hd hc
    obtain ⟨fx1, P1, B1, D1, hB1, ap1, val1⟩ := Sk.draws I hg.1 (hf i1 (by simp)) hh
    obtain ⟨fx2, P2, B2, D2, hB2, ap2, val2⟩ := Sk.draws I hg.2.1 (hf i2 (by simp)) hh
    obtain ⟨fx3, P3, B3, D3, hB3, ap3, val3⟩ := Sk.draws I hg.2.2 (hf i3 (by simp)) hh
    have S : ZipSep3 z TI TO i1 i2 i3 (i1 :: fx1) (i2 :: fx2) (i3 :: fx3) :=
      { TIz := d1.symm, TOz := d2.symm, TITO := d5, TIi1 := d6, mem1 := by simp, zf1 := by simp [d3, ap1 z (hf z (by simp))], Tf1 := by simp [d8, ap1 TO (hf TO (by simp))], TIi2 := d7, mem2 := by simp,
        zf2 := by simp [d4, ap2 z (hf z (by simp))], Tf2 := by simp [d9, ap2 TO (hf TO (by simp))], TIi3 := d12, mem3 := by simp, zf3 := by simp [d11, ap3 z (hf z (by simp))], Tf3 := by simp [d13, ap3 TO (hf TO (by simp))],
        sep1_2 := by simp [d10, ap2 i1 (hf i1 (by simp))], sep1_3 := by simp [d14, ap3 i1 (hf i1 (by simp))], sep2_1 := by simp [d10.symm, ap1 i2 (hf i2 (by simp))], sep2_3 := by simp [d15, ap3 i2 (hf i2 (by simp))],
        sep3_1 := by simp [d14.symm, ap1 i3 (hf i3 (by simp))], sep3_2 := by simp [d15.symm, ap2 i3 (hf i3 (by simp))] }
    have W := WalksT.zipD3 S D1 D2 D3
    refine ⟨_, _, _, (fun h => B1 h ∧ B2 h ∧ B3 h), _, WT_congr W fun i h => ⟨fun ⟨t1, t2, t3, ⟨t4, t5⟩, ⟨t6, t7⟩, t8, t9⟩ => ⟨⟨t1, t2, t3, t4, t6, t8⟩, t5, t7, t9⟩, fun ⟨⟨t1, t2, t3, t4, t6, t8⟩, t5, t7, t9⟩ => ⟨t1, t2, t3, ⟨t4, t5⟩, ⟨t6, t7⟩, t8, t9⟩⟩, ⟨hB1, hB2, hB3⟩, fun b hb => ?_, ?_⟩
    · have e' : b = z ∨ b = TO ∨ b = i1 ∨ b = i2 ∨ b = i3 := by simpa using hb
      rcases e' with rfl | rfl | rfl | rfl | rfl <;> simp
    · rintro i vals ⟨x1, x2, x3, h1, h2, h3, rfl⟩
      obtain ⟨v1, e1, r1⟩ := val1 i x1 h1
      obtain ⟨v2, e2, r2⟩ := val2 i x2 h2
      obtain ⟨v3, e3, r3⟩ := val3 i x3 h3
      exact ⟨[v1, v2, v3], by unfold zipF3; rw [e1, e2, e3], .cons r1 (.cons r2 (.cons r3 .nil)), by show 3 ≤ sizeLine; decide⟩
end FC
end

section
namespace FC
open PySem PySem.Spec PyProof.Rows L2

/-! ### locks -/
def LH.lock (L : LH) (l : Nat) : LH := match L.get l with
  | some o => L.put l (.lck o)
  | none => L
def LH.unlock (L : LH) (l : Nat) : LH := match L.get l with
  | some (.lck o) => L.put l o
  | _ => L
def lockAll : List Nat → LH → LH
  | [], L => L
  | l :: ls, L => lockAll ls (L.lock l)
def unlockAll : List Nat → LH → LH
  | [], L => L
  | l :: ls, L => (unlockAll ls L).unlock l
section
variable {g : GE} {m m' : M} {L L' : LH} {H H' : Hp} {l : Nat}
theorem lock_ok (R : HRel g m L H) (hl : l < m.n) : HRel g m (L.lock l) H ∧ ∃ o, L.get l = some o ∧ (∀ j, (L.lock l).get j = if j = l then some (.lck o) else L.get j) := by
  obtain ⟨o, h1, h2⟩ := R.obj l hl
  have e : L.lock l = L.put l (.lck o) := by unfold LH.lock; rw [h1]
  rw [e]
  exact ⟨R.relock hl h2, o, h1, fun j => LH.get_put (Nat.lt_trans hl R.sm)⟩
theorem unlock_ok (R : HRel g m L H) (hl : l < m.n) (R' : HRel g m' L' H') (E : Ext m (L.lock l) H m' L' H') : Ext m L H m' (L'.unlock l) H' ∧ HRel g m' (L'.unlock l) H' := by
  obtain ⟨_, o, h1, h2⟩ := lock_ok R hl
  have hl' : l < m'.n := Nat.lt_of_lt_of_le hl E.nn
  have g1 : (L.lock l).get l = some (.lck o) := by rw [h2, if_pos rfl]
  have g2 : L'.get l = some (.lck o) := (E.lk l hl ⟨o, g1⟩).trans g1
  have e : L'.unlock l = L'.put l o := by unfold LH.unlock; rw [g2]
  have gp : ∀ j, (L'.put l o).get j = if j = l then some o else L'.get j := fun j => LH.get_put (Nat.lt_trans hl' R'.sm)
  rw [e]
  obtain ⟨o', q1, q2⟩ := R'.obj l hl'
  rw [g2] at q1
  cases q1
  refine ⟨⟨E.nn, E.μ, fun a u ha k => E.keep a u ha fun j hj ej => ?_, fun j hj hk => ?_, E.new, E.live⟩, R'.relock hl' q2⟩
  · by_cases z : j = l
    · subst z; exact ⟨o, g1⟩
    · obtain ⟨y, hy⟩ := k j hj ej
      exact ⟨y, by rw [h2, if_neg z]; exact hy⟩
  · rw [gp]
    by_cases z : j = l
    · subst z; rw [if_pos rfl, h1]
    · rw [if_neg z]
      obtain ⟨y, hy⟩ := hk
      have := E.lk j hj ⟨y, by rw [h2, if_neg z]; exact hy⟩
      rw [this, h2, if_neg z]
theorem lockAll_ok : ∀ {ls : List Nat} {L : LH}, HRel g m L H → (∀ l ∈ ls, l < m.n) → HRel g m (lockAll ls L) H
  | [], _, R, _ => R
  | l :: ls, L, R, h => lockAll_ok (ls := ls) (lock_ok R (h l List.mem_cons_self)).1 fun j hj => h j (List.mem_cons_of_mem _ hj)
theorem unlockAll_ok : ∀ {ls : List Nat} {L : LH}, HRel g m L H → (∀ l ∈ ls, l < m.n) → HRel g m' L' H' → Ext m (lockAll ls L) H m' L' H' → Ext m L H m' (unlockAll ls L') H' ∧ HRel g m' (unlockAll ls L') H'
  | [], _, _, _, R', E => ⟨E, R'⟩
  | l :: ls, L, R, h, R', E => by
    have hl := h l List.mem_cons_self
    obtain ⟨E1, R1⟩ := unlockAll_ok (ls := ls) (lock_ok R hl).1 (fun j hj => h j (List.mem_cons_of_mem _ hj)) R' E
    exact unlock_ok R hl R1 E1
/-- what a walked list, locked, stays -/
theorem lock_stays {ls : List Nat} {L : LH} (R : HRel g m L H) (h : ∀ l ∈ ls, l < m.n) (hm : l ∈ ls) (E : Ext m (lockAll ls L) H m' L' H') {u : HO} (hu : H (m.μ l) = some u) : H' (m.μ l) = some u := by
  refine E.keep _ _ hu fun j hj e => ?_
  have : j = l := R.inj j l hj (h l hm) e
  subst this
  have lk : ∀ {ls : List Nat} {L : LH}, HRel g m L H → (∀ l ∈ ls, l < m.n) → (j ∈ ls ∨ Locked L j) → Locked (lockAll ls L) j := by
    intro ls
    induction ls with
    | nil => intro L _ _ q; rcases q with q | q; cases q; exact q
    | cons a r ih =>
      intro L R h q
      have ha := h a List.mem_cons_self
      obtain ⟨R1, o, h1, h2⟩ := lock_ok R ha
      refine ih R1 (fun x hx => h x (List.mem_cons_of_mem _ hx)) ?_
      rcases q with q | ⟨y, hy⟩
      · rcases List.mem_cons.mp q with z | z
        · exact .inr ⟨o, by rw [h2, if_pos z]⟩
        · exact .inl z
      · refine .inr ?_
        by_cases z : j = a
        · exact ⟨o, by rw [h2, if_pos z]⟩
        · exact ⟨y, by rw [h2, if_neg z]; exact hy⟩
  exact lk R h (.inl hm)
end

/-! ### iterables -/
structure ItIs (g : GE) (J : It) (xs : List D) (m0 : M) (L0 : LH) (H0 : Hp) : Prop where
  stop : ∀ m L H, Ext m0 L0 H0 m L H → HRel g m L H → J.stop xs.length H
  go : ∀ m L H i d, Ext m0 L0 H0 m L H → HRel g m L H → xs[i]? = some d → J.go i H
  yld : ∀ m L H i d x H', Ext m0 L0 H0 m L H → HRel g m L H → xs[i]? = some d → J.yld i H x H' → Ext m L H m L H' ∧ HRel g m L H' ∧ Rep g m H' d x
abbrev FI := Sl → LH → Rs (List D × List Nat)
def TI' (g : GE) (W : WX) (f : FI) : TI := fun σ H R => ∃ m L δ, HRel g m L H ∧ SRel g m H δ σ ∧ match f δ L with
  | .ok p L' => ∀ m' H' J, Ext m L H m' L' H' → HRel g m' L' H' → (∀ l ∈ p.2, l < m'.n) → ItIs g J p.1 m' (lockAll p.2 L') H' → R J H'
  | .ex x L' => ∀ m' H' cv dd, Ext m L H m' L' H' → HRel g m' L' H' → XRep g m' H' x cv dd → W cv dd σ H'
  | .bad => False
abbrev FG := D → Sl → Option Sl
def TG' (g : GE) (slots : List Nat) (fg : FG) : TG := fun v σ H Q => ∃ m L δ d δ', HRel g m L H ∧ SRel g m H δ σ ∧ Rep g m H d v ∧ fg d δ = some δ' ∧
  ∀ σ', SRel g m H δ' σ' → σ'.length = σ.length → (∀ j, j ∉ slots → σ'[j]? = σ[j]?) → Q σ' H

/-! ### for -/
def forL (fg : FG) (b : FS) : List D → Sl → LH → SR
  | [], δ, L => .go .nx δ L
  | d :: ds, δ, L => match fg d δ with
    | none => .bad
    | some δ1 => match b δ1 L with
      | .go .nx δ2 L2 => forL fg b ds δ2 L2
      | .go .ct δ2 L2 => forL fg b ds δ2 L2
      | .go .bk δ2 L2 => .go .nx δ2 L2
      | .go (.rt d) δ2 L2 => .go (.rt d) δ2 L2
      | .ex x δ2 L2 => .ex x δ2 L2
      | .bad => .bad
def SR.unl (ls : List Nat) : SR → SR
  | .go f δ L => .go f δ (unlockAll ls L)
  | .ex x δ L => .ex x δ (unlockAll ls L)
  | .bad => .bad
def xFor (fi : FI) (fg : FG) (b : FS) : FS := fun δ L => match fi δ L with
  | .ok p L1 => (forL fg b p.1 δ (lockAll p.2 L1)).unl p.2
  | .ex x L1 => .ex x δ L1
  | .bad => .bad
section
variable {g : GE} {W : WX} {m m' : M} {L L' : LH} {H H' : Hp} {fi : FI} {fg : FG} {b : FS} {slots : List Nat}
theorem drop_at {α : Type} {xs : List α} {i : Nat} (h : i < xs.length) : xs.drop i = xs[i] :: xs.drop (i + 1) := List.drop_eq_getElem_cons h
theorem ts_for {De : Ends} {σ : L2.St} (h : TS' g W (xFor fi fg b) De σ H) : tFor (TI' g W fi) (TG' g slots fg) (TS' g W b) De σ H := by
  obtain ⟨m, L, δ, R, S, h⟩ := h
  unfold xFor at h
  refine ⟨m, L, δ, R, S, ?_⟩
  cases e : fi δ L with
  | bad => simp only [e] at h; exact h
  | ex x L1 =>
    simp only [e] at h
    exact fun m' H' cv dd E' R' X' => h m' H' σ cv dd E' R' (S.ext E' R) X'
  | ok p L1 =>
    simp only [e] at h
    obtain ⟨xs, ls⟩ := p
    intro m1 H1 J E1 R1 hl it
    have h := TSP.shift E1 h
    have S1 := S.ext E1 R
    have R2 := lockAll_ok R1 hl
    dsimp only at h it hl R2 ⊢
    generalize hr : forL fg b xs δ (lockAll ls L1) = r at h
    let Pv : Nat → L2.St → Hp → Prop := fun i σ' H' => ∃ m2 L2 δ2, Ext m1 (lockAll ls L1) H1 m2 L2 H' ∧ HRel g m2 L2 H' ∧ SRel g m2 H' δ2 σ' ∧ forL fg b (xs.drop i) δ2 L2 = r
    refine ⟨fun i k σ' H' => k = xs.length - i ∧ i ≤ xs.length ∧ Pv i σ' H', ⟨_, rfl, Nat.zero_le _, m1, lockAll ls L1, δ, .refl, R2, S1, hr⟩, ?_⟩
    rintro i k σ' H' ⟨rfl, hi, m2, L2, δ2, E2, R3, S2, hf⟩
    by_cases hlt : i < xs.length
    · have hx : xs[i]? = some xs[i] := by simp [hlt]
      refine .inr ⟨it.go m2 L2 H' i _ E2 R3 hx, Pv (i + 1), fun σ'' H'' p => ⟨xs.length - (i + 1), by omega, rfl, hlt, p⟩, fun x H'' y => ?_⟩
      obtain ⟨E3, R4, rx⟩ := it.yld m2 L2 H' i _ x H'' E2 R3 hx y
      rw [drop_at hlt, forL] at hf
      cases q : fg xs[i] δ2 with
      | none => simp only [q] at hf; rw [← hf] at h; exact h.elim
      | some δ3 =>
        simp only [q] at hf
        refine ⟨m2, L2, δ2, xs[i], δ3, R4, S2.ext E3 R3, rx, q, fun σ3 S3 _ _ => ⟨m2, L2, δ3, R4, S3, ?_⟩⟩
        have E4 := E2.trans E3
        cases z : b δ3 L2 with
        | bad => simp only [z] at hf; rw [← hf] at h; exact h.elim
        | ex x δ4 L4 =>
          simp only [z] at hf
          rw [← hf] at h
          intro m' H3 σ4 cv dd E5 R5 S5 X5
          obtain ⟨E6, R6⟩ := unlockAll_ok R1 hl R5 (E4.trans E5)
          exact h m' H3 σ4 cv dd E6 R6 S5 X5
        | go f δ4 L4 =>
          simp only [z] at hf
          cases f with
          | nx => exact fun m' H3 σ4 E5 R5 S5 => ⟨m', L4, δ4, E4.trans E5, R5, S5, hf⟩
          | ct => exact fun m' H3 σ4 E5 R5 S5 => ⟨m', L4, δ4, E4.trans E5, R5, S5, hf⟩
          | bk =>
            simp only at hf
            rw [← hf] at h
            intro m' H3 σ4 E5 R5 S5
            obtain ⟨E6, R6⟩ := unlockAll_ok R1 hl R5 (E4.trans E5)
            exact h m' H3 σ4 E6 R6 S5
          | rt d =>
            simp only at hf
            rw [← hf] at h
            intro m' H3 v E5 R5 rv
            obtain ⟨E6, R6⟩ := unlockAll_ok R1 hl R5 (E4.trans E5)
            exact h m' H3 v E6 R6 rv
    · have e' : i = xs.length := by omega
      subst e'
      rw [List.drop_length, forL] at hf
      rw [← hf] at h
      obtain ⟨E6, R6⟩ := unlockAll_ok R1 hl R3 E2
      exact .inl ⟨it.stop m2 L2 H' E2 R3, h m2 H' σ' E6 R6 S2⟩
end
end FC
end

section
namespace FC
open PySem PySem.Spec PyProof.Rows L2

/-! ### while -/
def whileL (c : FT) (b : FS) : Nat → Sl → LH → SR
  | 0, _, _ => .bad
  | n + 1, δ, L => match c δ L with
    | .ok t L1 => match t with
      | true => match b δ L1 with
        | .go .nx δ2 L2 => whileL c b n δ2 L2
        | .go .ct δ2 L2 => whileL c b n δ2 L2
        | .go .bk δ2 L2 => .go .nx δ2 L2
        | .go (.rt d) δ2 L2 => .go (.rt d) δ2 L2
        | .ex x δ2 L2 => .ex x δ2 L2
        | .bad => .bad
      | false => .go .nx δ L1
    | .ex x L1 => .ex x δ L1
    | .bad => .bad
section
variable {g : GE} {W : WX} {m m' : M} {L L' : LH} {H H' : Hp}
theorem ts_while {c : FT} {b : FS} {n : Nat} {De : Ends} {σ : L2.St} (h : TS' g W (whileL c b n) De σ H) : tWhile (TT' g W c) (TS' g W b) De σ H := by
  obtain ⟨m, L, δ, R, S, h⟩ := h
  generalize hr : whileL c b n δ L = r at h
  refine ⟨fun k σ' H' => ∃ m2 L2 δ2, Ext m L H m2 L2 H' ∧ HRel g m2 L2 H' ∧ SRel g m2 H' δ2 σ' ∧ whileL c b k δ2 L2 = r, ⟨n, m, L, δ, .refl, R, S, hr⟩, ?_⟩
  rintro k σ' H' ⟨m2, L2, δ2, E2, R2, S2, hf⟩
  refine ⟨m2, L2, δ2, R2, S2, ?_⟩
  cases k with
  | zero => rw [whileL] at hf; rw [← hf] at h; exact h.elim
  | succ k =>
    rw [whileL] at hf
    cases q : c δ2 L2 with
    | bad => simp only [q] at hf; rw [← hf] at h; exact h.elim
    | ex x L3 =>
      simp only [q] at hf
      rw [← hf] at h
      exact fun m' H3 cv dd E3 R3 X3 => h m' H3 σ' cv dd (E2.trans E3) R3 (S2.ext E3 R2) X3
    | ok t L3 =>
      simp only [q] at hf
      intro m3 H3 t' E3 R3 et
      have et : t = t' := et
      subst et
      have S3 := S2.ext E3 R2
      have E4 := E2.trans E3
      cases t with
      | false =>
        rw [if_neg Bool.false_ne_true]
        simp only at hf
        rw [← hf] at h
        exact h m3 H3 σ' E4 R3 S3
      | true =>
        rw [if_pos rfl]
        simp only at hf
        refine ⟨fun σ'' H'' => ∃ m2 L2 δ2, Ext m L H m2 L2 H'' ∧ HRel g m2 L2 H'' ∧ SRel g m2 H'' δ2 σ'' ∧ whileL c b k δ2 L2 = r, fun σ'' H'' p => ⟨k, Nat.lt_succ_self _, p⟩, m3, L3, δ2, R3, S3, ?_⟩
        cases z : b δ2 L3 with
        | bad => simp only [z] at hf; rw [← hf] at h; exact h.elim
        | ex x δ4 L4 =>
          simp only [z] at hf
          rw [← hf] at h
          exact fun m' H5 σ4 cv dd E5 R5 S5 X5 => h m' H5 σ4 cv dd (E4.trans E5) R5 S5 X5
        | go f δ4 L4 =>
          simp only [z] at hf
          cases f with
          | nx => exact fun m' H5 σ4 E5 R5 S5 => ⟨m', L4, δ4, E4.trans E5, R5, S5, hf⟩
          | ct => exact fun m' H5 σ4 E5 R5 S5 => ⟨m', L4, δ4, E4.trans E5, R5, S5, hf⟩
          | bk =>
            simp only at hf
            rw [← hf] at h
            exact fun m' H5 σ4 E5 R5 S5 => h m' H5 σ4 (E4.trans E5) R5 S5
          | rt d =>
            simp only at hf
            rw [← hf] at h
            exact fun m' H5 v E5 R5 rv => h m' H5 v (E4.trans E5) R5 rv
end

/-! ### what leans on tuples and known objects alone -/
/-- from one state to another: what values lean on stays -/
structure Lift (g : GE) (m : M) (H : Hp) (m' : M) (H' : Hp) : Prop where
  nn : m.n ≤ m'.n
  μ : ∀ l, l < m.n → m'.μ l = m.μ l
  tup : ∀ a vs, SqT g.K H a vs → SqT g.K H' a vs
  frz : ∀ a o u, H a = some (.frz o u) → H' a = some (.frz o u)
section
variable {g : GE} {m m' : M} {L : LH} {H H' : Hp}
mutual
theorem Rep.lift (q : Lift g m H m' H') : ∀ {d : D} {v : V}, Rep g m H d v → Rep g m' H' d v
  | _, _, .non => .non
  | _, _, .bl b => .bl b
  | _, _, .int i => .int i
  | _, _, .str x => .str x
  | _, _, .tup h r => .tup (q.tup _ _ h) (RepL.lift q r)
  | _, _, .rol h r => .rol (h.elim (fun ⟨o, z⟩ => .inl ⟨o, q.frz _ _ _ z⟩) .inr) (RepL.lift q r)
  | _, _, .loc (l := l) h => by
    have z := Rep.loc (g := g) (H := H') (Nat.lt_of_lt_of_le h q.nn)
    rw [q.μ l h] at z
    exact z
  | _, _, .ty n => .ty n
  | _, _, .fn f => .fn f
  | _, _, .cls c => .cls c
theorem RepL.lift (q : Lift g m H m' H') : ∀ {ds : List D} {vs : List V}, RepL g m H ds vs → RepL g m' H' ds vs
  | _, _, .nil => .nil
  | _, _, .cons h r => .cons (Rep.lift q h) (RepL.lift q r)
end
theorem ORep.lift (q : Lift g m H m' H') : ∀ {o : LO} {a b : Addr}, ORep g m H a o → b = a → H' b = H a → ORep g m' H' b o
  | .lst _, _, _, ⟨vs, h, r⟩, _, z => ⟨vs, z.trans h, r.lift q⟩
  | .dic _, a, b, ⟨h0, h1, es, h2, r⟩, e, z => by
    subst e
    exact ⟨h0, h1, es, z.trans h2, FC.Paired.imp2 (fun _ _ ⟨⟨kv, k, x1, x2, x3⟩, v, y1, y2⟩ => ⟨⟨kv, k, x1, x2.lift q, x3⟩, v, y1, y2.lift q⟩) r⟩
  | .ins _ fs, _, _, ⟨dx, fvs, h, h1, h2⟩, _, z => ⟨dx, fvs, z.trans h, h1, fun f x hx => by
    have z := h2 f x hx
    revert z
    cases List.lookup f fs with
    | none => exact id
    | some d => exact fun ⟨v, z1, z2⟩ => ⟨v, z1, z2.lift q⟩⟩
  | .lck o, _, _, h, e, z => ORep.lift q (o := o) h e z
/-- a list of ours, no object of the map's, is stored anew -/
structure Side (m : M) (H : Hp) (a : Addr) (vs : List V) : Prop where
  at_ : H a = some (.lst vs)
  out : ∀ l, l < m.n → m.μ l ≠ a
variable {a : Addr} {vs ws : List V}
theorem Side.lift (s : Side m H a vs) : Lift g m H m (upd H a (.lst ws)) where
  nn := Nat.le_refl _
  μ := fun _ _ => rfl
  tup := fun x ys h => by
    rcases h with (h | ⟨o, h⟩) | h
    · exact .inl (.inl (by rw [upd_ne (ne_of h s.at_ (by intro z; cases z))]; exact h))
    · exact .inl (.inr ⟨o, by rw [upd_ne (ne_of h s.at_ (by intro z; cases z))]; exact h⟩)
    · exact .inr h
  frz := fun x o u h => by rw [upd_ne (ne_of h s.at_ (by intro z; cases z))]; exact h
theorem Side.rel (s : Side m H a vs) (R : HRel g m L H) : HRel g m L (upd H a (.lst ws)) where
  nn := R.nn
  sm := R.sm
  inj := R.inj
  obj := fun l hl => by
    obtain ⟨o, h1, h2⟩ := R.obj l hl
    exact ⟨o, h1, h2.lift s.lift rfl (upd_ne (s.out l hl))⟩
theorem Side.ext {m0 : M} {L0 : LH} {H0 : Hp} (E : Ext m0 L0 H0 m L H) (n : H0 a = none) : Ext m0 L0 H0 m L (upd H a (.lst ws)) where
  nn := E.nn
  μ := E.μ
  keep := fun b o h k => by rw [upd_ne (ne_of_none h n)]; exact E.keep b o h k
  lk := E.lk
  new := E.new
  live := fun b h => by
    by_cases e : b = a
    · subst e; exact n
    · rw [upd_ne e] at h; exact E.live b h
/-- it becomes an object -/
theorem Side.adopt {m0 : M} {L0 : LH} {H0 : Hp} {ds : List D} (s : Side m H a vs) (R : HRel g m L H) (hs : m.n + 1 < LH.big) (E : Ext m0 L0 H0 m L H) (R0 : HRel g m0 L0 H0) (n : H0 a = none) (r : RepL g m H ds vs) :
    Ext m0 L0 H0 (m.more a) (L.new (.lst ds)) H ∧ HRel g (m.more a) (L.new (.lst ds)) H := by
  have hb : L.n < LH.big := by rw [R.nn]; omega
  have gn : ∀ j, (L.new (.lst ds)).get j = if j = L.n then some (.lst ds) else L.get j := fun j => LH.get_new hb
  have q : Lift g m H (m.more a) H := ⟨Nat.le_succ _, fun l hl => M.more_old hl, fun _ _ h => h, fun _ _ _ h => h⟩
  have split : ∀ {l}, l < (m.more a).n → l = m.n ∨ l < m.n := fun {l} z => by
    have : l < m.n + 1 := z
    omega
  refine ⟨⟨Nat.le_trans E.nn (Nat.le_succ _), fun l hl => ?_, E.keep, fun l hl k => ?_, fun l h1 h2 => ?_, E.live⟩, ⟨by rw [LH.n_new, R.nn]; rfl, hs, fun l l' h1 h2 e => ?_, fun l hl => ?_⟩⟩
  · rw [M.more_old (Nat.lt_of_lt_of_le hl E.nn)]; exact E.μ l hl
  · rw [gn, if_neg (by rw [R.nn]; exact Nat.ne_of_lt (Nat.lt_of_lt_of_le hl E.nn))]
    exact E.lk l hl k
  · rcases split h2 with z | z
    · subst z; rw [M.more_new]; exact n
    · rw [M.more_old z]; exact E.new l h1 z
  · rcases split h1 with z1 | z1 <;> rcases split h2 with z2 | z2
    · rw [z1, z2]
    · rw [z1, M.more_new, M.more_old z2] at e; exact absurd e.symm (s.out l' z2)
    · rw [z2, M.more_new, M.more_old z1] at e; exact absurd e (s.out l z1)
    · rw [M.more_old z1, M.more_old z2] at e; exact R.inj l l' z1 z2 e
  · rcases split hl with z | z
    · subst z
      refine ⟨.lst ds, by rw [gn, if_pos R.nn.symm], ?_⟩
      rw [M.more_new]
      exact ⟨vs, s.at_, r.lift q⟩
    · obtain ⟨o, h1, h2⟩ := R.obj l z
      refine ⟨o, by rw [gn, if_neg (by rw [R.nn]; exact Nat.ne_of_lt z)]; exact h1, ?_⟩
      rw [M.more_old z]
      exact h2.lift q rfl rfl
end

/-! ### comprehensions -/
def compL (fg : FG) (ft : FT) (fe : FE) (δ0 : Sl) : List D → LH → List D → Rs (List D)
  | [], L, acc => .ok acc.reverse L
  | d :: ds, L, acc => match fg d δ0 with
    | none => .bad
    | some δ1 => match ft δ1 L with
      | .ok t L1 => match t with
        | true => match fe δ1 L1 with
          | .ok y L2 => compL fg ft fe δ0 ds L2 (y :: acc)
          | _ => .bad
        | false => compL fg ft fe δ0 ds L1 acc
      | _ => .bad
def xLc (fi : FI) (fg : FG) (vs : List Nat) (ft : FT) (fe : FE) : FE := fun δ L => match fi δ L with
  | .ok p L1 => match lim p.1.length with
    | true => match compL fg ft fe (wipeD δ vs) p.1 (lockAll p.2 L1) [] with
      | .ok ys L2 => match (unlockAll p.2 L2).add (.lst ys) with
        | some (d, L3) => .ok d L3
        | none => .bad
      | _ => .bad
    | false => .bad
  | .ex x L1 => .ex x L1
  | .bad => .bad
/-- no exception is foreseen -/
abbrev W0 : WX := fun _ _ _ _ => False
theorem wipe_agree {σ1 σ2 : L2.St} {vs : List Nat} (hl : σ2.length = σ1.length) (h : ∀ j, j ∉ vs → σ2[j]? = σ1[j]?) : L2.wipe σ2 vs = L2.wipe σ1 vs := by
  apply List.ext_getElem?
  intro j
  by_cases hj : j ∈ vs
  · have : ∀ (σ : L2.St) (us : List Nat), j ∈ us → (L2.wipe σ us)[j]? = if j < σ.length then some none else none := by
      intro σ us
      induction us with
      | nil => intro h; cases h
      | cons v us ih =>
        intro h
        unfold L2.wipe
        rw [List.getElem?_set]
        by_cases e : v = j
        · subst e
          rw [if_pos rfl, wipe_length]
        · rw [if_neg e]
          exact ih ((List.mem_cons.mp h).resolve_left (fun q => e q.symm))
    rw [this _ _ hj, this _ _ hj, hl]
  · rw [wipe_out hj, wipe_out hj, h j hj]
theorem wipe_wipe {σ : L2.St} {vs : List Nat} : L2.wipe (L2.wipe σ vs) vs = L2.wipe σ vs := wipe_agree (wipe_length _ _) fun j hj => wipe_out hj
section
variable {g : GE} {W : WX} {m m' : M} {L L' : LH} {H H' : Hp} {fi : FI} {fg : FG} {slots own : List Nat} {ft : FT} {fe : FE}
theorem te_lc {σ : L2.St} {Q : VK} (sub : ∀ j ∈ slots, j ∈ own) (h : TE' g W (xLc fi fg own ft fe) σ H Q) : tLc (TI' g W fi) (TG' g slots fg) (TT' g W0 ft) (TE' g W0 fe) own σ H Q := by
  obtain ⟨m, L, δ, R, S, h⟩ := h
  unfold xLc at h
  refine ⟨m, L, δ, R, S, ?_⟩
  cases e : fi δ L with
  | bad => simp only [e] at h; exact h
  | ex x L1 => simp only [e] at h; exact h
  | ok p L1 =>
    simp only [e] at h
    obtain ⟨xs, ls⟩ := p
    intro m1 H1 J E1 R1 hl it D hD
    dsimp only at h it hl ⊢
    cases hlim : lim xs.length with
    | false => simp only [hlim] at h; exact h.elim
    | true =>
    simp only [hlim] at h
    have S1 := S.ext E1 R
    have R2 := lockAll_ok R1 hl
    generalize hr : compL fg ft fe (wipeD δ own) xs (lockAll ls L1) [] = r at h
    let Pv : Nat → Hp → Prop := fun i H' => ∃ m2 L2 acc vs, Ext m1 (lockAll ls L1) H1 m2 L2 H' ∧ HRel g m2 L2 H' ∧ SRel g m2 H' (wipeD δ own) (_root_.L2.wipe σ own) ∧ Side m2 H' D vs ∧ RepL g m2 H' acc.reverse vs ∧ acc.length ≤ i ∧ compL fg ft fe (wipeD δ own) (xs.drop i) L2 acc = r
    have out1 : ∀ l, l < m1.n → m1.μ l ≠ D := fun l hl q => by
      obtain ⟨o, _, h2⟩ := R1.obj l hl
      rw [q] at h2
      rcases h2.mut with ⟨_, q⟩ | ⟨_, q⟩ | ⟨_, _, _, q⟩ <;> rw [hD] at q <;> cases q
    have El : Ext m1 (lockAll ls L1) H1 m1 (lockAll ls L1) (upd H1 D (.lst [])) := Ext.laid hD
    refine ⟨fun i k H' => k = xs.length - i ∧ i ≤ xs.length ∧ Pv i H', ⟨_, rfl, Nat.zero_le _, m1, lockAll ls L1, [], [], El, R2.laid hD, (S1.wipe own).ext El R2, ⟨upd_same, out1⟩, .nil, Nat.le_refl _, hr⟩, ?_⟩
    rintro i k H' ⟨rfl, hi, m2, L2, acc, vs, E2, R3, S2, sd, ra, hal, hf⟩
    by_cases hlt : i < xs.length
    · have hx : xs[i]? = some xs[i] := by simp [hlt]
      refine .inr ⟨it.go m2 L2 H' i _ E2 R3 hx, Pv (i + 1), fun H'' p => ⟨xs.length - (i + 1), by omega, rfl, hlt, p⟩, fun x H'' y => ?_⟩
      obtain ⟨E3, R4, rx⟩ := it.yld m2 L2 H' i _ x H'' E2 R3 hx y
      rw [drop_at hlt, compL] at hf
      have E4 := E2.trans E3
      -- the list of ours is kept by what follows
      have keepD : ∀ {m3 L3 H3}, Ext m2 L2 H' m3 L3 H3 → Side m3 H3 D vs := fun {m3 L3 H3} E => ⟨E.keep _ _ sd.at_ fun l hl q => absurd q (sd.out l hl), fun l hl q => by
        by_cases z : l < m2.n
        · rw [E.μ l z] at q; exact sd.out l z q
        · have := E.new l (Nat.le_of_not_lt z) hl
          rw [q, sd.at_] at this; cases this⟩
      cases q : fg xs[i] (wipeD δ own) with
      | none => simp only [q] at hf; rw [← hf] at h; exact h.elim
      | some δ3 =>
        simp only [q] at hf
        have S3 := S2.ext E3 R3
        refine ⟨m2, L2, wipeD δ own, xs[i], δ3, R4, S3, rx, q, fun σ3 S4 hlen hout => ⟨?_, m2, L2, δ3, R4, S4, ?_⟩⟩
        · exact (wipe_agree hlen fun j hj => hout j fun z => hj (sub j z)).trans wipe_wipe
        cases z : ft δ3 L2 with
        | bad => simp only [z] at hf; rw [← hf] at h; exact h.elim
        | ex x L4 => simp only [z] at hf; rw [← hf] at h; exact h.elim
        | ok t L4 =>
          simp only [z] at hf
          intro m4 H4 t' E5 R5 et
          have et : t = t' := et
          subst et
          have E6 := E3.trans E5
          cases t with
          | false =>
            rw [if_neg Bool.false_ne_true]
            simp only at hf
            exact ⟨m4, L4, acc, vs, E4.trans E5, R5, S3.ext E5 R4, keepD E6, (ra.ext E3 R3).ext E5 R4, Nat.le_succ_of_le hal, hf⟩
          | true =>
            rw [if_pos rfl]
            simp only at hf
            refine ⟨m4, L4, δ3, R5, S4.ext E5 R4, ?_⟩
            cases w : fe δ3 L4 with
            | bad => simp only [w] at hf; rw [← hf] at h; exact h.elim
            | ex x L5 => simp only [w] at hf; rw [← hf] at h; exact h.elim
            | ok yv L5 =>
              simp only [w] at hf
              intro m5 H5 v E7 R7 rv
              have sd5 := keepD (E6.trans E7)
              have ra5 := ((ra.ext E3 R3).ext E5 R4).ext E7 R5
              have lf : Lift g m5 H5 m5 (upd H5 D (.lst (vs ++ [v]))) := sd5.lift
              have hlen := ra5.length
              have hlm := lim_lt hlim
              refine ⟨vs, sd5.at_, ?_, m5, L5, yv :: acc, vs ++ [v], Side.ext ((E4.trans E5).trans E7) hD, sd5.rel R7, ?_, ⟨upd_same, sd5.out⟩, ?_, Nat.succ_le_succ hal, hf⟩
              · rw [← hlen, List.length_reverse]; omega
              · have S5 := (S3.ext E5 R4).ext E7 R5
                exact ⟨S5.1, fun j d hj => by
                  obtain ⟨u, u1, u2⟩ := S5.2 j d hj
                  exact ⟨u, u1, u2.lift lf⟩⟩
              · rw [List.reverse_cons]
                exact (ra5.lift lf).app (.cons (rv.lift lf) .nil)
    · have e' : i = xs.length := by omega
      subst e'
      rw [List.drop_length, compL] at hf
      refine .inl ⟨it.stop m2 L2 H' E2 R3, ?_⟩
      rw [← hf] at h
      simp only at h
      cases hb : Nat.ble (unlockAll ls L2).n 1000000000 with
      | false => unfold LH.add at h; rw [hb] at h; exact h.elim
      | true =>
        unfold LH.add at h
        rw [hb] at h
        obtain ⟨E6, R6⟩ := unlockAll_ok R1 hl R3 E2
        have hs := R6.room hb
        obtain ⟨E7, R7⟩ := sd.adopt R6 hs E6 R1 hD ra
        refine h (m2.more D) H' (.ref D) (E1.trans E7) R7 ?_
        have zz : Rep g (m2.more D) H' (.loc m2.n) (.ref ((m2.more D).μ m2.n)) := .loc (Nat.lt_succ_self _)
        rw [M.more_new] at zz
        rw [R6.nn]
        exact zz
end
end FC
end

section
namespace FC
open PySem PySem.Spec PyProof.Rows L2

/-! ### sources, by values -/
def strD (x : Str) : List D := x.cps.toList.map fun c => D.str ⟨#[c]⟩
def seqD (L : LH) : D → Option (List D × List Nat)
  | .loc l => match L.lst l with
    | some ds => some (ds, [l])
    | none => none
  | .tup ds => some (ds, [])
  | .rol ds => some (ds, [])
  | .str x => some (strD x, [])
  | _ => none
theorem strD_rep {g : GE} {m : M} {H : Hp} : ∀ cs : List Nat, RepL g m H (cs.map fun c => D.str ⟨#[c]⟩) (cs.map fun c => V.str ⟨#[c]⟩)
  | [] => .nil
  | c :: cs => .cons (.str _) (strD_rep cs)
/-- what a source is, as it begins -/
structure SrcOk (g : GE) (X : Cx) (m : M) (L : LH) (H : Hp) (h : Heap) (ds : List D) (ls : List Nat) (u : Value) (k : Sk) (Hb : Heap → Prop) : Prop where
  val : k.val = u
  rep : RepL g m H ds k.vs
  lk : ∀ l ∈ ls, l < m.n
  beg : Begins u k.obj Hb
  now : Hb h
  stay : ∀ m' L' H' (L0 : LH), (∀ l ∈ ls, Locked L0 l) → Ext m L0 H m' L' H' → k.G X.K H'
theorem lockAll_has {g : GE} {m : M} {H : Hp} : ∀ {ls : List Nat} {L : LH} {j : Nat}, HRel g m L H → (∀ l ∈ ls, l < m.n) → (j ∈ ls ∨ Locked L j) → Locked (lockAll ls L) j
  | [], _, _, _, _, q => by rcases q with q | q; cases q; exact q
  | a :: r, L, j, R, h, q => by
    obtain ⟨R1, o, h1, h2⟩ := lock_ok R (h a List.mem_cons_self)
    refine lockAll_has (ls := r) (L := L.lock a) R1 (fun x hx => h x (List.mem_cons_of_mem _ hx)) ?_
    rcases q with q | ⟨y, hy⟩
    · rcases List.mem_cons.mp q with z | z
      · exact .inr ⟨o, by rw [h2, if_pos z]⟩
      · exact .inl z
    · refine .inr ?_
      by_cases z : j = a
      · exact ⟨o, by rw [h2, if_pos z]⟩
      · exact ⟨y, by rw [h2, if_neg z]; exact hy⟩
section
variable {g : GE} {W : WX} {X : Cx} {pins : List (Addr × Obj)} {σ : L2.St} {H : Hp} {s : Shared} {m : M} {L : LH}
theorem src_of (hK : X.K = g.K) (I : L2.Inv X pins σ H s) (R : HRel g m L H) {d : D} {x : V} {u : Value} {ds : List D} {ls : List Nat} (r : Rep g m H d x) (rv : L2.RelV x u) (e : seqD L d = some (ds, ls)) :
    ∃ (k : Sk) (Hb : Heap → Prop), SrcOk g X m L H s.heap ds ls u k Hb := by
  cases r with
  | loc hl =>
    rename_i l
    cases rv
    unfold seqD at e
    cases q : L.lst l with
    | none => simp only [q] at e; cases e
    | some es =>
      simp only [q] at e
      cases e
      obtain ⟨vs, h1, h2⟩ := R.lst hl q
      obtain ⟨its, rvs, p, hz⟩ := I.list (SqL.of h1)
      refine ⟨.lst (m.μ l) vs, fun h => h.IsList (m.μ l) its.toArray, rfl, h2, fun j hj => ?_, begins_list _ _, p.isList, fun m' L' H' L0 hlk E => SqL.of (E.keep _ _ h1 fun j hj ej => ?_)⟩
      · rw [List.mem_singleton] at hj; rw [hj]; exact hl
      · have : j = l := R.inj j l hj hl ej
        rw [this]; exact hlk l (by simp)
  | tup h1 h2 =>
    cases rv
    cases e
    rename_i a vs
    rw [← hK] at h1
    obtain ⟨its, rvs, p, hz⟩ := I.tuple h1
    exact ⟨.tup a vs, fun h => h.IsTuple a its.toArray, rfl, h2, (fun j hj => by cases hj), begins_tuple _ _, p, fun m' L' H' L0 _ E => by
      rcases h1 with (q | ⟨o, q⟩) | q
      · exact .inl (.inl (E.keep _ _ q fun l hl z => absurd z (R.not_tup q l hl)))
      · exact .inl (.inr ⟨o, E.keep _ _ q fun l hl z => absurd z (R.not_frz q l hl)⟩)
      · exact .inr q⟩
  | rol h1 h2 =>
    cases rv
    cases e
    rename_i a vs
    have q : SqL X.K H a vs := hK ▸ h1.sq
    obtain ⟨its, rvs, p, hz⟩ := I.list q
    exact ⟨.lst a vs, fun h => h.IsList a its.toArray, rfl, h2, (fun j hj => by cases hj), begins_list _ _, p.isList, fun m' L' H' L0 _ E => hK ▸ (show SqR g.K H' a vs from h1.elim (fun ⟨o, z⟩ => .inl ⟨o, E.keep _ _ z fun l hl y => absurd y (R.not_frz z l hl)⟩) .inr).sq⟩
  | str z =>
    obtain ⟨t, rfl⟩ := rv
    cases e
    exact ⟨.str z t, fun _ => True, rfl, strD_rep _, (fun j hj => by cases hj), begins_text _ _, True.intro, fun _ _ _ _ _ _ => True.intro⟩
  | _ => cases e
end
def Sk.J (K : PySem.W.Frag) : Sk → It
  | .lst a _ => Itl K a
  | .tup a _ => Itt K a
  | .str x _ => Its x
theorem Sk.walk {K : PySem.W.Frag} : ∀ k : Sk, Walk (k.J K) k.vs.length (k.G K) (YAt k.vs)
  | .lst a vs => walk_list
  | .tup a vs => walk_tup
  | .str x t => by
    have e : (Sk.str x t).vs.length = x.cps.size := by simp [Sk.vs]
    rw [e]
    exact walk_str.mono (fun _ h => h) fun i H v H' hi _ ⟨h1, c, h2, h3⟩ => ⟨h1, by
      show (x.cps.toList.map fun c => V.str ⟨#[c]⟩)[i]? = _
      rw [List.getElem?_map, Array.getElem?_toList, h2, h3]; rfl⟩
theorem Sk.turn {P : Program} {w : World} {K : PySem.W.Frag} {tg : Expr} (it : Addr) : ∀ k : Sk, Turn P w K tg (k.J K) [it] it (fun i h => k.own it i h)
  | .lst a _ => turn_list a it
  | .tup a _ => turn_tuple a it
  | .str x t => turn_str it x t (strIterType x) (by
    unfold strIterType
    cases x.cps.all fun z => decide (z < 128)
    · exact .inr rfl
    · exact .inl rfl)
section
variable {g : GE} {m0 : M} {L0 : LH} {H0 : Hp} {xs : List D}
theorem itIs_at {J : It} {vs : List V} {G : Hp → Prop} (w : Walk J vs.length G (YAt vs)) (hG : ∀ m L H, Ext m0 L0 H0 m L H → G H) (R0 : HRel g m0 L0 H0) (r : RepL g m0 H0 xs vs) : ItIs g J xs m0 L0 H0 where
  stop := fun m L H E R => by rw [r.length]; exact w.stops H (hG m L H E)
  go := fun m L H i d E R e => w.goes i H (by rw [← r.length]; exact (List.getElem?_eq_some_iff.mp e).1) (hG m L H E)
  yld := fun m L H i d x H' E R e y => by
    obtain ⟨e1, e2⟩ := w.yields i H x H' (by rw [← r.length]; exact (List.getElem?_eq_some_iff.mp e).1) (hG m L H E) y
    subst e1
    obtain ⟨v, h1, h2⟩ := r.get e
    rw [e2] at h1
    cases h1
    exact ⟨.refl, R, h2.ext E R0⟩
theorem itIs_p {n : Nat} {G : Hp → Prop} {F : Nat → Option (List V)} (hG : ∀ m L H, Ext m0 L0 H0 m L H → G H) (R0 : HRel g m0 L0 H0) (hn : n = xs.length) (hF : ∀ i d, xs[i]? = some d → ∃ es ys, d = .tup es ∧ F i = some ys ∧ RepL g m0 H0 es ys) : ItIs g (Jp n G F) xs m0 L0 H0 where
  stop := fun m L H E R => ⟨hn.symm, hG m L H E⟩
  go := fun m L H i d E R e => ⟨by rw [hn]; exact (List.getElem?_eq_some_iff.mp e).1, hG m L H E⟩
  yld := fun m L H i d x H' E R e y => by
    obtain ⟨es, ys, rfl, h1, h2⟩ := hF i d e
    obtain ⟨T, zs, rfl, hT, rfl, h3⟩ := y
    rw [h1] at h3
    cases h3
    exact ⟨Ext.laid hT, R.laid hT, .tup (SqT.of upd_same) ((h2.ext E R0).ext (Ext.laid hT) R)⟩
end
/-! ### enumerate, zip, by values -/
def enumL : Nat → List D → List D
  | _, [] => []
  | i, d :: ds => .tup [.int (Int.ofNat i), d] :: enumL (i + 1) ds
def zipL2 : List D → List D → List D
  | a :: as, b :: bs => .tup [a, b] :: zipL2 as bs
  | _, _ => []
def zipL3 : List D → List D → List D → List D
  | a :: as, b :: bs, c :: cs => .tup [a, b, c] :: zipL3 as bs cs
  | _, _, _ => []
section
variable {g : GE} {m : M} {H : Hp}
theorem enumL_len : ∀ (i : Nat) (ds : List D), (enumL i ds).length = ds.length
  | _, [] => rfl
  | i, d :: ds => by rw [enumL, List.length_cons, List.length_cons, enumL_len (i + 1) ds]
theorem enumL_at : ∀ {ds : List D} {vs : List V} (k i : Nat) {d : D}, RepL g m H ds vs → (enumL k ds)[i]? = some d → ∃ es x, d = .tup es ∧ vs[i]? = some x ∧ RepL g m H es [.int ((k + i : Nat) : Int), x]
  | _, _, _, _, _, .nil, e => by simp [enumL] at e
  | _, _, k, 0, _, .cons (d := a) (v := v) h _, e => by
    simp [enumL] at e
    subst e
    exact ⟨_, v, rfl, rfl, .cons (.int _) (.cons h .nil)⟩
  | _, _, k, i + 1, d, .cons _ r, e => by
    obtain ⟨es, x, h1, h2, h3⟩ := enumL_at (k + 1) i (d := d) r (by simpa [enumL] using e)
    refine ⟨es, x, h1, by simpa using h2, ?_⟩
    rw [show k + (i + 1) = k + 1 + i by omega]; exact h3
theorem zipL2_len : ∀ (as bs : List D), (zipL2 as bs).length = min as.length bs.length
  | [], _ => by simp [zipL2]
  | _ :: _, [] => by simp [zipL2]
  | a :: as, b :: bs => by rw [zipL2, List.length_cons, zipL2_len as bs]; simp only [List.length_cons]; omega
theorem zipL2_at : ∀ {as bs : List D} {vs us : List V} (i : Nat) {d : D}, RepL g m H as vs → RepL g m H bs us → (zipL2 as bs)[i]? = some d → ∃ es ys, d = .tup es ∧ zipF2 vs us i = some ys ∧ RepL g m H es ys
  | _, _, _, _, _, _, .nil, _, e => by simp [zipL2] at e
  | _, _, _, _, _, _, .cons _ _, .nil, e => by simp [zipL2] at e
  | _, _, _, _, 0, _, .cons h _, .cons h' _, e => by
    simp [zipL2] at e
    subst e
    exact ⟨_, _, rfl, rfl, .cons h (.cons h' .nil)⟩
  | _, _, _, _, i + 1, d, .cons _ r, .cons _ r', e => by
    obtain ⟨es, ys, h1, h2, h3⟩ := zipL2_at i (d := d) r r' (by simpa [zipL2] using e)
    exact ⟨es, ys, h1, by simpa [zipF2] using h2, h3⟩
theorem zipL3_len : ∀ (as bs cs : List D), (zipL3 as bs cs).length = min (min as.length bs.length) cs.length
  | [], _, _ => by simp [zipL3]
  | _ :: _, [], _ => by simp [zipL3]
  | _ :: _, _ :: _, [] => by simp [zipL3]
  | a :: as, b :: bs, c :: cs => by rw [zipL3, List.length_cons, zipL3_len as bs cs]; simp only [List.length_cons]; omega
theorem zipL3_at : ∀ {as bs cs : List D} {vs us ws : List V} (i : Nat) {d : D}, RepL g m H as vs → RepL g m H bs us → RepL g m H cs ws → (zipL3 as bs cs)[i]? = some d → ∃ es ys, d = .tup es ∧ zipF3 vs us ws i = some ys ∧ RepL g m H es ys
  | _, _, _, _, _, _, _, _, .nil, _, _, e => by simp [zipL3] at e
  | _, _, _, _, _, _, _, _, .cons _ _, .nil, _, e => by simp [zipL3] at e
  | _, _, _, _, _, _, _, _, .cons _ _, .cons _ _, .nil, e => by simp [zipL3] at e
  | _, _, _, _, _, _, 0, _, .cons h _, .cons h' _, .cons h'' _, e => by
    simp [zipL3] at e
    subst e
    exact ⟨_, _, rfl, rfl, .cons h (.cons h' (.cons h'' .nil))⟩
  | _, _, _, _, _, _, i + 1, d, .cons _ r, .cons _ r', .cons _ r'', e => by
    obtain ⟨es, ys, h1, h2, h3⟩ := zipL3_at i (d := d) r r' r'' (by simpa [zipL3] using e)
    exact ⟨es, ys, h1, by simpa [zipF3] using h2, h3⟩
end
/-! ### enumerate(v) begins -/
set_option maxHeartbeats 1000000 in
theorem fresh_enum {src : Value} {rec0 : Obj} {Hb : Heap → Prop} (B : Begins src rec0 Hb) :
    Meets (Builtin.«enumerate.__new__» ⟨[.type "enumerate", src], []⟩) (fun _ Rk st => Hb st.heap ∧
      Rk (.ok (.ret (.ref (st.heap.push rec0).objs.size))) { st with heap := (st.heap.push rec0).push { cls := .type "enumerate", data := .fields #[.none, .bool false, .ref st.heap.objs.size, rawInt 0, .none, .none] } }) :=
  .of_wp fun pr ww Ar Rk st hst => by
    obtain ⟨hp0, gs0, dr0, tk0, os0⟩ := st
    obtain ⟨hb0, hst⟩ := hst
    have subE := sub_enumerate
    have stepI : ∀ {Ar' : Around} {Ex : Value → Shared → Prop} {Qx : Value → Shared → Prop}, Qx (.ref hp0.objs.size) ⟨hp0.push rec0, gs0, dr0, tk0, os0⟩ → wpAny (model pr ww) Ar' (pyIter src) Qx Ex ⟨hp0, gs0, dr0, tk0, os0⟩ :=
      fun qx => B.iter pr ww _ _ ⟨hp0, gs0, dr0, tk0, os0⟩ _ hb0 qx
    wp_walk using stepI
    refine wpAny_stack_any fun stk => wpAny_pure ?_
    split
    · rename_i cc _ _ _ _ _
      cases (cc == Value.type "enumerate")
      · wp_walk using stepI
        exact ⟨_, rfl, hst⟩
      · wp_walk using stepI
        exact ⟨_, rfl, hst⟩
    · wp_walk using stepI
      exact ⟨_, rfl, hst⟩
theorem call_enumB {prog : Program} {w : World} {A : Around} {E : Value → Shared → Prop} {s : Shared} {src : Value} {rec0 : Obj} {Hb : Heap → Prop} {Q : Value → Shared → Prop} (B : Begins src rec0 Hb) (hb : Hb s.heap)
    (fin : ∀ hh, IsEnum hh (s.heap.objs.size + 1) s.heap.objs.size 0 .none → hh.get? s.heap.objs.size = some rec0 → (∀ b o, s.heap.get? b = some o → hh.get? b = some o) → Q (.ref (s.heap.objs.size + 1)) { s with heap := hh }) :
    wpAny (model prog w) A (call (.type "enumerate") [src]) Q E s := by
  refine callType_new F.called_enumerate (by decide) (F.typeCall_enumerate_1 _) (F.newCall_enumerate_1 _) (fun ob => F.args_object_init_2 ob _) F.entry_enumerate_new (fresh_enum B) ⟨hb, ?_⟩
  have sz : (s.heap.push rec0).objs.size = s.heap.objs.size + 1 := Heap.size_push ..
  have top := Heap.get?_push_size (s.heap.push rec0) (o := { cls := .type "enumerate", data := .fields #[.none, .bool false, .ref s.heap.objs.size, rawInt 0, .none, .none] }) rfl
  show _ ∧ _
  rw [sz] at top ⊢
  exact ⟨⟨_, top, rfl⟩, fin _ top (Heap.get?_push_of_some _ (Heap.get?_push_size _ B.free)) fun b o x => Heap.get?_push_of_some _ (Heap.get?_push_of_some _ x)⟩
end FC
end

section
namespace FC
open PySem PySem.Spec PyProof.Rows L2

/-- what a context of ours keeps through a def -/
structure Cz (g : GE) (W : WX) (X : Cx) : Prop where
  P : X.prog = g.P
  w : X.w = g.w
  K : X.K = g.K
  nd : X.N.Nodup
  calm : X.calm = true
  hu : X.A.units + 100 < cLine
  tk : Takes X W
  po : PassesOwn (model X.prog X.w) X.A X.env X.xe

def TIP (g : GE) (W : WX) (σ : L2.St) (r : Rs (List D × List Nat)) (m : M) (L : LH) (H : Hp) (R : It → Hp → Prop) : Prop := match r with
  | .ok p L' => ∀ m' H' J, Ext m L H m' L' H' → HRel g m' L' H' → (∀ l ∈ p.2, l < m'.n) → ItIs g J p.1 m' (lockAll p.2 L') H' → R J H'
  | .ex x L' => ∀ m' H' cv dd, Ext m L H m' L' H' → HRel g m' L' H' → XRep g m' H' x cv dd → W cv dd σ H'
  | .bad => False
section
variable {g : GE} {W : WX} {σ : L2.St} {m m' : M} {L L' : LH} {H H' : Hp} {δ : Sl} {α γ ε : Type} {Rl : M → Hp → γ → ε → Prop} {Q : ε → Hp → Prop} {R : It → Hp → Prop}
theorem ti_of {f : FI} (h : ∃ m L δ, HRel g m L H ∧ SRel g m H δ σ ∧ TIP g W σ (f δ L) m L H R) : TI' g W f σ H R := h
theorem ti_to {f : FI} (h : TI' g W f σ H R) : ∃ m L δ, HRel g m L H ∧ SRel g m H δ σ ∧ TIP g W σ (f δ L) m L H R := h
theorem TIP.shift {r : Rs (List D × List Nat)} (e : Ext m L H m' L' H') (h : TIP g W σ r m L H R) : TIP g W σ r m' L' H' R := by
  cases r with
  | ok p L2 => exact fun m2 H2 J e2 => h m2 H2 J (e.trans e2)
  | ex x L2 => exact fun m2 H2 cv dd e2 => h m2 H2 cv dd (e.trans e2)
  | bad => exact h
theorem tip_tmp {β : Type} {Rl : M → Hp → α → β → Prop} {r : Rs α} {k : α → LH → Rs (List D × List Nat)} (h : TIP g W σ (r.bind k) m L H R) :
    TMP g W σ Rl r m L H (fun v H' => ∃ m' L' d, Ext m L H m' L' H' ∧ HRel g m' L' H' ∧ Rl m' H' d v ∧ TIP g W σ (k d L') m' L' H' R) := by
  cases r with
  | ok a L2 => exact fun m2 H2 v e2 r2 q => ⟨m2, L2, a, e2, r2, q, TIP.shift e2 h⟩
  | ex x L2 => exact h
  | bad => exact h
theorem te_bind {fe : FE} {k : D → LH → Rs γ} (R : HRel g m L H) (S : SRel g m H δ σ) (h : TMP g W σ Rl ((fe δ L).bind k) m L H Q) :
    TE' g W fe σ H (fun v H' => ∃ m' L' d, Ext m L H m' L' H' ∧ HRel g m' L' H' ∧ SRel g m' H' δ σ ∧ Rep g m' H' d v ∧ TMP g W σ Rl (k d L') m' L' H' Q) :=
  ⟨m, L, δ, R, S, TMP.mono (TMP.bind h) fun _ _ ⟨m', L', a, E, R', r, h'⟩ => ⟨m', L', a, E, R', S.ext E R, r, h'⟩⟩
theorem tt_bind {ft : FT} {k : Bool → LH → Rs γ} (R : HRel g m L H) (S : SRel g m H δ σ) (h : TMP g W σ Rl ((ft δ L).bind k) m L H Q) :
    TT' g W ft σ H (fun b H' => ∃ m' L', Ext m L H m' L' H' ∧ HRel g m' L' H' ∧ SRel g m' H' δ σ ∧ TMP g W σ Rl (k b L') m' L' H' Q) :=
  ⟨m, L, δ, R, S, TMP.mono (TMP.bind h) fun _ _ ⟨m', L', a, E, R', r, h'⟩ => ⟨m', L', E, R', S.ext E R, by cases (show a = _ from r); exact h'⟩⟩
theorem ta_bind {fl : FL} {k : List D → LH → Rs γ} (R : HRel g m L H) (S : SRel g m H δ σ) (h : TMP g W σ Rl ((fl δ L).bind k) m L H Q) :
    TA' g W fl σ H (fun vs H' => ∃ m' L' ds, Ext m L H m' L' H' ∧ HRel g m' L' H' ∧ SRel g m' H' δ σ ∧ RepL g m' H' ds vs ∧ TMP g W σ Rl (k ds L') m' L' H' Q) :=
  ⟨m, L, δ, R, S, TMP.mono (TMP.bind h) fun _ _ ⟨m', L', a, E, R', r, h'⟩ => ⟨m', L', a, E, R', S.ext E R, r, h'⟩⟩
theorem te_tip {fe : FE} {k : D → LH → Rs (List D × List Nat)} (Rr : HRel g m L H) (S : SRel g m H δ σ) (h : TIP g W σ ((fe δ L).bind k) m L H R) :
    TE' g W fe σ H (fun v H' => ∃ m' L' d, Ext m L H m' L' H' ∧ HRel g m' L' H' ∧ SRel g m' H' δ σ ∧ Rep g m' H' d v ∧ TIP g W σ (k d L') m' L' H' R) :=
  ⟨m, L, δ, Rr, S, TMP.mono (tip_tmp h) fun _ _ ⟨m', L', a, E, R', r, h'⟩ => ⟨m', L', a, E, R', S.ext E Rr, r, h'⟩⟩
theorem ta_tip {fl : FL} {k : List D → LH → Rs (List D × List Nat)} (Rr : HRel g m L H) (S : SRel g m H δ σ) (h : TIP g W σ ((fl δ L).bind k) m L H R) :
    TA' g W fl σ H (fun vs H' => ∃ m' L' ds, Ext m L H m' L' H' ∧ HRel g m' L' H' ∧ SRel g m' H' δ σ ∧ RepL g m' H' ds vs ∧ TIP g W σ (k ds L') m' L' H' R) :=
  ⟨m, L, δ, Rr, S, TMP.mono (tip_tmp h) fun _ _ ⟨m', L', a, E, R', r, h'⟩ => ⟨m', L', a, E, R', S.ext E Rr, r, h'⟩⟩
/-- a value, at once -/
theorem TMP.here {a : D} {Q : VK} (h : TMP g W σ (Rep g) (.ok a L) m L H Q) (R : HRel g m L H) {v : V} (r : Rep g m H a v) : Q v H := h m H v .refl R r
/-- an operation's outcome -/
def ofO (o : Option (D × LH)) : Rs D := match o with
  | some p => .ok p.1 p.2
  | none => .bad
theorem ofO_ok {o : Option (D × LH)} {Q : VK} (h : TMP g W σ (Rep g) (ofO o) m L H Q) : ∃ d' L', o = some (d', L') ∧ ∀ m' H' v, Ext m L H m' L' H' → HRel g m' L' H' → Rep g m' H' d' v → Q v H' := by
  cases o with
  | none => exact h.elim
  | some p => exact ⟨p.1, p.2, rfl, h⟩
end

/-! ### iterables: their code -/
def xSeq (fe : FE) : FI := fun δ L => (fe δ L).bind fun d L1 => match seqD L1 d with
  | some p => .ok p L1
  | none => .bad
def xEnum (fa : FL) : FI := fun δ L => (fa δ L).bind fun ds L1 => match ds with
  | [d] => match seqD L1 d with
    | some p => .ok (enumL 0 p.1, p.2) L1
    | none => .bad
  | _ => .bad
def xZip2 (fa : FL) : FI := fun δ L => (fa δ L).bind fun ds L1 => match ds with
  | [a, b] => match seqD L1 a with
    | some p => match seqD L1 b with
      | some q => .ok (zipL2 p.1 q.1, p.2 ++ q.2) L1
      | none => .bad
    | none => .bad
  | _ => .bad
def xZip3 (fa : FL) : FI := fun δ L => (fa δ L).bind fun ds L1 => match ds with
  | [a, b, c] => match seqD L1 a with
    | some p => match seqD L1 b with
      | some q => match seqD L1 c with
        | some r => .ok (zipL3 p.1 q.1 r.1, p.2 ++ (q.2 ++ r.2)) L1
        | none => .bad
      | none => .bad
    | none => .bad
  | _ => .bad
def upL : Nat → Int → Int → List D
  | 0, _, _ => []
  | n + 1, a, c => .int a :: upL n (a + c) c
def okI (i : Int) : Bool := ltI (-4611686018427387904) i && ltI i 4611686018427387904
def xRng1 (fa : FL) : FI := fun δ L => (fa δ L).bind fun ds L1 => match ds with
  | [.int j] => match okI j with
    | true => .ok (upL j.toNat 0 1, []) L1
    | false => .bad
  | _ => .bad
def xRng2 (fa : FL) : FI := fun δ L => (fa δ L).bind fun ds L1 => match ds with
  | [.int i, .int j] => match okI i && okI j with
    | true => .ok (upL (j - i).toNat i 1, []) L1
    | false => .bad
  | _ => .bad
/-- by steps of -1 -/
def xRng3 (fa : FL) : FI := fun δ L => (fa δ L).bind fun ds L1 => match ds with
  | [.int i, .int j, .int c] => match okI i && okI j && (c == -1) with
    | true => .ok (upL (i - j).toNat i (-1), []) L1
    | false => .bad
  | _ => .bad
theorem okI_ok {i : Int} (h : okI i = true) : -(2 ^ 62) ≤ i ∧ i < 2 ^ 62 := by
  unfold okI at h
  rw [Bool.and_eq_true, ltI_eq, ltI_eq] at h
  have h1 := of_decide_eq_true h.1
  have h2 := of_decide_eq_true h.2
  omega
theorem upL_len : ∀ (n : Nat) (a c : Int), (upL n a c).length = n
  | 0, _, _ => rfl
  | n + 1, a, c => by rw [upL, List.length_cons, upL_len n]
theorem upL_at : ∀ (n : Nat) (a c : Int) (i : Nat), i < n → (upL n a c)[i]? = some (.int (a + (i : Nat) * c))
  | 0, _, _, _, h => absurd h (Nat.not_lt_zero _)
  | n + 1, a, c, 0, _ => by simp [upL]
  | n + 1, a, c, i + 1, h => by
    rw [upL, List.getElem?_cons_succ, upL_at n (a + c) c i (by omega)]
    have : a + c + (i : Nat) * c = a + ((i + 1 : Nat) : Int) * c := by
      rw [Int.natCast_add, Int.add_mul]; simp only [Int.cast_ofNat_Int, Int.one_mul]; omega
    rw [this]
section
variable {g : GE} {W : WX} {X : Cx} {e a b c tg : Expr} {fe : FE} {fa : FL} {elts : List Expr} {kk : Nat} {p pos tpos : Pos}
theorem pi_seq (z : Cz g W X) (he : PE X e (TE' g W fe)) : PI X tg e (TI' g W (xSeq fe)) := by
  refine ⟨fun pins s σ H R I h => ?_⟩
  obtain ⟨m, L, δ, Rr, S, h⟩ := ti_to h
  refine thn (he.run pins s σ H _ I (te_tip Rr S h)) fun u s1 ⟨x, H1, I1, r1, m1, L1, d, E1, R1, S1, rd, h1⟩ => ?_
  cases q : seqD L1 d with
  | none => simp only [q] at h1; exact h1.elim
  | some w =>
    simp only [q] at h1
    obtain ⟨ds, ls⟩ := w
    obtain ⟨k, Hb, sk⟩ := src_of z.K I1 R1 rd r1 q
    rw [← sk.val]
    have bg := sk.beg
    rw [← sk.val] at bg
    refine bg.iter X.prog X.w X.A X.xe s1 _ sk.now ?_
    have I2 : L2.Inv X pins σ H1 { s1 with heap := s1.heap.push k.obj } := I1.kept (t' := s1.toks) fun b o e => Heap.get?_push_of_some _ e
    refine ⟨s1.heap.objs.size, [s1.heap.objs.size], _, k.J X.K, H1, rfl, I2, Sk.turn _ k, Sk.own_new (Heap.get?_push_size _ bg.free), fun b hb => ?_, h1 m1 H1 _ .refl R1 sk.lk (itIs_at k.walk (fun m' L' H' E => sk.stay m' L' H' _ (fun l hl => lockAll_has R1 sk.lk (.inl hl)) E) (lockAll_ok R1 sk.lk) sk.rep)⟩
    rw [List.mem_singleton.mp hb]
    exact I1.fpOk (Nat.le_refl _) (I1.hok.fresh (Nat.le_refl _))
theorem pi_enumD (z : Cz g W X) (hg : Gl X "enumerate") (hm : X.mg "enumerate" = none) (ha : PA X [e] (TA' g W fa)) (hs : starEach [e] X.env = [(false, eval e X.env)]) :
    PI X (.Tuple elts kk tpos) (.Call (.Name "enumerate" p) [e] [] pos) (TI' g W (xEnum fa)) := by
  refine ⟨fun pins s σ H R I h => ?_⟩
  obtain ⟨m, L, δ, Rr, S, h⟩ := ti_to h
  refine Call_ (ld_blt I hg hm boot_enumerate (PyProof.Rows.callWith_type1 (thn (ha.run pos pins s σ H _ I (ta_tip Rr S h)) fun us s1 ⟨vs, H1, I1, r1, m1, L1, ds, E1, R1, S1, rd, h1⟩ => ?_) hs rfl))
  cases rd with
  | nil => exact h1.elim
  | cons rd rr =>
    cases rr with
    | cons _ _ => exact h1.elim
    | nil =>
      rename_i d x
      obtain ⟨u, rfl, rx⟩ := vals1 r1
      cases q : seqD L1 d with
      | none => simp only [q] at h1; exact h1.elim
      | some w =>
        simp only [q] at h1
        obtain ⟨es, ls⟩ := w
        obtain ⟨k, Hb, sk⟩ := src_of z.K I1 R1 rd rx q
        refine call_enumB sk.beg sk.now fun hh he hit hk => wpAny_pyIter_enum he ?_
        have I2 : L2.Inv X pins σ H1 { s1 with heap := hh } := I1.kept (t' := s1.toks) hk
        have ne : s1.heap.objs.size + 1 ≠ s1.heap.objs.size := Nat.succ_ne_self _
        refine ⟨s1.heap.objs.size + 1, [s1.heap.objs.size + 1, s1.heap.objs.size], _, _, H1, rfl, I2, turn_enumK k ne, ⟨⟨.none, he⟩, Sk.own_new hit⟩, fun b hb => ?_,
          h1 m1 H1 _ .refl R1 sk.lk (itIs_p (fun m' L' H' E => sk.stay m' L' H' _ (fun l hl => lockAll_has R1 sk.lk (.inl hl)) E) (lockAll_ok R1 sk.lk) ?_ fun i d hd => ?_)⟩
        · have hle : s1.heap.objs.size ≤ b := by
            have e' : b = s1.heap.objs.size + 1 ∨ b = s1.heap.objs.size := by simpa using hb
            rcases e' with y | y
            · rw [y]; exact Nat.le_succ _
            · rw [y]; exact Nat.le_refl _
          exact I1.fpOk hle (I1.hok.fresh hle)
        · show _ = (enumL 0 es).length
          rw [enumL_len]; exact sk.rep.length.symm
        · obtain ⟨fs, y, h1, h2, h3⟩ := enumL_at 0 i sk.rep hd
          rw [Nat.zero_add] at h3
          exact ⟨fs, _, h1, by unfold enumF; rw [h2]; rfl, h3⟩
theorem pi_zip2D (z : Cz g W X) (hg : Gl X "zip") (hm : X.mg "zip" = none) (ha : PA X [a, b] (TA' g W fa)) (hs : starEach [a, b] X.env = (false, eval a X.env) :: starEach [b] X.env) (hpl : (backTo pos (starEach [b] X.env)).any (·.1) = false) :
    PI X (.Tuple elts kk tpos) (.Call (.Name "zip" p) [a, b] [] pos) (TI' g W (xZip2 fa)) := by
  refine ⟨fun pins s σ H R I h => ?_⟩
  obtain ⟨m, L, δ, Rr, S, h⟩ := ti_to h
  refine Call_ (ld_blt I hg hm PyProof.Rows.boot_zip (PyProof.Rows.callWith_type1 (thn (ha.run pos pins s σ H _ I (ta_tip Rr S h)) fun us s1 ⟨vs, H1, I1, r1, m1, L1, ds, E1, R1, S1, rd, h1⟩ => ?_) hs hpl))
  cases rd with
  | nil => exact h1.elim
  | cons rd1 rr =>
  cases rr with
  | nil => exact h1.elim
  | cons rd2 rr =>
  cases rr with
  | cons _ _ => exact h1.elim
  | nil =>
    rename_i d1 x1 d2 x2
    obtain ⟨u1, u2, rfl, rx1, rx2⟩ := vals2 r1
    cases q1 : seqD L1 d1 with
    | none => simp only [q1] at h1; exact h1.elim
    | some w1 =>
    cases q2 : seqD L1 d2 with
    | none => simp only [q1, q2] at h1; exact h1.elim
    | some w2 =>
      simp only [q1, q2] at h1
      obtain ⟨es1, ls1⟩ := w1
      obtain ⟨es2, ls2⟩ := w2
      obtain ⟨k1, Hb1, sk1⟩ := src_of z.K I1 R1 rd1 rx1 q1
      obtain ⟨k2, Hb2, sk2⟩ := src_of z.K I1 R1 rd2 rx2 q2
      have lk : ∀ l ∈ ls1 ++ ls2, l < m1.n := fun l hl => (List.mem_append.mp hl).elim (sk1.lk l) (sk2.lk l)
      refine zip_begins2 sk1.beg sk2.beg sk1.now sk2.now fun hh hz hTI hTO hi1 hi2 hsz hk => wpAny_pyIter_zip hz ?_
      have I2 : L2.Inv X pins σ H1 { s1 with heap := hh } := I1.kept (t' := s1.toks) hk
      have nd : [s1.heap.objs.size + 4, s1.heap.objs.size + 2, s1.heap.objs.size + 3, s1.heap.objs.size, s1.heap.objs.size + 1].Nodup := by simp
      refine ⟨s1.heap.objs.size + 4, [s1.heap.objs.size + 4, s1.heap.objs.size + 2, s1.heap.objs.size + 3, s1.heap.objs.size, s1.heap.objs.size + 1], _, _, H1, rfl, I2, turn_zip2K k1 k2 nd, ⟨hz, hTI, ⟨_, _, hTO⟩, Sk.own_new hi1, Sk.own_new hi2⟩, fun b hb => ?_,
        h1 m1 H1 _ .refl R1 lk (itIs_p (fun m' L' H' E => ⟨sk1.stay m' L' H' _ (fun l hl => lockAll_has R1 lk (.inl (List.mem_append_left _ hl))) E, sk2.stay m' L' H' _ (fun l hl => lockAll_has R1 lk (.inl (List.mem_append_right _ hl))) E⟩) (lockAll_ok R1 lk) ?_ fun i d hd => ?_)⟩
      · have hle : s1.heap.objs.size ≤ b := by
          simp only [List.mem_cons, List.not_mem_nil, or_false] at hb
          rcases hb with y | y | y | y | y <;> rw [y] <;> omega
        exact I1.fpOk hle (I1.hok.fresh hle)
      · show _ = (zipL2 es1 es2).length
        rw [zipL2_len, ← sk1.rep.length, ← sk2.rep.length]
      · exact zipL2_at i sk1.rep sk2.rep hd
theorem vals3 {x y w : V} {us : List Value} (r : L2.Vals [x, y, w] us) : ∃ u1 u2 u3, us = [u1, u2, u3] ∧ L2.RelV x u1 ∧ L2.RelV y u2 ∧ L2.RelV w u3 := by
  cases r with
  | cons a r => obtain ⟨u2, u3, rfl, b, c⟩ := vals2 r; exact ⟨_, _, _, rfl, a, b, c⟩
theorem pi_zip3D (z : Cz g W X) (hg : Gl X "zip") (hm : X.mg "zip" = none) (ha : PA X [a, b, c] (TA' g W fa)) (hs : starEach [a, b, c] X.env = (false, eval a X.env) :: starEach [b, c] X.env) (hpl : (backTo pos (starEach [b, c] X.env)).any (·.1) = false) :
    PI X (.Tuple elts kk tpos) (.Call (.Name "zip" p) [a, b, c] [] pos) (TI' g W (xZip3 fa)) := by
  refine ⟨fun pins s σ H R I h => ?_⟩
  obtain ⟨m, L, δ, Rr, S, h⟩ := ti_to h
  refine Call_ (ld_blt I hg hm PyProof.Rows.boot_zip (PyProof.Rows.callWith_type1 (thn (ha.run pos pins s σ H _ I (ta_tip Rr S h)) fun us s1 ⟨vs, H1, I1, r1, m1, L1, ds, E1, R1, S1, rd, h1⟩ => ?_) hs hpl))
  cases rd with
  | nil => exact h1.elim
  | cons rd1 rr =>
  cases rr with
  | nil => exact h1.elim
  | cons rd2 rr =>
  cases rr with
  | nil => exact h1.elim
  | cons rd3 rr =>
  cases rr with
  | cons _ _ => exact h1.elim
  | nil =>
    rename_i d1 x1 d2 x2 d3 x3
    obtain ⟨u1, u2, u3, rfl, rx1, rx2, rx3⟩ := vals3 r1
    cases q1 : seqD L1 d1 with
    | none => simp only [q1] at h1; exact h1.elim
    | some w1 =>
    cases q2 : seqD L1 d2 with
    | none => simp only [q1, q2] at h1; exact h1.elim
    | some w2 =>
    cases q3 : seqD L1 d3 with
    | none => simp only [q1, q2, q3] at h1; exact h1.elim
    | some w3 =>
      simp only [q1, q2, q3] at h1
      obtain ⟨es1, ls1⟩ := w1
      obtain ⟨es2, ls2⟩ := w2
      obtain ⟨es3, ls3⟩ := w3
      obtain ⟨k1, Hb1, sk1⟩ := src_of z.K I1 R1 rd1 rx1 q1
      obtain ⟨k2, Hb2, sk2⟩ := src_of z.K I1 R1 rd2 rx2 q2
      obtain ⟨k3, Hb3, sk3⟩ := src_of z.K I1 R1 rd3 rx3 q3
      have lk : ∀ l ∈ ls1 ++ (ls2 ++ ls3), l < m1.n := fun l hl => (List.mem_append.mp hl).elim (sk1.lk l) fun hl => (List.mem_append.mp hl).elim (sk2.lk l) (sk3.lk l)
      refine zip_begins3 sk1.beg sk2.beg sk3.beg sk1.now sk2.now sk3.now fun hh hz hTI hTO hi1 hi2 hi3 hsz hk => wpAny_pyIter_zip hz ?_
      have I2 : L2.Inv X pins σ H1 { s1 with heap := hh } := I1.kept (t' := s1.toks) hk
      have nd : [s1.heap.objs.size + 5, s1.heap.objs.size + 3, s1.heap.objs.size + 4, s1.heap.objs.size, s1.heap.objs.size + 1, s1.heap.objs.size + 2].Nodup := by simp
      refine ⟨s1.heap.objs.size + 5, [s1.heap.objs.size + 5, s1.heap.objs.size + 3, s1.heap.objs.size + 4, s1.heap.objs.size, s1.heap.objs.size + 1, s1.heap.objs.size + 2], _, _, H1, rfl, I2, turn_zip3K k1 k2 k3 nd, ⟨hz, hTI, ⟨_, _, _, hTO⟩, Sk.own_new hi1, Sk.own_new hi2, Sk.own_new hi3⟩, fun b hb => ?_,
        h1 m1 H1 _ .refl R1 lk (itIs_p (fun m' L' H' E => ⟨sk1.stay m' L' H' _ (fun l hl => lockAll_has R1 lk (.inl (List.mem_append_left _ hl))) E, sk2.stay m' L' H' _ (fun l hl => lockAll_has R1 lk (.inl (List.mem_append_right _ (List.mem_append_left _ hl)))) E, sk3.stay m' L' H' _ (fun l hl => lockAll_has R1 lk (.inl (List.mem_append_right _ (List.mem_append_right _ hl)))) E⟩) (lockAll_ok R1 lk) ?_ fun i d hd => ?_)⟩
      · have hle : s1.heap.objs.size ≤ b := by
          simp only [List.mem_cons, List.not_mem_nil, or_false] at hb
          rcases hb with y | y | y | y | y | y <;> rw [y] <;> omega
        exact I1.fpOk hle (I1.hok.fresh hle)
      · show _ = (zipL3 es1 es2 es3).length
        rw [zipL3_len, ← sk1.rep.length, ← sk2.rep.length, ← sk3.rep.length]
      · exact zipL3_at i sk1.rep sk2.rep sk3.rep hd
/-! range -/
theorem upL_rep {m : M} {H : Hp} : ∀ (n : Nat) (i c : Int), RepL g m H (upL n i c) ((List.range n).map fun k => V.int (i + (k : Nat) * c)) := by
  intro n i c
  have go : ∀ (n : Nat) (i : Int) (f : Nat → V), (∀ k, f k = V.int (i + (k : Nat) * c)) → RepL g m H (upL n i c) ((List.range n).map f) := by
    intro n
    induction n with
    | zero => intro i f _; exact .nil
    | succ n ih =>
      intro i f hf
      rw [upL, List.range_succ_eq_map, List.map_cons, List.map_map]
      refine .cons ?_ (ih (i + c) _ fun k => ?_)
      · rw [hf 0]
        have : i + ((0 : Nat) : Int) * c = i := by simp
        rw [this]; exact .int i
      · show f (k + 1) = _
        rw [hf (k + 1)]
        have : i + ((k + 1 : Nat) : Int) * c = i + c + (k : Nat) * c := by
          rw [Int.natCast_add, Int.add_mul]; simp only [Int.cast_ofNat_Int, Int.one_mul]; omega
        rw [this]
  exact go n i _ fun _ => rfl
theorem rng_it {m : M} {L : LH} {H : Hp} (R : HRel g m L H) (n : Nat) (i : Int) : ItIs g (Itr i n) (upL n i 1) m L H := by
  have r := upL_rep (g := g) (m := m) (H := H) n i 1
  have hl : ((List.range n).map fun k => V.int (i + (k : Nat) * 1)).length = n := by simp
  refine itIs_at (G := fun _ => True) ?_ (fun _ _ _ _ => True.intro) R r
  rw [hl]
  exact walk_range.mono (fun _ h => h) fun k H v H' hk _ ⟨h1, h2⟩ => ⟨h1, by rw [List.getElem?_map, List.getElem?_range hk, h2]; simp⟩
theorem rng_itC {m : M} {L : LH} {H : Hp} (R : HRel g m L H) (n : Nat) (i c : Int) : ItIs g (Itc i c n) (upL n i c) m L H := by
  have r := upL_rep (g := g) (m := m) (H := H) n i c
  have hl : ((List.range n).map fun k => V.int (i + (k : Nat) * c)).length = n := by simp
  refine itIs_at (G := fun _ => True) ?_ (fun _ _ _ _ => True.intro) R r
  rw [hl]
  exact walk_rangeC.mono (fun _ h => h) fun k H v H' hk _ ⟨h1, h2⟩ => ⟨h1, by rw [List.getElem?_map, List.getElem?_range hk, h2]; simp⟩
theorem pi_rng1 (hg : Gl X "range") (hm : X.mg "range" = none) (ha : PA X [a] (TA' g W fa)) (hs : starEach [a] X.env = [(false, eval a X.env)]) :
    PI X tg (.Call (.Name "range" p) [a] [] pos) (TI' g W (xRng1 fa)) := by
  refine ⟨fun pins s σ H R I h => (pi_range1 (tg := tg) (p := p) (pos := pos) hg hm ha hs).run pins s σ H R I ?_⟩
  obtain ⟨m, L, δ, Rr, S, h⟩ := ti_to h
  obtain ⟨m, L, δ, Rr, S, h⟩ := ta_tip Rr S h
  refine ⟨m, L, δ, Rr, S, TMP.mono h fun vs H1 ⟨m1, L1, ds, E1, R1, S1, rd, h1⟩ => ?_⟩
  split at h1
  · rename_i j
    cases rd with
    | cons r1 r2 =>
    cases r1
    cases r2
    cases ok : okI j with
    | false => rw [ok] at h1; exact h1.elim
    | true =>
      rw [ok] at h1
      obtain ⟨o1, o2⟩ := okI_ok ok
      exact ⟨j, rfl, o1, o2, h1 m1 H1 _ .refl R1 (fun l hl => by cases hl) (rng_it R1 _ 0)⟩
  · exact h1.elim
theorem pi_rng2 (hg : Gl X "range") (hm : X.mg "range" = none) (ha : PA X [a, b] (TA' g W fa)) (hs : starEach [a, b] X.env = [(false, eval a X.env), (false, eval b X.env)]) (hs2 : starEach [b] X.env = [(false, eval b X.env)]) :
    PI X tg (.Call (.Name "range" p) [a, b] [] pos) (TI' g W (xRng2 fa)) := by
  refine ⟨fun pins s σ H R I h => (pi_range2 (tg := tg) (p := p) (pos := pos) hg hm ha hs hs2).run pins s σ H R I ?_⟩
  obtain ⟨m, L, δ, Rr, S, h⟩ := ti_to h
  obtain ⟨m, L, δ, Rr, S, h⟩ := ta_tip Rr S h
  refine ⟨m, L, δ, Rr, S, TMP.mono h fun vs H1 ⟨m1, L1, ds, E1, R1, S1, rd, h1⟩ => ?_⟩
  split at h1
  · rename_i i j
    cases rd with
    | cons r1 r2 =>
    cases r1
    cases r2 with
    | cons r3 r4 =>
    cases r3
    cases r4
    cases ok : okI i && okI j with
    | false => rw [ok] at h1; exact h1.elim
    | true =>
      rw [ok] at h1
      rw [Bool.and_eq_true] at ok
      obtain ⟨o1, o2⟩ := okI_ok ok.1
      obtain ⟨o3, o4⟩ := okI_ok ok.2
      exact ⟨i, j, rfl, ⟨o1, o2, o3, o4⟩, h1 m1 H1 _ .refl R1 (fun l hl => by cases hl) (rng_it R1 _ i)⟩
  · exact h1.elim
theorem pi_rng3 (hg : Gl X "range") (hm : X.mg "range" = none) (ha : PA X [a, b, c] (TA' g W fa)) (hs : starEach [a, b, c] X.env = (false, eval a X.env) :: starEach [b, c] X.env) (hpl : (backTo pos (starEach [b, c] X.env)).any (·.1) = false) :
    PI X tg (.Call (.Name "range" p) [a, b, c] [] pos) (TI' g W (xRng3 fa)) := by
  refine ⟨fun pins s σ H R I h => (pi_range3 (tg := tg) (p := p) (pos := pos) hg hm ha hs hpl).run pins s σ H R I ?_⟩
  obtain ⟨m, L, δ, Rr, S, h⟩ := ti_to h
  obtain ⟨m, L, δ, Rr, S, h⟩ := ta_tip Rr S h
  refine ⟨m, L, δ, Rr, S, TMP.mono h fun vs H1 ⟨m1, L1, ds, E1, R1, S1, rd, h1⟩ => ?_⟩
  split at h1
  · rename_i i j k
    cases rd with
    | cons r1 r2 =>
    cases r1
    cases r2 with
    | cons r3 r4 =>
    cases r3
    cases r4 with
    | cons r5 r6 =>
    cases r5
    cases r6
    cases ok : okI i && okI j && (k == -1) with
    | false => rw [ok] at h1; exact h1.elim
    | true =>
      rw [ok] at h1
      rw [Bool.and_eq_true, Bool.and_eq_true, beq_iff_eq] at ok
      obtain ⟨o1, o2⟩ := okI_ok ok.1.1
      obtain ⟨o3, o4⟩ := okI_ok ok.1.2
      have hk := ok.2
      subst hk
      exact ⟨i, j, -1, _, rfl, RgC.neg o1 o2 o3 o4, h1 m1 H1 _ .refl R1 (fun l hl => by cases hl) (rng_itC R1 _ i (-1))⟩
  · exact h1.elim
end
end FC
end

section
namespace FC
open PySem PySem.Spec PyProof.Rows L2

/-! ### a dict's size, its truth -/
section
variable {prog : Program} {w : World} {A : Around} {E : Value → Shared → Prop} {s : Shared}
theorem dlen_body {d : Addr} {es : Array DictEntry} {ep : Nat} {Q : Value → Shared → Prop} (hd : (d == sysModules) = false) (hm : s.heap.DictRaw d es ep) (few : es.size ≤ 1000000)
    (fin : Q (.int es.size (s.toks + 1)) { s with toks := s.toks + 1 + 1 }) : wpAny (model prog w) A (Builtin.«len» ⟨[.ref d], []⟩) (fun out s' => ∃ r, out = .done (.ret r) ∧ Q r s') E s := by
  unfold Builtin.«len»
  refine wpAny_bind (m := oneArg "len" _) (wpAny_pure ?_)
  refine wpAny_bind (m := callSpecial? (.ref d) (Str.ofString "__len__")) (wpAny_callSpecial?_slot (name := Str.ofString "__len__") hm.typeIs F.slot_dict_len (call_len_raw hd hm ?_))
  show wpAny _ _ _ _ _ { s with toks := s.toks + 1 }
  refine wpAny_bind (wpAny_holding (wpAny_pure (wpAny_bind (wpAny_letGo ?_))))
  show wpAny _ _ (if ((es.size : Nat) : Int) < 0 then _ else _) _ _ _
  rw [if_neg (show ¬ ((es.size : Nat) : Int) < 0 by omega)]
  show wpAny _ _ (if ((es.size : Nat) : Int) ≥ 2 ^ 63 then _ else _) _ _ _
  rw [if_neg (show ¬ ((es.size : Nat) : Int) ≥ 2 ^ 63 by omega)]
  exact wpAny_bind (wpAny_mkInt (wpAny_pure ⟨_, rfl, fin⟩))
theorem dlen_raw {d : Addr} {es : Array DictEntry} {ep : Nat} {Q : Value → Shared → Prop} (hd : (d == sysModules) = false) (hm : s.heap.DictRaw d es ep) (few : es.size ≤ 1000000)
    (fin : Q (.int es.size (s.toks + 1)) { s with toks := s.toks + 1 + 1 }) : wpAny (model prog w) A (call (.builtin "len") [.ref d]) Q E s :=
  Calls.call_function_entry kind_len plain_len entry_len (args_len1 _) (dlen_body hd hm few fin)
theorem dtru_raw {d : Addr} {es : Array DictEntry} {ep : Nat} {Q : Bool → Shared → Prop} (hd : (d == sysModules) = false) (hm : s.heap.DictRaw d es ep) (few : es.size ≤ 1000000)
    (fin : Q (!(es.size == 0)) { s with toks := s.toks + 1 + 1 }) : wpAny (model prog w) A (truthy (.ref d)) Q E s := by
  have same : ((es.size : Int) != 0) = !(es.size == 0) := by
    rw [Bool.eq_iff_iff]; simp only [bne_iff_ne, Bool.not_eq_true', beq_eq_false_iff_ne, ne_eq]; omega
  have via : wpAny (model prog w) A (runValue (.builtin "len" ⟨[.ref d], []⟩)) (fun r s' => r = .int es.size (s.toks + 1) ∧ Q (!(es.size == 0)) s') E s := by
    refine wpAny_runValue (codeAny_builtin entry_len ?_)
    rw [Around.under_plainId plain_len _]
    refine wpAny_mono (dlen_body (Q := fun r s' => r = .int es.size (s.toks + 1) ∧ Q (!(es.size == 0)) s') hd hm few ⟨rfl, fin⟩) (fun out s' ho => ?_) fun _ _ z => z
    obtain ⟨r, e, q⟩ := ho
    rw [e]; exact q
  unfold truthy
  have last : wpAny (model prog w) A (runValue (.builtin "len" ⟨[.ref d], []⟩)) (fun r s' => wpAny (model prog w) A (match r with | .int n _ => pure (n != 0) | _ => pure true : Sem Bool) Q E s') E s := wpAny_mono via (fun r s' h' => by
    obtain ⟨e, q⟩ := h'
    rw [e]; exact wpAny_pure (same ▸ q)) fun _ _ z => z
  first
    | refine wpAny_bind (wpAny_callSpecial?_none (name := Str.ofString "__bool__") hm.typeIs noBool_dict ?_)
    | refine wpAny_bind (wpAny_pure (wpAny_bind (wpAny_callSpecial?_none (name := Str.ofString "__bool__") hm.typeIs noBool_dict ?_)))
  first
    | refine wpAny_bind (wpAny_specialOf (name := Str.ofString "__len__") hm.typeIs F.slot_dict_len.lookup ?_)
    | refine wpAny_bind (wpAny_pure (wpAny_bind (wpAny_specialOf (name := Str.ofString "__len__") hm.typeIs F.slot_dict_len.lookup ?_)))
  first
    | exact wpAny_bind (wpAny_mono via (fun r s' h' => by obtain ⟨e, q⟩ := h'; rw [e]; exact wpAny_pure (same ▸ q)) fun _ _ z => z)
    | exact wpAny_bind (wpAny_pure (wpAny_bind (wpAny_mono via (fun r s' h' => by obtain ⟨e, q⟩ := h'; rw [e]; exact wpAny_pure (same ▸ q)) fun _ _ z => z)))
end
section
variable {g : GE} {W : WX} {X : Cx} {pins : List (Addr × Obj)} {σ : L2.St} {H : Hp} {s : Shared} {m : M} {L : LH} {A : Around} {E : Value → Shared → Prop}
theorem dic_raw (I : L2.Inv X pins σ H s) {a : Addr} {kvs : List (D × D)} (h : ORep g m H a (.dic kvs)) : ∃ es ep, s.heap.DictRaw a es ep ∧ es.size = kvs.length ∧ (a == sysModules) = false ∧ es.size ≤ 1000000 ∧ Paired (EntryIs g m H) kvs es.toList := by
  obtain ⟨h0, sh, es, hH, rows⟩ := h
  obtain ⟨⟨ep, r⟩, _⟩ := I.hok a _ hH
  have e : es.size = kvs.length := by have := pairedL rows; simpa using this.symm
  exact ⟨es, ep, r, e, h0, by rw [e]; exact sh.few, rows⟩

/-! ### truth -/
def nz : Int → Bool
  | .ofNat n => !Nat.beq n 0
  | .negSucc _ => true
theorem nz_eq : ∀ i : Int, nz i = (i != 0)
  | .ofNat 0 => rfl
  | .ofNat (n + 1) => rfl
  | .negSucc n => rfl
def isNil {α : Type} : List α → Bool
  | [] => true
  | _ :: _ => false
def truD (L : LH) : D → Option Bool
  | .non => some false
  | .bl b => some b
  | .int i => some (nz i)
  | .str x => bif lim x.length then some (!Nat.beq x.length 0) else none
  | .tup ds => some (!isNil ds)
  | .rol ds => some (!isNil ds)
  | .loc l => match L.lst l with
    | some ds => some (!isNil ds)
    | none => match L.dic l with
      | some kvs => some (!isNil kvs)
      | none => none
  | _ => none
theorem isNil_rep {ds : List D} {vs : List V} (r : RepL g m H ds vs) : isNil ds = vs.isEmpty := by cases r <;> rfl
theorem tru_run (hK : X.K = g.K) (I : L2.Inv X pins σ H s) (R : HRel g m L H) {d : D} {x : V} {v : Value} (r : Rep g m H d x) (rv : L2.RelV x v) {b : Bool} (e : truD L d = some b) {Q : Bool → Shared → Prop} (h : ∀ s', L2.Inv X pins σ H s' → Q b s') :
    wpAny (model X.prog X.w) X.A (truthy v) Q X.xe s := by
  have hv : ∀ {y : V} {k : Bool}, L2.RelV y v → TruV X.K y H k → k = b → wpAny (model X.prog X.w) X.A (truthy v) Q X.xe s := fun {y k} ry t ek => by
    subst ek
    exact thn (tru_ok pins s σ H y v (fun c H2 => c = k ∧ H2 = H) I ry ⟨k, t, rfl, rfl⟩) fun c s2 ⟨H2, I2, e1, e2⟩ => by
      subst e1 e2
      exact h s2 I2
  cases r with
  | non => cases e; exact hv rv rfl rfl
  | bl c => cases e; exact hv rv rfl rfl
  | int i => cases e; exact hv rv rfl (nz_eq i).symm
  | str y =>
    dsimp only [truD] at e
    cases hb : lim y.length with
    | false => rw [hb] at e; cases e
    | true =>
      rw [hb] at e
      cases e
      refine hv rv ⟨lim_ok hb, rfl⟩ ?_
      cases y.length <;> rfl
  | tup h1 r1 =>
    cases e
    rw [← hK] at h1
    exact hv rv (.inr (.inl ⟨_, h1, by rw [isNil_rep r1]⟩)) rfl
  | rol h1 r1 =>
    cases e
    exact hv rv (.inl ⟨_, hK ▸ h1.sq, by rw [isNil_rep r1]⟩) rfl
  | loc hl =>
    rename_i l
    dsimp only [truD] at e
    cases q : L.lst l with
    | some ds =>
      simp only [q] at e
      cases e
      obtain ⟨vs, h1, r1⟩ := R.lst hl q
      exact hv rv (.inl ⟨_, SqL.of h1, by rw [isNil_rep r1]⟩) rfl
    | none =>
      simp only [q] at e
      cases q2 : L.dic l with
      | none => simp only [q2] at e; cases e
      | some kvs =>
        simp only [q2] at e
        cases e
        cases rv
        obtain ⟨es, ep, hr, hs, h0, few, _⟩ := dic_raw I (R.dic hl q2)
        refine dtru_raw h0 hr few ?_
        have : (!(es.size == 0)) = !isNil kvs := by rw [hs]; cases kvs <;> simp [isNil]
        rw [this]
        exact h _ (I.tok _)
  | _ => cases e
end

/-! ### expressions -/
/-- the functions' table, as an oracle -/
abbrev CF := Nat → List D → LH → Rs D
def xVar (i : Nat) : FE := fun δ L => match δ[i]? with
  | some (some d) => .ok d L
  | _ => .bad
def xC (d : D) : FE := fun _ L => .ok d L
def xBin (F : F2) (a b : FE) : FE := fun δ L => (a δ L).bind fun x L1 => (b δ L1).bind fun y L2 => ofO (F x y L2)
def xUn (F : F1) (a : FE) : FE := fun δ L => (a δ L).bind fun x L1 => ofO (F x L1)
def lNil : FL := fun _ L => .ok [] L
def lCons (a : FE) (r : FL) : FL := fun δ L => (a δ L).bind fun x L1 => (r δ L1).bind fun xs L2 => .ok (x :: xs) L2
def lStar (a : FE) (r : FL) : FL := fun δ L => (a δ L).bind fun x L1 => match seqD L1 x with
  | some p => match x with
    | .str _ => .bad
    | _ => (r δ L1).bind fun xs L2 => .ok (p.1 ++ xs) L2
  | none => .bad
def xTup (r : FL) : FE := fun δ L => (r δ L).bind fun xs L1 => bif lim xs.length then .ok (.tup xs) L1 else .bad
def xLst (r : FL) : FE := fun δ L => (r δ L).bind fun xs L1 => bif lim xs.length then ofO (L1.add (.lst xs)) else .bad
def xIf (c : FT) (a b : FE) : FE := fun δ L => (c δ L).bind fun t L1 => match t with
  | true => a δ L1
  | false => b δ L1
def xOr (a b : FE) : FE := fun δ L => (a δ L).bind fun x L1 => match truD L1 x with
  | some true => .ok x L1
  | some false => b δ L1
  | none => .bad
def xAnd (a b : FE) : FE := fun δ L => (a δ L).bind fun x L1 => match truD L1 x with
  | some true => b δ L1
  | some false => .ok x L1
  | none => .bad
def xNot (a : FE) : FE := fun δ L => (a δ L).bind fun x L1 => match truD L1 x with
  | some b => .ok (.bl (!b)) L1
  | none => .bad
/-- a op1 b op2 c -/
def xChain (F G : F2) (a b c : FE) : FE := fun δ L => (a δ L).bind fun x L1 => (b δ L1).bind fun y L2 => match F x y L2 with
  | some (.bl true, L3) => (c δ L3).bind fun w L4 => ofO (G y w L4)
  | some (.bl false, L3) => .ok (.bl false) L3
  | _ => .bad
/-- a call of a builtin by values -/
def xCall (F : FN) (r : FL) : FE := fun δ L => (r δ L).bind fun xs L1 => ofO (F xs L1)
/-! tests -/
def tTru (a : FE) : FT := fun δ L => (a δ L).bind fun x L1 => match truD L1 x with
  | some b => .ok b L1
  | none => .bad
def tNo (a : FT) : FT := fun δ L => (a δ L).bind fun b L1 => .ok (!b) L1
def tAn (a b : FT) : FT := fun δ L => (a δ L).bind fun t L1 => match t with
  | true => b δ L1
  | false => .ok false L1
def tO (a b : FT) : FT := fun δ L => (a δ L).bind fun t L1 => match t with
  | true => .ok true L1
  | false => b δ L1
def tBl (a : FE) : FT := fun δ L => (a δ L).bind fun x L1 => match x with
  | .bl b => .ok b L1
  | _ => .bad
def tYes : FT := fun _ L => .ok true L

section
variable {g : GE} {W : WX} {X : Cx} {a b c : Expr} {es rest : List Expr} {fa fb fc : FE} {ta tb : FT} {fl : FL} {pos : Pos}
theorem te_of {f : FE} {σ : L2.St} {H : Hp} {Q : VK} (h : TE' g W f σ H Q) : ∃ m L δ, HRel g m L H ∧ SRel g m H δ σ ∧ TMP g W σ (Rep g) (f δ L) m L H Q := h
theorem pE_var {i : Nat} {x : Str} (hN : X.N[i]? = some x) (hv : Vis X.env.scope x) (hd : (x == ("__debug__" : Str)) = false) (hcd : (x == ("__classdict__" : Str)) = false) : PE X (.Name x pos) (TE' g W (xVar i)) :=
  (pe_var hN hv hd hcd).imp fun σ H Q h => by
    obtain ⟨m, L, δ, R, S, h⟩ := te_of h
    unfold xVar at h
    split at h
    · rename_i d e
      obtain ⟨v, h1, h2⟩ := S.2 i d e
      exact ⟨v, h1, h m H v .refl R h2⟩
    · exact h.elim
theorem pE_C {e : Expr} {d : D} {v : V} (h : PE X e (tC v)) (r : ∀ m H, Rep g m H d v) : PE X e (TE' g W (xC d)) :=
  h.imp fun σ H Q h => by
    obtain ⟨m, L, δ, R, S, h⟩ := te_of h
    exact h m H v .refl R (r m H)
theorem te_mono {f : FE} {σ : L2.St} {H : Hp} {Q Q' : VK} (h : TE' g W f σ H Q) (k : ∀ v H', Q v H' → Q' v H') : TE' g W f σ H Q' := by
  obtain ⟨m, L, δ, R, S, h⟩ := h
  exact ⟨m, L, δ, R, S, TMP.mono h k⟩
theorem tt_mono {f : FT} {σ : L2.St} {H : Hp} {Q Q' : Bool → Hp → Prop} (h : TT' g W f σ H Q) (k : ∀ v H', Q v H' → Q' v H') : TT' g W f σ H Q' := by
  obtain ⟨m, L, δ, R, S, h⟩ := h
  exact ⟨m, L, δ, R, S, TMP.mono h k⟩
theorem ta_mono {f : FL} {σ : L2.St} {H : Hp} {Q Q' : List V → Hp → Prop} (h : TA' g W f σ H Q) (k : ∀ v H', Q v H' → Q' v H') : TA' g W f σ H Q' := by
  obtain ⟨m, L, δ, R, S, h⟩ := h
  exact ⟨m, L, δ, R, S, TMP.mono h k⟩
theorem rD2_fin {F : F2} {σ : L2.St} {H : Hp} {m : M} {L : LH} {x y : V} {d e : D} {Q : VK} (R : HRel g m L H) (rx : Rep g m H d x) (ry : Rep g m H e y) (h : TMP g W σ (Rep g) (ofO (F d e L)) m L H Q) : rD2 g F x y H Q := by
  obtain ⟨d', L', h1, h2⟩ := ofO_ok h
  exact ⟨m, L, d, e, d', L', R, rx, ry, h1, h2⟩
theorem te_two {F : F2} {σ : L2.St} {H : Hp} {Q : VK} (h : TE' g W (xBin F fa fb) σ H Q) : tOp (rD2 g F) (TE' g W fa) (TE' g W fb) σ H Q := by
  obtain ⟨m, L, δ, R, S, h⟩ := te_of h
  refine te_mono (te_bind R S h) fun x H1 ⟨m1, L1, d, E1, R1, S1, r1, h1⟩ => ?_
  exact te_mono (te_bind R1 S1 h1) fun y H2 ⟨m2, L2, e, E2, R2, S2, r2, h2⟩ => rD2_fin R2 (r1.ext E2 R1) r2 h2
theorem pE_bin {op : Operator} {F : F2} (ho : OpR X (binaryOp op) (rD2 g F)) (ha : PE X a (TE' g W fa)) (hb : PE X b (TE' g W fb)) : PE X (.BinOp a op b pos) (TE' g W (xBin F fa fb)) := (pe_op ho ha hb).imp fun _ _ _ h => te_two h
theorem pE_cmp {op : CmpOp} {F : F2} (ho : OpR X (compareOp op) (rD2 g F)) (ha : PE X a (TE' g W fa)) (hb : PE X b (TE' g W fb)) (hm : behindInMarks op b = false) : PE X (.Compare a [op] [b] pos) (TE' g W (xBin F fa fb)) :=
  (pe_cmpR ho ha hb hm).imp fun _ _ _ h => te_two h
theorem pE_un {op : UnaryOp} {F : F1} (ho : UnR X (unaryOp op) (rD1 g F)) (ha : PE X a (TE' g W fa)) : PE X (.UnaryOp op a pos) (TE' g W (xUn F fa)) :=
  (pe_un ho ha).imp fun σ H Q h => by
    obtain ⟨m, L, δ, R, S, h⟩ := te_of h
    refine te_mono (te_bind R S h) fun x H1 ⟨m1, L1, d, E1, R1, S1, r1, h1⟩ => ?_
    obtain ⟨d', L', h3, h4⟩ := ofO_ok h1
    exact ⟨m1, L1, d, d', L', R1, r1, h3, h4⟩
theorem pA_nil : PA X [] (TA' g W lNil) := ⟨fun pos pins s σ H Q I h => by
  obtain ⟨m, L, δ, R, S, h⟩ := h
  exact pa_nil.run pos pins s σ H Q I (h m H [] .refl R .nil)⟩
theorem pA_cons (ha : PE X a (TE' g W fa)) (hr : PA X es (TA' g W fl)) (hs : starEach (a :: es) X.env = (false, eval a X.env) :: starEach es X.env) : PA X (a :: es) (TA' g W (lCons fa fl)) :=
  (pa_cons ha hr hs).imp fun σ H Q h => by
    obtain ⟨m, L, δ, R, S, h⟩ := h
    refine te_mono (te_bind R S h) fun x H1 ⟨m1, L1, d, E1, R1, S1, r1, h1⟩ => ?_
    exact ta_mono (ta_bind R1 S1 h1) fun xs H2 ⟨m2, L2, ds, E2, R2, S2, r2, h2⟩ => h2 m2 H2 (x :: xs) .refl R2 (.cons (r1.ext E2 R1) r2)
theorem seq_star (hK : X.K = g.K) {m : M} {L : LH} {H : Hp} {d : D} {x : V} {p : List D × List Nat} (R : HRel g m L H) (r : Rep g m H d x) (e : seqD L d = some p) (ns : ∀ y, d ≠ .str y) : ∃ a vs, x = .ref a ∧ (SqT X.K H a vs ∨ SqL X.K H a vs) ∧ RepL g m H p.1 vs := by
  cases r with
  | tup h1 h2 => cases e; rw [hK]; exact ⟨_, _, rfl, .inl h1, h2⟩
  | rol h1 h2 => cases e; exact ⟨_, _, rfl, .inr (hK ▸ h1.sq), h2⟩
  | str y => exact absurd rfl (ns y)
  | loc hl =>
    rename_i l
    unfold seqD at e
    cases q : L.lst l with
    | none => simp only [q] at e; cases e
    | some ds =>
      simp only [q] at e
      cases e
      obtain ⟨vs, h1, r1⟩ := R.lst hl q
      exact ⟨_, _, rfl, .inr (SqL.of h1), r1⟩
  | _ => cases e
theorem pA_star {p : Pos} (hK : X.K = g.K) (ha : PE X a (TE' g W fa)) (hr : PA X es (TA' g W fl)) (hs : starEach (.Starred a p :: es) X.env = (true, eval a X.env) :: starEach es X.env) : PA X (.Starred a p :: es) (TA' g W (lStar fa fl)) :=
  (StX.pa_star ha hr hs).imp fun σ H Q h => by
    obtain ⟨m, L, δ, R, S, h⟩ := h
    refine te_mono (te_bind R S h) fun x H1 ⟨m1, L1, d, E1, R1, S1, r1, h1⟩ => ?_
    cases q : seqD L1 d with
    | none => simp only [q] at h1; exact h1.elim
    | some w =>
      simp only [q] at h1
      have ns : ∀ y, d ≠ .str y := fun y z => by subst z; exact h1.elim
      obtain ⟨a', vs, rfl, h2, h3⟩ := seq_star hK R1 r1 q ns
      refine ⟨a', vs, rfl, h2, ?_⟩
      have h1' : TMP g W σ (RepL g) ((fl δ L1).bind fun xs L2 => .ok (w.1 ++ xs) L2) m1 L1 H1 Q := by
        cases d with
        | str y => exact absurd rfl (ns y)
        | _ => exact h1
      exact ta_mono (ta_bind R1 S1 h1') fun xs H2 ⟨m2, L2, ds, E2, R2, S2, r2, h4⟩ => h4 m2 H2 (vs ++ xs) .refl R2 ((h3.ext E2 R1).app r2)
theorem pE_tup {k : Nat} (h : PA X es (TA' g W fl)) : PE X (.Tuple es k pos) (TE' g W (xTup fl)) :=
  (pe_tup h).imp fun σ H Q h => by
    obtain ⟨m, L, δ, R, S, h⟩ := te_of h
    refine ta_mono (ta_bind R S h) fun xs H1 ⟨m1, L1, ds, E1, R1, S1, r1, h1⟩ => ?_
    cases hb : lim ds.length with
    | false => rw [hb] at h1; exact h1.elim
    | true =>
      rw [hb] at h1
      exact ⟨by rw [← r1.length]; exact lim_ok hb, newT R1 r1 h1⟩
theorem pE_lst (h : PA X es (TA' g W fl)) : PE X (.List es pos) (TE' g W (xLst fl)) :=
  (pe_lst h).imp fun σ H Q h => by
    obtain ⟨m, L, δ, R, S, h⟩ := te_of h
    refine ta_mono (ta_bind R S h) fun xs H1 ⟨m1, L1, ds, E1, R1, S1, r1, h1⟩ => ?_
    cases hb : lim ds.length with
    | false => rw [hb] at h1; exact h1.elim
    | true =>
      rw [hb] at h1
      obtain ⟨d', L', h3, h4⟩ := ofO_ok h1
      exact ⟨by rw [← r1.length]; exact lim_ok hb, newL R1 r1 h3 h4⟩
theorem pE_if (hc : PT X c (TT' g W ta)) (ha : PE X a (TE' g W fa)) (hb : PE X b (TE' g W fb)) : PE X (.IfExp c a b pos) (TE' g W (xIf ta fa fb)) :=
  (pe_ifExp hc ha hb).imp fun σ H Q h => by
    obtain ⟨m, L, δ, R, S, h⟩ := te_of h
    refine tt_mono (tt_bind R S h) fun t H1 ⟨m1, L1, E1, R1, S1, h1⟩ => ?_
    cases t with
    | true => exact ⟨m1, L1, δ, R1, S1, h1⟩
    | false => exact ⟨m1, L1, δ, R1, S1, h1⟩
theorem pE_or (hK : X.K = g.K) (ha : PE X a (TE' g W fa)) (hb : PE X (.BoolOp .Or (b :: rest) pos) (TE' g W fb)) : PE X (.BoolOp .Or (a :: b :: rest) pos) (TE' g W (xOr fa fb)) := by
  refine ⟨fun pins s σ H Q I h => ?_⟩
  obtain ⟨m, L, δ, R, S, h⟩ := te_of h
  refine BoolOp_or (thn (ha.run pins s σ H _ I (te_bind R S h)) fun v s1 ⟨x, H1, I1, rx, m1, L1, d, E1, R1, S1, r1, h1⟩ => ?_)
  cases q : truD L1 d with
  | none => simp only [q] at h1; exact h1.elim
  | some t =>
    simp only [q] at h1
    refine tru_run hK I1 R1 r1 rx q fun s2 I2 => ?_
    cases t with
    | true => exact ⟨x, H1, I2, rx, h1 m1 H1 x .refl R1 r1⟩
    | false => exact hb.run pins s2 σ H1 Q I2 ⟨m1, L1, δ, R1, S1, h1⟩
theorem pE_and (hK : X.K = g.K) (ha : PE X a (TE' g W fa)) (hb : PE X (.BoolOp .And (b :: rest) pos) (TE' g W fb)) : PE X (.BoolOp .And (a :: b :: rest) pos) (TE' g W (xAnd fa fb)) := by
  refine ⟨fun pins s σ H Q I h => ?_⟩
  obtain ⟨m, L, δ, R, S, h⟩ := te_of h
  refine BoolOp_and (thn (ha.run pins s σ H _ I (te_bind R S h)) fun v s1 ⟨x, H1, I1, rx, m1, L1, d, E1, R1, S1, r1, h1⟩ => ?_)
  cases q : truD L1 d with
  | none => simp only [q] at h1; exact h1.elim
  | some t =>
    simp only [q] at h1
    refine tru_run hK I1 R1 r1 rx q fun s2 I2 => ?_
    cases t with
    | true => exact hb.run pins s2 σ H1 Q I2 ⟨m1, L1, δ, R1, S1, h1⟩
    | false => exact ⟨x, H1, I2, rx, h1 m1 H1 x .refl R1 r1⟩
theorem pE_one {op : BoolOp} (h : PE X a (TE' g W fa)) : PE X (.BoolOp op [a] pos) (TE' g W fa) := pe_one h
theorem pE_not (hK : X.K = g.K) (ha : PE X a (TE' g W fa)) : PE X (.UnaryOp .Not a pos) (TE' g W (xNot fa)) := by
  refine ⟨fun pins s σ H Q I h => ?_⟩
  obtain ⟨m, L, δ, R, S, h⟩ := te_of h
  refine UnaryOp_ (thn (ha.run pins s σ H _ I (te_bind R S h)) fun v s1 ⟨x, H1, I1, rx, m1, L1, d, E1, R1, S1, r1, h1⟩ => ?_)
  cases q : truD L1 d with
  | none => simp only [q] at h1; exact h1.elim
  | some t =>
    simp only [q] at h1
    exact not_of (tru_run hK I1 R1 r1 rx q fun s2 I2 => ⟨.bl (!t), H1, I2, rfl, h1 m1 H1 _ .refl R1 (.bl _)⟩)
theorem pE_chain {op op' : CmpOp} {F G : F2} (ho : OpR X (compareOp op) (rD2 g F)) (ho' : OpR X (compareOp op') (rD2 g G)) (ha : PE X a (TE' g W fa)) (hb : PE X b (TE' g W fb)) (hc : PE X c (TE' g W fc))
    (hm : lastMarks [op, op'] [b, c] = false) : PE X (.Compare a [op, op'] [b, c] pos) (TE' g W (xChain F G fa fb fc)) :=
  (pe_chain ho ho' ha hb hc hm).imp fun σ H Q h => by
    obtain ⟨m, L, δ, R, S, h⟩ := te_of h
    refine te_mono (te_bind R S h) fun x H1 ⟨m1, L1, d, E1, R1, S1, r1, h1⟩ => ?_
    refine te_mono (te_bind R1 S1 h1) fun y H2 ⟨m2, L2, e, E2, R2, S2, r2, h2⟩ => ?_
    split at h2
    · rename_i L3 q
      refine ⟨m2, L2, d, e, .bl true, L3, R2, r1.ext E2 R1, r2, q, fun m3 H3 z E3 R3 rz => ?_⟩
      cases rz
      refine ⟨true, rfl, ?_⟩
      rw [if_pos rfl]
      exact te_mono (te_bind R3 (S2.ext E3 R2) (TMP.shift E3 h2)) fun w H4 ⟨m4, L4, f, E4, R4, S4, r4, h4⟩ => rD2_fin R4 ((r2.ext E3 R2).ext E4 R3) r4 h4
    · rename_i L3 q
      refine ⟨m2, L2, d, e, .bl false, L3, R2, r1.ext E2 R1, r2, q, fun m3 H3 z E3 R3 rz => ?_⟩
      cases rz
      refine ⟨false, rfl, ?_⟩
      rw [if_neg Bool.false_ne_true]
      exact h2 m3 H3 _ E3 R3 (.bl false)
    · exact h2.elim
/-! tests -/
theorem pT_tru (hK : X.K = g.K) (ha : PE X a (TE' g W fa)) (he : ∀ whole, isTrue a X.env whole = (do let v ← whole; standAt a.pos; holding [v] (truthy v))) : PT X a (TT' g W (tTru fa)) := by
  refine ⟨fun pins s σ H Q I h => ?_⟩
  obtain ⟨m, L, δ, R, S, h⟩ := h
  refine isTrue_plain (thn (ha.run pins s σ H _ I (te_bind R S h)) fun v s1 ⟨x, H1, I1, rx, m1, L1, d, E1, R1, S1, r1, h1⟩ => ?_) (he _)
  cases q : truD L1 d with
  | none => simp only [q] at h1; exact h1.elim
  | some t =>
    simp only [q] at h1
    exact tru_run hK I1 R1 r1 rx q fun s2 I2 => ⟨H1, I2, h1 m1 H1 t .refl R1 rfl⟩
theorem pT_not (ha : PT X a (TT' g W ta)) : PT X (.UnaryOp .Not a pos) (TT' g W (tNo ta)) :=
  (pt_not ha).imp fun σ H Q h => by
    obtain ⟨m, L, δ, R, S, h⟩ := h
    exact tt_mono (tt_bind R S h) fun t H1 ⟨m1, L1, E1, R1, S1, h1⟩ => h1 m1 H1 _ .refl R1 rfl
theorem _root_.L2.PW.imp {e : Expr} {t t' : TT} (h : PW X e t) (k : ∀ σ H Q, t' σ H Q → t σ H Q) : PW X e t' := ⟨fun wh p s σ H Q I q => h.run wh p s σ H Q I (k σ H Q q)⟩
theorem pW_and (ha : PT X a (TT' g W ta)) (hb : PW X (.BoolOp .And (b :: rest) pos) (TT' g W tb)) : PW X (.BoolOp .And (a :: b :: rest) pos) (TT' g W (tAn ta tb)) :=
  PW.imp (pw_and ha hb) fun σ H Q h => by
    obtain ⟨m, L, δ, R, S, h⟩ := h
    refine tt_mono (tt_bind R S h) fun t H1 ⟨m1, L1, E1, R1, S1, h1⟩ => ?_
    cases t with
    | true => exact ⟨m1, L1, δ, R1, S1, h1⟩
    | false => exact h1 m1 H1 _ .refl R1 rfl
theorem pW_or (ha : PT X a (TT' g W ta)) (hb : PW X (.BoolOp .Or (b :: rest) pos) (TT' g W tb)) : PW X (.BoolOp .Or (a :: b :: rest) pos) (TT' g W (tO ta tb)) :=
  PW.imp (pw_or ha hb) fun σ H Q h => by
    obtain ⟨m, L, δ, R, S, h⟩ := h
    refine tt_mono (tt_bind R S h) fun t H1 ⟨m1, L1, E1, R1, S1, h1⟩ => ?_
    cases t with
    | false => exact ⟨m1, L1, δ, R1, S1, h1⟩
    | true => exact h1 m1 H1 _ .refl R1 rfl
theorem tB_of {f : FE} {σ : L2.St} {H : Hp} {Q : Bool → Hp → Prop} (h : TT' g W (tBl f) σ H Q) : TE' g W f σ H (fun x H' => ∃ k, x = .bl k ∧ Q k H') := by
  obtain ⟨m, L, δ, R, S, h⟩ := h
  refine te_mono (te_bind R S h) fun x H1 ⟨m1, L1, d, E1, R1, S1, r1, h1⟩ => ?_
  cases r1 with
  | bl k => exact ⟨k, rfl, h1 m1 H1 k .refl R1 rfl⟩
  | _ => exact h1.elim
theorem pT_cmp {op : CmpOp} {F : F2} (ho : OpR X (compareOp op) (rD2 g F)) (ha : PE X a (TE' g W fa)) (hb : PE X b (TE' g W fb)) (hm : behindInMarks op b = false) : PT X (.Compare a [op] [b] pos) (TT' g W (tBl (xBin F fa fb))) :=
  (pt_cmpR ho ha hb hm).imp fun _ _ _ h => te_two (tB_of h)
end
end FC
end

section
namespace FC
open PySem PySem.Spec PyProof.Rows L2

/-! ### d[k] -/
section
variable {g : GE} {X : Cx} {pins : List (Addr × Obj)} {σ : L2.St} {H : Hp} {s : Shared} {m : M} {L : LH} {kvs : List (D × D)}
theorem dic_get (hP : X.prog = g.P) (hw0 : X.w = g.w) (hK : X.K = g.K) {A : Around} (hu : A.units + 10 < cLine) (I : L2.Inv X pins σ H s) {a : Addr} (hx : ORep g m H a (.dic kvs)) {d e : D} {y : V} {u : Value} (hf : keyFits kvs d = true)
    (hd : Rep g m H d y) (ry : L2.RelV y u) (he : findD kvs d = some e) {E : Value → Shared → Prop} {Q : Value → Shared → Prop} (h : ∀ s' v r, L2.Inv X pins σ H s' → L2.RelV v r → Rep g m H e v → Q r s') : wpAny (model X.prog X.w) A (getItem (.ref a) u) Q E s := by
  rw [hP, hw0]
  rcases fits_cases hx.2.1 hf with ⟨tp, ⟨k, nk, dp⟩, al⟩ | ⟨sc, al⟩
  · obtain ⟨xs, hm, rows⟩ := stand_T hK I hx al
    obtain ⟨b, rfl⟩ := rep_tup tp hd
    cases ry
    obtain ⟨p, v, z, rv, rr⟩ := (find_T nk rows).2 e he
    exact wpAny_getItem_heap (knd := nestedKind g.P g.w) (k := k) (show A.in1.units + 8 < cLine by show A.units + 1 + 8 < cLine; omega) ⟨nested_of hK I hd rfl nk, dp⟩ hm z (h _ v _ (I.tok _) rv rr)
  · obtain ⟨xs, hm, rows⟩ := stand_S I hx al
    obtain ⟨p, v, z, rv, rr⟩ := (find_S sc rows).2 e he
    exact wpAny_getItem_of (k := leafOf d) (scKind_is sc hd ry) hm.mapOf z (h _ v _ (I.tok _) rv rr)
theorem dic_type (I : L2.Inv X pins σ H s) {a : Addr} (hx : ORep g m H a (.dic kvs)) : s.TypeIs (.ref a) "dict" := by
  obtain ⟨es, ep, r, _⟩ := dic_raw I hx
  exact r.typeIs
end

/-! ### the items at a place -/
def nth : List D → Nat → Option D
  | [], _ => none
  | d :: _, 0 => some d
  | _ :: ds, n + 1 => nth ds n
theorem nth_eq : ∀ (ds : List D) (n : Nat), nth ds n = ds[n]?
  | [], _ => by simp [nth]
  | _ :: _, 0 => rfl
  | _ :: ds, n + 1 => by rw [nth, nth_eq ds n]; simp
/-- where an index stands -/
def ixD (n : Nat) : Int → Option Nat
  | .ofNat k => bif Nat.blt k n then some k else none
  | .negSucc k => bif Nat.blt k n then some (n - 1 - k) else none
theorem ixD_eq (n : Nat) : ∀ i : Int, ixD n i = ixN n i
  | .ofNat k => by
    show (bif Nat.blt k n then some k else none) = ixN n (k : Int)
    unfold ixN
    rw [if_pos (by omega)]
    by_cases h : k < n
    · rw [if_pos (by omega), show Nat.blt k n = true from (Nat.blt_eq).mpr h]; simp
    · rw [if_neg (by omega), show Nat.blt k n = false from by rw [Bool.eq_false_iff]; intro z; exact h ((Nat.blt_eq).mp z)]; rfl
  | .negSucc k => by
    show (bif Nat.blt k n then some (n - 1 - k) else none) = ixN n (Int.negSucc k)
    unfold ixN
    rw [if_neg (by omega)]
    by_cases h : k < n
    · rw [if_pos (by omega), show Nat.blt k n = true from (Nat.blt_eq).mpr h]
      show some (n - 1 - k) = some (Int.negSucc k + n).toNat
      congr 1
      omega
    · rw [if_neg (by omega), show Nat.blt k n = false from by rw [Bool.eq_false_iff]; intro z; exact h ((Nat.blt_eq).mp z)]; rfl
def atD (ds : List D) (i : Int) : Option D := match ixD ds.length i with
  | some k => nth ds k
  | none => none
theorem atD_rep {g : GE} {m : M} {H : Hp} {ds : List D} {vs : List V} {i : Int} {d : D} (r : RepL g m H ds vs) (e : atD ds i = some d) : ∃ v, atI vs i = some v ∧ Rep g m H d v := by
  unfold atD at e
  cases q : ixD ds.length i with
  | none => rw [q] at e; cases e
  | some k =>
    simp only [q] at e
    rw [nth_eq] at e
    obtain ⟨v, h1, h2⟩ := r.get e
    refine ⟨v, ?_, h2⟩
    unfold atI
    rw [← r.length, ← ixD_eq, q]
    exact h1
def dIx : F2 := fun o i L => match o with
  | .loc l => match L.lst l with
    | some ds => match i with
      | .int k => match atD ds k with
        | some d => some (d, L)
        | none => none
      | _ => none
    | none => match L.dic l with
      | some kvs => match keyFits kvs i with
        | true => match findD kvs i with
          | some d => some (d, L)
          | none => none
        | false => none
      | none => none
  | .tup ds => match i with
    | .int k => match atD ds k with
      | some d => some (d, L)
      | none => none
    | _ => none
  | .rol ds => match i with
    | .int k => match atD ds k with
      | some d => some (d, L)
      | none => none
    | _ => none
  | .str z => match i with
    | .int k => bif lim z.length then match atD (strD z) k with
      | some d => some (d, L)
      | none => none else none
    | _ => none
  | _ => none
theorem strD_at {z : Str} {i : Int} {d : D} (h : atD (strD z) i = some d) : ∃ c, d = .str ⟨#[c]⟩ ∧ atI z.cps.toList i = some c := by
  unfold atD at h
  have hl : (strD z).length = z.cps.toList.length := by simp [strD]
  cases q : ixD (strD z).length i with
  | none => rw [q] at h; cases h
  | some k =>
    simp only [q] at h
    rw [nth_eq] at h
    unfold strD at h
    rw [List.getElem?_map] at h
    cases e : z.cps.toList[k]? with
    | none => rw [e] at h; cases h
    | some c =>
      rw [e] at h
      cases h
      refine ⟨c, rfl, ?_⟩
      unfold atI
      rw [← hl, ← ixD_eq, q]
      exact e
section
variable {g : GE} {W : WX} {X : Cx}
theorem ix_D (z : Cz g W X) : IxR X (rD2 g dIx) := by
  rintro value slice pins s σ H x y v u Q I rx ry ⟨m, L, d, e, d', L', R, hd, he, hf, q⟩ hs
  have seq : ∀ {ds : List D} {vs : List V} {a : Addr} {k : Int} {d2 : D}, x = .ref a → y = .int k → (SqL X.K H a vs ∨ SqT X.K H a vs) → RepL g m H ds vs → atD ds k = some d2 → d' = d2 → L' = L → wpAny (model X.prog X.w) X.A (subscriptTail value slice v u) (EP X pins σ Q) X.xe s := fun {ds vs a k d2} ex ey hq hr ha e1 e2 => by
    subst ex ey e1 e2
    obtain ⟨w, h1, h2⟩ := atD_rep hr ha
    refine ix_seq value slice pins s σ H _ _ v u Q I rx ry ?_ hs
    rcases hq with hq | hq
    · exact .inl ⟨a, vs, k, w, rfl, rfl, hq, h1, q m H w .refl R h2⟩
    · exact .inr (.inl ⟨a, vs, k, w, rfl, rfl, hq, h1, q m H w .refl R h2⟩)
  cases hd with
  | loc hl =>
    rename_i l
    dsimp only [dIx] at hf
    cases ql : L.lst l with
    | some ds =>
      simp only [ql] at hf
      obtain ⟨vs, h1, r1⟩ := R.lst hl ql
      cases he with
      | int k =>
        dsimp only at hf
        cases qa : atD ds k with
        | none => simp only [qa] at hf; cases hf
        | some d2 =>
          simp only [qa] at hf
          cases hf
          exact seq rfl rfl (.inl (SqL.of h1)) r1 qa rfl rfl
      | _ => cases hf
    | none =>
      simp only [ql] at hf
      cases qd : L.dic l with
      | none => simp only [qd] at hf; cases hf
      | some kvs =>
        simp only [qd] at hf
        cases qk : keyFits kvs e with
        | false => simp only [qk] at hf; cases hf
        | true =>
          simp only [qk] at hf
          cases qf : findD kvs e with
          | none => simp only [qf] at hf; cases hf
          | some d2 =>
            simp only [qf] at hf
            cases hf
            cases rx
            have hx := R.dic hl qd
            exact tail_any (dic_type I hx) slot_dict_getitem.lookup (dic_get z.P z.w z.K (by have := z.hu; omega) I hx qk he ry qf fun s' w r I' rw' rr => ⟨w, H, I', rw', q m H w .refl R rr⟩) hs
  | tup h1 r1 =>
    dsimp only [dIx] at hf
    rw [← z.K] at h1
    cases he with
    | int k =>
      dsimp only at hf
      split at hf
      · rename_i d2 qa; cases hf; exact seq rfl rfl (.inr h1) r1 qa rfl rfl
      · cases hf
    | _ => cases hf
  | rol h1 r1 =>
    dsimp only [dIx] at hf
    cases he with
    | int k =>
      dsimp only at hf
      split at hf
      · rename_i d2 qa; cases hf; exact seq rfl rfl (.inl (z.K ▸ h1.sq)) r1 qa rfl rfl
      · cases hf
    | _ => cases hf
  | str w =>
    dsimp only [dIx] at hf
    cases he with
    | int k =>
      dsimp only at hf
      cases hb : lim w.length with
      | false => rw [hb] at hf; cases hf
      | true =>
        rw [hb] at hf
        dsimp only [cond_true] at hf
        split at hf
        · rename_i d2 qa
          cases hf
          obtain ⟨c, rfl, h1⟩ := strD_at qa
          exact ix_str value slice pins s σ H _ _ v u Q I rx ry ⟨w, k, c, rfl, rfl, lim_ok hb, h1, q m H _ .refl R (.str _)⟩ hs
        · cases hf
    | _ => cases hf
  | _ => cases hf
theorem pE_ix {a b : Expr} {fa fb : FE} {pos : Pos} (z : Cz g W X) (ha : PE X a (TE' g W fa)) (hb : PE X b (TE' g W fb)) (hs : PlainIx b) : PE X (.Subscript a b pos) (TE' g W (xBin dIx fa fb)) :=
  (pe_ix (ix_D z) ha hb hs).imp fun _ _ _ h => te_two h

/-! ### o[i] = v -/
def setN : List D → Nat → D → List D
  | [], _, _ => []
  | _ :: ds, 0, e => e :: ds
  | d :: ds, n + 1, e => d :: setN ds n e
theorem setN_eq : ∀ (ds : List D) (n : Nat) (e : D), setN ds n e = ds.set n e
  | [], _, _ => by simp [setN]
  | _ :: _, 0, _ => by simp [setN]
  | _ :: ds, n + 1, e => by simp [setN, setN_eq ds n e]
def dSet (o i e : D) (L : LH) : Option LH := match o with
  | .loc l => match L.lstW l with
    | some ds => match i with
      | .int k => match ixD ds.length k with
        | some j => some (L.put l (.lst (setN ds j e)))
        | none => none
      | _ => none
    | none => match L.dicW l with
      | some kvs => match dshape kvs i e with
        | true => some (L.put l (.dic (putD kvs i e)))
        | false => none
      | none => none
  | _ => none
def rSetD' (g : GE) : TSet := fun o i v H Q => ∃ m L d e f L', HRel g m L H ∧ Rep g m H d o ∧ Rep g m H e i ∧ Rep g m H f v ∧ dSet d e f L = some L' ∧ ∀ H', Ext m L H m L' H' → HRel g m L' H' → Q H'
theorem set_D (z : Cz g W X) : PSet X (rSetD' g) := by
  rintro pins s σ H o i v ov iv u Q I ro ri rv ⟨m, L, d, e, f, L', R, hd, he, hf, hs, q⟩
  cases hd with
  | loc hl =>
    rename_i l
    dsimp only [dSet] at hs
    cases ql : L.lstW l with
    | some ds =>
      simp only [ql] at hs
      cases he with
      | int k =>
        dsimp only at hs
        cases qi : ixD ds.length k with
        | none => simp only [qi] at hs; cases hs
        | some j =>
          simp only [qi] at hs
          cases hs
          obtain ⟨vs, h1, r1⟩ := R.lst hl (LH.lst_of ql)
          obtain ⟨E1, R1⟩ := chgL R hl ql (r1.set j hf)
          rw [← setN_eq] at E1 R1
          exact set_list pins s σ H _ _ _ ov iv u Q I ro ri rv ⟨_, vs, k, j, rfl, rfl, h1, by rw [← r1.length, ← ixD_eq]; exact qi, q _ E1 R1⟩
      | _ => cases hs
    | none =>
      simp only [ql] at hs
      cases qd : L.dicW l with
      | none => simp only [qd] at hs; cases hs
      | some kvs =>
        simp only [qd] at hs
        cases qs : dshape kvs e f with
        | false => simp only [qs] at hs; cases hs
        | true =>
          simp only [qs] at hs
          cases hs
          cases ro
          exact dic_store z.P z.w z.K (by have := z.hu; omega) I R hl qd qs he ri hf rv fun s' H' I' E1 R1 => ⟨H', I', q H' E1 R1⟩
  | _ => cases hs
end
end FC
end

section
namespace FC
open PySem PySem.Spec PyProof.Rows L2

/-! ### slices -/
def sixD (n d : Nat) : Option Int → Nat
  | none => d
  | some (.ofNat k) => bif Nat.ble k n then k else n
  | some (.negSucc k) => n - (k + 1)
theorem sixD_eq (n d : Nat) : ∀ o : Option Int, sixD n d o = HT.sIx n d o
  | none => rfl
  | some (.ofNat k) => by
    show (bif Nat.ble k n then k else n) = HT.sIx n d (some (k : Int))
    rw [HT.sIx_nat]
    by_cases h : k ≤ n
    · rw [show Nat.ble k n = true from Nat.ble_eq.mpr h]; simp [Nat.min_eq_left h]
    · rw [show Nat.ble k n = false from by rw [Bool.eq_false_iff]; intro z; exact h (Nat.ble_eq.mp z)]
      show n = min k n
      omega
  | some (.negSucc k) => by
    show n - (k + 1) = (if Int.negSucc k < 0 then (Int.negSucc k + (n : Int)).toNat else min (Int.negSucc k).toNat n)
    rw [if_pos (by omega)]
    omega
def takeN : Nat → List D → List D
  | 0, _ => []
  | _ + 1, [] => []
  | n + 1, d :: ds => d :: takeN n ds
theorem takeN_eq : ∀ (n : Nat) (ds : List D), takeN n ds = ds.take n
  | 0, _ => rfl
  | _ + 1, [] => rfl
  | n + 1, d :: ds => by simp [takeN, takeN_eq n ds]
def dropN : Nat → List D → List D
  | 0, ds => ds
  | _ + 1, [] => []
  | n + 1, _ :: ds => dropN n ds
theorem dropN_eq : ∀ (n : Nat) (ds : List D), dropN n ds = ds.drop n
  | 0, _ => rfl
  | _ + 1, [] => rfl
  | n + 1, d :: ds => by simp [dropN, dropN_eq n ds]
def cutD (ds : List D) (lo hi : Option Int) : List D := takeN (sixD ds.length ds.length hi - sixD ds.length 0 lo) (dropN (sixD ds.length 0 lo) ds)
theorem cutD_rep {g : GE} {m : M} {H : Hp} {ds : List D} {vs : List V} {lo hi : Option Int} (r : RepL g m H ds vs) : RepL g m H (cutD ds lo hi) (cutV vs lo hi) := by
  unfold cutD cutV
  rw [takeN_eq, dropN_eq, sixD_eq, sixD_eq, r.length]
  exact (r.drop _).take _
def joinS (ds : List D) : Str := ⟨(ds.map fun d => match d with | .str ⟨cs⟩ => cs.toList.headD 0 | _ => 0).toArray⟩
def dSl (d : D) (lo hi : Option Int) (L : LH) : Option (D × LH) := match d with
  | .loc l => match L.lst l with
    | some ds => L.add (.lst (cutD ds lo hi))
    | none => none
  | .tup ds => some (.tup (cutD ds lo hi), L)
  | .rol ds => L.add (.lst (cutD ds lo hi))
  | .str z => bif lim z.length then some (.str (cutS z lo hi), L) else none
  | _ => none
def rSl' (g : GE) : V → Option Int → Option Int → Hp → VK → Prop := fun x lo hi H Q => ∃ m L d d' L', HRel g m L H ∧ Rep g m H d x ∧ dSl d lo hi L = some (d', L') ∧ ∀ m' H' v, Ext m L H m' L' H' → HRel g m' L' H' → Rep g m' H' d' v → Q v H'
section
variable {g : GE} {W : WX} {X : Cx}
theorem sl_D (z : Cz g W X) : SlR X (rSl' g) := by
  rintro pins s σ H x v vl vu lo hi sl Q I rx hs pl pu ⟨m, L, d, d', L', R, hd, hf, q⟩
  cases hd with
  | loc hl =>
    rename_i l
    dsimp only [dSl] at hf
    cases ql : L.lst l with
    | none => simp only [ql] at hf; cases hf
    | some ds =>
      simp only [ql] at hf
      obtain ⟨vs, h1, r1⟩ := R.lst hl ql
      exact sl_list pins s σ H _ v vl vu lo hi sl Q I rx hs pl pu ⟨_, vs, rfl, SqL.of h1, newL R (cutD_rep r1) hf q⟩
  | rol h1 r1 =>
    dsimp only [dSl] at hf
    exact sl_list pins s σ H _ v vl vu lo hi sl Q I rx hs pl pu ⟨_, _, rfl, z.K ▸ h1.sq, newL R (cutD_rep r1) hf q⟩
  | tup h1 r1 =>
    cases hf
    refine sl_tupA pins s σ H _ v vl vu lo hi sl Q I rx hs pl pu ⟨_, _, rfl, z.K ▸ h1, fun hw => ?_, fun _ => newT R (cutD_rep r1) q⟩
    have c := cutD_rep (lo := lo) (hi := hi) r1
    have e : ∀ vs : List V, HT.sIx vs.length 0 lo = 0 ∧ HT.sIx vs.length vs.length hi = vs.length → cutV vs lo hi = vs := fun vs h => by
      unfold cutV
      rw [h.1, h.2]; simp
    rw [e _ hw] at c
    exact q m H _ .refl R (.tup h1 c)
  | str y =>
    dsimp only [dSl] at hf
    cases hb : lim y.length with
    | false => rw [hb] at hf; cases hf
    | true =>
      rw [hb] at hf
      cases hf
      exact sl_str pins s σ H _ v vl vu lo hi sl Q I rx hs pl pu ⟨y, rfl, lim_ok hb, q m H _ .refl R (.str _)⟩
  | _ => cases hf
/-- a slice's part -/
abbrev FO := Sl → LH → Rs (Option Int)
def RO (_ : M) (_ : Hp) (a b : Option Int) : Prop := a = b
def TO' (g : GE) (W : WX) (f : FO) : TO := fun σ H Q => ∃ m L δ, HRel g m L H ∧ SRel g m H δ σ ∧ TMP g W σ RO (f δ L) m L H Q
def oNo : FO := fun _ L => .ok none L
def oSm (f : FE) : FO := fun δ L => (f δ L).bind fun d L1 => match d with
  | .int i => .ok (some i) L1
  | _ => .bad
def xSl (a : FE) (lo hi : FO) : FE := fun δ L => (a δ L).bind fun x L1 => (lo δ L1).bind fun p L2 => (hi δ L2).bind fun q L3 => ofO (dSl x p q L3)
theorem pO_none : PO X none (TO' g W oNo) := ⟨fun pins s σ H Q I h => by
  obtain ⟨m, L, δ, R, S, h⟩ := h
  exact po_none.run pins s σ H Q I (h m H none .refl R rfl)⟩
theorem pO_some {e : Expr} {f : FE} (h : PE X e (TE' g W f)) : PO X (some e) (TO' g W (oSm f)) := ⟨fun pins s σ H Q I hw => by
  refine (po_some h).run pins s σ H Q I ?_
  obtain ⟨m, L, δ, R, S, hw⟩ := hw
  refine te_mono (te_bind R S hw) fun x H1 ⟨m1, L1, d, E1, R1, S1, r1, h1⟩ => ?_
  cases r1 with
  | int i => exact ⟨i, rfl, h1 m1 H1 _ .refl R1 rfl⟩
  | _ => exact h1.elim⟩
theorem to_bind {γ ε : Type} {f : FO} {k : Option Int → LH → Rs γ} {Rl : M → Hp → γ → ε → Prop} {σ : L2.St} {m : M} {L : LH} {H : Hp} {δ : Sl} {Q : ε → Hp → Prop} (R : HRel g m L H) (S : SRel g m H δ σ) (h : TMP g W σ Rl ((f δ L).bind k) m L H Q) :
    TO' g W f σ H (fun o H' => ∃ m' L', Ext m L H m' L' H' ∧ HRel g m' L' H' ∧ SRel g m' H' δ σ ∧ TMP g W σ Rl (k o L') m' L' H' Q) :=
  ⟨m, L, δ, R, S, TMP.mono (TMP.bind h) fun _ _ ⟨m', L', a, E, R', r, h'⟩ => ⟨m', L', E, R', S.ext E R, by cases (show a = _ from r); exact h'⟩⟩
theorem pE_sl {e : Expr} {lo hi : Option Expr} {fe : FE} {fl fh : FO} {p2 pos : Pos} (z : Cz g W X) (he : PE X e (TE' g W fe)) (hl : PO X lo (TO' g W fl)) (hu : PO X hi (TO' g W fh)) : PE X (.Subscript e (.Slice lo hi none p2) pos) (TE' g W (xSl fe fl fh)) :=
  (pe_slice (sl_D z) he hl hu).imp fun σ H Q h => by
    obtain ⟨m, L, δ, R, S, h⟩ := te_of h
    refine te_mono (te_bind R S h) fun x H1 ⟨m1, L1, d, E1, R1, S1, r1, h1⟩ => ?_
    obtain ⟨m, L, δ, R, S, h⟩ := to_bind R1 S1 h1
    refine ⟨m, L, δ, R, S, TMP.mono h fun l H2 ⟨m2, L2, E2, R2, S2, h2⟩ => ?_⟩
    obtain ⟨m, L, δ, R, S, h⟩ := to_bind R2 S2 h2
    refine ⟨m, L, δ, R, S, TMP.mono h fun u H3 ⟨m3, L3, E3, R3, S3, h3⟩ => ?_⟩
    obtain ⟨d', L', h4, h5⟩ := ofO_ok h3
    exact ⟨m3, L3, d, d', L', R3, (r1.ext E2 R1).ext E3 R2, h4, h5⟩

/-! ### xs[::-1] -/
theorem fm_congr {α β : Type} {f h : α → Option β} : ∀ l : List α, (∀ j ∈ l, f j = h j) → l.filterMap f = l.filterMap h
  | [], _ => rfl
  | a :: l, e => by rw [List.filterMap_cons, List.filterMap_cons, e a List.mem_cons_self, fm_congr l fun j hj => e j (List.mem_cons_of_mem _ hj)]
section
variable {prog : Program} {w : World} {A : Around} {E : Value → Shared → Prop} {s : Shared}
theorem tup_turned {tp sl : Addr} {its : Array Value} {k : Tok} {Q : Value → Shared → Prop} (ht : IsTup s.heap tp its) (hs : s.heap.get? sl = some { cls := .type "slice", data := .fields #[.none, .none, .int (-1) k] })
    (fin : Q (.ref s.heap.objs.size) { s with heap := s.heap.push { cls := .type "tuple", data := .seq its.toList.reverse.toArray } }) (few : its.size ≤ sizeLine) : wpAny (model prog w) A (getItem (.ref tp) (.ref sl)) Q E s := by
  have tySl : s.TypeIs (.ref sl) "slice" := ⟨_, hs, rfl⟩
  unfold getItem
  try with_reducible refine wpAny_holding ?_
  first | refine wpAny_bind (wpAny_pure ?_) | skip
  refine wpAny_bind (wpAny_sequenceKey ht.typeIs (by decide) ?_)
  refine wpAny_bind (wpAny_callSpecial?_slot (name := Str.ofString "__getitem__") ht.typeIs PyProof.Rows.slot_tuple_getitem (wpAny_call_entry PyProof.Rows.slot_tuple_getitem ht.typeIs entry_tuple_getitem ?_ (args_tuple_getitem _ _)))
  show wpAny _ _ (Builtin.Tuple.tupleItemsOf (.ref tp) >>= _) _ _ s
  refine wpAny_bind (tupleItemsOf_ ht (wpAny_bind (wpAny_typeOf tySl ?_)))
  rw [if_pos (by decide)]
  have ap : ∀ {R : Int × Int × Nat → Shared → Prop}, R ((its.size : Int) - 1, -1, its.size) s → wpAny (model prog w) A.in1 (Builtin.Slice.sliceApplied (.ref sl) (pure (its.size : Int))) R E s := fun {R} hR => by
    unfold Builtin.Slice.sliceApplied Builtin.Slice.sliceFields
    refine wpAny_bind (wpAny_bind (wpAny_field hs rfl (x := .none) rfl (wpAny_bind (wpAny_field hs rfl (x := .none) rfl (wpAny_bind (wpAny_field hs rfl (x := .int (-1) k) rfl (wpAny_pure ?_)))))))
    refine wpAny_bind (slicePart_int ?_)
    show wpAny _ _ (if ((-1 : Int) == 0) = true then _ else _) _ _ s
    rw [if_neg (by decide)]
    refine wpAny_bind (slicePart_none (wpAny_bind (slicePart_none (wpAny_bind (wpAny_pure ?_)))))
    show wpAny _ _ (pure ((its.size : Int) - 1, (-1 : Int), Builtin.Slice.slicePlaces ((its.size : Int) - 1) (-1) (-1))) _ _ s
    have e : Builtin.Slice.slicePlaces ((its.size : Int) - 1) (-1) (-1) = its.size := by
      unfold Builtin.Slice.slicePlaces
      rw [if_neg (by decide), show (-(-1 : Int)) = 1 from rfl, Int.ediv_one]
      split <;> omega
    rw [e]
    exact wpAny_pure hR
  refine wpAny_bind (ap ?_)
  show wpAny _ _ (if (((its.size : Int) - 1) == 0 && (-1 : Int) == 1 && its.size == its.size) = true then _ else _) _ _ s
  have no : ¬ ((((its.size : Int) - 1) == 0 && (-1 : Int) == 1 && its.size == its.size) = true) := by
    rw [show ((-1 : Int) == 1) = false from rfl]; simp
  rw [if_neg no]
  have pick : ((List.range its.size).filterMap fun (j : Nat) => its[(((its.size : Int) - 1) + (j : Int) * (-1)).toNat]?).toArray = its.toList.reverse.toArray := by
    congr 1
    have : ∀ (xs : List Value), ((List.range xs.length).filterMap fun (j : Nat) => xs[(((xs.length : Int) - 1) + (j : Int) * (-1)).toNat]?) = xs.reverse := by
      intro xs
      have e1 : ((List.range xs.length).filterMap fun (j : Nat) => xs[(((xs.length : Int) - 1) + (j : Int) * (-1)).toNat]?) = ((List.range xs.length).filterMap fun j => xs.reverse[j]?) := by
        refine fm_congr _ fun j hj => ?_
        have hj' : j < xs.length := List.mem_range.mp hj
        rw [List.getElem?_reverse hj']
        congr 1
        omega
      rw [e1]
      have e2 : ∀ (ys : List Value), ((List.range ys.length).filterMap fun j => ys[j]?) = ys := by
        intro ys
        induction ys with
        | nil => rfl
        | cons y ys ih =>
          rw [List.length_cons, List.range_succ_eq_map, List.filterMap_cons, List.filterMap_map]
          simp only [List.getElem?_cons_zero]
          congr 1
      have := e2 xs.reverse
      rw [List.length_reverse] at this
      exact this
    have := this its.toList
    simpa using this
  rw [pick]
  have ok : sizeOk (.seq its.toList.reverse.toArray) := by
    show its.toList.reverse.toArray.size ≤ sizeLine
    simpa using few
  first
    | exact wpAny_bind (m := Builtin.Tuple.tupleExact _) (wpAny_newObj_type (wpAny_pure ⟨_, rfl, wpAny_pure fin⟩) ok)
    | exact wpAny_bind (m := Builtin.Tuple.tupleExact _) (wpAny_newObj_type (wpAny_bind (wpAny_pure (wpAny_pure ⟨_, rfl, wpAny_pure fin⟩))) ok)
    | exact wpAny_bind (wpAny_bind (m := Builtin.Tuple.tupleExact _) (wpAny_newObj_type (wpAny_pure (wpAny_pure ⟨_, rfl, wpAny_pure fin⟩)) ok))
    | exact wpAny_bind (wpAny_bind (m := Builtin.Tuple.tupleExact _) (wpAny_newObj_type (wpAny_pure ⟨_, rfl, wpAny_pure fin⟩) ok))
end
def revD (d : D) (L : LH) : Option (D × LH) := match d with
  | .loc l => match L.lst l with
    | some ds => L.add (.lst ds.reverse)
    | none => none
  | .tup ds => some (.tup ds.reverse, L)
  | .rol ds => L.add (.lst ds.reverse)
  | _ => none
def xRev (a : FE) : FE := fun δ L => (a δ L).bind fun x L1 => ofO (revD x L1)
theorem pE_rev {e : Expr} {fe : FE} {k : Nat} {p1 p2 p3 pos : Pos} (z : Cz g W X) (he : PE X e (TE' g W fe)) : PE X (.Subscript e (.Slice none none (some (.UnaryOp .USub (.Constant (.int 1) k p1) p2)) p3) pos) (TE' g W (xRev fe)) := by
  refine ⟨fun pins s σ H Q I h => ?_⟩
  obtain ⟨m, L, δ, R, S, h⟩ := te_of h
  refine Subscript_ (thn (he.run pins s σ H _ I (te_bind R S h)) fun v s1 ⟨x, H1, I1, rx, m1, L1, d, E1, R1, S1, r1, h1⟩ => ?_)
  obtain ⟨d', L', h2, h3⟩ := ofO_ok h1
  have part : PO X (some (.UnaryOp .USub (.Constant (.int 1) k p1) p2)) (tPart (tUn (rU fun i => .int (-i)) (tC (.int 1)))) := po_some (pe_un un_neg pe_int)
  refine wpAny_Slice (thn (po_none.run pins s1 σ H1 (fun o K1 => o = none ∧ K1 = H1) I1 ⟨rfl, rfl⟩) fun va s2 ⟨oa, K1, J1, pa, ea, ka⟩ => ?_)
  subst ea ka
  refine thn (po_none.run pins s2 σ _ (fun o K2 => o = none ∧ K2 = K1) J1 ⟨rfl, rfl⟩) fun vb s3 ⟨ob, K2, J2, pb, eb, kb⟩ => ?_
  subst eb kb
  refine thn (part.run pins s3 σ _ (fun o K3 => o = some (-1) ∧ K3 = K2) J2 ⟨1, rfl, -1, rfl, rfl, rfl⟩) fun vc s4 ⟨oc, K3, J3, pc, ec, kc⟩ => ?_
  subst ec kc
  have J4 : L2.Inv X pins σ K3 { s4 with heap := s4.heap.push { cls := .type "slice", data := .fields #[va, vb, vc] } } := J3.kept (t' := s4.toks) fun b o q => Heap.get?_push_of_some _ q
  show wpAny (model X.prog X.w) X.A (subscriptTail e (.Slice none none (some (.UnaryOp .USub (.Constant (.int 1) k p1) p2)) p3) v (.ref s4.heap.objs.size)) (EP X pins σ Q) X.xe { s4 with heap := s4.heap.push { cls := .type "slice", data := .fields #[va, vb, vc] } }
  have list : ∀ {a : Addr} {vs : List V} {ds : List D}, x = .ref a → SqL X.K K3 a vs → RepL g m1 K3 ds vs → L1.add (.lst ds.reverse) = some (d', L') → wpAny (model X.prog X.w) X.A (subscriptTail e (.Slice none none (some (.UnaryOp .USub (.Constant (.int 1) k p1) p2)) p3) v (.ref s4.heap.objs.size)) (EP X pins σ Q) X.xe { s4 with heap := s4.heap.push { cls := .type "slice", data := .fields #[va, vb, vc] } } := fun {a vs ds} ex hq hr ha => by
    subst ex
    cases rx
    obtain ⟨its, rv, pl, hz⟩ := J4.list hq
    refine tail_any (ops := [.ref a, .ref s4.heap.objs.size]) pl.isList.typeIs (PySem.slot_list_getitem.lookup) ?_ (by with_unfolding_all rfl)
    have hlen := rv.length
    refine wpAny_getItem_list_slice pl.isList (Heap.IsSliceOf.new _ va vb vc) pa pb pc (by decide) ?_ (by rw [List.size_toArray]; omega)
    rw [PySem.W.krv_pick]
    refine ⟨.ref _, _, J4.laid (t' := s4.toks) (o := .lst vs.reverse) (fun b o q => Heap.get?_push_of_some _ q) (Nat.le_refl _) ⟨by rw [List.length_reverse]; exact hz, _, 0, rv.reverse, Heap.get?_push_size _ rfl⟩, rfl, newL R1 hr.rev ha h3 _ (J4.hok.fresh (Nat.le_refl _))⟩
  cases r1 with
  | loc hl =>
    rename_i l
    dsimp only [revD] at h2
    cases ql : L1.lst l with
    | none => simp only [ql] at h2; cases h2
    | some ds =>
      simp only [ql] at h2
      obtain ⟨vs, q1, q2⟩ := R1.lst hl ql
      exact list rfl (SqL.of q1) q2 h2
  | rol q1 q2 => exact list rfl (z.K ▸ q1.sq) q2 h2
  | tup q1 q2 =>
    cases h2
    cases rx
    rw [← z.K] at q1
    obtain ⟨its, rv, pl, hz⟩ := J4.tuple q1
    have hlen := rv.length
    cases pa
    cases pb
    cases pc
    refine tail_any (ops := [.ref _, .ref s4.heap.objs.size]) pl.typeIs (slot_tuple_getitem.lookup) (tup_turned pl (Heap.get?_push_size _ rfl) ?_ (by rw [List.size_toArray]; omega)) (by with_unfolding_all rfl)
    refine ⟨.ref _, _, J4.laid (t' := s4.toks) (o := .tup _) (fun b o q => Heap.get?_push_of_some _ q) (Nat.le_refl _) ⟨by rw [List.length_reverse]; exact hz, _, rv.reverse, ?_⟩, rfl, newT R1 q2.rev h3 _ (J4.hok.fresh (Nat.le_refl _))⟩
    exact ⟨_, Heap.get?_push_size _ rfl, rfl, 0, by simp⟩
  | _ => cases h2
end
end FC
end

section
namespace FC
open PySem PySem.Spec PyProof.Rows L2

/-! ### argument lists without stars -/
def plainE : Expr → Bool
  | .Starred _ _ => false
  | _ => true
theorem star1 {e : Expr} {es : List Expr} {env : Env} (h : plainE e = true) : starEach (e :: es) env = (false, eval e env) :: starEach es env := by
  cases e <;> first | rfl | cases h
theorem star_none : ∀ {es : List Expr} {env : Env} {pos : Pos}, es.all plainE = true → (backTo pos (starEach es env)).any (·.1) = false
  | [], _, _, _ => rfl
  | e :: es, env, pos, h => by
    rw [List.all_cons, Bool.and_eq_true] at h
    rw [star1 h.1]
    show (false || (backTo pos (starEach es env)).any (·.1)) = false
    rw [star_none h.2]; rfl
theorem star_few {es : List Expr} {env : Env} {pos : Pos} (h : es.all plainE = true) (hl : es.length < 30) :
    ((backTo pos (starEach es env)).all (fun x => !x.1) && (backToKw pos (keywordEach [] env)).all (fun x => x.1.isSome) && decide (es.length + ([] : List Keyword).length + (if ([] : List Keyword).isEmpty then 0 else 1) < 30)) = true := by
  have all : ∀ {es : List Expr}, es.all plainE = true → (backTo pos (starEach es env)).all (fun x => !x.1) = true := by
    intro es
    induction es with
    | nil => intro _; rfl
    | cons e es ih =>
      intro h
      rw [List.all_cons, Bool.and_eq_true] at h
      rw [star1 h.1]
      show (!false && (backTo pos (starEach es env)).all (fun x => !x.1)) = true
      rw [ih h.2]; rfl
  rw [all h]
  have e : (backToKw pos (keywordEach [] env)).all (fun x => x.1.isSome) = true := rfl
  rw [e]
  simp [hl]

/-! ### more operators -/
def dPow : F2
  | .int i, .int j, L => bif ltI (-1) j && ltI j 1000 && smallI i then some (.int (i ^ j.toNat), L) else none
  | _, _, _ => none
def dBand : F2
  | .int i, .int j, L => some (.int (Builtin.bitAnd i j), L)
  | _, _, _ => none
def dBxor : F2
  | .int i, .int j, L => some (.int (Builtin.bitXor i j), L)
  | _, _, _ => none
def dShl : F2
  | .int i, .int j, L => bif ltI (-1) j && ltI j 1000 && smallI i then some (.int (i * 2 ^ j.toNat), L) else none
  | _, _, _ => none
def dShr : F2
  | .int i, .int j, L => bif ltI (-1) j then some (.int (i / 2 ^ j.toNat), L) else none
  | _, _, _ => none
def dNeg : F1
  | .int i, L => some (.int (-i), L)
  | _, _ => none
section
variable {g : GE} {W : WX} {X : Cx}
theorem smallI_ok {i : Int} (h : smallI i = true) : i.natAbs < 2 ^ 64 := by
  have := Nat.le_of_ble_eq_true h
  omega
theorem od_pow : OpR X (binaryOp .Pow) (rD2 g dPow) := by
  rintro pins s σ H x y v u Q I rx ry ⟨m, L, d, e, d', L', R, hd, he, hf, q⟩
  unfold dPow at hf
  split at hf
  · cases hd; cases he
    rename_i i j
    cases hb : ltI (-1) j && ltI j 1000 && smallI i with
    | false => rw [hb] at hf; cases hf
    | true =>
      rw [hb] at hf; cases hf
      rw [Bool.and_eq_true, Bool.and_eq_true, ltI_eq, ltI_eq] at hb
      have h1 := of_decide_eq_true hb.1.1
      have h2 := of_decide_eq_true hb.1.2
      exact op_pow pins s σ H _ _ v u Q I rx ry ⟨i, j, rfl, rfl, ⟨by omega, by omega, smallI_ok hb.2⟩, q m H _ .refl R (.int _)⟩
  · cases hf
theorem od_band : OpR X (binaryOp .BitAnd) (rD2 g dBand) := by
  rintro pins s σ H x y v u Q I rx ry ⟨m, L, d, e, d', L', R, hd, he, hf, q⟩
  unfold dBand at hf
  split at hf
  · cases hd; cases he; cases hf
    exact op_and pins s σ H _ _ v u Q I rx ry ⟨_, _, rfl, rfl, q m H _ .refl R (.int _)⟩
  · cases hf
theorem od_bxor : OpR X (binaryOp .BitXor) (rD2 g dBxor) := by
  rintro pins s σ H x y v u Q I rx ry ⟨m, L, d, e, d', L', R, hd, he, hf, q⟩
  unfold dBxor at hf
  split at hf
  · cases hd; cases he; cases hf
    exact op_xor pins s σ H _ _ v u Q I rx ry ⟨_, _, rfl, rfl, q m H _ .refl R (.int _)⟩
  · cases hf
theorem od_shl : OpR X (binaryOp .LShift) (rD2 g dShl) := by
  rintro pins s σ H x y v u Q I rx ry ⟨m, L, d, e, d', L', R, hd, he, hf, q⟩
  unfold dShl at hf
  split at hf
  · cases hd; cases he
    rename_i i j
    cases hb : ltI (-1) j && ltI j 1000 && smallI i with
    | false => rw [hb] at hf; cases hf
    | true =>
      rw [hb] at hf; cases hf
      rw [Bool.and_eq_true, Bool.and_eq_true, ltI_eq, ltI_eq] at hb
      have h1 := of_decide_eq_true hb.1.1
      have h2 := of_decide_eq_true hb.1.2
      exact op_shl pins s σ H _ _ v u Q I rx ry ⟨i, j, rfl, rfl, ⟨by omega, by omega, smallI_ok hb.2⟩, q m H _ .refl R (.int _)⟩
  · cases hf
theorem od_shr : OpR X (binaryOp .RShift) (rD2 g dShr) := by
  rintro pins s σ H x y v u Q I rx ry ⟨m, L, d, e, d', L', R, hd, he, hf, q⟩
  unfold dShr at hf
  split at hf
  · cases hd; cases he
    rename_i i j
    cases hb : ltI (-1) j with
    | false => rw [hb] at hf; cases hf
    | true =>
      rw [hb] at hf; cases hf
      rw [ltI_eq] at hb
      have h1 := of_decide_eq_true hb
      exact op_shr pins s σ H _ _ v u Q I rx ry ⟨i, j, rfl, rfl, (by omega : (0 : Int) ≤ j), q m H _ .refl R (.int _)⟩
  · cases hf
theorem ud_neg : UnR X (unaryOp .USub) (rD1 g dNeg) := by
  rintro pins s σ H x v Q I rx ⟨m, L, d, d', L', R, hd, hf, q⟩
  unfold dNeg at hf
  split at hf
  · cases hd; cases hf
    exact un_neg pins s σ H _ v Q I rx ⟨_, rfl, q m H _ .refl R (.int _)⟩
  · cases hf
/-! op= at a name, on ints and texts -/
theorem id_add : PIp X .Add (fun x y H Q => rD2 g dAdd x y H Q ∧ ∀ l, x ≠ .ref l) := by
  rintro pins s σ H x y v u Q I rx ry ⟨⟨m, L, d, e, d', L', R, hd, he, hf, q⟩, nr⟩
  unfold dAdd at hf
  split at hf
  · cases hd; cases he; cases hf
    exact iop_add pins s σ H _ _ v u Q I rx ry ⟨_, _, rfl, rfl, q m H _ .refl R (.int _)⟩
  · cases hd; cases he
    rename_i a b
    cases hb : lim (a.length + b.length) with
    | false => rw [hb] at hf; cases hf
    | true =>
      rw [hb] at hf; cases hf
      exact iop_add_str pins s σ H _ _ v u Q I rx ry ⟨_, _, rfl, rfl, lim_ok hb, q m H _ .refl R (.str _)⟩
  · cases hd; exact absurd rfl (nr _)
  · cases hd; exact absurd rfl (nr _)
  · cases hf
theorem id_sub : PIp X .Sub (fun x y H Q => rD2 g dSub x y H Q) := by
  rintro pins s σ H x y v u Q I rx ry ⟨m, L, d, e, d', L', R, hd, he, hf, q⟩
  unfold dSub at hf
  split at hf
  · cases hd; cases he; cases hf
    exact iop_sub pins s σ H _ _ v u Q I rx ry ⟨_, _, rfl, rfl, q m H _ .refl R (.int _)⟩
  · cases hf

/-! ### in, not in -/
def inDat (d c : D) (L : LH) : Option Bool := match dat L d with
  | some x => match dat L c with
    | some (.list ys) => some (ys.any fun y => PyData.eqv y x)
    | some (.tuple ys) => some (ys.any fun y => PyData.eqv y x)
    | _ => none
  | none => none
def dMem (d c : D) (L : LH) : Option Bool := match c with
  | .loc l => match L.dic l with
    | some kvs => match keyFits kvs d with
      | true => some (findD kvs d).isSome
      | false => none
    | none => inDat d c L
  | .str j => match d with
    | .str i => some (!(Builtin.Str.occurrences j i 0 j.length 1).isEmpty)
    | _ => none
  | _ => inDat d c L
def dIn : F2 := fun d c L => match dMem d c L with
  | some b => some (.bl b, L)
  | none => none
def dNotIn : F2 := fun d c L => match dMem d c L with
  | some b => some (.bl (!b), L)
  | none => none
theorem inDat_ok {m : M} {L : LH} {H : Hp} (R : HRel g m L H) {d c : D} {x y : V} {b : Bool} (hd : Rep g m H d x) (hc : Rep g m H c y) (h : inDat d c L = some b) :
    ∃ p ys, Dp g.K H x p ∧ SeqAt.shaped p = true ∧ b = (ys.any fun z => PyData.eqv z p) ∧ ((Dp g.K H y (.list ys) ∧ SeqAt.shaped (.list ys) = true) ∨ (Dp g.K H y (.tuple ys) ∧ SeqAt.shaped (.tuple ys) = true)) := by
  unfold inDat at h
  split at h
  · rename_i p e1
    obtain ⟨a1, a2⟩ := dat_ok R hd e1
    split at h
    · rename_i ys e2
      cases h
      exact ⟨p, ys, a1, a2, rfl, .inl (dat_ok R hc e2)⟩
    · rename_i ys e2
      cases h
      exact ⟨p, ys, a1, a2, rfl, .inr (dat_ok R hc e2)⟩
    · cases h
  · cases h
theorem mem_cases {m : M} {L : LH} {H : Hp} (R : HRel g m L H) {d c : D} {x y : V} {b : Bool} (hd : Rep g m H d x) (hc : Rep g m H c y) (h : dMem d c L = some b) :
    inDat d c L = some b ∨ (∃ i j, x = .str i ∧ y = .str j ∧ b = !(Builtin.Str.occurrences j i 0 j.length 1).isEmpty) ∨ ∃ a kvs, y = .ref a ∧ ORep g m H a (.dic kvs) ∧ keyFits kvs d = true ∧ b = (findD kvs d).isSome := by
  cases hc with
  | loc hl =>
    rename_i l
    dsimp only [dMem] at h
    cases q : L.dic l with
    | none => simp only [q] at h; exact .inl h
    | some kvs =>
      simp only [q] at h
      cases k : keyFits kvs d with
      | false => simp only [k] at h; cases h
      | true => simp only [k] at h; cases h; exact .inr (.inr ⟨_, kvs, rfl, R.dic hl q, k, rfl⟩)
  | str j =>
    dsimp only [dMem] at h
    cases hd with
    | str i => cases h; exact .inr (.inl ⟨i, j, rfl, rfl, rfl⟩)
    | _ => cases h
  | _ => exact .inl h
theorem od_in (z : Cz g W X) : OpR X (compareOp .In) (rD2 g dIn) := by
  rintro pins s σ H x y v u Q I rx ry ⟨m, L, d, e, d', L', R, hd, he, hf, q⟩
  unfold dIn at hf
  split at hf
  · rename_i b hb
    cases hf
    have fin := q m H (.bl b) .refl R (.bl _)
    rcases mem_cases R hd he hb with h | ⟨i, j, rfl, rfl, rfl⟩ | ⟨a, kvs, rfl, hx, hk, rfl⟩
    · obtain ⟨p, ys, a1, a2, eb, h⟩ := inDat_ok R hd he h
      rw [eb] at fin
      rw [← z.K] at a1
      obtain ⟨as, r1⟩ := Dp.reads I p x v a1 rx
      have hu : X.A.units + 65 < cLine := by have := z.hu; omega
      rcases h with ⟨h1, h2⟩ | ⟨h1, h2⟩
      · rw [← z.K] at h1
        obtain ⟨bs, r2⟩ := Dp.reads I (.list ys) y u h1 ry
        exact SeqAt.in_list_reads r2 r1 (SeqAt.canLay_of_shaped h2) (SeqAt.canLay_of_shaped a2) (room_in_shaped a2 hu) ⟨.bl _, H, I, rfl, fin⟩
      · rw [← z.K] at h1
        obtain ⟨bs, r2⟩ := Dp.reads I (.tuple ys) y u h1 ry
        exact SeqAt.in_tuple_reads r2 r1 (SeqAt.canLay_of_shaped h2) (SeqAt.canLay_of_shaped a2) (room_in_shaped a2 hu) ⟨.bl _, H, I, rfl, fin⟩
    · exact op_in_str pins s σ H _ _ v u Q I rx ry ⟨i, j, rfl, rfl, fin⟩
    · cases ry
      exact dic_in z.P z.w z.K (by have := z.hu; omega) I hx hk hd rx fun s' I' => ⟨.bl _, H, I', rfl, fin⟩
  · cases hf
theorem od_notIn (z : Cz g W X) : OpR X (compareOp .NotIn) (rD2 g dNotIn) := by
  rintro pins s σ H x y v u Q I rx ry ⟨m, L, d, e, d', L', R, hd, he, hf, q⟩
  unfold dNotIn at hf
  split at hf
  · rename_i b hb
    cases hf
    have fin := q m H (.bl (!b)) .refl R (.bl _)
    rcases mem_cases R hd he hb with h | ⟨i, j, rfl, rfl, rfl⟩ | ⟨a, kvs, rfl, hx, hk, rfl⟩
    · obtain ⟨p, ys, a1, a2, eb, h⟩ := inDat_ok R hd he h
      rw [eb] at fin
      rw [← z.K] at a1
      obtain ⟨as, r1⟩ := Dp.reads I p x v a1 rx
      have hu : X.A.units + 65 < cLine := by have := z.hu; omega
      rcases h with ⟨h1, h2⟩ | ⟨h1, h2⟩
      · rw [← z.K] at h1
        obtain ⟨bs, r2⟩ := Dp.reads I (.list ys) y u h1 ry
        exact SeqAt.notIn_list_reads r2 r1 (SeqAt.canLay_of_shaped h2) (SeqAt.canLay_of_shaped a2) (room_in_shaped a2 hu) ⟨.bl _, H, I, rfl, fin⟩
      · rw [← z.K] at h1
        obtain ⟨bs, r2⟩ := Dp.reads I (.tuple ys) y u h1 ry
        exact SeqAt.notIn_tuple_reads r2 r1 (SeqAt.canLay_of_shaped h2) (SeqAt.canLay_of_shaped a2) (room_in_shaped a2 hu) ⟨.bl _, H, I, rfl, fin⟩
    · exact op_notin_str pins s σ H _ _ v u Q I rx ry ⟨i, j, rfl, rfl, fin⟩
    · cases ry
      exact dic_notIn z.P z.w z.K (by have := z.hu; omega) I hx hk hd rx fun s' I' => ⟨.bl _, H, I', rfl, fin⟩
  · cases hf
end
end FC
end

section
namespace FC
open PySem PySem.Spec PyProof.Rows L2

/-! ### lists of one sort -/
def intsD : List D → Option (List Int)
  | [] => some []
  | .int i :: ds => match intsD ds with
    | some is => some (i :: is)
    | none => none
  | _ :: _ => none
def blsD : List D → Option (List Bool)
  | [] => some []
  | .bl b :: ds => match blsD ds with
    | some is => some (b :: is)
    | none => none
  | _ :: _ => none
def strsD : List D → Option (List Str)
  | [] => some []
  | .str b :: ds => match strsD ds with
    | some is => some (b :: is)
    | none => none
  | _ :: _ => none
section
variable {g : GE} {m : M} {H : Hp}
theorem intsD_ok : ∀ {ds : List D} {vs : List V} {ns : List Int}, RepL g m H ds vs → intsD ds = some ns → vs = ns.map V.int
  | _, _, _, .nil, e => by cases e; rfl
  | _, _, _, .cons (d := d) (ds := ds) h r, e => by
    cases h with
    | int i =>
      rw [intsD] at e
      cases q : intsD ds with
      | none => rw [q] at e; cases e
      | some is => rw [q] at e; cases e; rw [intsD_ok r q]; rfl
    | _ => simp [intsD] at e
theorem blsD_ok : ∀ {ds : List D} {vs : List V} {ns : List Bool}, RepL g m H ds vs → blsD ds = some ns → vs = ns.map V.bl
  | _, _, _, .nil, e => by cases e; rfl
  | _, _, _, .cons (d := d) (ds := ds) h r, e => by
    cases h with
    | bl i =>
      rw [blsD] at e
      cases q : blsD ds with
      | none => rw [q] at e; cases e
      | some is => rw [q] at e; cases e; rw [blsD_ok r q]; rfl
    | _ => simp [blsD] at e
theorem strsD_ok : ∀ {ds : List D} {vs : List V} {ns : List Str}, RepL g m H ds vs → strsD ds = some ns → vs = ns.map V.str
  | _, _, _, .nil, e => by cases e; rfl
  | _, _, _, .cons (d := d) (ds := ds) h r, e => by
    cases h with
    | str i =>
      rw [strsD] at e
      cases q : strsD ds with
      | none => rw [q] at e; cases e
      | some is => rw [q] at e; cases e; rw [strsD_ok r q]; rfl
    | _ => simp [strsD] at e
theorem repL_strs : ∀ ys : List Str, RepL g m H (ys.map D.str) (ys.map V.str)
  | [] => .nil
  | y :: ys => .cons (.str y) (repL_strs ys)
theorem repL_ints : ∀ ys : List Int, RepL g m H (ys.map D.int) (ys.map V.int)
  | [] => .nil
  | y :: ys => .cons (.int y) (repL_ints ys)
/-- a list, by value -/
def lisD (L : LH) : D → Option (List D)
  | .loc l => L.lst l
  | .rol ds => some ds
  | _ => none
def seqsD (L : LH) : D → Option (List D)
  | .loc l => L.lst l
  | .rol ds => some ds
  | .tup ds => some ds
  | _ => none
theorem lisD_ok {L : LH} {X : Cx} (hK : X.K = g.K) (R : HRel g m L H) {d : D} {x : V} {ds : List D} (r : Rep g m H d x) (e : lisD L d = some ds) : ∃ a vs, x = .ref a ∧ SqL X.K H a vs ∧ RepL g m H ds vs := by
  cases r with
  | loc hl => obtain ⟨vs, h1, h2⟩ := R.lst hl e; exact ⟨_, vs, rfl, SqL.of h1, h2⟩
  | rol h1 h2 => cases e; exact ⟨_, _, rfl, hK ▸ h1.sq, h2⟩
  | _ => cases e
theorem seqsD_ok {L : LH} {X : Cx} (hK : X.K = g.K) (R : HRel g m L H) {d : D} {x : V} {ds : List D} (r : Rep g m H d x) (e : seqsD L d = some ds) : ∃ a vs, x = .ref a ∧ (SqL X.K H a vs ∨ SqT X.K H a vs) ∧ RepL g m H ds vs := by
  cases r with
  | loc hl => obtain ⟨vs, h1, h2⟩ := R.lst hl e; exact ⟨_, vs, rfl, .inl (SqL.of h1), h2⟩
  | rol h1 h2 => cases e; exact ⟨_, _, rfl, .inl (hK ▸ h1.sq), h2⟩
  | tup h1 h2 => cases e; exact ⟨_, _, rfl, .inr (hK ▸ h1), h2⟩
  | _ => cases e
theorem rep1 {ds : List D} {vs : List V} {d : D} (r : RepL g m H ds vs) (e : ds = [d]) : ∃ v, vs = [v] ∧ Rep g m H d v := by
  subst e
  cases r with
  | cons h t => cases t; exact ⟨_, rfl, h⟩
theorem rep2 {ds : List D} {vs : List V} {d e : D} (r : RepL g m H ds vs) (q : ds = [d, e]) : ∃ v w, vs = [v, w] ∧ Rep g m H d v ∧ Rep g m H e w := by
  subst q
  cases r with
  | cons h t => obtain ⟨w, rfl, h2⟩ := rep1 t rfl; exact ⟨_, _, rfl, h, h2⟩
end

/-! ### builtins -/
def lenD (L : LH) : D → Option Nat
  | .loc l => match L.lst l with
    | some ds => some ds.length
    | none => match L.dic l with
      | some kvs => some kvs.length
      | none => none
  | .tup ds => some ds.length
  | .rol ds => some ds.length
  | .str x => bif lim x.length then some x.length else none
  | _ => none
def dLen : FN
  | [d], L => match lenD L d with
    | some n => frcN n fun n => some (.int (Int.ofNat n), L)
    | none => none
  | _, _ => none
def absI : Int → Int
  | .ofNat n => .ofNat n
  | .negSucc n => .ofNat (n + 1)
theorem absI_eq : ∀ i : Int, absI i = if i < 0 then -i else i
  | .ofNat n => by rw [if_neg (by show ¬ ((n : Int) < 0); omega)]; rfl
  | .negSucc n => by rw [if_pos (by omega)]; rfl
def dAbs : FN
  | [.int i], L => frcI (absI i) fun i => some (.int i, L)
  | _, _ => none
def dInt : FN
  | [.int i], L => some (.int i, L)
  | [.bl b], L => some (.int (match b with | true => 1 | false => 0), L)
  | [.str x], L => bif Nat.ble x.length 640 then match PySem.intText? x with
    | some n => frcI n fun n => some (.int n, L)
    | none => none else none
  | _, _ => none
def dStr : FN
  | [.int i], L => bif Nat.blt i.natAbs.log2 1920 then some (.str (toString i : String), L) else none
  | [.str x], L => some (.str x, L)
  | _, _ => none
def dList : FN
  | [d], L => match seqsD L d with
    | some ds => L.add (.lst ds)
    | none => none
  | _, _ => none
def dTuple : FN
  | [d], L => match seqsD L d with
    | some ds => some (.tup ds, L)
    | none => none
  | _, _ => none
def dSum : FN
  | [d], L => match lisD L d with
    | some ds => match intsD ds with
      | some ns => frcI ns.sum fun n => some (.int n, L)
      | none => none
    | none => none
  | _, _ => none
def dAny : FN
  | [d], L => match lisD L d with
    | some ds => match blsD ds with
      | some bs => some (.bl (bs.any id), L)
      | none => none
    | none => none
  | _, _ => none
def dAll : FN
  | [d], L => match lisD L d with
    | some ds => match blsD ds with
      | some bs => some (.bl (bs.all id), L)
      | none => none
    | none => none
  | _, _ => none
def minI : List Int → Int → Int
  | [], a => a
  | b :: r, a => minI r (bif ltI b a then b else a)
def maxI : List Int → Int → Int
  | [], a => a
  | b :: r, a => maxI r (bif ltI a b then b else a)
theorem minI_ok : ∀ (r : List Int) (a : Int), (minI r a = a ∨ minI r a ∈ r) ∧ minI r a ≤ a ∧ ∀ y ∈ r, minI r a ≤ y
  | [], a => ⟨.inl rfl, Int.le_refl _, fun y h => by cases h⟩
  | b :: r, a => by
    rw [minI, ltI_eq]
    by_cases h : b < a
    · rw [decide_eq_true h]
      obtain ⟨h1, h2, h3⟩ := minI_ok r b
      refine ⟨.inr ?_, Int.le_trans h2 (Int.le_of_lt h), fun y hy => ?_⟩
      · rcases h1 with h1 | h1
        · show minI r b ∈ b :: r
          rw [h1]; exact List.mem_cons_self
        · exact List.mem_cons_of_mem _ h1
      · rcases List.mem_cons.mp hy with rfl | hy
        · exact h2
        · exact h3 y hy
    · rw [decide_eq_false h]
      obtain ⟨h1, h2, h3⟩ := minI_ok r a
      refine ⟨?_, h2, fun y hy => ?_⟩
      · rcases h1 with h1 | h1
        · exact .inl h1
        · exact .inr (List.mem_cons_of_mem _ h1)
      · rcases List.mem_cons.mp hy with rfl | hy
        · exact Int.le_trans h2 (Int.not_lt.mp h)
        · exact h3 y hy
theorem maxI_ok : ∀ (r : List Int) (a : Int), (maxI r a = a ∨ maxI r a ∈ r) ∧ a ≤ maxI r a ∧ ∀ y ∈ r, y ≤ maxI r a
  | [], a => ⟨.inl rfl, Int.le_refl _, fun y h => by cases h⟩
  | b :: r, a => by
    rw [maxI, ltI_eq]
    by_cases h : a < b
    · rw [decide_eq_true h]
      obtain ⟨h1, h2, h3⟩ := maxI_ok r b
      refine ⟨.inr ?_, Int.le_trans (Int.le_of_lt h) h2, fun y hy => ?_⟩
      · rcases h1 with h1 | h1
        · show maxI r b ∈ b :: r
          rw [h1]; exact List.mem_cons_self
        · exact List.mem_cons_of_mem _ h1
      · rcases List.mem_cons.mp hy with rfl | hy
        · exact h2
        · exact h3 y hy
    · rw [decide_eq_false h]
      obtain ⟨h1, h2, h3⟩ := maxI_ok r a
      refine ⟨?_, h2, fun y hy => ?_⟩
      · rcases h1 with h1 | h1
        · exact .inl h1
        · exact .inr (List.mem_cons_of_mem _ h1)
      · rcases List.mem_cons.mp hy with rfl | hy
        · exact Int.le_trans (Int.not_lt.mp h) h2
        · exact h3 y hy
def dMin : FN
  | [.int i, .int j], L => some (.int (bif ltI j i then j else i), L)
  | [d], L => match lisD L d with
    | some ds => match intsD ds with
      | some (a :: ns) => frcI (minI ns a) fun n => some (.int n, L)
      | _ => none
    | none => none
  | _, _ => none
def dMax : FN
  | [.int i, .int j], L => some (.int (bif ltI i j then j else i), L)
  | [d], L => match lisD L d with
    | some ds => match intsD ds with
      | some (a :: ns) => frcI (maxI ns a) fun n => some (.int n, L)
      | _ => none
    | none => none
  | _, _ => none
section
variable {g : GE} {W : WX} {X : Cx}
theorem cd_len (z : Cz g W X) : CallR X (.builtin "len") (rDN g dLen) := by
  rintro pins s σ H xs us Q I rv ⟨m, L, ds, d', L', R, rd, hf, q⟩
  unfold dLen at hf
  split at hf
  · rename_i d
    obtain ⟨x, rfl, rx⟩ := rep1 rd rfl
    cases e : lenD L d with
    | none => simp only [e] at hf; cases hf
    | some n =>
      simp only [e, frcN_eq] at hf
      cases hf
      have fin := q m H (.int (Int.ofNat n)) .refl R (.int _)
      have direct : LenV X.K x H n → wpAny (model X.prog X.w) X.A (call (.builtin "len") us) (EP X pins σ Q) X.xe s := fun h => call_len pins s σ H [x] us Q I rv ⟨x, n, rfl, h, fin⟩
      cases rx with
      | loc hl =>
        rename_i l
        dsimp only [lenD] at e
        cases ql : L.lst l with
        | some es =>
          simp only [ql] at e
          cases e
          obtain ⟨vs, h1, r1⟩ := R.lst hl ql
          exact direct (.inl ⟨vs, SqL.of h1, r1.length⟩)
        | none =>
          simp only [ql] at e
          cases qd : L.dic l with
          | none => simp only [qd] at e; cases e
          | some kvs =>
            simp only [qd] at e
            cases e
            obtain ⟨u, rfl, ru⟩ := vals1 rv
            cases ru
            obtain ⟨es, ep, hr, hs, h0, few, _⟩ := dic_raw I (R.dic hl qd)
            refine dlen_raw h0 hr few ⟨.int (Int.ofNat kvs.length), H, I.tok _, ⟨s.toks + 1, ?_⟩, fin⟩
            rw [hs]; rfl
      | tup h1 r1 => cases e; exact direct (.inr ⟨_, z.K ▸ h1, r1.length⟩)
      | rol h1 r1 => cases e; exact direct (.inl ⟨_, z.K ▸ h1.sq, r1.length⟩)
      | str y =>
        dsimp only [lenD] at e
        cases hb : lim y.length with
        | false => rw [hb] at e; cases e
        | true => rw [hb] at e; cases e; exact direct ⟨lim_ok hb, rfl⟩
      | _ => cases e
  · cases hf
theorem cd_abs : CallR X (.builtin "abs") (rDN g dAbs) := by
  rintro pins s σ H xs us Q I rv ⟨m, L, ds, d', L', R, rd, hf, q⟩
  unfold dAbs at hf
  split at hf
  · rename_i i
    obtain ⟨x, rfl, rx⟩ := rep1 rd rfl
    cases rx
    rw [frcI_eq] at hf
    cases hf
    exact call_abs pins s σ H _ us Q I rv ⟨i, rfl, by rw [← absI_eq]; exact q m H _ .refl R (.int _)⟩
  · cases hf
theorem cd_int : CallR X (.type "int") (rDN g dInt) := by
  rintro pins s σ H xs us Q I rv ⟨m, L, ds, d', L', R, rd, hf, q⟩
  unfold dInt at hf
  split at hf
  · obtain ⟨x, rfl, rx⟩ := rep1 rd rfl
    cases rx
    cases hf
    exact call_int1 pins s σ H _ us Q I rv (.inl ⟨_, rfl, q m H _ .refl R (.int _)⟩)
  · rename_i b
    obtain ⟨x, rfl, rx⟩ := rep1 rd rfl
    cases rx
    cases hf
    refine call_int1 pins s σ H _ us Q I rv (.inr ⟨b, rfl, ?_⟩)
    cases b <;> exact q m H _ .refl R (.int _)
  · rename_i y
    obtain ⟨x, rfl, rx⟩ := rep1 rd rfl
    cases rx
    cases hb : Nat.ble y.length 640 with
    | false => rw [hb] at hf; cases hf
    | true =>
      rw [hb] at hf
      dsimp only [cond_true] at hf
      cases e : PySem.intText? y with
      | none => simp only [e] at hf; cases hf
      | some n =>
        simp only [e, frcI_eq] at hf
        cases hf
        exact call_int_str pins s σ H _ us Q I rv ⟨y, n, rfl, e, Nat.le_of_ble_eq_true hb, q m H _ .refl R (.int _)⟩
  · cases hf
theorem cd_str : CallR X (.type "str") (rDN g dStr) := by
  rintro pins s σ H xs us Q I rv ⟨m, L, ds, d', L', R, rd, hf, q⟩
  unfold dStr at hf
  split at hf
  · rename_i i
    obtain ⟨x, rfl, rx⟩ := rep1 rd rfl
    cases rx
    cases hb : Nat.blt i.natAbs.log2 1920 with
    | false => rw [hb] at hf; cases hf
    | true =>
      rw [hb] at hf
      cases hf
      exact call_str_int pins s σ H _ us Q I rv ⟨i, rfl, Nat.blt_eq.mp hb, q m H _ .refl R (.str _)⟩
  · obtain ⟨x, rfl, rx⟩ := rep1 rd rfl
    cases rx
    cases hf
    exact SkE.call_str_str pins s σ H _ us Q I rv ⟨_, rfl, q m H _ .refl R (.str _)⟩
  · cases hf
theorem cd_list (z : Cz g W X) : CallR X (.type "list") (rDN g dList) := by
  rintro pins s σ H xs us Q I rv ⟨m, L, ds, d', L', R, rd, hf, q⟩
  unfold dList at hf
  split at hf
  · rename_i d
    obtain ⟨x, rfl, rx⟩ := rep1 rd rfl
    cases e : seqsD L d with
    | none => simp only [e] at hf; cases hf
    | some es =>
      simp only [e] at hf
      obtain ⟨a, vs, rfl, h1, h2⟩ := seqsD_ok z.K R rx e
      exact call_list_of pins s σ H _ us Q I rv ⟨a, vs, rfl, h1, newL R h2 hf q⟩
  · cases hf
theorem cd_tuple (z : Cz g W X) : CallR X (.type "tuple") (rDN g dTuple) := by
  rintro pins s σ H xs us Q I rv ⟨m, L, ds, d', L', R, rd, hf, q⟩
  unfold dTuple at hf
  split at hf
  · rename_i d
    obtain ⟨x, rfl, rx⟩ := rep1 rd rfl
    cases e : seqsD L d with
    | none => simp only [e] at hf; cases hf
    | some es =>
      simp only [e] at hf
      cases hf
      obtain ⟨a, vs, rfl, h1, h2⟩ := seqsD_ok z.K R rx e
      refine call_tuple_of pins s σ H _ us Q I rv ⟨a, vs, rfl, ?_⟩
      rcases h1 with h1 | h1
      · exact .inl ⟨h1, newT R h2 q⟩
      · exact .inr ⟨h1, q m H _ .refl R (.tup (z.K ▸ h1) h2)⟩
  · cases hf
theorem cd_sum (z : Cz g W X) : CallR X (.builtin "sum") (rDN g dSum) := by
  rintro pins s σ H xs us Q I rv ⟨m, L, ds, d', L', R, rd, hf, q⟩
  unfold dSum at hf
  split at hf
  · rename_i d
    obtain ⟨x, rfl, rx⟩ := rep1 rd rfl
    split at hf
    · rename_i es e
      split at hf
      · rename_i ns e2
        simp only [frcI_eq] at hf
        cases hf
        obtain ⟨a, vs, rfl, h1, h2⟩ := lisD_ok (X := X) z.K R rx e
        have e3 := intsD_ok h2 e2
        subst e3
        exact cr_sum z.calm pins s σ H _ us Q I rv ⟨a, ns, rfl, h1, q m H _ .refl R (.int _)⟩
      · cases hf
    · cases hf
  · cases hf
theorem cd_any (z : Cz g W X) : CallR X (.builtin "any") (rDN g dAny) := by
  rintro pins s σ H xs us Q I rv ⟨m, L, ds, d', L', R, rd, hf, q⟩
  unfold dAny at hf
  split at hf
  · rename_i d
    obtain ⟨x, rfl, rx⟩ := rep1 rd rfl
    split at hf
    · rename_i es e
      split at hf
      · rename_i ns e2
        cases hf
        obtain ⟨a, vs, rfl, h1, h2⟩ := lisD_ok (X := X) z.K R rx e
        have e3 := blsD_ok h2 e2
        subst e3
        exact cr_any z.calm pins s σ H _ us Q I rv ⟨a, ns, rfl, h1, q m H _ .refl R (.bl _)⟩
      · cases hf
    · cases hf
  · cases hf
theorem cd_all (z : Cz g W X) : CallR X (.builtin "all") (rDN g dAll) := by
  rintro pins s σ H xs us Q I rv ⟨m, L, ds, d', L', R, rd, hf, q⟩
  unfold dAll at hf
  split at hf
  · rename_i d
    obtain ⟨x, rfl, rx⟩ := rep1 rd rfl
    split at hf
    · rename_i es e
      split at hf
      · rename_i ns e2
        cases hf
        obtain ⟨a, vs, rfl, h1, h2⟩ := lisD_ok (X := X) z.K R rx e
        have e3 := blsD_ok h2 e2
        subst e3
        exact cr_all z.calm pins s σ H _ us Q I rv ⟨a, ns, rfl, h1, q m H _ .refl R (.bl _)⟩
      · cases hf
    · cases hf
  · cases hf
theorem cd_min (z : Cz g W X) : CallR X (.builtin "min") (rDN g dMin) := by
  rintro pins s σ H xs us Q I rv ⟨m, L, ds, d', L', R, rd, hf, q⟩
  unfold dMin at hf
  split at hf
  · rename_i i j
    obtain ⟨x, y, rfl, rx, ry⟩ := rep2 rd rfl
    cases rx; cases ry; cases hf
    have e : (if j < i then j else i) = (bif ltI j i then j else i) := by
      rw [ltI_eq]
      by_cases h : j < i
      · rw [if_pos h, decide_eq_true h]; rfl
      · rw [if_neg h, decide_eq_false h]; rfl
    exact call_min2 z.calm pins s σ H _ us Q I rv ⟨i, j, rfl, by rw [e]; exact q m H _ .refl R (.int _)⟩
  · rename_i d
    obtain ⟨x, rfl, rx⟩ := rep1 rd rfl
    split at hf
    · rename_i es e
      split at hf
      · rename_i b ns e2
        simp only [frcI_eq] at hf
        cases hf
        obtain ⟨a, vs, rfl, h1, h2⟩ := lisD_ok (X := X) z.K R rx e
        have e3 := intsD_ok h2 e2
        subst e3
        refine cr_min z.calm pins s σ H _ us Q I rv ⟨a, b :: ns, rfl, h1, Nat.succ_pos _, fun k hk hmin => ?_⟩
        obtain ⟨o1, o2, o3⟩ := minI_ok ns b
        have : k = minI ns b := by
          apply Int.le_antisymm
          · refine hmin _ ?_
            rcases o1 with o1 | o1
            · rw [o1]; exact List.mem_cons_self
            · exact List.mem_cons_of_mem _ o1
          · rcases List.mem_cons.mp hk with rfl | hk
            · exact o2
            · exact o3 k hk
        rw [this]
        exact q m H _ .refl R (.int _)
      · cases hf
    · cases hf
  · cases hf
theorem cd_max (z : Cz g W X) : CallR X (.builtin "max") (rDN g dMax) := by
  rintro pins s σ H xs us Q I rv ⟨m, L, ds, d', L', R, rd, hf, q⟩
  unfold dMax at hf
  split at hf
  · rename_i i j
    obtain ⟨x, y, rfl, rx, ry⟩ := rep2 rd rfl
    cases rx; cases ry; cases hf
    have e : (if j > i then j else i) = (bif ltI i j then j else i) := by
      rw [ltI_eq]
      by_cases h : i < j
      · rw [if_pos h, decide_eq_true h]; rfl
      · rw [if_neg h, decide_eq_false h]; rfl
    exact call_max2 z.calm pins s σ H _ us Q I rv ⟨i, j, rfl, by rw [e]; exact q m H _ .refl R (.int _)⟩
  · rename_i d
    obtain ⟨x, rfl, rx⟩ := rep1 rd rfl
    split at hf
    · rename_i es e
      split at hf
      · rename_i b ns e2
        simp only [frcI_eq] at hf
        cases hf
        obtain ⟨a, vs, rfl, h1, h2⟩ := lisD_ok (X := X) z.K R rx e
        have e3 := intsD_ok h2 e2
        subst e3
        refine cr_max z.calm pins s σ H _ us Q I rv ⟨a, b :: ns, rfl, h1, Nat.succ_pos _, fun k hk hmin => ?_⟩
        obtain ⟨o1, o2, o3⟩ := maxI_ok ns b
        have : k = maxI ns b := by
          apply Int.le_antisymm
          · rcases List.mem_cons.mp hk with rfl | hk
            · exact o2
            · exact o3 k hk
          · refine hmin _ ?_
            rcases o1 with o1 | o1
            · rw [o1]; exact List.mem_cons_self
            · exact List.mem_cons_of_mem _ o1
        rw [this]
        exact q m H _ .refl R (.int _)
      · cases hf
    · cases hf
  · cases hf

/-! ### the calls -/
variable {x : Str} {p pos apos cpos : Pos} {e o : Expr} {es : List Expr} {fl : FL} {fo : FE} {id T : String} {F : FN}
theorem tcb_of {σ : L2.St} {H : Hp} {Q : VK} (h : TE' g W (xCall F fl) σ H Q) : tCB (rDN g F) (TA' g W fl) σ H Q := by
  obtain ⟨m, L, δ, R, S, h⟩ := te_of h
  refine ta_mono (ta_bind R S h) fun xs H1 ⟨m1, L1, ds, E1, R1, S1, r1, h1⟩ => ?_
  obtain ⟨d', L', h3, h4⟩ := ofO_ok h1
  exact ⟨m1, L1, ds, d', L', R1, r1, h3, h4⟩
theorem pE_callB (hc : CallR X (.builtin id) (rDN g F)) (hg : Gl X x) (hm : X.mg x = none) (hv : bootBuiltins x = some (.builtin id)) (ha : PA X (e :: es) (TA' g W fl)) (hn : x ≠ "__name__") (hdb : (x == ("__debug__" : Str)) = false)
    (hp : (e :: es).all plainE = true) : PE X (.Call (.Name x p) (e :: es) [] pos) (TE' g W (xCall F fl)) := by
  rw [List.all_cons, Bool.and_eq_true] at hp
  exact (pe_callB hc hg hm hv ha hn hdb (star1 hp.1) (star_none hp.2)).imp fun _ _ _ h => tcb_of h
theorem pE_callTy (hc : CallR X (.type T) (rDN g F)) (hg : Gl X x) (hm : X.mg x = none) (hv : bootBuiltins x = some (.type T)) (ha : PA X (e :: es) (TA' g W fl)) (hn : x ≠ "__name__") (hdb : (x == ("__debug__" : Str)) = false)
    (hp : (e :: es).all plainE = true) : PE X (.Call (.Name x p) (e :: es) [] pos) (TE' g W (xCall F fl)) := by
  rw [List.all_cons, Bool.and_eq_true] at hp
  exact (pe_callTy hc hg hm hv ha hn hdb (star1 hp.1) (star_none hp.2)).imp fun _ _ _ h => tcb_of h

/-! ### methods of lists, texts, dicts -/
inductive Kt where
  | lst | str | dic
def isKt (L : LH) : Kt → D → Bool
  | .lst, d => (lisD L d).isSome
  | .str, .str _ => true
  | .dic, .loc l => (L.dic l).isSome
  | _, _ => false
def Kt.nm : Kt → String
  | .lst => "list"
  | .str => "str"
  | .dic => "dict"
def tyD (g : GE) (k : Kt) (x : V) (H : Hp) : Prop := ∃ m L d, HRel g m L H ∧ Rep g m H d x ∧ isKt L k d = true
theorem tyD_ok (hK : X.K = g.K) (k : Kt) : TyOk X k.nm (tyD g k) := by
  rintro pins σ H s x v I rv ⟨m, L, d, R, r, e⟩
  cases k with
  | lst =>
    have e : (lisD L d).isSome = true := e
    cases q : lisD L d with
    | none => rw [q] at e; cases e
    | some ds =>
      obtain ⟨a, vs, rfl, h1, h2⟩ := lisD_ok (X := X) hK R r q
      cases rv
      obtain ⟨its, _, pl, _⟩ := I.list h1
      refine ⟨pl.isList.typeIs, fun b eb => ?_⟩
      cases eb
      obtain ⟨o, n, e1, e2, e3, _⟩ := pl
      exact ⟨o, e1, e3⟩
  | str =>
    cases r with
    | str y => obtain ⟨t, rfl⟩ := rv; exact ⟨typeIs_str s y t, fun _ z => nomatch z⟩
    | _ => cases e
  | dic =>
    cases r with
    | loc hl =>
      rename_i l
      have e : (L.dic l).isSome = true := e
      cases q : L.dic l with
      | none => rw [q] at e; cases e
      | some kvs =>
        cases rv
        obtain ⟨es, ep, ⟨ob, ho, hx, hd⟩, _⟩ := dic_raw I (R.dic hl q)
        refine ⟨⟨ob, ho, hx.1⟩, fun b eb => ?_⟩
        cases eb
        exact ⟨ob, ho, hx.2.1⟩
    | _ => cases e
def xMeth (k : Kt) (F : FM) (a : FE) (r : FL) : FE := fun δ L => (a δ L).bind fun x L1 => match isKt L1 k x with
  | true => (r δ L1).bind fun xs L2 => ofO (F x xs L2)
  | false => .bad
variable {k : Kt} {FF : FM} {name : Str}
theorem pE_meth (hK : X.K = g.K) (pa : PlainAttrs k.nm) (slot : Slot k.nm name id) (hty : typeOf (.builtin id) = pure (.type "method_descriptor")) (hm : MtR X id (rDM g FF)) (ho : PE X o (TE' g W fo)) (ha : PA X (e :: es) (TA' g W fl))
    (hb : attributeBase o name X.env (eval o X.env) = eval o X.env) (hline : (apos.endLine == cpos.line) = true) (hp : (e :: es).all plainE = true) (hl : (e :: es).length < 30) : PE X (.Call (.Attribute o name apos) (e :: es) [] cpos) (TE' g W (xMeth k FF fo fl)) := by
  have hp' := hp
  rw [List.all_cons, Bool.and_eq_true] at hp'
  refine (pe_mG (tyD_ok (g := g) hK k) pa slot hty hm ho ha hb (star_few hp hl) hline (star1 hp'.1) (star_none hp'.2)).imp fun σ H Q h => ?_
  obtain ⟨m, L, δ, R, S, h⟩ := te_of h
  refine te_mono (te_bind R S h) fun x H1 ⟨m1, L1, d, E1, R1, S1, r1, h1⟩ => ?_
  cases q : isKt L1 k d with
  | false => simp only [q] at h1; exact h1.elim
  | true =>
    simp only [q] at h1
    refine ⟨⟨m1, L1, d, R1, r1, q⟩, ?_⟩
    refine ta_mono (ta_bind R1 S1 h1) fun xs H2 ⟨m2, L2, ds, E2, R2, S2, r2, h2⟩ => ?_
    obtain ⟨d', L', h3, h4⟩ := ofO_ok h2
    exact ⟨m2, L2, d, ds, d', L', R2, r1.ext E2 R1, r2, h3, h4⟩
theorem pE_meth0 (hK : X.K = g.K) (pa : PlainAttrs k.nm) (slot : Slot k.nm name id) (hty : typeOf (.builtin id) = pure (.type "method_descriptor")) (hm : MtR X id (rDM g FF)) (ho : PE X o (TE' g W fo))
    (hb : attributeBase o name X.env (eval o X.env) = eval o X.env) (hline : (apos.endLine == cpos.line) = true) : PE X (.Call (.Attribute o name apos) [] [] cpos) (TE' g W (xMeth k FF fo lNil)) := by
  refine (pe_mG0 (tyD_ok (g := g) hK k) pa slot hty hm ho hb hline).imp fun σ H Q h => ?_
  obtain ⟨m, L, δ, R, S, h⟩ := te_of h
  refine te_mono (te_bind R S h) fun x H1 ⟨m1, L1, d, E1, R1, S1, r1, h1⟩ => ?_
  cases q : isKt L1 k d with
  | false => simp only [q] at h1; exact h1.elim
  | true =>
    simp only [q] at h1
    refine ⟨⟨m1, L1, d, R1, r1, q⟩, ?_⟩
    have h2 : TMP g W σ (Rep g) (ofO (FF d [] L1)) m1 L1 H1 Q := h1
    obtain ⟨d', L', h3, h4⟩ := ofO_ok h2
    exact ⟨m1, L1, d, [], d', L', R1, r1, .nil, h3, h4⟩
end
end FC
end

section
namespace FC
open PySem PySem.Spec PyProof.Rows L2

/-! ### methods of lists -/
def dAppend : FM := fun d xs L => match d with
  | .loc l => match L.lstW l with
    | some ds => match xs with
      | [e] => bif lim ds.length then frcL (ds ++ [e]) fun es => some (.non, L.put l (.lst es)) else none
      | _ => none
    | none => none
  | _ => none
def dExtend : FM := fun d xs L => match d with
  | .loc l => match L.lstW l with
    | some ds => match xs with
      | [.loc b] => match L.lst b with
        | some es => bif lim (ds.length + es.length) then frcL (ds ++ es) fun fs => some (.non, L.put l (.lst fs)) else none
        | none => none
      | _ => none
    | none => none
  | _ => none
def lastN : List D → Option (D × List D)
  | [] => none
  | [d] => some (d, [])
  | d :: ds => match lastN ds with
    | some p => some (p.1, d :: p.2)
    | none => none
def dPop : FM := fun d xs L => match d with
  | .loc l => match L.lstW l with
    | some ds => match xs with
      | [] => match lastN ds with
        | some p => some (p.1, L.put l (.lst p.2))
        | none => none
      | _ => none
    | none => none
  | _ => none
def dInsert : FM := fun d xs L => match d with
  | .loc l => match L.lstW l with
    | some ds => match xs with
      | [.int i, e] => bif lim ds.length && ltI (-1) i && ltI i 1000000 then frcL (ds.take i.toNat ++ [e] ++ ds.drop i.toNat) fun es => some (.non, L.put l (.lst es)) else none
      | _ => none
    | none => none
  | _ => none
/-! texts -/
def sumLen : List Str → Nat
  | [] => 0
  | y :: r => y.length + sumLen r
theorem sumLen_eq : ∀ ys : List Str, sumLen ys = (ys.map (·.length)).sum
  | [] => rfl
  | y :: r => by rw [sumLen, List.map_cons, List.sum_cons, sumLen_eq r]
def frcS {R : Type} (x : Str) (c : Str → R) : R := match x with
  | ⟨⟨cs⟩⟩ => go cs fun ds => c ⟨⟨ds⟩⟩
where go : List Nat → (List Nat → R) → R
  | [], c => c []
  | a :: r, c => frcN a fun b => go r fun s => c (b :: s)
theorem frcS_eq {R : Type} (x : Str) (c : Str → R) : frcS x c = c x := by
  have go : ∀ (l : List Nat) (k : List Nat → R), frcS.go l k = k l := by
    intro l
    induction l with
    | nil => intro k; rfl
    | cons a r ih => intro k; rw [frcS.go, frcN_eq, ih]
  obtain ⟨⟨cs⟩⟩ := x
  exact go _ _
def frcSs {R : Type} : List Str → (List Str → R) → R
  | [], c => c []
  | x :: r, c => frcS x fun y => frcSs r fun s => c (y :: s)
theorem frcSs_eq {R : Type} : ∀ (l : List Str) (c : List Str → R), frcSs l c = c l
  | [], _ => rfl
  | x :: r, c => by rw [frcSs, frcS_eq, frcSs_eq r]
def dJoin : FM := fun d xs L => match d with
  | .str a => match xs with
    | [e] => match seqsD L e with
      | some ds => match strsD ds with
        | some ys => bif lim (sumLen ys + ys.length * a.length) then frcS (Txt.join a ys) fun z => some (.str z, L) else none
        | none => none
      | none => none
    | _ => none
  | _ => none
def dSplit : FM := fun d xs L => match d with
  | .str a => match xs with
    | [.str b] => bif lim a.length && !Nat.beq b.length 0 then frcSs (Txt.split a b) fun ys => L.add (.lst (ys.map D.str)) else none
    | _ => none
  | _ => none
def dFind : FM := fun d xs L => match d with
  | .str a => match xs with
    | [.str b] => frcI (Txt.find a b) fun i => some (.int i, L)
    | _ => none
  | _ => none
section
variable {g : GE} {W : WX} {X : Cx}
theorem lastN_ok : ∀ {ds : List D} {p : D × List D}, lastN ds = some p → p.2 = ds.dropLast ∧ ds[ds.length - 1]? = some p.1
  | [], _, e => by cases e
  | [d], _, e => by cases e; exact ⟨rfl, rfl⟩
  | d :: d2 :: ds, p, e => by
    have e' : (match lastN (d2 :: ds) with | some q => some (q.1, d :: q.2) | none => none) = some p := e
    cases q : lastN (d2 :: ds) with
    | none => rw [q] at e'; cases e'
    | some w =>
      rw [q] at e'
      cases e'
      obtain ⟨h1, h2⟩ := lastN_ok q
      refine ⟨?_, ?_⟩
      · show d :: w.2 = d :: (d2 :: ds).dropLast
        rw [h1]
      · show (d :: d2 :: ds)[(d2 :: ds).length]? = some w.1
        rw [List.length_cons, List.getElem?_cons_succ]
        simpa using h2
theorem md_append : MtR X "list.append" (rDM g dAppend) := by
  rintro pins s σ H x xs v us Q I rx rs ⟨m, L, d, ds, d', L', R, rd, rds, hf, q⟩
  unfold dAppend at hf
  split at hf
  · rename_i l
    cases rd with
    | loc hl =>
    split at hf
    · rename_i es hw
      split at hf
      · rename_i e
        obtain ⟨y, rfl, ry⟩ := rep1 rds rfl
        cases hb : lim es.length with
        | false => rw [hb] at hf; cases hf
        | true =>
          rw [hb] at hf
          simp only [cond_true, frcL_eq] at hf
          cases hf
          obtain ⟨vs, h1, r1⟩ := R.lst hl (LH.lst_of hw)
          obtain ⟨E1, R1⟩ := chgL R hl hw (r1.app (.cons ry .nil))
          exact mt_append pins s σ H _ _ v us Q I rx rs ⟨_, vs, y, rfl, rfl, h1, by rw [← r1.length]; exact lim_lt hb, q m _ .non E1 R1 .non⟩
      · cases hf
    · cases hf
  · cases hf
theorem md_extend : MtR X "list.extend" (rDM g dExtend) := by
  rintro pins s σ H x xs v us Q I rx rs ⟨m, L, d, ds, d', L', R, rd, rds, hf, q⟩
  unfold dExtend at hf
  split at hf
  · rename_i l
    cases rd with
    | loc hl =>
    split at hf
    · rename_i es hw
      split at hf
      · rename_i b
        obtain ⟨y, rfl, ry⟩ := rep1 rds rfl
        cases ry with
        | loc hb2 =>
        split at hf
        · rename_i fs hb3
          cases hb : lim (es.length + fs.length) with
          | false => rw [hb] at hf; cases hf
          | true =>
            rw [hb] at hf
            simp only [cond_true, frcL_eq] at hf
            cases hf
            obtain ⟨vs, h1, r1⟩ := R.lst hl (LH.lst_of hw)
            obtain ⟨ws, h2, r2⟩ := R.lst hb2 hb3
            obtain ⟨E1, R1⟩ := chgL R hl hw (r1.app r2)
            exact mt_extend pins s σ H _ _ v us Q I rx rs ⟨_, _, vs, ws, rfl, rfl, h1, h2, by rw [← r1.length, ← r2.length]; exact lim_ok hb, q m _ .non E1 R1 .non⟩
        · cases hf
      · cases hf
    · cases hf
  · cases hf
theorem md_pop : MtR X "list.pop" (rDM g dPop) := by
  rintro pins s σ H x xs v us Q I rx rs ⟨m, L, d, ds, d', L', R, rd, rds, hf, q⟩
  unfold dPop at hf
  split at hf
  · rename_i l
    cases rd with
    | loc hl =>
    split at hf
    · rename_i es hw
      split at hf
      · cases rds
        split at hf
        · rename_i p hp
          cases hf
          obtain ⟨h2, h3⟩ := lastN_ok hp
          obtain ⟨vs, h1, r1⟩ := R.lst hl (LH.lst_of hw)
          obtain ⟨y, hy, ry⟩ := r1.get h3
          rw [r1.length] at hy
          have rr : RepL g m H p.2 vs.dropLast := by
            rw [h2, List.dropLast_eq_take, List.dropLast_eq_take, r1.length]
            exact r1.take _
          obtain ⟨E1, R1⟩ := chgL R hl hw rr
          exact mt_pop pins s σ H _ _ v us Q I rx rs ⟨_, vs, y, rfl, rfl, h1, hy, q m _ y E1 R1 (ry.ext E1 R)⟩
        · cases hf
      · cases hf
    · cases hf
  · cases hf
theorem md_insert : MtR X "list.insert" (rDM g dInsert) := by
  rintro pins s σ H x xs v us Q I rx rs ⟨m, L, d, ds, d', L', R, rd, rds, hf, q⟩
  unfold dInsert at hf
  split at hf
  · rename_i l
    cases rd with
    | loc hl =>
    split at hf
    · rename_i es hw
      split at hf
      · rename_i i e
        obtain ⟨y, w, rfl, ry, rw'⟩ := rep2 rds rfl
        cases ry
        cases hb : lim es.length && ltI (-1) i && ltI i 1000000 with
        | false => rw [hb] at hf; cases hf
        | true =>
          rw [hb] at hf
          simp only [cond_true, frcL_eq] at hf
          cases hf
          rw [Bool.and_eq_true, Bool.and_eq_true, ltI_eq, ltI_eq] at hb
          have b1 := of_decide_eq_true hb.1.2
          have b2 := of_decide_eq_true hb.2
          obtain ⟨vs, h1, r1⟩ := R.lst hl (LH.lst_of hw)
          obtain ⟨E1, R1⟩ := chgL R hl hw (((r1.take i.toNat).app (.cons rw' .nil)).app (r1.drop i.toNat))
          exact mt_insert pins s σ H _ _ v us Q I rx rs ⟨_, vs, i, w, rfl, rfl, h1, by rw [← r1.length]; exact lim_lt hb.1.1, by omega, by omega, q m _ .non E1 R1 .non⟩
      · cases hf
    · cases hf
  · cases hf
theorem md_join (z : Cz g W X) : MtR X "str.join" (rDM g dJoin) := by
  rintro pins s σ H x xs v us Q I rx rs ⟨m, L, d, ds, d', L', R, rd, rds, hf, q⟩
  unfold dJoin at hf
  split at hf
  · rename_i a
    cases rd
    split at hf
    · rename_i e
      obtain ⟨y, rfl, ry⟩ := rep1 rds rfl
      split at hf
      · rename_i es he
        split at hf
        · rename_i ys hy
          cases hb : lim (sumLen ys + ys.length * a.length) with
          | false => rw [hb] at hf; cases hf
          | true =>
            rw [hb] at hf
            simp only [cond_true, frcS_eq] at hf
            cases hf
            obtain ⟨p, vs, rfl, h1, h2⟩ := seqsD_ok z.K R ry he
            have ev := strsD_ok h2 hy
            subst ev
            have := Nat.le_of_ble_eq_true hb
            exact mt_join pins s σ H _ _ v us Q I rx rs ⟨a, p, ys, rfl, rfl, h1, by rw [← sumLen_eq]; omega, q m H _ .refl R (.str _)⟩
        · cases hf
      · cases hf
    · cases hf
  · cases hf
theorem md_split : MtR X "str.split" (rDM g dSplit) := by
  rintro pins s σ H x xs v us Q I rx rs ⟨m, L, d, ds, d', L', R, rd, rds, hf, q⟩
  unfold dSplit at hf
  split at hf
  · rename_i a
    cases rd
    split at hf
    · rename_i b
      obtain ⟨y, rfl, ry⟩ := rep1 rds rfl
      cases ry
      cases hb : lim a.length && !Nat.beq b.length 0 with
      | false => rw [hb] at hf; cases hf
      | true =>
        rw [hb] at hf
        simp only [cond_true, frcSs_eq] at hf
        rw [Bool.and_eq_true] at hb
        have b1 := Nat.le_of_ble_eq_true hb.1
        have b2 : (b.length == 0) = false := by
          cases e : b.length with
          | zero => rw [e] at hb; exact absurd hb.2 (by decide)
          | succ n => rfl
        refine mt_split pins s σ H _ _ v us Q I rx rs ⟨a, b, rfl, rfl, b2, by rw [sizeLine_eq]; omega, fun p hp => ?_⟩
        exact newL R (repL_strs (Txt.split a b)) hf q p hp
    · cases hf
  · cases hf
theorem md_find : MtR X "str.find" (rDM g dFind) := by
  rintro pins s σ H x xs v us Q I rx rs ⟨m, L, d, ds, d', L', R, rd, rds, hf, q⟩
  unfold dFind at hf
  split at hf
  · rename_i a
    cases rd
    split at hf
    · rename_i b
      obtain ⟨y, rfl, ry⟩ := rep1 rds rfl
      cases ry
      rw [frcI_eq] at hf
      cases hf
      exact mt_find pins s σ H _ _ v us Q I rx rs ⟨a, b, rfl, rfl, q m H _ .refl R (.int _)⟩
    · cases hf
  · cases hf
end

/-! ### isinstance -/
inductive TyC where
  | int | bool | str | list | tuple | dict
  deriving DecidableEq
def TyC.nm : TyC → String
  | .int => "int"
  | .bool => "bool"
  | .str => "str"
  | .list => "list"
  | .tuple => "tuple"
  | .dict => "dict"
/-- the type of a value -/
inductive TyV where
  | non | ty (c : TyC)
def TyV.nm : TyV → String
  | .non => "NoneType"
  | .ty c => c.nm
def tyOf (L : LH) : D → Option TyV
  | .non => some .non
  | .bl _ => some (.ty .bool)
  | .int _ => some (.ty .int)
  | .str _ => some (.ty .str)
  | .tup _ => some (.ty .tuple)
  | .rol _ => some (.ty .list)
  | .loc l => match L.lst l with
    | some _ => some (.ty .list)
    | none => match L.dic l with
      | some _ => some (.ty .dict)
      | none => none
  | _ => none
def isTy : TyV → TyC → Bool
  | .ty .int, .int => true
  | .ty .bool, .bool => true
  | .ty .bool, .int => true
  | .ty .str, .str => true
  | .ty .list, .list => true
  | .ty .tuple, .tuple => true
  | .ty .dict, .dict => true
  | _, _ => false
theorem isTy_ok : ∀ (v : TyV) (c : TyC), kitB v.nm c.nm = some (isTy v c)
  | .non, .int => by decide +kernel
  | .non, .bool => by decide +kernel
  | .non, .str => by decide +kernel
  | .non, .list => by decide +kernel
  | .non, .tuple => by decide +kernel
  | .non, .dict => by decide +kernel
  | .ty .int, .int => by decide +kernel
  | .ty .int, .bool => by decide +kernel
  | .ty .int, .str => by decide +kernel
  | .ty .int, .list => by decide +kernel
  | .ty .int, .tuple => by decide +kernel
  | .ty .int, .dict => by decide +kernel
  | .ty .bool, .int => by decide +kernel
  | .ty .bool, .bool => by decide +kernel
  | .ty .bool, .str => by decide +kernel
  | .ty .bool, .list => by decide +kernel
  | .ty .bool, .tuple => by decide +kernel
  | .ty .bool, .dict => by decide +kernel
  | .ty .str, .int => by decide +kernel
  | .ty .str, .bool => by decide +kernel
  | .ty .str, .str => by decide +kernel
  | .ty .str, .list => by decide +kernel
  | .ty .str, .tuple => by decide +kernel
  | .ty .str, .dict => by decide +kernel
  | .ty .list, .int => by decide +kernel
  | .ty .list, .bool => by decide +kernel
  | .ty .list, .str => by decide +kernel
  | .ty .list, .list => by decide +kernel
  | .ty .list, .tuple => by decide +kernel
  | .ty .list, .dict => by decide +kernel
  | .ty .tuple, .int => by decide +kernel
  | .ty .tuple, .bool => by decide +kernel
  | .ty .tuple, .str => by decide +kernel
  | .ty .tuple, .list => by decide +kernel
  | .ty .tuple, .tuple => by decide +kernel
  | .ty .tuple, .dict => by decide +kernel
  | .ty .dict, .int => by decide +kernel
  | .ty .dict, .bool => by decide +kernel
  | .ty .dict, .str => by decide +kernel
  | .ty .dict, .list => by decide +kernel
  | .ty .dict, .tuple => by decide +kernel
  | .ty .dict, .dict => by decide +kernel
def anyTy (v : TyV) : List TyC → Bool
  | [] => false
  | c :: r => match isTy v c with
    | true => true
    | false => anyTy v r
theorem anyTy_ok {K : PySem.W.Frag} (v : TyV) : ∀ cs : List TyC, PySem.W.kitAny K (.type v.nm) (cs.map fun c => .type c.nm) = some (anyTy v cs)
  | [] => rfl
  | c :: cs => by
    have ih := anyTy_ok (K := K) v cs
    refine kitAny_cons (kit_ty (isTy_ok v c)) (fun h => ?_) fun h => ?_
    · rw [ih, anyTy, h]
    · rw [anyTy, h]
def xIsi (a : FE) (cs : List TyC) : FE := fun δ L => (a δ L).bind fun x L1 => match tyOf L1 x with
  | some v => .ok (.bl (anyTy v cs)) L1
  | none => .bad
section
variable {g : GE} {W : WX} {X : Cx} {pins : List (Addr × Obj)} {σ : L2.St} {H : Hp} {s : Shared} {m : M} {L : LH}
theorem kList_cls (hK : X.K = g.K) {a : Addr} {vs : List V} (h : SqR X.K H a vs) : TyX X.K H (.ref a) (.type "list") := by
  rcases h with ⟨o, h⟩ | ⟨o, its, n, h, hc, _⟩
  · exact .base (.frz h)
  · exact .kList h hc
theorem kTuple_cls (hK : X.K = g.K) {a : Addr} {vs : List V} (h : SqT X.K H a vs) : TyX X.K H (.ref a) (.type "tuple") := by
  rcases h with (h | ⟨o, h⟩) | ⟨o, its, n, h, hc, _⟩
  · exact .base (.tup h)
  · exact .fTuple h
  · exact .kTuple h hc
/-- what the rules for isinstance ask of a dict's value -/
theorem kit_D (hK : X.K = g.K) (I : L2.Inv X pins σ H s) (R : HRel g m L H) {d : D} {x : V} {u : Value} {v : TyV} (r : Rep g m H d x) (rv : L2.RelV x u) (e : tyOf L d = some v) :
    ∃ P : Heap → Prop, PySem.W.KitX X.K u (.type v.nm) P ∧ P s.heap ∧ u ≠ .builtin "__main__.__loader__#opaque" := by
  have via : ∀ {t : Value}, TyX X.K H x t → t = .type v.nm → ∃ P : Heap → Prop, PySem.W.KitX X.K u (.type v.nm) P ∧ P s.heap ∧ u ≠ .builtin "__main__.__loader__#opaque" := fun {t} ty et => by
    subst et
    exact kit_of I rv ty
  cases r with
  | non => cases e; exact via (.base .non) rfl
  | bl b => cases e; exact via (.base (.bl b)) rfl
  | int i => cases e; exact via (.base (.int i)) rfl
  | str y => cases e; exact via (.base (.str y)) rfl
  | tup h1 _ => cases e; exact via (kTuple_cls (g := g) hK (hK ▸ h1)) rfl
  | rol h1 _ => cases e; exact via (kList_cls (g := g) hK (hK ▸ h1)) rfl
  | loc hl =>
    rename_i l
    dsimp only [tyOf] at e
    cases ql : L.lst l with
    | some es =>
      simp only [ql] at e
      cases e
      obtain ⟨vs, h1, _⟩ := R.lst hl ql
      exact via (.base (.lst h1)) rfl
    | none =>
      simp only [ql] at e
      cases qd : L.dic l with
      | none => simp only [qd] at e; cases e
      | some kvs =>
        simp only [qd] at e
        cases e
        cases rv
        obtain ⟨es, ep, ⟨ob, ho, hx, hd⟩, _⟩ := dic_raw I (R.dic hl qd)
        exact ⟨_, PySem.W.kitx_dict, ⟨ob, ho, hx.1⟩, fun z => nomatch z⟩
  | _ => cases e
variable {e : Expr} {fe : FE} {p q pos tp : Pos} {kk : Nat}
/-- a built-in class by its name -/
structure ClsN (X : Cx) (e : Expr) (c : TyC) : Prop where
  ex : ∃ x p, e = .Name x p ∧ Gl X x ∧ X.mg x = none ∧ bootBuiltins x = some (.type c.nm) ∧ x ≠ "__name__" ∧ (x == ("__debug__" : Str)) = false
theorem ClsN.pe {c : TyC} (h : ClsN X e c) : PE X e (tC (.ty c.nm)) := by
  obtain ⟨x, p, rfl, h1, h2, h3, h4, h5⟩ := h.ex
  exact pe_bltn h1 h2 h3 rfl h4 h5
theorem ClsN.plain {c : TyC} (h : ClsN X e c) : plainE e = true := by
  obtain ⟨x, p, rfl, _⟩ := h.ex
  rfl
def rI1 (g : GE) (c : TyC) : List V → Hp → VK → Prop := fun xs H Q => ∃ x m L d v, xs = [x, .ty c.nm] ∧ HRel g m L H ∧ Rep g m H d x ∧ tyOf L d = some v ∧ Q (.bl (anyTy v [c])) H
def rIT (g : GE) (cs : List TyC) : List V → Hp → VK → Prop := fun xs H Q => ∃ x tp m L d v, xs = [x, .ref tp] ∧ H tp = some (.tup (cs.map fun c => V.ty c.nm)) ∧ HRel g m L H ∧ Rep g m H d x ∧ tyOf L d = some v ∧ Q (.bl (anyTy v cs)) H
theorem cd_isi1 (hK : X.K = g.K) (c : TyC) : CallR X (.builtin "isinstance") (rI1 g c) := by
  rintro pins s σ H xs us Q I rv ⟨x, m, L, d, v, rfl, R, rd, e, q⟩
  obtain ⟨u1, u2, rfl, r1, r2⟩ := vals2 rv
  obtain ⟨P, Z, p, hx⟩ := kit_D hK I R rd r1 e
  cases (show u2 = .type c.nm from r2)
  have k : PySem.W.kitOne X.K (.type v.nm) (.type c.nm) = some (anyTy v [c]) := by
    rw [kit_ty (isTy_ok v c)]
    unfold anyTy
    cases isTy v c <;> rfl
  exact PySem.W.kia_one Z I.kIn p k hx fun tk => ⟨.bl _, H, I.tok tk, rfl, q⟩
theorem tys_vals : ∀ {cs : List TyC} {us : List Value}, L2.Vals (cs.map fun c => V.ty c.nm) us → us = cs.map fun c => .type c.nm
  | [], _, .nil => rfl
  | c :: cs, _, .cons a r => by rw [tys_vals r, show _ = _ from a]; rfl
theorem cd_isiT (hK : X.K = g.K) (cs : List TyC) : CallR X (.builtin "isinstance") (rIT g cs) := by
  rintro pins s σ H xs us Q I rv ⟨x, tp, m, L, d, v, rfl, ht, R, rd, e, q⟩
  obtain ⟨u1, u2, rfl, r1, r2⟩ := vals2 rv
  obtain ⟨P, Z, p, hx⟩ := kit_D hK I R rd r1 e
  cases (show u2 = .ref tp from r2)
  obtain ⟨_, its, rvs, o, h1, h2, n, h3⟩ := (show ObjOk X.prog X.w H s.heap tp (.tup _) from I.hok tp _ ht)
  have e3 := tys_vals rvs
  subst e3
  obtain ⟨oc, od, dt, sl⟩ := o
  simp only at h2 h3
  subst h2 h3
  exact PySem.W.kia_tup Z I.kIn p h1 (anyTy_ok v cs) hx fun tk => ⟨.bl _, H, I.tok tk, rfl, q⟩
theorem pE_isi1 (hK : X.K = g.K) {c : TyC} {ec : Expr} (hg : Gl X "isinstance") (hm : X.mg "isinstance" = none) (he : PE X e (TE' g W fe)) (hc : ClsN X ec c) (hp : plainE e = true) :
    PE X (.Call (.Name "isinstance" p) [e, ec] [] pos) (TE' g W (xIsi fe [c])) := by
  have ha : PA X [e, ec] (tCons (TE' g W fe) (tCons (tC (.ty c.nm)) tNil)) := pa_cons he (pa_cons hc.pe pa_nil (star1 hc.plain)) (star1 hp)
  refine (pe_callB (cd_isi1 hK c) hg hm boot_isinstance ha (by decide) (by decide) (star1 hp) (star_none (by simp [hc.plain]))).imp fun σ H Q h => ?_
  obtain ⟨m, L, δ, R, S, h⟩ := te_of h
  refine te_mono (te_bind R S h) fun x H1 ⟨m1, L1, d, E1, R1, S1, r1, h1⟩ => ?_
  cases q : tyOf L1 d with
  | none => simp only [q] at h1; exact h1.elim
  | some v =>
    simp only [q] at h1
    exact ⟨x, m1, L1, d, v, rfl, R1, r1, q, h1 m1 H1 _ .refl R1 (.bl _)⟩
inductive ClsNs (X : Cx) : List Expr → List TyC → Prop
  | nil : ClsNs X [] []
  | cons {e : Expr} {es : List Expr} {c : TyC} {cs : List TyC} : ClsN X e c → ClsNs X es cs → ClsNs X (e :: es) (c :: cs)
theorem ClsNs.pa : ∀ {es : List Expr} {cs : List TyC}, ClsNs X es cs → PA X es (fun _ H Q => Q (cs.map fun c => V.ty c.nm) H)
  | _, _, .nil => pa_nil
  | _, _, .cons h r => (pa_cons h.pe (ClsNs.pa r) (star1 h.plain)).imp fun _ _ _ q => q
theorem ClsNs.length : ∀ {es : List Expr} {cs : List TyC}, ClsNs X es cs → es.length = cs.length
  | _, _, .nil => rfl
  | _, _, .cons _ r => by rw [List.length_cons, List.length_cons, ClsNs.length r]
theorem pE_isiT (hK : X.K = g.K) {cs : List TyC} {ecs : List Expr} (hg : Gl X "isinstance") (hm : X.mg "isinstance" = none) (he : PE X e (TE' g W fe)) (hc : ClsNs X ecs cs) (hl : cs.length ≤ 20) (hp : plainE e = true) :
    PE X (.Call (.Name "isinstance" p) [e, .Tuple ecs kk tp] [] pos) (TE' g W (xIsi fe cs)) := by
  have ha : PA X [e, .Tuple ecs kk tp] (tCons (TE' g W fe) (tCons (tTup (fun _ H Q => Q (cs.map fun c => V.ty c.nm) H)) tNil)) := pa_cons he (pa_cons (pe_tup hc.pa) pa_nil) (star1 hp)
  refine (pe_callB (cd_isiT hK cs) hg hm boot_isinstance ha (by decide) (by decide) (star1 hp) (star_none rfl)).imp fun σ H Q h => ?_
  obtain ⟨m, L, δ, R, S, h⟩ := te_of h
  refine te_mono (te_bind R S h) fun x H1 ⟨m1, L1, d, E1, R1, S1, r1, h1⟩ => ?_
  cases q : tyOf L1 d with
  | none => simp only [q] at h1; exact h1.elim
  | some v =>
    simp only [q] at h1
    refine ⟨by rw [List.length_map, sizeLine_eq]; omega, fun t ht => ?_⟩
    have E := Ext.laid (m := m1) (L := L1) (o := .tup (cs.map fun c => V.ty c.nm)) ht
    exact ⟨x, t, m1, L1, d, v, rfl, upd_same, R1.laid ht, r1.ext E R1, q, h1 m1 _ _ E (R1.laid ht) (.bl _)⟩
end
end FC
end

section
namespace FC
open PySem PySem.Spec PyProof.Rows L2

/-! ### targets -/
theorem _root_.L2.PG.imp {X : Cx} {e : Expr} {t t' : TG} (h : PG X e t) (k : ∀ v σ H Q, t' v σ H Q → t v σ H Q) : PG X e t' := ⟨fun p s σ H v u Q I r q => h.run p s σ H v u Q I r (k v σ H Q q)⟩
theorem _root_.L2.PGs.imp {X : Cx} {e : List Expr} {t t' : TGs} (h : PGs X e t) (k : ∀ v σ H Q, t' v σ H Q → t v σ H Q) : PGs X e t' := ⟨fun p s σ H v u Q I r q => h.run p s σ H v u Q I r (k v σ H Q q)⟩
def setS {R : Type} : Sl → Nat → D → (Sl → R) → R
  | [], _, _, c => c []
  | _ :: r, 0, d, c => c (some d :: r)
  | x :: r, n + 1, d, c => setS r n d fun s => c (x :: s)
theorem setS_eq {R : Type} : ∀ (δ : Sl) (i : Nat) (d : D) (c : Sl → R), setS δ i d c = c (δ.set i (some d))
  | [], _, _, _ => by simp [setS]
  | _ :: _, 0, _, _ => by simp [setS]
  | x :: r, n + 1, d, c => by rw [setS, setS_eq r n d]; simp
def gN (i : Nat) : FG := fun d δ => setS δ i d some
abbrev FGs := List D → Sl → Option Sl
def gsNil : FGs := fun ds δ => match ds with
  | [] => some δ
  | _ => none
def gsCons (a : FG) (r : FGs) : FGs := fun ds δ => match ds with
  | d :: es => match a d δ with
    | some δ1 => r es δ1
    | none => none
  | [] => none
def gT (n : Nat) (r : FGs) : FG := fun d δ => match d with
  | .tup ds => bif Nat.beq ds.length n then r ds δ else none
  | _ => none
def TGs' (g : GE) (slots : List Nat) (fg : FGs) : TGs := fun vs σ H Q => ∃ m L δ ds δ', HRel g m L H ∧ SRel g m H δ σ ∧ RepL g m H ds vs ∧ fg ds δ = some δ' ∧
  ∀ σ', SRel g m H δ' σ' → σ'.length = σ.length → (∀ j, j ∉ slots → σ'[j]? = σ[j]?) → Q σ' H
/-- a name that may be stored -/
def Asg (X : Cx) (x : Str) : Prop := Loc X.env.scope x ∧ (X.fn x = true ∨ X.env.scope.names.lookup x = some .local)
section
variable {g : GE} {W : WX} {X : Cx} {pos : Pos} {e : Expr} {es : List Expr}
theorem pG_name {i : Nat} {x : Str} (nd : X.N.Nodup) (hi : X.N[i]? = some x) (hx : Asg X x) : PG X (.Name x pos) (TG' g [i] (gN i)) :=
  (pg_name nd hi hx.1 hx.2).imp fun v σ H Q h => by
    obtain ⟨m, L, δ, d, δ', R, S, r, e, q⟩ := h
    unfold gN at e
    rw [setS_eq] at e
    cases e
    exact q _ (S.set i r) (by simp) fun j hj => List.getElem?_set_ne (fun z => hj (by simp [z]))
theorem pGs_nil : PGs X [] (TGs' g [] gsNil) :=
  pgs_nil.imp fun v σ H Q h => by
    obtain ⟨m, L, δ, ds, δ', R, S, r, e, q⟩ := h
    cases r with
    | nil => cases e; exact ⟨rfl, q σ S rfl fun _ _ => rfl⟩
    | cons _ _ => cases e
theorem as1 {env : Env} (h : plainE e = true) : assignEach (e :: es) env = (false, assign e env) :: assignEach es env := by
  cases e <;> first | rfl | cases h
theorem as_len {env : Env} : ∀ {es : List Expr}, es.all plainE = true → (assignEach es env).length = es.length
  | [], _ => rfl
  | e :: es, h => by
    rw [List.all_cons, Bool.and_eq_true] at h
    rw [as1 h.1, List.length_cons, List.length_cons, as_len h.2]
theorem as_star {env : Env} : ∀ {es : List Expr}, es.all plainE = true → (assignEach es env).findIdx? (·.1) = none
  | [], _ => rfl
  | e :: es, h => by
    rw [List.all_cons, Bool.and_eq_true] at h
    rw [as1 h.1, List.findIdx?_cons, as_star h.2]; rfl
theorem pGs_cons {s1 s2 : List Nat} {a : FG} {r : FGs} (h1 : PG X e (TG' g s1 a)) (h2 : PGs X es (TGs' g s2 r)) (hp : plainE e = true) : PGs X (e :: es) (TGs' g (s1 ++ s2) (gsCons a r)) :=
  (pgs_cons h1 h2 (by rw [as1 hp]; rfl)).imp fun v σ H Q h => by
    obtain ⟨m, L, δ, ds, δ', R, S, rr, e, q⟩ := h
    cases rr with
    | nil => cases e
    | cons rd rt =>
      rename_i d v ds vs
      have e' : (match a d δ with | some δ1 => r ds δ1 | none => none) = some δ' := e
      cases z : a d δ with
      | none => rw [z] at e'; cases e'
      | some δ1 =>
        rw [z] at e'
        refine ⟨_, _, rfl, m, L, δ, d, δ1, R, S, rd, z, fun σ1 S1 l1 o1 => ⟨m, L, δ1, ds, δ', R, S1, rt, e', fun σ2 S2 l2 o2 => q σ2 S2 (l2.trans l1) fun j hj => ?_⟩⟩
        rw [o2 j fun z => hj (List.mem_append_right _ z), o1 j fun z => hj (List.mem_append_left _ z)]
theorem pG_tup {slots : List Nat} {r : FGs} {k : Nat} (hK : X.K = g.K) (hc : X.calm = true) (h : PGs X es (TGs' g slots r)) (hp : es.all plainE = true) : PG X (.Tuple es k pos) (TG' g slots (gT es.length r)) :=
  (pg_tup hc h (as_len hp) (as_star hp)).imp fun v σ H Q h => by
    obtain ⟨m, L, δ, d, δ', R, S, rd, e, q⟩ := h
    cases rd with
    | tup h1 rr =>
      rename_i ds a vs
      have e' : (bif Nat.beq ds.length es.length then r ds δ else none) = some δ' := e
      cases z : Nat.beq ds.length es.length with
      | false => rw [z] at e'; cases e'
      | true =>
        rw [z] at e'
        exact ⟨_, _, rfl, hK ▸ h1, by rw [← rr.length]; exact Nat.eq_of_beq_eq_true z, m, L, δ, ds, δ', R, S, rr, e', q⟩
    | _ => cases e
end

/-! ### the stores of a pair: which way round -/
def isStar : Expr → Bool
  | .Starred .. => true
  | _ => false
def swNames (ts : List Expr) (sc : Scope) : List Str := ts.filterMap fun
    | .Name id pos => if sc.names.lookup id == some .local && pos.line == (ts.head?.map (·.pos.line)).getD 0 then some id else none
    | _ => none
def swapF (ts vs : List Expr) (sc : Scope) : Option (Option (List Str)) :=
  if (!(ts.length == 2 || ts.length == 3) || vs.length != ts.length) = true then some none
  else if vs.any isStar = true then some none
  else if ((swNames ts sc).length != ts.length || (swNames ts sc).eraseDups.length != (swNames ts sc).length) = true then some none
  else if vs.all (foldedForSure 8) = true then some none
  else if vs.all (constantsAlone 8) = true then none
  else some (some (swNames ts sc))
theorem swap_ok {ts vs : List Expr} {k k2 : Nat} {p p2 : Pos} {env : Env} {r : Option (List Str)} (hk : env.scope.kind = .function) (h : swapF ts vs env.scope = some r) : swappedStores [.Tuple ts k p] (.Tuple vs k2 p2) env = pure r := by
  have hb : env.blockKind = .function := by unfold Env.blockKind; rw [hk]; rfl
  unfold swapF at h
  unfold swappedStores
  simp only [hb]
  have e0 : (ScopeKind.function != ScopeKind.function) = false := by decide
  rw [e0, Bool.or_false]
  split at h
  · rename_i c
    cases h
    exact if_pos c
  · rename_i c
    refine Eq.trans (if_neg c) ?_
    split at h
    · rename_i c2
      cases h
      exact if_pos c2
    · rename_i c2
      refine Eq.trans (if_neg c2) ?_
      split at h
      · rename_i c3
        cases h
        exact if_pos c3
      · rename_i c3
        refine Eq.trans (if_neg c3) ?_
        split at h
        · rename_i c4
          cases h
          exact if_pos c4
        · rename_i c4
          refine Eq.trans (if_neg c4) ?_
          split at h
          · cases h
          · rename_i c5
            cases h
            exact if_neg c5
theorem swap_no {ts : List Expr} {k : Nat} {p : Pos} {v : Expr} {env : Env} (h : match v with | .Tuple _ _ _ => false | _ => true) : swappedStores [.Tuple ts k p] v env = pure none := by
  cases v <;> first | rfl | (simp at h)
/-- no comprehension: nothing swaps -/
def noComp : Expr → Bool
  | .ListComp .. => false
  | .SetComp .. => false
  | .DictComp .. => false
  | _ => true
theorem nocomp_sw {v : Expr} {t : Option Expr} {l : Nat} {env : Env} (h : noComp v = true) : swapsWith v t l env = pure false := by
  cases v <;> first | rfl | cases h

/-! ### statements -/
def sNx : FS := fun δ L => .go .nx δ L
def sSeq (a b : FS) : FS := fun δ L => match a δ L with
  | .go .nx δ1 L1 => b δ1 L1
  | .go (.rt d) δ1 L1 => .go (.rt d) δ1 L1
  | .go .bk δ1 L1 => .go .bk δ1 L1
  | .go .ct δ1 L1 => .go .ct δ1 L1
  | .ex x δ1 L1 => .ex x δ1 L1
  | .bad => .bad
def sAsg (i : Nat) (a : FE) : FS := fun δ L => (a δ L).then δ fun d L1 => setS δ i d fun δ1 => .go .nx δ1 L1
def sAsgG (fg : FG) (a : FE) : FS := fun δ L => (a δ L).then δ fun d L1 => match fg d δ with
  | some δ1 => .go .nx δ1 L1
  | none => .bad
def sPar2 (i j : Nat) (a : FL) : FS := fun δ L => (a δ L).then δ fun ds L1 => match ds with
  | [d, e] => setS δ i d fun δ1 => setS δ1 j e fun δ2 => .go .nx δ2 L1
  | _ => .bad
def sPar3 (i j k : Nat) (a : FL) : FS := fun δ L => (a δ L).then δ fun ds L1 => match ds with
  | [d, e, f] => setS δ i d fun δ1 => setS δ1 j e fun δ2 => setS δ2 k f fun δ3 => .go .nx δ3 L1
  | _ => .bad
def sSub (o i a : FE) : FS := fun δ L => (a δ L).then δ fun d L1 => (o δ L1).then δ fun x L2 => (i δ L2).then δ fun y L3 => match dSet x y d L3 with
  | some L4 => .go .nx δ L4
  | none => .bad
def sAug (F : F2) (i : Nat) (a : FE) : FS := fun δ L => match δ[i]? with
  | some (some x) => (a δ L).then δ fun y L1 => match F x y L1 with
    | some p => setS δ i p.1 fun δ1 => .go .nx δ1 p.2
    | none => .bad
  | _ => .bad
def sIf (c : FT) (a b : FS) : FS := fun δ L => (c δ L).then δ fun t L1 => match t with
  | true => a δ L1
  | false => b δ L1
def sRet (a : FE) : FS := fun δ L => (a δ L).then δ fun d L1 => .go (.rt d) δ L1
def sRetN : FS := fun δ L => .go (.rt .non) δ L
def sDrop (a : FE) : FS := fun δ L => (a δ L).then δ fun _ L1 => .go .nx δ L1
def sBk : FS := fun δ L => .go .bk δ L
def sCt : FS := fun δ L => .go .ct δ L
section
variable {g : GE} {W : WX} {X : Cx} {pos p' : Pos} {e o i : Expr} {es : List Expr} {fe fo fi : FE} {fl : FL} {st : Stmt} {rest a b : List Stmt} {sa sb : FS} {ft : FT}
theorem te_then {De : Ends} {σ : L2.St} {m : M} {L : LH} {H : Hp} {δ : Sl} {k : D → LH → SR} (R : HRel g m L H) (S : SRel g m H δ σ) (h : TSP g W De ((fe δ L).then δ k) m L H) :
    TE' g W fe σ H (fun v H' => ∃ m' L' d, Ext m L H m' L' H' ∧ HRel g m' L' H' ∧ SRel g m' H' δ σ ∧ Rep g m' H' d v ∧ TSP g W De (k d L') m' L' H') :=
  ⟨m, L, δ, R, S, TMP.mono (TMP.then R S h) fun _ _ ⟨m', L', d, E, R', r, h'⟩ => ⟨m', L', d, E, R', S.ext E R, r, h'⟩⟩
theorem ta_then {De : Ends} {σ : L2.St} {m : M} {L : LH} {H : Hp} {δ : Sl} {k : List D → LH → SR} (R : HRel g m L H) (S : SRel g m H δ σ) (h : TSP g W De ((fl δ L).then δ k) m L H) :
    TA' g W fl σ H (fun v H' => ∃ m' L' d, Ext m L H m' L' H' ∧ HRel g m' L' H' ∧ SRel g m' H' δ σ ∧ RepL g m' H' d v ∧ TSP g W De (k d L') m' L' H') :=
  ⟨m, L, δ, R, S, TMP.mono (TMP.then R S h) fun _ _ ⟨m', L', d, E, R', r, h'⟩ => ⟨m', L', d, E, R', S.ext E R, r, h'⟩⟩
theorem tt_then {De : Ends} {σ : L2.St} {m : M} {L : LH} {H : Hp} {δ : Sl} {k : Bool → LH → SR} (R : HRel g m L H) (S : SRel g m H δ σ) (h : TSP g W De ((ft δ L).then δ k) m L H) :
    TT' g W ft σ H (fun v H' => ∃ m' L', Ext m L H m' L' H' ∧ HRel g m' L' H' ∧ SRel g m' H' δ σ ∧ TSP g W De (k v L') m' L' H') :=
  ⟨m, L, δ, R, S, TMP.mono (TMP.then R S h) fun _ _ ⟨m', L', d, E, R', r, h'⟩ => ⟨m', L', E, R', S.ext E R, by cases (show d = _ from r); exact h'⟩⟩
theorem ts_of {f : FS} {De : Ends} {σ : L2.St} {H : Hp} (h : TS' g W f De σ H) : ∃ m L δ, HRel g m L H ∧ SRel g m H δ σ ∧ TSP g W De (f δ L) m L H := h
theorem pSs_nil : PSs X [] (TS' g W sNx) := pss_nil.imp fun De σ H h => by
  obtain ⟨m, L, δ, R, S, h⟩ := h
  exact h m H σ .refl R S
theorem pSs_cons (h1 : PS X st (TS' g W sa)) (h2 : PSs X rest (TS' g W sb)) : PSs X (st :: rest) (TS' g W (sSeq sa sb)) := (pss_cons h1 h2).imp fun De σ H h => by
  obtain ⟨m, L, δ, R, S, h⟩ := h
  refine ⟨m, L, δ, R, S, ?_⟩
  unfold sSeq at h
  cases q : sa δ L with
  | bad => simp only [q] at h; exact h
  | ex x δ1 L1 => simp only [q] at h; exact h
  | go f δ1 L1 =>
    cases f with
    | nx => simp only [q] at h; exact fun m' H' σ' E' R' S' => ⟨m', L1, δ1, R', S', TSP.shift E' h⟩
    | rt d => simp only [q] at h; exact h
    | bk => simp only [q] at h; exact h
    | ct => simp only [q] at h; exact h
theorem pS_pass : PS X (.Pass pos) (TS' g W sNx) := ps_pass.imp fun De σ H h => by
  obtain ⟨m, L, δ, R, S, h⟩ := h
  exact h m H σ .refl R S
theorem pS_doc {x : Str} {j : Nat} {p2 : Pos} : PS X (.Expr (.Constant (.str x) j pos) p2) (TS' g W sNx) := ps_doc.imp fun De σ H h => by
  obtain ⟨m, L, δ, R, S, h⟩ := h
  exact h m H σ .refl R S
theorem pS_break : PS X (.Break pos) (TS' g W sBk) := ps_break.imp fun De σ H h => by
  obtain ⟨m, L, δ, R, S, h⟩ := h
  exact h m H σ .refl R S
theorem pS_cont : PS X (.Continue pos) (TS' g W sCt) := ps_continue.imp fun De σ H h => by
  obtain ⟨m, L, δ, R, S, h⟩ := h
  exact h m H σ .refl R S
theorem pS_drop (he : PE X e (TE' g W fe)) (hs : swapsWith e none pos.line X.env = pure false) : PS X (.Expr e pos) (TS' g W (sDrop fe)) := (ps_expr he hs).imp fun De σ H h => by
  obtain ⟨m, L, δ, R, S, h⟩ := ts_of h
  exact te_mono (te_then R S h) fun v H1 ⟨m1, L1, d, E1, R1, S1, r1, h1⟩ => h1 m1 H1 σ .refl R1 S1
theorem pS_ret (he : PE X e (TE' g W fe)) : PS X (.Return (some e) pos) (TS' g W (sRet fe)) := (ps_ret he).imp fun De σ H h => by
  obtain ⟨m, L, δ, R, S, h⟩ := ts_of h
  exact te_mono (te_then R S h) fun v H1 ⟨m1, L1, d, E1, R1, S1, r1, h1⟩ => h1 m1 H1 v .refl R1 r1
theorem pS_retN : PS X (.Return none pos) (TS' g W sRetN) := ps_retN.imp fun De σ H h => by
  obtain ⟨m, L, δ, R, S, h⟩ := ts_of h
  exact h m H .non .refl R .non
theorem pS_if {c : Expr} (hc : PT X c (TT' g W ft)) (ha : PSs X a (TS' g W sa)) (hb : PSs X b (TS' g W sb)) : PS X (.If c a b pos) (TS' g W (sIf ft sa sb)) := (ps_if hc ha hb).imp fun De σ H h => by
  obtain ⟨m, L, δ, R, S, h⟩ := ts_of h
  refine tt_mono (tt_then R S h) fun t H1 ⟨m1, L1, E1, R1, S1, h1⟩ => ?_
  cases t with
  | true => exact ⟨m1, L1, δ, R1, S1, h1⟩
  | false => exact ⟨m1, L1, δ, R1, S1, h1⟩
theorem pS_set {k : Nat} {x : Str} (nd : X.N.Nodup) (hi : X.N[k]? = some x) (hx : Asg X x) (he : PE X e (TE' g W fe)) (hs : swapsWith e (some (.Name x p')) pos.line X.env = pure false) : PS X (.Assign [.Name x p'] e pos) (TS' g W (sAsg k fe)) :=
  (ps_set nd hi hx.1 he hs hx.2).imp fun De σ H h => by
    obtain ⟨m, L, δ, R, S, h⟩ := ts_of h
    refine te_mono (te_then R S h) fun v H1 ⟨m1, L1, d, E1, R1, S1, r1, h1⟩ => ?_
    rw [setS_eq] at h1
    exact h1 m1 H1 _ .refl R1 (S1.set k r1)
theorem asg_g {t : TG} {slots : List Nat} {fg : FG} {De : Ends} {σ : L2.St} {H : Hp} (h : TS' g W (sAsgG fg fe) De σ H) : tAsg (TE' g W fe) (TG' g slots fg) De σ H := by
  obtain ⟨m, L, δ, R, S, h⟩ := ts_of h
  refine te_mono (te_then R S h) fun v H1 ⟨m1, L1, d, E1, R1, S1, r1, h1⟩ => ?_
  cases q : fg d δ with
  | none => simp only [q] at h1; exact h1.elim
  | some δ1 =>
    simp only [q] at h1
    exact ⟨m1, L1, δ, d, δ1, R1, S1, r1, q, fun σ' S' _ _ => h1 m1 H1 σ' .refl R1 S'⟩
theorem pS_asgT {slots : List Nat} {fg : FG} {k : Nat} (he : PE X e (TE' g W fe)) (hg : PG X (.Tuple es k p') (TG' g slots fg)) (hw : swappedStores [.Tuple es k p'] e X.env = pure none) : PS X (.Assign [.Tuple es k p'] e pos) (TS' g W (sAsgG fg fe)) := by
  have hs : swapsWithSole [.Tuple es k p'] e pos.line X.env = pure false := by
    show swapsWith e (some (.Tuple es k p')) pos.line X.env = pure false
    cases e <;> rfl
  exact (ps_asg he hg hs hw).imp fun De σ H h => asg_g (t := TG' g slots fg) h
theorem pS_par2 {k l : Nat} {x y : Str} {u w : Expr} {px py pt pt2 : Pos} {kt k2 : Nat} (hc : X.calm = true) (nd : X.N.Nodup) (hi : X.N[k]? = some x) (hj : X.N[l]? = some y) (hij : k ≠ l) (hx : X.env.scope.names.lookup x = some .local) (hy : X.env.scope.names.lookup y = some .local)
    (ha : PA X [u, w] (TA' g W fl)) (hw : swappedStores [.Tuple [.Name x px, .Name y py] kt pt] (.Tuple [u, w] k2 pt2) X.env = pure (some [x, y])) :
    PS X (.Assign [.Tuple [.Name x px, .Name y py] kt pt] (.Tuple [u, w] k2 pt2) pos) (TS' g W (sPar2 k l fl)) :=
  (ps_par hc nd hi hj hij hx hy ha hw rfl).imp fun De σ H h => by
    obtain ⟨m, L, δ, R, S, h⟩ := ts_of h
    refine ta_mono (ta_then R S h) fun v H1 ⟨m1, L1, ds, E1, R1, S1, r1, h1⟩ => ?_
    split at h1
    · obtain ⟨v1, v2, rfl, q1, q2⟩ := rep2 r1 rfl
      simp only [setS_eq] at h1
      exact ⟨v1, v2, rfl, h1 m1 H1 _ .refl R1 ((S1.set k q1).set l q2)⟩
    · exact h1.elim
theorem rep3 {m : M} {H : Hp} {ds : List D} {vs : List V} {d e f : D} (r : RepL g m H ds vs) (q : ds = [d, e, f]) : ∃ v w y, vs = [v, w, y] ∧ Rep g m H d v ∧ Rep g m H e w ∧ Rep g m H f y := by
  subst q
  cases r with
  | cons h t => obtain ⟨w, y, rfl, h2, h3⟩ := rep2 t rfl; exact ⟨_, _, _, rfl, h, h2, h3⟩
theorem pS_par3 {k l n : Nat} {x y z : Str} {u w c : Expr} {px py pz pt pt2 : Pos} {kt k2 : Nat} (hc : X.calm = true) (nd : X.N.Nodup) (hi : X.N[k]? = some x) (hj : X.N[l]? = some y) (hl : X.N[n]? = some z) (hij : k ≠ l) (hil : k ≠ n) (hjl : l ≠ n)
    (hx : X.env.scope.names.lookup x = some .local) (hy : X.env.scope.names.lookup y = some .local) (hz : X.env.scope.names.lookup z = some .local)
    (ha : PA X [u, w, c] (TA' g W fl)) (hw : swappedStores [.Tuple [.Name x px, .Name y py, .Name z pz] kt pt] (.Tuple [u, w, c] k2 pt2) X.env = pure (some [x, y, z])) :
    PS X (.Assign [.Tuple [.Name x px, .Name y py, .Name z pz] kt pt] (.Tuple [u, w, c] k2 pt2) pos) (TS' g W (sPar3 k l n fl)) :=
  (ps_par3 hc nd hi hj hl hij hil hjl hx hy hz ha hw rfl).imp fun De σ H h => by
    obtain ⟨m, L, δ, R, S, h⟩ := ts_of h
    refine ta_mono (ta_then R S h) fun v H1 ⟨m1, L1, ds, E1, R1, S1, r1, h1⟩ => ?_
    split at h1
    · obtain ⟨v1, v2, v3, rfl, q1, q2, q3⟩ := rep3 r1 rfl
      simp only [setS_eq] at h1
      exact ⟨v1, v2, v3, rfl, h1 m1 H1 _ .refl R1 (((S1.set k q1).set l q2).set n q3)⟩
    · exact h1.elim
/-- what stands between the brackets of a store -/
def noSlice : Expr → Bool
  | .Slice .. => false
  | _ => true
theorem pS_sub (z : Cz g W X) (ho : PE X o (TE' g W fo)) (hi : PE X i (TE' g W fi)) (he : PE X e (TE' g W fe)) (hn : noSlice i = true) : PS X (.Assign [.Subscript o i p'] e pos) (TS' g W (sSub fo fi fe)) := by
  have hg := pg_sub (pos := p') ho hi (set_D z) (by intro v; cases i <;> first | rfl | cases hn)
  have hs : swapsWithSole [.Subscript o i p'] e pos.line X.env = pure false := by
    show swapsWith e (some (.Subscript o i p')) pos.line X.env = pure false
    cases e <;> rfl
  have hw : swappedStores [.Subscript o i p'] e X.env = pure none := by cases e <;> rfl
  exact (ps_asg he hg hs hw).imp fun De σ H h => by
    obtain ⟨m, L, δ, R, S, h⟩ := ts_of h
    refine te_mono (te_then R S h) fun v H1 ⟨m1, L1, d, E1, R1, S1, r1, h1⟩ => ?_
    refine te_mono (te_then R1 S1 h1) fun x H2 ⟨m2, L2, dx, E2, R2, S2, r2, h2⟩ => ?_
    refine te_mono (te_then R2 S2 h2) fun y H3 ⟨m3, L3, dy, E3, R3, S3, r3, h3⟩ => ?_
    cases q : dSet dx dy d L3 with
    | none => simp only [q] at h3; exact h3.elim
    | some L4 =>
      simp only [q] at h3
      exact ⟨m3, L3, dx, dy, d, L4, R3, r2.ext E3 R2, r3, (r1.ext E2 R1).ext E3 R2, q, fun H4 E4 R4 => h3 m3 H4 σ E4 R4 (S3.ext E4 R3)⟩
theorem pS_aug {F : F2} {op : Operator} {k : Nat} {x : Str} (nd : X.N.Nodup) (hi : X.N[k]? = some x) (hx : Asg X x) (he : PE X e (TE' g W fe)) (ho : PIp X op (fun v w H Q => rD2 g F v w H Q ∧ ∀ l, v ≠ .ref l))
    (hF : ∀ d e L p, F d e L = some p → (∃ j, d = .int j) ∨ (∃ j, d = .str j)) : PS X (.AugAssign (.Name x p') op e pos) (TS' g W (sAug F k fe)) :=
  (ps_aug nd hi hx.1 he ho hx.2).imp fun De σ H h => by
    obtain ⟨m, L, δ, R, S, h⟩ := ts_of h
    unfold sAug at h
    split at h
    · rename_i d q
      obtain ⟨v, h1, h2⟩ := S.2 k d q
      refine ⟨v, h1, te_mono (te_then R S h) fun y H1 ⟨m1, L1, d2, E1, R1, S1, r1, h3⟩ => ?_⟩
      cases f : F d d2 L1 with
      | none => simp only [f] at h3; exact h3.elim
      | some p =>
        simp only [f, setS_eq] at h3
        refine ⟨⟨m1, L1, d, d2, p.1, p.2, R1, h2.ext E1 R, r1, f, fun m2 H2 w E2 R2 r2 => h3 m2 H2 _ E2 R2 ((S1.ext E2 R1).set k r2)⟩, fun l z => ?_⟩
        rcases hF d d2 L1 p f with ⟨j, rfl⟩ | ⟨j, rfl⟩
        · cases h2; cases z
        · cases h2; cases z
    · exact h.elim
theorem pS_for (z : Cz g W X) {tg iter : Expr} {body : List Stmt} {fi : FI} {fg : FG} {slots : List Nat} (hi : PI X tg iter (TI' g W fi)) (hg : PG X tg (TG' g slots fg)) (hb : PSs X body (TS' g W sa)) (hs : ∀ x, foldedSetIterable iter X.env x = pure x) :
    PS X (.For tg iter body [] pos) (TS' g W (xFor fi fg sa)) := (ps_for z.po z.calm hi hg hb hs).imp fun De σ H h => ts_for h
theorem pS_while (z : Cz g W X) {c : Expr} {body : List Stmt} (hc : PT X c (TT' g W ft)) (hb : PSs X body (TS' g W sa)) (n : Nat) : PS X (.While c body [] pos) (TS' g W (whileL ft sa n)) := (ps_while z.po hc hb).imp fun De σ H h => ts_while h
/-- no set display -/
def noSet : Expr → Bool
  | .Set .. => false
  | _ => true
theorem noset_ok {e : Expr} {env : Env} (h : noSet e = true) : ∀ x, foldedSetIterable e env x = pure x := by
  intro x
  cases e <;> first | rfl | cases h
end
end FC
end

section
namespace FC
open PySem PySem.Spec PyProof.Rows L2

/-! ### how plain parameters are bound -/
theorem forIn_kw {names : List Str} (f : Str × Value → List (Str × Value) × List (Str × Value) → Sem (ForInStep (List (Str × Value) × List (Str × Value))))
    (hf : ∀ k v st, names.contains k = true → st.1.lookup k = none → f (k, v) st = pure (.yield (st.1 ++ [(k, v)], st.2))) :
    ∀ (kw sl : List (Str × Value)) (ex : List (Str × Value)), (∀ p ∈ kw, names.contains p.1 = true ∧ sl.lookup p.1 = none) → (kw.map (·.1)).Nodup → forIn kw (sl, ex) f = pure (sl ++ kw, ex)
  | [], sl, ex, _, _ => by rw [List.append_nil]; rfl
  | (k, v) :: r, sl, ex, h, nd => by
    obtain ⟨h1, h2⟩ := h (k, v) List.mem_cons_self
    rw [List.map_cons, List.nodup_cons] at nd
    rw [List.forIn_cons, hf k v (sl, ex) h1 h2]
    show forIn r (sl ++ [(k, v)], ex) f = _
    rw [forIn_kw f hf r (sl ++ [(k, v)]) ex (fun p hp => ⟨(h p (List.mem_cons_of_mem _ hp)).1, ?_⟩) nd.2]
    · rw [List.append_assoc]; rfl
    · have h3 := (h p (List.mem_cons_of_mem _ hp)).2
      rw [List.lookup_append, h3]
      have ne : (p.1 == k) = false := by
        rw [beq_eq_false_iff_ne]
        intro e
        exact nd.1 (by rw [← e]; exact List.mem_map.mpr ⟨p, hp, rfl⟩)
      show List.lookup p.1 [(k, v)] = none
      rw [List.lookup_cons, ne]; rfl
theorem binds_zip {sl : List (Str × Value)} : ∀ {ps : List Str} {xs : List Value}, Paired (fun n x => sl.lookup n = some x) ps xs → (ps.filterMap fun n => (sl.lookup n).map fun x => (n, x)) = ps.zip xs ∧ (ps.filter fun n => (sl.lookup n).isNone) = []
  | _, _, .nil => ⟨rfl, rfl⟩
  | n :: ps, x :: xs, .cons h t => by
    obtain ⟨h1, h2⟩ := binds_zip t
    refine ⟨?_, ?_⟩
    · rw [List.filterMap_cons, h]
      show (n, x) :: _ = _
      rw [h1]; rfl
    · rw [List.filter_cons, h]
      exact h2
theorem bind_gen {fd : FuncData} {as : List Arg} {us : List Value} {kw : List (Str × Value)} {xs : List Value} (hp : fd.params = ⟨[], as, none, [], [], none, []⟩) (hd : fd.defaults = .none) (hu : us.length ≤ as.length)
    (hk : ∀ p ∈ kw, (as.map (·.arg)).contains p.1 = true ∧ ((as.map (·.arg)).zip us).lookup p.1 = none) (nd : (kw.map (·.1)).Nodup) (hl : Paired (fun n x => ((as.map (·.arg)).zip us ++ kw).lookup n = some x) (as.map (·.arg)) xs) :
    bindArgs fd ⟨us, kw⟩ = pure ((as.map (·.arg)).zip xs) := by
  obtain ⟨b1, b2⟩ := binds_zip hl
  unfold bindArgs
  simp only [hp, hd, List.map_nil, List.nil_append, List.append_nil]
  rw [forIn_kw (names := as.map (·.arg)) _ (fun k v st h1 h2 => by simp only [h1, h2]; rfl) kw _ _ hk nd]
  have hn : ¬ (us.length > as.length) := by omega
  have hs : seqItems? Value.none = pure none := rfl
  simp only [hs, pure_bind]
  simp only [List.length_map, decide_eq_false hn, Bool.false_and, Bool.false_eq_true, if_false, Option.getD_none, List.length_nil, Nat.sub_zero, List.drop_nil, List.drop_zero]
  have ht : ((as.map (·.arg)).take as.length) = as.map (·.arg) := by
    rw [List.take_of_length_le]; simp
  have hx : ((#[] : Array Value).toList) = [] := rfl
  rw [ht, b2]
  have hz : ((as.map (·.arg)).drop as.length).zip ([] : List Value) = [] := by simp
  simp only [List.isEmpty_nil, Bool.not_true, Bool.false_eq_true, if_false, hz, List.forIn_nil, pure_bind]
  rw [b1]
/-- where a name stands -/
def ixOf : List Str → Str → Option Nat
  | [], _ => none
  | a :: r, n => match decide (a = n) with
    | true => some 0
    | false => match ixOf r n with
      | some k => some (k + 1)
      | none => none
theorem ixOf_look : ∀ {ns : List Str} {vs : List Value} {n : Str} {k : Nat}, ixOf ns n = some k → ns.length = vs.length → (ns.zip vs).lookup n = vs[k]?
  | [], _, _, _, h, _ => by cases h
  | a :: r, [], _, _, _, e => by simp at e
  | a :: r, v :: vs, n, k, h, e => by
    rw [ixOf] at h
    rw [List.zip_cons_cons, List.lookup_cons]
    by_cases q : a = n
    · rw [decide_eq_true q] at h
      cases h
      subst q
      simp
    · rw [decide_eq_false q] at h
      have ne : (n == a) = false := by rw [beq_eq_false_iff_ne]; exact fun z => q z.symm
      rw [ne]
      cases z : ixOf r n with
      | none => simp only [z] at h; cases h
      | some j =>
        simp only [z] at h
        cases h
        rw [ixOf_look z (by simpa using e)]; simp
theorem ixOf_none : ∀ {ns : List Str} {vs : List Value} {n : Str}, ixOf ns n = none → (ns.zip vs).lookup n = none
  | [], _, _, _ => rfl
  | a :: r, [], _, _ => rfl
  | a :: r, v :: vs, n, h => by
    rw [ixOf] at h
    rw [List.zip_cons_cons, List.lookup_cons]
    by_cases q : a = n
    · rw [decide_eq_true q] at h; cases h
    · rw [decide_eq_false q] at h
      have ne : (n == a) = false := by rw [beq_eq_false_iff_ne]; exact fun z => q z.symm
      rw [ne]
      cases z : ixOf r n with
      | none => exact ixOf_none z
      | some j => simp only [z] at h; cases h
/-- the places of the parameters among what is given -/
def permOf (names : List Str) : List Str → Option (List Nat)
  | [] => some []
  | p :: ps => match ixOf names p with
    | some k => match permOf names ps with
      | some r => some (k :: r)
      | none => none
    | none => none
def pick {α : Type} (vs : List α) : List Nat → Option (List α)
  | [] => some []
  | k :: r => match vs[k]? with
    | some v => match pick vs r with
      | some t => some (v :: t)
      | none => none
    | none => none
theorem pick_ok {names : List Str} {vs : List Value} (e : names.length = vs.length) : ∀ {ps : List Str} {perm : List Nat} {xs : List Value}, permOf names ps = some perm → pick vs perm = some xs → Paired (fun n x => (names.zip vs).lookup n = some x) ps xs
  | [], _, _, h, q => by cases h; cases q; exact .nil
  | p :: ps, _, _, h, q => by
    rw [permOf] at h
    cases z : ixOf names p with
    | none => simp only [z] at h; cases h
    | some k =>
      simp only [z] at h
      cases z2 : permOf names ps with
      | none => simp only [z2] at h; cases h
      | some r =>
        simp only [z2] at h
        cases h
        rw [pick] at q
        cases z3 : vs[k]? with
        | none => simp only [z3] at q; cases q
        | some v =>
          simp only [z3] at q
          cases z4 : pick vs r with
          | none => simp only [z4] at q; cases q
          | some t =>
            simp only [z4] at q
            cases q
            exact .cons ((ixOf_look z e).trans z3) (pick_ok e z2 z4)
/-- what a call's keywords are to be: parameters behind the positional ones, each once -/
def kwOk (ps : List Str) (k : Nat) (ks : List Str) : Bool := decide (ks.Nodup) && ks.all (fun n => ps.contains n && (ixOf (ps.take k) n).isNone)
theorem zip_take {α : Type} : ∀ (ps : List Str) (us : List α), ps.zip us = (ps.take us.length).zip us
  | [], us => by simp
  | p :: ps, [] => by simp
  | p :: ps, u :: us => by simp [zip_take ps us]
theorem bind_kw {fd : FuncData} {as : List Arg} {us ws xs : List Value} {ks : List Str} {perm : List Nat} (hp : fd.params = ⟨[], as, none, [], [], none, []⟩) (hd : fd.defaults = .none) (hu : us.length ≤ as.length) (hw : ks.length = ws.length)
    (ok : kwOk (as.map (·.arg)) us.length ks = true) (hperm : permOf ((as.map (·.arg)).take us.length ++ ks) (as.map (·.arg)) = some perm) (hx : pick (us ++ ws) perm = some xs) : bindArgs fd ⟨us, ks.zip ws⟩ = pure ((as.map (·.arg)).zip xs) := by
  unfold kwOk at ok
  rw [Bool.and_eq_true] at ok
  have nd := of_decide_eq_true ok.1
  have hl : ((as.map (·.arg)).take us.length).length = us.length := by rw [List.length_take, List.length_map]; omega
  have km : (ks.zip ws).map (·.1) = ks := by
    have : ∀ (a : List Str) (b : List Value), a.length = b.length → (a.zip b).map (·.1) = a := by
      intro a
      induction a with
      | nil => intro b _; rfl
      | cons x a ih => intro b h; cases b with
        | nil => simp at h
        | cons y b => rw [List.zip_cons_cons, List.map_cons, ih b (by simpa using h)]
    exact this ks ws hw
  refine bind_gen hp hd hu (fun p h => ?_) (by rw [km]; exact nd) ?_
  · have hm : p.1 ∈ ks := by rw [← km]; exact List.mem_map.mpr ⟨p, h, rfl⟩
    have q := List.all_eq_true.mp ok.2 p.1 hm
    rw [Bool.and_eq_true] at q
    refine ⟨q.1, ?_⟩
    rw [zip_take]
    refine ixOf_none ?_
    have := q.2
    cases z : ixOf ((as.map (·.arg)).take us.length) p.1 with
    | none => rfl
    | some j => rw [z] at this; cases this
  · have e1 : (as.map (·.arg)).zip us ++ ks.zip ws = ((as.map (·.arg)).take us.length ++ ks).zip (us ++ ws) := by
      rw [List.zip_append hl, ← zip_take]
    rw [e1]
    exact pick_ok (by rw [List.length_append, List.length_append, hl, hw]) hperm hx
theorem bind_pos {fd : FuncData} {as : List Arg} {us : List Value} (hp : fd.params = ⟨[], as, none, [], [], none, []⟩) (hd : fd.defaults = .none) (nd : (as.map (·.arg)).Nodup) (hu : us.length = as.length) : bindArgs fd ⟨us, []⟩ = pure ((as.map (·.arg)).zip us) := by
  refine bind_gen hp hd (Nat.le_of_eq hu) (fun p h => by cases h) List.nodup_nil ?_
  rw [List.append_nil]
  have : ∀ (ps : List Str) (us : List Value), ps.Nodup → us.length = ps.length → Paired (fun n x => (ps.zip us).lookup n = some x) ps us := by
    intro ps
    induction ps with
    | nil => intro us _ h; cases us with
      | nil => exact .nil
      | cons _ _ => simp at h
    | cons p ps ih =>
      intro us nd h
      cases us with
      | nil => simp at h
      | cons u us =>
        rw [List.nodup_cons] at nd
        refine .cons (by rw [List.zip_cons_cons, List.lookup_cons]; simp) ?_
        have r := ih us nd.2 (by simpa using h)
        have step : ∀ {qs : List Str} {xs : List Value}, (∀ q ∈ qs, q ≠ p) → Paired (fun n x => (ps.zip us).lookup n = some x) qs xs → Paired (fun n x => ((p :: ps).zip (u :: us)).lookup n = some x) qs xs := by
          intro qs xs hne pr
          induction pr with
          | nil => exact .nil
          | @cons n x _ _ h t ih2 =>
            refine .cons ?_ (ih2 fun q hq => hne q (List.mem_cons_of_mem _ hq))
            rw [List.zip_cons_cons, List.lookup_cons]
            have nb : (n == p) = false := by rw [beq_eq_false_iff_ne]; exact hne n List.mem_cons_self
            rw [nb]; exact h
        exact step (fun q hq e => nd.1 (e ▸ hq)) r
  exact this _ us nd (by rw [hu, List.length_map])
end FC
end

section
namespace FC
open PySem PySem.Spec PyProof.Rows L2

/-! ### calls of functions of the text -/
def spF (g : GE) (r : List D → LH → Rs D) : Sp := fun vs H Q E => ∃ m L ds, HRel g m L H ∧ RepL g m H ds vs ∧ TMP g (fun cv dd _ H' => E cv dd H') [] (Rep g) (r ds L) m L H Q
theorem repl_len {g : GE} {m : M} {H : Hp} : ∀ {ds : List D} {vs : List V}, RepL g m H ds vs → ds.length = vs.length
  | _, _, .nil => rfl
  | _, _, .cons _ r => by rw [List.length_cons, List.length_cons, repl_len r]
theorem repl_app {g : GE} {m : M} {H : Hp} : ∀ {ds zd : List D} {vs zs : List V}, RepL g m H ds vs → RepL g m H zd zs → RepL g m H (ds ++ zd) (vs ++ zs)
  | _, _, _, _, .nil, b => b
  | _, _, _, _, .cons h t, b => .cons h (repl_app t b)
/-- a function as it may be called from here -/
structure Fn1 (g : GE) (X : Cx) (i : Nat) (ps : List Str) (r : List D → LH → Rs D) : Prop where
  ok : ∃ k as fd, Room k X.A ∧ FnOk X.prog X.w X.K X.mg X.base (L2.CX X.prog X.w) k (g.fa i) fd ps (spF g r) ∧ fd.params = ⟨[], as, none, [], [], none, []⟩ ∧ fd.defaults = .none ∧ as.map (·.arg) = ps
  nd : ps.Nodup
  kp : PySem.W.keepIn X.K (.ref (g.fa i)) = true
/-- all that may be called -/
structure Fok (g : GE) (X : Cx) (tab : Nat → Option (List Str)) (cf : CF) : Prop where
  kp : ∀ i, PySem.W.keepIn X.K (.ref (g.fa i)) = true
  fn : ∀ i ds L, cf i ds L ≠ .bad → ∃ ps, tab i = some ps ∧ ds.length = ps.length ∧ Fn1 g X i ps (cf i)
theorem tmp_ne {g : GE} {W : WX} {σ : L2.St} {α β : Type} {Rl : M → Hp → α → β → Prop} {r : Rs α} {m : M} {L : LH} {H : Hp} {Q : β → Hp → Prop} (h : TMP g W σ Rl r m L H Q) : r ≠ .bad := fun e => by rw [e] at h; exact h
section
variable {g : GE} {W : WX} {X : Cx} {tab : Nat → Option (List Str)} {cf : CF} {pins : List (Addr × Obj)} {σ : L2.St} {m : M} {L : LH} {H : Hp} {s : Shared} {Q : VK} {us ws : List Value} {vs zs : List V} {ds : List D} {i : Nat} {ps : List Str}
theorem run_F (C : Cz g W X) (F : Fok g X tab cf) (I : Inv X pins σ H s) (R : HRel g m L H) (rd : RepL g m H ds vs) (rv : Vals vs us) (h : TMP g W σ (Rep g) (cf i ds L) m L H Q) :
    PySem.W.keepIn X.K (.ref (g.fa i)) = true ∧ wpAny (model X.prog X.w) X.A (call (.ref (g.fa i)) us) (EP X pins σ Q) X.xe s := by
  obtain ⟨ps, ht, hl, ⟨k, as, fd, hr, F1, hp, hd, e⟩, nd, kp⟩ := F.fn i ds L (tmp_ne h)
  refine ⟨kp, run_fnS (E := WE W) F1 hr (Binds.all fun us hu => ?_) (passAt C.tk σ) I rv ⟨m, L, ds, R, rd, h⟩⟩
  subst e
  exact bind_pos hp hd nd (by rw [hu, List.length_map])
theorem run_FK (C : Cz g W X) (F : Fn1 g X i ps (cf i)) {ks : List Str} {perm : List Nat} {ds xs zd : List D} (I : Inv X pins σ H s) (R : HRel g m L H) (rd : RepL g m H ds vs) (rv : Vals vs us) (rz : RepL g m H zd zs) (rw' : Vals zs ws)
    (hu : ds.length ≤ ps.length) (hk : ks.length = zd.length) (ok : kwOk ps ds.length ks = true) (hperm : permOf (ps.take ds.length ++ ks) ps = some perm) (hx : pick (ds ++ zd) perm = some xs) (h : TMP g W σ (Rep g) (cf i xs L) m L H Q) :
    wpAny (model X.prog X.w) X.A (call (.ref (g.fa i)) us (ks.zip ws)) (EP X pins σ Q) X.xe s := by
  obtain ⟨⟨k, as, fd, hr, F1, hp, hd, e⟩, nd, kp⟩ := F
  have lu : us.length = ds.length := by rw [repl_len rd, rv.length]
  have lw : ws.length = zd.length := by rw [repl_len rz, rw'.length]
  have pk : ∀ {perm : List Nat} {xs : List D} {ds : List D} {vs : List V} {us : List Value}, RepL g m H ds vs → Vals vs us → pick ds perm = some xs → ∃ xv xu, pick us perm = some xu ∧ RepL g m H xs xv ∧ Vals xv xu := by
    intro perm
    induction perm with
    | nil => intro xs ds vs us _ _ h; cases h; exact ⟨[], [], rfl, .nil, .nil⟩
    | cons p r ih =>
      intro xs ds vs us rd rv h
      rw [pick] at h
      cases z : ds[p]? with
      | none => simp only [z] at h; cases h
      | some d =>
        simp only [z] at h
        cases z2 : pick ds r with
        | none => simp only [z2] at h; cases h
        | some t =>
          simp only [z2] at h
          cases h
          obtain ⟨xv, xu, e1, e2, e3⟩ := ih rd rv z2
          obtain ⟨v, h1, h2⟩ := rd.get z
          obtain ⟨u, h3, h4⟩ := rv.get h1
          exact ⟨v :: xv, u :: xu, by rw [pick, h3, e1], .cons h2 e2, .cons h4 e3⟩
  obtain ⟨xv, xu, e1, e2, e3⟩ := pk (repl_app rd rz) (rv.append rw') hx
  have hb : BindsTo s fd ⟨us, ks.zip ws⟩ (ps.zip xu) := by
    subst e
    rw [List.length_map] at hu
    rw [← lu] at ok hperm
    exact .of_eq (bind_kw hp hd (by rw [lu]; exact hu) (by rw [hk, lw]) ok hperm e1)
  refine wpAny_call (codeAny_mono (F1.run X.A X.stack s H ⟨us, ks.zip ws⟩ xu xv Q (WE W σ) hr I.env0 hb e3 ⟨m, L, xs, R, e2, h⟩) fun r s' hq => ?_)
  cases r with
  | error e => exact passAt C.tk σ pins H s e s' I hq
  | ok fl =>
    cases fl with
    | ret u => exact I.after hq
    | next => exact False.elim hq
    | brk => exact False.elim hq
    | cont => exact False.elim hq
end
/-! how a callee is looked up -/
def Fwd (func : Expr) : Prop := ∀ (M : Model) (A : Around) (E : Value → Shared → Prop) (s : Shared) (env : Env) (args : List Expr) (kws : List Keyword) (pos : Pos) (Q : Value → Shared → Prop),
  wpAny M A (eval func env) (fun f s₁ => wpAny M A (callWith pos f [] (backTo pos (starEach args env)) (backToKw pos (keywordEach kws env))) Q E s₁) E s → wpAny M A (eval (.Call func args kws pos) env) Q E s
theorem fwd_name {x : Str} {p : Pos} : Fwd (.Name x p) := fun _ _ _ _ _ _ _ _ _ h => wpAny_Call_Name_kw h
theorem fwd_sub {a b : Expr} {p : Pos} : Fwd (.Subscript a b p) := fun M A E s env args kws pos Q h => by
  have e : eval (.Call (.Subscript a b p) args kws pos) env = (do callWith pos (← eval (.Subscript a b p) env) [] (backTo pos (starEach args env)) (backToKw pos (keywordEach kws env))) := by rfl
  rw [e]
  exact wpAny_bind h
def fwdE : Expr → Bool
  | .Name _ _ => true
  | .Subscript _ _ _ => true
  | _ => false
theorem fwd_of {f : Expr} (h : fwdE f = true) : Fwd f := by
  cases f <;> first | exact fwd_name | exact fwd_sub | (cases h)
/-- the callee's value, then the arguments -/
def xApp (cf : CF) (a : FE) (r : FL) : FE := fun δ L => (a δ L).bind fun x L1 => match x with
  | .fn i => (r δ L1).bind fun ds L2 => cf i ds L2
  | _ => .bad
section
variable {g : GE} {W : WX} {X : Cx} {tab : Nat → Option (List Str)} {cf : CF} {func : Expr} {es : List Expr} {pos : Pos} {fa : FE} {fl : FL}
theorem pE_app {e : Expr} (C : Cz g W X) (F : Fok g X tab cf) (hF : Fwd func) (hf : PE X func (TE' g W fa)) (ha : PA X (e :: es) (TA' g W fl)) (hp : (e :: es).all plainE = true) : PE X (.Call func (e :: es) [] pos) (TE' g W (xApp cf fa fl)) := by
  refine ⟨fun pins s σ H Q I h => ?_⟩
  obtain ⟨m, L, δ, R, S, h⟩ := te_of h
  refine hF _ _ _ _ _ _ _ _ _ (thn (hf.run pins s σ H _ I (te_bind R S h)) fun u s1 ⟨v, H1, I1, rv, m1, L1, d, E1, R1, S1, r1, h1⟩ => ?_)
  cases r1 with
  | fn i =>
    obtain rfl : u = Value.ref (g.fa i) := rv
    rw [List.all_cons, Bool.and_eq_true] at hp
    refine PySem.W.callWith_K (h₀ := X.base) I1.ok.mod.kin (F.kp i) (thn (ha.run pos pins s1 σ H1 _ I1 (ta_bind R1 S1 h1)) fun us s2 ⟨vs, H2, I2, rvs, m2, L2, ds, E2, R2, S2, r2, h2⟩ => ⟨I2.kIn, ?_⟩) (star1 hp.1) (star_none hp.2)
    exact (run_F C F I2 R2 r2 rvs h2).2
  | _ => exact h1.elim
theorem pE_app0 (C : Cz g W X) (F : Fok g X tab cf) (hF : Fwd func) (hf : PE X func (TE' g W fa)) : PE X (.Call func [] [] pos) (TE' g W (xApp cf fa lNil)) := by
  refine ⟨fun pins s σ H Q I h => ?_⟩
  obtain ⟨m, L, δ, R, S, h⟩ := te_of h
  refine hF _ _ _ _ _ _ _ _ _ (thn (hf.run pins s σ H _ I (te_bind R S h)) fun u s1 ⟨v, H1, I1, rv, m1, L1, d, E1, R1, S1, r1, h1⟩ => ?_)
  cases r1 with
  | fn i =>
    obtain rfl : u = Value.ref (g.fa i) := rv
    have h2 : TMP g W σ (Rep g) (cf i [] L1) m1 L1 H1 Q := h1
    exact PySem.W.callWith_K0 I1.kIn (F.kp i) (run_F C F I1 R1 .nil .nil h2).2
  | _ => exact h1.elim
/-- a call with a star among the arguments, behind a plain one -/
theorem pE_appS {e : Expr} (C : Cz g W X) (F : Fok g X tab cf) (hF : Fwd func) (hf : PE X func (TE' g W fa)) (ha : PA X (e :: es) (TA' g W fl)) (hp : plainE e = true) (hst : (backTo pos (starEach es X.env)).any (·.1) = true) : PE X (.Call func (e :: es) [] pos) (TE' g W (xApp cf fa fl)) := by
  refine ⟨fun pins s σ H Q I h => ?_⟩
  obtain ⟨m, L, δ, R, S, h⟩ := te_of h
  refine hF _ _ _ _ _ _ _ _ _ (thn (hf.run pins s σ H _ I (te_bind R S h)) fun u s1 ⟨v, H1, I1, rv, m1, L1, d, E1, R1, S1, r1, h1⟩ => ?_)
  cases r1 with
  | fn i =>
    obtain rfl : u = Value.ref (g.fa i) := rv
    refine PySem.W.callWith_S2 (h₀ := X.base) I1.ok.mod.kin (F.kp i) (thn (ha.run pos pins s1 σ H1 _ I1 (ta_bind R1 S1 h1)) fun us s2 ⟨vs, H2, I2, rvs, m2, L2, ds, E2, R2, S2, r2, h2⟩ => ⟨I2.kIn, ?_⟩) (star1 hp) hst
    exact (run_F C F I2 R2 r2 rvs h2).2
  | _ => exact h1.elim

/-! ### with keywords -/
def kwsN : List Keyword → Option (List Str)
  | [] => some []
  | ⟨some n, _, _⟩ :: r => match kwsN r with
    | some t => some (n :: t)
    | none => none
  | ⟨none, _, _⟩ :: _ => none
theorem kws_all {env : Env} {pos : Pos} : ∀ {kws : List Keyword} {ks : List Str}, kwsN kws = some ks → (backToKw pos (keywordEach kws env)).all (·.1.isSome) = true ∧ (backToKw pos (keywordEach kws env)).filterMap (·.1) = ks ∧ (backToKw pos (keywordEach kws env)).any (·.1.isNone) = false
  | [], _, h => by cases h; exact ⟨rfl, rfl, rfl⟩
  | ⟨some n, e, p⟩ :: r, _, h => by
    rw [kwsN] at h
    cases z : kwsN r with
    | none => simp only [z] at h; cases h
    | some t =>
      simp only [z] at h
      cases h
      obtain ⟨h1, h2, h3⟩ := kws_all (env := env) (pos := pos) z
      refine ⟨?_, ?_, ?_⟩
      · show (true && _) = true; exact h1
      · show n :: _ = _; exact congrArg (n :: ·) h2
      · show (false || _) = false; exact h3
  | ⟨none, _, _⟩ :: _, _, h => by cases h
theorem pK_nil : PK X [] (TA' g W lNil) := ⟨fun pos pins s σ H Q I h => by
  obtain ⟨m, L, δ, R, S, h⟩ := h
  exact pk_nil.run pos pins s σ H Q I (h m H [] .refl R .nil)⟩
theorem pK_cons {nm : Option Str} {a : Expr} {kws : List Keyword} {kpos : Pos} {fa : FE} {fl : FL} (ha : PE X a (TE' g W fa)) (hr : PK X kws (TA' g W fl)) : PK X (⟨nm, a, kpos⟩ :: kws) (TA' g W (lCons fa fl)) :=
  ⟨fun pos pins s σ H Q I h => (pk_cons ha hr).run pos pins s σ H Q I (by
    obtain ⟨m, L, δ, R, S, h⟩ := h
    refine te_mono (te_bind R S h) fun x H1 ⟨m1, L1, d, E1, R1, S1, r1, h1⟩ => ?_
    exact ta_mono (ta_bind R1 S1 h1) fun xs H2 ⟨m2, L2, ds, E2, R2, S2, r2, h2⟩ => h2 m2 H2 (x :: xs) .refl R2 (.cons (r1.ext E2 R1) r2))⟩
/-- what a keyword call gives -/
def xKw (np nk : Nat) (perm : List Nat) (i : Nat) (cf : CF) (r rk : FL) : FE := fun δ L => (r δ L).bind fun ds L1 => (rk δ L1).bind fun zd L2 => match ds.length.beq np && zd.length.beq nk, pick (ds ++ zd) perm with
  | true, some xs => cf i xs L2
  | _, _ => .bad
theorem xkw_of {np nk i : Nat} {perm : List Nat} {ds zd : List D} {L : LH} {σ : L2.St} {m : M} {H : Hp} {Q : VK} (h : TMP g W σ (Rep g) (match ds.length.beq np && zd.length.beq nk, pick (ds ++ zd) perm with
  | true, some xs => cf i xs L
  | _, _ => .bad) m L H Q) : ds.length = np ∧ zd.length = nk ∧ ∃ xs, pick (ds ++ zd) perm = some xs ∧ TMP g W σ (Rep g) (cf i xs L) m L H Q := by
  split at h
  · rename_i xs e1 e2
    rw [Bool.and_eq_true] at e1
    exact ⟨Nat.eq_of_beq_eq_true e1.1, Nat.eq_of_beq_eq_true e1.2, xs, e2, h⟩
  · exact h.elim
theorem pE_kw {x : Str} {p : Pos} {e : Expr} {kws : List Keyword} {ks ps : List Str} {perm : List Nat} {i : Nat} {fk : FL} (C : Cz g W X) (F : Fok g X tab cf) (ht : tab i = some ps) (hg : Gl X x) (hm : X.mg x = some (.ref (g.fa i))) (hdb : (x == ("__debug__" : Str)) = false)
    (ha : PA X (e :: es) (TA' g W fl)) (hp : (e :: es).all plainE = true) (hk : PK X kws (TA' g W fk)) (hks : kwsN kws = some ks) (ok : kwOk ps (e :: es).length ks = true) (hpm : permOf (ps.take (e :: es).length ++ ks) ps = some perm) (hle : (e :: es).length ≤ ps.length) :
    PE X (.Call (.Name x p) (e :: es) kws pos) (TE' g W (xKw (e :: es).length ks.length perm i cf fl fk)) := by
  refine ⟨fun pins s σ H Q I h => ?_⟩
  obtain ⟨m, L, δ, R, S, h⟩ := te_of h
  obtain ⟨k1, k2, k3⟩ := kws_all (env := X.env) (pos := pos) hks
  rw [List.all_cons, Bool.and_eq_true] at hp
  refine wpAny_Call_Name_kw (ld_glob I hg hm ?_ hdb)
  refine PySem.W.callWith_KW (h₀ := X.base) I.ok.mod.kin (F.kp i) k1 (thn (ha.run pos pins s σ H _ I (ta_bind R S h)) fun us s1 ⟨vs, H1, I1, rvs, m1, L1, ds, E1, R1, S1, r1, h1⟩ => ?_) ?_ (star1 hp.1)
  · refine thn (hk.run pos pins s1 σ H1 _ I1 (ta_bind R1 S1 h1)) fun ws s2 ⟨zs, H2, I2, rzs, m2, L2, zd, E2, R2, S2, r2, h2⟩ => ⟨I2.kIn, ?_⟩
    rw [k2]
    obtain ⟨l1, l2, xs, hx, h3⟩ := xkw_of h2
    obtain ⟨ps', ht', _, f1⟩ := F.fn i xs _ (tmp_ne h3)
    rw [ht] at ht'
    cases ht'
    rw [← l1] at ok hpm hle
    exact run_FK C f1 I2 R2 (r1.ext E2 R1) rvs r2 rzs hle l2.symm ok hpm hx h3
  · rw [k3, star1 hp.1]
    show ((false || (backTo pos (starEach es X.env)).any (·.1)) || false) = false
    rw [star_none hp.2]; rfl
theorem pE_kw0 {x : Str} {p : Pos} {kws : List Keyword} {ks ps : List Str} {perm : List Nat} {i : Nat} {fk : FL} (C : Cz g W X) (F : Fok g X tab cf) (ht : tab i = some ps) (hg : Gl X x) (hm : X.mg x = some (.ref (g.fa i))) (hdb : (x == ("__debug__" : Str)) = false)
    (hk : PK X kws (TA' g W fk)) (hks : kwsN kws = some ks) (ok : kwOk ps 0 ks = true) (hpm : permOf (ps.take 0 ++ ks) ps = some perm) :
    PE X (.Call (.Name x p) [] kws pos) (TE' g W (xKw 0 ks.length perm i cf lNil fk)) := by
  refine ⟨fun pins s σ H Q I h => ?_⟩
  obtain ⟨m, L, δ, R, S, h⟩ := te_of h
  obtain ⟨k1, k2, k3⟩ := kws_all (env := X.env) (pos := pos) hks
  refine wpAny_Call_Name_kw (ld_glob I hg hm ?_ hdb)
  have h' : TMP g W σ (Rep g) ((fk δ L).bind fun zd L2 => match ([] : List D).length.beq 0 && zd.length.beq ks.length, pick ([] ++ zd) perm with
    | true, some xs => cf i xs L2
    | _, _ => .bad) m L H Q := h
  refine PySem.W.callWith_KW0 (h₀ := X.base) I.ok.mod.kin (F.kp i) k1 (thn (hk.run pos pins s σ H _ I (ta_bind R S h')) fun ws s2 ⟨zs, H2, I2, rzs, m2, L2, zd, E2, R2, S2, r2, h2⟩ => ⟨I2.kIn, ?_⟩) ?_
  · rw [k2]
    obtain ⟨l1, l2, xs, hx, h3⟩ := xkw_of h2
    obtain ⟨ps', ht', _, f1⟩ := F.fn i xs _ (tmp_ne h3)
    rw [ht] at ht'
    cases ht'
    exact run_FK C f1 I2 R2 (ds := []) (vs := []) (us := []) .nil .nil r2 rzs (Nat.zero_le _) l2.symm ok hpm hx h3
  · rw [k3]; rfl
end
end FC
end

section
namespace FC
open PySem PySem.Spec PyProof.Rows L2
section
variable {g : GE} {W : WX} {X : Cx} {slots : List Nat} {own : List (Str × Nat)} {fi : FI} {fg : FG} {ft : FT} {fe : FE} {elt tg iter : Expr} {ifs : List Expr} {scope : Scope} {pos : Pos}
theorem cz_blk {s : Shared} {H : Hp} {cenv : Env} {fp : List Addr} (C : Cz g W X) : Cz g W0 (X.blk s H scope cenv fp) :=
  ⟨C.P, C.w, C.K, C.nd, C.calm, C.hu, fun u s' ⟨_, _, _, _, _, _, _, _, _, _, _, _, _, _, _, _, w⟩ => w, PassesOwn.never⟩
theorem pTs_nil : PTs X [] (TT' g W tYes) := ⟨fun pins s σ H Q I h => by
  obtain ⟨m, L, δ, R, S, h⟩ := h
  exact pts_nil.run pins s σ H Q I (h m H true .refl R rfl)⟩
theorem pTs_one {c : Expr} (h : PT X c (TT' g W ft)) : PTs X [c] (TT' g W ft) := pts_one h
theorem pE_lc (C : Cz g W X) (hi : PI X tg iter (TI' g W fi)) (ok : BlkOk X.N X.env.scope scope own) (sub : ∀ j ∈ slots, j ∈ own.map (·.2))
    (hg : ∀ (s : Shared) (H : Hp) (C : Addr) (cl : List (Str × Addr)) (fp : List Addr), PG (X.blk s H scope (compEnvC scope cl C X.env) fp) tg (TG' g slots fg)) (ht : ∀ (s : Shared) (H : Hp) (C : Addr) (cl : List (Str × Addr)) (fp : List Addr), PTs (X.blk s H scope (compEnvC scope cl C X.env) fp) ifs (TT' g W0 ft))
    (he : ∀ (s : Shared) (H : Hp) (C : Addr) (cl : List (Str × Addr)) (fp : List Addr), PE (X.blk s H scope (compEnvC scope cl C X.env) fp) elt (TE' g W0 fe)) (hs : ∀ x, foldedSetIterable iter X.env x = pure x) :
    PE X (.ListComp elt [⟨tg, iter, ifs, 0⟩] scope pos) (TE' g W (xLc fi fg (own.map (·.2)) ft fe)) := (pe_lc C.calm C.nd hi ok hg ht he hs).imp fun σ H Q h => te_lc sub h
theorem pS_setLc {i : Nat} {y : Str} {py spos : Pos} (C : Cz g W X) (hy : X.N[i]? = some y) (hyl : X.env.scope.names.lookup y = some .local) (hsw : swapsWith (.ListComp elt [⟨tg, iter, ifs, 0⟩] scope pos) (some (.Name y py)) spos.line X.env = pure true) (hi : PI X tg iter (TI' g W fi)) (ok : BlkOk X.N X.env.scope scope own) (sub : ∀ j ∈ slots, j ∈ own.map (·.2))
    (hg : ∀ (s : Shared) (H : Hp) (C : Addr) (cl : List (Str × Addr)) (fp : List Addr), PG (X.blk s H scope (compEnvC scope cl C X.env) fp) tg (TG' g slots fg)) (ht : ∀ (s : Shared) (H : Hp) (C : Addr) (cl : List (Str × Addr)) (fp : List Addr), PTs (X.blk s H scope (compEnvC scope cl C X.env) fp) ifs (TT' g W0 ft))
    (he : ∀ (s : Shared) (H : Hp) (C : Addr) (cl : List (Str × Addr)) (fp : List Addr), PE (X.blk s H scope (compEnvC scope cl C X.env) fp) elt (TE' g W0 fe)) (hs : ∀ x, foldedSetIterable iter X.env x = pure x) :
    PS X (.Assign [.Name y py] (.ListComp elt [⟨tg, iter, ifs, 0⟩] scope pos) spos) (TS' g W (sAsg i (xLc fi fg (own.map (·.2)) ft fe))) :=
  (ps_setLc C.calm C.nd hy hyl hsw hi ok hg ht he hs).imp fun De σ H h => by
    obtain ⟨m, L, δ, R, S, h⟩ := ts_of h
    refine te_lc sub (te_mono (te_then R S h) fun v H1 ⟨m1, L1, d, E1, R1, S1, r1, h1⟩ => ?_)
    rw [setS_eq] at h1
    exact h1 m1 H1 _ .refl R1 (S1.set i r1)
end
end FC
end

section
namespace FC
open PySem PySem.Spec PyProof.Rows L2

/-! ### several except clauses, each with or without a name -/
abbrev Sui := Addr → Value → Option Addr → TS
/-- the ends of a suite whose clause has the name of slot i -/
def endsAs (D : Ends) : Option Nat → Ends
  | none => D
  | some i => { nx := fun σ H => D.nx (σ.set i none) H, rt := D.rt, bk := fun σ H => D.bk (σ.set i none) H, ct := fun σ H => D.ct (σ.set i none) H }
def slotAs (σ : L2.St) (a : Addr) : Option Nat → L2.St
  | none => σ
  | some i => σ.set i (some (.ref a))
def wTry (K : PySem.W.Frag) (Wout : WX) (D : Ends) : List (Value × Option Nat × Sui) → WX
  | [] => Wout
  | (c, o, ts) :: r => fun cls d σ H => ∃ b, PySem.W.exmOne K cls c = some b ∧ match b with
    | true => ∀ a, H a = none → ts a cls d (endsAs D o) (slotAs σ a o) H
    | false => wTry K Wout D r cls d σ H
inductive HdA (X : Cx) : List ExceptHandler → List (Value × Option Nat × Sui) → Prop
  | nil : HdA X [] []
  | plain {x : Str} {c : Value} {ts : Sui} {b : Stmt} {su : List Stmt} {np p : Pos} {hds : List ExceptHandler} {l : List (Value × Option Nat × Sui)} (hc : Names X x c)
      (hsu : ∀ (a : Addr) (oe : Obj) (cls : Value) (d : Option Addr) (pn : List (Addr × Obj)), Zc cls d oe → (∃ vs, oe.data = .fields vs) → PSs (X.suite a ((a, oe) :: pn)) (b :: su) (ts a cls d)) (r : HdA X hds l) :
      HdA X (.ExceptHandler (some (.Name x np)) none (b :: su) p :: hds) ((c, none, ts) :: l)
  | named {x n : Str} {i : Nat} {c : Value} {ts : Sui} {b : Stmt} {su : List Stmt} {np p : Pos} {hds : List ExceptHandler} {l : List (Value × Option Nat × Sui)} (hc : Names X x c) (hi : X.N[i]? = some n) (hl : X.env.kindOf n = some .local)
      (hsu : ∀ (a : Addr) (oe : Obj) (cls : Value) (d : Option Addr) (pn : List (Addr × Obj)), Zc cls d oe → (∃ vs, oe.data = .fields vs) → PSs (X.suite a ((a, oe) :: pn)) (b :: su) (ts a cls d)) (r : HdA X hds l) :
      HdA X (.ExceptHandler (some (.Name x np)) (some n) (b :: su) p :: hds) ((c, some i, ts) :: l)
section
variable {X : Cx} {pins : List (Addr × Obj)} {σ : L2.St} {H : Hp} {sI s' : Shared} {a : Addr} {B : Heap} {cls : Value} {d : Option Addr} {D : Ends} {Wout : WX}
/-- an exception that is on the ground, in the hands of the clauses -/
structure Caught (X : Cx) (pins : List (Addr × Obj)) (σ : L2.St) (H : Hp) (sI s' : Shared) (a : Addr) (B : Heap) (cls : Value) (d : Option Addr) (h : Heap) : Prop where
  I : Inv X pins σ H sI
  nb : ∀ b o, sI.heap.get? b = some o → b ∉ frs X.stack → B.get? b = some o
  fl : HandSPX.FlyingZ B (X.env :: X.outer) a (Zc cls d) h
  up : sI.heap.UpToSlots h
  na : H a = none
  os : s'.os = sI.os
  ag : AllBare s'.gens
theorem Caught.inv {h : Heap} (C : Caught X pins σ H sI s' a B cls d h) : Inv X pins σ H { s' with heap := h } := C.I.landed C.nb C.fl.1 C.up C.os C.ag
theorem Caught.su {h : Heap} (C : Caught X pins σ H sI s' a B cls d h) (hf : X.env.frame = some X.env.locals) :
    ∃ oe vs, h.get? a = some oe ∧ Zc cls d oe ∧ oe.data = .fields vs ∧ Inv (X.suite a ((a, oe) :: (X.pn ++ pins))) [] σ H { s' with heap := h } := by
  obtain ⟨oe, vs, h1, h2, h3⟩ := C.fl.there
  have out : a ∉ frs (X.env :: X.outer) := fun hm => by
    obtain ⟨_, o', e', no⟩ := C.fl.2.2.1.mem hm
    cases h1.symm.trans e'
    exact no vs h3
  refine ⟨oe, vs, h1, h2, h3, C.inv.suite h1 h3 C.na (fun z => out ?_) fun hm => out ?_⟩
  · exact List.mem_filterMap.mpr ⟨X.env, List.mem_cons_self, by rw [hf, z]⟩
  · obtain ⟨e, he, q⟩ := List.mem_filterMap.mp hm
    exact List.mem_filterMap.mpr ⟨e, List.mem_cons_of_mem _ he, q⟩
/-- no clause takes it -/
theorem caught_on {h : Heap} (C : Caught X pins σ H sI s' a B cls d h) (hs : X.stack = X.env :: X.outer) (hf : X.env.frame = some X.env.locals) (tk : Takes X Wout) (w : Wout cls d σ H) :
    wpAny (model X.prog X.w) X.A (handleBy (.ref a) X.env []) (SP X pins D) X.xe { s' with heap := h } := by
  have last : wpAny (model X.prog X.w) X.A (setFlight (.ref a) X.env.frame) (fun _ s4 => wpAny (model X.prog X.w) X.A (throw (.ref a) : Sem Flow) (SP X pins D) X.xe s4) X.xe { s' with heap := h } := by
    rw [hf]
    refine HandSPX.setFlight_upZ C.fl fun h4 held up4 => wpAny_throw (tk _ _ ⟨a, B, sI, pins, σ, H, cls, d, rfl, C.I, C.nb, C.up.trans up4, .inr (.inr ?_), C.na, C.os, C.ag, w⟩)
    rw [hs]
    exact held
  obtain ⟨_, _, _, oe, vs, T, oT, tb, he, _, hd, h1, _⟩ := id C.fl
  refine wpAny_handleBy_nil ?_
  unfold PySem.passOn
  refine wpAny_bind (wpAny_field he hd h1 ?_)
  rw [if_neg (show ¬ ((Value.ref T == Value.none) = true) from by simp)]
  first
    | exact wpAny_bind (wpAny_pure (wpAny_bind last))
    | exact wpAny_bind last
/-- a clause's class is looked up -/
theorem caught_test {h : Heap} {x : Str} {c : Value} {np : Pos} {Q : Value → Shared → Prop} {E : Value → Shared → Prop} (C : Caught X pins σ H sI s' a B cls d h) (hf : X.env.frame = some X.env.locals) (hc : Names X x c) (q : Q c { s' with heap := h }) :
    wpAny (model X.prog X.w) (X.A.mark (some (.ref a))) (eval (.Name x np) X.env) Q E { s' with heap := h } := by
  obtain ⟨oe, vs, h1, h2, h3, S⟩ := C.su hf
  obtain ⟨hg, hd, hm | ⟨hm, hv, hn⟩⟩ := hc
  · exact ld_glob (X := X.suite a ((a, oe) :: (X.pn ++ pins))) S hg hm q hd
  · exact ld_blt (X := X.suite a ((a, oe) :: (X.pn ++ pins))) S hg hm hv q hn hd
theorem caught_looks {h : Heap} (C : Caught X pins σ H sI s' a B cls d h) : PySem.W.Looks (model X.prog X.w) h (typeOf (.ref a)) cls := fun A Q E s k q => by
  obtain ⟨oe, vs, h1, h2, h3⟩ := C.fl.there
  exact wpAny_typeOf_ref (k _ _ h1) (by rw [h2.1]; exact q)
theorem caught_by {h : Heap} {hds : List ExceptHandler} {l : List (Value × Option Nat × Sui)} (hs : X.stack = X.env :: X.outer) (hf : X.env.frame = some X.env.locals) (hN : X.N.Nodup) (tk : Takes X Wout) (hh : HdA X hds l) :
    Caught X pins σ H sI s' a B cls d h → wTry X.K Wout D l cls d σ H → wpAny (model X.prog X.w) X.A (handleBy (.ref a) X.env hds) (SP X pins D) X.xe { s' with heap := h } := by
  induction hh with
  | nil => exact fun C w => caught_on C hs hf tk w
  | @plain x c ts b su np p hds l hc hsu r ih =>
    rintro C ⟨b', hb, w⟩
    refine wpAny_handleBy_cons (codeAny_handlers_test (caught_test C hf hc ((PySem.W.exm_one (M := model X.prog X.w) C.inv.kIn (caught_looks C) hb).here ?_))) (by intro q; cases q)
    cases b' with
    | false => exact ih C w
    | true =>
      refine codeAny_handlers_suite (HandSPX.lands_againZ C.fl fun h4 fl4 up4 => ?_)
      have C4 : Caught X pins σ H sI s' a B cls d h4 := ⟨C.I, C.nb, fl4, C.up.trans up4, C.na, C.os, C.ag⟩
      obtain ⟨oe, vs, h1, h2, h3, S⟩ := C4.su hf
      refine wpAny_mono ((hsu a oe cls d (X.pn ++ pins) h2 ⟨_, h3⟩).run [] _ _ H _ S (w a C.na)) (fun f s6 q => ?_) fun _ _ z => z.elim
      cases f with
      | ret u =>
        obtain ⟨v, τ, G, S6, rv, q⟩ := q
        exact ⟨v, τ, G, S6.unsuite C.I.ok, rv, q⟩
      | next =>
        obtain ⟨τ, G, S6, q⟩ := q
        exact ⟨τ, G, S6.unsuite C.I.ok, q⟩
      | brk =>
        obtain ⟨τ, G, S6, q⟩ := q
        exact ⟨τ, G, S6.unsuite C.I.ok, q⟩
      | cont =>
        obtain ⟨τ, G, S6, q⟩ := q
        exact ⟨τ, G, S6.unsuite C.I.ok, q⟩
  | @named x n i c ts b su np p hds l hc hi hl hsu r ih =>
    rintro C ⟨b', hb, w⟩
    refine wpAny_handleBy_cons (codeAny_handlers_test (caught_test C hf hc ((PySem.W.exm_one (M := model X.prog X.w) C.inv.kIn (caught_looks C) hb).here ?_))) (by intro q; cases q)
    cases b' with
    | false => exact ih C w
    | true =>
      refine codeAny_handlers_suite_as (HandSPX.lands_againZ C.fl fun h4 fl4 up4 => ?_)
      have C4 : Caught X pins σ H sI s' a B cls d h4 := ⟨C.I, C.nb, fl4, C.up.trans up4, C.na, C.os, C.ag⟩
      obtain ⟨oe, vs, h1, h2, h3, S⟩ := C4.su hf
      refine store_ok (X := X.suite a ((a, oe) :: (X.pn ++ pins))) (v := .ref a) S hN hi (.inl hl) rfl (fun s5 S5 => ?_) (.inr hl)
      refine wpAny_mono ((hsu a oe cls d (X.pn ++ pins) h2 ⟨_, h3⟩).run [] s5 _ H _ S5 (w a C.na)) (fun f s6 q => ?_) fun _ _ z => z.elim
      cases f with
      | ret u =>
        obtain ⟨v, τ, G, S6, rv, q⟩ := q
        exact gone_ok (S6.unsuite C.I.ok) hN hi hl fun s7 J => ⟨v, _, G, J, rv, q⟩
      | next =>
        obtain ⟨τ, G, S6, q⟩ := q
        exact gone_ok (S6.unsuite C.I.ok) hN hi hl fun s7 J => ⟨_, G, J, q⟩
      | brk =>
        obtain ⟨τ, G, S6, q⟩ := q
        exact gone_ok (S6.unsuite C.I.ok) hN hi hl fun s7 J => ⟨_, G, J, q⟩
      | cont =>
        obtain ⟨τ, G, S6, q⟩ := q
        exact gone_ok (S6.unsuite C.I.ok) hN hi hl fun s7 J => ⟨_, G, J, q⟩
theorem ps_tryA {body : List Stmt} {h₀ : ExceptHandler} {hds : List ExceptHandler} {l : List (Value × Option Nat × Sui)} {pos : Pos} {tb : WX → TS} (hs : X.stack = X.env :: X.outer) (hf : X.env.frame = some X.env.locals) (hN : X.N.Nodup) (tk : Takes X Wout)
    (hb : ∀ (W : WX) (pn : List (Addr × Obj)) (xe : Value → Shared → Prop), Takes (X.tr pn xe) W → PassesOwn (model X.prog X.w) X.A X.env xe → PSs (X.tr pn xe) body (tb W)) (hh : HdA X (h₀ :: hds) l) :
    PS X (.Try body (h₀ :: hds) [] [] pos) (fun D σ H => tb (wTry X.K Wout D l) D σ H) := by
  refine ⟨fun pins s σ H D I h => wpAny_Try_except ?_⟩
  have take : Takes (X.tr (X.pn ++ pins) fun e s₁ => wpAny (model X.prog X.w) X.A (noteFrame e X.env) (fun _ s₂ => wpAny (model X.prog X.w) X.A (setFlight e none) (fun _ s₃ => wpAny (model X.prog X.w) X.A (handleBy e X.env (h₀ :: hds)) (SP X pins D) X.xe s₃) X.xe s₂) X.xe s₁) (wTry X.K Wout D l) := by
    rintro u s' ⟨a, B, sI, pins', τ, G, cls, d, rfl, J, nb, up, sky, na, os, ag, w⟩
    refine Sky.land Zc.steady (by rw [I.ok.frames, hs]) hf (show Sky B (X.env :: X.outer) a (Zc cls d) X.env.locals s'.heap by rw [← hs]; exact sky) fun h3 fl3 up3 => ?_
    exact caught_by hs hf hN tk hh ⟨J.ofTry I.ok, nb, fl3, up.trans up3, na, os, ag⟩ w
  refine wpAny_mono ((hb _ _ _ take PassesOwn.looking).run [] s σ H D (I.toTry _) h) (fun f s1 q => ?_) fun e s1 he => he
  cases f with
  | next =>
    obtain ⟨τ, G, J, q⟩ := q
    exact wpAny_execs_nil ⟨τ, G, J.ofTry I.ok, q⟩
  | brk =>
    obtain ⟨τ, G, J, q⟩ := q
    exact ⟨τ, G, J.ofTry I.ok, q⟩
  | cont =>
    obtain ⟨τ, G, J, q⟩ := q
    exact ⟨τ, G, J.ofTry I.ok, q⟩
  | ret u =>
    obtain ⟨v, τ, G, J, r, q⟩ := q
    exact ⟨v, τ, G, J.ofTry I.ok, r, q⟩
end
end FC
end

section
namespace PySem.W
open PySem PySem.Spec PyProof.Rows
section
variable {K : Frag} {prog : Program} {w : World} {A : Around} {E : Value → Shared → Prop} {s : Shared} {Q : Value → Shared → Prop}
/-- isinstance says yes of an object whose class is below the asked one -/
theorem fc_isa {a D : Addr} {T : String} (X : K.In s.heap) (LT : ∃ oe, s.heap.get? a = some oe ∧ oe.cls = .ref D) (e : kitCls K (.ref D) (.type T) = some true) (h : Q (.bool true) s) :
    wpAny (model prog w) A (call (.builtin "isinstance") [.ref a, .type T]) Q E s := by
  refine call_isinstance (S := fun _ R s' => (K.In s'.heap ∧ ∃ oe, s'.heap.get? a = some oe ∧ oe.cls = .ref D) ∧ R (.ok (.ret (.bool true))) s') (fun prog' w' A' R s' hs => isinstance_outer ?_ (by intro z; cases z)) ⟨⟨X, LT⟩, h⟩
  obtain ⟨⟨X', oe, h1, h2⟩, hq⟩ := hs
  obtain ⟨hh, gg, dd, tt, oo⟩ := s'
  have lt : Looks (model prog' w') hh (typeOf (.ref a)) (.ref D) := fun A Q E s k q => wpAny_typeOf_ref (k _ _ h1) (by rw [h2]; exact q)
  obtain ⟨l1, l2, l3⟩ := kit_cls (M := model prog' w') X' e
  unfold Builtin.«isinstance.nested»
  refine wpAny_bind (lt.at ?_)
  rw [if_neg (by intro q; cases beq_iff_eq.mp q)]
  refine wpAny_bind (l1.at ?_)
  rw [if_pos (by decide)]
  k_delta "plainIsInstance"
  refine wpAny_bind (wpAny_bind (l2.at ?_))
  simp only [Bool.not_true, Bool.false_eq_true, if_false]
  have l4 : Looks (model prog' w') hh (isInstance (.ref a) (.type T)) true := lt.andThen l3
  refine wpAny_bind (l4.at ?_)
  first
    | exact wpAny_pure (wpAny_pure hq)
    | (simp only [if_true]; first | exact wpAny_pure (wpAny_pure hq) | exact wpAny_pure hq | exact wpAny_bind (wpAny_pure (wpAny_pure hq)))
end
end PySem.W
namespace FC
open PySem PySem.Spec PyProof.Rows L2

/-! ### what an except suite tells of its exception -/
inductive SIt where
  | c (d : D) | num | isi (T : String)
/-- base: the built-in class below which an exception's class stands -/
def SIt.ev (base : Nat → Option String) (x : XD) : SIt → Option D
  | .c d => some d
  | .num => x.f
  | .isi T => match base x.c with
    | some B => match decide (B = T) with
      | true => some (.bl true)
      | false => none
    | none => none
def evs (base : Nat → Option String) (x : XD) : List SIt → Option (List D)
  | [] => some []
  | i :: r => match i.ev base x with
    | some d => match evs base x r with
      | some ds => some (d :: ds)
      | none => none
    | none => none
/-- what is known of an exception class -/
structure ExF (g : GE) (base : Nat → Option String) : Prop where
  isa : ∀ c B, base c = some B → PySem.W.kitCls g.K (.ref (g.ca c)) (.type B) = some true
  xf : ∀ c, (base c).isSome = true → XfC g.K (g.ca c) ∧ PySem.W.findIn g.K (.ref (g.ca c)) "number" = some none
  exm : ∀ c d, (base c).isSome = true → (base d).isSome = true → PySem.W.exmOne g.K (.ref (g.ca c)) (.ref (g.ca d)) = some (c.beq d)
def SuR (g : GE) (x : XD) (cls : Value) (d : Option Addr) (a : Addr) (o : Option Nat) (m : M) (L : LH) (σ : L2.St) (H : Hp) : Prop := HRel g m L H ∧ XRep g m H x cls d ∧ ∀ i, o = some i → σ[i]? = some (some (.ref a))
section
variable {g : GE} {base : Nat → Option String} {X : Cx} {a : Addr} {oe : Obj} {cls : Value} {d : Option Addr} {pn : List (Addr × Obj)} {o : Option Nat} {pos : Pos}
def tIt (g : GE) (base : Nat → Option String) (cls : Value) (d : Option Addr) (a : Addr) (o : Option Nat) (it : SIt) : TE := fun σ H Q => ∃ m L x dv, SuR g x cls d a o m L σ H ∧ (base x.c).isSome = true ∧ it.ev base x = some dv ∧ ∀ v, Rep g m H dv v → Q v H
def tIts (g : GE) (base : Nat → Option String) (cls : Value) (d : Option Addr) (a : Addr) (o : Option Nat) (its : List SIt) : TA := fun σ H Q => ∃ m L x ds, SuR g x cls d a o m L σ H ∧ (base x.c).isSome = true ∧ evs base x its = some ds ∧ ∀ vs, RepL g m H ds vs → Q vs H
theorem pe_itC {e : Expr} {dv : D} {v : V} (h : PE (X.suite a ((a, oe) :: pn)) e (tC v)) (r : ∀ m H, Rep g m H dv v) : PE (X.suite a ((a, oe) :: pn)) e (tIt g base cls d a o (.c dv)) :=
  h.imp fun σ H Q ⟨m, L, x, dv, R, _, e, q⟩ => by
    cases e
    exact q v (r m H)
theorem pe_itN {i : Nat} {n : Str} {p : Pos} (G : ExF g base) (hK : X.K = g.K) (hz : Zc cls d oe) (hf : ∃ vs, oe.data = .fields vs) (ho : o = some i) (hi : X.N[i]? = some n) (hv : Vis X.env.scope n) (hd : (n == ("__debug__" : Str)) = false) (hcd : (n == ("__classdict__" : Str)) = false)
    (hb : attributeBase (.Name n p) "number" X.env (eval (.Name n p) X.env) = eval (.Name n p) X.env) : PE (X.suite a ((a, oe) :: pn)) (.Attribute (.Name n p) "number" pos) (tIt g base cls d a o .num) := by
  refine ⟨fun pins s σ H Q I h => ?_⟩
  obtain ⟨m, L, x, dv, ⟨R, xr, hs⟩, hx, e, q⟩ := h
  obtain ⟨ec, er⟩ := xr
  obtain ⟨x1, x2⟩ := G.xf x.c hx
  have e' : x.f = some dv := e
  rw [e'] at er
  obtain ⟨ad, v, h1, h2, h3⟩ := er
  exact (pe_xf (C := g.ca x.c) (by rw [hK]; exact x1) (by rw [hK]; exact x2) hz hf (pe_var (X := X.suite a ((a, oe) :: pn)) hi hv hd hcd) hb).run pins s σ H Q I ⟨.ref a, hs i ho, rfl, ec, ad, [("number", v)], v, h1, h2, rfl, q v h3⟩
theorem call_isX {pins : List (Addr × Obj)} {s : Shared} {σ : L2.St} {H : Hp} {D : Addr} {T : String} {Q : Value → Shared → Prop} {E : Value → Shared → Prop} (hz : oe.cls = .ref D) (I : Inv (X.suite a ((a, oe) :: pn)) pins σ H s) (e : PySem.W.kitCls X.K (.ref D) (.type T) = some true) (q : Q (.bool true) s) :
    wpAny (model X.prog X.w) (X.A.mark (some (.ref a))) (call (.builtin "isinstance") [.ref a, .type T]) Q E s := by
  obtain ⟨hget, _⟩ := I.pin (a, oe) (List.mem_append_left _ List.mem_cons_self)
  exact PySem.W.fc_isa I.kIn ⟨oe, hget, hz⟩ e q
theorem pe_itI {i : Nat} {n : Str} {T : String} {p p2 p3 : Pos} (G : ExF g base) (hK : X.K = g.K) (hz : Zc cls d oe) (ho : o = some i) (hi : X.N[i]? = some n) (hv : Vis X.env.scope n) (hd : (n == ("__debug__" : Str)) = false) (hcd : (n == ("__classdict__" : Str)) = false)
    (hgI : Gl X "isinstance") (hmI : X.mg "isinstance" = none) (hgT : Gl X T) (hmT : X.mg T = none) (hvT : bootBuiltins T = some (.type T)) (hnT : Str.ofString T ≠ Str.ofString "__name__") (hdT : (Str.ofString T == Str.ofString "__debug__") = false) :
    PE (X.suite a ((a, oe) :: pn)) (.Call (.Name "isinstance" p) [.Name n p2, .Name T p3] [] pos) (tIt g base cls d a o (.isi T)) := by
  refine ⟨fun pins s σ H Q I h => ?_⟩
  obtain ⟨m, L, x, dv, ⟨R, ⟨ec, er⟩, hs⟩, hx, e, q⟩ := h
  have hb : base x.c = some T ∧ dv = .bl true := by
    unfold SIt.ev at e
    dsimp only at e
    cases z : base x.c with
    | none => rw [z] at hx; cases hx
    | some B =>
      simp only [z] at e
      by_cases w : B = T
      · rw [decide_eq_true w] at e
        cases e
        exact ⟨by rw [w], rfl⟩
      · rw [decide_eq_false w] at e
        cases e
  have is := G.isa x.c T hb.1
  rw [← hK] at is
  have ha : PA (X.suite a ((a, oe) :: pn)) [.Name n p2, .Name T p3] (tCons (tVar i) (tCons (tC (.ty T)) tNil)) :=
    pa_cons (pe_var (X := X.suite a ((a, oe) :: pn)) hi hv hd hcd) (pa_cons (pe_bltn (X := X.suite a ((a, oe) :: pn)) (v := .ty T) hgT hmT hvT rfl hnT hdT) pa_nil (star1 rfl)) (star1 rfl)
  have hc : CallR (X.suite a ((a, oe) :: pn)) (.builtin "isinstance") (fun vs H Q => vs = [.ref a, .ty T] ∧ Q (.bl true) H) := by
    intro pins s σ H vs us Q I r h
    obtain ⟨rfl, q⟩ := h
    cases r with
    | cons r1 r2 =>
      cases r2 with
      | cons r2 r3 =>
        cases r3
        cases r1
        cases r2
        exact call_isX (by rw [hz.1, ec]) I is ⟨.bl true, H, I, rfl, q⟩
  refine (pe_callB (X := X.suite a ((a, oe) :: pn)) hc hgI hmI boot_isinstance ha (by decide) (by decide) (star1 rfl) (star_none rfl)).run pins s σ H Q I ?_
  exact ⟨.ref a, hs i ho, rfl, q _ (by rw [hb.2]; exact .bl true)⟩
theorem pa_its0 : PA (X.suite a ((a, oe) :: pn)) [] (tIts g base cls d a o []) := ⟨fun pos pins s σ H Q I ⟨m, L, x, ds, _, _, e, q⟩ => by
  cases e
  exact pa_nil.run pos pins s σ H Q I (q [] .nil)⟩
theorem pa_its {e : Expr} {es : List Expr} {it : SIt} {its : List SIt} (h : PE (X.suite a ((a, oe) :: pn)) e (tIt g base cls d a o it)) (r : PA (X.suite a ((a, oe) :: pn)) es (tIts g base cls d a o its)) (hp : plainE e = true) : PA (X.suite a ((a, oe) :: pn)) (e :: es) (tIts g base cls d a o (it :: its)) :=
  (pa_cons h r (star1 hp)).imp fun σ H Q ⟨m, L, x, ds, R, hx, e, q⟩ => by
    unfold evs at e
    cases z : it.ev base x with
    | none => simp only [z] at e; cases e
    | some dv =>
      cases z2 : evs base x its with
      | none => simp only [z, z2] at e; cases e
      | some dr =>
        simp only [z, z2] at e
        cases e
        exact ⟨m, L, x, dv, R, hx, z, fun v r1 => ⟨m, L, x, dr, R, hx, z2, fun vs r2 => q _ (.cons r1 r2)⟩⟩
end
end FC
end

section
namespace FC
open PySem PySem.Spec PyProof.Rows L2

inductive SE where
  | one (i : SIt) | tup (l : List SIt) | lst (l : List SIt)
def SE.ev (base : Nat → Option String) (x : XD) : SE → LH → Option (D × LH)
  | .one i, L => match i.ev base x with
    | some d => some (d, L)
    | none => none
  | .tup l, L => match evs base x l with
    | some ds => match lim ds.length with
      | true => some (.tup ds, L)
      | false => none
    | none => none
  | .lst l, L => match evs base x l with
    | some ds => match lim ds.length with
      | true => L.add (.lst ds)
      | false => none
    | none => none
inductive SS where
  | pass | ret (e : SE) | asg (k : Nat) (e : SE)
def SS.ev (base : Nat → Option String) (x : XD) : SS → FS
  | .pass => fun δ L => .go .nx δ L
  | .ret e => fun δ L => match e.ev base x L with
    | some (d, L1) => .go (.rt d) δ L1
    | none => .bad
  | .asg k e => fun δ L => match e.ev base x L with
    | some (d, L1) => setS δ k d fun δ' => .go .nx δ' L1
    | none => .bad
/-- a clause: its class, the slot of its name, its suite -/
structure HD where
  c : Nat
  o : Option Nat
  s : SS
def offS (δ : Sl) : Option Nat → Sl
  | none => δ
  | some i => δ.set i none
def endS (o : Option Nat) : SR → SR
  | .go f δ L => .go f (offS δ o) L
  | _ => .bad
def okS (δ : Sl) : Option Nat → Bool
  | none => true
  | some i => Nat.blt i δ.length
def hnd (base : Nat → Option String) (x : XD) (δ : Sl) (L : LH) : List HD → SR
  | [] => .ex x δ L
  | h :: r => match base h.c with
    | some _ => match x.c.beq h.c with
      | true => match okS δ h.o with
        | true => endS h.o (h.s.ev base x (offS δ h.o) L)
        | false => .bad
      | false => hnd base x δ L r
    | none => .bad
def sTry (base : Nat → Option String) (hs : List HD) (sb : FS) : FS := fun δ L => match sb δ L with
  | .ex x δ1 L1 => match base x.c with
    | some _ => hnd base x δ1 L1 hs
    | none => .bad
  | r => r
section
variable {g : GE} {base : Nat → Option String} {X : Cx} {a : Addr} {oe : Obj} {cls : Value} {d : Option Addr} {pn : List (Addr × Obj)} {o : Option Nat} {pos : Pos}
def tSE (g : GE) (base : Nat → Option String) (cls : Value) (d : Option Addr) (a : Addr) (o : Option Nat) (e : SE) : TE := fun σ H Q => ∃ m L x dv L', SuR g x cls d a o m L σ H ∧ (base x.c).isSome = true ∧ e.ev base x L = some (dv, L') ∧
  ∀ m' H' v, Ext m L H m' L' H' → HRel g m' L' H' → Rep g m' H' dv v → Q v H'
theorem pe_one {e : Expr} {it : SIt} (h : PE (X.suite a ((a, oe) :: pn)) e (tIt g base cls d a o it)) : PE (X.suite a ((a, oe) :: pn)) e (tSE g base cls d a o (.one it)) :=
  h.imp fun σ H Q ⟨m, L, x, dv, L', R, hx, e, q⟩ => by
    unfold SE.ev at e
    dsimp only at e
    cases z : it.ev base x with
    | none => simp only [z] at e; cases e
    | some dw =>
      simp only [z] at e
      cases e
      exact ⟨m, L, x, dv, R, hx, z, fun v r => q m H v .refl R.1 r⟩
theorem pe_tupS {es : List Expr} {its : List SIt} {k : Nat} (h : PA (X.suite a ((a, oe) :: pn)) es (tIts g base cls d a o its)) : PE (X.suite a ((a, oe) :: pn)) (.Tuple es k pos) (tSE g base cls d a o (.tup its)) :=
  (pe_tup h).imp fun σ H Q ⟨m, L, x, dv, L', R, hx, e, q⟩ => by
    unfold SE.ev at e
    dsimp only at e
    cases z : evs base x its with
    | none => simp only [z] at e; cases e
    | some ds =>
      simp only [z] at e
      cases hb : lim ds.length with
      | false => simp only [hb] at e; cases e
      | true =>
        simp only [hb] at e
        cases e
        exact ⟨m, L, x, ds, R, hx, z, fun vs r => ⟨by rw [← r.length]; exact lim_ok hb, newT R.1 r q⟩⟩
theorem pe_lstS {es : List Expr} {its : List SIt} (h : PA (X.suite a ((a, oe) :: pn)) es (tIts g base cls d a o its)) : PE (X.suite a ((a, oe) :: pn)) (.List es pos) (tSE g base cls d a o (.lst its)) :=
  (pe_lst h).imp fun σ H Q ⟨m, L, x, dv, L', R, hx, e, q⟩ => by
    unfold SE.ev at e
    dsimp only at e
    cases z : evs base x its with
    | none => simp only [z] at e; cases e
    | some ds =>
      simp only [z] at e
      cases hb : lim ds.length with
      | false => simp only [hb] at e; cases e
      | true =>
        simp only [hb] at e
        exact ⟨m, L, x, ds, R, hx, z, fun vs r => ⟨by rw [← r.length]; exact lim_ok hb, newL R.1 r e q⟩⟩
def tSS (g : GE) (base : Nat → Option String) (o : Option Nat) (s : SS) : Sui := fun a cls d De σ H => ∃ m L δ x, SuR g x cls d a o m L σ H ∧ SRel g m H δ σ ∧ (base x.c).isSome = true ∧ TSP g W0 De (s.ev base x δ L) m L H
theorem ps_ssP : PSs (X.suite a ((a, oe) :: pn)) [.Pass pos] (tSS g base o .pass a cls d) :=
  (pss_cons ps_pass pss_nil).imp fun De σ H ⟨m, L, δ, x, R, S, hx, h⟩ => h m H σ .refl R.1 S
theorem ps_ssR {e : Expr} {s : SE} (h : PE (X.suite a ((a, oe) :: pn)) e (tSE g base cls d a o s)) : PSs (X.suite a ((a, oe) :: pn)) [.Return (some e) pos] (tSS g base o (.ret s) a cls d) :=
  (pss_cons (ps_ret h) pss_nil).imp fun De σ H ⟨m, L, δ, x, R, S, hx, h⟩ => by
    unfold SS.ev at h
    dsimp only at h
    cases z : s.ev base x L with
    | none => simp only [z] at h; exact h.elim
    | some p =>
      obtain ⟨dv, L1⟩ := p
      simp only [z] at h
      exact ⟨m, L, x, dv, L1, R, hx, z, h⟩
theorem ps_ssA {e : Expr} {s : SE} {k : Nat} {n : Str} {p' : Pos} (nd : X.N.Nodup) (hi : X.N[k]? = some n) (hx : Asg X n) (h : PE (X.suite a ((a, oe) :: pn)) e (tSE g base cls d a o s)) (hs : swapsWith e (some (.Name n p')) pos.line X.env = pure false) :
    PSs (X.suite a ((a, oe) :: pn)) [.Assign [.Name n p'] e pos] (tSS g base o (.asg k s) a cls d) :=
  (pss_cons (ps_set (X := X.suite a ((a, oe) :: pn)) nd hi hx.1 h hs hx.2) pss_nil).imp fun De σ H ⟨m, L, δ, x, R, S, hx, h⟩ => by
    unfold SS.ev at h
    dsimp only at h
    cases z : s.ev base x L with
    | none => simp only [z] at h; exact h.elim
    | some p =>
      obtain ⟨dv, L1⟩ := p
      simp only [z] at h
      refine ⟨m, L, x, dv, L1, R, hx, z, fun m' H' v E r rv => ?_⟩
      rw [setS_eq] at h
      exact h m' H' _ E r ((S.ext E R.1).set k rv)
def hdl (g : GE) (base : Nat → Option String) (h : HD) : Value × Option Nat × Sui := (.ref (g.ca h.c), h.o, tSS g base h.o h.s)
theorem tsp_end {W : WX} {De : Ends} {r : SR} {m : M} {L : LH} {H : Hp} : ∀ {o : Option Nat}, TSP g W De (endS o r) m L H → TSP g W0 (endsAs De o) r m L H
  | none, h => by
    cases r with
    | go f δ L => cases f <;> exact h
    | ex x δ L => exact h.elim
    | bad => exact h
  | some i, h => by
    cases r with
    | go f δ L =>
      cases f with
      | nx => exact fun m' H' σ' E R S => h m' H' _ E R (S.unset i none)
      | rt d => exact fun m' H' v E R r => h m' H' v E R r
      | bk => exact fun m' H' σ' E R S => h m' H' _ E R (S.unset i none)
      | ct => exact fun m' H' σ' E R S => h m' H' _ E R (S.unset i none)
    | ex x δ L => exact h.elim
    | bad => exact h
theorem wtry_ok {W : WX} {De : Ends} (G : ExF g base) {x : XD} {δ : Sl} {L : LH} {σ : L2.St} {m : M} {H : Hp} {cv : Value} {dd : Option Addr} (R : HRel g m L H) (S : SRel g m H δ σ) (xr : XRep g m H x cv dd) (hx : (base x.c).isSome = true) :
    ∀ {hs : List HD}, TSP g W De (hnd base x δ L hs) m L H → wTry g.K W De (hs.map (hdl g base)) cv dd σ H
  | [], h => h m H σ cv dd .refl R S xr
  | h0 :: r, h => by
    unfold hnd at h
    cases z : base h0.c with
    | none => simp only [z] at h; exact h.elim
    | some B =>
      simp only [z] at h
      have e1 := G.exm x.c h0.c hx (by rw [z]; rfl)
      rw [← xr.1] at e1
      refine ⟨x.c.beq h0.c, e1, ?_⟩
      cases q : x.c.beq h0.c with
      | false =>
        simp only [q] at h
        exact wtry_ok G R S xr hx h
      | true =>
        simp only [q] at h
        cases q2 : okS δ h0.o with
        | false => simp only [q2] at h; exact h.elim
        | true =>
          simp only [q2] at h
          intro a na
          have h' := tsp_end h
          revert q2 h'
          generalize h0.o = o
          generalize h0.s = s0
          intro q2 h'
          cases o with
          | none => exact ⟨m, L, δ, x, ⟨R, xr, fun i e => by cases e⟩, S, hx, h'⟩
          | some i =>
            refine ⟨m, L, δ.set i none, x, ⟨R, xr, fun j e => ?_⟩, S.unset i _, hx, h'⟩
            cases e
            have hi : i < σ.length := by
              have := Nat.blt_eq.mp (show Nat.blt i δ.length = true from q2)
              have e3 := S.1
              omega
            exact List.getElem?_set_self hi
theorem tr_cz {W W' : WX} {pn : List (Addr × Obj)} {xe : Value → Shared → Prop} (C : Cz g W X) (tk : Takes (X.tr pn xe) W') (po : PassesOwn (model X.prog X.w) X.A X.env xe) : Cz g W' (X.tr pn xe) := ⟨C.P, C.w, C.K, C.nd, C.calm, C.hu, tk, po⟩
theorem pS_try {W : WX} {body : List Stmt} {h₀ : ExceptHandler} {hds : List ExceptHandler} {hs : List HD} {sb : FS} (C : Cz g W X) (G : ExF g base) (hst : X.stack = X.env :: X.outer) (hf : X.env.frame = some X.env.locals)
    (hb : ∀ (W : WX) (pn : List (Addr × Obj)) (xe : Value → Shared → Prop), Cz g W (X.tr pn xe) → PSs (X.tr pn xe) body (TS' g W sb)) (hh : HdA X (h₀ :: hds) (hs.map (hdl g base))) : PS X (.Try body (h₀ :: hds) [] [] pos) (TS' g W (sTry base hs sb)) :=
  (ps_tryA (tb := fun W => TS' g W sb) hst hf C.nd C.tk (fun W' pn xe tk po => hb W' pn xe (tr_cz C tk po)) hh).imp fun De σ H h => by
    obtain ⟨m, L, δ, R, S, h⟩ := ts_of h
    refine ⟨m, L, δ, R, S, ?_⟩
    unfold sTry at h
    revert h
    generalize sb δ L = r
    intro h
    cases r with
    | bad => exact h
    | go f δ1 L1 => cases f <;> exact h
    | ex x δ1 L1 =>
      dsimp only at h
      cases z : base x.c with
      | none => simp only [z] at h; exact h.elim
      | some B =>
        simp only [z] at h
        intro m' H' σ' cv dd E R' S' xr
        rw [C.K]
        exact wtry_ok G R' S' xr (by rw [z]; rfl) (TSP.shift E h)
end
end FC
end

section
namespace FC
open PySem PySem.Spec PyProof.Rows L2

/-! ### exceptions that are made -/
/-- an own exception class without __init__, called without arguments -/
theorem pmk_zero {X : Cx} {C : Addr} {bmB : List Value} {B newId initId : String} {x : Str} {p pos : Pos} (F : ExcBaseFacts B newId initId bmB) (q : PySem.W.excIn X.K C bmB newId = true) (gC : X.mg x = some (.ref C)) (kC : PySem.W.keepIn X.K (.ref C) = true) (r : Raises X (.ref C)) (hg : Gl X x)
    (hdb : (x == ("__debug__" : Str)) = false) : PMk X (.Call (.Name x p) [] [] pos) (fun _ H Q => Q (.ref C) none H) := by
  intro pins s σ H Q I h
  refine wpAny_Call_Name_kw (ld_glob I hg gC (PySem.W.callWith_K0 I.kIn kC ?_) hdb)
  show wpAny _ _ (call (.ref C) []) _ _ _
  obtain ⟨bm, N, nm, qn, bs, hdct, sn, sub, ab, col, dd, k0, k1, k2, k3, k5, mN, hC, hN, hni, T⟩ := exc_obj I.kIn q
  exact wpAny_call_exc_subT F T hC hN hni (fun h' e hm => mk_of I hm r h (I.hok.gone hm.new)) (Nat.zero_le _)
def sRaise0 (c : Nat) : FS := fun δ L => .ex ⟨c, none⟩ δ L
def sRaise1 (c : Nat) (fl : FL) : FS := fun δ L => (fl δ L).then δ fun ds L1 => match ds with
  | [d] => .ex ⟨c, some d⟩ δ L1
  | _ => .bad
/-- the promise of an exception's own __init__(self, number) -/
def spI (K : PySem.W.Frag) : Sp := fun vs H Q E => ∃ a C v, vs = [.ref a, v] ∧ OexC K C ∧ PySem.W.findIn K (.ref C) "number" = some none ∧ H a = some (exo a C none) ∧ ∀ dx, H dx = none → dx ≠ a → Q .non (upd (upd H dx (exd dx [("number", v)])) a (exo a C (some dx)))
theorem fnok_init {P : Program} {w : World} {K : PySem.W.Frag} {mg : Str → Option Value} {base : Heap} {k : Nat} {f : Addr} {name qual sf nb : Str} {params : Arguments} {scope : Scope} {dV kV doc pm cdv ct oc : Value} {an od : Option Addr} {p1 p2 p3 pos : Pos}
    {osl : Array (Option Value)} (lk : K.lookup f = some ⟨oc, od, .func (PySem.W.fnOf name qual params [.Assign [.Attribute (.Name sf p1) "number" p2] (.Name nb p3) pos] scope dV kV doc pm an cdv ct), osl⟩) (hcd : PySem.W.codeIn K cdv qual = true) (S : FnScope [sf, nb] [sf, nb] scope)
    (d1 : (sf == ("__debug__" : Str)) = false) (d2 : (sf == ("__classdict__" : Str)) = false) (d3 : (nb == ("__debug__" : Str)) = false) (d4 : (nb == ("__classdict__" : Str)) = false) :
    FnOk P w K mg base (L2.CX P w) (k + 1) f (PySem.W.fnOf name qual params [.Assign [.Attribute (.Name sf p1) "number" p2] (.Name nb p3) pos] scope dV kV doc pm an cdv ct) [sf, nb] (spI K) := by
  refine fn_of lk hcd S (fun vs H Q E ⟨a, C, v, e, _⟩ => by rw [e]; rfl) fun A outer s H vs Q E hr ⟨a, C, v, e, T, fo, ea, q⟩ => ?_
  have vis : ∀ y ∈ [sf, nb], Vis scope y := fun y hy => (S.par y hy).elim .inl fun z => .inr (.inl z)
  refine ⟨_, pss_cons (ps_ost (pe_var (i := 0) rfl (vis _ (by simp)) d1 d2) (pe_var (i := 1) rfl (vis _ (by simp)) d3 d4)) pss_nil, ?_⟩
  subst e
  refine ⟨v, rfl, .ref a, rfl, a, C, rfl, T, fo, .inl ⟨ea, fun dx h1 h2 => ?_⟩⟩
  exact q dx h1 h2
section
variable {g : GE} {W : WX} {X : Cx} {c : Nat} {x : Str} {p pos cpos : Pos}
theorem pS_raise0 {bmB : List Value} {B newId initId : String} (C : Cz g W X) (F : ExcBaseFacts B newId initId bmB) (q : PySem.W.excIn X.K (g.ca c) bmB newId = true) (gC : X.mg x = some (.ref (g.ca c))) (kC : PySem.W.keepIn X.K (.ref (g.ca c)) = true) (r : Raises X (.ref (g.ca c))) (hg : Gl X x)
    (hdb : (x == ("__debug__" : Str)) = false) : PS X (.Raise (some (.Call (.Name x p) [] [] cpos)) none pos) (TS' g W (sRaise0 c)) :=
  (ps_raise C.calm C.tk (pmk_zero F q gC kC r hg hdb)).imp fun De σ H h => by
    obtain ⟨m, L, δ, R, S, h⟩ := ts_of h
    exact h m H σ _ none .refl R S ⟨rfl, rfl⟩
theorem pS_raise1 {fI : Addr} {k : Nat} {fd : FuncData} {ps : List Str} {e : Expr} {es : List Expr} {fl : FL} (C : Cz g W X) (T : OexC X.K (g.ca c)) (fo : PySem.W.findIn X.K (.ref (g.ca c)) "number" = some none) (iC : PySem.W.findIn X.K (.ref (g.ca c)) "__init__" = some (some (.ref fI)))
    (tI : PySem.W.typeIn X.K (.ref fI) = some (.type "function")) (F1 : FnOk X.prog X.w X.K X.mg X.base (L2.CX X.prog X.w) k fI fd ps (spI X.K)) (hr : Room (k + 1) X.A) (hb : Binds X.K fd ps []) (hg : Gl X x) (hm : X.mg x = some (.ref (g.ca c))) (ha : PA X (e :: es) (TA' g W fl))
    (hdb : (x == ("__debug__" : Str)) = false) (hp : (e :: es).all plainE = true) : PS X (.Raise (some (.Call (.Name x p) (e :: es) [] cpos)) none pos) (TS' g W (sRaise1 c fl)) := by
  have hp' := hp
  rw [List.all_cons, Bool.and_eq_true] at hp'
  refine (ps_raise C.calm C.tk (pmk_oex (dvs := []) T iC tI F1 hr hb .nil (fun pins σ H s e s' I ⟨_, _, _, _, _, _, _, _, _, _, _, _, z⟩ => z.elim) hg hm ha hdb (star1 hp'.1) (star_none hp'.2))).imp fun De σ H h => ?_
  obtain ⟨m, L, δ, R, S, h⟩ := ts_of h
  refine ta_mono (ta_then R S h) fun vs H1 ⟨m1, L1, ds, E1, R1, S1, r1, h1⟩ => ?_
  cases r1 with
  | nil => exact h1.elim
  | @cons dv v ds vs r1 r2 =>
    cases r2 with
    | cons _ _ => exact h1.elim
    | nil =>
      refine ⟨by simp, fun a na => ⟨a, g.ca c, v, rfl, T, fo, upd_same, fun dx h2 h3 => ⟨rfl, dx, [("number", v)], upd_same, ?_, ?_, ?_⟩⟩⟩
      · rw [upd_ne h3, upd_same]
      · rw [upd_ne h3] at h2; exact h2
      · rw [upd_ne h3] at h2
        have e : upd (del (upd (upd (upd H1 a (exo a (g.ca c) none)) dx (exd dx [("number", v)])) a (exo a (g.ca c) (some dx))) a) dx (.xd [("number", v)]) = upd H1 dx (.xd [("number", v)]) := by
          funext b
          by_cases b1 : b = dx
          · rw [b1, upd_same, upd_same]
          · rw [upd_ne b1, upd_ne b1]
            by_cases b2 : b = a
            · rw [b2, del_same, na]
            · rw [del_ne b2, upd_ne b2, upd_ne b1, upd_ne b2]
        show W _ _ _ _
        rw [e]
        exact h1 m1 _ σ _ _ (Ext.laid h2) (R1.laid h2) (S1.ext (Ext.laid h2) R1) ⟨rfl, dx, v, rfl, upd_same, r1.ext (Ext.laid h2) R1⟩
end
end FC
end

section
namespace FC
open PySem PySem.Spec PyProof.Rows L2

/-! ### the code, made ready once -/
abbrev CE := CF → FE
abbrev CT := CF → FT
abbrev CL := CF → FL
abbrev CI := CF → FI
abbrev CS := CF → FS
inductive GV where
  | fn (i : Nat) | cls (c : Nat) | non | bl (b : Bool) | int (i : Int) | str (x : Str)
def GV.d : GV → D
  | .fn i => .fn i | .cls c => .cls c | .non => .non | .bl b => .bl b | .int i => .int i | .str x => .str x
def GV.v (g : GE) : GV → V
  | .fn i => .ref (g.fa i) | .cls c => .ref (g.ca c) | .non => .non | .bl b => .bl b | .int i => .int i | .str x => .str x
theorem GV.rep {g : GE} {m : M} {H : Hp} : ∀ v : GV, Rep g m H v.d (v.v g)
  | .fn i => .fn i | .cls c => .cls c | .non => .non | .bl b => .bl b | .int i => .int i | .str x => .str x
/-- the module -/
structure PD where
  gl : List (Str × GV)
  tab : List (List Str)
  base : List (Option String)
  own : List Bool
structure Ctx where
  N : List Str
  sc : Scope
  fc : Str → Bool
  top : Bool
def bNames : List Str := ["len", "abs", "int", "str", "list", "tuple", "sum", "any", "all", "min", "max", "range", "enumerate", "zip", "isinstance", "bool", "ValueError", "LookupError", "dict", "sorted", "set"]
/-- how an exception of a class is made -/
structure MkX (g : GE) (X : Cx) (base : Nat → Option String) (own : Nat → Option Bool) : Prop where
  zero : ∀ c, own c = some false → (∃ bmB B newId initId, ExcBaseFacts B newId initId bmB ∧ PySem.W.excIn X.K (g.ca c) bmB newId = true) ∧ PySem.W.keepIn X.K (.ref (g.ca c)) = true ∧ Raises X (.ref (g.ca c))
  one : ∀ c, own c = some true → ∃ fI k fd ps, OexC X.K (g.ca c) ∧ PySem.W.findIn X.K (.ref (g.ca c)) "number" = some none ∧ PySem.W.findIn X.K (.ref (g.ca c)) "__init__" = some (some (.ref fI)) ∧ PySem.W.typeIn X.K (.ref fI) = some (.type "function") ∧
    FnOk X.prog X.w X.K X.mg X.base (L2.CX X.prog X.w) k fI fd ps (spI X.K) ∧ Room (k + 1) X.A ∧ Binds X.K fd ps []
structure XOk (g : GE) (pd : PD) (c : Ctx) (W : WX) (cf : CF) (X : Cx) : Prop where
  C : Cz g W X
  N : X.N = c.N
  sc : X.env.scope = c.sc
  fn : ∀ x, c.fc x = true → X.fn x = true
  F : Fok g X (fun i => pd.tab[i]?) cf
  gl : ∀ x v, pd.gl.lookup x = some v → ∃ u, X.mg x = some u ∧ RelV (v.v g) u
  bt : ∀ x ∈ bNames, X.mg x = none
  G : ExF g (fun i => (pd.base[i]?).join)
  mx : MkX g X (fun i => (pd.base[i]?).join) (fun i => pd.own[i]?)
  tp : c.top = true → X.stack = X.env :: X.outer ∧ X.env.frame = some X.env.locals
  kd : c.sc.kind = .function
def SoundE (pd : PD) (f : Ctx → Expr → Option CE) : Prop := ∀ c e r, f c e = some r → ∀ g W X cf, XOk g pd c W cf X → PE X e (TE' g W (r cf))
def SoundT (pd : PD) (f : Ctx → Expr → Option CT) : Prop := ∀ c e r, f c e = some r → ∀ g W X cf, XOk g pd c W cf X → PT X e (TT' g W (r cf))
def SoundA (pd : PD) (f : Ctx → List Expr → Option CL) : Prop := ∀ c e r, f c e = some r → ∀ g W X cf, XOk g pd c W cf X → PA X e (TA' g W (r cf))
def SoundI (pd : PD) (f : Ctx → Expr → Expr → Option CI) : Prop := ∀ c tg e r, f c tg e = some r → ∀ g W X cf, XOk g pd c W cf X → PI X tg e (TI' g W (r cf)) ∧ ∀ env x, foldedSetIterable e env x = pure x
/-- the two that call themselves -/
structure CC where
  e : Ctx → Expr → Option CE
  t : Ctx → Expr → Option CT
structure Sound (pd : PD) (c : CC) : Prop where
  e : SoundE pd c.e
  t : SoundT pd c.t
/-! names -/
theorem ixOf_get : ∀ {ns : List Str} {n : Str} {k : Nat}, ixOf ns n = some k → ns[k]? = some n
  | [], _, _, h => by cases h
  | a :: r, n, k, h => by
    rw [ixOf] at h
    by_cases q : a = n
    · rw [decide_eq_true q] at h; cases h; rw [q]; rfl
    · rw [decide_eq_false q] at h
      cases z : ixOf r n with
      | none => simp only [z] at h; cases h
      | some j =>
        simp only [z] at h
        cases h
        show r[j]? = some n
        exact ixOf_get z
def badName (x : Str) : Bool := (x == ("__debug__" : Str)) || (x == ("__classdict__" : Str))
theorem badName_no {x : Str} (h : badName x = false) : (x == ("__debug__" : Str)) = false ∧ (x == ("__classdict__" : Str)) = false := by
  unfold badName at h
  rw [Bool.or_eq_false_iff] at h
  exact h
def isGl (c : Ctx) (x : Str) : Bool := match c.sc.names.lookup x with
  | some .globalImplicit => true
  | _ => false
theorem isGl_ok {c : Ctx} {x : Str} {g : GE} {pd : PD} {W : WX} {cf : CF} {X : Cx} (ok : XOk g pd c W cf X) (h : isGl c x = true) : Gl X x := by
  unfold isGl at h
  unfold Gl
  show X.env.scope.names.lookup x = _
  rw [ok.sc]
  split at h
  · assumption
  · cases h
def isVis (c : Ctx) (x : Str) : Bool := match c.sc.names.lookup x with
  | some .local => true
  | some .cell => true
  | some .free => true
  | _ => false
theorem isVis_ok {c : Ctx} {x : Str} {g : GE} {pd : PD} {W : WX} {cf : CF} {X : Cx} (ok : XOk g pd c W cf X) (h : isVis c x = true) : Vis X.env.scope x := by
  unfold isVis at h
  unfold Vis
  rw [ok.sc]
  split at h <;> first | (rename_i e; simp [e]) | cases h
def isAsg (c : Ctx) (x : Str) : Bool := match c.sc.names.lookup x with
  | some .local => true
  | some .cell => c.fc x
  | _ => false
theorem isAsg_ok {c : Ctx} {x : Str} {g : GE} {pd : PD} {W : WX} {cf : CF} {X : Cx} (ok : XOk g pd c W cf X) (h : isAsg c x = true) : Asg X x := by
  unfold isAsg at h
  unfold Asg L2.Loc
  rw [ok.sc]
  split at h
  · rename_i e; exact ⟨.inl e, .inr e⟩
  · rename_i e; exact ⟨.inr e, .inl (ok.fn x h)⟩
  · cases h
def isLoc (c : Ctx) (x : Str) : Bool := match c.sc.names.lookup x with
  | some .local => true
  | _ => false
theorem isLoc_ok {c : Ctx} {x : Str} {g : GE} {pd : PD} {W : WX} {cf : CF} {X : Cx} (ok : XOk g pd c W cf X) (h : isLoc c x = true) : X.env.scope.names.lookup x = some .local := by
  unfold isLoc at h
  rw [ok.sc]
  split at h
  · assumption
  · cases h
/-- a built-in's name, not rebound -/
def isBt (c : Ctx) (x y : Str) : Bool := decide (x = y) && isGl c x
theorem isBt_ok {c : Ctx} {x y : Str} {g : GE} {pd : PD} {W : WX} {cf : CF} {X : Cx} (ok : XOk g pd c W cf X) (hy : y ∈ bNames) (h : isBt c x y = true) : x = y ∧ Gl X x ∧ X.mg x = none := by
  unfold isBt at h
  rw [Bool.and_eq_true] at h
  have e := of_decide_eq_true h.1
  exact ⟨e, isGl_ok ok h.2, by rw [e]; exact ok.bt y hy⟩
def cName (pd : PD) (c : Ctx) (x : Str) : Option CE := match badName x with
  | true => none
  | false => match isVis c x with
    | true => match ixOf c.N x with
      | some i => frcN i fun i => some fun _ => xVar i
      | none => none
    | false => match isGl c x with
      | true => match pd.gl.lookup x with
        | some v => let d := v.d; some fun _ => xC d
        | none => none
      | false => none
theorem cName_ok {pd : PD} {c : Ctx} {x : Str} {p : Pos} {r : CE} (h : cName pd c x = some r) {g : GE} {W : WX} {X : Cx} {cf : CF} (ok : XOk g pd c W cf X) : PE X (.Name x p) (TE' g W (r cf)) := by
  unfold cName at h
  simp only [frcN_eq] at h
  split at h
  · cases h
  · rename_i e0
    obtain ⟨b1, b2⟩ := badName_no e0
    split at h
    · rename_i e1
      split at h
      · rename_i i e2
        cases h
        exact pE_var (by rw [ok.N]; exact ixOf_get e2) (isVis_ok ok e1) b1 b2
      · cases h
    · split at h
      · rename_i e1
        split at h
        · rename_i v e2
          cases h
          obtain ⟨u, h1, h2⟩ := ok.gl x v e2
          exact pE_C (pe_glob (isGl_ok ok e1) h1 h2 b1) fun _ _ => GV.rep v
        · cases h
      · cases h
def cConst : Const → Option CE
  | .none => some fun _ => xC .non
  | .bool b => some fun _ => xC (.bl b)
  | .int i => some fun _ => xC (.int i)
  | .str x => some fun _ => xC (.str x)
  | _ => none
theorem cConst_ok {v : Const} {k : Nat} {p : Pos} {r : CE} (h : cConst v = some r) {g : GE} {W : WX} {X : Cx} {cf : CF} : PE X (.Constant v k p) (TE' g W (r cf)) := by
  cases v <;> first
    | (cases h; exact pE_C pe_non fun _ _ => .non)
    | (cases h; exact pE_C pe_bl fun _ _ => .bl _)
    | (cases h; exact pE_C pe_int fun _ _ => .int _)
    | (cases h; exact pE_C pe_str fun _ _ => .str _)
    | cases h
/-! operators -/
def opB : Operator → Option F2
  | .Add => some dAdd | .Sub => some dSub | .Mult => some dMul | .Mod => some dMod | .Pow => some dPow | .LShift => some dShl | .RShift => some dShr | .BitXor => some dBxor | .BitAnd => some dBand | .FloorDiv => some dFdiv
  | _ => none
theorem opB_ok {op : Operator} {F : F2} (h : opB op = some F) {g : GE} {W : WX} {X : Cx} (C : Cz g W X) : OpR X (binaryOp op) (rD2 g F) := by
  cases op <;> first
    | (cases h; exact od_add C.K) | (cases h; exact od_sub) | (cases h; exact od_mul C.K) | (cases h; exact od_mod) | (cases h; exact od_pow) | (cases h; exact od_shl) | (cases h; exact od_shr) | (cases h; exact od_bxor) | (cases h; exact od_band) | (cases h; exact od_fdiv) | cases h
def opC : CmpOp → F2
  | .Eq => dEq | .NotEq => dNe | .Lt => dLt | .LtE => dLe | .Gt => dGt | .GtE => dGe | .Is => dIs | .IsNot => dIsNot | .In => dIn | .NotIn => dNotIn
theorem opC_ok {op : CmpOp} {g : GE} {W : WX} {X : Cx} (C : Cz g W X) : OpR X (compareOp op) (rD2 g (opC op)) := by
  have hu : X.A.units + 64 < cLine := by have := C.hu; omega
  cases op
  · exact od_eq C.K hu
  · exact od_ne C.K hu
  · exact od_lt C.K hu
  · exact od_le
  · exact od_gt
  · exact od_ge
  · exact od_is
  · exact od_isNot
  · exact od_in C
  · exact od_notIn C
def cBin (op : Operator) (a b : Option CE) : Option CE := match opB op with
  | some F => match a with
    | some fa => match b with
      | some fb => some fun cf => xBin F (fa cf) (fb cf)
      | none => none
    | none => none
  | none => none
def cUn (op : UnaryOp) (a : Option CE) : Option CE := match op with
  | .Not => match a with
    | some fa => some fun cf => xNot (fa cf)
    | none => none
  | .USub => match a with
    | some fa => some fun cf => xUn dNeg (fa cf)
    | none => none
  | _ => none
def cIf (t : Option CT) (a b : Option CE) : Option CE := match t with
  | some ft => match a with
    | some fa => match b with
      | some fb => some fun cf => xIf (ft cf) (fa cf) (fb cf)
      | none => none
    | none => none
  | none => none
def cCmp (c : Ctx → Expr → Option CE) (x : Ctx) (a : Expr) : List CmpOp → List Expr → Option CE
  | [op], [b] => match behindInMarks op b with
    | false => match c x a with
      | some fa => match c x b with
        | some fb => let F := opC op; some fun cf => xBin F (fa cf) (fb cf)
        | none => none
      | none => none
    | true => none
  | [op, op'], [b, d] => match lastMarks [op, op'] [b, d] with
    | false => match c x a with
      | some fa => match c x b with
        | some fb => match c x d with
          | some fd => let F := opC op; let F' := opC op'; some fun cf => xChain F F' (fa cf) (fb cf) (fd cf)
          | none => none
        | none => none
      | none => none
    | true => none
  | _, _ => none
theorem cCmp_ok {pd : PD} {c : Ctx → Expr → Option CE} (S : SoundE pd c) {x : Ctx} {a : Expr} {ops : List CmpOp} {bs : List Expr} {p : Pos} {r : CE} (h : cCmp c x a ops bs = some r) {g : GE} {W : WX} {X : Cx} {cf : CF} (ok : XOk g pd x W cf X) : PE X (.Compare a ops bs p) (TE' g W (r cf)) := by
  unfold cCmp at h
  split at h
  · rename_i op b
    split at h <;> try cases h
    rename_i hm
    split at h <;> try cases h
    rename_i fa ea
    split at h <;> try cases h
    rename_i fb eb
    exact pE_cmp (opC_ok ok.C) (S _ _ _ ea _ _ _ _ ok) (S _ _ _ eb _ _ _ _ ok) hm
  · rename_i op op' b d
    split at h <;> try cases h
    rename_i hm
    split at h <;> try cases h
    rename_i fa ea
    split at h <;> try cases h
    rename_i fb eb
    split at h <;> try cases h
    rename_i fd ed
    exact pE_chain (opC_ok ok.C) (opC_ok ok.C) (S _ _ _ ea _ _ _ _ ok) (S _ _ _ eb _ _ _ _ ok) (S _ _ _ ed _ _ _ _ ok) hm
  · cases h
def cOr (c : Ctx → Expr → Option CE) (x : Ctx) : List Expr → Option CE
  | [] => none
  | [a] => c x a
  | a :: b :: r => match c x a with
    | some fa => match cOr c x (b :: r) with
      | some fb => some fun cf => xOr (fa cf) (fb cf)
      | none => none
    | none => none
def cAnd (c : Ctx → Expr → Option CE) (x : Ctx) : List Expr → Option CE
  | [] => none
  | [a] => c x a
  | a :: b :: r => match c x a with
    | some fa => match cAnd c x (b :: r) with
      | some fb => some fun cf => xAnd (fa cf) (fb cf)
      | none => none
    | none => none
theorem cOr_ok {pd : PD} {c : Ctx → Expr → Option CE} (S : SoundE pd c) {x : Ctx} {p : Pos} {g : GE} {W : WX} {X : Cx} {cf : CF} (ok : XOk g pd x W cf X) : ∀ {es : List Expr} {r : CE}, cOr c x es = some r → PE X (.BoolOp .Or es p) (TE' g W (r cf))
  | [], _, h => by cases h
  | [a], _, h => pE_one (S _ _ _ h _ _ _ _ ok)
  | a :: b :: es, r, h => by
    unfold cOr at h
    split at h <;> try cases h
    rename_i fa ea
    split at h <;> try cases h
    rename_i fb eb
    exact pE_or ok.C.K (S _ _ _ ea _ _ _ _ ok) (cOr_ok S ok eb)
theorem cAnd_ok {pd : PD} {c : Ctx → Expr → Option CE} (S : SoundE pd c) {x : Ctx} {p : Pos} {g : GE} {W : WX} {X : Cx} {cf : CF} (ok : XOk g pd x W cf X) : ∀ {es : List Expr} {r : CE}, cAnd c x es = some r → PE X (.BoolOp .And es p) (TE' g W (r cf))
  | [], _, h => by cases h
  | [a], _, h => pE_one (S _ _ _ h _ _ _ _ ok)
  | a :: b :: es, r, h => by
    unfold cAnd at h
    split at h <;> try cases h
    rename_i fa ea
    split at h <;> try cases h
    rename_i fb eb
    exact pE_and ok.C.K (S _ _ _ ea _ _ _ _ ok) (cAnd_ok S ok eb)
/-! lists of expressions -/
def starOf : Expr → Option Expr
  | .Starred e _ => some e
  | _ => none
theorem starOf_some {e a : Expr} (h : starOf e = some a) : ∃ p, e = .Starred a p := by
  cases e <;> first | (cases h; exact ⟨_, rfl⟩) | cases h
theorem starOf_none {e : Expr} (h : starOf e = none) : plainE e = true := by
  cases e <;> first | rfl | cases h
def cA (c : Ctx → Expr → Option CE) (x : Ctx) : List Expr → Option CL
  | [] => some fun _ => lNil
  | e :: r => match cA c x r with
    | some fr => match starOf e with
      | some a => match c x a with
        | some fa => some fun cf => lStar (fa cf) (fr cf)
        | none => none
      | none => match c x e with
        | some fa => some fun cf => lCons (fa cf) (fr cf)
        | none => none
    | none => none
theorem cA_ok {pd : PD} {c : Ctx → Expr → Option CE} (S : SoundE pd c) {x : Ctx} {g : GE} {W : WX} {X : Cx} {cf : CF} (ok : XOk g pd x W cf X) : ∀ {es : List Expr} {r : CL}, cA c x es = some r → PA X es (TA' g W (r cf))
  | [], _, h => by cases h; exact pA_nil
  | e :: es, r, h => by
    unfold cA at h
    split at h <;> try cases h
    rename_i fr er
    split at h
    · rename_i a ea
      obtain ⟨p, rfl⟩ := starOf_some ea
      split at h <;> try cases h
      rename_i fa ec
      exact pA_star ok.C.K (S _ _ _ ec _ _ _ _ ok) (cA_ok S ok er) rfl
    · rename_i ea
      split at h <;> try cases h
      rename_i fa ec
      exact pA_cons (S _ _ _ ec _ _ _ _ ok) (cA_ok S ok er) (star1 (starOf_none ea))
/-! subscripts -/
def isSlice : Expr → Bool
  | .Slice _ _ _ _ => true
  | _ => false
theorem plainIx {b : Expr} (h : isSlice b = false) : PlainIx b := by
  intro o i
  cases b <;> first | rfl | cases h
def isRev : Expr → Bool
  | .Slice none none (some (.UnaryOp .USub (.Constant (.int 1) _ _) _)) _ => true
  | _ => false
theorem isRev_ok {b : Expr} (h : isRev b = true) : ∃ k p1 p2 p3, b = .Slice none none (some (.UnaryOp .USub (.Constant (.int 1) k p1) p2)) p3 := by
  unfold isRev at h
  split at h
  · exact ⟨_, _, _, _, rfl⟩
  · cases h
def cO (c : Ctx → Expr → Option CE) (x : Ctx) : Option Expr → Option (CF → FO)
  | none => some fun _ => oNo
  | some e => match c x e with
    | some f => some fun cf => oSm (f cf)
    | none => none
theorem cO_ok {pd : PD} {c : Ctx → Expr → Option CE} (S : SoundE pd c) {x : Ctx} {g : GE} {W : WX} {X : Cx} {cf : CF} (ok : XOk g pd x W cf X) : ∀ {e : Option Expr} {r : CF → FO}, cO c x e = some r → PO X e (TO' g W (r cf))
  | none, _, h => by cases h; exact pO_none
  | some e, _, h => by
    rw [cO] at h
    split at h <;> try cases h
    rename_i f ef
    exact pO_some (S _ _ _ ef _ _ _ _ ok)
def cSub (c : Ctx → Expr → Option CE) (x : Ctx) (a b : Expr) : Option CE := match c x a with
  | some fa => match b with
    | .Slice lo hi none _ => match cO c x lo with
      | some fl => match cO c x hi with
        | some fh => some fun cf => xSl (fa cf) (fl cf) (fh cf)
        | none => none
      | none => none
    | b => match isRev b with
      | true => some fun cf => xRev (fa cf)
      | false => match isSlice b with
        | true => none
        | false => match c x b with
          | some fb => some fun cf => xBin dIx (fa cf) (fb cf)
          | none => none
  | none => none
theorem cSub_ok {pd : PD} {c : Ctx → Expr → Option CE} (S : SoundE pd c) {x : Ctx} {a b : Expr} {p : Pos} {r : CE} (h : cSub c x a b = some r) {g : GE} {W : WX} {X : Cx} {cf : CF} (ok : XOk g pd x W cf X) : PE X (.Subscript a b p) (TE' g W (r cf)) := by
  unfold cSub at h
  split at h <;> try cases h
  rename_i fa ea
  split at h
  · split at h <;> try cases h
    rename_i fl el
    split at h <;> try cases h
    rename_i fh eh
    exact pE_sl ok.C (S _ _ _ ea _ _ _ _ ok) (cO_ok S ok el) (cO_ok S ok eh)
  · split at h
    · rename_i er
      cases h
      obtain ⟨k, p1, p2, p3, rfl⟩ := isRev_ok er
      exact pE_rev ok.C (S _ _ _ ea _ _ _ _ ok)
    · split at h <;> try cases h
      rename_i es
      split at h <;> try cases h
      rename_i fb eb
      exact pE_ix ok.C (S _ _ _ ea _ _ _ _ ok) (S _ _ _ eb _ _ _ _ ok) (plainIx es)
end FC
end

section
namespace FC
open PySem PySem.Spec PyProof.Rows L2

/-! ### built-ins by name -/
def bTab : List (Str × Value × FN) := [("len", .builtin "len", dLen), ("int", .type "int", dInt), ("tuple", .type "tuple", dTuple), ("list", .type "list", dList), ("str", .type "str", dStr), ("all", .builtin "all", dAll), ("any", .builtin "any", dAny), ("abs", .builtin "abs", dAbs),
  ("sum", .builtin "sum", dSum), ("min", .builtin "min", dMin), ("max", .builtin "max", dMax)]
def lookB {α : Type} : List (Str × α) → Str → Option α
  | [], _ => none
  | (y, a) :: r, x => match decide (x = y) with
    | true => some a
    | false => lookB r x
theorem lookB_mem {α : Type} : ∀ {l : List (Str × α)} {x : Str} {a : α}, lookB l x = some a → (x, a) ∈ l
  | [], _, _, h => by cases h
  | (y, b) :: r, x, a, h => by
    unfold lookB at h
    by_cases q : x = y
    · rw [decide_eq_true q] at h
      cases h
      rw [q]
      exact List.mem_cons_self
    · rw [decide_eq_false q] at h
      exact List.mem_cons_of_mem _ (lookB_mem h)
structure BGood (g : GE) (X : Cx) (x : Str) (v : Value) (F : FN) : Prop where
  bt : bootBuiltins x = some v
  nm : x ∈ bNames
  n1 : x ≠ "__name__"
  n2 : (x == ("__debug__" : Str)) = false
  cl : (∃ id, v = .builtin id ∧ CallR X (.builtin id) (rDN g F)) ∨ ∃ T, v = .type T ∧ CallR X (.type T) (rDN g F)
theorem bTab_ok {g : GE} {W : WX} {X : Cx} (C : Cz g W X) : ∀ e ∈ bTab, BGood g X e.1 e.2.1 e.2.2 := by
  unfold bTab
  simp only [List.forall_mem_cons]
  refine ⟨?_, ?_, ?_, ?_, ?_, ?_, ?_, ?_, ?_, ?_, ?_, by simp⟩
  · exact ⟨by decide +kernel, by decide +kernel, by decide, by decide, .inl ⟨_, rfl, cd_len C⟩⟩
  · exact ⟨by decide +kernel, by decide +kernel, by decide, by decide, .inr ⟨_, rfl, cd_int⟩⟩
  · exact ⟨by decide +kernel, by decide +kernel, by decide, by decide, .inr ⟨_, rfl, cd_tuple C⟩⟩
  · exact ⟨by decide +kernel, by decide +kernel, by decide, by decide, .inr ⟨_, rfl, cd_list C⟩⟩
  · exact ⟨by decide +kernel, by decide +kernel, by decide, by decide, .inr ⟨_, rfl, cd_str⟩⟩
  · exact ⟨by decide +kernel, by decide +kernel, by decide, by decide, .inl ⟨_, rfl, cd_all C⟩⟩
  · exact ⟨by decide +kernel, by decide +kernel, by decide, by decide, .inl ⟨_, rfl, cd_any C⟩⟩
  · exact ⟨by decide +kernel, by decide +kernel, by decide, by decide, .inl ⟨_, rfl, cd_abs⟩⟩
  · exact ⟨by decide +kernel, by decide +kernel, by decide, by decide, .inl ⟨_, rfl, cd_sum C⟩⟩
  · exact ⟨by decide +kernel, by decide +kernel, by decide, by decide, .inl ⟨_, rfl, cd_min C⟩⟩
  · exact ⟨by decide +kernel, by decide +kernel, by decide, by decide, .inl ⟨_, rfl, cd_max C⟩⟩
def mTab : List (Str × Kt × String × FM) := [("append", .lst, "list.append", dAppend), ("join", .str, "str.join", dJoin), ("split", .str, "str.split", dSplit), ("extend", .lst, "list.extend", dExtend), ("pop", .lst, "list.pop", dPop), ("insert", .lst, "list.insert", dInsert), ("find", .str, "str.find", dFind)]
structure MGood (g : GE) (X : Cx) (m : Str) (k : Kt) (id : String) (F : FM) : Prop where
  pa : PlainAttrs k.nm
  sl : Slot k.nm m id
  ty : typeOf (.builtin id) = pure (.type "method_descriptor")
  mr : MtR X id (rDM g F)
theorem mTab_ok {g : GE} {W : WX} {X : Cx} (C : Cz g W X) : ∀ e ∈ mTab, MGood g X e.1 e.2.1 e.2.2.1 e.2.2.2 := by
  unfold mTab
  simp only [List.forall_mem_cons]
  refine ⟨?_, ?_, ?_, ?_, ?_, ?_, ?_, by simp⟩
  · exact ⟨PySem.F.plainAttrs_list, PySem.F.slot_list_append, PySem.F.type_list_append, md_append⟩
  · exact ⟨PySem.F.plainAttrs_str, PySem.F.slot_str_join, PySem.F.type_str_join, md_join C⟩
  · exact ⟨PySem.F.plainAttrs_str, PySem.F.slot_str_split, PySem.F.type_str_split, md_split⟩
  · exact ⟨PySem.F.plainAttrs_list, PySem.F.slot_list_extend, PySem.F.type_list_extend, md_extend⟩
  · exact ⟨PySem.F.plainAttrs_list, PySem.F.slot_list_pop, PySem.F.type_list_pop, md_pop⟩
  · exact ⟨PySem.F.plainAttrs_list, PySem.F.slot_list_insert, PySem.F.type_list_insert, md_insert⟩
  · exact ⟨PySem.F.plainAttrs_str, PySem.F.slot_str_find, PySem.F.type_str_find, md_find⟩
def call0 : Expr → Bool
  | .Call (.Name _ _) [] [] _ => true
  | _ => false
theorem attrBase {o : Expr} {m : Str} {env : Env} (h : call0 o = false) : attributeBase o m env (eval o env) = eval o env := by
  unfold attributeBase
  split
  · cases h
  · rfl
/-! isinstance -/
def tyTab : List (Str × TyC) := [("int", .int), ("bool", .bool), ("str", .str), ("list", .list), ("tuple", .tuple), ("dict", .dict)]
theorem tyTab_ok : ∀ e ∈ tyTab, bootBuiltins e.1 = some (.type e.2.nm) ∧ e.1 ∈ bNames ∧ e.1 ≠ "__name__" ∧ (e.1 == ("__debug__" : Str)) = false := by
  unfold tyTab
  simp only [List.forall_mem_cons]
  refine ⟨?_, ?_, ?_, ?_, ?_, ?_, by simp⟩ <;> exact ⟨by decide +kernel, by decide +kernel, by decide, by decide⟩
def cTy (x : Ctx) : Expr → Option TyC
  | .Name y _ => match isGl x y with
    | true => lookB tyTab y
    | false => none
  | _ => none
theorem cTy_ok {pd : PD} {x : Ctx} {e : Expr} {t : TyC} (h : cTy x e = some t) {g : GE} {W : WX} {X : Cx} {cf : CF} (ok : XOk g pd x W cf X) : ClsN X e t := by
  unfold cTy at h
  split at h <;> try cases h
  rename_i y p
  split at h <;> try cases h
  rename_i eg
  obtain ⟨h1, h2, h3, h4⟩ := tyTab_ok _ (lookB_mem h)
  exact ⟨y, p, rfl, isGl_ok ok eg, ok.bt y h2, h1, h3, h4⟩
def cTys (x : Ctx) : List Expr → Option (List TyC)
  | [] => some []
  | e :: r => match cTy x e with
    | some t => match cTys x r with
      | some ts => some (t :: ts)
      | none => none
    | none => none
theorem cTys_ok {pd : PD} {x : Ctx} {g : GE} {W : WX} {X : Cx} {cf : CF} (ok : XOk g pd x W cf X) : ∀ {es : List Expr} {ts : List TyC}, cTys x es = some ts → ClsNs X es ts
  | [], _, h => by cases h; exact .nil
  | e :: es, _, h => by
    rw [cTys] at h
    split at h <;> try cases h
    rename_i t et
    split at h <;> try cases h
    rename_i ts ets
    exact .cons (cTy_ok et ok) (cTys_ok ok ets)
def cIsi (c : Ctx → Expr → Option CE) (x : Ctx) : List Expr → Option CE
  | [a, .Tuple es _ _] => match plainE a with
    | true => match cTys x es with
      | some ts => match Nat.ble ts.length 20 with
        | true => match c x a with
          | some fa => some fun cf => xIsi (fa cf) ts
          | none => none
        | false => none
      | none => none
    | false => none
  | [a, e] => match plainE a with
    | true => match cTy x e with
      | some t => match c x a with
        | some fa => some fun cf => xIsi (fa cf) [t]
        | none => none
      | none => none
    | false => none
  | _ => none
theorem cIsi_ok {pd : PD} {c : Ctx → Expr → Option CE} (S : SoundE pd c) {x : Ctx} {es : List Expr} {y : Str} {p pos : Pos} {r : CE} (h : cIsi c x es = some r) (hy : isBt x y "isinstance" = true) {g : GE} {W : WX} {X : Cx} {cf : CF} (ok : XOk g pd x W cf X) : PE X (.Call (.Name y p) es [] pos) (TE' g W (r cf)) := by
  obtain ⟨rfl, h1, h2⟩ := isBt_ok ok (by decide +kernel) hy
  unfold cIsi at h
  split at h
  · split at h <;> try cases h
    rename_i hp
    split at h <;> try cases h
    rename_i ts et
    split at h <;> try cases h
    rename_i hl
    split at h <;> try cases h
    rename_i fa ea
    exact pE_isiT ok.C.K h1 h2 (S _ _ _ ea _ _ _ _ ok) (cTys_ok ok et) (Nat.le_of_ble_eq_true hl) hp
  · split at h <;> try cases h
    rename_i hp
    split at h <;> try cases h
    rename_i t et
    split at h <;> try cases h
    rename_i fa ea
    exact pE_isi1 ok.C.K h1 h2 (S _ _ _ ea _ _ _ _ ok) (cTy_ok et ok) hp
  · cases h
/-! calls -/
theorem star_has : ∀ {es : List Expr} {env : Env} {pos : Pos}, es.all plainE = false → (backTo pos (starEach es env)).any (·.1) = true
  | [], _, _, h => by cases h
  | e :: es, env, pos, h => by
    rw [List.all_cons] at h
    cases q : plainE e with
    | true =>
      rw [q, Bool.true_and] at h
      rw [star1 q]
      show (false || (backTo pos (starEach es env)).any (·.1)) = true
      rw [star_has h]; rfl
    | false =>
      cases e <;> first | (cases q; done) | exact Bool.true_or _
def cApp (c : Ctx → Expr → Option CE) (x : Ctx) (func : Expr) (es : List Expr) : Option CE := match fwdE func with
  | true => match c x func with
    | some ff => match es with
      | [] => some fun cf => xApp cf (ff cf) lNil
      | e :: r => match plainE e with
        | true => match cA c x (e :: r) with
          | some fl => some fun cf => xApp cf (ff cf) (fl cf)
          | none => none
        | false => none
    | none => none
  | false => none
theorem cApp_ok {pd : PD} {c : Ctx → Expr → Option CE} (S : SoundE pd c) {x : Ctx} {func : Expr} {es : List Expr} {pos : Pos} {r : CE} (h : cApp c x func es = some r) {g : GE} {W : WX} {X : Cx} {cf : CF} (ok : XOk g pd x W cf X) : PE X (.Call func es [] pos) (TE' g W (r cf)) := by
  unfold cApp at h
  split at h <;> try cases h
  rename_i hf
  split at h <;> try cases h
  rename_i ff ef
  split at h
  · cases h
    exact pE_app0 ok.C ok.F (fwd_of hf) (S _ _ _ ef _ _ _ _ ok)
  · rename_i e r'
    split at h <;> try cases h
    rename_i hp
    split at h <;> try cases h
    rename_i fl el
    cases q : r'.all plainE with
    | true => exact pE_app ok.C ok.F (fwd_of hf) (S _ _ _ ef _ _ _ _ ok) (cA_ok S ok el) (by rw [List.all_cons, hp, q]; rfl)
    | false => exact pE_appS ok.C ok.F (fwd_of hf) (S _ _ _ ef _ _ _ _ ok) (cA_ok S ok el) hp (star_has q)
def cBt (c : Ctx → Expr → Option CE) (x : Ctx) (y : Str) (F : FN) : List Expr → Option CE
  | [] => none
  | e :: es => match isGl x y && (e :: es).all plainE with
    | true => match cA c x (e :: es) with
      | some fl => some fun cf => xCall F (fl cf)
      | none => none
    | false => none
theorem cBt_ok {pd : PD} {c : Ctx → Expr → Option CE} (S : SoundE pd c) {x : Ctx} {y : Str} {v : Value} {F : FN} {es : List Expr} {p pos : Pos} {r : CE} (hb : lookB bTab y = some (v, F)) (h : cBt c x y F es = some r) {g : GE} {W : WX} {X : Cx} {cf : CF} (ok : XOk g pd x W cf X) : PE X (.Call (.Name y p) es [] pos) (TE' g W (r cf)) := by
  unfold cBt at h
  split at h
  · cases h
  · split at h <;> try cases h
    rename_i hc
    rw [Bool.and_eq_true] at hc
    split at h <;> try cases h
    rename_i fl el
    obtain ⟨b1, b2, b3, b4, b5⟩ := bTab_ok ok.C _ (lookB_mem hb)
    dsimp only at b1 b2 b3 b4 b5
    rcases b5 with ⟨id, rfl, b5⟩ | ⟨T, rfl, b5⟩
    · exact pE_callB b5 (isGl_ok ok hc.1) (ok.bt y b2) b1 (cA_ok S ok el) b3 b4 hc.2
    · exact pE_callTy b5 (isGl_ok ok hc.1) (ok.bt y b2) b1 (cA_ok S ok el) b3 b4 hc.2
def cMeth (c : Ctx → Expr → Option CE) (x : Ctx) (o : Expr) (m : Str) (ap cp : Pos) (es : List Expr) : Option CE := match lookB mTab m with
  | some (k, _, F) => match c x o with
    | some fo => match !call0 o && (ap.endLine == cp.line) && es.all plainE && Nat.blt es.length 30 with
      | true => match cA c x es with
        | some fl => some fun cf => xMeth k F (fo cf) (fl cf)
        | none => none
      | false => none
    | none => none
  | none => none
theorem cMeth_ok {pd : PD} {c : Ctx → Expr → Option CE} (S : SoundE pd c) {x : Ctx} {o : Expr} {m : Str} {ap cp : Pos} {es : List Expr} {r : CE} (h : cMeth c x o m ap cp es = some r) {g : GE} {W : WX} {X : Cx} {cf : CF} (ok : XOk g pd x W cf X) : PE X (.Call (.Attribute o m ap) es [] cp) (TE' g W (r cf)) := by
  unfold cMeth at h
  split at h <;> try cases h
  rename_i k id F em
  split at h <;> try cases h
  rename_i fo eo
  split at h <;> try cases h
  rename_i hc
  simp only [Bool.and_eq_true, Bool.not_eq_true'] at hc
  obtain ⟨⟨⟨c1, c2⟩, c3⟩, c4⟩ := hc
  split at h <;> try cases h
  rename_i fl el
  obtain ⟨b1, b2, b3, b4⟩ := mTab_ok ok.C _ (lookB_mem em)
  dsimp only at b1 b2 b3 b4
  cases es with
  | nil =>
    rw [cA] at el
    cases el
    exact pE_meth0 ok.C.K b1 b2 b3 b4 (S _ _ _ eo _ _ _ _ ok) (attrBase c1) c2
  | cons e es => exact pE_meth ok.C.K b1 b2 b3 b4 (S _ _ _ eo _ _ _ _ ok) (cA_ok S ok el) (attrBase c1) c2 c3 (Nat.blt_eq.mp c4)
/-! keywords -/
def cK (c : Ctx → Expr → Option CE) (x : Ctx) : List Keyword → Option CL
  | [] => some fun _ => lNil
  | k :: r => match c x k.value with
    | some fa => match cK c x r with
      | some fr => some fun cf => lCons (fa cf) (fr cf)
      | none => none
    | none => none
theorem cK_ok {pd : PD} {c : Ctx → Expr → Option CE} (S : SoundE pd c) {x : Ctx} {g : GE} {W : WX} {X : Cx} {cf : CF} (ok : XOk g pd x W cf X) : ∀ {ks : List Keyword} {r : CL}, cK c x ks = some r → PK X ks (TA' g W (r cf))
  | [], _, h => by cases h; exact pK_nil
  | ⟨nm, e, kp⟩ :: ks, _, h => by
    rw [cK] at h
    split at h <;> try cases h
    rename_i fa ea
    split at h <;> try cases h
    rename_i fr er
    exact pK_cons (S _ _ _ ea _ _ _ _ ok) (cK_ok S ok er)
def cKw (pd : PD) (c : Ctx → Expr → Option CE) (x : Ctx) (y : Str) (es : List Expr) (kws : List Keyword) : Option CE := match isGl x y && !badName y && es.all plainE with
  | true => match pd.gl.lookup y with
    | some (.fn i) => match pd.tab[i]? with
      | some ps => match kwsN kws with
        | some ks => match kwOk ps es.length ks && Nat.ble es.length ps.length with
          | true => match permOf (ps.take es.length ++ ks) ps with
            | some perm => match cA c x es with
              | some fl => match cK c x kws with
                | some fk => frcN es.length fun np => frcN ks.length fun nk => some fun cf => xKw np nk perm i cf (fl cf) (fk cf)
                | none => none
              | none => none
            | none => none
          | false => none
        | none => none
      | none => none
    | _ => none
  | false => none
theorem cKw_ok {pd : PD} {c : Ctx → Expr → Option CE} (S : SoundE pd c) {x : Ctx} {y : Str} {es : List Expr} {kws : List Keyword} {p pos : Pos} {r : CE} (h : cKw pd c x y es kws = some r) {g : GE} {W : WX} {X : Cx} {cf : CF} (ok : XOk g pd x W cf X) : PE X (.Call (.Name y p) es kws pos) (TE' g W (r cf)) := by
  unfold cKw at h
  split at h <;> try cases h
  rename_i hc
  simp only [Bool.and_eq_true, Bool.not_eq_true'] at hc
  obtain ⟨⟨c1, c2⟩, c3⟩ := hc
  split at h <;> try cases h
  rename_i i ei
  split at h <;> try cases h
  rename_i ps eps
  split at h <;> try cases h
  rename_i ks eks
  split at h <;> try cases h
  rename_i hk
  rw [Bool.and_eq_true] at hk
  split at h <;> try cases h
  rename_i perm eperm
  split at h <;> try cases h
  rename_i fl el
  split at h <;> try cases h
  rename_i fk ek
  simp only [frcN_eq] at h
  cases h
  obtain ⟨u, h1, h2⟩ := ok.gl y _ ei
  obtain rfl : u = Value.ref (g.fa i) := h2
  cases es with
  | nil =>
    rw [cA] at el
    cases el
    exact pE_kw0 ok.C ok.F eps (isGl_ok ok c1) h1 (badName_no c2).1 (cK_ok S ok ek) eks hk.1 eperm
  | cons e es => exact pE_kw ok.C ok.F eps (isGl_ok ok c1) h1 (badName_no c2).1 (cA_ok S ok el) c3 (cK_ok S ok ek) eks hk.1 eperm (Nat.le_of_ble_eq_true hk.2)
def cCall (pd : PD) (c : Ctx → Expr → Option CE) (x : Ctx) (func : Expr) (es : List Expr) (kws : List Keyword) (cp : Pos) : Option CE := match kws with
  | [] => match func with
    | .Attribute o m ap => cMeth c x o m ap cp es
    | .Name y p => match isBt x y "isinstance" with
      | true => cIsi c x es
      | false => match lookB bTab y with
        | some (v, F) => cBt c x y F es
        | none => cApp c x (.Name y p) es
    | f => cApp c x f es
  | k :: ks => match func with
    | .Name y _ => cKw pd c x y es (k :: ks)
    | _ => none
theorem cCall_ok {pd : PD} {c : Ctx → Expr → Option CE} (S : SoundE pd c) {x : Ctx} {func : Expr} {es : List Expr} {kws : List Keyword} {cp : Pos} {r : CE} (h : cCall pd c x func es kws cp = some r) {g : GE} {W : WX} {X : Cx} {cf : CF} (ok : XOk g pd x W cf X) : PE X (.Call func es kws cp) (TE' g W (r cf)) := by
  unfold cCall at h
  split at h
  · split at h
    · exact cMeth_ok S h ok
    · split at h
      · rename_i hy
        exact cIsi_ok S h hy ok
      · split at h
        · rename_i v F eb
          exact cBt_ok S eb h ok
        · exact cApp_ok S h ok
    · exact cApp_ok S h ok
  · split at h
    · exact cKw_ok S h ok
    · cases h
end FC
end

section
namespace FC
open PySem PySem.Spec PyProof.Rows L2

/-! ### tests -/
section
variable {g : GE} {W : WX} {X : Cx} {fa fb fc : FE} {a b c : Expr} {pos : Pos}
theorem chain_of {F G : F2} {σ : L2.St} {H : Hp} {Q : VK} (h : TE' g W (xChain F G fa fb fc) σ H Q) : tChain (rD2 g F) (rD2 g G) (TE' g W fa) (TE' g W fb) (TE' g W fc) σ H Q := by
  obtain ⟨m, L, δ, R, S, h⟩ := te_of h
  refine te_mono (te_bind R S h) fun x H1 ⟨m1, L1, d, E1, R1, S1, r1, h1⟩ => ?_
  refine te_mono (te_bind R1 S1 h1) fun y H2 ⟨m2, L2, e, E2, R2, S2, r2, h2⟩ => ?_
  split at h2
  · rename_i L3 q
    refine ⟨m2, L2, d, e, .bl true, L3, R2, r1.ext E2 R1, r2, q, fun m3 H3 z E3 R3 rz => ?_⟩
    cases rz
    refine ⟨true, rfl, ?_⟩
    rw [if_pos rfl]
    exact te_mono (te_bind R3 (S2.ext E3 R2) (TMP.shift E3 h2)) fun w H4 ⟨m4, L4, f, E4, R4, S4, r4, h4⟩ => rD2_fin R4 ((r2.ext E3 R2).ext E4 R3) r4 h4
  · rename_i L3 q
    refine ⟨m2, L2, d, e, .bl false, L3, R2, r1.ext E2 R1, r2, q, fun m3 H3 z E3 R3 rz => ?_⟩
    cases rz
    refine ⟨false, rfl, ?_⟩
    rw [if_neg Bool.false_ne_true]
    exact h2 m3 H3 _ E3 R3 (.bl false)
  · exact h2.elim
theorem pT_chain {op op' : CmpOp} {F G : F2} (ho : OpR X (compareOp op) (rD2 g F)) (ho' : OpR X (compareOp op') (rD2 g G)) (ha : PE X a (TE' g W fa)) (hb : PE X b (TE' g W fb)) (hc : PE X c (TE' g W fc))
    (hm : lastMarks [op, op'] [b, c] = false) : PT X (.Compare a [op, op'] [b, c] pos) (TT' g W (tBl (xChain F G fa fb fc))) :=
  (pt_chain ho ho' ha hb hc hm).imp fun _ _ _ h => chain_of (tB_of h)
end
def truE : Expr → Bool
  | .BoolOp .. => false
  | .UnaryOp .. => false
  | .IfExp .. => false
  | .Compare .. => false
  | _ => true
theorem truE_ok {a : Expr} {env : Env} (h : truE a = true) : ∀ whole, isTrue a env whole = (do let v ← whole; standAt a.pos; holding [v] (truthy v)) := by
  intro whole
  cases a <;> first | rfl | cases h
def cTAnd (t : Ctx → Expr → Option CT) (x : Ctx) : List Expr → Option CT
  | [] => none
  | [a] => t x a
  | a :: b :: r => match t x a with
    | some fa => match cTAnd t x (b :: r) with
      | some fb => some fun cf => tAn (fa cf) (fb cf)
      | none => none
    | none => none
def cTOr (t : Ctx → Expr → Option CT) (x : Ctx) : List Expr → Option CT
  | [] => none
  | [a] => t x a
  | a :: b :: r => match t x a with
    | some fa => match cTOr t x (b :: r) with
      | some fb => some fun cf => tO (fa cf) (fb cf)
      | none => none
    | none => none
theorem cTAnd_ok {pd : PD} {t : Ctx → Expr → Option CT} (S : SoundT pd t) {x : Ctx} {p : Pos} {g : GE} {W : WX} {X : Cx} {cf : CF} (ok : XOk g pd x W cf X) : ∀ {es : List Expr} {r : CT}, cTAnd t x es = some r → PW X (.BoolOp .And es p) (TT' g W (r cf))
  | [], _, h => by cases h
  | [a], _, h => pw_and1 (S _ _ _ h _ _ _ _ ok)
  | a :: b :: es, r, h => by
    unfold cTAnd at h
    split at h <;> try cases h
    rename_i fa ea
    split at h <;> try cases h
    rename_i fb eb
    exact pW_and (S _ _ _ ea _ _ _ _ ok) (cTAnd_ok S ok eb)
theorem cTOr_ok {pd : PD} {t : Ctx → Expr → Option CT} (S : SoundT pd t) {x : Ctx} {p : Pos} {g : GE} {W : WX} {X : Cx} {cf : CF} (ok : XOk g pd x W cf X) : ∀ {es : List Expr} {r : CT}, cTOr t x es = some r → PW X (.BoolOp .Or es p) (TT' g W (r cf))
  | [], _, h => by cases h
  | [a], _, h => pw_or1 (S _ _ _ h _ _ _ _ ok)
  | a :: b :: es, r, h => by
    unfold cTOr at h
    split at h <;> try cases h
    rename_i fa ea
    split at h <;> try cases h
    rename_i fb eb
    exact pW_or (S _ _ _ ea _ _ _ _ ok) (cTOr_ok S ok eb)
def cTCmp (c : Ctx → Expr → Option CE) (x : Ctx) (a : Expr) (ops : List CmpOp) (bs : List Expr) : Option CT := match cCmp c x a ops bs with
  | some f => some fun cf => tBl (f cf)
  | none => none
theorem cTCmp_ok {pd : PD} {c : Ctx → Expr → Option CE} (S : SoundE pd c) {x : Ctx} {a : Expr} {ops : List CmpOp} {bs : List Expr} {p : Pos} {r : CT} (h : cTCmp c x a ops bs = some r) {g : GE} {W : WX} {X : Cx} {cf : CF} (ok : XOk g pd x W cf X) : PT X (.Compare a ops bs p) (TT' g W (r cf)) := by
  unfold cTCmp at h
  split at h <;> try cases h
  rename_i f ef
  unfold cCmp at ef
  split at ef
  · rename_i op b
    split at ef <;> try cases ef
    rename_i hm
    split at ef <;> try cases ef
    rename_i fa ea
    split at ef <;> try cases ef
    rename_i fb eb
    exact pT_cmp (opC_ok ok.C) (S _ _ _ ea _ _ _ _ ok) (S _ _ _ eb _ _ _ _ ok) hm
  · rename_i op op' b d
    split at ef <;> try cases ef
    rename_i hm
    split at ef <;> try cases ef
    rename_i fa ea
    split at ef <;> try cases ef
    rename_i fb eb
    split at ef <;> try cases ef
    rename_i fd ed
    exact pT_chain (opC_ok ok.C) (opC_ok ok.C) (S _ _ _ ea _ _ _ _ ok) (S _ _ _ eb _ _ _ _ ok) (S _ _ _ ed _ _ _ _ ok) hm
  · cases ef
def stepT (k : CC) (x : Ctx) (e : Expr) : Option CT := match e with
  | .UnaryOp .Not a _ => match k.t x a with
    | some f => some fun cf => tNo (f cf)
    | none => none
  | .BoolOp .And es _ => cTAnd k.t x es
  | .BoolOp .Or es _ => cTOr k.t x es
  | .Compare a ops bs _ => cTCmp k.e x a ops bs
  | e => match truE e with
    | true => match k.e x e with
      | some f => some fun cf => tTru (f cf)
      | none => none
    | false => none
theorem stepT_ok {pd : PD} {k : CC} (S : Sound pd k) : SoundT pd (stepT k) := by
  intro x e r h g W X cf ok
  unfold stepT at h
  split at h
  · split at h <;> try cases h
    rename_i f ef
    exact pT_not (S.t _ _ _ ef _ _ _ _ ok)
  · exact (cTAnd_ok S.t ok h).pt
  · exact (cTOr_ok S.t ok h).pt
  · exact cTCmp_ok S.e h ok
  · split at h <;> try cases h
    rename_i ht
    split at h <;> try cases h
    rename_i f ef
    exact pT_tru ok.C.K (S.e _ _ _ ef _ _ _ _ ok) (truE_ok ht)
/-! ### targets -/
def cGs (f : Expr → Option (FG × List Nat)) : List Expr → Option (FGs × List Nat)
  | [] => some (gsNil, [])
  | e :: r => match plainE e with
    | true => match f e with
      | some (a, s1) => match cGs f r with
        | some (b, s2) => some (gsCons a b, s1 ++ s2)
        | none => none
      | none => none
    | false => none
def cG : Nat → Ctx → Expr → Option (FG × List Nat)
  | 0, _, _ => none
  | n + 1, x, e => match e with
    | .Name y _ => match isAsg x y with
      | true => match ixOf x.N y with
        | some i => frcN i fun i => some (gN i, [i])
        | none => none
      | false => none
    | .Tuple es _ _ => match cGs (cG n x) es with
      | some (f, s) => frcN es.length fun l => some (gT l f, s)
      | none => none
    | _ => none
theorem cGs_ok {g : GE} {X : Cx} {f : Expr → Option (FG × List Nat)} (S : ∀ e a s, f e = some (a, s) → PG X e (TG' g s a)) : ∀ {es : List Expr} {a : FGs} {s : List Nat}, cGs f es = some (a, s) → PGs X es (TGs' g s a) ∧ es.all plainE = true
  | [], _, _, h => by cases h; exact ⟨pGs_nil, rfl⟩
  | e :: es, _, _, h => by
    rw [cGs] at h
    split at h <;> try cases h
    rename_i hp
    split at h <;> try cases h
    rename_i a s1 ea
    split at h <;> try cases h
    rename_i b s2 eb
    obtain ⟨i1, i2⟩ := cGs_ok S eb
    exact ⟨pGs_cons (S _ _ _ ea) i1 hp, by rw [List.all_cons, hp, i2]; rfl⟩
theorem cG_ok {pd : PD} {g : GE} {W : WX} {cf : CF} {X : Cx} {x : Ctx} (ok : XOk g pd x W cf X) : ∀ (n : Nat) (e : Expr) (a : FG) (s : List Nat), cG n x e = some (a, s) → PG X e (TG' g s a)
  | 0, _, _, _, h => by cases h
  | n + 1, e, a, s, h => by
    unfold cG at h
    simp only [frcN_eq] at h
    split at h
    · split at h <;> try cases h
      rename_i ha
      split at h <;> try cases h
      rename_i i ei
      exact pG_name ok.C.nd (by rw [ok.N]; exact ixOf_get ei) (isAsg_ok ok ha)
    · split at h <;> try cases h
      rename_i f s ef
      obtain ⟨i1, i2⟩ := cGs_ok (fun e a s h => cG_ok ok n e a s h) ef
      exact pG_tup ok.C.K ok.C.calm i1 i2
    · cases h
/-! ### what a loop goes through -/
def isTupE : Expr → Bool
  | .Tuple .. => true
  | _ => false
theorem isTupE_ok {e : Expr} (h : isTupE e = true) : ∃ es k p, e = .Tuple es k p := by
  cases e <;> first | exact ⟨_, _, _, rfl⟩ | cases h
def mapI (o : Option CL) (f : FL → FI) : Option CI := match o with
  | some a => some fun cf => f (a cf)
  | none => none
inductive IK where
  | rng | enm | zip
def iTab : List (Str × IK) := [("range", .rng), ("enumerate", .enm), ("zip", .zip)]
def cI (c : Ctx → Expr → Option CE) (x : Ctx) (tg e : Expr) : Option CI := match noSet e with
  | false => none
  | true => match e with
    | .Call (.Name f _) es [] _ => match isBt x f "range" && es.all plainE with
      | true => match es with
        | [a] => mapI (cA c x [a]) xRng1
        | [a, b] => mapI (cA c x [a, b]) xRng2
        | [a, b, d] => mapI (cA c x [a, b, d]) xRng3
        | _ => none
      | false => match isBt x f "enumerate" && es.all plainE && isTupE tg with
        | true => match es with
          | [a] => mapI (cA c x [a]) xEnum
          | _ => none
        | false => match isBt x f "zip" && es.all plainE && isTupE tg with
          | true => match es with
            | [a, b] => mapI (cA c x [a, b]) xZip2
            | [a, b, d] => mapI (cA c x [a, b, d]) xZip3
            | _ => none
          | false => match c x e with
            | some f => some fun cf => xSeq (f cf)
            | none => none
    | e => match c x e with
      | some f => some fun cf => xSeq (f cf)
      | none => none
theorem cI_ok {pd : PD} {c : Ctx → Expr → Option CE} (S : SoundE pd c) : SoundI pd (cI c) := by
  intro x tg e r h g W X cf ok
  unfold cI at h
  split at h
  · cases h
  · rename_i hns
    refine ⟨?_, fun env => noset_ok hns⟩
    split at h
    · rename_i f p es pos
      split at h
      · rename_i hb
        rw [Bool.and_eq_true] at hb
        obtain ⟨rfl, g1, g2⟩ := isBt_ok ok (by decide +kernel) hb.1
        split at h <;> try cases h
        · unfold mapI at h
          split at h <;> try cases h
          rename_i fl el
          simp only [List.all_cons, List.all_nil, Bool.and_true] at hb
          exact pi_rng1 g1 g2 (cA_ok S ok el) (by rw [star1 hb.2]; rfl)
        · unfold mapI at h
          split at h <;> try cases h
          rename_i fl el
          simp only [List.all_cons, List.all_nil, Bool.and_true, Bool.and_eq_true] at hb
          exact pi_rng2 g1 g2 (cA_ok S ok el) (by rw [star1 hb.2.1, star1 hb.2.2]; rfl) (by rw [star1 hb.2.2]; rfl)
        · unfold mapI at h
          split at h <;> try cases h
          rename_i fl el
          simp only [List.all_cons, List.all_nil, Bool.and_true, Bool.and_eq_true] at hb
          exact pi_rng3 g1 g2 (cA_ok S ok el) (by rw [star1 hb.2.1]) (star_none (by simp [hb.2.2.1, hb.2.2.2]))
      · split at h
        · rename_i hb
          simp only [Bool.and_eq_true] at hb
          obtain ⟨rfl, g1, g2⟩ := isBt_ok ok (by decide +kernel) hb.1.1
          obtain ⟨ts, k, tp, rfl⟩ := isTupE_ok hb.2
          split at h <;> try cases h
          unfold mapI at h
          split at h <;> try cases h
          rename_i fl el
          simp only [List.all_cons, List.all_nil, Bool.and_true] at hb
          exact pi_enumD ok.C g1 g2 (cA_ok S ok el) (by rw [star1 hb.1.2]; rfl)
        · split at h
          · rename_i hb
            simp only [Bool.and_eq_true] at hb
            obtain ⟨rfl, g1, g2⟩ := isBt_ok ok (by decide +kernel) hb.1.1
            obtain ⟨ts, k, tp, rfl⟩ := isTupE_ok hb.2
            split at h <;> try cases h
            · unfold mapI at h
              split at h <;> try cases h
              rename_i fl el
              simp only [List.all_cons, List.all_nil, Bool.and_true, Bool.and_eq_true] at hb
              exact pi_zip2D ok.C g1 g2 (cA_ok S ok el) (by rw [star1 hb.1.2.1]) (star_none (by simp [hb.1.2.2]))
            · unfold mapI at h
              split at h <;> try cases h
              rename_i fl el
              simp only [List.all_cons, List.all_nil, Bool.and_true, Bool.and_eq_true] at hb
              exact pi_zip3D ok.C g1 g2 (cA_ok S ok el) (by rw [star1 hb.1.2.1]) (star_none (by simp [hb.1.2.2.1, hb.1.2.2.2]))
          · split at h <;> try cases h
            rename_i f ef
            exact pi_seq ok.C (S _ _ _ ef _ _ _ _ ok)
    · split at h <;> try cases h
      rename_i f ef
      exact pi_seq ok.C (S _ _ _ ef _ _ _ _ ok)
/-! ### comprehensions -/
def ownOf (N : List Str) : List (Str × NameKind) → List (Str × Nat)
  | [] => []
  | (y, k) :: r => match k with
    | .local => match ixOf N y with
      | some i => (y, i) :: ownOf N r
      | none => ownOf N r
    | .cell => match ixOf N y with
      | some i => (y, i) :: ownOf N r
      | none => ownOf N r
    | _ => ownOf N r
def blkX (x : Ctx) (scope : Scope) : Ctx := ⟨x.N, relS scope x.sc, fun y => scope.names.lookup y == some .cell, false⟩
theorem fn1_blk {g : GE} {X Y : Cx} {i : Nat} {ps : List Str} {r : List D → LH → Rs D} (h : Fn1 g X i ps r) (e1 : Y.prog = X.prog) (e2 : Y.w = X.w) (e3 : Y.K = X.K) (e4 : Y.mg = X.mg) (e5 : Y.base = X.base) (e6 : Y.A = X.A) : Fn1 g Y i ps r := by
  obtain ⟨h1, h2, h3⟩ := h
  exact ⟨by rw [e1, e2, e3, e4, e5, e6]; exact h1, h2, by rw [e3]; exact h3⟩
theorem fok_same {g : GE} {X Y : Cx} {tab : Nat → Option (List Str)} {cf : CF} (h : Fok g X tab cf) (e1 : Y.prog = X.prog) (e2 : Y.w = X.w) (e3 : Y.K = X.K) (e4 : Y.mg = X.mg) (e5 : Y.base = X.base) (e6 : Y.A = X.A) : Fok g Y tab cf :=
  ⟨fun i => by rw [e3]; exact h.kp i, fun i ds L hb => by
    obtain ⟨ps, h1, h2, h3⟩ := h.fn i ds L hb
    exact ⟨ps, h1, h2, fn1_blk h3 e1 e2 e3 e4 e5 e6⟩⟩
theorem mkx_same {g : GE} {X Y : Cx} {base : Nat → Option String} {own : Nat → Option Bool} (h : MkX g X base own) (e1 : Y.prog = X.prog) (e2 : Y.w = X.w) (e3 : Y.K = X.K) (e4 : Y.mg = X.mg) (e5 : Y.base = X.base) (e6 : Y.A = X.A) : MkX g Y base own := by
  obtain ⟨h1, h2⟩ := h
  refine ⟨fun c hc => ?_, fun c hc => ?_⟩
  · obtain ⟨z1, z2, z3⟩ := h1 c hc
    rw [e3]
    refine ⟨z1, z2, fun M h k => z3 M h (by rw [← e3]; exact k)⟩
  · rw [e1, e2, e3, e4, e5, e6]
    exact h2 c hc
theorem xok_blk {g : GE} {pd : PD} {x : Ctx} {W : WX} {cf : CF} {X : Cx} (ok : XOk g pd x W cf X) {scope : Scope} (hk : (relS scope x.sc).kind = .function) (s : Shared) (H : Hp) (C : Addr) (cl : List (Str × Addr)) (fp : List Addr) :
    XOk g pd (blkX x scope) W0 cf (X.blk s H scope (compEnvC scope cl C X.env) fp) where
  C := cz_blk ok.C
  N := ok.N
  sc := by show relS scope X.env.scope = _; rw [ok.sc]; rfl
  fn := fun y h => h
  F := fok_same ok.F rfl rfl rfl rfl rfl rfl
  gl := ok.gl
  bt := ok.bt
  G := ok.G
  mx := mkx_same ok.mx rfl rfl rfl rfl rfl rfl
  tp := fun z => by cases z
  kd := hk
def cTs (t : Ctx → Expr → Option CT) (x : Ctx) : List Expr → Option CT
  | [] => some fun _ => tYes
  | [a] => t x a
  | _ => none
theorem cTs_ok {pd : PD} {t : Ctx → Expr → Option CT} (S : SoundT pd t) {x : Ctx} {es : List Expr} {r : CT} (h : cTs t x es = some r) {g : GE} {W : WX} {X : Cx} {cf : CF} (ok : XOk g pd x W cf X) : PTs X es (TT' g W (r cf)) := by
  unfold cTs at h
  split at h
  · cases h; exact pTs_nil
  · exact pTs_one (S _ _ _ h _ _ _ _ ok)
  · cases h
def subL (a b : List Nat) : Bool := a.all fun i => b.any fun j => i.beq j
theorem subL_ok {a b : List Nat} (h : subL a b = true) : ∀ j ∈ a, j ∈ b := by
  intro j hj
  have q := List.all_eq_true.mp h j hj
  obtain ⟨i, hi, e⟩ := List.any_eq_true.mp q
  rw [Nat.eq_of_beq_eq_true e]
  exact hi
def frcNs {R : Type} : List Nat → (List Nat → R) → R
  | [], k => k []
  | i :: r, k => frcN i fun j => frcNs r fun s => k (j :: s)
theorem frcNs_eq {R : Type} : ∀ (l : List Nat) (k : List Nat → R), frcNs l k = k l
  | [], k => rfl
  | i :: r, k => by rw [frcNs, frcN_eq, frcNs_eq r]
structure LcP where
  i : CI
  g : FG
  own : List Nat
  t : CT
  e : CE
def cLc (k : CC) (x : Ctx) (elt tg iter : Expr) (ifs : List Expr) (scope : Scope) : Option LcP := match cI k.e x tg iter with
  | some fi => match blkC x.N x.sc scope (ownOf x.N scope.names) with
    | true => match (relS scope x.sc).kind with
      | .function => match cG 6 (blkX x scope) tg with
        | some (fg, sl) => match subL sl ((ownOf x.N scope.names).map (·.2)) with
          | true => match cTs k.t (blkX x scope) ifs with
            | some ft => match k.e (blkX x scope) elt with
              | some fe => frcNs ((ownOf x.N scope.names).map (·.2)) fun own => some ⟨fi, fg, own, ft, fe⟩
              | none => none
            | none => none
          | false => none
        | none => none
      | _ => none
    | false => none
  | none => none
def LcP.f (p : LcP) : CE := fun cf => xLc (p.i cf) p.g p.own (p.t cf) (p.e cf)
theorem cLc_ok {pd : PD} {k : CC} (S : Sound pd k) {x : Ctx} {elt tg iter : Expr} {ifs : List Expr} {scope : Scope} {pos : Pos} {r : LcP} (h : cLc k x elt tg iter ifs scope = some r) {g : GE} {W : WX} {X : Cx} {cf : CF} (ok : XOk g pd x W cf X) :
    PE X (.ListComp elt [⟨tg, iter, ifs, 0⟩] scope pos) (TE' g W (r.f cf)) ∧ ∀ {i : Nat} {y : Str} {py spos : Pos}, X.N[i]? = some y → X.env.scope.names.lookup y = some .local → swapsWith (.ListComp elt [⟨tg, iter, ifs, 0⟩] scope pos) (some (.Name y py)) spos.line X.env = pure true →
      PS X (.Assign [.Name y py] (.ListComp elt [⟨tg, iter, ifs, 0⟩] scope pos) spos) (TS' g W (sAsg i (r.f cf))) := by
  unfold cLc at h
  simp only [frcNs_eq] at h
  split at h <;> try cases h
  rename_i fi ei
  split at h <;> try cases h
  rename_i hb
  split at h <;> try cases h
  rename_i hk
  split at h <;> try cases h
  rename_i fg sl eg
  split at h <;> try cases h
  rename_i hs
  split at h <;> try cases h
  rename_i ft et
  split at h <;> try cases h
  rename_i fe ee
  have bo := blkOk_by hb
  rw [← ok.N, ← ok.sc] at bo
  have blk := fun s H C cl fp => xok_blk (scope := scope) ok hk s H C cl fp
  obtain ⟨i1, i2⟩ := cI_ok S.e _ _ _ _ ei _ _ _ _ ok
  have hgg := fun s H C cl fp => cG_ok (blk s H C cl fp) 6 tg fg sl eg
  have htt := fun s H C cl fp => cTs_ok S.t et (blk s H C cl fp)
  have hee := fun s H C cl fp => S.e _ _ _ ee _ _ _ _ (blk s H C cl fp)
  have su := subL_ok hs
  rw [← ok.N] at su
  unfold LcP.f
  dsimp only
  rw [← ok.N]
  exact ⟨pE_lc ok.C i1 bo su hgg htt hee (i2 _), fun hy hl hw => pS_setLc ok.C hy hl hw i1 bo su hgg htt hee (i2 _)⟩
def stepE (pd : PD) (k : CC) (x : Ctx) (e : Expr) : Option CE := match e with
  | .Name y _ => cName pd x y
  | .Constant v _ _ => cConst v
  | .BinOp a op b _ => cBin op (k.e x a) (k.e x b)
  | .UnaryOp op a _ => cUn op (k.e x a)
  | .IfExp t a b _ => cIf (k.t x t) (k.e x a) (k.e x b)
  | .Compare a ops bs _ => cCmp k.e x a ops bs
  | .BoolOp .Or es _ => cOr k.e x es
  | .BoolOp .And es _ => cAnd k.e x es
  | .Tuple es _ _ => match cA k.e x es with
    | some f => some fun cf => xTup (f cf)
    | none => none
  | .List es _ => match cA k.e x es with
    | some f => some fun cf => xLst (f cf)
    | none => none
  | .Subscript a b _ => cSub k.e x a b
  | .Call f es kws p => cCall pd k.e x f es kws p
  | .ListComp elt [⟨tg, iter, ifs, 0⟩] scope _ => match cLc k x elt tg iter ifs scope with
    | some p => let i := p.i; some p.f
    | none => none
  | _ => none
theorem stepE_ok {pd : PD} {k : CC} (S : Sound pd k) : SoundE pd (stepE pd k) := by
  intro x e r h g W X cf ok
  unfold stepE at h
  split at h
  · exact cName_ok h ok
  · exact cConst_ok h
  · unfold cBin at h
    split at h <;> try cases h
    rename_i F eF
    split at h <;> try cases h
    rename_i fa ea
    split at h <;> try cases h
    rename_i fb eb
    exact pE_bin (opB_ok eF ok.C) (S.e _ _ _ ea _ _ _ _ ok) (S.e _ _ _ eb _ _ _ _ ok)
  · unfold cUn at h
    split at h <;> try cases h
    · split at h <;> try cases h
      rename_i fa ea
      exact pE_not ok.C.K (S.e _ _ _ ea _ _ _ _ ok)
    · split at h <;> try cases h
      rename_i fa ea
      exact pE_un ud_neg (S.e _ _ _ ea _ _ _ _ ok)
  · unfold cIf at h
    split at h <;> try cases h
    rename_i ft et
    split at h <;> try cases h
    rename_i fa ea
    split at h <;> try cases h
    rename_i fb eb
    exact pE_if (S.t _ _ _ et _ _ _ _ ok) (S.e _ _ _ ea _ _ _ _ ok) (S.e _ _ _ eb _ _ _ _ ok)
  · exact cCmp_ok S.e h ok
  · exact cOr_ok S.e ok h
  · exact cAnd_ok S.e ok h
  · split at h <;> try cases h
    rename_i f ef
    exact pE_tup (cA_ok S.e ok ef)
  · split at h <;> try cases h
    rename_i f ef
    exact pE_lst (cA_ok S.e ok ef)
  · exact cSub_ok S.e h ok
  · exact cCall_ok S.e h ok
  · split at h <;> try cases h
    rename_i p ep
    exact (cLc_ok S ep ok).1
  · cases h
def comp (pd : PD) : Nat → CC := Nat.rec ⟨fun _ _ => none, fun _ _ => none⟩ fun _ k => ⟨stepE pd k, stepT k⟩
theorem comp_ok (pd : PD) : ∀ n, Sound pd (comp pd n)
  | 0 => ⟨fun _ _ _ h => (nomatch h), fun _ _ _ h => (nomatch h)⟩
  | n + 1 => ⟨stepE_ok (comp_ok pd n), stepT_ok (comp_ok pd n)⟩
end FC
end

section
namespace FC
open PySem PySem.Spec PyProof.Rows L2

def sBad : FS := fun _ _ => .bad
theorem pSs_bad {g : GE} {W : WX} {X : Cx} {b : List Stmt} : PSs X b (TS' g W sBad) := ⟨fun pins s σ H D I h => by
  obtain ⟨m, L, δ, R, S, h⟩ := h
  exact h.elim⟩
def SoundS (pd : PD) (f : Ctx → List Stmt → Option CS) : Prop := ∀ x b r, f x b = some r → ∀ g W X cf, XOk g pd x W cf X → PSs X b (TS' g W (r cf))
def SoundSt (pd : PD) (f : Ctx → Stmt → Option CS) : Prop := ∀ x b r, f x b = some r → ∀ g W X cf, XOk g pd x W cf X → PS X b (TS' g W (r cf))
def cSs (f : Stmt → Option CS) : List Stmt → Option CS
  | [] => some fun _ => sNx
  | [st] => match f st with
    | some a => some fun cf => a cf
    | none => some fun _ => sBad
  | st :: r => match f st with
    | some a => match cSs f r with
      | some b => some fun cf => sSeq (a cf) (b cf)
      | none => none
    | none => some fun _ => sBad
theorem seq_nx {g : GE} {W : WX} {D : Ends} {a : FS} {δ : Sl} {L : LH} {m : M} {H : Hp} (h : TSP g W D (a δ L) m L H) : TSP g W D (sSeq a sNx δ L) m L H := by
  unfold sSeq
  revert h
  generalize a δ L = r
  intro h
  cases r with
  | go f δ' L' => cases f <;> exact h
  | ex x δ' L' => exact h
  | bad => exact h
theorem cSs_ok {pd : PD} {f : Ctx → Stmt → Option CS} (S : SoundSt pd f) : SoundS pd fun x => cSs (f x) := by
  intro x b
  induction b with
  | nil => intro r h g W X cf ok; cases h; exact pSs_nil
  | cons st b ih =>
    intro r h g W X cf ok
    cases b with
    | nil =>
      dsimp only at h
      rw [cSs] at h
      split at h
      · rename_i a ea
        cases h
        refine (pSs_cons (S _ _ _ ea _ _ _ _ ok) pSs_nil).imp fun D σ H h => ?_
        obtain ⟨m, L, δ, R, S', h⟩ := h
        exact ⟨m, L, δ, R, S', seq_nx h⟩
      · cases h; exact pSs_bad
    | cons st2 b =>
      dsimp only at h
      rw [cSs] at h
      · split at h
        · rename_i a ea
          split at h <;> try cases h
          rename_i b' eb
          exact pSs_cons (S _ _ _ ea _ _ _ _ ok) (ih _ eb _ _ _ _ ok)
        · cases h; exact pSs_bad
      · intro z; cases z
/-! ### raise -/
def clsOf (pd : PD) (x : Ctx) (y : Str) : Option Nat := match isGl x y && !badName y with
  | true => match pd.gl.lookup y with
    | some (.cls c) => some c
    | _ => none
  | false => none
theorem clsOf_ok {pd : PD} {x : Ctx} {y : Str} {c : Nat} (h : clsOf pd x y = some c) {g : GE} {W : WX} {X : Cx} {cf : CF} (ok : XOk g pd x W cf X) : Gl X y ∧ X.mg y = some (.ref (g.ca c)) ∧ (y == ("__debug__" : Str)) = false := by
  unfold clsOf at h
  split at h <;> try cases h
  rename_i hc
  simp only [Bool.and_eq_true, Bool.not_eq_true'] at hc
  split at h <;> try cases h
  rename_i ec
  obtain ⟨u, h1, h2⟩ := ok.gl y _ ec
  obtain rfl : u = Value.ref (g.ca c) := h2
  exact ⟨isGl_ok ok hc.1, h1, (badName_no hc.2).1⟩
def cRaise (pd : PD) (k : CC) (x : Ctx) : Expr → Option CS
  | .Call (.Name y _) [] [] _ => match clsOf pd x y with
    | some c => match pd.own[c]? with
      | some false => frcN c fun c => some fun _ => sRaise0 c
      | _ => none
    | none => none
  | .Call (.Name y _) (e :: es) [] _ => match clsOf pd x y with
    | some c => match pd.own[c]? with
      | some true => match (e :: es).all plainE with
        | true => match cA k.e x (e :: es) with
          | some fl => frcN c fun c => some fun cf => sRaise1 c (fl cf)
          | none => none
        | false => none
      | _ => none
    | none => none
  | _ => none
theorem cRaise_ok {pd : PD} {k : CC} (S : Sound pd k) {x : Ctx} {e : Expr} {pos : Pos} {r : CS} (h : cRaise pd k x e = some r) {g : GE} {W : WX} {X : Cx} {cf : CF} (ok : XOk g pd x W cf X) : PS X (.Raise (some e) none pos) (TS' g W (r cf)) := by
  unfold cRaise at h
  simp only [frcN_eq] at h
  split at h
  · split at h <;> try cases h
    rename_i c ec
    split at h <;> try cases h
    rename_i eo
    obtain ⟨g1, g2, g3⟩ := clsOf_ok ec ok
    obtain ⟨⟨bmB, B, newId, initId, F, q⟩, z2, z3⟩ := ok.mx.zero c eo
    exact pS_raise0 ok.C F q g2 z2 z3 g1 g3
  · split at h <;> try cases h
    rename_i c ec
    split at h <;> try cases h
    rename_i eo
    split at h <;> try cases h
    rename_i hp
    split at h <;> try cases h
    rename_i fl el
    obtain ⟨g1, g2, g3⟩ := clsOf_ok ec ok
    obtain ⟨fI, k, fd, ps, T, fo, iC, tI, F1, hr, hb⟩ := ok.mx.one c eo
    exact pS_raise1 ok.C T fo iC tI F1 hr hb g1 g2 (cA_ok S.e ok el) g3 hp
  · cases h
/-! ### except suites -/
abbrev Nm := Option (Str × Nat)
def isNm (nm : Nm) (y : Str) : Bool := match nm with
  | some (n, _) => decide (y = n)
  | none => false
def cD : Const → Option D
  | .none => some .non
  | .bool b => some (.bl b)
  | .int i => some (.int i)
  | .str x => some (.str x)
  | _ => none
def exTab : List (Str × String) := [("ValueError", "ValueError"), ("LookupError", "LookupError")]
theorem exTab_ok : ∀ e ∈ exTab, e.1 = Str.ofString e.2 ∧ bootBuiltins (Str.ofString e.2) = some (.type e.2) ∧ Str.ofString e.2 ∈ bNames ∧ Str.ofString e.2 ≠ Str.ofString "__name__" ∧ (Str.ofString e.2 == Str.ofString "__debug__") = false := by
  unfold exTab
  simp only [List.forall_mem_cons]
  refine ⟨?_, ?_, by simp⟩ <;> exact ⟨by trivial, by decide +kernel, by decide +kernel, by decide, by decide⟩
def cIt (x : Ctx) (nm : Nm) : Expr → Option SIt
  | .Constant v _ _ => match cD v with
    | some d => some (.c d)
    | none => none
  | .Attribute (.Name y _) m _ => match isNm nm y && decide (m = "number") with
    | true => some .num
    | false => none
  | .Call (.Name f _) [.Name y _, .Name t _] [] _ => match isBt x f "isinstance" && isNm nm y && isGl x t with
    | true => match lookB exTab t with
      | some T => some (.isi T)
      | none => none
    | false => none
  | _ => none
/-- the slot of the clause's name -/
def nmO : Nm → Option Nat
  | some (_, i) => some i
  | none => none
structure NmOk (X : Cx) (nm : Nm) : Prop where
  ok : ∀ n i, nm = some (n, i) → X.N[i]? = some n ∧ X.env.scope.names.lookup n = some .local ∧ (n == ("__debug__" : Str)) = false ∧ (n == ("__classdict__" : Str)) = false
theorem isNm_ok {X : Cx} {nm : Nm} {y : Str} (o : NmOk X nm) (h : isNm nm y = true) : ∃ i, nmO nm = some i ∧ X.N[i]? = some y ∧ X.env.scope.names.lookup y = some .local ∧ (y == ("__debug__" : Str)) = false ∧ (y == ("__classdict__" : Str)) = false := by
  unfold isNm at h
  split at h
  · rename_i n i
    have e := of_decide_eq_true h
    subst e
    obtain ⟨h1, h2, h3, h4⟩ := o.ok _ _ rfl
    exact ⟨i, rfl, h1, h2, h3, h4⟩
  · cases h
section
variable {g : GE} {pd : PD} {x : Ctx} {W : WX} {cf : CF} {X : Cx} {nm : Nm} {a : Addr} {oe : Obj} {cls : Value} {d : Option Addr} {pn : List (Addr × Obj)}
theorem cIt_ok (ok : XOk g pd x W cf X) (no : NmOk X nm) (hz : Zc cls d oe) (hf : ∃ vs, oe.data = .fields vs) {e : Expr} {it : SIt} (h : cIt x nm e = some it) : PE (X.suite a ((a, oe) :: pn)) e (tIt g (fun i => (pd.base[i]?).join) cls d a (nmO nm) it) := by
  unfold cIt at h
  split at h
  · split at h <;> try cases h
    rename_i v _ _ dv ed
    unfold cD at ed
    split at ed <;> cases ed
    · exact pe_itC pe_non fun _ _ => .non
    · exact pe_itC pe_bl fun _ _ => .bl _
    · exact pe_itC pe_int fun _ _ => .int _
    · exact pe_itC pe_str fun _ _ => .str _
  · split at h <;> try cases h
    rename_i hc
    rw [Bool.and_eq_true] at hc
    obtain ⟨i, h1, h2, h3, h4, h5⟩ := isNm_ok no hc.1
    have e := of_decide_eq_true hc.2
    subst e
    exact pe_itN ok.G ok.C.K hz hf h1 h2 (.inl h3) h4 h5 (attrBase rfl)
  · split at h <;> try cases h
    rename_i hc
    simp only [Bool.and_eq_true] at hc
    split at h <;> try cases h
    rename_i T eT
    obtain ⟨rfl, g1, g2⟩ := isBt_ok ok (by decide +kernel) hc.1.1
    obtain ⟨i, h1, h2, h3, h4, h5⟩ := isNm_ok no hc.1.2
    obtain ⟨q1, q2, q3, q4, q5⟩ := exTab_ok _ (lookB_mem eT)
    dsimp only at q1 q2 q3 q4 q5
    subst q1
    exact pe_itI ok.G ok.C.K hz h1 h2 (.inl h3) h4 h5 g1 g2 (isGl_ok ok hc.2) (ok.bt _ q3) q2 q4 q5
  · cases h
def cIts (x : Ctx) (nm : Nm) : List Expr → Option (List SIt)
  | [] => some []
  | e :: r => match plainE e with
    | true => match cIt x nm e with
      | some i => match cIts x nm r with
        | some is => some (i :: is)
        | none => none
      | none => none
    | false => none
theorem cIts_ok (ok : XOk g pd x W cf X) (no : NmOk X nm) (hz : Zc cls d oe) (hf : ∃ vs, oe.data = .fields vs) : ∀ {es : List Expr} {its : List SIt}, cIts x nm es = some its → PA (X.suite a ((a, oe) :: pn)) es (tIts g (fun i => (pd.base[i]?).join) cls d a (nmO nm) its)
  | [], _, h => by cases h; exact pa_its0
  | e :: es, _, h => by
    rw [cIts] at h
    split at h <;> try cases h
    rename_i hp
    split at h <;> try cases h
    rename_i i ei
    split at h <;> try cases h
    rename_i is eis
    exact pa_its (cIt_ok ok no hz hf ei) (cIts_ok ok no hz hf eis) hp
def cSE (x : Ctx) (nm : Nm) : Expr → Option SE
  | .Tuple es _ _ => match cIts x nm es with
    | some l => some (.tup l)
    | none => none
  | .List es _ => match cIts x nm es with
    | some l => some (.lst l)
    | none => none
  | e => match cIt x nm e with
    | some i => some (.one i)
    | none => none
theorem cSE_ok (ok : XOk g pd x W cf X) (no : NmOk X nm) (hz : Zc cls d oe) (hf : ∃ vs, oe.data = .fields vs) {e : Expr} {s : SE} (h : cSE x nm e = some s) : PE (X.suite a ((a, oe) :: pn)) e (tSE g (fun i => (pd.base[i]?).join) cls d a (nmO nm) s) := by
  unfold cSE at h
  split at h
  · split at h <;> try cases h
    rename_i l el
    exact pe_tupS (cIts_ok ok no hz hf el)
  · split at h <;> try cases h
    rename_i l el
    exact pe_lstS (cIts_ok ok no hz hf el)
  · split at h <;> try cases h
    rename_i i ei
    exact pe_one (cIt_ok ok no hz hf ei)
def cSS (x : Ctx) (nm : Nm) : List Stmt → Option SS
  | [.Pass _] => some .pass
  | [.Return (some e) _] => match cSE x nm e with
    | some s => some (.ret s)
    | none => none
  | [.Assign [.Name y _] e _] => match cSE x nm e with
    | some s => match isAsg x y && noComp e with
      | true => match ixOf x.N y with
        | some i => frcN i fun i => some (.asg i s)
        | none => none
      | false => none
    | none => none
  | _ => none
theorem cSS_ok (ok : XOk g pd x W cf X) (no : NmOk X nm) {b : List Stmt} {s : SS} (h : cSS x nm b = some s) : ∃ st r, b = st :: r ∧ ∀ (a : Addr) (oe : Obj) (cls : Value) (d : Option Addr) (pn : List (Addr × Obj)), Zc cls d oe → (∃ vs, oe.data = .fields vs) →
    PSs (X.suite a ((a, oe) :: pn)) (st :: r) (tSS g (fun i => (pd.base[i]?).join) (nmO nm) s a cls d) := by
  unfold cSS at h
  simp only [frcN_eq] at h
  split at h
  · cases h
    exact ⟨_, _, rfl, fun a oe cls d pn hz hf => ps_ssP⟩
  · split at h <;> try cases h
    rename_i e _ s es
    exact ⟨_, _, rfl, fun a oe cls d pn hz hf => ps_ssR (cSE_ok ok no hz hf es)⟩
  · split at h <;> try cases h
    rename_i s es
    split at h <;> try cases h
    rename_i hc
    rw [Bool.and_eq_true] at hc
    split at h <;> try cases h
    rename_i i ei
    exact ⟨_, _, rfl, fun a oe cls d pn hz hf => ps_ssA ok.C.nd (by rw [ok.N]; exact ixOf_get ei) (isAsg_ok ok hc.1) (cSE_ok ok no hz hf es) (nocomp_sw hc.2)⟩
  · cases h
def cNm (x : Ctx) : Option Str → Option Nm
  | none => some none
  | some n => match isLoc x n && !badName n with
    | true => match ixOf x.N n with
      | some i => frcN i fun i => some (some (n, i))
      | none => none
    | false => none
def cH (pd : PD) (x : Ctx) : ExceptHandler → Option HD
  | .ExceptHandler (some (.Name y _)) n b _ => match clsOf pd x y with
    | some c => match cNm x n with
      | some nm => match cSS x nm b with
        | some s => frcN c fun c => some ⟨c, nmO nm, s⟩
        | none => none
      | none => none
    | none => none
  | _ => none
def cHs (pd : PD) (x : Ctx) : List ExceptHandler → Option (List HD)
  | [] => some []
  | h :: r => match cH pd x h with
    | some a => match cHs pd x r with
      | some b => some (a :: b)
      | none => none
    | none => none
theorem cHs_ok (ok : XOk g pd x W cf X) : ∀ {hs : List ExceptHandler} {l : List HD}, cHs pd x hs = some l → HdA X hs (l.map (hdl g fun i => (pd.base[i]?).join))
  | [], _, h => by cases h; exact .nil
  | h0 :: hs, _, h => by
    rw [cHs] at h
    split at h <;> try cases h
    rename_i a ea
    split at h <;> try cases h
    rename_i b eb
    have ih := cHs_ok ok eb
    unfold cH at ea
    simp only [frcN_eq] at ea
    split at ea <;> try cases ea
    rename_i y py n bd p2
    split at ea <;> try cases ea
    rename_i c ec
    split at ea <;> try cases ea
    rename_i nm enm
    split at ea <;> try cases ea
    rename_i s es
    obtain ⟨g1, g2, g3⟩ := clsOf_ok ec ok
    have nms : Names X y (.ref (g.ca c)) := ⟨g1, g3, .inl g2⟩
    unfold cNm at enm
    simp only [frcN_eq] at enm
    split at enm
    · cases enm
      obtain ⟨st, r, rfl, q⟩ := cSS_ok ok ⟨fun _ _ z => by cases z⟩ es
      exact .plain nms q ih
    · split at enm <;> try cases enm
      rename_i n _ hc
      simp only [Bool.and_eq_true, Bool.not_eq_true'] at hc
      split at enm <;> try cases enm
      rename_i i ei
      have hi : X.N[i]? = some n := by rw [ok.N]; exact ixOf_get ei
      have hl := isLoc_ok ok hc.1
      obtain ⟨st, r, rfl, q⟩ := cSS_ok ok ⟨fun _ _ z => by cases z; exact ⟨hi, hl, badName_no hc.2⟩⟩ es
      exact .named nms hi hl q ih
end
end FC
end

section
namespace FC
open PySem PySem.Spec PyProof.Rows L2

def swB (x : Ctx) (y : Str) (scope : Scope) (py pos : Pos) : Bool := isLoc x y && (py.line == pos.line) && !(scope.names.any fun (n, k) => n == y && (k == .local || k == .cell))
theorem sw_eq {g : GE} {pd : PD} {x : Ctx} {W : WX} {cf : CF} {X : Cx} (ok : XOk g pd x W cf X) {elt : Expr} {gs : List Comprehension} {scope : Scope} {pos py : Pos} {y : Str} {l : Nat} :
    swapsWith (.ListComp elt gs scope pos) (some (.Name y py)) l X.env = pure (swB x y scope py pos) := by
  have hk : X.env.scope.kind = .function := by rw [ok.sc]; exact ok.kd
  have hb : X.env.blockKind = .function := by unfold Env.blockKind; rw [hk]; rfl
  have e1 : (X.env.kindOf y == some .local) = isLoc x y := by
    show (X.env.scope.names.lookup y == some .local) = _
    rw [ok.sc]
    unfold isLoc
    cases q : x.sc.names.lookup y with
    | none => rfl
    | some k => cases k <;> rfl
  unfold swapsWith
  simp only [hb, e1, Expr.pos]
  rfl
def cAsg (k : CC) (x : Ctx) (y : Str) (py pos : Pos) (e : Expr) : Option CS := match isAsg x y with
  | true => match ixOf x.N y with
    | some i => frcN i fun i => match noComp e with
      | true => match k.e x e with
        | some f => some fun cf => sAsg i (f cf)
        | none => none
      | false => match e with
        | .ListComp elt [⟨tg, iter, ifs, 0⟩] scope p => match cLc k x elt tg iter ifs scope with
          | some r => match swB x y scope py p with
            | true => match isLoc x y with
              | true => some fun cf => sAsg i (r.f cf)
              | false => none
            | false => some fun cf => sAsg i (r.f cf)
          | none => none
        | _ => none
    | none => none
  | false => none
theorem cAsg_ok {pd : PD} {k : CC} (S : Sound pd k) {x : Ctx} {y : Str} {py pos : Pos} {e : Expr} {r : CS} (h : cAsg k x y py pos e = some r) {g : GE} {W : WX} {X : Cx} {cf : CF} (ok : XOk g pd x W cf X) : PS X (.Assign [.Name y py] e pos) (TS' g W (r cf)) := by
  unfold cAsg at h
  simp only [frcN_eq] at h
  split at h <;> try cases h
  rename_i ha
  split at h <;> try cases h
  rename_i i ei
  have hi : X.N[i]? = some y := by rw [ok.N]; exact ixOf_get ei
  split at h
  · rename_i hn
    split at h <;> try cases h
    rename_i f ef
    exact pS_set ok.C.nd hi (isAsg_ok ok ha) (S.e _ _ _ ef _ _ _ _ ok) (nocomp_sw hn)
  · split at h <;> try cases h
    split at h <;> try cases h
    rename_i p er
    split at h
    · rename_i hs
      split at h <;> try cases h
      rename_i hl
      exact (cLc_ok S er ok).2 hi (isLoc_ok ok hl) (by rw [sw_eq ok, hs])
    · rename_i hs
      cases h
      exact pS_set ok.C.nd hi (isAsg_ok ok ha) (cLc_ok S er ok).1 (by rw [sw_eq ok, hs])
/-- the names of a pair or a triple that is stored crosswise -/
def par2 (x : Ctx) : List Expr → Option (Nat × Nat × Str × Str)
  | [.Name y _, .Name z _] => match isLoc x y && isLoc x z with
    | true => match ixOf x.N y with
      | some i => match ixOf x.N z with
        | some j => frcN i fun i => frcN j fun j => match i.beq j with
          | true => none
          | false => some (i, j, y, z)
        | none => none
      | none => none
    | false => none
  | _ => none
def cTup (k : CC) (x : Ctx) (es : List Expr) (kk : Nat) (p : Pos) (v : Expr) : Option CS := match v with
  | .Tuple vs k2 p2 => match swapF es vs x.sc with
    | some none => match cG 6 x (.Tuple es kk p) with
      | some (fg, _) => match k.e x (.Tuple vs k2 p2) with
        | some f => some fun cf => sAsgG fg (f cf)
        | none => none
      | none => none
    | some (some ns) => match es with
      | [.Name y py, .Name z pz] => match vs with
        | [u, w] => match isLoc x y && isLoc x z && decide (ns = [y, z]) with
          | true => match ixOf x.N y with
            | some i => match ixOf x.N z with
              | some j => frcN i fun i => frcN j fun j => match i.beq j with
                | false => match cA k.e x [u, w] with
                  | some fl => some fun cf => sPar2 i j (fl cf)
                  | none => none
                | true => none
              | none => none
            | none => none
          | false => none
        | _ => none
      | [.Name y py, .Name z pz, .Name t pt] => match vs with
        | [u, w, s] => match isLoc x y && isLoc x z && isLoc x t && decide (ns = [y, z, t]) with
          | true => match ixOf x.N y with
            | some i => match ixOf x.N z with
              | some j => match ixOf x.N t with
                | some l => frcN i fun i => frcN j fun j => frcN l fun l => match i.beq j || i.beq l || j.beq l with
                  | false => match cA k.e x [u, w, s] with
                    | some fl => some fun cf => sPar3 i j l (fl cf)
                    | none => none
                  | true => none
                | none => none
              | none => none
            | none => none
          | false => none
        | _ => none
      | _ => none
    | none => none
  | v => match cG 6 x (.Tuple es kk p) with
    | some (fg, _) => match k.e x v with
      | some f => some fun cf => sAsgG fg (f cf)
      | none => none
    | none => none
theorem nbeq {i j : Nat} (h : i.beq j = false) : i ≠ j := fun e => by
  rw [e] at h
  have : j.beq j = true := Nat.beq_refl j
  rw [this] at h; cases h
theorem cTup_ok {pd : PD} {k : CC} (S : Sound pd k) {x : Ctx} {es : List Expr} {kk : Nat} {p pos : Pos} {v : Expr} {r : CS} (h : cTup k x es kk p v = some r) {g : GE} {W : WX} {X : Cx} {cf : CF} (ok : XOk g pd x W cf X) : PS X (.Assign [.Tuple es kk p] v pos) (TS' g W (r cf)) := by
  have hkd : X.env.scope.kind = .function := by rw [ok.sc]; exact ok.kd
  unfold cTup at h
  simp only [frcN_eq] at h
  split at h
  · rename_i vs k2 p2
    split at h
    · rename_i hs
      split at h <;> try cases h
      rename_i fg sl eg
      split at h <;> try cases h
      rename_i f ef
      exact pS_asgT (S.e _ _ _ ef _ _ _ _ ok) (cG_ok ok _ _ _ _ eg) (swap_ok hkd (by rw [ok.sc]; exact hs))
    · rename_i ns hs
      split at h
      · rename_i y py z pz
        split at h <;> try cases h
        rename_i u w
        split at h <;> try cases h
        rename_i hc
        simp only [Bool.and_eq_true] at hc
        have en := of_decide_eq_true hc.2
        subst en
        split at h <;> try cases h
        rename_i i ei
        split at h <;> try cases h
        rename_i j ej
        split at h <;> try cases h
        rename_i hij
        split at h <;> try cases h
        rename_i fl el
        exact pS_par2 ok.C.calm ok.C.nd (by rw [ok.N]; exact ixOf_get ei) (by rw [ok.N]; exact ixOf_get ej) (nbeq hij) (isLoc_ok ok hc.1.1) (isLoc_ok ok hc.1.2) (cA_ok S.e ok el) (swap_ok hkd (by rw [ok.sc]; exact hs))
      · rename_i y py z pz t pt
        split at h <;> try cases h
        rename_i u w s
        split at h <;> try cases h
        rename_i hc
        simp only [Bool.and_eq_true] at hc
        have en := of_decide_eq_true hc.2
        subst en
        split at h <;> try cases h
        rename_i i ei
        split at h <;> try cases h
        rename_i j ej
        split at h <;> try cases h
        rename_i l el
        split at h <;> try cases h
        rename_i hij
        simp only [Bool.or_eq_false_iff] at hij
        split at h <;> try cases h
        rename_i fl efl
        exact pS_par3 ok.C.calm ok.C.nd (by rw [ok.N]; exact ixOf_get ei) (by rw [ok.N]; exact ixOf_get ej) (by rw [ok.N]; exact ixOf_get el) (nbeq hij.1.1) (nbeq hij.1.2) (nbeq hij.2) (isLoc_ok ok hc.1.1.1) (isLoc_ok ok hc.1.1.2) (isLoc_ok ok hc.1.2) (cA_ok S.e ok efl) (swap_ok hkd (by rw [ok.sc]; exact hs))
      · cases h
    · cases h
  · rename_i hv
    split at h <;> try cases h
    rename_i fg sl eg
    split at h <;> try cases h
    rename_i f ef
    refine pS_asgT (S.e _ _ _ ef _ _ _ _ ok) (cG_ok ok _ _ _ _ eg) (swap_no ?_)
    cases v <;> first | rfl | exact absurd rfl (hv _ _ _)
def isDoc : Expr → Bool
  | .Constant (.str _) _ _ => true
  | _ => false
def cSt (pd : PD) (k : CC) (rec : Ctx → List Stmt → Option CS) (x : Ctx) (st : Stmt) : Option CS := match st with
  | .Pass _ => some fun _ => sNx
  | .Break _ => some fun _ => sBk
  | .Continue _ => some fun _ => sCt
  | .Return none _ => some fun _ => sRetN
  | .Return (some e) _ => match k.e x e with
    | some f => some fun cf => sRet (f cf)
    | none => none
  | .Expr e _ => match noComp e with
    | true => match k.e x e with
      | some f => some fun cf => sDrop (f cf)
      | none => none
    | false => none
  | .If c a b _ => match k.t x c with
    | some ft => match rec x a with
      | some fa => match rec x b with
        | some fb => some fun cf => sIf (ft cf) (fa cf) (fb cf)
        | none => none
      | none => none
    | none => none
  | .For tg it b [] _ => match cI k.e x tg it with
    | some fi => match cG 6 x tg with
      | some (fg, _) => match rec x b with
        | some fb => some fun cf => xFor (fi cf) fg (fb cf)
        | none => none
      | none => none
    | none => none
  | .While c b [] _ => match k.t x c with
    | some ft => match rec x b with
      | some fb => some fun cf => whileL (ft cf) (fb cf) 1000000
      | none => none
    | none => none
  | .Assign [.Name y py] e pos => cAsg k x y py pos e
  | .Assign [.Tuple es kk p] v _ => cTup k x es kk p v
  | .Assign [.Subscript o i _] e _ => match noSlice i with
    | true => match k.e x o with
      | some fo => match k.e x i with
        | some fi => match k.e x e with
          | some fe => some fun cf => sSub (fo cf) (fi cf) (fe cf)
          | none => none
        | none => none
      | none => none
    | false => none
  | .Raise (some e) none _ => cRaise pd k x e
  | .Try b (h :: hs) [] [] _ => match x.top with
    | true => match rec x b with
      | some fb => match cHs pd x (h :: hs) with
        | some l => some fun cf => sTry (fun i => (pd.base[i]?).join) l (fb cf)
        | none => none
      | none => none
    | false => none
  | _ => none
theorem xok_tr {g : GE} {pd : PD} {x : Ctx} {W W' : WX} {cf : CF} {X : Cx} (ok : XOk g pd x W cf X) {pn : List (Addr × Obj)} {xe : Value → Shared → Prop} (C : Cz g W' (X.tr pn xe)) : XOk g pd x W' cf (X.tr pn xe) where
  C := C
  N := ok.N
  sc := ok.sc
  fn := ok.fn
  F := fok_same ok.F rfl rfl rfl rfl rfl rfl
  gl := ok.gl
  bt := ok.bt
  G := ok.G
  mx := mkx_same ok.mx rfl rfl rfl rfl rfl rfl
  tp := ok.tp
  kd := ok.kd
theorem cSt_ok {pd : PD} {k : CC} (S : Sound pd k) {rec : Ctx → List Stmt → Option CS} (R : SoundS pd rec) : SoundSt pd (cSt pd k rec) := by
  intro x st r h g W X cf ok
  unfold cSt at h
  split at h
  · cases h; exact pS_pass
  · cases h; exact pS_break
  · cases h; exact pS_cont
  · cases h; exact pS_retN
  · split at h <;> try cases h
    rename_i f ef
    exact pS_ret (S.e _ _ _ ef _ _ _ _ ok)
  · split at h <;> try cases h
    rename_i hn
    split at h <;> try cases h
    rename_i f ef
    exact pS_drop (S.e _ _ _ ef _ _ _ _ ok) (nocomp_sw hn)
  · split at h <;> try cases h
    rename_i ft et
    split at h <;> try cases h
    rename_i fa ea
    split at h <;> try cases h
    rename_i fb eb
    exact pS_if (S.t _ _ _ et _ _ _ _ ok) (R _ _ _ ea _ _ _ _ ok) (R _ _ _ eb _ _ _ _ ok)
  · split at h <;> try cases h
    rename_i fi ei
    split at h <;> try cases h
    rename_i fg sl eg
    split at h <;> try cases h
    rename_i fb eb
    obtain ⟨i1, i2⟩ := cI_ok S.e _ _ _ _ ei _ _ _ _ ok
    exact pS_for ok.C i1 (cG_ok ok _ _ _ _ eg) (R _ _ _ eb _ _ _ _ ok) (i2 _)
  · split at h <;> try cases h
    rename_i ft et
    split at h <;> try cases h
    rename_i fb eb
    exact pS_while ok.C (S.t _ _ _ et _ _ _ _ ok) (R _ _ _ eb _ _ _ _ ok) _
  · exact cAsg_ok S h ok
  · exact cTup_ok S h ok
  · split at h <;> try cases h
    rename_i hn
    split at h <;> try cases h
    rename_i fo eo
    split at h <;> try cases h
    rename_i fi ei
    split at h <;> try cases h
    rename_i fe ee
    exact pS_sub ok.C (S.e _ _ _ eo _ _ _ _ ok) (S.e _ _ _ ei _ _ _ _ ok) (S.e _ _ _ ee _ _ _ _ ok) hn
  · exact cRaise_ok S h ok
  · split at h <;> try cases h
    rename_i ht
    split at h <;> try cases h
    rename_i fb eb
    split at h <;> try cases h
    rename_i l el
    obtain ⟨t1, t2⟩ := ok.tp ht
    exact pS_try ok.C ok.G t1 t2 (fun W' pn xe C => R _ _ _ eb _ _ _ _ (xok_tr ok C)) (cHs_ok ok el)
  · cases h
def compS (pd : PD) (k : CC) : Nat → Ctx → List Stmt → Option CS := Nat.rec (fun _ _ => some fun _ => sBad) fun _ rec x => cSs (cSt pd k rec x)
theorem compS_ok {pd : PD} {k : CC} (S : Sound pd k) : ∀ n, SoundS pd (compS pd k n)
  | 0 => fun x b r h g W X cf ok => by cases h; exact pSs_bad
  | n + 1 => cSs_ok (cSt_ok S (compS_ok S n))
end FC
end

section
namespace FC
open PySem PySem.Spec PyProof.Rows L2

/-! ### functions -/
def psOf (d : He.DefD) : List Str := d.params.args.map (·.arg)
def cBody (pd : PD) (d : He.DefD) (N : List Str) : Option CS := compS pd (comp pd 60) 30 ⟨N, d.scope, fun _ => true, true⟩ d.body
abbrev TbE := Nat × Nat × CS
def mkT (pd : PD) : List (He.DefD × List Str) → Option (List TbE)
  | [] => some []
  | (d, N) :: r => match cBody pd d N with
    | some f => match mkT pd r with
      | some t => frcN (psOf d).length fun np => frcN N.length fun nN => some ((np, nN, f) :: t)
      | none => none
    | none => none
theorem mkT_ok {pd : PD} : ∀ {fds : List (He.DefD × List Str)} {tb : List TbE}, mkT pd fds = some tb → ∀ {i : Nat} {np nN : Nat} {f : CS}, tb[i]? = some (np, nN, f) → ∃ d N, fds[i]? = some (d, N) ∧ np = (psOf d).length ∧ nN = N.length ∧ cBody pd d N = some f
  | [], _, h, i, _, _, _, e => by cases h; simp at e
  | (d, N) :: r, _, h, i, np, nN, f, e => by
    rw [mkT] at h
    simp only [frcN_eq] at h
    split at h <;> try cases h
    rename_i f0 ef
    split at h <;> try cases h
    rename_i t et
    cases i with
    | zero =>
      simp only [List.getElem?_cons_zero, Option.some.injEq, Prod.mk.injEq] at e
      obtain ⟨rfl, rfl, rfl⟩ := e
      exact ⟨d, N, rfl, rfl, rfl, ef⟩
    | succ i =>
      rw [List.getElem?_cons_succ] at e
      rw [List.getElem?_cons_succ]
      exact mkT_ok et e
def endR : SR → Rs D
  | .go .nx _ L => .ok .non L
  | .go (.rt d) _ L => .ok d L
  | .ex x _ L => .ex x L
  | _ => .bad
def runB (np nN : Nat) (f : CS) (cf : CF) (ds : List D) (L : LH) : Rs D := match ds.length.beq np with
  | true => endR (f cf (startD nN ds) L)
  | false => .bad
def callF (tb : List TbE) : Nat → CF := Nat.rec (fun _ _ _ => .bad) fun _ cf i ds L => match tb[i]? with
  | some (np, nN, f) => runB np nN f cf ds L
  | none => .bad
theorem callF_ne {tb : List TbE} : ∀ {k i : Nat} {ds : List D} {L : LH}, callF tb k i ds L ≠ .bad → ∃ np nN f, tb[i]? = some (np, nN, f) ∧ ds.length = np
  | 0, _, _, _, h => absurd rfl h
  | k + 1, i, ds, L, h => by
    have e : callF tb (k + 1) i ds L = match tb[i]? with
      | some (np, nN, f) => runB np nN f (callF tb k) ds L
      | none => .bad := rfl
    rw [e] at h
    cases q : tb[i]? with
    | none => rw [q] at h; exact absurd rfl h
    | some p =>
      obtain ⟨np, nN, f⟩ := p
      simp only [q] at h
      refine ⟨np, nN, f, rfl, ?_⟩
      unfold runB at h
      cases z : ds.length.beq np with
      | true => exact Nat.eq_of_beq_eq_true z
      | false => rw [z] at h; exact absurd rfl h
theorem end_ok {g : GE} {E : XK} {Q : VK} {r : SR} {m : M} {L : LH} {H : Hp} (h : TMP g (fun cv dd _ H' => E cv dd H') [] (Rep g) (endR r) m L H Q) : TSP g (fun cv dd _ H' => E cv dd H') { nx := fun _ H' => Q .non H', rt := Q } r m L H := by
  cases r with
  | go f δ L' =>
    cases f with
    | nx => exact fun m' H' σ' E R S => h m' H' .non E R .non
    | rt d => exact fun m' H' v E R r => h m' H' v E R r
    | bk => exact h.elim
    | ct => exact h.elim
  | ex x δ L' => exact fun m' H' σ' cv dd E R S xr => h m' H' cv dd E R xr
  | bad => exact h.elim
structure ModOk (g : GE) (pd : PD) (fds : List (He.DefD × List Str)) (mg : Str → Option Value) : Prop where
  kp : ∀ i, PySem.W.keepIn g.K (.ref (g.fa i)) = true
  fn : ∀ (i : Nat) (d : He.DefD) (N : List Str), fds[i]? = some (d, N) → (∃ as, d.params = ⟨[], as, none, [], [], none, []⟩) ∧ FnScope N (psOf d) d.scope ∧ ∃ fd, FunD g.K d.name d.qual d.params d.body d.scope [] [] (g.fa i) fd
  tab : ∀ (i : Nat) (d : He.DefD) (N : List Str), fds[i]? = some (d, N) → pd.tab[i]? = some (psOf d)
  gl : ∀ x v, pd.gl.lookup x = some v → ∃ u, mg x = some u ∧ RelV (v.v g) u
  bt : ∀ x ∈ bNames, mg x = none
  G : ExF g (fun i => (pd.base[i]?).join)
  zero : ∀ c, pd.own[c]? = some false → (∃ bmB B newId initId, ExcBaseFacts B newId initId bmB ∧ PySem.W.excIn g.K (g.ca c) bmB newId = true) ∧ PySem.W.keepIn g.K (.ref (g.ca c)) = true ∧ PySem.W.subIn g.K (.ref (g.ca c)) (.type "BaseException") = some true ∧ PySem.W.typeIn g.K (.ref (g.ca c)) = some (.type "type")
  one : ∀ c, pd.own[c]? = some true → OexC g.K (g.ca c) ∧ PySem.W.findIn g.K (.ref (g.ca c)) "number" = some none ∧ ∃ fI fd name qual as sf nb scope p1 p2 p3 pos, PySem.W.findIn g.K (.ref (g.ca c)) "__init__" = some (some (.ref fI)) ∧ PySem.W.typeIn g.K (.ref fI) = some (.type "function") ∧
    FunD g.K name qual ⟨[], as, none, [], [], none, []⟩ [.Assign [.Attribute (.Name sf p1) "number" p2] (.Name nb p3) pos] scope [] [] fI fd ∧ FnScope [sf, nb] [sf, nb] scope ∧ as.map (·.arg) = [sf, nb] ∧ badName sf = false ∧ badName nb = false
theorem funD_b {K : PySem.W.Frag} {name qual : Str} {as : List Arg} {body : List Stmt} {scope : Scope} {f : Addr} {fd : FuncData} (F : FunD K name qual ⟨[], as, none, [], [], none, []⟩ body scope [] [] f fd) : fd.params = ⟨[], as, none, [], [], none, []⟩ ∧ fd.defaults = .none := by
  obtain ⟨oc, od, dV, kV, doc, pm, an, cdv, ct, osl, rfl, lk, hcd, hD, hK⟩ := F.ex
  rcases hD with ⟨_, rfl⟩ | ⟨e, _⟩
  · exact ⟨rfl, rfl⟩
  · exact absurd rfl e
theorem init_ok {K : PySem.W.Frag} {P : Program} {w : World} {mg : Str → Option Value} {base : Heap} {name qual sf nb : Str} {as : List Arg} {scope : Scope} {p1 p2 p3 pos : Pos} {f : Addr} {fd : FuncData}
    (F : FunD K name qual ⟨[], as, none, [], [], none, []⟩ [.Assign [.Attribute (.Name sf p1) "number" p2] (.Name nb p3) pos] scope [] [] f fd) (S : FnScope [sf, nb] [sf, nb] scope) (ha : as.map (·.arg) = [sf, nb]) (b1 : badName sf = false) (b2 : badName nb = false) :
    FnOk P w K mg base (L2.CX P w) 1 f fd [sf, nb] (spI K) ∧ Binds K fd [sf, nb] [] := by
  refine ⟨?_, Binds.all fun us hu => ?_⟩
  · obtain ⟨oc, od, dV, kV, doc, pm, an, cdv, ct, osl, rfl, lk, hcd, hD, hK⟩ := F.ex
    exact fnok_init (k := 0) lk hcd S (badName_no b1).1 (badName_no b1).2 (badName_no b2).1 (badName_no b2).2
  · obtain ⟨h1, h2⟩ := funD_b F
    rw [← ha]
    exact bind_pos h1 h2 (by rw [ha]; exact S.nd) (by have := congrArg List.length ha; rw [List.length_map] at this; rw [hu, this])
theorem fns_ok {g : GE} {pd : PD} {fds : List (He.DefD × List Str)} {mg : Str → Option Value} {tb : List TbE} (Mo : ModOk g pd fds mg) (ht : mkT pd fds = some tb) (base : Heap) : ∀ (k i : Nat) (d : He.DefD) (N : List Str), fds[i]? = some (d, N) →
    ∀ fd, FunD g.K d.name d.qual d.params d.body d.scope [] [] (g.fa i) fd → FnOk g.P g.w g.K mg base (L2.CX g.P g.w) (k + 3) (g.fa i) fd (psOf d) (spF g (callF tb k i))
  | 0, i, d, N, hi, fd, F => ⟨fun vs H Q E ⟨m, L, ds, R, rd, h⟩ => absurd h id, fun A outer s H args us vs Q E hr he hb hv ⟨m, L, ds, R, rd, h⟩ => absurd h id⟩
  | k + 1, i, d, N, hi, fd, F => by
    obtain ⟨⟨as, hp⟩, S, _⟩ := Mo.fn i d N hi
    have ne : ∀ {vs : List V} {H : Hp} {Q : VK} {E : XK}, spF g (callF tb (k + 1) i) vs H Q E → vs.length = (psOf d).length ∧ ∃ f m L ds, cBody pd d N = some f ∧ HRel g m L H ∧ RepL g m H ds vs ∧ TMP g (fun cv dd _ H' => E cv dd H') [] (Rep g) (endR (f (callF tb k) (startD N.length ds) L)) m L H Q := by
      rintro vs H Q E ⟨m, L, ds, R, rd, h⟩
      obtain ⟨np, nN, f, e1, e2⟩ := callF_ne (tmp_ne h)
      obtain ⟨d', N', e3, e4, e5, e6⟩ := mkT_ok ht e1
      rw [hi] at e3
      cases e3
      refine ⟨by rw [← rd.length, e2, e4], f, m, L, ds, e6, R, rd, ?_⟩
      have e : callF tb (k + 1) i ds L = endR (f (callF tb k) (startD N.length ds) L) := by
        show (match tb[i]? with
          | some (np, nN, f) => runB np nN f (callF tb k) ds L
          | none => .bad) = _
        rw [e1]
        show runB np nN f (callF tb k) ds L = _
        unfold runB
        rw [show ds.length.beq np = true from by rw [e2]; exact Nat.beq_refl np, e5]
      rw [e] at h
      exact h
    refine F.ok (k := k + 3) S (fun vs H Q E h => (ne h).1) fun cdv A outer s H vs Q E hr h => ?_
    obtain ⟨_, f, m, L, ds, hf, R, rd, h'⟩ := ne h
    refine ⟨TS' g (fun cv dd _ H' => E cv dd H') (f (callF tb k)), ?_, ⟨m, L, startD N.length ds, R, SRel.start rd, end_ok h'⟩⟩
    refine compS_ok (comp_ok pd 60) 30 _ _ _ hf g _ _ _ ⟨⟨rfl, rfl, rfl, S.nd, rfl, ?_, takes_of rfl rfl rfl rfl, passes_of rfl⟩, rfl, rfl, fun _ _ => rfl, ?_, Mo.gl, Mo.bt, Mo.G, ?_, fun _ => ⟨rfl, rfl⟩, S.kind⟩
    · have := hr.un
      show _ + 100 < cLine
      show (A.deeper _).units + 100 < cLine
      omega
    · refine ⟨Mo.kp, fun j es L' hne => ?_⟩
      obtain ⟨np, nN, f', e1, e2⟩ := callF_ne hne
      obtain ⟨d', N', e3, e4, e5, e6⟩ := mkT_ok ht e1
      obtain ⟨⟨as', hp'⟩, S', fd', F'⟩ := Mo.fn j d' N' e3
      have F2 := F'
      rw [hp'] at F2
      obtain ⟨q1, q2⟩ := funD_b F2
      have epa : as'.map (·.arg) = psOf d' := by unfold psOf; rw [hp']
      have ndp : (psOf d').Nodup := by rw [← S'.pre]; exact S'.nd.sublist (List.take_sublist _ _)
      exact ⟨psOf d', Mo.tab j d' N' e3, by rw [e2, e4], ⟨k + 3, as', fd', hr, fns_ok Mo ht base k j d' N' e3 fd' F', q1, q2, epa⟩, ndp, Mo.kp j⟩
    · refine ⟨fun c hc => ?_, fun c hc => ?_⟩
      · obtain ⟨z1, z2, z3, z4⟩ := Mo.zero c hc
        exact ⟨z1, z2, raises_own z3 z4⟩
      · obtain ⟨T, fo, fI, fd, name, qual, as, sf, nb, scope, p1, p2, p3, pos, z1, z2, z3, z4, z5, z6, z7⟩ := Mo.one c hc
        obtain ⟨y1, y2⟩ := init_ok (P := g.P) (w := g.w) (mg := mg) (base := base) z3 z4 z5 z6 z7
        exact ⟨fI, 1, fd, [sf, nb], T, fo, z1, z2, y1, hr.mono (by omega), y2⟩
end FC
end

section
namespace FC
open PySem PySem.Spec PyProof.Rows L2

/-! ### the module's facts, told by the head -/
def oexB (K : PySem.W.Frag) (C : Addr) : Bool := (match K.lookup C with
  | some ⟨.type "type", _, .cls cd, sl⟩ => (match cd.mro, sl.toList with
    | .ref C' :: bm, [_, _, _, _, some (.builtin n), _] => C' == C && n == "ValueError.__new__" && !cd.hasDel && cd.hasDict && PySem.HandSPX.refsVE bm
    | _, _ => false)
  | _ => false) && He.eqO (PySem.W.findIn K (.ref C) "__setattr__") (some (some (.builtin "object.__setattr__"))) && decide (PySem.W.subIn K (.ref C) (.type "BaseException") = some true) && decide (PySem.W.typeIn K (.ref C) = some (.type "type")) && PySem.W.keepIn K (.ref C)
theorem oexB_ok {K : PySem.W.Frag} {C : Addr} (h : oexB K C = true) : OexC K C := by
  unfold oexB at h
  simp only [Bool.and_eq_true, decide_eq_true_eq] at h
  obtain ⟨⟨⟨⟨q, h2⟩, h3⟩, h4⟩, h5⟩ := h
  refine ⟨?_, He.eqO_ok h2, h3, h4, h5⟩
  split at q
  · rename_i dd cd sl ho
    split at q
    · rename_i C' bm k0 k1 k2 k3 n k5 hm hs
      simp only [Bool.and_eq_true, beq_iff_eq, Bool.not_eq_true'] at q
      obtain ⟨⟨⟨⟨rfl, rfl⟩, hdel⟩, hdct⟩, hr⟩ := q
      obtain ⟨nm, bs, mro, ns, qn, hd, sn, sub, ab, col, del⟩ := cd
      dsimp only at hm hdel hdct
      subst hm hdel hdct
      obtain ⟨l⟩ := sl
      simp only at hs
      subst hs
      exact ⟨_, _, _, _, _, _, _, _, _, _, _, _, _, _, _, ho, hr⟩
    · cases q
  · cases q
structure XC where
  nm : Str
  base : String
  own : Bool
def leBase : List Value := [.type "LookupError", .type "Exception", .type "BaseException", .type "object"]
def newB (K : PySem.W.Frag) (C : Addr) (B : String) : Bool := (decide (B = "ValueError") && PySem.W.excIn K C He.veBase "ValueError.__new__") || (decide (B = "LookupError") && PySem.W.excIn K C leBase "LookupError.__new__")
theorem newB_ok {K : PySem.W.Frag} {C : Addr} {B : String} (h : newB K C B = true) : ∃ bmB B newId initId, ExcBaseFacts B newId initId bmB ∧ PySem.W.excIn K C bmB newId = true := by
  unfold newB at h
  rw [Bool.or_eq_true, Bool.and_eq_true, Bool.and_eq_true] at h
  rcases h with ⟨_, h⟩ | ⟨_, h⟩
  · exact ⟨_, _, _, _, PySem.F.excBase_ValueError, h⟩
  · exact ⟨_, _, _, _, PySem.F.excBase_LookupError, h⟩
def exB1 (K : PySem.W.Frag) (x : XC) : Bool := decide (PySem.W.kitCls K (.ref (He.ga K x.nm)) (.type x.base) = some true) && xfB K (He.ga K x.nm) && He.eqO (PySem.W.findIn K (.ref (He.ga K x.nm)) "number") (some none) && PySem.W.keepIn K (.ref (He.ga K x.nm)) &&
  decide (PySem.W.subIn K (.ref (He.ga K x.nm)) (.type "BaseException") = some true) && decide (PySem.W.typeIn K (.ref (He.ga K x.nm)) = some (.type "type")) && (match x.own with
    | false => newB K (He.ga K x.nm) x.base
    | true => oexB K (He.ga K x.nm) && He.eqO (PySem.W.findIn K (.ref (He.ga K x.nm)) "__init__") (some (some (.ref (He.ma K (He.ga K x.nm) "__init__")))) && decide (PySem.W.typeIn K (.ref (He.ma K (He.ga K x.nm) "__init__")) = some (.type "function")))
def exmB (xs : List XC) (K : PySem.W.Frag) : Bool := (List.range xs.length).all fun i => (List.range xs.length).all fun j => match xs[i]?, xs[j]? with
  | some x, some y => decide (PySem.W.exmOne K (.ref (He.ga K x.nm)) (.ref (He.ga K y.nm)) = some (i.beq j))
  | _, _ => false
/-- all of it: functions, exceptions, the other globals, the own __init__s (by the class's number) -/
structure MD where
  fds : List (He.DefD × List Str)
  xs : List XC
  gl : List (Str × GV)
  ini : List (Nat × He.DefD)
def MD.pd (m : MD) : PD := ⟨m.gl, m.fds.map fun d => psOf d.1, m.xs.map fun x => some x.base, m.xs.map fun x => x.own⟩
def MD.fn (m : MD) : List He.DefD := m.fds.map (·.1) ++ m.ini.map (·.2)
def faOf : Str × GV → He.Fa
  | (x, .str z) => .str x z
  | (x, .int i) => .int x i
  | (x, _) => .glo x
def MD.fa (m : MD) : List He.Fa := m.gl.map faOf ++ bNames.map He.Fa.free
def MD.ex (m : MD) (K : PySem.W.Frag) : Bool := (m.xs.all fun x => exB1 K x) && exmB m.xs K
def MD.ge (m : MD) (K : PySem.W.Frag) (P : Program) (w : World) : GE := { K := K, P := P, w := w, fa := fun i => He.fAd K ((m.fds[i]?.map (·.1.at_)).getD ((m.fds[0]?.map (·.1.at_)).getD ("", none))), ca := fun c => He.ga K ((m.xs[c]?.map (·.nm)).getD ""), fnm := [] }
/-! what is checked of the text -/
def argsB (a : Arguments) : Bool := match a with
  | ⟨[], _, none, [], [], none, []⟩ => true
  | _ => false
theorem argsB_ok {a : Arguments} (h : argsB a = true) : a = ⟨[], a.args, none, [], [], none, []⟩ := by
  unfold argsB at h
  split at h
  · rfl
  · cases h
def scB (N ps : List Str) (sc : Scope) : Bool := decide (sc.kind = .function) && !sc.isCoroutine && !sc.isGenerator && decide N.Nodup && decide (N.take ps.length = ps) && (ps.all fun x => decide (sc.names.lookup x = some .local) || decide (sc.names.lookup x = some .cell)) && (sc.names.all fun y => decide (y.2 ≠ .free))
theorem scB_ok {N ps : List Str} {sc : Scope} (h : scB N ps sc = true) : FnScope N ps sc := by
  unfold scB at h
  simp only [Bool.and_eq_true, decide_eq_true_eq, Bool.not_eq_true', List.all_eq_true, Bool.or_eq_true] at h
  obtain ⟨⟨⟨⟨⟨⟨h1, h2⟩, h3⟩, h4⟩, h5⟩, h6⟩, h7⟩ := h
  exact ⟨h1, h2, h3, h4, h5, h6, h7⟩
def plD (d : He.DefD) : Bool := argsB d.params && d.dfl.isEmpty && d.kwd.isEmpty
def glB (m : MD) (e : Str × GV) : Bool := match e.2 with
  | .fn i => match m.fds[i]? with
    | some (d, _) => decide (d.at_ = (e.1, none))
    | none => false
  | .cls c => match m.xs[c]? with
    | some x => decide (x.nm = e.1)
    | none => false
  | .int _ => true
  | .str _ => true
  | _ => false
def inB (m : MD) (e : Nat × He.DefD) : Bool := plD e.2 && (match m.xs[e.1]? with
  | some x => decide (e.2.at_ = (x.nm, some ("__init__" : Str)))
  | none => false) && match e.2.body with
    | [.Assign [.Attribute (.Name sf _) f _] (.Name nb _) _] => decide (f = "number") && decide (psOf e.2 = [sf, nb]) && !badName sf && !badName nb && scB [sf, nb] [sf, nb] e.2.scope
    | _ => false
def MD.ok (m : MD) : Bool := (m.fds.all fun d => plD d.1 && scB d.2 (psOf d.1) d.1.scope) && m.gl.all (glB m) && m.ini.all (inB m) && Nat.blt 0 m.fds.length && (List.range m.xs.length).all fun c => match m.xs[c]? with
  | some x => match x.own with
    | true => m.ini.any fun e => e.1.beq c
    | false => true
  | none => false
theorem modOk_of {m : MD} (ok : m.ok = true) {K : PySem.W.Frag} {h : Heap} {mg : Str → Option Value} (X : K.In h) (G : h.Ns mainGlobals mg) (P : Program) (w : World) (c : He.SaysD m.fa m.fn K) (ce : m.ex K = true) : ModOk (m.ge K P w) m.pd m.fds mg := by
  unfold MD.ok at ok
  simp only [Bool.and_eq_true] at ok
  obtain ⟨⟨⟨⟨o1, o2⟩, o3⟩, o4⟩, o5⟩ := ok
  unfold MD.ex at ce
  rw [Bool.and_eq_true] at ce
  obtain ⟨c1, c2⟩ := ce
  have fdF : ∀ d ∈ m.fn, d.dfl = [] → d.kwd = [] → ∃ fd, FunD K d.name d.qual d.params d.body d.scope [] [] (He.fAd K d.at_) fd := fun d hd e1 e2 => by
    have q := c.defs hd
    unfold He.DefD.dvs He.DefD.kws at q
    rw [e1, e2] at q
    exact q
  have stat : ∀ (i : Nat) (d : He.DefD) (N : List Str), m.fds[i]? = some (d, N) → d.params = ⟨[], d.params.args, none, [], [], none, []⟩ ∧ d.dfl = [] ∧ d.kwd = [] ∧ FnScope N (psOf d) d.scope := fun i d N hi => by
    have q := List.all_eq_true.mp o1 _ (List.mem_of_getElem? hi)
    unfold plD at q
    simp only [Bool.and_eq_true, List.isEmpty_iff] at q
    exact ⟨argsB_ok q.1.1.1, q.1.1.2, q.1.2, scB_ok q.2⟩
  have fdG : ∀ (i : Nat) (d : He.DefD) (N : List Str), m.fds[i]? = some (d, N) → ∃ fd, FunD K d.name d.qual d.params d.body d.scope [] [] (He.fAd K d.at_) fd := fun i d N hi => by
    obtain ⟨_, s2, s3, _⟩ := stat i d N hi
    exact fdF d (List.mem_append_left _ (List.mem_map.mpr ⟨(d, N), List.mem_of_getElem? hi, rfl⟩)) s2 s3
  have faI : ∀ (i : Nat) (d : He.DefD) (N : List Str), m.fds[i]? = some (d, N) → (m.ge K P w).fa i = He.fAd K d.at_ := fun i d N hi => by
    show He.fAd K ((m.fds[i]?.map (·.1.at_)).getD _) = _
    rw [hi]; rfl
  have caI : ∀ (i : Nat) (x : XC), m.xs[i]? = some x → (m.ge K P w).ca i = He.ga K x.nm := fun i x hi => by
    show He.ga K ((m.xs[i]?.map (·.nm)).getD _) = _
    rw [hi]; rfl
  have xI : ∀ (i : Nat) (x : XC), m.xs[i]? = some x → exB1 K x = true := fun i x hi => List.all_eq_true.mp c1 _ (List.mem_of_getElem? hi)
  have baseI : ∀ (i : Nat), (m.pd.base[i]?).join = m.xs[i]?.map (·.base) := fun i => by
    show ((m.xs.map fun x => some x.base)[i]?).join = _
    rw [List.getElem?_map]
    cases m.xs[i]? <;> rfl
  refine ⟨fun i => ?_, fun i d N hi => ?_, fun i d N hi => ?_, fun x v hx => ?_, fun x hx => ?_, ⟨fun i B hB => ?_, fun i hi => ?_, fun i j hi hj => ?_⟩, fun i hi => ?_, fun i hi => ?_⟩
  · show PySem.W.keepIn K (.ref (He.fAd K _)) = true
    cases q : m.fds[i]? with
    | some p =>
      obtain ⟨fd, F⟩ := fdG i p.1 p.2 q
      exact F.kp
    | none =>
      have hl : 0 < m.fds.length := Nat.blt_eq.mp o4
      have q0 := List.getElem?_eq_getElem hl
      obtain ⟨fd, F⟩ := fdG 0 _ _ q0
      show PySem.W.keepIn K (.ref (He.fAd K ((m.fds[0]?.map (·.1.at_)).getD ("", none)))) = true
      rw [q0]
      exact F.kp
  · obtain ⟨s1, s2, s3, s4⟩ := stat i d N hi
    obtain ⟨fd, F⟩ := fdG i d N hi
    rw [← faI i d N hi] at F
    exact ⟨⟨_, s1⟩, s4, fd, F⟩
  · show (m.fds.map fun d => psOf d.1)[i]? = _
    rw [List.getElem?_map, hi]; rfl
  · have hm : (x, v) ∈ m.gl := by
      have : ∀ {l : List (Str × GV)}, l.lookup x = some v → (x, v) ∈ l := by
        intro l
        induction l with
        | nil => intro h; cases h
        | cons p l ih =>
          intro h
          obtain ⟨y, u⟩ := p
          rw [List.lookup_cons] at h
          cases q : x == y with
          | true =>
            rw [q] at h
            cases h
            rw [beq_iff_eq.mp q]
            exact List.mem_cons_self
          | false =>
            rw [q] at h
            exact List.mem_cons_of_mem _ (ih h)
      exact this hx
    have gb := List.all_eq_true.mp o2 _ hm
    have fact := c.facts (f := faOf (x, v)) (List.mem_append_left _ (List.mem_map.mpr ⟨(x, v), hm, rfl⟩))
    unfold glB at gb
    cases v with
    | fn i =>
      dsimp only at gb
      cases q : m.fds[i]? with
      | none => rw [q] at gb; cases gb
      | some p =>
        obtain ⟨d, N⟩ := p
        simp only [q] at gb
        have e := of_decide_eq_true gb
        refine ⟨_, He.glo_ok X G fact, ?_⟩
        show Value.ref (He.ga K x) = Value.ref ((m.ge K P w).fa i)
        rw [faI i d N q, e]; rfl
    | cls i =>
      dsimp only at gb
      cases q : m.xs[i]? with
      | none => rw [q] at gb; cases gb
      | some y =>
        simp only [q] at gb
        have e := of_decide_eq_true gb
        refine ⟨_, He.glo_ok X G fact, ?_⟩
        show Value.ref (He.ga K x) = Value.ref ((m.ge K P w).ca i)
        rw [caI i y q, e]
    | int i =>
      obtain ⟨t, e⟩ := He.int_ok X G fact
      exact ⟨_, e, t, rfl⟩
    | str z =>
      obtain ⟨t, e⟩ := He.str_ok X G fact
      exact ⟨_, e, t, rfl⟩
    | non => cases gb
    | bl b => cases gb
  · exact He.free_ok X G (c.facts (f := .free x) (List.mem_append_right _ (List.mem_map.mpr ⟨x, hx, rfl⟩)))
  · have hB' : (m.pd.base[i]?).join = some B := hB
    rw [baseI] at hB'
    cases q : m.xs[i]? with
    | none => rw [q] at hB'; cases hB'
    | some x =>
      rw [q] at hB'
      cases hB'
      have z := xI i x q
      unfold exB1 at z
      simp only [Bool.and_eq_true, decide_eq_true_eq] at z
      show PySem.W.kitCls K (.ref ((m.ge K P w).ca i)) _ = _
      rw [caI i x q]
      exact z.1.1.1.1.1.1
  · have hi' : ((m.pd.base[i]?).join).isSome = true := hi
    rw [baseI] at hi'
    cases q : m.xs[i]? with
    | none => rw [q] at hi'; cases hi'
    | some x =>
      have z := xI i x q
      unfold exB1 at z
      simp only [Bool.and_eq_true, decide_eq_true_eq] at z
      rw [caI i x q]
      exact ⟨xfB_ok z.1.1.1.1.1.2, He.eqO_ok z.1.1.1.1.2⟩
  · have hi' : ((m.pd.base[i]?).join).isSome = true := hi
    have hj' : ((m.pd.base[j]?).join).isSome = true := hj
    rw [baseI] at hi' hj'
    cases q : m.xs[i]? with
    | none => rw [q] at hi'; cases hi'
    | some x =>
      cases q2 : m.xs[j]? with
      | none => rw [q2] at hj'; cases hj'
      | some y =>
        rw [caI i x q, caI j y q2]
        have l1 : i ∈ List.range m.xs.length := List.mem_range.mpr (List.getElem?_eq_some_iff.mp q).1
        have l2 : j ∈ List.range m.xs.length := List.mem_range.mpr (List.getElem?_eq_some_iff.mp q2).1
        have z := List.all_eq_true.mp (List.all_eq_true.mp c2 i l1) j l2
        simp only [q, q2] at z
        exact of_decide_eq_true z
  · have hi' : (m.xs.map fun x => x.own)[i]? = some false := hi
    rw [List.getElem?_map] at hi'
    cases q : m.xs[i]? with
    | none => rw [q] at hi'; cases hi'
    | some x =>
      rw [q] at hi'
      have e : x.own = false := Option.some.inj hi'
      have z := xI i x q
      unfold exB1 at z
      rw [e] at z
      simp only [Bool.and_eq_true, decide_eq_true_eq] at z
      rw [caI i x q]
      exact ⟨newB_ok z.2, z.1.1.1.2, z.1.1.2, z.1.2⟩
  · have hi' : (m.xs.map fun x => x.own)[i]? = some true := hi
    rw [List.getElem?_map] at hi'
    cases q : m.xs[i]? with
    | none => rw [q] at hi'; cases hi'
    | some x =>
      rw [q] at hi'
      have e : x.own = true := Option.some.inj hi'
      have z := xI i x q
      unfold exB1 at z
      rw [e] at z
      simp only [Bool.and_eq_true, decide_eq_true_eq] at z
      rw [caI i x q]
      have l1 : i ∈ List.range m.xs.length := List.mem_range.mpr (List.getElem?_eq_some_iff.mp q).1
      have y := List.all_eq_true.mp o5 i l1
      simp only [q, e] at y
      obtain ⟨⟨j, d⟩, hd, hj⟩ := List.any_eq_true.mp y
      have ej : j = i := Nat.eq_of_beq_eq_true hj
      subst ej
      have ib := List.all_eq_true.mp o3 _ hd
      unfold inB plD at ib
      simp only [Bool.and_eq_true, List.isEmpty_iff, q, decide_eq_true_eq] at ib
      obtain ⟨⟨⟨⟨i1, i2⟩, i3⟩, i4⟩, i5⟩ := ib
      obtain ⟨fd, F⟩ := fdF d (List.mem_append_right _ (List.mem_map.mpr ⟨(j, d), hd, rfl⟩)) i2 i3
      have eF : He.fAd K d.at_ = He.ma K (He.ga K x.nm) "__init__" := by rw [i4]; rfl
      rw [eF, argsB_ok i1] at F
      refine ⟨oexB_ok z.2.1.1, He.eqO_ok z.1.1.1.1.2, ?_⟩
      split at i5
      · rename_i sf p1 f p2 nb p3 pos eb
        simp only [Bool.and_eq_true, decide_eq_true_eq, Bool.not_eq_true'] at i5
        obtain ⟨⟨⟨⟨j1, j2⟩, j3⟩, j4⟩, j5⟩ := i5
        subst j1
        rw [eb] at F
        exact ⟨_, fd, _, _, _, sf, nb, _, p1, p2, p3, pos, He.eqO_ok z.2.1.2, z.2.2, F, scB_ok j5, j2, j3, j4⟩
      · cases i5
end FC
end

section
namespace FC
open PySem PySem.Spec PyProof.Rows L2

/-! ### a law's end -/
def isYes : Rs D → Bool
  | .ok (.bl true) _ => true
  | _ => false
theorem isYes_ok {r : Rs D} (h : isYes r = true) : ∃ L, r = .ok (.bl true) L := by
  unfold isYes at h
  split at h
  · exact ⟨_, rfl⟩
  · cases h
def L0 : LH := ⟨0, .nil⟩
theorem law_sp {g : GE} {r : List D → LH → Rs D} {H : Hp} {a : Addr} {ns : List Int} (hO : Only H) (hS : SqL g.K H a (ns.map V.int)) (e : isYes (r [.rol (ns.map D.int)] L0) = true) : spF g r [.ref a] H (fun v _ => v = .bl true) fun _ _ _ => False := by
  have hR : SqR g.K H a (ns.map V.int) := by
    rcases hS with (h | h) | h
    · rcases hO a with z | ⟨o, xs, z⟩
      · rw [z] at h; cases h
      · rw [z] at h; cases h
    · exact .inl h
    · exact .inr h
  have hL : RepL g ⟨0, fun _ => 0⟩ H (ns.map D.int) (ns.map V.int) := by
    clear hS hR e
    induction ns with
    | nil => exact .nil
    | cons n ns ih => exact .cons (.int n) ih
  obtain ⟨L', e⟩ := isYes_ok e
  refine ⟨⟨0, fun _ => 0⟩, L0, [.rol (ns.map D.int)], ⟨rfl, by decide, fun l l' h => absurd h (Nat.not_lt_zero _), fun l h => absurd h (Nat.not_lt_zero _)⟩, .cons (.rol hR hL) .nil, ?_⟩
  rw [e]
  intro m' H' v E R rv
  cases rv
  rfl
def CXw (P : Program) : CXT := fun o H s E e s' => ∃ w, L2.CX P w o H s E e s'
theorem fnok_w {P : Program} {w : World} {K : PySem.W.Frag} {mg : Str → Option Value} {base : Heap} {k : Nat} {f : Addr} {fd : FuncData} {ps : List Str} {sp : Sp} (F : FnOk P w K mg base (L2.CX P w) k f fd ps sp) : FnOk P w K mg base (CXw P) k f fd ps sp :=
  ⟨F.len, fun A o s H args us vs Q E hr he hb hv hs => codeAny_mono (F.run A o s H args us vs Q E hr he hb hv hs) fun r s' q => by
    cases r with
    | error e => exact ⟨w, q⟩
    | ok fl => cases fl <;> exact q⟩
/-- from the head's facts: what walk_ofE asks -/
theorem law_F {m : MD} {tb : List TbE} (ok : m.ok = true) (ht : mkT m.pd m.fds = some tb) {i k : Nat} {d : He.DefD} {N : List Str} {x : Str} {nm : Str} (hi : m.fds[i]? = some (d, N)) (hp : psOf d = [x]) (ha : d.at_ = (nm, none)) (hg : m.gl.lookup nm = some (.fn i))
    {n : Nat} (hv : ∀ ns : List Int, ns.length ≤ n → isYes (callF tb k i [.rol (ns.map D.int)] L0) = true)
    {P : Program} {w : World} {K : PySem.W.Frag} {h : Heap} {mg : Str → Option Value} {f : Addr} (X : K.In h) (G : h.Ns mainGlobals mg) (hmg : mg nm = some (.ref f)) (c : He.SaysX m.fa m.fn [] [] m.ex w h K) :
    ∃ (K : PySem.W.Frag) (fd : FuncData) (sp : Sp), K.In h ∧ (∀ (s : Shared) (u : Value), BindsTo s fd ⟨[u], []⟩ [(x, u)]) ∧
      (∀ (H : Hp) (a : Addr) (ns : List Int), ns.length ≤ n → Only H → SqL K H a (ns.map V.int) → sp [.ref a] H (fun v _ => v = .bl true) fun _ _ _ => False) ∧
      ∀ base : Heap, K.In base → base.Ns mainGlobals mg → FnOk P w K mg base (CXw P) (k + 3) f fd [x] sp := by
  have Mo := modOk_of ok X G P w c.t.d c.more
  obtain ⟨⟨as, hpar⟩, S, fd, F⟩ := Mo.fn i d N hi
  have ef : f = (m.ge K P w).fa i := by
    obtain ⟨u, h1, h2⟩ := Mo.gl nm (.fn i) hg
    have e := hmg.symm.trans h1
    have h3 : u = Value.ref ((m.ge K P w).fa i) := h2
    rw [h3] at e
    cases e
    rfl
  have F2 := F
  rw [hpar] at F2
  obtain ⟨q1, q2⟩ := funD_b F2
  have epa : as.map (·.arg) = [x] := by rw [← hp]; unfold psOf; rw [hpar]
  refine ⟨K, fd, spF (m.ge K P w) (callF tb k i), X, fun s u => .of_eq ?_, fun H a ns hl hO hS => law_sp hO hS (hv ns hl), fun base _ _ => ?_⟩
  · have b := bind_pos (us := [u]) q1 q2 (by rw [epa]; simp) (by have := congrArg List.length epa; rw [List.length_map] at this; rw [this]; rfl)
    rw [epa] at b
    exact b
  · have z := fns_ok Mo ht base k i d N hi fd F
    rw [hp, ← ef] at z
    exact fnok_w z
theorem cx_end {P : Program} {H : Hp} {s : Shared} {e : Value} {s' : Shared} (h : CXw P [] H s (fun _ _ _ => False) e s') : False := by
  obtain ⟨_, _, _, _, _, _, _, _, _, _, _, _, _, z⟩ := h
  exact z
end FC
end

section
set_option maxHeartbeats 0
namespace K66
open PySem PySem.Spec PyProof.Rows L2 FC
def top (i : Nat) : Stmt := PySem.Challenge.pw_fewclash_k66_texts_by_hand_and_refused.main.body.getD i (.Pass ⟨0, 0, 0, 0⟩)
def inner (s : Stmt) (i : Nat) : Stmt := match s with
  | .ClassDef _ _ _ b _ _ _ _ _ _ _ => b.getD i (.Pass ⟨0, 0, 0, 0⟩)
  | _ => .Pass ⟨0, 0, 0, 0⟩
def dOf (n : Str) (i : Nat) : He.DefD := ⟨(n, none), n, n, defArgs (top i), defBody (top i), defScope (top i), [], []⟩
def fds : List (He.DefD × List Str) :=
  (dOf "is_number" 4, ["thing"]) ::
  (dOf "is_count" 5, ["thing"]) ::
  (dOf "is_below" 6, ["thing", "many"]) ::
  (dOf "is_tuple_of" 7, ["thing", "size"]) ::
  (dOf "tupled" 8, ["thing", "part"]) ::
  (dOf "is_word" 9, ["thing", "arms", "part"]) ::
  (dOf "is_deed" 11, ["thing", "arms", "size", "_"]) ::
  (dOf "number_told" 20, ["word", "sign"]) ::
  (dOf "machine_text" 21, ["machine", "rows", "ends", "lines", "number", "row", "words", "own"]) ::
  (dOf "row_told" 22, ["line", "many", "words", "is_end", "row", "word", "number"]) ::
  (dOf "machine_read" 23, ["text", "lines", "rows", "ends", "number", "line", "told"]) ::
  (dOf "word_text" 24, ["word", "arm"]) ::
  (dOf "word_read" 25, ["text", "arms", "sign"]) ::
  (dOf "view_text" 26, ["view", "told"]) ::
  (dOf "view_read" 27, ["text", "arms", "sign"]) ::
  (dOf "deed_text" 28, ["deed"]) ::
  (dOf "deed_read" 29, ["text", "arms", "words", "many", "found"]) ::
  (dOf "teller_text" 30, ["teller", "lines", "post", "tells", "own"]) ::
  (dOf "post_told" 31, ["line", "many", "found", "word", "number"]) ::
  (dOf "teller_read" 32, ["text", "lines", "posts", "number", "line", "post"]) ::
  (dOf "_law_box" 34, ["script", "k", "cell"]) ::
  (dOf "_law_take" 35, ["tin", "below_so", "drawn", "once_so", "wide_so", "twice_so"]) ::
  (dOf "_law_cells" 36, ["script", "most_so", "cells_so", "k", "cell_so", "at_so"]) ::
  (dOf "_law_same" 37, ["got", "due", "mine", "its"]) ::
  (dOf "_law_there_right" 38, ["apart", "threes", "four", "bare", "teller", "lone", "told", "read", "own", "due"]) ::
  (dOf "_law_heard" 39, ["door", "text", "arms", "error"]) ::
  (dOf "_law_bad_right" 40, ["bad", "door", "text", "arms", "lines", "number", "posts"]) ::
  (dOf "law" 41, ["script", "tin"]) ::
  []
def xs : List XC := [⟨"BadText", "ValueError", false⟩, ⟨"BadLine", "ValueError", true⟩]
def ini : List (Nat × He.DefD) := [(1, ⟨("BadLine", some "__init__"), "__init__", "BadLine.__init__", defArgs (inner (top 2) 0), defBody (inner (top 2) 0), defScope (inner (top 2) 0), [], []⟩)]
def gl : List (Str × GV) :=
  ("is_number", .fn 0) ::
  ("is_count", .fn 1) ::
  ("is_below", .fn 2) ::
  ("is_tuple_of", .fn 3) ::
  ("tupled", .fn 4) ::
  ("is_word", .fn 5) ::
  ("is_deed", .fn 6) ::
  ("number_told", .fn 7) ::
  ("machine_text", .fn 8) ::
  ("row_told", .fn 9) ::
  ("machine_read", .fn 10) ::
  ("word_text", .fn 11) ::
  ("word_read", .fn 12) ::
  ("view_text", .fn 13) ::
  ("view_read", .fn 14) ::
  ("deed_text", .fn 15) ::
  ("deed_read", .fn 16) ::
  ("teller_text", .fn 17) ::
  ("post_told", .fn 18) ::
  ("teller_read", .fn 19) ::
  ("_law_box", .fn 20) ::
  ("_law_take", .fn 21) ::
  ("_law_cells", .fn 22) ::
  ("_law_same", .fn 23) ::
  ("_law_there_right", .fn 24) ::
  ("_law_heard", .fn 25) ::
  ("_law_bad_right", .fn 26) ::
  ("law", .fn 27) ::
  ("BadText", .cls 0) ::
  ("BadLine", .cls 1) ::
  ("NONE", .str "-") ::
  ("END", .str "end") ::
  ("UNTOLD", .str "?") ::
  ("TELLS", .str "!") ::
  ("HIDES", .str ".") ::
  ("MOST_FIGURES", .int 13) ::
  ("FIGURES", .str "0123456789") ::
  []
def md : MD := ⟨fds, xs, gl, ini⟩
def lawAt : Nat := 41
def lawIx : Nat := 27
def loose : List Str := (["is_number", "is_count", "is_below", "is_tuple_of", "tupled", "is_word", "is_deed", "number_told", "machine_text", "row_told", "machine_read", "word_text", "word_read", "view_text", "view_read", "deed_text", "deed_read", "teller_text", "post_told", "teller_read", "_law_box", "_law_take", "_law_cells", "_law_same", "_law_there_right", "_law_heard", "_law_bad_right", "BadText", "BadLine", "NONE"] : List Str) ++ (["END", "UNTOLD", "TELLS", "HIDES", "MOST_FIGURES", "FIGURES"] : List Str)
theorem md_ok : md.ok = true := by decide +kernel
theorem tb_ok : (mkT md.pd md.fds).isSome = true := by decide +kernel
end K66
end

section
set_option maxHeartbeats 0
namespace K66
open PySem PySem.Spec PyProof.Rows L2 FC
abbrev i_ (k : Int) : FE := xC (.int k)
abbrev v_ (k : Nat) : FE := xVar k
abbrev one (a : FE) : FL := lCons a lNil
abbrev int_ (a : FE) : FE := xCall dInt (one a)
abbrev abs_ (a : FE) : FE := xCall dAbs (one a)
abbrev ad (a b : FE) : FE := xBin dAdd a b
abbrev mu (a b : FE) : FE := xBin dMul a b
abbrev mo (a b : FE) : FE := xBin dMod a b
abbrev fd (a b : FE) : FE := xBin dFdiv a b
abbrev ix (a b : FE) : FE := xBin dIx a b
def fLaw : CS := fun cf => sSeq (sAsg 1 (xApp cf (xC (.fn 20)) (lCons (xApp cf (xC (.fn 22)) (lCons (v_ 0) (one (i_ 1)))) (one (i_ 0)))))
  (sRet (xIf (tBl (xBin dEq (xApp cf (xC (.fn 21)) (lCons (v_ 1) (one (i_ 2)))) (i_ 0))) (xApp cf (xC (.fn 24)) lNil) (xApp cf (xC (.fn 26)) lNil)))
theorem eLaw : cBody md.pd (dOf "law" 41) ["script", "tin"] = some fLaw := by kernel_rfl
def fBox : CS := fun cf => sSeq (sAsg 2 (xIf (tBl (xBin dLt (v_ 1) (xCall dLen (one (v_ 0))))) (ix (v_ 0) (v_ 1)) (i_ 0)))
  (sRet (xLst (lCons (mu (abs_ (v_ 2)) (int_ (xBin dGe (abs_ (v_ 2)) (xBin dPow (i_ 10) (i_ 18))))) (lCons (ad (ad (mo (int_ (v_ 2)) (i_ 2305843009213693951)) (mu (i_ 39373) (v_ 1))) (i_ 17190)) (one (i_ 0))))))
theorem eBox : cBody md.pd (dOf "_law_box" 34) ["script", "k", "cell"] = some fBox := by kernel_rfl
def fTake1 : FS := sIf (tBl (xBin dGt (ix (v_ 0) (i_ 0)) (i_ 0))) (sSeq (sAsg 2 (mo (int_ (ix (v_ 0) (i_ 0))) (v_ 1))) (sSeq (sSub (v_ 0) (i_ 0) (fd (ix (v_ 0) (i_ 0)) (v_ 1))) (sRet (v_ 2)))) sNx
def fTake : CS := fun cf => sSeq fTake1 (sSeq (sSub (v_ 0) (i_ 2) (ad (ix (v_ 0) (i_ 2)) (i_ 1)))
  (sSeq (sAsg 3 (mo (int_ (mu (ad (ix (v_ 0) (i_ 1)) (mu (i_ 48271) (ix (v_ 0) (i_ 2)))) (ad (i_ 39373) (ix (v_ 0) (i_ 2))))) (i_ 2147483647)))
  (sSeq (sAsg 4 (ad (mo (int_ (v_ 3)) (i_ 40009)) (i_ 7)))
  (sSeq (sAsg 5 (mo (int_ (mu (ad (ad (v_ 3) (ix (v_ 0) (i_ 2))) (fd (ix (v_ 0) (i_ 1)) (i_ 1000003))) (v_ 4))) (i_ 2147483629)))
  (sRet (mo (int_ (fd (mo (int_ (ad (mu (v_ 5) (i_ 48271)) (v_ 3))) (i_ 2147483587)) (i_ 64))) (v_ 1)))))))
theorem eTake : cBody md.pd (dOf "_law_take" 35) ["tin", "below_so", "drawn", "once_so", "wide_so", "twice_so"] = some fTake := by kernel_rfl
def fCellB : FS := sSeq (sAsg 5 (mo (int_ (v_ 3)) (v_ 1))) (sSub (v_ 2) (v_ 5) (ad (ix (v_ 2) (v_ 5)) (mu (v_ 4) (ad (v_ 3) (i_ 2)))))
def fCells : CS := fun cf => sSeq (sAsg 2 (xOr (xCall dList (one (xSl (v_ 0) oNo (oSm (v_ 1))))) (xLst (one (i_ 0)))))
  (sSeq (xFor (xEnum (one (xSl (v_ 0) (oSm (v_ 1)) (oSm (i_ 63))))) (gT 2 (gsCons (gN 3) (gsCons (gN 4) gsNil))) fCellB) (sRet (v_ 2)))
theorem eCells : cBody md.pd (dOf "_law_cells" 36) ["script", "most_so", "cells_so", "k", "cell_so", "at_so"] = some fCells := by kernel_rfl
end K66
end

section
set_option maxHeartbeats 400000
namespace K66
open PySem PySem.Spec PyProof.Rows L2 FC
def H4 (p q r s : LO) : LH := (((L0.new p).new q).new r).new s
def tin (a b c : Int) : LO := .lst [.int a, .int b, .int c]
def δt : Sl := startD 6 [.loc 3, .int 2]
theorem tk1 (p q r : LO) (a b c : Int) : (tBl (xBin dGt (ix (v_ 0) (i_ 0)) (i_ 0))) δt (H4 p q r (tin a b c)) = .ok (ltI 0 a) (H4 p q r (tin a b c)) := by kernel_rfl
theorem tkA (p q r : LO) (a b c : Int) : (sSeq (sAsg 2 (mo (int_ (ix (v_ 0) (i_ 0))) (v_ 1))) (sSeq (sSub (v_ 0) (i_ 0) (fd (ix (v_ 0) (i_ 0)) (v_ 1))) (sRet (v_ 2)))) δt (H4 p q r (tin a b c)) =
  .go (.rt (.int (a % 2))) [some (.loc 3), some (.int 2), some (.int (a % 2)), none, none, none] (H4 p q r (tin (a / 2) b c)) := by kernel_rfl
section
variable {A B : FE} {δ : Sl} {L : LH} {i j : Int} {d : D}
theorem mu_ok (hA : A δ L = .ok (.int i) L) (hB : B δ L = .ok (.int j) L) (h1 : -18446744073709551616 < j) (h2 : j < 18446744073709551616) : mu A B δ L = .ok (.int (i * j)) L := by
  show (A δ L).bind _ = _
  rw [hA]
  show (B δ L).bind _ = _
  rw [hB]
  show ofO (dMul (.int i) (.int j) L) = _
  have e : dMul (.int i) (.int j) L = some (.int (i * j), L) := by
    show (bif ltI (-18446744073709551616) i && ltI i 18446744073709551616 || ltI (-18446744073709551616) j && ltI j 18446744073709551616 then some (D.int (i * j), L) else none) = _
    rw [ltI_eq _ j, ltI_eq j, decide_eq_true h1, decide_eq_true h2, Bool.and_self, Bool.or_true]
    rfl
  rw [e]; rfl
theorem ad_ok (hA : A δ L = .ok (.int i) L) (hB : B δ L = .ok (.int j) L) : ad A B δ L = .ok (.int (i + j)) L := by
  show (A δ L).bind _ = _
  rw [hA]
  show (B δ L).bind _ = _
  rw [hB]
  rfl
theorem mo_ok (hA : A δ L = .ok (.int i) L) (hB : B δ L = .ok (.int j) L) (h1 : 0 < j) : mo A B δ L = .ok (.int (i % j)) L := by
  show (A δ L).bind _ = _
  rw [hA]
  show (B δ L).bind _ = _
  rw [hB]
  show ofO (bif ltI 0 j then some (D.int (i % j), L) else none) = _
  rw [ltI_eq, decide_eq_true h1]; rfl
theorem fd_ok (hA : A δ L = .ok (.int i) L) (hB : B δ L = .ok (.int j) L) (h1 : 0 < j) (h2 : j < 1073741824) : fd A B δ L = .ok (.int (i / j)) L := by
  show (A δ L).bind _ = _
  rw [hA]
  show (B δ L).bind _ = _
  rw [hB]
  show ofO (bif ltI 0 j && ltI j 1073741824 then some (D.int (i / j), L) else none) = _
  rw [ltI_eq, ltI_eq, decide_eq_true h1, decide_eq_true h2]; rfl
theorem int_ok (hA : A δ L = .ok (.int i) L) : int_ A δ L = .ok (.int i) L := by
  show ((A δ L).bind _).bind _ = _
  rw [hA]; rfl
theorem asg_ok {k : Nat} (h : A δ L = .ok d L) : sAsg k A δ L = .go .nx (δ.set k (some d)) L := by
  show (A δ L).then δ _ = _
  rw [h]
  show setS δ k d _ = _
  rw [setS_eq]
theorem seq_ok {f g : FS} {δ' : Sl} {L' : LH} (h : f δ L = .go .nx δ' L') : sSeq f g δ L = g δ' L' := by
  unfold sSeq
  rw [h]
theorem ret_ok (h : A δ L = .ok d L) : sRet A δ L = .go (.rt d) δ L := by
  show (A δ L).then δ _ = _
  rw [h]; rfl
end
theorem tk (cf : CF) (p q r : LO) (a b : Int) : ∃ e a' b' c', (e = 0 ∨ e = 1) ∧ endR (fTake cf δt (H4 p q r (tin a b 0))) = .ok (.int e) (H4 p q r (tin a' b' c')) := by
  have c1 := tk1 p q r a b 0
  cases h : ltI 0 a with
  | true =>
    refine ⟨a % 2, a / 2, b, 0, by omega, ?_⟩
    have e1 : fTake1 δt (H4 p q r (tin a b 0)) = .go (.rt (.int (a % 2))) [some (.loc 3), some (.int 2), some (.int (a % 2)), none, none, none] (H4 p q r (tin (a / 2) b 0)) := by
      rw [← tkA p q r a b 0]
      unfold fTake1 sIf
      rw [c1, h]; rfl
    unfold fTake
    have e2 : ∀ g, sSeq fTake1 g δt (H4 p q r (tin a b 0)) = .go (.rt (.int (a % 2))) [some (.loc 3), some (.int 2), some (.int (a % 2)), none, none, none] (H4 p q r (tin (a / 2) b 0)) := fun g => by
      unfold sSeq
      rw [e1]
    rw [e2]; rfl
  | false =>
    have e1 : fTake1 δt (H4 p q r (tin a b 0)) = .go .nx δt (H4 p q r (tin a b 0)) := by
      unfold fTake1 sIf
      rw [c1, h]; rfl
    let L1 := H4 p q r (tin a b 1)
    have s1 : sSub (v_ 0) (i_ 2) (ad (ix (v_ 0) (i_ 2)) (i_ 1)) δt (H4 p q r (tin a b 0)) = .go .nx δt L1 := by kernel_rfl
    have g1 : ∀ x y z, ix (v_ 0) (i_ 1) [some (.loc 3), some (.int 2), none, x, y, z] L1 = .ok (.int b) L1 := fun x y z => by kernel_rfl
    have g2 : ∀ x y z, ix (v_ 0) (i_ 2) [some (.loc 3), some (.int 2), none, x, y, z] L1 = .ok (.int 1) L1 := fun x y z => by kernel_rfl
    have s2 := asg_ok (k := 3) (mo_ok (int_ok (mu_ok (ad_ok (g1 none none none) (mu_ok (A := i_ 48271) (i := 48271) rfl (g2 none none none) (by decide) (by decide))) (ad_ok (A := i_ 39373) (i := 39373) rfl (g2 none none none)) (by decide) (by decide))) (B := i_ 2147483647) (j := 2147483647) rfl (by decide))
    generalize (b + 48271 * 1) * (39373 + 1) % 2147483647 = o at s2
    have v3 : ∀ y z, v_ 3 [some (.loc 3), some (.int 2), none, some (.int o), y, z] L1 = .ok (.int o) L1 := fun y z => rfl
    have s3 := asg_ok (k := 4) (ad_ok (mo_ok (int_ok (v3 none none)) (B := i_ 40009) (j := 40009) rfl (by decide)) (B := i_ 7) (j := 7) rfl)
    have w1 : -18446744073709551616 < o % 40009 + 7 := by omega
    have w2 : o % 40009 + 7 < 18446744073709551616 := by omega
    generalize o % 40009 + 7 = w at s3 w1 w2
    have v4 : v_ 4 [some (.loc 3), some (.int 2), none, some (.int o), some (.int w), none] L1 = .ok (.int w) L1 := rfl
    have s4 := asg_ok (k := 5) (mo_ok (int_ok (mu_ok (ad_ok (ad_ok (v3 (some (.int w)) none) (g2 (some (.int o)) (some (.int w)) none)) (fd_ok (g1 (some (.int o)) (some (.int w)) none) (B := i_ 1000003) (j := 1000003) rfl (by decide) (by decide))) v4 w1 w2)) (B := i_ 2147483629) (j := 2147483629) rfl (by decide))
    generalize (o + 1 + b / 1000003) * w % 2147483629 = t at s4
    have v5 : v_ 5 [some (.loc 3), some (.int 2), none, some (.int o), some (.int w), some (.int t)] L1 = .ok (.int t) L1 := rfl
    have v1 : v_ 1 [some (.loc 3), some (.int 2), none, some (.int o), some (.int w), some (.int t)] L1 = .ok (.int 2) L1 := rfl
    have s5 := ret_ok (mo_ok (int_ok (fd_ok (mo_ok (int_ok (ad_ok (mu_ok v5 (B := i_ 48271) (j := 48271) rfl (by decide) (by decide)) (v3 (some (.int w)) (some (.int t))))) (B := i_ 2147483587) (j := 2147483587) rfl (by decide)) (B := i_ 64) (j := 64) rfl (by decide) (by decide))) v1 (by decide))
    refine ⟨(t * 48271 + o) % 2147483587 / 64 % 2, a, b, 1, by omega, ?_⟩
    unfold fTake
    rw [seq_ok e1, seq_ok s1]
    refine (congrArg endR (seq_ok s2)).trans ?_
    refine (congrArg endR (seq_ok s3)).trans ?_
    refine (congrArg endR (seq_ok s4)).trans ?_
    exact congrArg endR s5
end K66
end

section
set_option maxHeartbeats 400000
namespace K66
open PySem PySem.Spec PyProof.Rows L2 FC
def H3 (p q r : LO) : LH := ((L0.new p).new q).new r
def b2i : Bool → Int
  | true => 1
  | false => 0
section
variable {A B : FE} {δ : Sl} {L : LH} {i j : Int} {b : Bool}
theorem abs_ok (hA : A δ L = .ok (.int i) L) : abs_ A δ L = .ok (.int (absI i)) L := by
  show ((A δ L).bind _).bind _ = _
  rw [hA]
  show ofO (frcI (absI i) fun i => some (D.int i, L)) = _
  rw [frcI_eq]; rfl
theorem ge_ok (hA : A δ L = .ok (.int i) L) (hB : B δ L = .ok (.int j) L) : xBin dGe A B δ L = .ok (.bl (!ltI i j)) L := by
  show (A δ L).bind _ = _
  rw [hA]
  show (B δ L).bind _ = _
  rw [hB]; rfl
theorem intb_ok (hA : A δ L = .ok (.bl b) L) : int_ A δ L = .ok (.int (b2i b)) L := by
  show ((A δ L).bind _).bind _ = _
  rw [hA]
  cases b <;> rfl
theorem ret_ok' {d : D} {L' : LH} (h : A δ L = .ok d L') : sRet A δ L = .go (.rt d) δ L' := by
  show (A δ L).then δ _ = _
  rw [h]; rfl
theorem cons_ok {d : D} {ds : List D} {r : FL} (hA : A δ L = .ok d L) (hr : r δ L = .ok ds L) : lCons A r δ L = .ok (d :: ds) L := by
  show (A δ L).bind _ = _
  rw [hA]
  show (r δ L).bind _ = _
  rw [hr]; rfl
end
theorem bx (cf : CF) (p r : LO) (y : Int) : ∃ a b, endR (fBox cf (startD 3 [.loc 1, .int 0]) (H3 p (.lst [.int y]) r)) = .ok (.loc 3) (H4 p (.lst [.int y]) r (tin a b 0)) := by
  let L1 := H3 p (.lst [.int y]) r
  let δ1 : Sl := [some (.loc 1), some (.int 0), some (.int y)]
  have s1 : sAsg 2 (xIf (tBl (xBin dLt (v_ 1) (xCall dLen (one (v_ 0))))) (ix (v_ 0) (v_ 1)) (i_ 0)) (startD 3 [.loc 1, .int 0]) L1 = .go .nx δ1 L1 := by kernel_rfl
  have v2 : v_ 2 δ1 L1 = .ok (.int y) L1 := rfl
  have pw : xBin dPow (i_ 10) (i_ 18) δ1 L1 = .ok (.int 1000000000000000000) L1 := by kernel_rfl
  have e1 := intb_ok (ge_ok (abs_ok v2) pw)
  have e2 : ∃ j : Int, int_ (xBin dGe (abs_ (v_ 2)) (xBin dPow (i_ 10) (i_ 18))) δ1 L1 = .ok (.int j) L1 ∧ -18446744073709551616 < j ∧ j < 18446744073709551616 := by
    cases h : !ltI (absI y) 1000000000000000000 with
    | true => rw [h] at e1; exact ⟨1, e1, by decide, by decide⟩
    | false => rw [h] at e1; exact ⟨0, e1, by decide, by decide⟩
  obtain ⟨j, e2, j1, j2⟩ := e2
  have e3 := mu_ok (abs_ok v2) e2 j1 j2
  have v1 : v_ 1 δ1 L1 = .ok (.int 0) L1 := rfl
  have e4 := ad_ok (ad_ok (mo_ok (int_ok v2) (B := i_ 2305843009213693951) (j := 2305843009213693951) rfl (by decide)) (mu_ok (A := i_ 39373) (i := 39373) rfl v1 (by decide) (by decide))) (B := i_ 17190) (j := 17190) rfl
  generalize absI y * j = a at e3
  generalize y % 2305843009213693951 + 39373 * 0 + 17190 = b at e4
  have e5 := cons_ok e3 (cons_ok e4 (cons_ok (A := i_ 0) (d := .int 0) rfl (r := lNil) (ds := []) rfl))
  refine ⟨a, b, ?_⟩
  unfold fBox
  refine (congrArg endR (seq_ok s1)).trans ?_
  refine (congrArg endR (ret_ok' (d := .loc 3) (L' := H4 p (.lst [.int y]) r (tin a b 0)) ?_)).trans rfl
  show (lCons _ _ δ1 L1).bind _ = _
  rw [e5]
  kernel_rfl
end K66
end

section
set_option maxHeartbeats 400000
namespace K66
open PySem PySem.Spec PyProof.Rows L2 FC
theorem cl1 (x : Int) (xs : List D) : sAsg 2 (xOr (xCall dList (one (xSl (v_ 0) oNo (oSm (v_ 1))))) (xLst (one (i_ 0)))) (startD 6 [.rol (.int x :: xs), .int 1]) L0 =
  .go .nx [some (.rol (.int x :: xs)), some (.int 1), some (.loc 1), none, none, none] ((L0.new (.lst [.int x])).new (.lst [.int x])) := by kernel_rfl
def LK (p r : LO) (y : Int) : LH := ((L0.new p).new (.lst [.int y])).new (.lck r)
def fgC : FG := gT 2 (gsCons (gN 3) (gsCons (gN 4) gsNil))
theorem sub_ok {o i a : FE} {δ : Sl} {L L' : LH} {d x y : D} (ha : a δ L = .ok d L) (ho : o δ L = .ok x L) (hi : i δ L = .ok y L) (h : dSet x y d L = some L') : sSub o i a δ L = .go .nx δ L' := by
  show (a δ L).then δ _ = _
  rw [ha]
  show (o δ L).then δ _ = _
  rw [ho]
  show (i δ L).then δ _ = _
  rw [hi]
  show (match dSet x y d L with
    | some L4 => SR.go .nx δ L4
    | none => .bad) = _
  rw [h]
theorem stepC (p r : LO) (y j : Int) (k : Nat) (hk : k < 1000) (s : D) (a b c : Option D) : ∃ y', fgC (.tup [.int (Int.ofNat k), .int j]) [some s, some (.int 1), some (.loc 1), a, b, c] = some [some s, some (.int 1), some (.loc 1), some (.int (Int.ofNat k)), some (.int j), c] ∧
    fCellB [some s, some (.int 1), some (.loc 1), some (.int (Int.ofNat k)), some (.int j), c] (LK p r y) = .go .nx [some s, some (.int 1), some (.loc 1), some (.int (Int.ofNat k)), some (.int j), some (.int 0)] (LK p r y') := by
  have v3 : ∀ z, v_ 3 [some s, some (.int 1), some (.loc 1), some (.int (Int.ofNat k)), some (.int j), z] (LK p r y) = .ok (.int (Int.ofNat k)) (LK p r y) := fun z => rfl
  have v4 : ∀ z, v_ 4 [some s, some (.int 1), some (.loc 1), some (.int (Int.ofNat k)), some (.int j), z] (LK p r y) = .ok (.int j) (LK p r y) := fun z => rfl
  have v1 : v_ 1 [some s, some (.int 1), some (.loc 1), some (.int (Int.ofNat k)), some (.int j), c] (LK p r y) = .ok (.int 1) (LK p r y) := rfl
  have s1 := asg_ok (k := 5) (mo_ok (int_ok (v3 c)) v1 (by decide))
  rw [Int.emod_one] at s1
  have g0 : ix (v_ 2) (v_ 5) [some s, some (.int 1), some (.loc 1), some (.int (Int.ofNat k)), some (.int j), some (.int 0)] (LK p r y) = .ok (.int y) (LK p r y) := by kernel_rfl
  have e2 := ad_ok g0 (mu_ok (v4 (some (.int 0))) (ad_ok (v3 (some (.int 0))) (B := i_ 2) (j := 2) rfl) (by have : Int.ofNat k = (k : Int) := rfl; omega) (by have : Int.ofNat k = (k : Int) := rfl; omega))
  refine ⟨y + j * (Int.ofNat k + 2), by kernel_rfl, ?_⟩
  unfold fCellB
  refine (seq_ok s1).trans ?_
  exact sub_ok (x := .loc 1) (y := .int 0) e2 rfl rfl (by kernel_rfl)
theorem loopC (p r : LO) (s : D) : ∀ (js : List Int) (k : Nat) (y : Int) (a b c : Option D), k + js.length ≤ 500 → ∃ y' a' b' c', forL fgC fCellB (enumL k (js.map D.int)) [some s, some (.int 1), some (.loc 1), a, b, c] (LK p r y) = .go .nx [some s, some (.int 1), some (.loc 1), a', b', c'] (LK p r y')
  | [], k, y, a, b, c, _ => ⟨y, a, b, c, rfl⟩
  | j :: js, k, y, a, b, c, h => by
    rw [List.length_cons] at h
    obtain ⟨y1, h1, h2⟩ := stepC p r y j k (by omega) s a b c
    obtain ⟨y2, a2, b2, c2, h3⟩ := loopC p r s js (k + 1) y1 (some (.int (Int.ofNat k))) (some (.int j)) (some (.int 0)) (by omega)
    refine ⟨y2, a2, b2, c2, ?_⟩
    show forL fgC fCellB (.tup [.int (Int.ofNat k), .int j] :: enumL (k + 1) (js.map D.int)) _ _ = _
    rw [forL, h1]
    show (match fCellB _ (LK p r y) with
      | .go .nx δ2 L2 => forL fgC fCellB (enumL (k + 1) (js.map D.int)) δ2 L2
      | .go .ct δ2 L2 => forL fgC fCellB (enumL (k + 1) (js.map D.int)) δ2 L2
      | .go .bk δ2 L2 => .go .nx δ2 L2
      | .go (.rt d) δ2 L2 => .go (.rt d) δ2 L2
      | .ex x δ2 L2 => .ex x δ2 L2
      | .bad => .bad) = _
    rw [h2]
    exact h3
end K66
end

section
set_option maxHeartbeats 400000
namespace K66
open PySem PySem.Spec PyProof.Rows L2 FC
theorem cut_int (a b : Option Int) (ns : List Int) : ∃ js : List Int, FC.cutD (ns.map D.int) a b = js.map D.int ∧ js.length ≤ ns.length := by
  unfold FC.cutD
  rw [takeN_eq, dropN_eq]
  generalize sixD _ _ b - _ = t
  generalize sixD _ 0 a = d
  refine ⟨(ns.drop d).take t, by rw [List.map_take, List.map_drop], ?_⟩
  rw [List.length_take, List.length_drop]; omega
theorem cells (cf : CF) (x : Int) (ns : List Int) (hl : ns.length ≤ 63) : ∃ y r, endR (fCells cf (startD 6 [.rol (.int x :: ns.map D.int), .int 1]) L0) = .ok (.loc 1) (H3 (.lst [.int x]) (.lst [.int y]) r) := by
  obtain ⟨js, e1, e2⟩ := cut_int (some 1) (some 63) (x :: ns)
  have e1 : FC.cutD (.int x :: ns.map D.int) (some 1) (some 63) = js.map D.int := e1
  have s1 := cl1 x (ns.map D.int)
  have f1 : xEnum (one (xSl (v_ 0) (oSm (v_ 1)) (oSm (i_ 63)))) [some (.rol (.int x :: ns.map D.int)), some (.int 1), some (.loc 1), none, none, none] ((L0.new (.lst [.int x])).new (.lst [.int x])) =
    .ok (enumL 0 (FC.cutD (.int x :: ns.map D.int) (some 1) (some 63)), [2]) (((L0.new (.lst [.int x])).new (.lst [.int x])).new (.lst (FC.cutD (.int x :: ns.map D.int) (some 1) (some 63)))) := by kernel_rfl
  rw [e1] at f1
  obtain ⟨y, a, b, c, h⟩ := loopC (.lst [.int x]) (.lst (js.map D.int)) (.rol (.int x :: ns.map D.int)) js 0 x none none none (by rw [List.length_cons] at e2; omega)
  have lk : lockAll [2] (((L0.new (.lst [.int x])).new (.lst [.int x])).new (.lst (js.map D.int))) = LK (.lst [.int x]) (.lst (js.map D.int)) x := by kernel_rfl
  have s2 : xFor (xEnum (one (xSl (v_ 0) (oSm (v_ 1)) (oSm (i_ 63))))) fgC fCellB [some (.rol (.int x :: ns.map D.int)), some (.int 1), some (.loc 1), none, none, none] ((L0.new (.lst [.int x])).new (.lst [.int x])) =
    .go .nx [some (.rol (.int x :: ns.map D.int)), some (.int 1), some (.loc 1), a, b, c] (H3 (.lst [.int x]) (.lst [.int y]) (.lst (js.map D.int))) := by
    unfold xFor
    rw [f1]
    show (forL fgC fCellB (enumL 0 (js.map D.int)) _ (lockAll [2] _)).unl [2] = _
    rw [lk, h]
    kernel_rfl
  refine ⟨y, .lst (js.map D.int), ?_⟩
  unfold fCells
  refine (congrArg endR (seq_ok s1)).trans ?_
  refine (congrArg endR (seq_ok s2)).trans ?_
  rfl
end K66
end

section
set_option maxHeartbeats 0
namespace K66
open PySem PySem.Spec PyProof.Rows L2 FC
def tbO : Option (List TbE) := mkT md.pd md.fds
def yes (k i : Nat) (ds : List D) (L : LH) : Bool := match tbO with
  | some tb => isYes (callF tb k i ds L)
  | none => false
theorem yes_eq {tb : List TbE} (ht : mkT md.pd md.fds = some tb) (k i : Nat) (ds : List D) (L : LH) : yes k i ds L = isYes (callF tb k i ds L) := by
  unfold yes tbO
  rw [ht]
theorem y0 : yes 60 27 [.rol []] L0 = true := by decide +kernel
theorem y24 (p q r : LO) (a b c : Int) : yes 59 24 [] (H4 p q r (tin a b c)) = true := by kernel_rfl
theorem y26 (p q r : LO) (a b c : Int) : yes 59 26 [] (H4 p q r (tin a b c)) = true := by kernel_rfl
theorem at_ {tb : List TbE} (ht : mkT md.pd md.fds = some tb) : tb[20]? = some (2, 3, fBox) ∧ tb[21]? = some (2, 6, fTake) ∧ tb[22]? = some (2, 6, fCells) ∧ tb[27]? = some (1, 2, fLaw) := by
  have h20 : (mkT md.pd md.fds).map (fun t => t[20]?) = some (some (2, 3, fBox)) := by kernel_rfl
  have h21 : (mkT md.pd md.fds).map (fun t => t[21]?) = some (some (2, 6, fTake)) := by kernel_rfl
  have h22 : (mkT md.pd md.fds).map (fun t => t[22]?) = some (some (2, 6, fCells)) := by kernel_rfl
  have h27 : (mkT md.pd md.fds).map (fun t => t[27]?) = some (some (1, 2, fLaw)) := by kernel_rfl
  rw [ht] at h20 h21 h22 h27
  exact ⟨Option.some.inj h20, Option.some.inj h21, Option.some.inj h22, Option.some.inj h27⟩
end K66
end

section
set_option maxHeartbeats 400000
namespace K66
open PySem PySem.Spec PyProof.Rows L2 FC
theorem call_eq {tb : List TbE} {i k np nN : Nat} {f : CS} {ds : List D} {L : LH} (h : tb[i]? = some (np, nN, f)) (hl : ds.length.beq np = true) : callF tb (k + 1) i ds L = endR (f (callF tb k) (startD nN ds) L) := by
  show (match tb[i]? with
    | some (np, nN, f) => runB np nN f (callF tb k) ds L
    | none => .bad) = _
  rw [h]
  show runB np nN f (callF tb k) ds L = _
  unfold runB
  rw [hl]
theorem asg_ok' {A : FE} {δ : Sl} {L L' : LH} {d : D} {k : Nat} (h : A δ L = .ok d L') : sAsg k A δ L = .go .nx (δ.set k (some d)) L' := by
  show (A δ L).then δ _ = _
  rw [h]
  show setS δ k d _ = _
  rw [setS_eq]
theorem yes_end {A : FE} {δ : Sl} {L : LH} : isYes (endR (sRet A δ L)) = isYes (A δ L) := by
  show isYes (endR ((A δ L).then δ _)) = _
  cases A δ L <;> rfl
theorem hv {tb : List TbE} (ht : mkT md.pd md.fds = some tb) : ∀ ns : List Int, ns.length ≤ 63 → isYes (callF tb 60 lawIx [.rol (ns.map D.int)] L0) = true
  | [], _ => by
    rw [← yes_eq ht]
    exact y0
  | x :: ns, hl => by
    obtain ⟨a20, a21, a22, a27⟩ := at_ ht
    show isYes (callF tb (59 + 1) 27 _ L0) = true
    rw [call_eq a27 rfl]
    obtain ⟨y, r, hc⟩ := cells (callF tb 58) x ns (by rw [List.length_cons] at hl; omega)
    obtain ⟨a, b, hb⟩ := bx (callF tb 58) (.lst [.int x]) r y
    obtain ⟨e, a', b', c', he, htk⟩ := tk (callF tb 58) (.lst [.int x]) (.lst [.int y]) r a b
    have c1 : callF tb 59 22 [.rol (.int x :: ns.map D.int), .int 1] L0 = .ok (.loc 1) (H3 (.lst [.int x]) (.lst [.int y]) r) := (call_eq a22 rfl).trans hc
    have c2 : callF tb 59 20 [.loc 1, .int 0] (H3 (.lst [.int x]) (.lst [.int y]) r) = .ok (.loc 3) (H4 (.lst [.int x]) (.lst [.int y]) r (tin a b 0)) := (call_eq a20 rfl).trans hb
    have c3 : callF tb 59 21 [.loc 3, .int 2] (H4 (.lst [.int x]) (.lst [.int y]) r (tin a b 0)) = .ok (.int e) (H4 (.lst [.int x]) (.lst [.int y]) r (tin a' b' c')) := (call_eq a21 rfl).trans htk
    have s1 : sAsg 1 (xApp (callF tb 59) (xC (.fn 20)) (lCons (xApp (callF tb 59) (xC (.fn 22)) (lCons (v_ 0) (one (i_ 1)))) (one (i_ 0)))) (startD 2 [.rol ((x :: ns).map D.int)]) L0 = .go .nx [some (.rol (.int x :: ns.map D.int)), some (.loc 3)] (H4 (.lst [.int x]) (.lst [.int y]) r (tin a b 0)) := by
      refine asg_ok' (d := .loc 3) ?_
      show ((callF tb 59 22 [.rol (.int x :: ns.map D.int), .int 1] L0).bind _).bind _ = _
      rw [c1]
      exact c2
    unfold fLaw
    refine (congrArg (fun z => isYes (endR z)) (seq_ok s1)).trans ?_
    refine yes_end.trans ?_
    show isYes ((((callF tb 59 21 [.loc 3, .int 2] (H4 (.lst [.int x]) (.lst [.int y]) r (tin a b 0))).bind _).bind _).bind _) = true
    rw [c3]
    rcases he with rfl | rfl
    · show isYes (callF tb 59 24 [] _) = true
      rw [← yes_eq ht]
      exact y24 _ _ _ _ _ _
    · show isYes (callF tb 59 26 [] _) = true
      rw [← yes_eq ht]
      exact y26 _ _ _ _ _ _
end K66
end

section
set_option maxHeartbeats 0
namespace K66
open PySem PySem.Spec PyProof.Rows L2 FC
abbrev R : PySem.W.OpenRow := PySem.W.OpenLaw.row PySem.Challenge.rw_fewclash_k66_texts_by_hand_and_refused
abbrev hk : PySem.W.Hook := He.hookX 5 md.fa md.fn [] [] md.ex
def ob (s : PySem.W.SharedT) : He.AlX := He.obsX 5 md.fa md.fn [] [] md.ex (HandSHeadRun.getT s)
theorem ob_eq (s : PySem.W.SharedT) : ob s = hk.obs s.abs := He.obsX_eq (HandSHeadRun.getT_eq s)
theorem run (w : World) : HandSHeadRun.RunEq R (PySem.W.view R.prog [41]) hk ob 4000 loose w := by
  intro os
  kernel_rfl
end K66
end

section
set_option maxHeartbeats 0
open PySem PySem.W PySem.Calls PyProof.Rows
theorem PySem.Challenge.cw_fewclash_k66_texts_by_hand_and_refused_holds : PySem.Challenge.rw_fewclash_k66_texts_by_hand_and_refused.Holds := by
  w_on; o_law
  refine HandSHeadRun.head_any (r := OpenLaw.row PySem.Challenge.rw_fewclash_k66_texts_by_hand_and_refused) (q := view (OpenLaw.row PySem.Challenge.rw_fewclash_k66_texts_by_hand_and_refused).prog [41]) (H := K66.hk) (ob := K66.ob) (M := 4000) (loose := K66.loose) (d := HandSHeadRun.topDef (OpenLaw.row PySem.Challenge.rw_fewclash_k66_texts_by_hand_and_refused).prog 41) (kwd := []) K66.ob_eq
    (by kernel_rfl) (fun s => by kernel_rfl) K66.run (by kernel_rfl) (by kernel_rfl) (by kernel_rfl) (by rfl) (by first | assumption | decide +kernel) (by decide +kernel) ⟨rfl, rfl, rfl, rfl, rfl, by decide +kernel⟩ ?hw ?hc
  case hw => w_witness2
  case hc =>
    refine L2.walk_ofE (l := PySem.Challenge.rw_fewclash_k66_texts_by_hand_and_refused) (n := 63) (k := 63) (x := "script") (CX := FC.CXw (PySem.Challenge.rw_fewclash_k66_texts_by_hand_and_refused).prog) rfl (by decide) (by kernel_rfl) ⟨rfl, by decide, by decide⟩ ?F (fun _ _ _ _ z => FC.cx_end z)
    intro w mg fa h Y G hmg0
    obtain ⟨K, KX, c⟩ := Y
    have hmg : mg ("law" : PySem.Str) = some (.ref fa) := by
      have e : (HandSHeadRun.topDef (OpenLaw.row PySem.Challenge.rw_fewclash_k66_texts_by_hand_and_refused).prog 41).name = ("law" : PySem.Str) := by kernel_rfl
      rw [← e]
      exact hmg0
    obtain ⟨tb, ht⟩ := Option.isSome_iff_exists.mp K66.tb_ok
    exact FC.law_F K66.md_ok ht (i := K66.lawIx) (k := 60) rfl rfl rfl (by kernel_rfl) (K66.hv ht) KX G hmg c
end
