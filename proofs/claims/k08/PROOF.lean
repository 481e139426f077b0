import PyProof.Rows.All
import Wide.All
import OpenK.AllK
import Wide.FinOn
import HandS.ForMost
import HandS.Wide
import HandS.Flow
import HandS.Exc
import HandS.ExcOwn
import HandS.ExcIs
import HandS.WordsExc
import HandS.ExcValue
import HandS.TupMul
import HandS.TupAny
import HandS.Style
import KE.KRevSl
import HandS.IsInst
import HandS.NoneIn
import HandS.Zip
import PyProof.Draws
import HandS.More
import HandS.Iter
import HandS.Text
import HandS.Codes
import HandS.Conv
import HandS.TupLe
import PySem.Challenge.RW_nearlaid_k08_read_table
set_option Elab.async false
set_option linter.all false
set_option maxRecDepth 100000
/-! ND: data values over the abstract heap, and the judgements that speak of data alone. -/
namespace ND
open PySem PySem.Spec PyProof.Rows L2

/-- the kinds of refusal -/
inductive EC where
  | near | num | tab | name | row | ask | bound | many | sums
  deriving DecidableEq
def EC.nm : EC → Str
  | .near => "NearError"
  | .num => "NoNumber"
  | .tab => "NoTable"
  | .name => "NoName"
  | .row => "NoRow"
  | .ask => "NoAsk"
  | .bound => "NoBound"
  | .many => "TooMany"
  | .sums => "NoSums"
inductive D where
  | non | bl (b : Bool) | int (i : Int) | str (x : Str) | tup (l : List D) | lst (l : List D) | ref (a : Addr) | kls (l : List D) | fn (x : Str)
inductive Cell where
  | lst (l : List D)
  | ins (C : Addr) (fs : List (Str × D))
  | dK (kvs : List (Key × D))
  | dT (kvs : List (List Key × D))
  | exc (e : EC)
abbrev Store := Addr → Option Cell
abbrev Blk := Addr → Prop
abbrev Slots := List (Option D)
def sput (S : Store) (a : Addr) (c : Cell) : Store := fun b => if b = a then some c else S b
theorem sput_same {S : Store} {a : Addr} {c : Cell} : sput S a c a = some c := by unfold sput; rw [if_pos rfl]
theorem sput_ne {S : Store} {a b : Addr} {c : Cell} (h : b ≠ a) : sput S a c b = S b := by unfold sput; rw [if_neg h]
theorem sput_sput {S : Store} {a : Addr} {c c' : Cell} : sput (sput S a c) a c' = sput S a c' := by
  funext b; unfold sput; split <;> rfl

def KTup (K : PySem.W.Frag) (a : Addr) (xs : List V) : Prop :=
  ∃ (o : Obj) (its : Array Value) (n : Nat), K.lookup a = some o ∧ o.cls = .type "tuple" ∧ o.data = .seq its n ∧ its.size ≤ sizeLine ∧ Vals xs its.toList

/-- a list of the written part (the script may be one) -/
def KLst (K : PySem.W.Frag) (a : Addr) (xs : List V) : Prop :=
  ∃ (o : Obj) (its : Array Value) (n : Nat), K.lookup a = some o ∧ o.cls = .type "list" ∧ o.dict = none ∧ o.data = .seq its n ∧ its.size ≤ sizeLine ∧ Vals xs its.toList

/-- a refusal's object, caught -/
def ExT (C a : Addr) : HO := .ext fun h => ∃ (oe : Obj) (fv : Array Value), h.get? a = some oe ∧ Zc (.ref C) none oe ∧ oe.data = .fields fv
section
variable (K : PySem.W.Frag) (B : Blk) (S : Store) (H : Hp)
def TupAt (a : Addr) (xs : List V) : Prop := (Rd H a (.tup xs) ∧ S a = none ∧ ¬ B a) ∨ KTup K a xs
def LstAt (a : Addr) (xs : List V) : Prop := Rd H a (.lst xs) ∧ S a = none ∧ ¬ B a
mutual
def RepD : D → V → Prop
  | .non, v => v = .non
  | .bl b, v => v = .bl b
  | .int i, v => v = .int i
  | .str x, v => v = .str x
  | .tup l, v => ∃ a xs, v = .ref a ∧ TupAt K B S H a xs ∧ RepL l xs
  | .lst l, v => ∃ a xs, v = .ref a ∧ LstAt B S H a xs ∧ RepL l xs
  | .ref a, v => v = .ref a
  | .fn x, v => ∃ f, PySem.W.nsIn K mainGlobals x = some (some (.ref f)) ∧ v = .ref f
  | .kls l, v => ∃ a xs, v = .ref a ∧ KLst K a xs ∧ RepL l xs
def RepL : List D → List V → Prop
  | [], xs => xs = []
  | d :: l, xs => ∃ v r, xs = v :: r ∧ RepD d v ∧ RepL l r
end
def RepO : Option D → Option V → Prop
  | none, _ => True
  | some d, some v => RepD K B S H d v
  | some _, none => False
def RepF (fs : List (Str × D)) (gs : List (Str × V)) : Prop := Paired (fun (p : Str × D) (q : Str × V) => p.1 = q.1 ∧ RepD K B S H p.2 q.2) fs gs
def RepK {κ : Type} (fs : List (κ × D)) (gs : List (κ × V)) : Prop := Paired (fun (p : κ × D) (q : κ × V) => p.1 = q.1 ∧ RepD K B S H p.2 q.2) fs gs
def RepC (a : Addr) : Cell → Prop
  | .lst l => ∃ xs, H a = some (.lst xs) ∧ RepL K B S H l xs
  | .ins C fs => ∃ dx gs, H a = some (.ins C dx gs) ∧ RepF K B S H fs gs
  | .dK kvs => ∃ gs, H a = some (.dK gs) ∧ RepK K B S H kvs gs
  | .dT kvs => ∃ gs, H a = some (.dT gs) ∧ RepK K B S H kvs gs
  | .exc e => ∃ C, PySem.W.nsIn K mainGlobals e.nm = some (some (.ref C)) ∧ H a = some (ExT C a)
structure RepS : Prop where
  cell : ∀ a c, S a = some c → RepC K B S H a c
  blk : ∀ a, B a → (∃ o, H a = some o) ∧ S a = none
def RepE (env : Slots) (σ : L2.St) : Prop := env.length = σ.length ∧ ∀ (i : Nat) d, env[i]? = some (some d) → ∃ v, σ[i]? = some (some v) ∧ RepD K B S H d v
end
/-- what stays: all that is no cell -/
def Grow (S : Store) (H : Hp) (S' : Store) (H' : Hp) : Prop := ∀ a o, H a = some o → S a = none → H' a = some o ∧ S' a = none
section
variable {K : PySem.W.Frag} {B : Blk} {S S' S'' : Store} {H H' H'' : Hp}
theorem Grow.refl : Grow S H S H := fun _ _ h s => ⟨h, s⟩
theorem Grow.trans (g : Grow S H S' H') (g' : Grow S' H' S'' H'') : Grow S H S'' H'' := fun a o h s => let ⟨h1, s1⟩ := g a o h s; g' a o h1 s1
theorem Grow.rd {a : Addr} {u : HO} (g : Grow S H S' H') (r : Rd H a u) (s : S a = none) : Rd H' a u ∧ S' a = none := by
  rcases r with r | ⟨o, r⟩
  · exact ⟨.inl (g a _ r s).1, (g a _ r s).2⟩
  · exact ⟨.inr ⟨o, (g a _ r s).1⟩, (g a _ r s).2⟩
theorem TupAt.grow {a : Addr} {xs : List V} (t : TupAt K B S H a xs) (g : Grow S H S' H') : TupAt K B S' H' a xs := by
  rcases t with ⟨r, s, n⟩ | k
  · exact .inl ⟨(g.rd r s).1, (g.rd r s).2, n⟩
  · exact .inr k
theorem LstAt.grow {a : Addr} {xs : List V} (t : LstAt B S H a xs) (g : Grow S H S' H') : LstAt B S' H' a xs := by
  obtain ⟨r, s, n⟩ := t
  exact ⟨(g.rd r s).1, (g.rd r s).2, n⟩
theorem TupAt.seq {a : Addr} {xs : List V} (t : TupAt K B S H a xs) : SqT K H a xs := by
  rcases t with ⟨r, _, _⟩ | k
  · exact .inl r
  · exact .inr k
theorem LstAt.seq {a : Addr} {xs : List V} (t : LstAt B S H a xs) : SqL K H a xs := .inl t.1
mutual
theorem RepD.grow (g : Grow S H S' H') : ∀ (d : D) (v : V), RepD K B S H d v → RepD K B S' H' d v
  | .non, v, h => by unfold RepD at h ⊢; exact h
  | .bl b, v, h => by unfold RepD at h ⊢; exact h
  | .int i, v, h => by unfold RepD at h ⊢; exact h
  | .str x, v, h => by unfold RepD at h ⊢; exact h
  | .ref a, v, h => by unfold RepD at h ⊢; exact h
  | .fn x, v, h => by unfold RepD at h ⊢; exact h
  | .tup l, v, h => by
    unfold RepD at h ⊢
    obtain ⟨a, xs, e, t, r⟩ := h
    exact ⟨a, xs, e, t.grow g, RepL.grow g l xs r⟩
  | .lst l, v, h => by
    unfold RepD at h ⊢
    obtain ⟨a, xs, e, t, r⟩ := h
    exact ⟨a, xs, e, t.grow g, RepL.grow g l xs r⟩
  | .kls l, v, h => by
    unfold RepD at h ⊢
    obtain ⟨a, xs, e, t, r⟩ := h
    exact ⟨a, xs, e, t, RepL.grow g l xs r⟩
theorem RepL.grow (g : Grow S H S' H') : ∀ (l : List D) (xs : List V), RepL K B S H l xs → RepL K B S' H' l xs
  | [], xs, h => by unfold RepL at h ⊢; exact h
  | d :: l, xs, h => by
    unfold RepL at h ⊢
    obtain ⟨v, r, e, h1, h2⟩ := h
    exact ⟨v, r, e, RepD.grow g d v h1, RepL.grow g l r h2⟩
end
/- other blocked addresses -/
mutual
theorem RepD.unblk {B' : Blk} (hb : ∀ a, B' a → B a) : ∀ (d : D) (v : V), RepD K B S H d v → RepD K B' S H d v
  | .non, v, h => by unfold RepD at h ⊢; exact h
  | .bl b, v, h => by unfold RepD at h ⊢; exact h
  | .int i, v, h => by unfold RepD at h ⊢; exact h
  | .str x, v, h => by unfold RepD at h ⊢; exact h
  | .ref a, v, h => by unfold RepD at h ⊢; exact h
  | .fn x, v, h => by unfold RepD at h ⊢; exact h
  | .tup l, v, h => by
    unfold RepD at h ⊢
    obtain ⟨a, xs, e, t, r⟩ := h
    refine ⟨a, xs, e, ?_, RepL.unblk hb l xs r⟩
    rcases t with ⟨r, s, n⟩ | k
    · exact .inl ⟨r, s, fun z => n (hb a z)⟩
    · exact .inr k
  | .lst l, v, h => by
    unfold RepD at h ⊢
    obtain ⟨a, xs, e, t, r⟩ := h
    exact ⟨a, xs, e, ⟨t.1, t.2.1, fun z => t.2.2 (hb a z)⟩, RepL.unblk hb l xs r⟩
  | .kls l, v, h => by
    unfold RepD at h ⊢
    obtain ⟨a, xs, e, t, r⟩ := h
    exact ⟨a, xs, e, t, RepL.unblk hb l xs r⟩
theorem RepL.unblk {B' : Blk} (hb : ∀ a, B' a → B a) : ∀ (l : List D) (xs : List V), RepL K B S H l xs → RepL K B' S H l xs
  | [], xs, h => by unfold RepL at h ⊢; exact h
  | d :: l, xs, h => by
    unfold RepL at h ⊢
    obtain ⟨v, r, e, h1, h2⟩ := h
    exact ⟨v, r, e, RepD.unblk hb d v h1, RepL.unblk hb l r h2⟩
end
/-! lists of values -/
theorem repL_nil {xs : List V} : RepL K B S H [] xs ↔ xs = [] := by unfold RepL; exact Iff.rfl
theorem repL_cons {d : D} {l : List D} {xs : List V} : RepL K B S H (d :: l) xs ↔ ∃ v r, xs = v :: r ∧ RepD K B S H d v ∧ RepL K B S H l r := by
  constructor
  · intro h; unfold RepL at h; exact h
  · intro h; unfold RepL; exact h
theorem repL_iff : ∀ {l : List D} {xs : List V}, RepL K B S H l xs ↔ l.length = xs.length ∧ ∀ (i : Nat) d v, l[i]? = some d → xs[i]? = some v → RepD K B S H d v
  | [], xs => by
    rw [repL_nil]
    constructor
    · rintro rfl
      exact ⟨rfl, fun i d v h => by simp at h⟩
    · rintro ⟨e, _⟩
      cases xs with
      | nil => rfl
      | cons a r => simp at e
  | d :: l, xs => by
    rw [repL_cons]
    constructor
    · rintro ⟨v, r, rfl, h1, h2⟩
      obtain ⟨e, f⟩ := repL_iff.mp h2
      refine ⟨by simp [e], fun i d' v' a b => ?_⟩
      cases i with
      | zero =>
        simp at a b
        subst a b
        exact h1
      | succ i => exact f i d' v' (by simpa using a) (by simpa using b)
    · rintro ⟨e, f⟩
      cases xs with
      | nil => simp at e
      | cons v r =>
        refine ⟨v, r, rfl, f 0 d v (by simp) (by simp), repL_iff.mpr ⟨by simpa using e, fun i d' v' a b => f (i + 1) d' v' (by simpa using a) (by simpa using b)⟩⟩
theorem RepL.len {l : List D} {xs : List V} (h : RepL K B S H l xs) : l.length = xs.length := (repL_iff.mp h).1
theorem RepL.get {l : List D} {xs : List V} (h : RepL K B S H l xs) {i : Nat} {d : D} (e : l[i]? = some d) : ∃ v, xs[i]? = some v ∧ RepD K B S H d v := by
  obtain ⟨e1, f⟩ := repL_iff.mp h
  have hi : i < l.length := (List.getElem?_eq_some_iff.mp e).1
  have hx : xs[i]? = some (xs[i]'(by omega)) := List.getElem?_eq_getElem (by omega)
  exact ⟨_, hx, f i d _ e hx⟩
theorem RepL.app {l l' : List D} {xs xs' : List V} (h : RepL K B S H l xs) (h' : RepL K B S H l' xs') : RepL K B S H (l ++ l') (xs ++ xs') := by
  induction l generalizing xs with
  | nil => rw [repL_nil] at h; subst h; exact h'
  | cons d l ih =>
    obtain ⟨v, r, rfl, h1, h2⟩ := repL_cons.mp h
    exact repL_cons.mpr ⟨v, r ++ xs', rfl, h1, ih h2⟩
theorem RepL.one {d : D} {v : V} (h : RepD K B S H d v) : RepL K B S H [d] [v] := repL_cons.mpr ⟨v, [], rfl, h, repL_nil.mpr rfl⟩
theorem RepL.take {l : List D} {xs : List V} (n : Nat) (h : RepL K B S H l xs) : RepL K B S H (l.take n) (xs.take n) := by
  obtain ⟨e, f⟩ := repL_iff.mp h
  refine repL_iff.mpr ⟨by simp [e], fun i d v a b => ?_⟩
  rw [List.getElem?_take] at a b
  by_cases hi : i < n
  · rw [if_pos hi] at a b
    exact f i d v a b
  · rw [if_neg hi] at a
    cases a
theorem RepL.drop {l : List D} {xs : List V} (n : Nat) (h : RepL K B S H l xs) : RepL K B S H (l.drop n) (xs.drop n) := by
  obtain ⟨e, f⟩ := repL_iff.mp h
  refine repL_iff.mpr ⟨by simp [e], fun i d v a b => ?_⟩
  rw [List.getElem?_drop] at a b
  exact f _ d v a b
theorem RepL.set {l : List D} {xs : List V} (n : Nat) {d : D} {v : V} (h : RepL K B S H l xs) (hd : RepD K B S H d v) : RepL K B S H (l.set n d) (xs.set n v) := by
  obtain ⟨e, f⟩ := repL_iff.mp h
  refine repL_iff.mpr ⟨by simp [e], fun i d' v' a b => ?_⟩
  rw [List.getElem?_set] at a b
  by_cases hi : n = i
  · rw [if_pos hi] at a b
    split at a
    · split at b
      · cases a; cases b; exact hd
      · cases b
    · cases a
  · rw [if_neg hi] at a b
    exact f i d' v' a b
theorem RepL.rev {l : List D} {xs : List V} (h : RepL K B S H l xs) : RepL K B S H l.reverse xs.reverse := by
  induction l generalizing xs with
  | nil => rw [repL_nil] at h; subst h; exact repL_nil.mpr rfl
  | cons d l ih =>
    obtain ⟨v, r, rfl, h1, h2⟩ := repL_cons.mp h
    rw [List.reverse_cons, List.reverse_cons]
    exact (ih h2).app (.one h1)
theorem RepL.flat {l : List D} {xs : List V} (h : RepL K B S H l xs) : ∀ k : Nat, RepL K B S H (List.replicate k l).flatten (List.replicate k xs).flatten
  | 0 => repL_nil.mpr rfl
  | k + 1 => by
    rw [List.replicate_succ, List.replicate_succ, List.flatten_cons, List.flatten_cons]
    exact h.app (RepL.flat h k)
theorem RepL.erase {l : List D} {xs : List V} (h : RepL K B S H l xs) (i : Nat) : RepL K B S H (l.eraseIdx i) (xs.eraseIdx i) := by
  rw [List.eraseIdx_eq_take_drop_succ, List.eraseIdx_eq_take_drop_succ]
  exact (h.take i).app (h.drop (i + 1))
theorem repL_ints {ns : List Int} : RepL K B S H (ns.map D.int) (ns.map V.int) := by
  induction ns with
  | nil => exact repL_nil.mpr rfl
  | cons n ns ih => exact repL_cons.mpr ⟨_, _, rfl, by unfold RepD; rfl, ih⟩
theorem RepL.ints : ∀ {ns : List Int} {xs : List V}, RepL K B S H (ns.map D.int) xs → xs = ns.map V.int
  | [], xs, h => repL_nil.mp h
  | n :: ns, xs, h => by
    obtain ⟨v, r, rfl, h1, h2⟩ := repL_cons.mp h
    unfold RepD at h1
    rw [h1, RepL.ints h2]
    rfl
theorem RepL.bls : ∀ {ns : List Bool} {xs : List V}, RepL K B S H (ns.map D.bl) xs → xs = ns.map V.bl
  | [], xs, h => repL_nil.mp h
  | n :: ns, xs, h => by
    obtain ⟨v, r, rfl, h1, h2⟩ := repL_cons.mp h
    unfold RepD at h1
    rw [h1, RepL.bls h2]
    rfl
theorem RepL.strs' : ∀ {ns : List Str} {xs : List V}, RepL K B S H (ns.map D.str) xs → xs = ns.map V.str
  | [], xs, h => repL_nil.mp h
  | n :: ns, xs, h => by
    obtain ⟨v, r, rfl, h1, h2⟩ := repL_cons.mp h
    unfold RepD at h1
    rw [h1, RepL.strs' h2]
    rfl
/-! slots -/
theorem RepE.grow {env : Slots} {σ : L2.St} (h : RepE K B S H env σ) (g : Grow S H S' H') : RepE K B S' H' env σ :=
  ⟨h.1, fun i d e => let ⟨v, e1, r⟩ := h.2 i d e; ⟨v, e1, RepD.grow g d v r⟩⟩
theorem RepE.unblk {B' : Blk} {env : Slots} {σ : L2.St} (h : RepE K B S H env σ) (hb : ∀ a, B' a → B a) : RepE K B' S H env σ :=
  ⟨h.1, fun i d e => let ⟨v, e1, r⟩ := h.2 i d e; ⟨v, e1, RepD.unblk hb d v r⟩⟩
theorem RepE.set {env : Slots} {σ : L2.St} (h : RepE K B S H env σ) (i : Nat) {d : D} {v : V} (r : RepD K B S H d v) : RepE K B S H (env.set i (some d)) (σ.set i (some v)) := by
  refine ⟨by simp [h.1], fun j d' e => ?_⟩
  rw [List.getElem?_set] at e ⊢
  by_cases hi : i = j
  · rw [if_pos hi] at e ⊢
    split at e
    · cases e
      rename_i hl
      rw [if_pos (by rw [← h.1]; exact hl)]
      exact ⟨v, rfl, r⟩
    · cases e
  · rw [if_neg hi] at e ⊢
    exact h.2 j d' e
theorem RepE.unset {env : Slots} {σ : L2.St} (h : RepE K B S H env σ) (i : Nat) (o : Option V) : RepE K B S H (env.set i none) (σ.set i o) := by
  refine ⟨by simp [h.1], fun j d' e => ?_⟩
  rw [List.getElem?_set] at e ⊢
  by_cases hi : i = j
  · rw [if_pos hi] at e
    split at e <;> cases e
  · rw [if_neg hi] at e ⊢
    exact h.2 j d' e
/-! records -/
theorem RepF.grow {fs : List (Str × D)} {gs : List (Str × V)} (h : RepF K B S H fs gs) (g : Grow S H S' H') : RepF K B S' H' fs gs := by
  unfold RepF at h ⊢
  induction h with
  | nil => exact .nil
  | cons a _ ih => exact .cons ⟨a.1, RepD.grow g _ _ a.2⟩ ih
theorem RepK.grow {κ : Type} {fs : List (κ × D)} {gs : List (κ × V)} (h : RepK K B S H fs gs) (g : Grow S H S' H') : RepK K B S' H' fs gs := by
  unfold RepK at h ⊢
  induction h with
  | nil => exact .nil
  | cons a _ ih => exact .cons ⟨a.1, RepD.grow g _ _ a.2⟩ ih
theorem RepC.frame {a : Addr} {c : Cell} (h : RepC K B S H a c) (g : Grow S H S' H') (e : H' a = H a) : RepC K B S' H' a c := by
  cases c with
  | lst l => obtain ⟨xs, e1, r⟩ := h; exact ⟨xs, e.trans e1, RepL.grow g _ _ r⟩
  | ins C fs => obtain ⟨dx, gs, e1, r⟩ := h; exact ⟨dx, gs, e.trans e1, r.grow g⟩
  | dK kvs => obtain ⟨gs, e1, r⟩ := h; exact ⟨gs, e.trans e1, r.grow g⟩
  | dT kvs => obtain ⟨gs, e1, r⟩ := h; exact ⟨gs, e.trans e1, r.grow g⟩
  | exc x => obtain ⟨C, n, e1⟩ := h; exact ⟨C, n, e.trans e1⟩
theorem RepC.there {a : Addr} {c : Cell} (h : RepC K B S H a c) : ∃ o, H a = some o := by
  cases c with
  | lst l => obtain ⟨xs, e1, r⟩ := h; exact ⟨_, e1⟩
  | ins C fs => obtain ⟨dx, gs, e1, r⟩ := h; exact ⟨_, e1⟩
  | dK kvs => obtain ⟨gs, e1, r⟩ := h; exact ⟨_, e1⟩
  | dT kvs => obtain ⟨gs, e1, r⟩ := h; exact ⟨_, e1⟩
  | exc x => obtain ⟨C, n, e1⟩ := h; exact ⟨_, e1⟩
/-- a new frozen object -/
theorem RepS.new {p : Addr} {o : HO} (h : RepS K B S H) (n : H p = none) : Grow S H S (upd H p o) ∧ RepS K B S (upd H p o) ∧ S p = none ∧ ¬ B p := by
  have g : Grow S H S (upd H p o) := fun a u e s => ⟨by rw [upd_ne (ne_of_none e n)]; exact e, s⟩
  have sp : S p = none := by
    cases q : S p with
    | none => rfl
    | some c =>
      obtain ⟨o', e⟩ := (h.cell p c q).there
      rw [n] at e; cases e
  refine ⟨g, ⟨fun a c e => ?_, fun a b => ?_⟩, sp, fun b => ?_⟩
  · obtain ⟨o', e'⟩ := (h.cell a c e).there
    exact (h.cell a c e).frame g (upd_ne (ne_of_none e' n))
  · obtain ⟨⟨o', e⟩, s⟩ := h.blk a b
    exact ⟨⟨o', by rw [upd_ne (ne_of_none e n)]; exact e⟩, s⟩
  · obtain ⟨⟨o', e⟩, s⟩ := h.blk p b
    rw [n] at e; cases e
/-- a new cell -/
theorem RepS.newCell {p : Addr} {o : HO} {c : Cell} (h : RepS K B S H) (n : H p = none) (hc : ∀ S' H', Grow S H S' H' → H' p = some o → RepC K B S' H' p c) :
    Grow S H (sput S p c) (upd H p o) ∧ RepS K B (sput S p c) (upd H p o) := by
  have g : Grow S H (sput S p c) (upd H p o) := fun a u e s => ⟨by rw [upd_ne (ne_of_none e n)]; exact e, by rw [sput_ne (ne_of_none e n)]; exact s⟩
  refine ⟨g, fun a c' e => ?_, fun a b => ?_⟩
  · by_cases ha : a = p
    · subst ha
      rw [sput_same] at e
      cases e
      exact hc _ _ g upd_same
    · rw [sput_ne ha] at e
      exact (h.cell a c' e).frame g (upd_ne ha)
  · obtain ⟨⟨o', e⟩, s⟩ := h.blk a b
    have ha : a ≠ p := ne_of_none e n
    exact ⟨⟨o', by rw [upd_ne ha]; exact e⟩, by rw [sput_ne ha]; exact s⟩
/-- a cell written -/
theorem RepS.write {p : Addr} {o : HO} {c c0 : Cell} (h : RepS K B S H) (n : S p = some c0) (hc : ∀ S' H', Grow S H S' H' → H' p = some o → RepC K B S' H' p c) :
    Grow S H (sput S p c) (upd H p o) ∧ RepS K B (sput S p c) (upd H p o) := by
  have g : Grow S H (sput S p c) (upd H p o) := fun a u e s => by
    have ha : a ≠ p := fun z => by rw [z, n] at s; cases s
    exact ⟨by rw [upd_ne ha]; exact e, by rw [sput_ne ha]; exact s⟩
  refine ⟨g, fun a c' e => ?_, fun a b => ?_⟩
  · by_cases ha : a = p
    · subst ha
      rw [sput_same] at e
      cases e
      exact hc _ _ g upd_same
    · rw [sput_ne ha] at e
      exact (h.cell a c' e).frame g (upd_ne ha)
  · obtain ⟨⟨o', e⟩, s⟩ := h.blk a b
    have ha : a ≠ p := fun z => by rw [z, n] at s; cases s
    exact ⟨⟨o', by rw [upd_ne ha]; exact e⟩, by rw [sput_ne ha]; exact s⟩
end
end ND
set_option Elab.async false
set_option linter.all false
set_option maxRecDepth 100000
namespace ND
open PySem PySem.Spec PyProof.Rows L2

abbrev WE := Slots → Store → (D → Store → Prop) → Prop
abbrev WT := Slots → Store → (Bool → Store → Prop) → Prop
abbrev WA := Slots → Store → (List D → Store → Prop) → Prop
abbrev WG := D → Slots → Store → (Slots → Store → Prop) → Prop
abbrev WGs := List D → Slots → Store → (Slots → Store → Prop) → Prop
structure DEnds where
  nx : Slots → Store → Prop
  rt : D → Store → Prop
abbrev WS := DEnds → Slots → Store → Prop

def Lift (K : PySem.W.Frag) (B : Blk) (S : Store) (H : Hp) (Qd : D → Store → Prop) (Q : VK) : Prop :=
  ∀ S' H' d v, Grow S H S' H' → RepS K B S' H' → RepD K B S' H' d v → Qd d S' → Q v H'
theorem Lift.grow {K : PySem.W.Frag} {B : Blk} {S S1 : Store} {H H1 : Hp} {Qd : D → Store → Prop} {Q : VK} (l : Lift K B S H Qd Q) (g : Grow S H S1 H1) : Lift K B S1 H1 Qd Q :=
  fun S' H' d v g' r rd q => l S' H' d v (g.trans g') r rd q
def tD (K : PySem.W.Frag) (t : WE) : TE := fun σ H Q => ∃ B env S Qd, RepE K B S H env σ ∧ RepS K B S H ∧ t env S Qd ∧ Lift K B S H Qd Q
def DE (X : Cx) (e : Expr) (t : WE) : Prop := PE X e (tD X.K t)
theorem PE.mono {X : Cx} {e : Expr} {t t' : TE} (h : PE X e t) (m : ∀ σ H Q, t' σ H Q → t σ H Q) : PE X e t' := ⟨fun pins s σ H Q I q => h.run pins s σ H Q I (m σ H Q q)⟩
theorem PT.mono {X : Cx} {e : Expr} {t t' : TT} (h : PT X e t) (m : ∀ σ H Q, t' σ H Q → t σ H Q) : PT X e t' := ⟨fun pins s σ H Q I q => h.run pins s σ H Q I (m σ H Q q)⟩
theorem PW.mono {X : Cx} {e : Expr} {t t' : TT} (h : PW X e t) (m : ∀ σ H Q, t' σ H Q → t σ H Q) : PW X e t' := ⟨fun wh pins s σ H Q I q => h.run wh pins s σ H Q I (m σ H Q q)⟩
theorem PA.mono {X : Cx} {e : List Expr} {t t' : TA} (h : PA X e t) (m : ∀ σ H Q, t' σ H Q → t σ H Q) : PA X e t' := ⟨fun pos pins s σ H Q I q => h.run pos pins s σ H Q I (m σ H Q q)⟩
theorem PS.mono {X : Cx} {e : Stmt} {t t' : TS} (h : PS X e t) (m : ∀ Dn σ H, t' Dn σ H → t Dn σ H) : PS X e t' := ⟨fun pins s σ H Dn I q => h.run pins s σ H Dn I (m Dn σ H q)⟩
theorem PSs.mono {X : Cx} {e : List Stmt} {t t' : TS} (h : PSs X e t) (m : ∀ Dn σ H, t' Dn σ H → t Dn σ H) : PSs X e t' := ⟨fun pins s σ H Dn I q => h.run pins s σ H Dn I (m Dn σ H q)⟩
theorem PG.mono {X : Cx} {e : Expr} {t t' : TG} (h : PG X e t) (m : ∀ v σ H Q, t' v σ H Q → t v σ H Q) : PG X e t' := ⟨fun pins s σ H v u Q I r q => h.run pins s σ H v u Q I r (m v σ H Q q)⟩
theorem PI.mono {X : Cx} {tg e : Expr} {t t' : TI} (h : PI X tg e t) (m : ∀ σ H Q, t' σ H Q → t σ H Q) : PI X tg e t' := ⟨fun pins s σ H Q I q => h.run pins s σ H Q I (m σ H Q q)⟩
theorem OpR.mono {X : Cx} {f : Value → Value → Sem Value} {r r' : R2} (h : OpR X f r) (m : ∀ x y H Q, r' x y H Q → r x y H Q) : OpR X f r' := fun pins s σ H x y v u Q I rx ry q => h pins s σ H x y v u Q I rx ry (m x y H Q q)

/-! ### operators by data -/
abbrev O2 := D → D → Store → (D → Store → Prop) → Prop
abbrev O1 := D → Store → (D → Store → Prop) → Prop
abbrev On := List D → Store → (D → Store → Prop) → Prop
def rD (K : PySem.W.Frag) (o : O2) : R2 := fun vx vy H Q => ∃ B S x y Qd, RepS K B S H ∧ RepD K B S H x vx ∧ RepD K B S H y vy ∧ o x y S Qd ∧ Lift K B S H Qd Q
def OD (X : Cx) (f : Value → Value → Sem Value) (o : O2) : Prop := OpR X f (rD X.K o)
def rD1 (K : PySem.W.Frag) (o : O1) : V → Hp → VK → Prop := fun vx H Q => ∃ B S x Qd, RepS K B S H ∧ RepD K B S H x vx ∧ o x S Qd ∧ Lift K B S H Qd Q
def rDn (K : PySem.W.Frag) (o : On) : List V → Hp → VK → Prop := fun vs H Q => ∃ B S ds Qd, RepS K B S H ∧ RepL K B S H ds vs ∧ o ds S Qd ∧ Lift K B S H Qd Q
def CD (X : Cx) (f : Value) (o : On) : Prop := CallR X f (rDn X.K o)
section
variable {X : Cx}
theorem OD.of {f : Value → Value → Sem Value} {o : O2} {r : R2} (h : OpR X f r)
    (m : ∀ B S H x y vx vy Qd Q, RepS X.K B S H → RepD X.K B S H x vx → RepD X.K B S H y vy → o x y S Qd → Lift X.K B S H Qd Q → r vx vy H Q) : OD X f o :=
  OpR.mono h fun vx vy H Q ⟨B, S, x, y, Qd, rs, rx, ry, q, l⟩ => m B S H x y vx vy Qd Q rs rx ry q l
theorem CD.of {f : Value} {o : On} {r : List V → Hp → VK → Prop} (h : CallR X f r)
    (m : ∀ B S H ds vs Qd Q, RepS X.K B S H → RepL X.K B S H ds vs → o ds S Qd → Lift X.K B S H Qd Q → r vs H Q) : CD X f o :=
  fun pins s σ H vs us Q I r q => h pins s σ H vs us Q I r (let ⟨B, S, ds, Qd, rs, rx, q, l⟩ := q; m B S H ds vs Qd Q rs rx q l)

/-! ### expressions -/
def wC (d : D) : WE := fun _ S Q => Q d S
def wVar (i : Nat) : WE := fun env S Q => ∃ d, env[i]? = some (some d) ∧ Q d S
def w2 (o : O2) (ta tb : WE) : WE := fun env S Q => ta env S fun x S1 => tb env S1 fun y S2 => o x y S2 Q
def w1 (o : O1) (ta : WE) : WE := fun env S Q => ta env S fun x S1 => o x S1 Q
theorem de_var (i : Nat) {x : Str} {pos : Pos} (hN : X.N[i]? = some x := by rfl) (hv : Vis X.env.scope x := by first | exact Or.inl rfl | exact Or.inr (Or.inl rfl) | exact Or.inr (Or.inr rfl)) (hd : (x == ("__debug__" : Str)) = false := by decide)
    (hcd : (x == ("__classdict__" : Str)) = false := by decide) : DE X (.Name x pos) (wVar i) :=
  PE.mono (pe_var hN hv hd hcd) fun σ H Q ⟨B, env, S, Qd, re, rs, ⟨d, e, q⟩, l⟩ => by
    obtain ⟨v, e1, rd⟩ := re.2 i d e
    exact ⟨v, e1, l S H d v .refl rs rd q⟩
theorem de_const {e : Expr} {v : V} {d : D} (h : PE X e (tC v)) (r : ∀ B S H, RepD X.K B S H d v) : DE X e (wC d) :=
  PE.mono h fun σ H Q ⟨B, env, S, Qd, re, rs, q, l⟩ => l S H d v .refl rs (r B S H) q
theorem repD_int {K : PySem.W.Frag} {B : Blk} {S : Store} {H : Hp} {i : Int} {v : V} : RepD K B S H (.int i) v ↔ v = .int i := by unfold RepD; exact Iff.rfl
theorem repD_bl {K : PySem.W.Frag} {B : Blk} {S : Store} {H : Hp} {i : Bool} {v : V} : RepD K B S H (.bl i) v ↔ v = .bl i := by unfold RepD; exact Iff.rfl
theorem repD_str {K : PySem.W.Frag} {B : Blk} {S : Store} {H : Hp} {i : Str} {v : V} : RepD K B S H (.str i) v ↔ v = .str i := by unfold RepD; exact Iff.rfl
theorem repD_non {K : PySem.W.Frag} {B : Blk} {S : Store} {H : Hp} {v : V} : RepD K B S H .non v ↔ v = .non := by unfold RepD; exact Iff.rfl
theorem repD_fn {K : PySem.W.Frag} {B : Blk} {S : Store} {H : Hp} {x : Str} {v : V} : RepD K B S H (.fn x) v ↔ ∃ f, PySem.W.nsIn K mainGlobals x = some (some (.ref f)) ∧ v = .ref f := by unfold RepD; exact Iff.rfl
theorem repD_ref {K : PySem.W.Frag} {B : Blk} {S : Store} {H : Hp} {a : Addr} {v : V} : RepD K B S H (.ref a) v ↔ v = .ref a := by unfold RepD; exact Iff.rfl
theorem repD_tup {K : PySem.W.Frag} {B : Blk} {S : Store} {H : Hp} {l : List D} {v : V} : RepD K B S H (.tup l) v ↔ ∃ a xs, v = .ref a ∧ TupAt K B S H a xs ∧ RepL K B S H l xs := by
  constructor
  · intro h; unfold RepD at h; exact h
  · intro h; unfold RepD; exact h
theorem repD_lst {K : PySem.W.Frag} {B : Blk} {S : Store} {H : Hp} {l : List D} {v : V} : RepD K B S H (.lst l) v ↔ ∃ a xs, v = .ref a ∧ LstAt B S H a xs ∧ RepL K B S H l xs := by
  constructor
  · intro h; unfold RepD at h; exact h
  · intro h; unfold RepD; exact h
theorem repD_kls {K : PySem.W.Frag} {B : Blk} {S : Store} {H : Hp} {l : List D} {v : V} : RepD K B S H (.kls l) v ↔ ∃ a xs, v = .ref a ∧ KLst K a xs ∧ RepL K B S H l xs := by
  constructor
  · intro h; unfold RepD at h; exact h
  · intro h; unfold RepD; exact h
theorem de_int {i j pos} : DE X (.Constant (.int i) j pos) (wC (.int i)) := de_const pe_int fun _ _ _ => repD_int.mpr rfl
theorem de_bl {b j pos} : DE X (.Constant (.bool b) j pos) (wC (.bl b)) := de_const pe_bl fun _ _ _ => repD_bl.mpr rfl
theorem de_non {j pos} : DE X (.Constant .none j pos) (wC .non) := de_const pe_non fun _ _ _ => repD_non.mpr rfl
theorem de_str {x j pos} : DE X (.Constant (.str x) j pos) (wC (.str x)) := de_const pe_str fun _ _ _ => repD_str.mpr rfl
/-- a constant of the module -/
structure GlobD (K : PySem.W.Frag) (mg : Str → Option Value) (x : Str) (d : D) : Prop where
  ex : ∃ u v, mg x = some u ∧ RelV v u ∧ ∀ B S H, RepD K B S H d v
theorem de_glob {x : Str} {pos : Pos} {d : D} (hg : Gl X x) (h : GlobD X.K X.mg x d) (hd : (x == ("__debug__" : Str)) = false := by decide) : DE X (.Name x pos) (wC d) := by
  obtain ⟨u, v, hm, rv, r⟩ := h.ex
  exact de_const (pe_glob hg hm rv hd) r
theorem de_bin {op : Operator} {o : O2} {a b : Expr} {pos : Pos} {ta tb : WE} (ho : OD X (binaryOp op) o) (ha : DE X a ta) (hb : DE X b tb) : DE X (.BinOp a op b pos) (w2 o ta tb) :=
  PE.mono (pe_op ho ha hb) fun σ H Q ⟨B, env, S, Qd, re, rs, q, l⟩ =>
    ⟨B, env, S, _, re, rs, q, fun S1 H1 x vx g1 rs1 rx q1 => ⟨B, env, S1, _, re.grow g1, rs1, q1, fun S2 H2 y vy g2 rs2 ry q2 => ⟨B, S2, x, y, Qd, rs2, RepD.grow g2 _ _ rx, ry, q2, l.grow (g1.trans g2)⟩⟩⟩
theorem de_cmp {op : CmpOp} {o : O2} {a b : Expr} {pos : Pos} {ta tb : WE} (ho : OD X (compareOp op) o) (ha : DE X a ta) (hb : DE X b tb) (hm : behindInMarks op b = false := by first | exact nomark _ | rfl) : DE X (.Compare a [op] [b] pos) (w2 o ta tb) :=
  PE.mono (pe_cmpR ho ha hb hm) fun σ H Q ⟨B, env, S, Qd, re, rs, q, l⟩ =>
    ⟨B, env, S, _, re, rs, q, fun S1 H1 x vx g1 rs1 rx q1 => ⟨B, env, S1, _, re.grow g1, rs1, q1, fun S2 H2 y vy g2 rs2 ry q2 => ⟨B, S2, x, y, Qd, rs2, RepD.grow g2 _ _ rx, ry, q2, l.grow (g1.trans g2)⟩⟩⟩
theorem de_un {op : UnaryOp} {r : V → Hp → VK → Prop} {o : O1} {a : Expr} {pos : Pos} {ta : WE} (ho : UnR X (unaryOp op) r)
    (m : ∀ B S H x vx Qd Q, RepS X.K B S H → RepD X.K B S H x vx → o x S Qd → Lift X.K B S H Qd Q → r vx H Q) (ha : DE X a ta) : DE X (.UnaryOp op a pos) (w1 o ta) :=
  PE.mono (pe_un ho ha) fun σ H Q ⟨B, env, S, Qd, re, rs, q, l⟩ =>
    ⟨B, env, S, _, re, rs, q, fun S1 H1 x vx g1 rs1 rx q1 => m B S1 H1 x vx Qd Q rs1 rx q1 (l.grow g1)⟩
def oNeg : O1 := fun x S Q => match x with | .int i => Q (.int (-i)) S | _ => False
theorem de_neg {a : Expr} {pos : Pos} {ta : WE} (ha : DE X a ta) : DE X (.UnaryOp .USub a pos) (w1 oNeg ta) :=
  de_un un_neg (fun B S H x vx Qd Q rs rx q l => by
    cases x with
    | int i => rw [repD_int] at rx; exact ⟨i, rx, l S H _ _ .refl rs (repD_int.mpr rfl) q⟩
    | _ => exact False.elim q) ha

/-! ### int operators -/
def oI (C : Int → Int → Prop) (g : Int → Int → D) : O2 := fun x y S Q => match x, y with | .int i, .int j => C i j ∧ Q (g i j) S | _, _ => False
def oI0 (g : Int → Int → D) : O2 := fun x y S Q => match x, y with | .int i, .int j => Q (g i j) S | _, _ => False
theorem oI_of {f : Value → Value → Sem Value} {C : Int → Int → Prop} {g : Int → Int → V} {gd : Int → Int → D} (h : OpR X f (rI C g)) (r : ∀ i j B S H, RepD X.K B S H (gd i j) (g i j)) : OD X f (oI C gd) :=
  OD.of h fun B S H x y vx vy Qd Q rs rx ry q l => by
    cases x with
    | int i => cases y with
      | int j => rw [repD_int] at rx ry; exact ⟨i, j, rx, ry, q.1, l S H _ _ .refl rs (r i j B S H) q.2⟩
      | _ => exact False.elim q
    | _ => exact False.elim q
theorem oI0_of {f : Value → Value → Sem Value} {g : Int → Int → V} {gd : Int → Int → D} (h : OpR X f (rI0 g)) (r : ∀ i j B S H, RepD X.K B S H (gd i j) (g i j)) : OD X f (oI0 gd) :=
  OD.of h fun B S H x y vx vy Qd Q rs rx ry q l => by
    cases x with
    | int i => cases y with
      | int j => rw [repD_int] at rx ry; exact ⟨i, j, rx, ry, l S H _ _ .refl rs (r i j B S H) q⟩
      | _ => exact False.elim q
    | _ => exact False.elim q
theorem OD.or {f : Value → Value → Sem Value} {o o' : O2} (h : OD X f o) (h' : OD X f o') : OD X f (fun x y S Q => o x y S Q ∨ o' x y S Q) :=
  fun pins s σ H vx vy v u Q I r1 r2 ⟨B, S, x, y, Qd, rs, rx, ry, q, l⟩ => by
    rcases q with q | q
    · exact h pins s σ H vx vy v u Q I r1 r2 ⟨B, S, x, y, Qd, rs, rx, ry, q, l⟩
    · exact h' pins s σ H vx vy v u Q I r1 r2 ⟨B, S, x, y, Qd, rs, rx, ry, q, l⟩
theorem OD.mono {f : Value → Value → Sem Value} {o o' : O2} (h : OD X f o) (m : ∀ x y S Q, o' x y S Q → o x y S Q) : OD X f o' :=
  fun pins s σ H vx vy v u Q I r1 r2 ⟨B, S, x, y, Qd, rs, rx, ry, q, l⟩ => h pins s σ H vx vy v u Q I r1 r2 ⟨B, S, x, y, Qd, rs, rx, ry, m _ _ _ _ q, l⟩
/-- where // may be asked of numbers of any length: the module keeps what the long division looks at -/
structure Seer (base : Heap) (P : Program) (A : Around) (stack : List Env) : Prop where
  sr : base.NoSeer
  tr : P.given.tree = none
  dp : A.depth + PySem.Builtin.pylongFrames < recursionLimit
  hd : ∃ env l, stack = env :: l ∧ env.scope.isGenerator = false ∧ env.scope.isCoroutine = false ∧ env.builtins = builtinsNs ∧ env.globals = mainGlobals
def CFd (_ j : Int) : Prop := j ≠ 0
theorem op_fdivNW (hs : Seer X.base X.prog X.A X.stack) : OpR X (binaryOp .FloorDiv) (rI CFd fun i j => .int (i.fdiv j)) := by
  rintro pins s σ H _ _ v u Q I rx ry ⟨i, j, rfl, rfl, hc, q⟩
  obtain ⟨t, rfl⟩ := rx
  obtain ⟨t', rfl⟩ := ry
  obtain ⟨env, l, e, g1, g2, g3, g4⟩ := hs.hd
  refine floordiv_int hc ⟨.int (i.fdiv j), H, I.tok _, ⟨_, rfl⟩, q⟩ (.inr (PySem.PylongRoom.of I.nolimit hs.dp ?_))
  exact PySem.SeerAt.of (hs.sr.keeps I.bk) hs.tr (I.ok.frames.trans (by rw [e])) g1 g2 g3 g4
theorem od_sub : OD X (binaryOp .Sub) (oI0 fun i j => .int (i - j)) := oI0_of op_sub fun _ _ _ _ _ => repD_int.mpr rfl
theorem od_fdiv (hs : Seer X.base X.prog X.A X.stack) : OD X (binaryOp .FloorDiv) (oI CFd fun i j => .int (i.fdiv j)) := oI_of (op_fdivNW hs) fun _ _ _ _ _ => repD_int.mpr rfl
theorem od_mod : OD X (binaryOp .Mod) (oI (fun _ j => j ≠ 0) fun i j => .int (i.fmod j)) := oI_of op_modN fun _ _ _ _ _ => repD_int.mpr rfl
theorem od_pow : OD X (binaryOp .Pow) (oI CPow fun i j => .int (i ^ j.toNat)) := oI_of op_pow fun _ _ _ _ _ => repD_int.mpr rfl
theorem od_lt : OD X (compareOp .Lt) (oI0 fun i j => .bl (decide (i < j))) := oI0_of op_lt fun _ _ _ _ _ => repD_bl.mpr rfl
theorem od_le : OD X (compareOp .LtE) (oI0 fun i j => .bl (decide (i ≤ j))) := oI0_of op_le fun _ _ _ _ _ => repD_bl.mpr rfl
theorem od_gt : OD X (compareOp .Gt) (oI0 fun i j => .bl (decide (j < i))) := oI0_of op_gt fun _ _ _ _ _ => repD_bl.mpr rfl
theorem od_ge : OD X (compareOp .GtE) (oI0 fun i j => .bl (decide (j ≤ i))) := oI0_of op_ge fun _ _ _ _ _ => repD_bl.mpr rfl

/-! ### tests -/
def LiftT (K : PySem.W.Frag) (B : Blk) (S : Store) (H : Hp) (Qd : Bool → Store → Prop) (Q : Bool → Hp → Prop) : Prop := ∀ S' H' b, Grow S H S' H' → RepS K B S' H' → Qd b S' → Q b H'
def tDT (K : PySem.W.Frag) (t : WT) : TT := fun σ H Q => ∃ B env S Qd, RepE K B S H env σ ∧ RepS K B S H ∧ t env S Qd ∧ LiftT K B S H Qd Q
def DT (X : Cx) (e : Expr) (t : WT) : Prop := PT X e (tDT X.K t)
def DW (X : Cx) (e : Expr) (t : WT) : Prop := PW X e (tDT X.K t)
theorem LiftT.grow {K : PySem.W.Frag} {B : Blk} {S S1 : Store} {H H1 : Hp} {Qd : Bool → Store → Prop} {Q : Bool → Hp → Prop} (l : LiftT K B S H Qd Q) (g : Grow S H S1 H1) : LiftT K B S1 H1 Qd Q :=
  fun S' H' b g' r q => l S' H' b (g.trans g') r q
def wBl (Q : Bool → Store → Prop) : D → Store → Prop := fun x S => match x with | .bl b => Q b S | _ => False
def wTst (t : WE) : WT := fun env S Q => t env S (wBl Q)
theorem tst_of {t : WE} {σ : L2.St} {H : Hp} {Q : Bool → Hp → Prop} (h : tDT X.K (wTst t) σ H Q) : tD X.K t σ H fun x H1 => ∃ c, x = .bl c ∧ Q c H1 := by
  obtain ⟨B, env, S, Qd, re, rs, q, l⟩ := h
  refine ⟨B, env, S, _, re, rs, q, fun S1 H1 x vx g1 rs1 rx q1 => ?_⟩
  cases x with
  | bl b => rw [repD_bl] at rx; exact ⟨b, rx, l S1 H1 b g1 rs1 q1⟩
  | _ => exact False.elim q1
theorem dt_val {e : Expr} {t : WE} (h : DE X e t) (he : ∀ whole, isTrue e X.env whole = (do let v ← whole; standAt e.pos; holding [v] (truthy v)) := by intro _; rfl) : DT X e (wTst t) :=
  PT.mono (pt_val h he) fun σ H Q q => tst_of q
theorem dt_cmp {op : CmpOp} {o : O2} {a b : Expr} {pos : Pos} {ta tb : WE} (ho : OD X (compareOp op) o) (ha : DE X a ta) (hb : DE X b tb) (hm : behindInMarks op b = false := by first | exact nomark _ | rfl) : DT X (.Compare a [op] [b] pos) (wTst (w2 o ta tb)) :=
  PT.mono (pt_cmpR ho ha hb hm) fun σ H Q ⟨B, env, S, Qd, re, rs, q, l⟩ =>
    ⟨B, env, S, _, re, rs, q, fun S1 H1 x vx g1 rs1 rx q1 => ⟨B, env, S1, _, re.grow g1, rs1, q1, fun S2 H2 y vy g2 rs2 ry q2 => ⟨B, S2, x, y, _, rs2, RepD.grow g2 _ _ rx, ry, q2, fun S3 H3 d v g3 rs3 rd q3 => by
      cases d with
      | bl b => rw [repD_bl] at rd; exact ⟨b, rd, l S3 H3 b (g1.trans (g2.trans g3)) rs3 q3⟩
      | _ => exact False.elim q3⟩⟩⟩
def wNot (t : WT) : WT := fun env S Q => t env S fun b S1 => Q (!b) S1
def wAnd (t u : WT) : WT := fun env S Q => t env S fun b S1 => if b = true then u env S1 Q else Q false S1
def wOr (t u : WT) : WT := fun env S Q => t env S fun b S1 => if b = true then Q true S1 else u env S1 Q
theorem dt_not {a : Expr} {pos : Pos} {t : WT} (h : DT X a t) : DT X (.UnaryOp .Not a pos) (wNot t) :=
  PT.mono (pt_not h) fun σ H Q ⟨B, env, S, Qd, re, rs, q, l⟩ => ⟨B, env, S, _, re, rs, q, fun S1 H1 b g1 rs1 q1 => l S1 H1 (!b) g1 rs1 q1⟩
theorem dw_and1 {a : Expr} {pos : Pos} {t : WT} (h : DT X a t) : DW X (.BoolOp .And [a] pos) t := pw_and1 h
theorem dw_or1 {a : Expr} {pos : Pos} {t : WT} (h : DT X a t) : DW X (.BoolOp .Or [a] pos) t := pw_or1 h
theorem dw_and {a b : Expr} {rest : List Expr} {pos : Pos} {t u : WT} (h : DT X a t) (h' : DW X (.BoolOp .And (b :: rest) pos) u) : DW X (.BoolOp .And (a :: b :: rest) pos) (wAnd t u) :=
  PW.mono (pw_and h h') fun σ H Q ⟨B, env, S, Qd, re, rs, q, l⟩ => ⟨B, env, S, _, re, rs, q, fun S1 H1 b g1 rs1 q1 => by
    cases b with
    | true => rw [if_pos rfl] at q1 ⊢; exact ⟨B, env, S1, Qd, re.grow g1, rs1, q1, l.grow g1⟩
    | false => rw [if_neg Bool.false_ne_true] at q1 ⊢; exact l S1 H1 false g1 rs1 q1⟩
theorem dw_or {a b : Expr} {rest : List Expr} {pos : Pos} {t u : WT} (h : DT X a t) (h' : DW X (.BoolOp .Or (b :: rest) pos) u) : DW X (.BoolOp .Or (a :: b :: rest) pos) (wOr t u) :=
  PW.mono (pw_or h h') fun σ H Q ⟨B, env, S, Qd, re, rs, q, l⟩ => ⟨B, env, S, _, re, rs, q, fun S1 H1 b g1 rs1 q1 => by
    cases b with
    | false => rw [if_neg Bool.false_ne_true] at q1 ⊢; exact ⟨B, env, S1, Qd, re.grow g1, rs1, q1, l.grow g1⟩
    | true => rw [if_pos rfl] at q1 ⊢; exact l S1 H1 true g1 rs1 q1⟩
theorem dt_w {e : Expr} {t : WT} (h : DW X e t) : DT X e t := PW.pt h
/-- and, or, not as values (of truths) -/
def wAndV (ta tb : WE) : WE := fun env S Q => ta env S fun x S1 => match x with | .bl b => if b = true then tb env S1 Q else Q (.bl false) S1 | _ => False
def wOrV (ta tb : WE) : WE := fun env S Q => ta env S fun x S1 => match x with | .bl b => if b = true then Q (.bl true) S1 else tb env S1 Q | _ => False
def oNot : O1 := fun x S Q => match x with | .bl b => Q (.bl (!b)) S | _ => False
theorem de_one {op} {a : Expr} {pos : Pos} {t : WE} (h : DE X a t) : DE X (.BoolOp op [a] pos) t := pe_one h
theorem de_and {a b : Expr} {rest : List Expr} {pos : Pos} {ta tb : WE} (ha : DE X a ta) (hb : DE X (.BoolOp .And (b :: rest) pos) tb) : DE X (.BoolOp .And (a :: b :: rest) pos) (wAndV ta tb) :=
  PE.mono (pe_and ha hb) fun σ H Q ⟨B, env, S, Qd, re, rs, q, l⟩ => ⟨B, env, S, _, re, rs, q, fun S1 H1 x vx g1 rs1 rx q1 => by
    cases x with
    | bl b =>
      rw [repD_bl] at rx
      refine ⟨b, rx, ?_⟩
      cases b with
      | true => rw [if_pos rfl]; exact ⟨B, env, S1, Qd, re.grow g1, rs1, q1, l.grow g1⟩
      | false => rw [if_neg Bool.false_ne_true]; exact l S1 H1 _ _ g1 rs1 (repD_bl.mpr rfl) q1
    | _ => exact False.elim q1⟩
theorem de_or {a b : Expr} {rest : List Expr} {pos : Pos} {ta tb : WE} (ha : DE X a ta) (hb : DE X (.BoolOp .Or (b :: rest) pos) tb) : DE X (.BoolOp .Or (a :: b :: rest) pos) (wOrV ta tb) :=
  PE.mono (pe_or ha hb) fun σ H Q ⟨B, env, S, Qd, re, rs, q, l⟩ => ⟨B, env, S, _, re, rs, q, fun S1 H1 x vx g1 rs1 rx q1 => by
    cases x with
    | bl b =>
      rw [repD_bl] at rx
      refine ⟨b, rx, ?_⟩
      cases b with
      | false => rw [if_neg Bool.false_ne_true]; exact ⟨B, env, S1, Qd, re.grow g1, rs1, q1, l.grow g1⟩
      | true => rw [if_pos rfl]; exact l S1 H1 _ _ g1 rs1 (repD_bl.mpr rfl) q1
    | _ => exact False.elim q1⟩
theorem de_not {a : Expr} {pos : Pos} {ta : WE} (ha : DE X a ta) : DE X (.UnaryOp .Not a pos) (w1 oNot ta) :=
  PE.mono (pe_not ha) fun σ H Q ⟨B, env, S, Qd, re, rs, q, l⟩ => ⟨B, env, S, _, re, rs, q, fun S1 H1 x vx g1 rs1 rx q1 => by
    cases x with
    | bl b => rw [repD_bl] at rx; exact ⟨b, rx, l S1 H1 _ _ g1 rs1 (repD_bl.mpr rfl) q1⟩
    | _ => exact False.elim q1⟩
def wIf (t : WT) (ta tb : WE) : WE := fun env S Q => t env S fun c S1 => if c = true then ta env S1 Q else tb env S1 Q
theorem de_if {c a b : Expr} {pos : Pos} {t : WT} {ta tb : WE} (hc : DT X c t) (ha : DE X a ta) (hb : DE X b tb) : DE X (.IfExp c a b pos) (wIf t ta tb) :=
  PE.mono (pe_ifExp hc ha hb) fun σ H Q ⟨B, env, S, Qd, re, rs, q, l⟩ => ⟨B, env, S, _, re, rs, q, fun S1 H1 b g1 rs1 q1 => by
    cases b with
    | true => rw [if_pos rfl] at q1 ⊢; exact ⟨B, env, S1, Qd, re.grow g1, rs1, q1, l.grow g1⟩
    | false => rw [if_neg Bool.false_ne_true] at q1 ⊢; exact ⟨B, env, S1, Qd, re.grow g1, rs1, q1, l.grow g1⟩⟩
/-- x if it is a truth: a test's value -/
theorem de_tst {e : Expr} {t : WE} (h : DE X e t) : DE X e t := h

/-! ### arguments, displays -/
def LiftA (K : PySem.W.Frag) (B : Blk) (S : Store) (H : Hp) (Qd : List D → Store → Prop) (Q : List V → Hp → Prop) : Prop := ∀ S' H' ds vs, Grow S H S' H' → RepS K B S' H' → RepL K B S' H' ds vs → Qd ds S' → Q vs H'
def tDA (K : PySem.W.Frag) (t : WA) : TA := fun σ H Q => ∃ B env S Qd, RepE K B S H env σ ∧ RepS K B S H ∧ t env S Qd ∧ LiftA K B S H Qd Q
def DA (X : Cx) (es : List Expr) (t : WA) : Prop := PA X es (tDA X.K t)
def wNil : WA := fun _ S Q => Q [] S
def wCons (t : WE) (r : WA) : WA := fun env S Q => t env S fun x S1 => r env S1 fun xs S2 => Q (x :: xs) S2
theorem da_nil : DA X [] wNil := PA.mono pa_nil fun σ H Q ⟨B, env, S, Qd, re, rs, q, l⟩ => l S H [] [] .refl rs (repL_nil.mpr rfl) q
theorem da_cons {e : Expr} {es : List Expr} {t : WE} {r : WA} (ha : DE X e t) (hr : DA X es r) (hs : starEach (e :: es) X.env = (false, eval e X.env) :: starEach es X.env := by rfl) : DA X (e :: es) (wCons t r) :=
  PA.mono (pa_cons ha hr hs) fun σ H Q ⟨B, env, S, Qd, re, rs, q, l⟩ => ⟨B, env, S, _, re, rs, q, fun S1 H1 x vx g1 rs1 rx q1 => ⟨B, env, S1, _, re.grow g1, rs1, q1, fun S2 H2 ds vs g2 rs2 rds q2 =>
    l S2 H2 (x :: ds) (vx :: vs) (g1.trans g2) rs2 (repL_cons.mpr ⟨vx, vs, rfl, RepD.grow g2 _ _ rx, rds⟩) q2⟩⟩
def wTup (t : WA) : WE := fun env S Q => t env S fun l S1 => l.length ≤ sizeLine ∧ Q (.tup l) S1
def wLst (t : WA) : WE := fun env S Q => t env S fun l S1 => l.length ≤ sizeLine ∧ Q (.lst l) S1
def wLstM (t : WA) : WE := fun env S Q => t env S fun l S1 => l.length ≤ sizeLine ∧ ∀ p, S1 p = none → Q (.ref p) (sput S1 p (.lst l))
/-- a new tuple, a new list -/
theorem Lift.tup {K : PySem.W.Frag} {B : Blk} {S : Store} {H : Hp} {Qd : D → Store → Prop} {Q : VK} (l : Lift K B S H Qd Q) (rs : RepS K B S H) {ds : List D} {vs : List V} (r : RepL K B S H ds vs) (q : Qd (.tup ds) S) {p : Addr} (n : H p = none) : Q (.ref p) (upd H p (.tup vs)) := by
  obtain ⟨g, rs', sp, nb⟩ := rs.new (o := .tup vs) n
  exact l S _ _ _ g rs' (repD_tup.mpr ⟨p, vs, rfl, .inl ⟨.inl upd_same, sp, nb⟩, RepL.grow g _ _ r⟩) q
theorem Lift.lst {K : PySem.W.Frag} {B : Blk} {S : Store} {H : Hp} {Qd : D → Store → Prop} {Q : VK} (l : Lift K B S H Qd Q) (rs : RepS K B S H) {ds : List D} {vs : List V} (r : RepL K B S H ds vs) (q : Qd (.lst ds) S) {p : Addr} (n : H p = none) : Q (.ref p) (upd H p (.lst vs)) := by
  obtain ⟨g, rs', sp, nb⟩ := rs.new (o := .lst vs) n
  exact l S _ _ _ g rs' (repD_lst.mpr ⟨p, vs, rfl, ⟨.inl upd_same, sp, nb⟩, RepL.grow g _ _ r⟩) q
theorem Lift.cell {K : PySem.W.Frag} {B : Blk} {S : Store} {H : Hp} {Qd : D → Store → Prop} {Q : VK} (l : Lift K B S H Qd Q) (rs : RepS K B S H) {ds : List D} {vs : List V} (r : RepL K B S H ds vs) (q : ∀ p, S p = none → Qd (.ref p) (sput S p (.lst ds))) {p : Addr} (n : H p = none) : Q (.ref p) (upd H p (.lst vs)) := by
  obtain ⟨g, rs'⟩ := rs.newCell (o := .lst vs) (c := .lst ds) n fun S' H' g e => ⟨vs, e, RepL.grow g _ _ r⟩
  exact l _ _ _ _ g rs' (repD_ref.mpr rfl) (q p (rs.new (o := .lst vs) n).2.2.1)
theorem de_tup {es : List Expr} {x1} {pos : Pos} {t : WA} (h : DA X es t) : DE X (.Tuple es x1 pos) (wTup t) :=
  PE.mono (pe_tup h) fun σ H Q ⟨B, env, S, Qd, re, rs, q, l⟩ => ⟨B, env, S, _, re, rs, q, fun S1 H1 ds vs g1 rs1 rds q1 => ⟨by rw [← rds.len]; exact q1.1, fun p n => (l.grow g1).tup rs1 rds q1.2 n⟩⟩
theorem de_lst {es : List Expr} {pos : Pos} {t : WA} (h : DA X es t) : DE X (.List es pos) (wLst t) :=
  PE.mono (pe_lst h) fun σ H Q ⟨B, env, S, Qd, re, rs, q, l⟩ => ⟨B, env, S, _, re, rs, q, fun S1 H1 ds vs g1 rs1 rds q1 => ⟨by rw [← rds.len]; exact q1.1, fun p n => (l.grow g1).lst rs1 rds q1.2 n⟩⟩
theorem de_lstM {es : List Expr} {pos : Pos} {t : WA} (h : DA X es t) : DE X (.List es pos) (wLstM t) :=
  PE.mono (pe_lst h) fun σ H Q ⟨B, env, S, Qd, re, rs, q, l⟩ => ⟨B, env, S, _, re, rs, q, fun S1 H1 ds vs g1 rs1 rds q1 => ⟨by rw [← rds.len]; exact q1.1, fun p n => (l.grow g1).cell rs1 rds q1.2 n⟩⟩

/-! ### what is laid aside: a cell becomes a frozen list, or is forgotten -/
def Sub (S' S : Store) : Prop := ∀ a c, S' a = some c → S a = some c
theorem Sub.refl (S : Store) : Sub S S := fun _ _ h => h
theorem Sub.trans {S S' S'' : Store} (h : Sub S S') (h' : Sub S' S'') : Sub S S'' := fun a c e => h' a c (h a c e)
theorem Sub.put {S S' : Store} {p : Addr} {c : Cell} (h : Sub S S') (n : S p = none) : Sub S (sput S' p c) := fun a u e => by
  rw [sput_ne (fun z => by rw [z, n] at e; cases e)]
  exact h a u e
theorem Sub.none {S S' : Store} (h : Sub S S') {a : Addr} (n : S' a = none) : S a = none := by
  cases q : S a with
  | none => rfl
  | some c => rw [h a c q] at n; cases n
/-- which cells stay -/
inductive Fz (S S' : Store) : D → D → Prop
  | same (d : D) : Fz S S' d d
  | lst (a : Addr) (l : List D) : S a = some (.lst l) → S' a = none → Fz S S' (.ref a) (.lst l)
def wFz (t : WE) : WE := fun env S Q => t env S fun d S1 => ∃ d' S', Sub S' S1 ∧ Fz S1 S' d d' ∧ Q d' S'
section
variable {K : PySem.W.Frag} {B : Blk} {S S' : Store} {H : Hp}
theorem Sub.grow (h : Sub S' S) : Grow S H S' H := fun a o e n => ⟨e, h.none n⟩
theorem RepS.sub (rs : RepS K B S H) (h : Sub S' S) : RepS K B S' H :=
  ⟨fun a c e => (rs.cell a c (h a c e)).frame h.grow rfl, fun a b => ⟨(rs.blk a b).1, h.none (rs.blk a b).2⟩⟩
theorem Fz.rep (rs : RepS K B S H) (h : Sub S' S) {d d' : D} {v : V} (f : Fz S S' d d') (r : RepD K B S H d v) : RepD K B S' H d' v := by
  cases f with
  | same => exact RepD.grow h.grow _ _ r
  | lst a l e n =>
    rw [repD_ref] at r
    obtain ⟨xs, e1, rl⟩ := rs.cell a _ e
    refine repD_lst.mpr ⟨a, xs, r, ⟨.inl e1, n, fun b => ?_⟩, RepL.grow h.grow _ _ rl⟩
    rw [(rs.blk a b).2] at e
    cases e
end
theorem de_fz {e : Expr} {t : WE} (h : DE X e t) : DE X e (wFz t) :=
  PE.mono h fun σ H Q ⟨B, env, S, Qd, re, rs, q, l⟩ => ⟨B, env, S, _, re, rs, q, fun S1 H1 d v g1 rs1 rd ⟨d', S', sb, f, q1⟩ =>
    l S' H1 d' v (g1.trans sb.grow) (rs1.sub sb) (f.rep rs1 sb rd) q1⟩
end
end ND
set_option Elab.async false
set_option linter.all false
set_option maxRecDepth 100000
set_option maxHeartbeats 4000000
namespace ND
open PySem PySem.Spec PyProof.Rows L2
theorem tuple_mulS (l : Addr) (items : Array Value) (n : Nat) (dd : Option Addr) (sl : Array (Option Value)) (x : Int) (u : Tok) (c0 : (decide (x < -(2 ^ 63)) || decide (x ≥ 2 ^ 63)) = false) (c1 : (items.isEmpty || x == 1) = true) :
    Meets (Builtin.«tuple.__mul__» ⟨[.ref l, .int x u], []⟩) (fun _ R s => s.heap.get? l = some { cls := .type "tuple", dict := dd, data := .seq items n, slots := sl } ∧ R (.ok (.ret (Value.ref l))) s) :=
  .of_wp fun prog w A R s h => by
    obtain ⟨hp, g, d, tk, os⟩ := s
    obtain ⟨hl, h⟩ := h
    have f1 := AutoSeq1.idx_int
    wp_walk using wpAny_loadPart' hl
    repeat (first
      | (refine wpAny_ite_false (decide_eq_false (by rw [c0]; exact Bool.false_ne_true)) ?_; wp_walk using wpAny_loadPart' hl)
      | (refine wpAny_ite_true (decide_eq_true c1) ?_; wp_walk using wpAny_loadPart' hl))
    exact ⟨_, rfl, h⟩
theorem tuple_mulZ (l : Addr) (items : Array Value) (n : Nat) (dd : Option Addr) (sl : Array (Option Value)) (x : Int) (u : Tok) (c0 : (decide (x < -(2 ^ 63)) || decide (x ≥ 2 ^ 63)) = false) (c1 : (items.isEmpty || x == 1) = false) (c2 : (decide (x ≤ 0) || items.isEmpty) = true) :
    Meets (Builtin.«tuple.__mul__» ⟨[.ref l, .int x u], []⟩) (fun _ R s => s.heap.get? l = some { cls := .type "tuple", dict := dd, data := .seq items n, slots := sl } ∧
      R (.ok (.ret (Value.ref s.heap.objs.size))) { s with heap := s.heap.push { cls := Value.type "tuple", data := Data.seq #[] }, toks := s.toks }) :=
  .of_wp fun prog w A R s h => by
    obtain ⟨hp, g, d, tk, os⟩ := s
    obtain ⟨hl, h⟩ := h
    have f1 := AutoSeq1.idx_int
    wp_walk using wpAny_loadPart' hl
    repeat (first
      | (refine wpAny_ite_false (decide_eq_false (by rw [c0]; exact Bool.false_ne_true)) ?_; wp_walk using wpAny_loadPart' hl)
      | (refine wpAny_ite_false (decide_eq_false (by rw [c1]; exact Bool.false_ne_true)) ?_; wp_walk using wpAny_loadPart' hl)
      | (refine wpAny_ite_true (decide_eq_true c2) ?_; wp_walk using wpAny_loadPart' hl))
    exact ⟨_, rfl, h⟩
def rRepA (K : PySem.W.Frag) : R2 := fun x y H Q => ∃ l k xs, x = .ref l ∧ y = .int k ∧ SqT K H l xs ∧ -(2 ^ 63) ≤ k ∧ k < 2 ^ 63 ∧ (k ≤ 1 ∨ (k ≤ 1000 ∧ xs.length ≤ 1000)) ∧
  ((xs = [] ∨ k = 1) → Q (.ref l) H) ∧ ∀ p, H p = none → Q (.ref p) (upd H p (.tup (List.replicate k.toNat xs).flatten))
theorem op_repA {X : Cx} : OpR X (binaryOp .Mult) (rRepA X.K) := by
  intro pins s σ H x y v u Q I rx ry h
  obtain ⟨l, k, xs, rfl, rfl, hT, h1, h2, hz, q1, q2⟩ := h
  by_cases hs : xs = [] ∨ k = 1
  · cases rx
    obtain ⟨t, rfl⟩ := ry
    obtain ⟨its, r, ⟨⟨cls, dd, data, sl⟩, ho, hc, n, hd⟩, _⟩ := I.tuple hT
    simp only at hc hd
    subst hc hd
    have hle : its.length = xs.length := r.length.symm
    have c1 : (its.toArray.isEmpty || k == 1) = true := by
      rcases hs with e | e
      · subst e
        rw [List.eq_nil_of_length_eq_zero hle]
        rfl
      · subst e
        simp
    have c0 : (decide (k < -(2 ^ 63)) || decide (k ≥ 2 ^ 63)) = false := by
      rw [decide_eq_false (by omega), decide_eq_false (by omega)] <;> rfl
    refine wpAny_binaryOp_repeat_ref (T := "tuple") (U := "int") (by decide) ⟨_, ho, rfl⟩ (fun s' => typeIs_int s' k t) noFill_tuple_mul F.fills_int_mul F.slot_int_rmul repeat_tuple F.slot_int_index.lookup
      (call_meets F.slot_int_rmul (typeIs_int s k t) F.entry_int_rmul (F.args_int_rmul_2 _ _) (int_rmul_tuple k t l its.toArray n dd sl)
        ⟨ho, rfl, ⟨_, ho, rfl⟩, call_meets F.slot_tuple_mul ⟨_, ho, rfl⟩ F.entry_tuple_mul (F.args_tuple_mul_2 _ _) (tuple_mulS l its.toArray n dd sl k t c0 c1) ⟨ho, ?_⟩⟩)
    exact ⟨.ref l, H, I, rfl, q1 hs⟩
  · have hne : xs ≠ [] := fun e => hs (.inl e)
    have hk1 : k ≠ 1 := fun e => hs (.inr e)
    by_cases hk : 2 ≤ k
    · refine op_repT pins s σ H _ _ v u Q I rx ry ⟨l, k, xs, rfl, rfl, hT, hne, hk, by omega, by omega, q2⟩
    · cases rx
      obtain ⟨t, rfl⟩ := ry
      obtain ⟨its, r, ⟨⟨cls, dd, data, sl⟩, ho, hc, n, hd⟩, _⟩ := I.tuple hT
      simp only at hc hd
      subst hc hd
      have hle : its.length = xs.length := r.length.symm
      have hi : its.toArray.isEmpty = false := by
        cases its with
        | nil => exact absurd (List.eq_nil_of_length_eq_zero hle.symm) hne
        | cons a b => rfl
      have c1 : (its.toArray.isEmpty || k == 1) = false := by
        rw [hi, Bool.false_or]
        exact beq_eq_false_iff_ne.mpr hk1
      have c2 : (decide (k ≤ 0) || its.toArray.isEmpty) = true := by
        rw [decide_eq_true (by omega)]
        rfl
      have c0 : (decide (k < -(2 ^ 63)) || decide (k ≥ 2 ^ 63)) = false := by
        rw [decide_eq_false (by omega), decide_eq_false (by omega)] <;> rfl
      have e0 : k.toNat = 0 := by omega
      rw [e0] at q2
      refine wpAny_binaryOp_repeat_ref (T := "tuple") (U := "int") (by decide) ⟨_, ho, rfl⟩ (fun s' => typeIs_int s' k t) noFill_tuple_mul F.fills_int_mul F.slot_int_rmul repeat_tuple F.slot_int_index.lookup
        (call_meets F.slot_int_rmul (typeIs_int s k t) F.entry_int_rmul (F.args_int_rmul_2 _ _) (int_rmul_tuple k t l its.toArray n dd sl)
          ⟨ho, rfl, ⟨_, ho, rfl⟩, call_meets F.slot_tuple_mul ⟨_, ho, rfl⟩ F.entry_tuple_mul (F.args_tuple_mul_2 _ _) (tuple_mulZ l its.toArray n dd sl k t c0 c1 c2) ⟨ho, ?_⟩⟩)
      refine ⟨.ref s.heap.objs.size, _, I.laid (t' := s.toks) (o := .tup []) (fun b ob q => Heap.get?_push_of_some _ q) (Nat.le_refl _) ?_, rfl, q2 _ (I.hok.fresh (Nat.le_refl _))⟩
      exact ⟨Nat.zero_le _, _, .nil, IsTup.new _ _⟩

/-! ### t[::-1] of tuples, too -/
section
variable {prog : Program} {w : World} {A : Around} {E : Value → Shared → Prop} {s : Shared}
theorem back_bounds (n : Nat) : Builtin.Slice.sliceAdjust none none (-1) (n : Int) = ((n : Int) - 1, -1) := rfl
theorem back_places (n : Nat) : Builtin.Slice.slicePlaces ((n : Int) - 1) (-1) (-1) = n := by
  unfold Builtin.Slice.slicePlaces
  rw [if_neg (by decide)]
  by_cases h : (n : Int) - 1 > -1
  · rw [if_pos h]
    have : (- (-1 : Int)) = 1 := by decide
    rw [this, Int.ediv_one]
    omega
  · rw [if_neg h]
    omega
theorem back_pick (xs : Array Value) : ((List.range xs.size).filterMap fun (m : Nat) => xs[(((xs.size : Nat) : Int) - 1 + (m : Int) * -1).toNat]?).toArray = xs.toList.reverse.toArray := by
  have e : (fun (m : Nat) => xs[(((xs.size : Nat) : Int) - 1 + (m : Int) * -1).toNat]?) = fun m => xs[xs.size - 1 - m]? := by
    funext m
    rw [show (((xs.size : Nat) : Int) - 1 + (m : Int) * -1).toNat = xs.size - 1 - m by omega]
  rw [e]
  have h : (List.range xs.size).filterMap (fun m => xs[xs.size - 1 - m]?) = ((List.range xs.size).map fun m => xs.size - 1 - m).filterMap (xs[·]?) := by rw [List.filterMap_map]; rfl
  rw [h, PySem.W.krv_range, List.filterMap_reverse, PySem.W.krv_all]
theorem back_applied {sl : Addr} {n : Nat} {tv : Tok} {Q : Int × Int × Nat → Shared → Prop} (hs : s.heap.IsSliceOf sl .none .none (.int (-1) tv)) (h : Q ((n : Int) - 1, -1, n) s) : wpAny (model prog w) A (Builtin.Slice.sliceApplied (.ref sl) (pure (n : Int))) Q E s := by
  obtain ⟨ob, h1, h2, h3⟩ := id hs
  unfold Builtin.Slice.sliceApplied Builtin.Slice.sliceFields
  refine wpAny_bind (wpAny_bind (wpAny_field h1 h3 (x := .none) rfl (wpAny_bind (wpAny_field h1 h3 (x := .none) rfl (wpAny_bind (wpAny_field h1 h3 (x := .int (-1) tv) rfl (wpAny_pure ?_)))))))
  refine wpAny_bind (PyProof.Rows.slicePart_int ?_)
  show wpAny _ _ (if ((-1 : Int) == 0) = true then _ else _) _ _ s
  rw [if_neg (by decide)]
  refine wpAny_bind (PyProof.Rows.slicePart_none (wpAny_bind (PyProof.Rows.slicePart_none (wpAny_bind (wpAny_pure ?_)))))
  show wpAny _ _ (pure ((n : Int) - 1, (-1 : Int), Builtin.Slice.slicePlaces ((n : Int) - 1) (-1) (-1))) _ _ s
  rw [back_places]
  exact wpAny_pure h
theorem getItem_tuple_back {t sl : Addr} {items : Array Value} {tv : Tok} {Q : Value → Shared → Prop} (ht : IsTup s.heap t items) (hs : s.heap.IsSliceOf sl .none .none (.int (-1) tv))
    (h : Q (.ref s.heap.objs.size) { s with heap := s.heap.push { cls := .type "tuple", data := .seq items.toList.reverse.toArray } }) (hsz : items.size ≤ sizeLine) : wpAny (model prog w) A (getItem (.ref t) (.ref sl)) Q E s := by
  have hz : sizeOk (.seq items.toList.reverse.toArray) := by
    show items.toList.reverse.toArray.size ≤ sizeLine
    rw [List.size_toArray, List.length_reverse, Array.length_toList]
    exact hsz
  obtain ⟨ob, h1, h2, h3⟩ := id hs
  have hT : s.TypeIs (.ref sl) "slice" := ⟨ob, h1, h2⟩
  unfold getItem
  try with_reducible refine wpAny_holding ?_
  first | refine wpAny_bind (wpAny_pure ?_) | skip
  refine wpAny_bind (wpAny_sequenceKey ht.typeIs (by decide) (wpAny_bind (wpAny_callSpecial?_slot (name := Str.ofString "__getitem__") ht.typeIs PyProof.Rows.slot_tuple_getitem (wpAny_call_entry PyProof.Rows.slot_tuple_getitem ht.typeIs F.entry_tuple_getitem ?_ (F.args_tuple_getitem_2 _ _)))))
  show wpAny _ _ (Builtin.Tuple.tupleItemsOf (.ref t) >>= _) _ _ s
  refine wpAny_bind (PyProof.Rows.tupleItemsOf_ ht (wpAny_bind (wpAny_typeOf hT ?_)))
  rw [if_pos (by decide)]
  refine wpAny_bind (back_applied hs ?_)
  show wpAny _ _ (if (((items.size : Nat) : Int) - 1 == 0 && (-1 : Int) == 1 && items.size == items.size) = true then _ else _) _ _ s
  rw [if_neg (by rw [show ((-1 : Int) == 1) = false by decide, Bool.and_false, Bool.false_and]; exact Bool.false_ne_true), back_pick]
  first
    | exact wpAny_bind (m := Builtin.Tuple.tupleExact _) (wpAny_newObj_type (wpAny_pure ⟨_, rfl, wpAny_pure h⟩) hz)
    | exact wpAny_bind (m := Builtin.Tuple.tupleExact _) (wpAny_newObj_type (wpAny_bind (wpAny_pure (wpAny_pure ⟨_, rfl, wpAny_pure h⟩))) hz)
    | exact wpAny_bind (wpAny_bind (m := Builtin.Tuple.tupleExact _) (wpAny_newObj_type (wpAny_pure (wpAny_pure ⟨_, rfl, wpAny_pure h⟩)) hz))
    | exact wpAny_bind (wpAny_bind (m := Builtin.Tuple.tupleExact _) (wpAny_newObj_type (wpAny_pure ⟨_, rfl, wpAny_pure h⟩) hz))
end
def tBack (K : PySem.W.Frag) (te : TE) : TE := fun σ H Q => te σ H fun x H1 => ∃ a xs, x = .ref a ∧ ((SqL K H1 a xs ∧ ∀ p, H1 p = none → Q (.ref p) (upd H1 p (.lst xs.reverse))) ∨ (SqT K H1 a xs ∧ ∀ p, H1 p = none → Q (.ref p) (upd H1 p (.tup xs.reverse))))
theorem pe_back {X : Cx} {e : Expr} {te : TE} {k : Nat} {p1 p2 p3 pos : Pos} (he : PE X e te) : PE X (.Subscript e (.Slice none none (some (.UnaryOp .USub (.Constant (.int 1) k p1) p2)) p3) pos) (tBack X.K te) := by
  refine ⟨fun pins s σ H Q I h => Subscript_ (thn (he.run pins s σ H _ I h) fun v s1 ⟨x, H1, I1, r1, a, xs, ex, q1⟩ => ?_)⟩
  subst ex
  cases r1
  have hm1 : PO X (some (.UnaryOp .USub (.Constant (.int 1) k p1) p2)) (tPart (tUn (rU fun i => .int (-i)) (tC (.int 1)))) := po_some (pe_un un_neg pe_int)
  refine wpAny_Slice (thn (po_none.run pins s1 σ H1 (fun o Ha => o = none ∧ Ha = H1) I1 ⟨rfl, rfl⟩) fun v1 s2 ⟨o1, H2, I2, pl, e1, e2⟩ => thn (po_none.run pins s2 σ H2 (fun o Ha => o = none ∧ Ha = H2) I2 ⟨rfl, rfl⟩) fun v2 s3 ⟨o2, H3, I3, pu, e3, e4⟩ =>
    thn (hm1.run pins s3 σ H3 (fun o Ha => o = some (-1) ∧ Ha = H3) I3 ⟨1, rfl, -1, rfl, rfl, rfl⟩) fun v3 s4 ⟨o3, H4, I4, ps, e5, e6⟩ => ?_)
  subst e1 e2 e3 e4 e5 e6
  have I5 : Inv X pins σ H4 { s4 with heap := s4.heap.push { cls := .type "slice", data := .fields #[v1, v2, v3] } } := I4.kept (t' := s4.toks) fun b ob q => Heap.get?_push_of_some _ q
  show wpAny (model X.prog X.w) X.A (subscriptTail e (.Slice none none (some (.UnaryOp .USub (.Constant (.int 1) k p1) p2)) p3) (.ref a) (.ref s4.heap.objs.size)) (EP X pins σ Q) X.xe { s4 with heap := s4.heap.push { cls := .type "slice", data := .fields #[v1, v2, v3] } }
  rcases q1 with ⟨hx, q⟩ | ⟨hx, q⟩
  · obtain ⟨its, r, ht, hz⟩ := I5.list hx
    have hlen := r.length
    refine tail_any (ops := [.ref a, .ref s4.heap.objs.size]) ht.isList.typeIs (PySem.slot_list_getitem.lookup) (wpAny_getItem_list_slice ht.isList (Heap.IsSliceOf.new _ v1 v2 v3) pl pu ps (by decide) ?_ (by rw [List.size_toArray]; omega)) (by with_unfolding_all rfl)
    rw [PySem.W.krv_pick]
    exact ⟨.ref _, _, I5.laid (t' := s4.toks) (o := .lst xs.reverse) (fun b ob q => Heap.get?_push_of_some _ q) (Nat.le_refl _) ⟨by rw [List.length_reverse]; exact hz, _, 0, r.reverse, Heap.get?_push_size _ rfl⟩, rfl, q _ (I5.hok.fresh (Nat.le_refl _))⟩
  · obtain ⟨its, r, ht, hz⟩ := I5.tuple hx
    have hlen := r.length
    cases pl
    cases pu
    cases ps with
    | int i t =>
      refine tail_any (ops := [.ref a, .ref s4.heap.objs.size]) ht.typeIs (PyProof.Rows.slot_tuple_getitem.lookup) (getItem_tuple_back ht (Heap.IsSliceOf.new _ _ _ _) ?_ (by rw [List.size_toArray]; omega)) (by with_unfolding_all rfl)
      exact ⟨.ref _, _, I5.laid (t' := s4.toks) (o := .tup xs.reverse) (fun b ob q => Heap.get?_push_of_some _ q) (Nat.le_refl _) ⟨by rw [List.length_reverse]; exact hz, _, r.reverse, IsTup.new _ _⟩, rfl, q _ (I5.hok.fresh (Nat.le_refl _))⟩
end ND
set_option Elab.async false
set_option linter.all false
set_option maxRecDepth 100000
namespace ND
open PySem PySem.Spec PyProof.Rows L2

/-- the content of a list; of a list or a tuple -/
def LC (S : Store) (d : D) (l : List D) : Prop := match d with
  | .lst l' => l' = l
  | .ref a => S a = some (.lst l)
  | _ => False
def SC (S : Store) (d : D) (l : List D) : Prop := match d with
  | .tup l' => l' = l
  | .lst l' => l' = l
  | .kls l' => l' = l
  | .ref a => S a = some (.lst l)
  | _ => False
section
variable {K : PySem.W.Frag} {B : Blk} {S : Store} {H : Hp}
theorem lc_seq {d : D} {v : V} {l : List D} (rs : RepS K B S H) (r : RepD K B S H d v) (c : LC S d l) : ∃ a xs, v = .ref a ∧ Rd H a (.lst xs) ∧ RepL K B S H l xs := by
  cases d with
  | lst l' =>
    obtain rfl : l' = l := c
    obtain ⟨a, xs, e, t, q⟩ := repD_lst.mp r
    exact ⟨a, xs, e, t.1, q⟩
  | ref a =>
    have c' : S a = some (.lst l) := c
    obtain ⟨xs, e, q⟩ := rs.cell a _ c'
    exact ⟨a, xs, repD_ref.mp r, .inl e, q⟩
  | _ => exact False.elim c
theorem sc_seq {d : D} {v : V} {l : List D} (rs : RepS K B S H) (r : RepD K B S H d v) (c : SC S d l) : ∃ a xs, v = .ref a ∧ (SqL K H a xs ∨ SqT K H a xs) ∧ RepL K B S H l xs := by
  cases d with
  | tup l' =>
    obtain rfl : l' = l := c
    obtain ⟨a, xs, e, t, q⟩ := repD_tup.mp r
    exact ⟨a, xs, e, .inr t.seq, q⟩
  | lst l' =>
    obtain ⟨a, xs, e, t, q⟩ := lc_seq rs r (show LC S (.lst l') l from c)
    exact ⟨a, xs, e, .inl (.inl t), q⟩
  | kls l' =>
    obtain rfl : l' = l := c
    obtain ⟨a, xs, e, t, q⟩ := repD_kls.mp r
    exact ⟨a, xs, e, .inl (.inr t), q⟩
  | ref a =>
    obtain ⟨a, xs, e, t, q⟩ := lc_seq rs r (show LC S (.ref a) l from c)
    exact ⟨a, xs, e, .inl (.inl t), q⟩
  | _ => exact False.elim c
end
section
variable {X : Cx}
theorem lstR {pins : List (Addr × Obj)} {σ : L2.St} {H : Hp} {s : Shared} {a : Addr} {xs : List V} (I : Inv X pins σ H s) (h : Rd H a (.lst xs)) :
    xs.length ≤ sizeLine ∧ ∃ (its : List Value) (n : Nat), Vals xs its ∧ xs.length = its.length ∧ s.heap.get? a = some { cls := .type "list", data := .seq its.toArray n } := by
  obtain ⟨z, its, n, r, e⟩ := h.ok I.hok
  exact ⟨z, its, n, r, r.length, e⟩
theorem lnewR {pins : List (Addr × Obj)} {σ : L2.St} {H : Hp} {s : Shared} {ys : List V} {its : List Value} (I : Inv X pins σ H s) (hv : Vals ys its) (hz : ys.length ≤ sizeLine) :
    Inv X pins σ (upd H s.heap.objs.size (.lst ys)) { s with heap := s.heap.push { cls := .type "list", data := .seq its.toArray }, toks := s.toks } := I.lnew hv hz

/-! ### + and * -/
def rCatR : R2 := fun x y H Q => ∃ l b xs zs, x = .ref l ∧ y = .ref b ∧ Rd H l (.lst xs) ∧ Rd H b (.lst zs) ∧ xs.length + zs.length ≤ sizeLine ∧
  ∀ p, H p = none → Q (.ref p) (upd H p (.lst (xs ++ zs)))
theorem op_catR : OpR X (binaryOp .Add) rCatR := by
  rintro pins s σ H x y v u Q I rx ry ⟨l, b, xs, zs, rfl, rfl, hA, hB, hz, q⟩
  cases rx; cases ry
  obtain ⟨_, i1, n1, r1, l1, g1⟩ := lstR I hA
  obtain ⟨_, i2, n2, r2, l2, g2⟩ := lstR I hB
  refine PySem.P.add_list g1 g2 ?_ (by simp only [List.size_toArray]; omega)
  rw [show i1.toArray ++ i2.toArray = (i1 ++ i2).toArray by simp]
  have len : (xs ++ zs).length ≤ sizeLine := by rw [List.length_append]; exact hz
  exact ⟨.ref _, _, lnewR I (r1.append r2) len, rfl, q _ I.fresh⟩
def oAdd : O2 := fun x y S Q => match x with
  | .int i => (match y with | .int j => Q (.int (i + j)) S | _ => False)
  | .str a => (match y with | .str b => a.length + b.length ≤ sizeLine ∧ Q (.str (a ++ b)) S | _ => False)
  | .tup a => (match y with | .tup b => a.length + b.length ≤ sizeLine ∧ Q (.tup (a ++ b)) S | _ => False)
  | x => ∃ a b, LC S x a ∧ LC S y b ∧ a.length + b.length ≤ sizeLine ∧ Q (.lst (a ++ b)) S
def rAddAll (K : PySem.W.Frag) : R2 := fun x y H Q => rI0 (fun i j => .int (i + j)) x y H Q ∨ (∃ i j, x = .str i ∧ y = .str j ∧ i.length + j.length ≤ sizeLine ∧ Q (.str (i ++ j)) H) ∨ rCatA K x y H Q ∨ rCatR x y H Q
theorem op_addAll : OpR X (binaryOp .Add) (rAddAll X.K) := op_add.or (op_add_str.or (op_catA.or op_catR))
theorem od_add : OD X (binaryOp .Add) oAdd := OD.of op_addAll fun B S H x y vx vy Qd Q rs rx ry q l => by
  have lists : (∃ a b, LC S x a ∧ LC S y b ∧ a.length + b.length ≤ sizeLine ∧ Qd (.lst (a ++ b)) S) → rAddAll X.K vx vy H Q := by
    rintro ⟨a, b, ca, cb, hz, q⟩
    obtain ⟨p1, xs, rfl, h1, r1⟩ := lc_seq rs rx ca
    obtain ⟨p2, ys, rfl, h2, r2⟩ := lc_seq rs ry cb
    exact .inr (.inr (.inr ⟨p1, p2, xs, ys, rfl, rfl, h1, h2, by rw [← r1.len, ← r2.len]; exact hz, fun p n => l.lst rs (r1.app r2) q n⟩))
  cases x with
  | int i =>
    cases y with
    | int j => rw [repD_int] at rx ry; exact .inl ⟨i, j, rx, ry, l S H _ _ .refl rs (repD_int.mpr rfl) q⟩
    | _ => exact False.elim q
  | str a =>
    cases y with
    | str b => rw [repD_str] at rx ry; exact .inr (.inl ⟨a, b, rx, ry, q.1, l S H _ _ .refl rs (repD_str.mpr rfl) q.2⟩)
    | _ => exact False.elim q
  | tup a =>
    cases y with
    | tup b =>
      obtain ⟨p1, xs, e1, h1, r1⟩ := repD_tup.mp rx
      obtain ⟨p2, ys, e2, h2, r2⟩ := repD_tup.mp ry
      refine .inr (.inr (.inl ⟨p1, p2, xs, ys, e1, e2, h1.seq, h2.seq, by rw [← r1.len, ← r2.len]; exact q.1, fun e => ?_, fun _ e => ?_, fun _ _ p n => l.tup rs (r1.app r2) q.2 n⟩))
      · subst e
        have ea : a = [] := List.eq_nil_of_length_eq_zero r1.len
        subst ea
        rw [← e2]
        exact l S H _ _ .refl rs ry q.2
      · subst e
        have eb : b = [] := List.eq_nil_of_length_eq_zero r2.len
        subst eb
        rw [← e1]
        have q2 := q.2
        rw [List.append_nil] at q2
        exact l S H _ _ .refl rs rx q2
    | _ => exact False.elim q
  | lst a => exact lists q
  | ref a => exact lists q
  | non => exact lists q
  | bl b => exact lists q
  | kls b => exact lists q
  | fn b => exact lists q
def oAddM : O2 := fun x y S Q => ∃ a b, LC S x a ∧ LC S y b ∧ a.length + b.length ≤ sizeLine ∧ ∀ p, S p = none → Q (.ref p) (sput S p (.lst (a ++ b)))
theorem od_addM : OD X (binaryOp .Add) oAddM := OD.of op_catR fun B S H x y vx vy Qd Q rs rx ry ⟨a, b, ca, cb, hz, q⟩ l => by
  obtain ⟨p1, xs, rfl, h1, r1⟩ := lc_seq rs rx ca
  obtain ⟨p2, ys, rfl, h2, r2⟩ := lc_seq rs ry cb
  exact ⟨p1, p2, xs, ys, rfl, rfl, h1, h2, by rw [← r1.len, ← r2.len]; exact hz, fun p n => l.cell rs (r1.app r2) q n⟩
def rRepR : R2 := fun x y H Q => ∃ l k xs, x = .ref l ∧ y = .int k ∧ Rd H l (.lst xs) ∧ -(2 ^ 63) ≤ k ∧ k < 2 ^ 63 ∧ xs.length * k.toNat ≤ sizeLine ∧
  ∀ p, H p = none → Q (.ref p) (upd H p (.lst (List.replicate k.toNat xs).flatten))
theorem op_repR : OpR X (binaryOp .Mult) rRepR := by
  rintro pins s σ H x y v u Q I rx ry ⟨l, k, xs, rfl, rfl, hA, h1, h2, hz, q⟩
  obtain ⟨z1, its, n, r1, hl, e2⟩ := lstR I hA
  cases rx
  obtain ⟨t, rfl⟩ := ry
  have big : ¬ its.toArray.size * k.toNat > (2 ^ 63 - 1) / 8 := by
    have e3 : (sizeLine : Nat) ≤ (2 ^ 63 - 1) / 8 := by decide
    rw [List.size_toArray, ← hl]
    omega
  have fit : ¬ (!Builtin.List.listFitsIndex k) = true := by rw [fitsIndex_both h1 h2]; decide
  have lng : ¬ Builtin.List.listTooLong (its.toArray.size * k.toNat) = true := by
    rw [List.size_toArray, ← hl, notLongL hz]; decide
  have made : List.foldl (fun (u v : Array Value) => u ++ v) #[] (List.replicate (if its.toArray.isEmpty = true then 0 else k.toNat) its.toArray) = (List.replicate k.toNat its).flatten.toArray := by
    rw [show List.foldl (fun (u v : Array Value) => u ++ v) #[] (List.replicate (if its.toArray.isEmpty = true then 0 else k.toNat) its.toArray) =
      (List.replicate (if its.toArray.isEmpty = true then 0 else k.toNat) its).flatten.toArray by simpa using foldl_rep its _ []]
    cases its with
    | nil => simp
    | cons a r' => simp
  have sz : (List.replicate k.toNat xs).flatten.length ≤ sizeLine := by rw [PyProof.Rows.lm_len_rep_flat, Nat.mul_comm]; exact hz
  refine wpAny_binaryOp_repeat_ref (T := "list") (U := "int") (by decide) ⟨_, e2, rfl⟩ (fun s' => typeIs_int s' k t)
    noFill_list_mul F.fills_int_mul F.slot_int_rmul repeat_list F.slot_int_index.lookup ?_
  refine call_meets F.slot_int_rmul (typeIs_int s k t) F.entry_int_rmul (F.args_int_rmul_2 _ _) (int___rmul___int_list k t l its.toArray n) ⟨e2, rfl, ⟨_, e2, rfl⟩, ?_⟩
  refine call_meets F.slot_list_mul ⟨_, e2, rfl⟩ F.entry_list_mul (F.args_list_mul_2 _ _) (AutoListH.list___mul___list_int_3 l its.toArray n k t fit big lng) ⟨e2, ?_⟩
  rw [made]
  exact ⟨.ref _, _, lnewR I (r1.rep k.toNat) sz, rfl, q _ I.fresh⟩
def oMul : O2 := fun x y S Q => match y with
  | .int j => (match x with
    | .int i => CMulW i j ∧ Q (.int (i * j)) S
    | .tup a => -(2 ^ 63) ≤ j ∧ j < 2 ^ 63 ∧ (j ≤ 1 ∨ (j ≤ 1000 ∧ a.length ≤ 1000)) ∧ Q (.tup (List.replicate j.toNat a).flatten) S
    | x => ∃ a, LC S x a ∧ -(2 ^ 63) ≤ j ∧ j < 2 ^ 63 ∧ a.length * j.toNat ≤ sizeLine ∧ Q (.lst (List.replicate j.toNat a).flatten) S)
  | _ => False
theorem od_mul : OD X (binaryOp .Mult) oMul := OD.of (op_mulW.or (op_repR.or op_repA)) fun B S H x y vx vy Qd Q rs rx ry q l => by
  cases y with
  | int j =>
    rw [repD_int] at ry
    have lists : (∃ a, LC S x a ∧ -(2 ^ 63) ≤ j ∧ j < 2 ^ 63 ∧ a.length * j.toNat ≤ sizeLine ∧ Qd (.lst (List.replicate j.toNat a).flatten) S) → rRepR vx vy H Q := by
      rintro ⟨a, ca, h1, h2, hz, q⟩
      obtain ⟨p1, xs, rfl, h3, r1⟩ := lc_seq rs rx ca
      exact ⟨p1, j, xs, rfl, ry, h3, h1, h2, by rw [← r1.len]; exact hz, fun p n => l.lst rs (r1.flat _) q n⟩
    cases x with
    | int i => rw [repD_int] at rx; exact .inl ⟨i, j, rx, ry, q.1, l S H _ _ .refl rs (repD_int.mpr rfl) q.2⟩
    | str a => exact .inr (.inl (lists q))
    | tup a =>
      obtain ⟨h1, h2, h3, q⟩ := q
      obtain ⟨p1, xs, rfl, h, rl⟩ := repD_tup.mp rx
      refine .inr (.inr ⟨p1, j, xs, rfl, ry, h.seq, h1, h2, by rw [← rl.len]; exact h3, fun hc => ?_, fun p n => l.tup rs (rl.flat _) q n⟩)
      have e : (List.replicate j.toNat a).flatten = a := by
        rcases hc with hc | hc
        · subst hc
          have : a = [] := List.eq_nil_of_length_eq_zero rl.len
          subst this
          simp
        · subst hc
          simp
      rw [e] at q
      exact l S H _ _ .refl rs rx q
    | lst a => exact .inr (.inl (lists q))
    | ref a => exact .inr (.inl (lists q))
    | non => exact .inr (.inl (lists q))
    | bl b => exact .inr (.inl (lists q))
    | kls b => exact .inr (.inl (lists q))
    | fn b => exact .inr (.inl (lists q))
  | _ => exact False.elim q
def oRepM : O2 := fun x y S Q => match y with
  | .int j => ∃ a, LC S x a ∧ -(2 ^ 63) ≤ j ∧ j < 2 ^ 63 ∧ a.length * j.toNat ≤ sizeLine ∧ ∀ p, S p = none → Q (.ref p) (sput S p (.lst (List.replicate j.toNat a).flatten))
  | _ => False
theorem od_repM : OD X (binaryOp .Mult) oRepM := OD.of op_repR fun B S H x y vx vy Qd Q rs rx ry q l => by
  cases y with
  | int j =>
    rw [repD_int] at ry
    obtain ⟨a, ca, h1, h2, hz, q⟩ := q
    obtain ⟨p1, xs, rfl, h3, r1⟩ := lc_seq rs rx ca
    exact ⟨p1, j, xs, rfl, ry, h3, h1, h2, by rw [← r1.len]; exact hz, fun p n => l.cell rs (r1.flat _) q n⟩
  | _ => exact False.elim q

/-! ### an item, a part -/
def oIx : O2 := fun x y S Q => match y with
  | .int i => (match x with
    | .str z => ∃ c, atI z.cps.toList i = some c ∧ z.length ≤ sizeLine ∧ Q (.str ⟨#[c]⟩) S
    | x => ∃ l d, SC S x l ∧ atI l i = some d ∧ Q d S)
  | _ => False
theorem atI_rep {K : PySem.W.Frag} {B : Blk} {S : Store} {H : Hp} {l : List D} {xs : List V} (r : RepL K B S H l xs) {i : Int} {d : D} (h : atI l i = some d) : ∃ v, atI xs i = some v ∧ RepD K B S H d v := by
  unfold atI at h ⊢
  rw [← r.len]
  cases e : ixN l.length i with
  | none => rw [e] at h; cases h
  | some j =>
    rw [e] at h
    exact r.get h
def ODx (X : Cx) (o : O2) : Prop := IxR X (rD X.K o)
theorem odx_ix : ODx X oIx := fun va sl pins s σ H vx vy v u Q I r1 r2 ⟨B, S, x, y, Qd, rs, rx, ry, q, l⟩ hsub => by
  refine ix_seq va sl pins s σ H vx vy v u Q I r1 r2 ?_ hsub
  cases y with
  | int i =>
    rw [repD_int] at ry
    have seqs : (∃ m d, SC S x m ∧ atI m i = some d ∧ Qd d S) → rIx X.K vx vy H Q := by
      rintro ⟨m, d, c, e, q⟩
      obtain ⟨a, xs, rfl, h, rl⟩ := sc_seq rs rx c
      obtain ⟨v', e1, rd⟩ := atI_rep rl e
      rcases h with h | h
      · exact .inl ⟨a, xs, i, v', rfl, ry, h, e1, l S H d v' .refl rs rd q⟩
      · exact .inr (.inl ⟨a, xs, i, v', rfl, ry, h, e1, l S H d v' .refl rs rd q⟩)
    cases x with
    | str z =>
      rw [repD_str] at rx
      obtain ⟨c, e, hz, q⟩ := q
      exact .inr (.inr ⟨z, i, c, rx, ry, hz, e, l S H _ _ .refl rs (repD_str.mpr rfl) q⟩)
    | int a => exact seqs q
    | tup a => exact seqs q
    | lst a => exact seqs q
    | ref a => exact seqs q
    | non => exact seqs q
    | bl b => exact seqs q
    | kls b => exact seqs q
    | fn b => exact seqs q
  | _ => exact False.elim q
theorem de_ix {a b : Expr} {pos : Pos} {o : O2} {ta tb : WE} (ho : ODx X o) (ha : DE X a ta) (hb : DE X b tb) (hs : PlainIx b := by intro _ _; rfl) : DE X (.Subscript a b pos) (w2 o ta tb) :=
  PE.mono (pe_ix ho ha hb hs) fun σ H Q ⟨B, env, S, Qd, re, rs, q, l⟩ =>
    ⟨B, env, S, _, re, rs, q, fun S1 H1 x vx g1 rs1 rx q1 => ⟨B, env, S1, _, re.grow g1, rs1, q1, fun S2 H2 y vy g2 rs2 ry q2 => ⟨B, S2, x, y, Qd, rs2, RepD.grow g2 _ _ rx, ry, q2, l.grow (g1.trans g2)⟩⟩⟩
def cutD (l : List D) (lo hi : Option Int) : List D := (l.drop (HT.sIx l.length 0 lo)).take (HT.sIx l.length l.length hi - HT.sIx l.length 0 lo)
theorem cut_rep {K : PySem.W.Frag} {B : Blk} {S : Store} {H : Hp} {l : List D} {xs : List V} (r : RepL K B S H l xs) (lo hi : Option Int) : RepL K B S H (cutD l lo hi) (cutV xs lo hi) := by
  unfold cutD cutV
  rw [← r.len]
  exact (r.drop _).take _
/-- an optional bound of a part -/
abbrev WO := Slots → Store → (Option Int → Store → Prop) → Prop
def tDO (K : PySem.W.Frag) (t : WO) : TO := fun σ H Q => ∃ B env S Qd, RepE K B S H env σ ∧ RepS K B S H ∧ t env S Qd ∧ ∀ S' H' o, Grow S H S' H' → RepS K B S' H' → Qd o S' → Q o H'
def DO (X : Cx) (e : Option Expr) (t : WO) : Prop := PO X e (tDO X.K t)
def wNoP : WO := fun _ S Q => Q none S
def wP (t : WE) : WO := fun env S Q => t env S fun d S1 => match d with | .int i => Q (some i) S1 | _ => False
theorem do_none : DO X none wNoP := ⟨fun pins s σ H Q I ⟨B, env, S, Qd, re, rs, q, l⟩ => po_none.run pins s σ H Q I (l S H none .refl rs q)⟩
theorem do_some {e : Expr} {t : WE} (h : DE X e t) : DO X (some e) (wP t) := ⟨fun pins s σ H Q I ⟨B, env, S, Qd, re, rs, q, l⟩ => (po_some h).run pins s σ H Q I
  ⟨B, env, S, _, re, rs, q, fun S1 H1 d v g1 rs1 rd q1 => by
    cases d with
    | int i => rw [repD_int] at rd; exact ⟨i, rd, l S1 H1 _ g1 rs1 q1⟩
    | _ => exact False.elim q1⟩⟩
def oSl (x : D) (lo hi : Option Int) (S : Store) (Q : D → Store → Prop) : Prop := match x with
  | .tup l => Q (.tup (cutD l lo hi)) S
  | .str z => z.length ≤ sizeLine ∧ Q (.str (cutS z lo hi)) S
  | .kls l => Q (.lst (cutD l lo hi)) S
  | x => ∃ l, LC S x l ∧ Q (.lst (cutD l lo hi)) S
def wSl (t : WE) (tl th : WO) : WE := fun env S Q => t env S fun x S1 => tl env S1 fun a S2 => th env S2 fun b S3 => oSl x a b S3 Q
theorem sl_all : SlR X (fun x lo hi H Q => rSlA X.K x lo hi H Q ∨ rSlS x lo hi H Q ∨ rSlL X.K x lo hi H Q) := sl_tupA.or (sl_str.or sl_list)
theorem sl_rep {B : Blk} {S : Store} {H : Hp} {x : D} {vx : V} {lo hi : Option Int} {Qd : D → Store → Prop} {Q : VK} (rs : RepS X.K B S H) (rx : RepD X.K B S H x vx) (q : oSl x lo hi S Qd) (l : Lift X.K B S H Qd Q) :
    rSlA X.K vx lo hi H Q ∨ rSlS vx lo hi H Q ∨ rSlL X.K vx lo hi H Q := by
  have lists : (∃ m, LC S x m ∧ Qd (.lst (cutD m lo hi)) S) → rSlL X.K vx lo hi H Q := by
    rintro ⟨m, c, q⟩
    obtain ⟨a, xs, rfl, h, rl⟩ := lc_seq rs rx c
    exact ⟨a, xs, rfl, .inl h, fun p n => l.lst rs (cut_rep rl lo hi) q n⟩
  cases x with
  | tup m =>
    obtain ⟨a, xs, e, h, rl⟩ := repD_tup.mp rx
    refine .inl ⟨a, xs, e, h.seq, fun w => ?_, fun _ p n => l.tup rs (cut_rep rl lo hi) q n⟩
    have em : cutD m lo hi = m := by
      unfold cutD
      rw [rl.len, w.1, w.2]
      simp [← rl.len]
    have q' : Qd (.tup (cutD m lo hi)) S := q
    rw [em] at q'
    rw [← e]
    exact l S H _ _ .refl rs rx q'
  | str z => rw [repD_str] at rx; exact .inr (.inl ⟨z, rx, q.1, l S H _ _ .refl rs (repD_str.mpr rfl) q.2⟩)
  | int a => exact .inr (.inr (lists q))
  | lst a => exact .inr (.inr (lists q))
  | ref a => exact .inr (.inr (lists q))
  | non => exact .inr (.inr (lists q))
  | bl b => exact .inr (.inr (lists q))
  | fn b => exact .inr (.inr (lists q))
  | kls m =>
    obtain ⟨a, xs, e, h, rl⟩ := repD_kls.mp rx
    exact .inr (.inr ⟨a, xs, e, .inr h, fun p n => l.lst rs (cut_rep rl lo hi) q n⟩)
theorem de_slice {e : Expr} {lo hi : Option Expr} {p2 pos : Pos} {t : WE} {tl th : WO} (he : DE X e t) (hl : DO X lo tl) (hh : DO X hi th) : DE X (.Subscript e (.Slice lo hi none p2) pos) (wSl t tl th) :=
  PE.mono (pe_slice sl_all he hl hh) fun σ H Q ⟨B, env, S, Qd, re, rs, q, l⟩ =>
    ⟨B, env, S, _, re, rs, q, fun S1 H1 x vx g1 rs1 rx q1 => ⟨B, env, S1, _, re.grow g1, rs1, q1, fun S2 H2 a g2 rs2 q2 => ⟨B, env, S2, _, re.grow (g1.trans g2), rs2, q2, fun S3 H3 b g3 rs3 q3 =>
      sl_rep rs3 (RepD.grow (g2.trans g3) _ _ rx) q3 (l.grow (g1.trans (g2.trans g3)))⟩⟩⟩
def oRev : O1 := fun x S Q => match x with
  | .tup l => Q (.tup l.reverse) S
  | x => ∃ l, LC S x l ∧ Q (.lst l.reverse) S
theorem de_rev {e : Expr} {t : WE} {k : Nat} {p1 p2 p3 pos : Pos} (he : DE X e t) : DE X (.Subscript e (.Slice none none (some (.UnaryOp .USub (.Constant (.int 1) k p1) p2)) p3) pos) (w1 oRev t) :=
  PE.mono (pe_back he) fun σ H Q ⟨B, env, S, Qd, re, rs, q, l⟩ => ⟨B, env, S, _, re, rs, q, fun S1 H1 x vx g1 rs1 rx q1 => by
    have lists : (∃ m, LC S1 x m ∧ Qd (.lst m.reverse) S1) → ∃ a xs, vx = .ref a ∧ ((SqL X.K H1 a xs ∧ ∀ p, H1 p = none → Q (.ref p) (upd H1 p (.lst xs.reverse))) ∨ (SqT X.K H1 a xs ∧ ∀ p, H1 p = none → Q (.ref p) (upd H1 p (.tup xs.reverse)))) := by
      rintro ⟨m, c, q1⟩
      obtain ⟨a, xs, rfl, h, rl⟩ := lc_seq rs1 rx c
      exact ⟨a, xs, rfl, .inl ⟨.inl h, fun p n => (l.grow g1).lst rs1 rl.rev q1 n⟩⟩
    cases x with
    | tup m =>
      obtain ⟨a, xs, rfl, h, rl⟩ := repD_tup.mp rx
      exact ⟨a, xs, rfl, .inr ⟨h.seq, fun p n => (l.grow g1).tup rs1 rl.rev q1 n⟩⟩
    | _ => exact lists q1⟩

/-! ### == -/
mutual
def toP : D → PyData
  | .non => .none
  | .bl b => .bool b
  | .int i => .int i
  | .str x => .str x
  | .tup l => .tuple (toPs l)
  | .lst l => .list (toPs l)
  | .ref _ => .dict []
  | .kls _ => .dict []
  | .fn _ => .dict []
def toPs : List D → List PyData
  | [] => []
  | d :: l => toP d :: toPs l
def noRef : D → Bool
  | .ref _ => false
  | .kls _ => false
  | .fn _ => false
  | .tup l => noRefs l
  | .lst l => noRefs l
  | _ => true
def noRefs : List D → Bool
  | [] => true
  | d :: l => noRef d && noRefs l
end
mutual
theorem dp_of {K : PySem.W.Frag} {B : Blk} {S : Store} {H : Hp} : ∀ (d : D) (v : V), RepD K B S H d v → noRef d = true → Dp K H v (toP d)
  | .non, v, r, _ => by rw [repD_non] at r; subst r; unfold toP; exact .non
  | .bl b, v, r, _ => by rw [repD_bl] at r; subst r; unfold toP; exact .bl b
  | .int i, v, r, _ => by rw [repD_int] at r; subst r; unfold toP; exact .int i
  | .str x, v, r, _ => by rw [repD_str] at r; subst r; unfold toP; exact .str x
  | .tup l, v, r, n => by
    obtain ⟨a, xs, rfl, t, rl⟩ := repD_tup.mp r
    unfold toP
    unfold noRef at n
    exact .tup t.seq (dps_of l xs rl n)
  | .lst l, v, r, n => by
    obtain ⟨a, xs, rfl, t, rl⟩ := repD_lst.mp r
    unfold toP
    unfold noRef at n
    exact .lst t.seq (dps_of l xs rl n)
  | .ref a, v, r, n => by unfold noRef at n; cases n
  | .kls a, v, r, n => by unfold noRef at n; cases n
  | .fn a, v, r, n => by unfold noRef at n; cases n
theorem dps_of {K : PySem.W.Frag} {B : Blk} {S : Store} {H : Hp} : ∀ (l : List D) (xs : List V), RepL K B S H l xs → noRefs l = true → DpAll K H xs (toPs l)
  | [], xs, r, _ => by rw [repL_nil] at r; subst r; unfold toPs; exact .nil
  | d :: l, xs, r, n => by
    obtain ⟨v, xs', rfl, rd, rl⟩ := repL_cons.mp r
    unfold noRefs at n
    rw [Bool.and_eq_true] at n
    unfold toPs
    exact .cons (dp_of d v rd n.1) (dps_of l xs' rl n.2)
end
/-- a list that may change, as it stands -/
def seen (S : Store) (d : D) (d' : D) : Prop := match d with
  | .ref a => ∃ l, S a = some (.lst l) ∧ d' = .lst l
  | d => d' = d
theorem dp_seen {K : PySem.W.Frag} {B : Blk} {S : Store} {H : Hp} {d d' : D} {v : V} (rs : RepS K B S H) (r : RepD K B S H d v) (h : seen S d d') (n : noRef d' = true) : Dp K H v (toP d') := by
  cases d with
  | ref a =>
    obtain ⟨l, e, rfl⟩ := h
    obtain ⟨xs, e1, rl⟩ := rs.cell a _ e
    rw [repD_ref] at r
    subst r
    unfold toP
    unfold noRef at n
    exact .lst (.of e1) (dps_of l xs rl n)
  | non => obtain rfl : d' = _ := h; exact dp_of _ v r n
  | bl b => obtain rfl : d' = _ := h; exact dp_of _ v r n
  | int i => obtain rfl : d' = _ := h; exact dp_of _ v r n
  | str x => obtain rfl : d' = _ := h; exact dp_of _ v r n
  | tup l => obtain rfl : d' = _ := h; exact dp_of _ v r n
  | lst l => obtain rfl : d' = _ := h; exact dp_of _ v r n
  | kls l => obtain rfl : d' = _ := h; exact dp_of _ v r n
  | fn l => obtain rfl : d' = _ := h; exact dp_of _ v r n
/-- a truth, or its contrary -/
def nb (neg b : Bool) : Bool := match neg with
  | true => !b
  | false => b
def okP (d : D) : Prop := noRef d = true ∧ SeqAt.shaped (toP d) = true
def deq (x y : D) : Bool := PyData.eqv (toP x) (toP y)
/-- == as the rule has it; with ints side by side nothing is asked -/
def oEqB (neg : Bool) : O2 := fun x y S Q => match x, y with
  | .int i, .int j => Q (.bl (nb neg (decide (i = j)))) S
  | x, y => ∃ x' y', seen S x x' ∧ seen S y y' ∧ okP x' ∧ okP y' ∧ Q (.bl (nb neg (deq x' y'))) S
abbrev oEq : O2 := oEqB false
abbrev oNe : O2 := oEqB true
theorem od_eq (hu : X.A.units + 64 < cLine) : OD X (compareOp .Eq) oEq := OD.of (OpR.or op_eq (op_eqD hu)) fun B S H x y vx vy Qd Q rs rx ry q l => by
  have gen : (∃ x' y', seen S x x' ∧ seen S y y' ∧ okP x' ∧ okP y' ∧ Qd (.bl (deq x' y')) S) → rEqD X.K vx vy H Q := by
    rintro ⟨x', y', h1, h2, ⟨n1, s1⟩, ⟨n2, s2⟩, q⟩
    exact ⟨_, _, dp_seen rs rx h1 n1, dp_seen rs ry h2 n2, s1, s2, l S H _ _ .refl rs (repD_bl.mpr rfl) q⟩
  by_cases hi : ∃ i j, x = .int i ∧ y = .int j
  · obtain ⟨i, j, rfl, rfl⟩ := hi
    have q' : Qd (.bl (nb false (decide (i = j)))) S := q
    rw [repD_int] at rx ry
    subst rx ry
    refine .inl ⟨rfl, ?_⟩
    rw [show decide (V.int i = V.int j) = decide (i = j) by simp]
    exact l S H _ _ .refl rs (repD_bl.mpr rfl) q'
  · refine .inr (gen ?_)
    have q' : ∃ x' y', seen S x x' ∧ seen S y y' ∧ okP x' ∧ okP y' ∧ Qd (.bl (nb false (deq x' y'))) S := by
      cases x with
      | int i => cases y with
        | int j => exact absurd ⟨i, j, rfl, rfl⟩ hi
        | _ => exact q
      | _ => exact q
    exact q'
theorem od_ne (hu : X.A.units + 64 < cLine) : OD X (compareOp .NotEq) oNe := OD.of (OpR.or op_ne (op_neD hu)) fun B S H x y vx vy Qd Q rs rx ry q l => by
  have gen : (∃ x' y', seen S x x' ∧ seen S y y' ∧ okP x' ∧ okP y' ∧ Qd (.bl (!deq x' y')) S) → rNeD X.K vx vy H Q := by
    rintro ⟨x', y', h1, h2, ⟨n1, s1⟩, ⟨n2, s2⟩, q⟩
    exact ⟨_, _, dp_seen rs rx h1 n1, dp_seen rs ry h2 n2, s1, s2, l S H _ _ .refl rs (repD_bl.mpr rfl) q⟩
  by_cases hi : ∃ i j, x = .int i ∧ y = .int j
  · obtain ⟨i, j, rfl, rfl⟩ := hi
    have q' : Qd (.bl (nb true (decide (i = j)))) S := q
    rw [repD_int] at rx ry
    subst rx ry
    refine .inl ⟨rfl, ?_⟩
    rw [show decide (V.int i = V.int j) = decide (i = j) by simp]
    exact l S H _ _ .refl rs (repD_bl.mpr rfl) q'
  · refine .inr (gen ?_)
    have q' : ∃ x' y', seen S x x' ∧ seen S y y' ∧ okP x' ∧ okP y' ∧ Qd (.bl (nb true (deq x' y'))) S := by
      cases x with
      | int i => cases y with
        | int j => exact absurd ⟨i, j, rfl, rfl⟩ hi
        | _ => exact q
      | _ => exact q
    exact q'
/-! ### is None -/
def isNon : D → Bool
  | .non => true
  | _ => false
def oIsN (neg : Bool) : O2 := fun x y S Q => match y with | .non => Q (.bl (nb neg (isNon x))) S | _ => False
theorem isNon_rep {K : PySem.W.Frag} {B : Blk} {S : Store} {H : Hp} {d : D} {v : V} (r : RepD K B S H d v) : decide (v = .non) = isNon d := by
  cases d with
  | non => rw [repD_non] at r; subst r; rfl
  | bl b => rw [repD_bl] at r; subst r; rfl
  | int i => rw [repD_int] at r; subst r; rfl
  | str x => rw [repD_str] at r; subst r; rfl
  | tup l => obtain ⟨a, xs, rfl, _⟩ := repD_tup.mp r; rfl
  | lst l => obtain ⟨a, xs, rfl, _⟩ := repD_lst.mp r; rfl
  | ref a => rw [repD_ref] at r; subst r; rfl
  | kls l => obtain ⟨a, xs, rfl, _⟩ := repD_kls.mp r; rfl
  | fn l => obtain ⟨a, _, rfl⟩ := repD_fn.mp r; rfl
theorem od_is : OD X (compareOp .Is) (oIsN false) := OD.of op_isN fun B S H x y vx vy Qd Q rs rx ry q l => by
  cases y with
  | non =>
    have q' : Qd (.bl (nb false (isNon x))) S := q
    exact ⟨repD_non.mp ry, by rw [isNon_rep rx]; exact l S H _ _ .refl rs (repD_bl.mpr rfl) q'⟩
  | _ => exact False.elim q
theorem od_isnot : OD X (compareOp .IsNot) (oIsN true) := OD.of op_notN fun B S H x y vx vy Qd Q rs rx ry q l => by
  cases y with
  | non =>
    have q' : Qd (.bl (nb true (isNon x))) S := q
    exact ⟨repD_non.mp ry, by rw [isNon_rep rx]; exact l S H _ _ .refl rs (repD_bl.mpr rfl) q'⟩
  | _ => exact False.elim q
end
end ND
set_option Elab.async false
set_option linter.all false
set_option maxRecDepth 100000
namespace ND
open PySem PySem.Spec PyProof.Rows L2

section
variable {X : Cx}
/-! ### built-in functions -/
def wCall (o : On) (t : WA) : WE := fun env S Q => t env S fun ds S1 => o ds S1 Q
theorem de_callB {x : Str} {p pos : Pos} {e : Expr} {es : List Expr} {t : WA} {id : String} {o : On} (hc : CD X (.builtin id) o) (hg : Gl X x) (hm : X.mg x = none) (hv : bootBuiltins x = some (.builtin id)) (ha : DA X (e :: es) t) (hn : x ≠ "__name__" := by decide) (hdb : (x == ("__debug__" : Str)) = false := by decide)
    (he : starEach (e :: es) X.env = (false, eval e X.env) :: starEach es X.env := by rfl) (hpl : (backTo pos (starEach es X.env)).any (·.1) = false := by rfl) : DE X (.Call (.Name x p) (e :: es) [] pos) (wCall o t) :=
  PE.mono (pe_callB hc hg hm hv ha hn hdb he hpl) fun σ H Q ⟨B, env, S, Qd, re, rs, q, l⟩ =>
    ⟨B, env, S, _, re, rs, q, fun S1 H1 ds vs g1 rs1 rds q1 => ⟨B, S1, ds, Qd, rs1, rds, q1, l.grow g1⟩⟩
theorem de_callTy {x : Str} {p pos : Pos} {e : Expr} {es : List Expr} {t : WA} {T : String} {o : On} (hc : CD X (.type T) o) (hg : Gl X x) (hm : X.mg x = none) (hv : bootBuiltins x = some (.type T)) (ha : DA X (e :: es) t) (hn : x ≠ "__name__" := by decide) (hdb : (x == ("__debug__" : Str)) = false := by decide)
    (he : starEach (e :: es) X.env = (false, eval e X.env) :: starEach es X.env := by rfl) (hpl : (backTo pos (starEach es X.env)).any (·.1) = false := by rfl) : DE X (.Call (.Name x p) (e :: es) [] pos) (wCall o t) :=
  PE.mono (pe_callTy hc hg hm hv ha hn hdb he hpl) fun σ H Q ⟨B, env, S, Qd, re, rs, q, l⟩ =>
    ⟨B, env, S, _, re, rs, q, fun S1 H1 ds vs g1 rs1 rds q1 => ⟨B, S1, ds, Qd, rs1, rds, q1, l.grow g1⟩⟩
theorem repL1 {K : PySem.W.Frag} {B : Blk} {S : Store} {H : Hp} {d : D} {vs : List V} (h : RepL K B S H [d] vs) : ∃ v, vs = [v] ∧ RepD K B S H d v := by
  obtain ⟨v, r, rfl, h1, h2⟩ := repL_cons.mp h
  rw [repL_nil] at h2
  subst h2
  exact ⟨v, rfl, h1⟩
theorem repL2 {K : PySem.W.Frag} {B : Blk} {S : Store} {H : Hp} {d e : D} {vs : List V} (h : RepL K B S H [d, e] vs) : ∃ v u, vs = [v, u] ∧ RepD K B S H d v ∧ RepD K B S H e u := by
  obtain ⟨v, r, rfl, h1, h2⟩ := repL_cons.mp h
  obtain ⟨u, rfl, h3⟩ := repL1 h2
  exact ⟨v, u, rfl, h1, h3⟩
def o1 (o : O1) : On := fun ds S Q => match ds with | [x] => o x S Q | _ => False
def oLen : On := o1 fun x S Q => match x with
  | .str z => z.length ≤ sizeLine ∧ Q (.int z.length) S
  | x => ∃ l, SC S x l ∧ Q (.int l.length) S
theorem cd_len : CD X (.builtin "len") oLen := CD.of (CallR.or call_len_seq call_len_str) fun B S H ds vs Qd Q rs r q l => by
  match ds, q with
  | [x], q =>
    obtain ⟨v, rfl, rx⟩ := repL1 r
    have seqs : (∃ m, SC S x m ∧ Qd (.int m.length) S) → (∃ p ys, [v] = [V.ref p] ∧ (SqL X.K H p ys ∨ SqT X.K H p ys) ∧ Q (.int ys.length) H) := by
      rintro ⟨m, c, q⟩
      obtain ⟨a, xs, rfl, h, rl⟩ := sc_seq rs rx c
      refine ⟨a, xs, rfl, h, ?_⟩
      rw [← rl.len]
      exact l S H _ _ .refl rs (repD_int.mpr rfl) q
    cases x with
    | str z => rw [repD_str] at rx; subst rx; exact .inr ⟨z, rfl, q.1, l S H _ _ .refl rs (repD_int.mpr rfl) q.2⟩
    | int a => exact .inl (seqs q)
    | tup a => exact .inl (seqs q)
    | lst a => exact .inl (seqs q)
    | ref a => exact .inl (seqs q)
    | non => exact .inl (seqs q)
    | bl b => exact .inl (seqs q)
    | kls b => exact .inl (seqs q)
    | fn b => exact .inl (seqs q)
  | [], q => exact False.elim q
  | _ :: _ :: _, q => exact False.elim q
def oTuple : On := o1 fun x S Q => ∃ l, SC S x l ∧ Q (.tup l) S
theorem cd_tuple : CD X (.type "tuple") oTuple := CD.of call_tuple_of fun B S H ds vs Qd Q rs r q l => by
  match ds, q with
  | [x], q =>
    obtain ⟨v, rfl, rx⟩ := repL1 r
    obtain ⟨m, c, q⟩ := q
    cases x with
    | tup m' =>
      obtain rfl : m' = m := c
      obtain ⟨a, xs, rfl, h, rl⟩ := repD_tup.mp rx
      exact ⟨a, xs, rfl, .inr ⟨h.seq, l S H _ _ .refl rs rx q⟩⟩
    | lst m' =>
      obtain ⟨a, xs, rfl, h, rl⟩ := lc_seq rs rx (show LC S (.lst m') m from c)
      exact ⟨a, xs, rfl, .inl ⟨.inl h, fun p n => l.tup rs rl q n⟩⟩
    | kls m' =>
      obtain rfl : m' = m := c
      obtain ⟨a, xs, rfl, h, rl⟩ := repD_kls.mp rx
      exact ⟨a, xs, rfl, .inl ⟨.inr h, fun p n => l.tup rs rl q n⟩⟩
    | ref a' =>
      obtain ⟨a, xs, rfl, h, rl⟩ := lc_seq rs rx (show LC S (.ref a') m from c)
      exact ⟨a, xs, rfl, .inl ⟨.inl h, fun p n => l.tup rs rl q n⟩⟩
    | _ => exact False.elim c
  | [], q => exact False.elim q
  | _ :: _ :: _, q => exact False.elim q
def oList : On := o1 fun x S Q => ∃ l, SC S x l ∧ Q (.lst l) S
theorem cd_list : CD X (.type "list") oList := CD.of call_list_of fun B S H ds vs Qd Q rs r q l => by
  match ds, q with
  | [x], q =>
    obtain ⟨v, rfl, rx⟩ := repL1 r
    obtain ⟨m, c, q⟩ := q
    obtain ⟨a, xs, rfl, h, rl⟩ := sc_seq rs rx c
    exact ⟨a, xs, rfl, h, fun p n => l.lst rs rl q n⟩
  | [], q => exact False.elim q
  | _ :: _ :: _, q => exact False.elim q
def oListM : On := o1 fun x S Q => ∃ l, SC S x l ∧ ∀ p, S p = none → Q (.ref p) (sput S p (.lst l))
theorem cd_listM : CD X (.type "list") oListM := CD.of call_list_of fun B S H ds vs Qd Q rs r q l => by
  match ds, q with
  | [x], q =>
    obtain ⟨v, rfl, rx⟩ := repL1 r
    obtain ⟨m, c, q⟩ := q
    obtain ⟨a, xs, rfl, h, rl⟩ := sc_seq rs rx c
    exact ⟨a, xs, rfl, h, fun p n => l.cell rs rl q n⟩
  | [], q => exact False.elim q
  | _ :: _ :: _, q => exact False.elim q
def oInt : On := o1 fun x S Q => match x with
  | .int i => Q (.int i) S
  | .bl b => Q (.int (if b then 1 else 0)) S
  | _ => False
theorem cd_int : CD X (.type "int") oInt := CD.of call_int1 fun B S H ds vs Qd Q rs r q l => by
  match ds, q with
  | [x], q =>
    obtain ⟨v, rfl, rx⟩ := repL1 r
    cases x with
    | int i => rw [repD_int] at rx; subst rx; exact .inl ⟨i, rfl, l S H _ _ .refl rs (repD_int.mpr rfl) q⟩
    | bl i => rw [repD_bl] at rx; subst rx; exact .inr ⟨i, rfl, l S H _ _ .refl rs (repD_int.mpr rfl) q⟩
    | _ => exact False.elim q
  | [], q => exact False.elim q
  | _ :: _ :: _, q => exact False.elim q
def oAbs : On := o1 fun x S Q => match x with | .int i => Q (.int (if i < 0 then -i else i)) S | _ => False
theorem cd_abs : CD X (.builtin "abs") oAbs := CD.of call_abs fun B S H ds vs Qd Q rs r q l => by
  match ds, q with
  | [x], q =>
    obtain ⟨v, rfl, rx⟩ := repL1 r
    cases x with
    | int i => rw [repD_int] at rx; subst rx; exact ⟨i, rfl, l S H _ _ .refl rs (repD_int.mpr rfl) q⟩
    | _ => exact False.elim q
  | [], q => exact False.elim q
  | _ :: _ :: _, q => exact False.elim q
def oTwo (f : Int → Int → Int) : On := fun ds S Q => match ds with | [.int i, .int j] => Q (.int (f i j)) S | _ => False
theorem oTwo_get {f : Int → Int → Int} {ds : List D} {S : Store} {Q : D → Store → Prop} (h : oTwo f ds S Q) : ∃ i j, ds = [.int i, .int j] ∧ Q (.int (f i j)) S := by
  match ds, h with
  | [.int i, .int j], h => exact ⟨i, j, rfl, h⟩
def max2 (i j : Int) : Int := if j > i then j else i
def min2 (i j : Int) : Int := if j < i then j else i
theorem cd_max (hc : X.calm = true) : CD X (.builtin "max") (oTwo max2) := CD.of (call_max2 hc) fun B S H ds vs Qd Q rs r q l => by
  obtain ⟨i, j, rfl, q⟩ := oTwo_get q
  obtain ⟨v, u, rfl, r1, r2⟩ := repL2 r
  rw [repD_int] at r1 r2
  subst r1 r2
  exact ⟨i, j, rfl, l S H _ _ .refl rs (repD_int.mpr rfl) q⟩
theorem cd_min (hc : X.calm = true) : CD X (.builtin "min") (oTwo min2) := CD.of (call_min2 hc) fun B S H ds vs Qd Q rs r q l => by
  obtain ⟨i, j, rfl, q⟩ := oTwo_get q
  obtain ⟨v, u, rfl, r1, r2⟩ := repL2 r
  rw [repD_int] at r1 r2
  subst r1 r2
  exact ⟨i, j, rfl, l S H _ _ .refl rs (repD_int.mpr rfl) q⟩
def oSum : On := o1 fun x S Q => ∃ ns : List Int, LC S x (ns.map D.int) ∧ Q (.int ns.sum) S
theorem cd_sum (hc : X.calm = true) : CD X (.builtin "sum") oSum := CD.of (cr_sum hc) fun B S H ds vs Qd Q rs r q l => by
  match ds, q with
  | [x], q =>
    obtain ⟨v, rfl, rx⟩ := repL1 r
    obtain ⟨ns, c, q⟩ := q
    obtain ⟨a, xs, rfl, h, rl⟩ := lc_seq rs rx c
    obtain rfl := rl.ints
    exact ⟨a, ns, rfl, .inl h, l S H _ _ .refl rs (repD_int.mpr rfl) q⟩
  | [], q => exact False.elim q
  | _ :: _ :: _, q => exact False.elim q
def oAll : On := o1 fun x S Q => ∃ ns : List Bool, LC S x (ns.map D.bl) ∧ Q (.bl (ns.all id)) S
theorem cd_all (hc : X.calm = true) : CD X (.builtin "all") oAll := CD.of (cr_all hc) fun B S H ds vs Qd Q rs r q l => by
  match ds, q with
  | [x], q =>
    obtain ⟨v, rfl, rx⟩ := repL1 r
    obtain ⟨ns, c, q⟩ := q
    obtain ⟨a, xs, rfl, h, rl⟩ := lc_seq rs rx c
    obtain rfl := rl.bls
    exact ⟨a, ns, rfl, .inl h, l S H _ _ .refl rs (repD_bl.mpr rfl) q⟩
  | [], q => exact False.elim q
  | _ :: _ :: _, q => exact False.elim q
def oStrI : On := o1 fun x S Q => match x with | .int i => i.natAbs.log2 < 1920 ∧ Q (.str (toString i)) S | _ => False
theorem cd_strI : CD X (.type "str") oStrI := CD.of call_str_int fun B S H ds vs Qd Q rs r q l => by
  match ds, q with
  | [x], q =>
    obtain ⟨v, rfl, rx⟩ := repL1 r
    cases x with
    | int i => rw [repD_int] at rx; subst rx; exact ⟨i, rfl, q.1, l S H _ _ .refl rs (repD_str.mpr rfl) q.2⟩
    | _ => exact False.elim q
  | [], q => exact False.elim q
  | _ :: _ :: _, q => exact False.elim q
/-- isinstance(e, T), T a built-in class -/
def TyS (S : Store) (d : D) (ty : String) : Prop := match d with
  | .non => "NoneType" = ty
  | .bl _ => "bool" = ty
  | .int _ => "int" = ty
  | .str _ => "str" = ty
  | .tup _ => "tuple" = ty
  | .lst _ => "list" = ty
  | .ref a => (∃ l, S a = some (.lst l)) ∧ "list" = ty
  | .kls _ => False
  | .fn _ => False
theorem tyS_of {K : PySem.W.Frag} {B : Blk} {S : Store} {H : Hp} {d : D} {v : V} {ty : String} (rs : RepS K B S H) (r : RepD K B S H d v) (t : TyS S d ty) : TyX K H v (.type ty) := by
  cases d with
  | non => rw [repD_non] at r; subst r; obtain rfl : "NoneType" = ty := t; exact .base .non
  | bl b => rw [repD_bl] at r; subst r; obtain rfl : "bool" = ty := t; exact .base (.bl b)
  | int b => rw [repD_int] at r; subst r; obtain rfl : "int" = ty := t; exact .base (.int b)
  | str b => rw [repD_str] at r; subst r; obtain rfl : "str" = ty := t; exact .base (.str b)
  | tup l =>
    obtain ⟨a, xs, rfl, h, _⟩ := repD_tup.mp r
    obtain rfl : "tuple" = ty := t
    rcases h with ⟨h | ⟨o, h⟩, _⟩ | ⟨o, its, n, h, c, _⟩
    · exact .base (.tup h)
    · exact .fTuple h
    · exact .kTuple h c
  | lst l =>
    obtain ⟨a, xs, rfl, h, _⟩ := repD_lst.mp r
    obtain rfl : "list" = ty := t
    rcases h with ⟨h | ⟨o, h⟩, _⟩
    · exact .base (.lst h)
    · exact .base (.frz h)
  | ref a =>
    rw [repD_ref] at r
    subst r
    obtain ⟨⟨l, e⟩, rfl⟩ := (show (∃ l, S a = some (.lst l)) ∧ "list" = ty from t)
    obtain ⟨xs, h, _⟩ := rs.cell a _ e
    exact .base (.lst h)
  | kls l => exact False.elim t
  | fn l => exact False.elim t
def wIsi (T : String) (t : WE) : WE := fun env S Q => t env S fun x S1 => ∃ ty b, TyS S1 x ty ∧ kitB ty T = some b ∧ Q (.bl b) S1
theorem de_isi {y : Str} {T : String} {p p2 pos : Pos} {e : Expr} {t : WE} (hg : Gl X "isinstance") (hm : X.mg "isinstance" = none) (hg2 : Gl X y) (hm2 : X.mg y = none) (hv2 : bootBuiltins y = some (.type T)) (he : DE X e t)
    (hn : y ≠ "__name__" := by decide) (hd : (y == ("__debug__" : Str)) = false := by decide)
    (hb : bootBuiltins "isinstance" = some (.builtin "isinstance") := by decide +kernel)
    (hs : starEach [e, .Name y p2] X.env = (false, eval e X.env) :: starEach [.Name y p2] X.env := by rfl) : DE X (.Call (.Name "isinstance" p) [e, .Name y p2] [] pos) (wIsi T t) :=
  PE.mono (pe_callB call_isi hg hm hb (pa_cons he (pa_cons (pe_bltn hg2 hm2 hv2 (v := .ty T) rfl hn hd) pa_nil) hs) (he := hs)) fun σ H Q ⟨B, env, S, Qd, re, rs, q, l⟩ =>
    ⟨B, env, S, _, re, rs, q, fun S1 H1 x vx g1 rs1 rx ⟨ty, b, ht, hk, q1⟩ => ⟨vx, .ty T, _, _, b, rfl, .ty T, tyS_of rs1 rx ht, kit_ty hk, l S1 H1 _ _ g1 rs1 (repD_bl.mpr rfl) q1⟩⟩

/-! ### statements -/
def tDS (K : PySem.W.Frag) (t : WS) : TS := fun Dn σ H => ∃ B env S E, RepE K B S H env σ ∧ RepS K B S H ∧ t E env S ∧
  (∀ S' H' env' σ', Grow S H S' H' → RepS K B S' H' → RepE K B S' H' env' σ' → E.nx env' S' → Dn.nx σ' H') ∧
  (∀ S' H' d v, Grow S H S' H' → RepS K B S' H' → RepD K B S' H' d v → E.rt d S' → Dn.rt v H')
def DS (X : Cx) (st : Stmt) (t : WS) : Prop := PS X st (tDS X.K t)
def DSs (X : Cx) (st : List Stmt) (t : WS) : Prop := PSs X st (tDS X.K t)
def wNext : WS := fun E env S => E.nx env S
def wSeq (t u : WS) : WS := fun E env S => t ⟨fun env' S' => u E env' S', E.rt⟩ env S
theorem dss_nil : DSs X [] wNext := PSs.mono pss_nil fun Dn σ H ⟨B, env, S, E, re, rs, q, ln, lr⟩ => ln S H env σ .refl rs re q
theorem seq_of {t u : WS} {Dn : Ends} {σ : L2.St} {H : Hp} (h : tDS X.K (wSeq t u) Dn σ H) : tSeq (tDS X.K t) (tDS X.K u) Dn σ H := by
  obtain ⟨B, env, S, E, re, rs, q, ln, lr⟩ := h
  exact ⟨B, env, S, _, re, rs, q, fun S1 H1 env1 σ1 g1 rs1 re1 q1 => ⟨B, env1, S1, E, re1, rs1, q1, fun S2 H2 env2 σ2 g2 rs2 re2 q2 => ln S2 H2 env2 σ2 (g1.trans g2) rs2 re2 q2, fun S2 H2 d v g2 rs2 rd q2 => lr S2 H2 d v (g1.trans g2) rs2 rd q2⟩, lr⟩
theorem dss_cons {st : Stmt} {rest : List Stmt} {t u : WS} (h1 : DS X st t) (h2 : DSs X rest u) : DSs X (st :: rest) (wSeq t u) := PSs.mono (pss_cons h1 h2) fun Dn σ H q => seq_of q
theorem dss_one {st : Stmt} {t : WS} (h : DS X st t) : DSs X [st] t := pss_one h
theorem ds_pass {pos : Pos} : DS X (.Pass pos) wNext := PS.mono ps_pass fun Dn σ H ⟨B, env, S, E, re, rs, q, ln, lr⟩ => ln S H env σ .refl rs re q
def wDrop (t : WE) : WS := fun E env S => t env S fun _ S1 => E.nx env S1
theorem ds_expr {e : Expr} {pos : Pos} {t : WE} (h : DE X e t) (hs : swapsWith e none pos.line X.env = pure false := by rfl) : DS X (.Expr e pos) (wDrop t) :=
  PS.mono (ps_expr h hs) fun Dn σ H ⟨B, env, S, E, re, rs, q, ln, lr⟩ => ⟨B, env, S, _, re, rs, q, fun S1 H1 d v g1 rs1 rd q1 => ln S1 H1 env σ g1 rs1 (re.grow g1) q1⟩
def wRet (t : WE) : WS := fun E env S => t env S E.rt
theorem ds_ret {e : Expr} {pos : Pos} {t : WE} (h : DE X e t) : DS X (.Return (some e) pos) (wRet t) :=
  PS.mono (ps_ret h) fun Dn σ H ⟨B, env, S, E, re, rs, q, ln, lr⟩ => ⟨B, env, S, _, re, rs, q, lr⟩
def wRetN : WS := fun E _ S => E.rt .non S
theorem ds_retN {pos : Pos} : DS X (.Return none pos) wRetN :=
  PS.mono ps_retN fun Dn σ H ⟨B, env, S, E, re, rs, q, ln, lr⟩ => lr S H .non .non .refl rs (repD_non.mpr rfl) q
def wIfS (c : WT) (t u : WS) : WS := fun E env S => c env S fun b S1 => if b = true then t E env S1 else u E env S1
theorem ds_if {c : Expr} {a b : List Stmt} {pos : Pos} {tc : WT} {t u : WS} (hc : DT X c tc) (ha : DSs X a t) (hb : DSs X b u) : DS X (.If c a b pos) (wIfS tc t u) :=
  PS.mono (ps_if hc ha hb) fun Dn σ H ⟨B, env, S, E, re, rs, q, ln, lr⟩ => ⟨B, env, S, _, re, rs, q, fun S1 H1 k g1 rs1 q1 => by
    cases k with
    | true => rw [if_pos rfl] at q1 ⊢; exact ⟨B, env, S1, E, re.grow g1, rs1, q1, fun S2 H2 env2 σ2 g2 => ln S2 H2 env2 σ2 (g1.trans g2), fun S2 H2 d v g2 => lr S2 H2 d v (g1.trans g2)⟩
    | false => rw [if_neg Bool.false_ne_true] at q1 ⊢; exact ⟨B, env, S1, E, re.grow g1, rs1, q1, fun S2 H2 env2 σ2 g2 => ln S2 H2 env2 σ2 (g1.trans g2), fun S2 H2 d v g2 => lr S2 H2 d v (g1.trans g2)⟩⟩

/-! ### targets; vs: the slots that may be set -/
theorem wipe_at {i : Nat} : ∀ {vs : List Nat} {σ : L2.St}, i ∈ vs → (wipe σ vs)[i]? = (σ[i]?).map fun _ => none
  | [], _, h => by simp at h
  | v :: vs, σ, h => by
    unfold wipe
    rw [List.getElem?_set, wipe_length]
    by_cases hv : v = i
    · subst hv
      rw [if_pos rfl]
      by_cases hl : v < σ.length
      · rw [if_pos hl, List.getElem?_eq_getElem hl]; rfl
      · rw [if_neg hl, List.getElem?_eq_none (by omega)]; rfl
    · rw [if_neg hv]
      rcases List.mem_cons.mp h with e | h
      · exact absurd e.symm hv
      · exact wipe_at h
theorem wipe_set {i : Nat} {vs : List Nat} {σ : L2.St} {o : Option V} (h : i ∈ vs) : wipe (σ.set i o) vs = wipe σ vs := by
  apply List.ext_getElem?
  intro j
  by_cases hj : j ∈ vs
  · rw [wipe_at hj, wipe_at hj, List.getElem?_set]
    by_cases e : i = j
    · subst e
      rw [if_pos rfl]
      by_cases hl : i < σ.length
      · rw [if_pos hl, List.getElem?_eq_getElem hl]; rfl
      · rw [if_neg hl, List.getElem?_eq_none (by omega)]
    · rw [if_neg e]
  · rw [wipe_out hj, wipe_out hj, List.getElem?_set, if_neg (fun (e : i = j) => hj (e ▸ h))]
def LiftG (K : PySem.W.Frag) (B : Blk) (S : Store) (H : Hp) (vs : List Nat) (σ : L2.St) (Qd : Slots → Store → Prop) (Q : L2.St → Hp → Prop) : Prop :=
  ∀ S' H' env' σ', Grow S H S' H' → RepS K B S' H' → RepE K B S' H' env' σ' → wipe σ' vs = wipe σ vs → Qd env' S' → Q σ' H'
def tDG (K : PySem.W.Frag) (vs : List Nat) (g : WG) : TG := fun v σ H Q => ∃ B env S d Qd, RepE K B S H env σ ∧ RepS K B S H ∧ RepD K B S H d v ∧ g d env S Qd ∧ LiftG K B S H vs σ Qd Q
def DG (X : Cx) (vs : List Nat) (tg : Expr) (g : WG) : Prop := PG X tg (tDG X.K vs g)
def tDGs (K : PySem.W.Frag) (vs : List Nat) (g : WGs) : TGs := fun v σ H Q => ∃ B env S ds Qd, RepE K B S H env σ ∧ RepS K B S H ∧ RepL K B S H ds v ∧ g ds env S Qd ∧ LiftG K B S H vs σ Qd Q
def DGs (X : Cx) (vs : List Nat) (ts : List Expr) (g : WGs) : Prop := PGs X ts (tDGs X.K vs g)
def gN (i : Nat) : WG := fun d env S Q => Q (env.set i (some d)) S
theorem dg_name {vs : List Nat} (i : Nat) {x : Str} {pos : Pos} (hN : X.N.Nodup) (hx : Loc X.env.scope x) (hi : X.N[i]? = some x := by rfl) (hv : i ∈ vs := by decide) (hf : X.fn x = true ∨ X.env.scope.names.lookup x = some .local := by first | exact .inl rfl | exact .inr rfl | assumption) : DG X vs (.Name x pos) (gN i) :=
  PG.mono (pg_name hN hi hx hf) fun v σ H Q ⟨B, env, S, d, Qd, re, rs, rd, q, l⟩ => l S H _ _ .refl rs (re.set i rd) (wipe_set hv) q
def gNils : WGs := fun ds env S Q => match ds with | [] => Q env S | _ => False
def gConss (g : WG) (r : WGs) : WGs := fun ds env S Q => match ds with | d :: ds => g d env S (fun env1 S1 => r ds env1 S1 Q) | [] => False
theorem PGs.mono {tg : List Expr} {t t' : TGs} (h : PGs X tg t) (m : ∀ v σ H Q, t' v σ H Q → t v σ H Q) : PGs X tg t' := ⟨fun pins s σ H vs us Q I r q => h.run pins s σ H vs us Q I r (m vs σ H Q q)⟩
theorem dgs_nil {vs : List Nat} : DGs X vs [] gNils := PGs.mono pgs_nil fun v σ H Q ⟨B, env, S, ds, Qd, re, rs, rd, q, l⟩ => by
  cases ds with
  | nil => exact ⟨repL_nil.mp rd, l S H _ _ .refl rs re rfl q⟩
  | cons d ds => exact False.elim q
theorem dgs_cons {vs : List Nat} {e : Expr} {es : List Expr} {g : WG} {r : WGs} (h1 : DG X vs e g) (h2 : DGs X vs es r)
    (hs : (assignEach (e :: es) X.env).map (·.2) = assign e X.env :: (assignEach es X.env).map (·.2) := by rfl) : DGs X vs (e :: es) (gConss g r) :=
  PGs.mono (pgs_cons h1 h2 hs) fun v σ H Q ⟨B, env, S, ds, Qd, re, rs, rd, q, l⟩ => by
    cases ds with
    | nil => exact False.elim q
    | cons d ds =>
      obtain ⟨v1, vr, rfl, r1, r2⟩ := repL_cons.mp rd
      exact ⟨v1, vr, rfl, B, env, S, d, _, re, rs, r1, q, fun S1 H1 env1 σ1 g1 rs1 re1 w1 q1 => ⟨B, env1, S1, ds, Qd, re1, rs1, RepL.grow g1 _ _ r2, q1, fun S2 H2 env2 σ2 g2 rs2 re2 w2 q2 => l S2 H2 env2 σ2 (g1.trans g2) rs2 re2 (w2.trans w1) q2⟩⟩
def gT (n : Nat) (r : WGs) : WG := fun d env S Q => ∃ l, SC S d l ∧ l.length = n ∧ r l env S Q
theorem dg_tup {vs : List Nat} {es : List Expr} {k : Nat} {pos : Pos} {r : WGs} {n : Nat} (hc : X.calm = true) (h : DGs X vs es r)
    (hn : (assignEach es X.env).length = n := by rfl) (hst : (assignEach es X.env).findIdx? (·.1) = none := by rfl) : DG X vs (.Tuple es k pos) (gT n r) := by
  refine ⟨fun pins s σ H v u Q I ru ⟨B, env, S, d, Qd, re, rs, rd, ⟨m, c, hl, q⟩, l⟩ => ?_⟩
  obtain ⟨a, xs, rfl, hx, rl⟩ := sc_seq rs rd c
  rcases hx with hx | hx
  · exact (pg_unl hc h hn hst).run pins s σ H _ u Q I ru ⟨a, xs, rfl, hx, by rw [← rl.len]; exact hl, B, env, S, m, Qd, re, rs, rl, q, l⟩
  · exact (pg_tup hc h hn hst).run pins s σ H _ u Q I ru ⟨a, xs, rfl, hx, by rw [← rl.len]; exact hl, B, env, S, m, Qd, re, rs, rl, q, l⟩
/-- o[i] = v: a list's place -/
abbrev O3 := D → D → D → Store → (Store → Prop) → Prop
def oSet : O3 := fun o i v S Q => match o with
  | .ref a => (match i with | .int k => ∃ l j, S a = some (.lst l) ∧ ixN l.length k = some j ∧ Q (sput S a (.lst (l.set j v))) | _ => False)
  | _ => False
def rD3 (K : PySem.W.Frag) (o : O3) : TSet := fun vo vi vv H Q => ∃ B S x i y Qd, RepS K B S H ∧ RepD K B S H x vo ∧ RepD K B S H i vi ∧ RepD K B S H y vv ∧ o x i y S Qd ∧ ∀ S' H', Grow S H S' H' → RepS K B S' H' → Qd S' → Q H'
def OD3 (X : Cx) (o : O3) : Prop := PSet X (rD3 X.K o)
theorem od_set : OD3 X oSet := fun pins s σ H vo vi vv ov iv u Q I r1 r2 r3 ⟨B, S, x, i, y, Qd, rs, rx, ri, ry, q, l⟩ => by
  refine set_list pins s σ H vo vi vv ov iv u Q I r1 r2 r3 ?_
  cases x with
  | ref a =>
    cases i with
    | int k =>
      obtain ⟨m, j, e, hj, q⟩ := q
      rw [repD_ref] at rx
      rw [repD_int] at ri
      obtain ⟨xs, e1, rl⟩ := rs.cell a _ e
      obtain ⟨g, rs'⟩ := rs.write (o := .lst (xs.set j vv)) (c := .lst (m.set j y)) e fun S' H' g e' => ⟨_, e', (RepL.grow g _ _ rl).set j (RepD.grow g _ _ ry)⟩
      exact ⟨a, xs, k, j, rx, ri, e1, by rw [← rl.len]; exact hj, l _ _ g rs' q⟩
    | _ => exact False.elim q
  | _ => exact False.elim q
def gS (to ti : WE) (o : O3) : WG := fun v env S Q => to env S fun x S1 => ti env S1 fun i S2 => o x i v S2 fun S3 => Q env S3
theorem dg_sub {vs : List Nat} {o i : Expr} {pos : Pos} {to ti : WE} {w : O3} (ho : DE X o to) (hi : DE X i ti) (hs : OD3 X w)
    (ha : ∀ v, assign (.Subscript o i pos) X.env v = (do
      let ov ← holding [v] (eval o X.env)
      let iv ← holding [v, ov] (eval i X.env)
      standAt pos
      holding [v, ov, iv] (setItem ov iv v)
      release [v, ov, iv] []) := by intro _; rfl) : DG X vs (.Subscript o i pos) (gS to ti w) :=
  PG.mono (pg_sub ho hi hs ha) fun v σ H Q ⟨B, env, S, d, Qd, re, rs, rd, q, l⟩ =>
    ⟨B, env, S, _, re, rs, q, fun S1 H1 x vx g1 rs1 rx q1 => ⟨B, env, S1, _, re.grow g1, rs1, q1, fun S2 H2 k vk g2 rs2 rk q2 => ⟨B, S2, x, k, d, _, rs2, RepD.grow g2 _ _ rx, rk, RepD.grow (g1.trans g2) _ _ rd, q2, fun S3 H3 g3 rs3 q3 =>
      l S3 H3 env σ (g1.trans (g2.trans g3)) rs3 (re.grow (g1.trans (g2.trans g3))) rfl q3⟩⟩⟩
def wAsg (t : WE) (g : WG) : WS := fun E env S => t env S fun d S1 => g d env S1 E.nx
theorem ds_asg {vs : List Nat} {tg e : Expr} {pos : Pos} {t : WE} {g : WG} (he : DE X e t) (hg : DG X vs tg g) (hs : swapsWithSole [tg] e pos.line X.env = pure false := by rfl) (hw : swappedStores [tg] e X.env = pure none := by rfl)
    (h1 : (assignEach [tg] X.env).map (·.2) = [assign tg X.env] := by rfl) : DS X (.Assign [tg] e pos) (wAsg t g) :=
  PS.mono (ps_asg he hg hs hw h1) fun Dn σ H ⟨B, env, S, E, re, rs, q, ln, lr⟩ => ⟨B, env, S, _, re, rs, q, fun S1 H1 d v g1 rs1 rd q1 => ⟨B, env, S1, d, _, re.grow g1, rs1, rd, q1, fun S2 H2 env2 σ2 g2 rs2 re2 _ q2 => ln S2 H2 env2 σ2 (g1.trans g2) rs2 re2 q2⟩⟩
def wSet (i : Nat) (t : WE) : WS := fun E env S => t env S fun d S1 => E.nx (env.set i (some d)) S1
theorem ds_set (i : Nat) {x : Str} {e : Expr} {pos pos' : Pos} {t : WE} (hN : X.N.Nodup) (hx : Loc X.env.scope x) (he : DE X e t) (hi : X.N[i]? = some x := by rfl) (hs : swapsWith e (some (.Name x pos')) pos.line X.env = pure false := by rfl) (hf : X.fn x = true ∨ X.env.scope.names.lookup x = some .local := by first | exact .inl rfl | exact .inr rfl | assumption) :
    DS X (.Assign [.Name x pos'] e pos) (wSet i t) :=
  PS.mono (ps_set hN hi hx he hs hf) fun Dn σ H ⟨B, env, S, E, re, rs, q, ln, lr⟩ => ⟨B, env, S, _, re, rs, q, fun S1 H1 d v g1 rs1 rd q1 => ln S1 H1 _ _ g1 rs1 ((re.grow g1).set i rd) q1⟩
/-- a, b = x, y -/
def wPar (i j : Nat) (t : WA) : WS := fun E env S => t env S fun ds S1 => match ds with | [a, b] => E.nx ((env.set i (some a)).set j (some b)) S1 | _ => False
theorem ds_par (i j : Nat) {x y : Str} {a b : Expr} {t : WA} {px py pt pos : Pos} {kt k2 pt2} (hc : X.calm = true) (hN : X.N.Nodup)
    (hx : X.env.scope.names.lookup x = some .local) (hy : X.env.scope.names.lookup y = some .local) (ha : DA X [a, b] t) (hi : X.N[i]? = some x := by rfl) (hj : X.N[j]? = some y := by rfl) (hij : i ≠ j := by decide)
    (hw : swappedStores [.Tuple [.Name x px, .Name y py] kt pt] (.Tuple [a, b] k2 pt2) X.env = pure (some [x, y]) := by rfl)
    (hs : swapsWithSole [.Tuple [.Name x px, .Name y py] kt pt] (.Tuple [a, b] k2 pt2) pos.line X.env = pure false := by rfl) :
    DS X (.Assign [.Tuple [.Name x px, .Name y py] kt pt] (.Tuple [a, b] k2 pt2) pos) (wPar i j t) :=
  PS.mono (ps_par hc hN hi hj hij hx hy ha hw hs) fun Dn σ H ⟨B, env, S, E, re, rs, q, ln, lr⟩ => ⟨B, env, S, _, re, rs, q, fun S1 H1 ds vs g1 rs1 rds q1 => by
    match ds, q1 with
    | [d1, d2], q1 =>
      obtain ⟨v, u, rfl, r1, r2⟩ := repL2 rds
      exact ⟨v, u, rfl, ln S1 H1 _ _ g1 rs1 (((re.grow g1).set i r1).set j r2) q1⟩
    | [], q1 => exact False.elim q1
    | [_], q1 => exact False.elim q1
    | _ :: _ :: _ :: _, q1 => exact False.elim q1⟩
/-- x op= e -/
def wAug (i : Nat) (o : O2) (t : WE) : WS := fun E env S => ∃ x, env[i]? = some (some x) ∧ t env S fun y S1 => o x y S1 fun z S2 => E.nx (env.set i (some z)) S2
theorem ds_aug (i : Nat) {x : Str} {op : Operator} {o : O2} {e : Expr} {pos pos' : Pos} {t : WE} (hN : X.N.Nodup) (hx : Loc X.env.scope x) (he : DE X e t) (ho : OD X (inplaceOp op) o) (hi : X.N[i]? = some x := by rfl) (hf : X.fn x = true ∨ X.env.scope.names.lookup x = some .local := by first | exact .inl rfl | exact .inr rfl | assumption) :
    DS X (.AugAssign (.Name x pos') op e pos) (wAug i o t) := by
  have hp : PIp X op (rD X.K o) := fun pins s σ H vx vy v u Q I r1 r2 h => ho pins s σ H vx vy v u Q I r1 r2 h
  refine PS.mono (ps_aug hN hi hx he hp hf) fun Dn σ H ⟨B, env, S, E, re, rs, ⟨d, ed, q⟩, ln, lr⟩ => ?_
  obtain ⟨v, ev, rd⟩ := re.2 i d ed
  exact ⟨v, ev, B, env, S, _, re, rs, q, fun S1 H1 y vy g1 rs1 ry q1 => ⟨B, S1, d, y, _, rs1, RepD.grow g1 _ _ rd, ry, q1, fun S2 H2 z vz g2 rs2 rz q2 => ln S2 H2 _ _ (g1.trans g2) rs2 ((re.grow (g1.trans g2)).set i rz) q2⟩⟩
theorem op_imulW : OpR X (inplaceOp .Mult) (rI CMulW fun i j => .int (i * j)) := opI fun _ _ _ _ _ _ _ hc q => imul_int q hc.ok
theorem od_iadd : OD X (inplaceOp .Add) (oI0 fun i j => .int (i + j)) := oI0_of iop_add fun _ _ _ _ _ => repD_int.mpr rfl
theorem od_imul : OD X (inplaceOp .Mult) (oI CMulW fun i j => .int (i * j)) := oI_of op_imulW fun _ _ _ _ _ => repD_int.mpr rfl
end
end ND
set_option Elab.async false
set_option linter.all false
set_option maxRecDepth 100000
set_option maxHeartbeats 1000000
/-! zip and enumerate where each side may be a list or a tuple. -/
namespace NDZ
open PySem
open PySem.Sem (wp)
def itc (b : Bool) : String := if b then "tuple_iterator" else "list_iterator"
def SIt (b : Bool) (h : Heap) (it l : Addr) (i : Nat) : Prop := ∃ o, h.get? it = some o ∧ o.cls = .type (itc b) ∧ o.data = .fields #[.ref l, .int i 0]
def SLs (b : Bool) (h : Heap) (l : Addr) (items : Array Value) : Prop := match b with
  | true => h.IsTuple l items
  | false => h.IsList l items
theorem SIt.extBut {b : Bool} {h h' : Heap} {it l x : Addr} {i : Nat} (s : SIt b h it l i) (e : Heap.ExtBut x h h') (n : it ≠ x) : SIt b h' it l i := by
  obtain ⟨o, g, r⟩ := s
  exact ⟨o, e _ _ n g, r⟩
theorem SIt.at {b : Bool} {h h' : Heap} {it l : Addr} {i : Nat} (s : SIt b h it l i) (k : ∀ o, h.get? it = some o → h'.get? it = some o) : SIt b h' it l i := by
  obtain ⟨o, g, r⟩ := s
  exact ⟨o, k o g, r⟩
theorem SIt.lt {b : Bool} {h : Heap} {it l : Addr} {i : Nat} (s : SIt b h it l i) : it < h.objs.size := by
  obtain ⟨o, g, r⟩ := s
  exact Heap.lt_size g
theorem SLs.extBut {b : Bool} {h h' : Heap} {l x : Addr} {items : Array Value} (s : SLs b h l items) (e : Heap.ExtBut x h h') (n : l ≠ x) : SLs b h' l items := by
  cases b with
  | true => obtain ⟨o, g, r⟩ := (show h.IsTuple l items from s); exact ⟨o, e _ _ n g, r⟩
  | false => obtain ⟨o, g, r⟩ := (show h.IsList l items from s); exact ⟨o, e _ _ n g, r⟩
theorem SLs.push {b : Bool} {h : Heap} {l : Addr} {items : Array Value} (s : SLs b h l items) (ob : Obj) : SLs b (h.push ob) l items := by
  cases b with
  | true => obtain ⟨o, g, r⟩ := (show h.IsTuple l items from s); exact ⟨o, Heap.get?_push_of_some _ g, r⟩
  | false => obtain ⟨o, g, r⟩ := (show h.IsList l items from s); exact ⟨o, Heap.get?_push_of_some _ g, r⟩
theorem SLs.lt {b : Bool} {h : Heap} {l : Addr} {items : Array Value} (s : SLs b h l items) : l < h.objs.size := by
  cases b with
  | true => obtain ⟨o, g, r⟩ := (show h.IsTuple l items from s); exact Heap.lt_size g
  | false => obtain ⟨o, g, r⟩ := (show h.IsList l items from s); exact Heap.lt_size g
section
variable {prog : Program} {w : World} {A : Around} {E : Value → Shared → Prop} {s : Shared}
theorem sit_item {b : Bool} {it l : Addr} {i : Nat} {items} {x : Value} {Q : Value → Shared → Prop} (hit : SIt b s.heap it l i) (hl : SLs b s.heap l items) (hx : items[i]? = some x)
    (kQ : ∀ h', SIt b h' it l (i + 1) → Heap.SameBut it s.heap h' → Q x { s with heap := h' }) : wpAny (model prog w) A (Builtin.SmallTypes.nextOf (.ref it)) Q E s := by
  cases b with
  | true => exact RZ.nextOf_tuple_item (show s.heap.IsTupleIter it l i from hit) hl hx fun h' a c => kQ h' a c
  | false => exact wpAny_nextOf_list_item (show s.heap.IsListIter it l i from hit) hl hx fun h' a c => kQ h' a c
theorem sit_end {b : Bool} {it l : Addr} {i : Nat} {items} {Q : Value → Shared → Prop} (h0 : A.handled = none) (hit : SIt b s.heap it l i) (hl : SLs b s.heap l items) (hx : items[i]? = none)
    (kE : ∀ h' e, Heap.ExtBut it s.heap h' → (∃ o, h'.get? e = some o ∧ o.cls = .type "StopIteration") → E (.ref e) { s with heap := h' }) : wpAny (model prog w) A (Builtin.SmallTypes.nextOf (.ref it)) Q E s := by
  cases b with
  | true => exact RZ.nextOf_tuple_end h0 (show s.heap.IsTupleIter it l i from hit) hl hx kE
  | false => exact wpAny_nextOf_list_end h0 (show s.heap.IsListIter it l i from hit) hl hx kE
theorem pyIter_sls {b : Bool} {l : Addr} {items} {Q : Value → Shared → Prop} (hl : SLs b s.heap l items)
    (h : Q (.ref s.heap.objs.size) { s with heap := s.heap.push { cls := .type (itc b), data := .fields #[.ref l, .int 0 0] } }) : wpAny (model prog w) A (pyIter (.ref l)) Q E s := by
  cases b with
  | true => exact wpAny_pyIter_tuple (show s.heap.IsTuple l items from hl) h
  | false => exact wpAny_pyIter_list (show s.heap.IsList l items from hl) h
variable {b1 b2 : Bool}
theorem zipM_next_item {z Ti To i1 i2 l1 l2 : Addr} {k1 k2 : Nat} {us ws : Array Value} {x y a b : Value} {Q : Value → Shared → Prop} (D : ZipApart z Ti To i1 i2 l1 l2)
    (az : IsZip s.heap z Ti To .none) (aTI : IsPair s.heap Ti (.ref i1) (.ref i2)) (aTO : IsPair s.heap To a b)
    (j1 : SIt b1 s.heap i1 l1 k1) (j2 : SIt b2 s.heap i2 l2 k2) (c1 : SLs b1 s.heap l1 us) (c2 : SLs b2 s.heap l2 ws) (ex1 : us[k1]? = some x) (ex2 : ws[k2]? = some y)
    (kQ : ∀ h', IsZip h' z Ti To (rawInt s.heap.objs.size) → IsPair h' To x y → SIt b1 h' i1 l1 (k1 + 1) → SIt b2 h' i2 l2 (k2 + 1) → IsPair h' s.heap.objs.size x y → h'.objs.size = s.heap.objs.size + 1 →
      (∀ c o, c ≠ z → c ≠ To → c ≠ i1 → c ≠ i2 → s.heap.get? c = some o → h'.get? c = some o) → Q (.ref s.heap.objs.size) { s with heap := h' }) :
    wpAny (model prog w) A (Builtin.«zip.__next__» ⟨[.ref z], []⟩) (fun fin s' => ∃ v, fin = .done (.ret v) ∧ Q v s') E s := by
  show wpAny _ _ (field (.ref z) 2 >>= _) _ _ _
  refine wpAny_bind (wpAny_field az rfl (x := .bool false) rfl ?_)
  show wpAny _ _ (field (.ref z) 3 >>= _) _ _ _
  refine wpAny_bind (wpAny_field az rfl (x := .ref Ti) rfl ?_)
  refine wpAny_bind (wpAny_seqItems aTI rfl ?_)
  show wpAny _ _ (Builtin.SmallTypes.ownedTupleIsFree (.ref z) >>= _) _ _ _
  refine wpAny_bind ?_
  unfold Builtin.SmallTypes.ownedTupleIsFree
  refine wpAny_bind (wpAny_field az rfl (x := .none) rfl (wpAny_pure ?_))
  simp only [if_true]
  refine wpAny_bind (wpAny_rule ?_)
  refine wpAny_bind (wpAny_field az rfl (x := .ref To) rfl ?_)
  refine wpAny_bind (wpAny_setField_rec az (by simp) fun h₁ az₁ bs₁ => ?_)
  replace az₁ : IsZip h₁ z Ti To .ellipsis := az₁
  refine wpAny_bind ?_
  simp only [List.zipIdx_cons, List.zipIdx_nil, List.forIn_cons, List.forIn_nil]

  refine wpAny_bind (wpAny_bind (wpAny_onRaise ?_))
  show wpAny _ _ (Builtin.SmallTypes.nextOf (.ref i1) >>= _) _ _ _
  refine wpAny_bind (sit_item (j1.extBut bs₁.extBut D.i1z) (c1.extBut bs₁.extBut D.l1z) ex1 fun h₂ j1₂ bs₂ => wpAny_pure ?_)
  have aTO₂ : IsPair h₂ To a b := bs₂.extBut _ _ D.TOi1 (bs₁.extBut _ _ D.TOz aTO)
  refine wpAny_bind (wpAny_seqItems aTO₂ rfl ?_)
  refine wpAny_bind (wpAny_updateSeq_pair aTO₂ fun h₃ aTO₃ bs₃ => ?_)
  replace aTO₃ : IsPair h₃ To x b := aTO₃
  refine wpAny_bind (wpAny_letGo (wpAny_pure ?_))

  refine wpAny_bind (wpAny_bind (wpAny_onRaise ?_))
  show wpAny _ _ (Builtin.SmallTypes.nextOf (.ref i2) >>= _) _ _ _
  refine wpAny_bind (sit_item (((j2.extBut bs₁.extBut D.i2z).extBut bs₂.extBut D.i12.symm).extBut bs₃.extBut D.TOi2.symm)
    (((c2.extBut bs₁.extBut D.l2z).extBut bs₂.extBut D.l2i1).extBut bs₃.extBut D.l2TO) ex2 fun h₄ j2₄ bs₄ => wpAny_pure ?_)
  have aTO₄ : IsPair h₄ To x b := bs₄.extBut _ _ D.TOi2 aTO₃
  refine wpAny_bind (wpAny_seqItems aTO₄ rfl ?_)
  refine wpAny_bind (wpAny_updateSeq_pair aTO₄ fun h₅ aTO₅ bs₅ => ?_)
  replace aTO₅ : IsPair h₅ To x y := aTO₅
  refine wpAny_bind (wpAny_letGo (wpAny_pure (wpAny_pure ?_)))

  refine wpAny_bind (wpAny_seqItems aTO₅ rfl ?_)
  refine wpAny_bind (wpAny_newTuple ?_)
  have asz : h₅.objs.size = s.heap.objs.size := by rw [bs₅.1, bs₄.1, bs₃.1, bs₂.1, bs₁.1]
  have az₅ : IsZip h₅ z Ti To .ellipsis := bs₅.extBut _ _ D.TOz.symm (bs₄.extBut _ _ D.i2z.symm (bs₃.extBut _ _ D.TOz.symm (bs₂.extBut _ _ D.i1z.symm az₁)))
  have ak₅ : ∀ c o, c ≠ z → c ≠ To → c ≠ i1 → c ≠ i2 → s.heap.get? c = some o → h₅.get? c = some o := fun c o c1 c2 c3 c4 e =>
    bs₅.extBut _ _ c2 (bs₄.extBut _ _ c4 (bs₃.extBut _ _ c2 (bs₂.extBut _ _ c3 (bs₁.extBut _ _ c1 e))))
  have j1₅ : SIt b1 h₅ i1 l1 (k1 + 1) := ((j1₂.extBut bs₃.extBut D.TOi1.symm).extBut bs₄.extBut D.i12).extBut bs₅.extBut D.TOi1.symm
  have j2₅ : SIt b2 h₅ i2 l2 (k2 + 1) := j2₄.extBut bs₅.extBut D.TOi2.symm
  have lz : z < h₅.objs.size := Heap.lt_size az₅
  have lTO : To < h₅.objs.size := Heap.lt_size aTO₅
  have li1 : i1 < h₅.objs.size := j1₅.lt
  have li2 : i2 < h₅.objs.size := j2₅.lt
  show wpAny _ _ (Builtin.SmallTypes.ownedTupleHandOut (.ref z) (.ref h₅.objs.size) >>= _) _ _ _
  refine wpAny_bind ?_
  unfold Builtin.SmallTypes.ownedTupleHandOut
  have az₆ : IsZip (h₅.push { cls := .type "tuple", data := .seq #[x, y] }) z Ti To .ellipsis := Heap.get?_push_of_some _ az₅
  refine wpAny_bind (wpAny_setField_rec az₆ (by simp) fun h₇ az₇ bs₇ => ?_)
  replace az₇ : IsZip h₇ z Ti To (rawInt h₅.objs.size) := az₇
  refine wpAny_setField_rec az₇ (by simp) fun h₈ az₈ bs₈ => ?_
  replace az₈ : IsZip h₈ z Ti To (rawInt h₅.objs.size) := az₈
  have lift : ∀ c o, c ≠ z → h₅.get? c = some o → h₈.get? c = some o := fun c o c1 e => bs₈.extBut _ _ c1 (bs₇.extBut _ _ c1 (Heap.get?_push_of_some _ e))
  have aT₈ : IsPair h₈ h₅.objs.size x y := bs₈.extBut _ _ (Nat.ne_of_gt lz) (bs₇.extBut _ _ (Nat.ne_of_gt lz) (Heap.get?_push_size _ rfl))
  have hz8 : h₈.objs.size = h₅.objs.size + 1 := by rw [bs₈.1, bs₇.1, Heap.size_push]
  rw [asz] at az₈ aT₈ hz8
  refine wpAny_pure ⟨_, rfl, ?_⟩
  show Q (.ref h₅.objs.size) _
  rw [asz]
  exact kQ h₈ az₈ (lift _ _ D.TOz aTO₅) (j1₅.at fun o e => lift _ o D.i1z e) (j2₅.at fun o e => lift _ o D.i2z e) aT₈ hz8 fun c o c1 c2 c3 c4 e => lift c o c1 (ak₅ c o c1 c2 c3 c4 e)

theorem zipM_next_end {z Ti To i1 i2 l1 l2 : Addr} {k1 k2 : Nat} {us ws : Array Value} {a b : Value} {Q : Fin → Shared → Prop} (calm0 : A.handled = none) (D : ZipApart z Ti To i1 i2 l1 l2)
    (az : IsZip s.heap z Ti To .none) (aTI : IsPair s.heap Ti (.ref i1) (.ref i2)) (aTO : IsPair s.heap To a b)
    (j1 : SIt b1 s.heap i1 l1 k1) (j2 : SIt b2 s.heap i2 l2 k2) (c1 : SLs b1 s.heap l1 us) (c2 : SLs b2 s.heap l2 ws) (aend : us[k1]? = none ∨ ws[k2]? = none)
    (kE : ∀ h' e, (∀ c o, c ≠ z → c ≠ To → c ≠ i1 → c ≠ i2 → s.heap.get? c = some o → h'.get? c = some o) → (∃ o, h'.get? e = some o ∧ o.cls = .type "StopIteration") → E (.ref e) { s with heap := h' }) :
    wpAny (model prog w) A (Builtin.«zip.__next__» ⟨[.ref z], []⟩) Q E s := by
  show wpAny _ _ (field (.ref z) 2 >>= _) _ _ _
  refine wpAny_bind (wpAny_field az rfl (x := .bool false) rfl ?_)
  show wpAny _ _ (field (.ref z) 3 >>= _) _ _ _
  refine wpAny_bind (wpAny_field az rfl (x := .ref Ti) rfl ?_)
  refine wpAny_bind (wpAny_seqItems aTI rfl ?_)
  show wpAny _ _ (Builtin.SmallTypes.ownedTupleIsFree (.ref z) >>= _) _ _ _
  refine wpAny_bind ?_
  unfold Builtin.SmallTypes.ownedTupleIsFree
  refine wpAny_bind (wpAny_field az rfl (x := .none) rfl (wpAny_pure ?_))
  simp only [if_true]
  refine wpAny_bind (wpAny_rule ?_)
  refine wpAny_bind (wpAny_field az rfl (x := .ref To) rfl ?_)
  refine wpAny_bind (wpAny_setField_rec az (by simp) fun h₁ az₁ bs₁ => ?_)
  replace az₁ : IsZip h₁ z Ti To .ellipsis := az₁
  refine wpAny_bind ?_
  simp only [List.zipIdx_cons, List.zipIdx_nil, List.forIn_cons, List.forIn_nil]
  refine wpAny_bind (wpAny_bind (wpAny_onRaise ?_))
  show wpAny _ _ (Builtin.SmallTypes.nextOf (.ref i1) >>= _) _ _ _
  cases ex1 : us[k1]? with
  | none =>
    refine wpAny_bind (sit_end calm0 (j1.extBut bs₁.extBut D.i1z) (c1.extBut bs₁.extBut D.l1z) ex1 fun h₂ e bs₂ he => ?_)
    obtain ⟨oe, goe, gce⟩ := he
    have az₂ : IsZip h₂ z Ti To .ellipsis := bs₂ _ _ D.i1z.symm az₁
    have nez : e ≠ z := fun x => by subst x; rw [az₂] at goe; cases goe; simp at gce
    refine wpAny_setField_rec az₂ (by simp) fun h₃ _ bs₃ => kE h₃ e (fun c o c1 _ c3 _ x => bs₃.extBut _ _ c1 (bs₂ _ _ c3 (bs₁.extBut _ _ c1 x))) ⟨oe, bs₃.extBut _ _ nez goe, gce⟩
  | some x =>
    have ex2 : ws[k2]? = none := by rcases aend with h | h; rw [ex1] at h; cases h; exact h
    refine wpAny_bind (sit_item (j1.extBut bs₁.extBut D.i1z) (c1.extBut bs₁.extBut D.l1z) ex1 fun h₂ j1₂ bs₂ => wpAny_pure ?_)
    have aTO₂ : IsPair h₂ To a b := bs₂.extBut _ _ D.TOi1 (bs₁.extBut _ _ D.TOz aTO)
    refine wpAny_bind (wpAny_seqItems aTO₂ rfl ?_)
    refine wpAny_bind (wpAny_updateSeq_pair aTO₂ fun h₃ aTO₃ bs₃ => ?_)
    refine wpAny_bind (wpAny_letGo (wpAny_pure ?_))
    refine wpAny_bind (wpAny_bind (wpAny_onRaise ?_))
    show wpAny _ _ (Builtin.SmallTypes.nextOf (.ref i2) >>= _) _ _ _
    refine wpAny_bind (sit_end calm0 (((j2.extBut bs₁.extBut D.i2z).extBut bs₂.extBut D.i12.symm).extBut bs₃.extBut D.TOi2.symm)
      (((c2.extBut bs₁.extBut D.l2z).extBut bs₂.extBut D.l2i1).extBut bs₃.extBut D.l2TO) ex2 fun h₄ e bs₄ he => ?_)
    obtain ⟨oe, goe, gce⟩ := he
    have az₄ : IsZip h₄ z Ti To .ellipsis := bs₄ _ _ D.i2z.symm (bs₃.extBut _ _ D.TOz.symm (bs₂.extBut _ _ D.i1z.symm az₁))
    have nez : e ≠ z := fun x => by subst x; rw [az₄] at goe; cases goe; simp at gce
    refine wpAny_setField_rec az₄ (by simp) fun h₅ _ bs₅ => kE h₅ e (fun c o c1 c2 c3 c4 x => bs₅.extBut _ _ c1 (bs₄ _ _ c4 (bs₃.extBut _ _ c2 (bs₂.extBut _ _ c3 (bs₁.extBut _ _ c1 x))))) ⟨oe, bs₅.extBut _ _ nez goe, gce⟩

theorem pyNext_zipM_item {z Ti To i1 i2 l1 l2 : Addr} {k1 k2 : Nat} {us ws : Array Value} {x y a b : Value} {Q : Option Value → Shared → Prop} (D : ZipApart z Ti To i1 i2 l1 l2)
    (az : IsZip s.heap z Ti To .none) (aTI : IsPair s.heap Ti (.ref i1) (.ref i2)) (aTO : IsPair s.heap To a b)
    (j1 : SIt b1 s.heap i1 l1 k1) (j2 : SIt b2 s.heap i2 l2 k2) (c1 : SLs b1 s.heap l1 us) (c2 : SLs b2 s.heap l2 ws) (ex1 : us[k1]? = some x) (ex2 : ws[k2]? = some y)
    (kQ : ∀ h', IsZip h' z Ti To (rawInt s.heap.objs.size) → IsPair h' To x y → SIt b1 h' i1 l1 (k1 + 1) → SIt b2 h' i2 l2 (k2 + 1) → IsPair h' s.heap.objs.size x y → h'.objs.size = s.heap.objs.size + 1 →
      (∀ c o, c ≠ z → c ≠ To → c ≠ i1 → c ≠ i2 → s.heap.get? c = some o → h'.get? c = some o) → Q (some (.ref s.heap.objs.size)) { s with heap := h' }) :
    wpAny (model prog w) A (pyNext (.ref z)) Q E s := by
  have aT : s.TypeIs (.ref z) "zip" := ⟨_, az, rfl⟩
  unfold pyNext
  exact wpAny_bind (wpAny_attempt (wpAny_callSpecial?_slot (name := Str.ofString "__next__") aT F.slot_zip_next
    (wpAny_call_entry F.slot_zip_next aT F.entry_zip_next
      (zipM_next_item D az aTI aTO j1 j2 c1 c2 ex1 ex2 fun h' a1 a2 a3 a4 a5 a6 a7 => wpAny_pure (kQ h' a1 a2 a3 a4 a5 a6 a7)) (F.args_zip_next_1 _))))

theorem pyNext_zipM_end {z Ti To i1 i2 l1 l2 : Addr} {k1 k2 : Nat} {us ws : Array Value} {a b : Value} {Q : Option Value → Shared → Prop} (calm0 : A.handled = none) (D : ZipApart z Ti To i1 i2 l1 l2)
    (az : IsZip s.heap z Ti To .none) (aTI : IsPair s.heap Ti (.ref i1) (.ref i2)) (aTO : IsPair s.heap To a b)
    (j1 : SIt b1 s.heap i1 l1 k1) (j2 : SIt b2 s.heap i2 l2 k2) (c1 : SLs b1 s.heap l1 us) (c2 : SLs b2 s.heap l2 ws) (aend : us[k1]? = none ∨ ws[k2]? = none)
    (kQ : ∀ h', (∀ c o, c ≠ z → c ≠ To → c ≠ i1 → c ≠ i2 → s.heap.get? c = some o → h'.get? c = some o) → Q none { s with heap := h' }) : wpAny (model prog w) A (pyNext (.ref z)) Q E s := by
  have aT : s.TypeIs (.ref z) "zip" := ⟨_, az, rfl⟩
  unfold pyNext
  refine wpAny_bind (wpAny_attempt (wpAny_callSpecial?_slot (name := Str.ofString "__next__") aT F.slot_zip_next
    (wpAny_call_entry F.slot_zip_next aT F.entry_zip_next (zipM_next_end calm0 D az aTI aTO j1 j2 c1 c2 aend fun h' e ak he => ?_) (F.args_zip_next_1 _))))
  obtain ⟨o, ho, hc⟩ := he
  refine wpAny_bind (wpAny_isInstance (T := "StopIteration") (b := true) ⟨o, ho, hc⟩ isSubtype_stop ?_)
  exact wpAny_pure (kQ _ ak)
end

abbrev zipMH1 (b1 : Bool) (h : Heap) (l1 : Addr) : Heap := h.push { cls := .type (itc b1), data := .fields #[.ref l1, .int 0 0] }
abbrev zipMH2 (b1 b2 : Bool) (h : Heap) (l1 l2 : Addr) : Heap := (zipMH1 b1 h l1).push { cls := .type (itc b2), data := .fields #[.ref l2, .int 0 0] }
abbrev zipMH3 (b1 b2 : Bool) (h : Heap) (l1 l2 : Addr) : Heap := (zipMH2 b1 b2 h l1 l2).push { cls := .type "tuple", data := .seq #[.ref h.objs.size, .ref (zipMH1 b1 h l1).objs.size] }
abbrev zipMH4 (b1 b2 : Bool) (h : Heap) (l1 l2 : Addr) : Heap := (zipMH3 b1 b2 h l1 l2).push { cls := .type "tuple", data := .seq #[.none, .none] }
abbrev zipMH5 (b1 b2 : Bool) (h : Heap) (l1 l2 : Addr) : Heap := (zipMH4 b1 b2 h l1 l2).push { cls := .type "zip", data := .fields #[.none, .bool false, .bool false, .ref (zipMH2 b1 b2 h l1 l2).objs.size, .ref (zipMH3 b1 b2 h l1 l2).objs.size] }

theorem meets_zipM_new (b1 b2 : Bool) (l1 l2 : Addr) (us ws : Array Value) :
    Meets (Builtin.«zip.__new__» ⟨[.type "zip", .ref l1, .ref l2], []⟩) (fun _ R s => SLs b1 s.heap l1 us ∧ SLs b2 s.heap l2 ws ∧
      R (.ok (.ret (.ref (zipMH4 b1 b2 s.heap l1 l2).objs.size))) { s with heap := zipMH5 b1 b2 s.heap l1 l2 }) :=
  .of_wp fun prog w A R s h => by
    obtain ⟨hp0, g, d, tk, os⟩ := s; obtain ⟨c1, c2, h⟩ := h
    have sub0 := sub_zip
    have q1 : SLs b1 (Shared.heap ⟨hp0, g, d, tk, os⟩) l1 us := c1
    have q2 : SLs b2 (Shared.heap ⟨hp0.push { cls := .type (itc b1), data := .fields #[.ref l1, .int 0 0] }, g, d, tk, os⟩) l2 ws := c2.push _
    wp_walk using pyIter_sls q1, pyIter_sls q2
    exact ⟨_, rfl, h⟩

section
variable {prog : Program} {w : World} {A : Around} {E : Value → Shared → Prop} {s : Shared}
theorem call_zipM {l1 l2 : Addr} {us ws : Array Value} {Q : Value → Shared → Prop} (c1 : SLs b1 s.heap l1 us) (c2 : SLs b2 s.heap l2 ws)
    (h : ∀ h', IsZip h' (s.heap.objs.size + 4) (s.heap.objs.size + 2) (s.heap.objs.size + 3) .none → IsPair h' (s.heap.objs.size + 2) (.ref s.heap.objs.size) (.ref (s.heap.objs.size + 1)) →
      IsPair h' (s.heap.objs.size + 3) .none .none → SIt b1 h' s.heap.objs.size l1 0 → SIt b2 h' (s.heap.objs.size + 1) l2 0 → h'.objs.size = s.heap.objs.size + 5 →
      (∀ c o, s.heap.get? c = some o → h'.get? c = some o) → Q (.ref (s.heap.objs.size + 4)) { s with heap := h' }) :
    wpAny (model prog w) A (call (.type "zip") [.ref l1, .ref l2]) Q E s := by
  refine callType_new F.called_zip (by decide) (F.typeCall_zip_2 _ _) (F.newCall_zip_2 _ _) (fun obj => F.args_object_init_3 obj _ _) F.entry_zip_new
    (meets_zipM_new b1 b2 l1 l2 us ws) ⟨c1, c2, ?_⟩
  have z1 : (zipMH1 b1 s.heap l1).objs.size = s.heap.objs.size + 1 := Heap.size_push ..
  have z2 : (zipMH2 b1 b2 s.heap l1 l2).objs.size = s.heap.objs.size + 2 := by rw [Heap.size_push, z1]
  have z3 : (zipMH3 b1 b2 s.heap l1 l2).objs.size = s.heap.objs.size + 3 := by rw [Heap.size_push, z2]
  have z4 : (zipMH4 b1 b2 s.heap l1 l2).objs.size = s.heap.objs.size + 4 := by rw [Heap.size_push, z3]
  have z5 : (zipMH5 b1 b2 s.heap l1 l2).objs.size = s.heap.objs.size + 5 := by rw [Heap.size_push, z4]
  have g5 : (zipMH5 b1 b2 s.heap l1 l2).get? (zipMH4 b1 b2 s.heap l1 l2).objs.size = some _ := Heap.get?_push_size _ rfl
  have g4 : (zipMH5 b1 b2 s.heap l1 l2).get? (zipMH3 b1 b2 s.heap l1 l2).objs.size = some _ := Heap.get?_push_of_some _ (Heap.get?_push_size _ rfl)
  have g3 : (zipMH5 b1 b2 s.heap l1 l2).get? (zipMH2 b1 b2 s.heap l1 l2).objs.size = some _ := Heap.get?_push_of_some _ (Heap.get?_push_of_some _ (Heap.get?_push_size _ rfl))
  have g2 : (zipMH5 b1 b2 s.heap l1 l2).get? (zipMH1 b1 s.heap l1).objs.size = some _ := Heap.get?_push_of_some _ (Heap.get?_push_of_some _ (Heap.get?_push_of_some _ (Heap.get?_push_size _ rfl)))
  have g1 : (zipMH5 b1 b2 s.heap l1 l2).get? s.heap.objs.size = some _ := Heap.get?_push_of_some _ (Heap.get?_push_of_some _ (Heap.get?_push_of_some _ (Heap.get?_push_of_some _ (Heap.get?_push_size _ rfl))))
  show _ ∧ _
  rw [z2, z3, z4] at g5
  rw [z1, z2] at g3
  rw [z3] at g4
  rw [z1] at g2
  rw [z4]
  exact ⟨⟨_, g5, rfl⟩, h _ g5 g3 g4 ⟨_, g1, rfl, rfl⟩ ⟨_, g2, rfl, rfl⟩ z5 fun c o x =>
    Heap.get?_push_of_some _ (Heap.get?_push_of_some _ (Heap.get?_push_of_some _ (Heap.get?_push_of_some _ (Heap.get?_push_of_some _ x))))⟩
end
end NDZ
set_option Elab.async false
set_option linter.all false
set_option maxRecDepth 100000
/-! zip and enumerate over the layer, each side a list or a tuple. -/
namespace ND
open PySem PySem.Spec PyProof.Rows L2 NDZ

def Sq (b : Bool) (K : PySem.W.Frag) (H : Hp) (a : Addr) (xs : List V) : Prop := match b with
  | true => SqT K H a xs
  | false => SqL K H a xs
section
variable {X : Cx} {pins : List (Addr × Obj)} {σ : L2.St} {H : Hp} {s : Shared}
theorem Inv.sq {b : Bool} {a : Addr} {xs : List V} (I : Inv X pins σ H s) (h : Sq b X.K H a xs) : ∃ its : List Value, Vals xs its ∧ SLs b s.heap a its.toArray ∧ xs.length = its.length := by
  cases b with
  | true => obtain ⟨its, r, p, _⟩ := I.tuple h; exact ⟨its, r, p, r.length⟩
  | false => obtain ⟨its, r, p, _⟩ := I.list h; exact ⟨its, r, p.isList, r.length⟩
theorem Inv.sq_inj {b : Bool} {a : Addr} {xs ys : List V} (I : Inv X pins σ H s) (h : Sq b X.K H a xs) (h' : Sq b X.K H a ys) : xs = ys := by
  cases b with
  | true => exact I.tuple_inj h h'
  | false => exact I.list_inj h h'
end
def ItzM (K : PySem.W.Frag) (b1 b2 : Bool) (a c : Addr) : It where
  go := fun i H => ∃ (xs ys : List V) (x y : V), Sq b1 K H a xs ∧ Sq b2 K H c ys ∧ xs[i]? = some x ∧ ys[i]? = some y
  yld := fun i H v H' => ∃ T x y, v = .ref T ∧ H T = none ∧ H' = upd H T (.tup [x, y]) ∧ (∀ xs, Sq b1 K H a xs → xs[i]? = some x) ∧ ∀ ys, Sq b2 K H c ys → ys[i]? = some y
  stop := fun i H => ∃ xs ys : List V, Sq b1 K H a xs ∧ Sq b2 K H c ys ∧ (xs.length ≤ i ∨ ys.length ≤ i)
def ZSt (b1 b2 : Bool) (z TI TO i1 i2 a c : Addr) (i : Nat) (h : Heap) : Prop :=
  IsZip h z TI TO .none ∧ IsPair h TI (.ref i1) (.ref i2) ∧ (∃ x y, IsPair h TO x y) ∧ SIt b1 h i1 a i ∧ SIt b2 h i2 c i
theorem mem5 {c z p q r u : Addr} (h : c ∈ [z, p, q, r, u]) : c = z ∨ c = p ∨ c = q ∨ c = r ∨ c = u := by simpa using h
theorem turn_zipM {P : Program} {w : World} {K : PySem.W.Frag} {b1 b2 : Bool} {elts : List Expr} {kk : Nat} {tpos : Pos} {a c z TI TO i1 i2 : Addr} (ap : ZipApart z TI TO i1 i2 a c) :
    Turn P w K (.Tuple elts kk tpos) (ItzM K b1 b2 a c) [z, TI, TO, i1, i2] z (ZSt b1 b2 z TI TO i1 i2 a c) where
  mem := by simp
  obj := fun i h ⟨gz, gI, ⟨x, y, gO⟩, ⟨o1, e1, _, d1⟩, ⟨o2, e2, _, d2⟩⟩ d hd => by
    rcases mem5 hd with q | q | q | q | q <;> subst q
    · exact ⟨_, gz, fun v q => nomatch q⟩
    · exact ⟨_, gI, fun v q => nomatch q⟩
    · exact ⟨_, gO, fun v q => nomatch q⟩
    · exact ⟨o1, e1, fun v q => by rw [d1] at q; cases q⟩
    · exact ⟨o2, e2, fun v q => by rw [d2] at q; cases q⟩
  keep := fun i h h' ⟨gz, gI, ⟨x, y, gO⟩, g1, g2⟩ k =>
    ⟨k z (by simp) _ gz, k TI (by simp) _ gI, ⟨x, y, k TO (by simp) _ gO⟩, g1.at fun o q => k i1 (by simp) o q, g2.at fun o q => k i2 (by simp) o q⟩
  item := by
    rintro X rfl rfl rfl hc i pins s σ H E I hf ⟨gz, gI, ⟨x0, y0, gO⟩, g1, g2⟩ ⟨xs, ys, x, y, qx, qy, hx, hy⟩
    obtain ⟨its, rv, p, _⟩ := Inv.sq I qx
    obtain ⟨its2, rv2, p2, _⟩ := Inv.sq I qy
    obtain ⟨u, hu, ru⟩ := rv.get hx
    obtain ⟨u2, hu2, ru2⟩ := rv2.get hy
    have lz : z < s.heap.objs.size := Heap.lt_size gz
    refine pyNext_zipM_item ap gz gI gO g1 g2 p p2 (x := u) (y := u2) (by simpa using hu) (by simpa using hu2) fun h' z' O' n1 n2 gT sz kp => ?_
    refine ⟨_, rfl, wpAny_letOwnedTupleGo_zip (s := { s with heap := h' }) z' fun h'' z'' sb => ?_⟩
    have gT2 : h''.get? s.heap.objs.size = some { cls := .type "tuple", data := .seq #[u, u2] } := (sb.2 _ (Nat.ne_of_gt lz)).trans gT
    have new : ObjOk X.prog X.w (upd H s.heap.objs.size (.tup [x, y])) h'' s.heap.objs.size (.tup [x, y]) := ⟨by show 2 ≤ sizeLine; decide, [u, u2], .cons ru (.cons ru2 .nil), ⟨_, gT2, rfl, _, rfl⟩⟩
    have I1 : Inv X pins σ (upd H s.heap.objs.size (.tup [x, y])) { s with heap := h'' } := by
      refine I.turnedNew (t' := s.toks) (ch := [z, TI, TO, i1, i2]) (fun d o hd q => ?_) hf (Nat.le_refl _) new
      have nd : d ≠ z ∧ d ≠ TI ∧ d ≠ TO ∧ d ≠ i1 ∧ d ≠ i2 := by simpa using hd
      exact (sb.2 d nd.1).trans (kp d o nd.1 nd.2.2.1 nd.2.2.2.1 nd.2.2.2.2 q)
    refine ⟨.ref s.heap.objs.size, _, I1, rfl, ⟨_, x, y, rfl, I.hok.fresh (Nat.le_refl _), rfl, fun l hl => by rw [Inv.sq_inj I hl qx]; exact hx, fun l hl => by rw [Inv.sq_inj I hl qy]; exact hy⟩, ⟨z'', ?_, ⟨u, u2, ?_⟩, ?_, ?_⟩, fun d hd => ?_⟩
    · exact (sb.2 _ ap.TIz).trans (kp _ _ ap.TIz ap.TITO ap.TIi1 ap.TIi2 gI)
    · exact (sb.2 _ ap.TOz).trans O'
    · exact n1.at fun o q => (sb.2 _ ap.i1z).trans q
    · exact n2.at fun o q => (sb.2 _ ap.i2z).trans q
    · have lt : d < s.heap.objs.size := by
        rcases mem5 hd with q | q | q | q | q <;> subst q
        · exact lz
        · exact Heap.lt_size gI
        · exact Heap.lt_size gO
        · exact g1.lt
        · exact g2.lt
      rw [upd_ne (Nat.ne_of_lt lt)]
      exact (hf d hd).1
  done := by
    rintro X rfl rfl rfl hc i pins s σ H E I hf ⟨gz, gI, ⟨x0, y0, gO⟩, g1, g2⟩ ⟨xs, ys, qx, qy, fin⟩
    obtain ⟨its, rv, p, l1⟩ := Inv.sq I qx
    obtain ⟨its2, rv2, p2, l2⟩ := Inv.sq I qy
    have he : its.toArray[i]? = none ∨ its2.toArray[i]? = none := by
      rcases fin with q | q
      · exact .inl (by simp; omega)
      · exact .inr (by simp; omega)
    refine pyNext_zipM_end (I.ok.hd hc) ap gz gI gO g1 g2 p p2 he fun h' kp => ⟨rfl, I.turnedL (t' := s.toks) (ch := [z, TI, TO, i1, i2]) (fun d o hd q => ?_) hf⟩
    have nd : d ≠ z ∧ d ≠ TI ∧ d ≠ TO ∧ d ≠ i1 ∧ d ≠ i2 := by simpa using hd
    exact kp d o nd.1 nd.2.2.1 nd.2.2.2.1 nd.2.2.2.2 q
  self := fun A i s Q E st h => wpAny_pyIter_zip st.1 h
def iZipM (K : PySem.W.Frag) (ta : TA) : TI := fun σ H R => ta σ H fun vs H1 => ∃ b1 b2 a c xs ys, vs = [.ref a, .ref c] ∧ Sq b1 K H1 a xs ∧ Sq b2 K H1 c ys ∧ R (ItzM K b1 b2 a c) H1
theorem pi_zipM {X : Cx} {e e2 : Expr} {ta : TA} {p pos tpos : Pos} {elts : List Expr} {kk : Nat} (hg : Gl X "zip") (hm : X.mg "zip" = none) (ha : PA X [e, e2] ta)
    (hs : starEach [e, e2] X.env = (false, eval e X.env) :: starEach [e2] X.env := by rfl) (hpl : (backTo pos (starEach [e2] X.env)).any (·.1) = false := by rfl) :
    PI X (.Tuple elts kk tpos) (.Call (.Name "zip" p) [e, e2] [] pos) (iZipM X.K ta) := by
  refine ⟨fun pins s σ H R I h => Call_ (ld_blt I hg hm PyProof.Rows.boot_zip (PyProof.Rows.callWith_type1 (thn (ha.run pos pins s σ H _ I h) fun us s1 ⟨vs, H1, I1, r1, q1⟩ => ?_) hs hpl))⟩
  obtain ⟨b1, b2, a, c, xs, ys, rfl, qx, qy, q⟩ := q1
  obtain ⟨u1, u2, rfl, e1, e2⟩ := vals2 r1
  cases e1
  cases e2
  obtain ⟨its, rv, p1, _⟩ := Inv.sq I1 qx
  obtain ⟨its2, rv2, p2, _⟩ := Inv.sq I1 qy
  refine call_zipM p1 p2 fun h' gz gI gO g1 g2 sz kp => wpAny_pyIter_zip gz ?_
  have I2 : Inv X pins σ H1 { s1 with heap := h' } := I1.kept (t' := s1.toks) kp
  have apart := PySem.W.ktu_apart s1.heap.objs.size a c p1.lt p2.lt
  refine ⟨_, _, ZSt b1 b2 _ _ _ _ _ a c, ItzM X.K b1 b2 a c, H1, rfl, I2, turn_zipM apart, ⟨gz, gI, ⟨_, _, gO⟩, g1, g2⟩, fun d hd => ?_, q⟩
  have le : s1.heap.objs.size ≤ d := by
    rcases mem5 hd with z | z | z | z | z <;> (rw [z]; omega)
  exact I1.fpOk le (I1.hok.fresh le)

/-! enumerate -/
theorem drawsM {prog : Program} {w : World} {A : Around} (hh : A.handled = none) (b : Bool) (it l : Addr) (hne : l ≠ it) (items : Array Value) :
    Draws prog w A it [it, l] items.size (fun i v => items[i]? = some v) (fun i h => SIt b h it l i ∧ SLs b h l items) where
  live := fun _ _ st => let ⟨o, ho, _⟩ := st.1; ⟨o, ho⟩
  frame := fun _ h h' st hk => ⟨st.1.at fun o e => hk it (by simp) o e, by
    cases b with
    | true => obtain ⟨o, g, r⟩ := (show h.IsTuple l items from st.2); exact ⟨o, hk l (by simp) o g, r⟩
    | false => obtain ⟨o, g, r⟩ := (show h.IsList l items from st.2); exact ⟨o, hk l (by simp) o g, r⟩⟩
  item := fun i s Q E hi st hQ => sit_item st.1 st.2 (x := items[i]) (by simp [hi]) fun h' n sb => hQ _ h' s.toks (by simp [hi]) ⟨n, st.2.extBut sb.extBut hne⟩ sb
  done := fun s Q E st hE => sit_end hh st.1 st.2 (by simp) hE
set_option maxHeartbeats 1000000 in
theorem meets_enumT (l : Addr) (items : Array Value) (n : Nat) (dct : Option Addr) (sl : Array (Option Value)) :
    Meets (Builtin.«enumerate.__new__» ⟨[.type "enumerate", .ref l], []⟩) (fun _ R s => s.heap.get? l = some { cls := .type "tuple", dict := dct, data := .seq items n, slots := sl } ∧
      R (.ok (.ret (.ref (s.heap.push { cls := .type (itc true), data := .fields #[.ref l, .int 0 0] }).objs.size)))
        { s with heap := (s.heap.push { cls := .type (itc true), data := .fields #[.ref l, .int 0 0] }).push { cls := .type "enumerate", data := .fields #[.none, .bool false, .ref s.heap.objs.size, rawInt 0, .none, .none] } }) := by
  refine .of_wp fun prog w A R s ⟨hl, h⟩ => ?_
  obtain ⟨hp, g, d, tk, os⟩ := s
  have h0 := sub_enumerate
  have hL : SLs true (Shared.heap ⟨hp, g, d, tk, os⟩) l items := ⟨_, hl, rfl, n, rfl⟩
  wp_walk using AutoSeq1.wpAny_loadPart' hl
  refine wpAny_stack_any fun st => wpAny_pure ?_
  split
  · rename_i c _ _ _ _ _
    cases (c == Value.type "enumerate") <;> (wp_walk using AutoSeq1.wpAny_loadPart' hl, pyIter_sls hL; exact ⟨_, rfl, h⟩)
  · wp_walk using AutoSeq1.wpAny_loadPart' hl, pyIter_sls hL
    exact ⟨_, rfl, h⟩
theorem call_enumT {prog : Program} {w : World} {A : Around} {E : Value → Shared → Prop} {s : Shared} {l : Addr} {items : Array Value} {Q : Value → Shared → Prop} (hL : s.heap.IsTuple l items)
    (h : ∀ h', IsEnum h' (s.heap.objs.size + 1) s.heap.objs.size 0 .none → SIt true h' s.heap.objs.size l 0 → (∀ b o, s.heap.get? b = some o → h'.get? b = some o) → Q (.ref (s.heap.objs.size + 1)) { s with heap := h' }) :
    wpAny (model prog w) A (call (.type "enumerate") [.ref l]) Q E s := by
  obtain ⟨⟨c, dct, dt, sl⟩, hl, rfl, n, rfl⟩ := hL
  refine callType_new F.called_enumerate (by decide) (F.typeCall_enumerate_1 _) (F.newCall_enumerate_1 _) (fun obj => F.args_object_init_2 obj _) F.entry_enumerate_new (meets_enumT l items n dct sl) ⟨hl, ?_⟩
  have z1 : (s.heap.push { cls := .type (itc true), data := .fields #[.ref l, .int 0 0] }).objs.size = s.heap.objs.size + 1 := Heap.size_push ..
  have key : ∀ (h1 : Heap) (o1 : Obj), h1 = s.heap.push { cls := .type (itc true), data := .fields #[.ref l, .int 0 0] } → o1 = { cls := .type "enumerate", data := .fields #[.none, .bool false, .ref s.heap.objs.size, rawInt 0, .none, .none] } →
      IsEnum (h1.push o1) (s.heap.objs.size + 1) s.heap.objs.size 0 .none ∧ SIt true (h1.push o1) s.heap.objs.size l 0 ∧ ∀ b o, s.heap.get? b = some o → (h1.push o1).get? b = some o := by
    rintro h1 o1 rfl rfl
    refine ⟨?_, ⟨_, Heap.get?_push_of_some _ (Heap.get?_push_size _ rfl), rfl, rfl⟩, fun b o e => Heap.get?_push_of_some _ (Heap.get?_push_of_some _ e)⟩
    rw [← z1]
    exact Heap.get?_push_size _ rfl
  obtain ⟨k1, k2, k3⟩ := key _ _ rfl rfl
  show _ ∧ _
  rw [z1]
  exact ⟨⟨_, k1, rfl⟩, h _ k1 k2 k3⟩
def IteM (K : PySem.W.Frag) (b : Bool) (a : Addr) : It where
  go := fun i H => ∃ (xs : List V) (x : V), Sq b K H a xs ∧ xs[i]? = some x
  yld := fun i H v H' => ∃ T x, v = .ref T ∧ H T = none ∧ H' = upd H T (.tup [.int (i : Nat), x]) ∧ ∀ xs, Sq b K H a xs → xs[i]? = some x
  stop := fun i H => ∃ xs : List V, Sq b K H a xs ∧ xs.length ≤ i
def ESt (b : Bool) (e it a : Addr) (i : Nat) (h : Heap) : Prop := (∃ old, IsEnum h e it ((i : Nat) : Int) old) ∧ SIt b h it a i ∧ e ≠ it
theorem mem2 {c e it : Addr} (h : c ∈ [e, it]) : c = e ∨ c = it := by simpa using h
theorem SLs.cls {b : Bool} {h : Heap} {l : Addr} {items : Array Value} (s : SLs b h l items) : ∃ o, h.get? l = some o ∧ (o.cls = .type "tuple" ∨ o.cls = .type "list") := by
  cases b with
  | true => obtain ⟨o, g, r, _⟩ := (show h.IsTuple l items from s); exact ⟨o, g, .inl r⟩
  | false => obtain ⟨o, g, r, _⟩ := (show h.IsList l items from s); exact ⟨o, g, .inr r⟩
theorem turn_enumM {P : Program} {w : World} {K : PySem.W.Frag} {b : Bool} {elts : List Expr} {kk : Nat} {tpos : Pos} (a e it : Addr) : Turn P w K (.Tuple elts kk tpos) (IteM K b a) [e, it] e (ESt b e it a) where
  mem := by simp
  obj := fun i h ⟨⟨old, he⟩, ⟨o, ho, hc, hd⟩, _⟩ d hm => by
    rcases mem2 hm with z | z <;> subst z
    · exact ⟨_, he, fun v q => nomatch q⟩
    · exact ⟨o, ho, fun v q => by rw [hd] at q; cases q⟩
  keep := fun i h h' ⟨⟨old, he⟩, hi, hne⟩ k => ⟨⟨old, k e (by simp) _ he⟩, hi.at fun o q => k it (by simp) o q, hne⟩
  item := by
    rintro X rfl rfl rfl hc i pins s σ H E I hf ⟨⟨old, he⟩, hit, hne⟩ ⟨xs, x, hq, hx⟩
    obtain ⟨its, rv, p, hl⟩ := Inv.sq I hq
    obtain ⟨u, hu, ru⟩ := rv.get hx
    have el : e < s.heap.objs.size := Heap.lt_size he
    obtain ⟨oi, gi, ci, _⟩ := id hit
    obtain ⟨ol, gl, cl⟩ := SLs.cls p
    have nae : e ≠ a := fun z => by
      subst z
      rw [he] at gl; cases gl
      rcases cl with z | z <;> (simp at z)
    have nit : a ≠ it := fun z => by
      subst z
      rw [gi] at gl; cases gl
      rw [ci] at cl
      cases b <;> (rcases cl with z | z <;> (simp [itc] at z))
    have hi : i < its.toArray.size := by
      have := (List.getElem?_eq_some_iff.mp hu).1
      simpa using this
    refine wpAny_pyNext_enum_itemD (drawsM (A := X.A.in1) (I.ok.hd hc) b it a nit its.toArray) he ⟨hit, p⟩ hi hne (by simp [hne, nae]) fun v h' tk hv ho st' gT sz kp => ?_
    have ev : v = u := by
      have hu' : its.toArray[i]? = some u := by simpa using hu
      rw [hu'] at hv
      exact (Option.some.inj hv).symm
    subst ev
    refine ⟨_, rfl, wpAny_letOwnedTupleGo_enum (s := { s with heap := h', toks := tk + 1 }) ho fun h'' he' sb => ?_⟩
    have gT2 : h''.get? s.heap.objs.size = some { cls := .type "tuple", data := .seq #[.int i tk, v] } := (sb.2 _ (Nat.ne_of_gt el)).trans gT
    have new : ObjOk X.prog X.w (upd H s.heap.objs.size (.tup [.int (i : Nat), x])) h'' s.heap.objs.size (.tup [.int (i : Nat), x]) := ⟨by show 2 ≤ sizeLine; decide, [.int i tk, v], .cons ⟨_, rfl⟩ (.cons ru .nil), ⟨_, gT2, rfl, _, rfl⟩⟩
    have I1 : Inv X pins σ (upd H s.heap.objs.size (.tup [.int (i : Nat), x])) { s with heap := h'', toks := tk + 1 } := by
      refine I.turnedNew (ch := [e, it]) (fun d ob hd q => ?_) hf (Nat.le_refl _) new
      have nd : d ≠ e ∧ d ≠ it := by simpa using hd
      exact (sb.2 d nd.1).trans (kp d ob nd.1 nd.2 q)
    refine ⟨.ref s.heap.objs.size, _, I1, rfl, ⟨_, x, rfl, I.hok.fresh (Nat.le_refl _), rfl, fun ys hy => by rw [Inv.sq_inj I hy hq]; exact hx⟩, ⟨⟨v, ?_⟩, st'.1.at fun o q => (sb.2 it (Ne.symm hne)).trans q, hne⟩, fun d hd => ?_⟩
    · rw [show ((i + 1 : Nat) : Int) = (i : Int) + 1 by omega]; exact he'
    · have lt : d < s.heap.objs.size := by
        rcases mem2 hd with z | z <;> subst z
        · exact el
        · exact hit.lt
      rw [upd_ne (Nat.ne_of_lt lt)]
      exact (hf d hd).1
  done := by
    rintro X rfl rfl rfl hc i pins s σ H E I hf ⟨⟨old, he⟩, hit, hne⟩ ⟨xs, hq, hx⟩
    obtain ⟨its, rv, p, hl⟩ := Inv.sq I hq
    obtain ⟨f0, f1, f2, f3, f4, f5⟩ := hf it (by simp)
    obtain ⟨oi, gi, ci, _⟩ := id hit
    obtain ⟨ol, gl, cl⟩ := SLs.cls p
    have nit : a ≠ it := fun z => by
      subst z
      rw [gi] at gl; cases gl
      rw [ci] at cl
      cases b <;> (rcases cl with z | z <;> (simp [itc] at z))
    unfold pyNext
    have hT : s.TypeIs (.ref e) "enumerate" := ⟨_, he, rfl⟩
    refine wpAny_bind (wpAny_attempt (wpAny_callSpecial?_slot (name := Str.ofString "__next__") hT F.slot_enumerate_next (wpAny_call_entry F.slot_enumerate_next hT F.entry_enumerate_next ?_ (F.args_enumerate_next_1 _))))
    show wpAny _ _ (field (.ref e) 2 >>= _) _ _ _
    refine wpAny_bind (wpAny_field he rfl (x := .ref it) rfl (wpAny_bind (sit_end (I.ok.hd hc) hit p (by simp; omega) fun h' x eb ⟨o, ho, hcx⟩ => ?_)))
    refine wpAny_bind (wpAny_isInstance (T := "StopIteration") (b := true) ⟨o, ho, hcx⟩ isSubtype_stop (wpAny_pure ⟨rfl, I.turned (t' := s.toks) (fun b o hb q => eb b o hb q) f0 f1 f3 f4 f5⟩))
  self := fun A i s Q E ⟨⟨_, he⟩, _⟩ h => wpAny_pyIter_enum he h
def iEnumM (K : PySem.W.Frag) (ta : TA) : TI := fun σ H R => ta σ H fun vs H1 => ∃ b a xs, vs = [.ref a] ∧ Sq b K H1 a xs ∧ R (IteM K b a) H1
theorem pi_enumM {X : Cx} {e : Expr} {ta : TA} {p pos tpos : Pos} {elts : List Expr} {kk : Nat} (hg : Gl X "enumerate") (hm : X.mg "enumerate" = none) (ha : PA X [e] ta) (hs : starEach [e] X.env = [(false, eval e X.env)] := by rfl) :
    PI X (.Tuple elts kk tpos) (.Call (.Name "enumerate" p) [e] [] pos) (iEnumM X.K ta) := by
  refine ⟨fun pins s σ H R I h => Call_ (ld_blt I hg hm boot_enumerate (PyProof.Rows.callWith_type1 (thn (ha.run pos pins s σ H _ I h) fun us s1 ⟨vs, H1, I1, r1, q1⟩ => ?_) hs rfl))⟩
  obtain ⟨b, a, xs, rfl, hq, q⟩ := q1
  obtain ⟨u, rfl, ru⟩ := vals1 r1
  cases ru
  obtain ⟨its, rv, p', hz⟩ := Inv.sq I1 hq
  have fin : ∀ h' : Heap, IsEnum h' (s1.heap.objs.size + 1) s1.heap.objs.size 0 .none → SIt b h' s1.heap.objs.size a 0 → (∀ b o, s1.heap.get? b = some o → h'.get? b = some o) →
      PIE X pins σ (.Tuple elts kk tpos) R (.ref (s1.heap.objs.size + 1)) { s1 with heap := h' } := fun h' he hit kp => by
    have I2 : Inv X pins σ H1 { s1 with heap := h' } := I1.kept (t' := s1.toks) kp
    refine ⟨s1.heap.objs.size + 1, [s1.heap.objs.size + 1, s1.heap.objs.size], _, _, H1, rfl, I2, turn_enumM a (s1.heap.objs.size + 1) s1.heap.objs.size, ⟨⟨.none, he⟩, hit, Nat.succ_ne_self _⟩, fun d hd => ?_, q⟩
    have le : s1.heap.objs.size ≤ d := by
      rcases mem2 hd with z | z <;> (rw [z]; omega)
    exact I1.fpOk le (I1.hok.fresh le)
  cases b with
  | true => exact call_enumT p' fun h' he hit kp => wpAny_pyIter_enum he (fin h' he hit kp)
  | false => exact call_enumerate_list p' fun h' he hit _ kp => wpAny_pyIter_enum he (fin h' he hit kp)
end ND
set_option Elab.async false
set_option linter.all false
set_option maxRecDepth 100000
namespace ND
open PySem PySem.Spec PyProof.Rows L2 NDZ

/-! ### what is walked: the items, and what has to stay true of the store meanwhile -/
abbrev WI := Slots → Store → (List D → (Store → Prop) → Store → Prop) → Prop
def Src (K : PySem.W.Frag) (B : Blk) (S0 : Store) (H0 : Hp) (J : It) (items : List D) (wt : Store → Prop) : Prop :=
  ∀ (B' : Blk) S H, (∀ a, B a → B' a) → (∀ a, B' a → B a ∨ H0 a = none) → Grow S0 H0 S H → RepS K B' S H → wt S → ∀ i,
    (i < items.length → J.go i H ∧ ∀ x H', J.yld i H x H' → Grow S H S H' ∧ RepS K B' S H' ∧ ∃ d, items[i]? = some d ∧ RepD K B' S H' d x) ∧ (items.length ≤ i → J.stop i H)
def tDI (K : PySem.W.Frag) (t : WI) : TI := fun σ H R => ∃ B env S Ri, RepE K B S H env σ ∧ RepS K B S H ∧ t env S Ri ∧
  ∀ S' H' items wt J, Grow S H S' H' → RepS K B S' H' → Src K B S' H' J items wt → Ri items wt S' → R J H'
def DI (X : Cx) (tg iter : Expr) (t : WI) : Prop := PI X tg iter (tDI X.K t)
/- other blocked addresses, younger than the heap -/
mutual
theorem RepD.blk {K : PySem.W.Frag} {B B' : Blk} {S : Store} {H : Hp} (hb : ∀ a, B' a → B a ∨ H a = none) : ∀ (d : D) (v : V), RepD K B S H d v → RepD K B' S H d v
  | .non, v, h => by rw [repD_non] at h ⊢; exact h
  | .bl b, v, h => by rw [repD_bl] at h ⊢; exact h
  | .int i, v, h => by rw [repD_int] at h ⊢; exact h
  | .str x, v, h => by rw [repD_str] at h ⊢; exact h
  | .ref a, v, h => by rw [repD_ref] at h ⊢; exact h
  | .fn x, v, h => by rw [repD_fn] at h ⊢; exact h
  | .tup l, v, h => by
    obtain ⟨a, xs, e, t, r⟩ := repD_tup.mp h
    refine repD_tup.mpr ⟨a, xs, e, ?_, RepL.blk hb l xs r⟩
    rcases t with ⟨r, s, n⟩ | k
    · refine .inl ⟨r, s, fun z => (hb a z).elim n fun z => ?_⟩
      rcases r with r | ⟨o, r⟩ <;> (rw [z] at r; cases r)
    · exact .inr k
  | .kls l, v, h => by
    obtain ⟨a, xs, e, t, rl⟩ := repD_kls.mp h
    exact repD_kls.mpr ⟨a, xs, e, t, RepL.blk hb l xs rl⟩
  | .lst l, v, h => by
    obtain ⟨a, xs, e, ⟨r, s, n⟩, rl⟩ := repD_lst.mp h
    refine repD_lst.mpr ⟨a, xs, e, ⟨r, s, fun z => (hb a z).elim n fun z => ?_⟩, RepL.blk hb l xs rl⟩
    rcases r with r | ⟨o, r⟩ <;> (rw [z] at r; cases r)
theorem RepL.blk {K : PySem.W.Frag} {B B' : Blk} {S : Store} {H : Hp} (hb : ∀ a, B' a → B a ∨ H a = none) : ∀ (l : List D) (xs : List V), RepL K B S H l xs → RepL K B' S H l xs
  | [], xs, h => by rw [repL_nil] at h ⊢; exact h
  | d :: l, xs, h => by
    obtain ⟨v, r, e, h1, h2⟩ := repL_cons.mp h
    exact repL_cons.mpr ⟨v, r, e, RepD.blk hb d v h1, RepL.blk hb l r h2⟩
end
mutual
theorem RepD.moved {K : PySem.W.Frag} {B : Blk} {S : Store} {H H' : Hp} (k : ∀ a o, H a = some o → ¬ B a → H' a = some o) : ∀ (d : D) (v : V), RepD K B S H d v → RepD K B S H' d v
  | .non, v, h => by rw [repD_non] at h ⊢; exact h
  | .bl b, v, h => by rw [repD_bl] at h ⊢; exact h
  | .int i, v, h => by rw [repD_int] at h ⊢; exact h
  | .str x, v, h => by rw [repD_str] at h ⊢; exact h
  | .ref a, v, h => by rw [repD_ref] at h ⊢; exact h
  | .fn x, v, h => by rw [repD_fn] at h ⊢; exact h
  | .tup l, v, h => by
    obtain ⟨a, xs, e, t, r⟩ := repD_tup.mp h
    refine repD_tup.mpr ⟨a, xs, e, ?_, RepL.moved k l xs r⟩
    rcases t with ⟨r | ⟨o, r⟩, s, n⟩ | kk
    · exact .inl ⟨.inl (k _ _ r n), s, n⟩
    · exact .inl ⟨.inr ⟨o, k _ _ r n⟩, s, n⟩
    · exact .inr kk
  | .kls l, v, h => by
    obtain ⟨a, xs, e, t, rl⟩ := repD_kls.mp h
    exact repD_kls.mpr ⟨a, xs, e, t, RepL.moved k l xs rl⟩
  | .lst l, v, h => by
    obtain ⟨a, xs, e, ⟨r, s, n⟩, rl⟩ := repD_lst.mp h
    refine repD_lst.mpr ⟨a, xs, e, ⟨?_, s, n⟩, RepL.moved k l xs rl⟩
    rcases r with r | ⟨o, r⟩
    · exact .inl (k _ _ r n)
    · exact .inr ⟨o, k _ _ r n⟩
theorem RepL.moved {K : PySem.W.Frag} {B : Blk} {S : Store} {H H' : Hp} (k : ∀ a o, H a = some o → ¬ B a → H' a = some o) : ∀ (l : List D) (xs : List V), RepL K B S H l xs → RepL K B S H' l xs
  | [], xs, h => by rw [repL_nil] at h ⊢; exact h
  | d :: l, xs, h => by
    obtain ⟨v, r, e, h1, h2⟩ := repL_cons.mp h
    exact repL_cons.mpr ⟨v, r, e, RepD.moved k d v h1, RepL.moved k l r h2⟩
end
theorem RepC.moved {K : PySem.W.Frag} {B : Blk} {S : Store} {H H' : Hp} (k : ∀ a o, H a = some o → ¬ B a → H' a = some o) {a : Addr} {c : Cell} (h : RepC K B S H a c) (n : ¬ B a) : RepC K B S H' a c := by
  have pk : ∀ {κ : Type} {fs : List (κ × D)} {gs : List (κ × V)}, RepK K B S H fs gs → RepK K B S H' fs gs := fun {κ fs gs} h => by
    unfold RepK at h ⊢
    induction h with
    | nil => exact .nil
    | cons a _ ih => exact .cons ⟨a.1, RepD.moved k _ _ a.2⟩ ih
  cases c with
  | lst l => obtain ⟨xs, e1, r⟩ := h; exact ⟨xs, k _ _ e1 n, RepL.moved k _ _ r⟩
  | ins C fs => obtain ⟨dx, gs, e1, r⟩ := h; exact ⟨dx, gs, k _ _ e1 n, pk r⟩
  | dK kvs => obtain ⟨gs, e1, r⟩ := h; exact ⟨gs, k _ _ e1 n, pk r⟩
  | dT kvs => obtain ⟨gs, e1, r⟩ := h; exact ⟨gs, k _ _ e1 n, pk r⟩
  | exc x => obtain ⟨C, c, e1⟩ := h; exact ⟨C, c, k _ _ e1 n⟩
theorem wipe_wipe (vs : List Nat) (σ : L2.St) : wipe (wipe σ vs) vs = wipe σ vs := by
  apply List.ext_getElem?
  intro j
  by_cases hj : j ∈ vs
  · rw [wipe_at hj, wipe_at hj]
    cases σ[j]? <;> rfl
  · rw [wipe_out hj]
theorem RepE.blk {K : PySem.W.Frag} {B B' : Blk} {S : Store} {H : Hp} {env : Slots} {σ : L2.St} (h : RepE K B S H env σ) (hb : ∀ a, B' a → B a ∨ H a = none) : RepE K B' S H env σ :=
  ⟨h.1, fun i d e => let ⟨v, e1, r⟩ := h.2 i d e; ⟨v, e1, RepD.blk hb d v r⟩⟩
theorem RepC.unblk {K : PySem.W.Frag} {B B' : Blk} {S : Store} {H : Hp} (hb : ∀ a, B' a → B a) {a : Addr} {c : Cell} (h : RepC K B S H a c) : RepC K B' S H a c := by
  have pk : ∀ {κ : Type} {fs : List (κ × D)} {gs : List (κ × V)}, RepK K B S H fs gs → RepK K B' S H fs gs := fun {κ fs gs} h => by
    unfold RepK at h ⊢
    induction h with
    | nil => exact .nil
    | cons a _ ih => exact .cons ⟨a.1, RepD.unblk hb _ _ a.2⟩ ih
  cases c with
  | lst l => obtain ⟨xs, e1, r⟩ := h; exact ⟨xs, e1, RepL.unblk hb _ _ r⟩
  | ins C fs => obtain ⟨dx, gs, e1, r⟩ := h; exact ⟨dx, gs, e1, pk r⟩
  | dK kvs => obtain ⟨gs, e1, r⟩ := h; exact ⟨gs, e1, pk r⟩
  | dT kvs => obtain ⟨gs, e1, r⟩ := h; exact ⟨gs, e1, pk r⟩
  | exc x => exact h
theorem RepC.blk {K : PySem.W.Frag} {B B' : Blk} {S : Store} {H : Hp} (hb : ∀ a, B' a → B a ∨ H a = none) {a : Addr} {c : Cell} (h : RepC K B S H a c) : RepC K B' S H a c := by
  have pk : ∀ {κ : Type} {fs : List (κ × D)} {gs : List (κ × V)}, RepK K B S H fs gs → RepK K B' S H fs gs := fun {κ fs gs} h => by
    unfold RepK at h ⊢
    induction h with
    | nil => exact .nil
    | cons a _ ih => exact .cons ⟨a.1, RepD.blk hb _ _ a.2⟩ ih
  cases c with
  | lst l => obtain ⟨xs, e1, r⟩ := h; exact ⟨xs, e1, RepL.blk hb _ _ r⟩
  | ins C fs => obtain ⟨dx, gs, e1, r⟩ := h; exact ⟨dx, gs, e1, pk r⟩
  | dK kvs => obtain ⟨gs, e1, r⟩ := h; exact ⟨gs, e1, pk r⟩
  | dT kvs => obtain ⟨gs, e1, r⟩ := h; exact ⟨gs, e1, pk r⟩
  | exc x => exact h
theorem RepS.unblk {K : PySem.W.Frag} {B B' : Blk} {S : Store} {H : Hp} (rs : RepS K B S H) (hb : ∀ a, B' a → B a) : RepS K B' S H :=
  ⟨fun a c e => (rs.cell a c e).unblk hb, fun a b => rs.blk a (hb a b)⟩

/-- what one side of a walk is, now and later -/
def Side (K : PySem.W.Frag) (B : Blk) (S0 : Store) (H0 : Hp) (b : Bool) (a : Addr) (l : List D) (wt : Store → Prop) : Prop :=
  ∀ (B' : Blk) S H, (∀ a, B a → B' a) → (∀ a, B' a → B a ∨ H0 a = none) → Grow S0 H0 S H → RepS K B' S H → wt S → ∃ xs, Sq b K H a xs ∧ RepL K B' S H l xs
def watchS (x : D) (l : List D) : Store → Prop := match x with
  | .ref a => fun S => S a = some (.lst l)
  | _ => fun _ => True
theorem side_of {K : PySem.W.Frag} {B : Blk} {S : Store} {H : Hp} {x : D} {v : V} {l : List D} (rs : RepS K B S H) (r : RepD K B S H x v) (c : SC S x l) :
    ∃ b a, v = .ref a ∧ (∃ xs, Sq b K H a xs) ∧ Side K B S H b a l (watchS x l) := by
  cases x with
  | tup l' =>
    obtain rfl : l' = l := c
    obtain ⟨a, xs, e, t, rl⟩ := repD_tup.mp r
    exact ⟨true, a, e, ⟨xs, t.seq⟩, fun B' S' H' _ h2 g _ _ => ⟨xs, (t.grow g).seq, RepL.grow g _ _ (RepL.blk h2 _ _ rl)⟩⟩
  | lst l' =>
    obtain rfl : l' = l := c
    obtain ⟨a, xs, e, t, rl⟩ := repD_lst.mp r
    exact ⟨false, a, e, ⟨xs, t.seq⟩, fun B' S' H' _ h2 g _ _ => ⟨xs, (t.grow g).seq, RepL.grow g _ _ (RepL.blk h2 _ _ rl)⟩⟩
  | kls l' =>
    obtain rfl : l' = l := c
    obtain ⟨a, xs, e, t, rl⟩ := repD_kls.mp r
    exact ⟨false, a, e, ⟨xs, .inr t⟩, fun B' S' H' _ h2 g _ _ => ⟨xs, .inr t, RepL.grow g _ _ (RepL.blk h2 _ _ rl)⟩⟩
  | ref a =>
    have c' : S a = some (.lst l) := c
    obtain ⟨xs, e, _⟩ := rs.cell a _ c'
    refine ⟨false, a, repD_ref.mp r, ⟨xs, .of e⟩, fun B' S' H' _ h2 g rs' w => ?_⟩
    obtain ⟨ys, e', rl'⟩ := rs'.cell a _ (show S' a = some (.lst l) from w)
    exact ⟨ys, .of e', rl'⟩
  | _ => exact False.elim c
def ItS (b : Bool) (K : PySem.W.Frag) (a : Addr) : It := match b with
  | true => Itt K a
  | false => Itl K a
theorem src_seq {K : PySem.W.Frag} {B : Blk} {S0 : Store} {H0 : Hp} {b : Bool} {a : Addr} {l : List D} {wt : Store → Prop} (sd : Side K B S0 H0 b a l wt) : Src K B S0 H0 (ItS b K a) l wt :=
  fun B' S H h1 h2 g rs w i => by
    obtain ⟨xs, q, rl⟩ := sd B' S H h1 h2 g rs w
    refine ⟨fun hi => ?_, fun hi => ?_⟩
    · obtain ⟨v, hv, rd⟩ := rl.get (List.getElem?_eq_getElem hi)
      cases b with
      | true =>
        refine ⟨⟨xs, v, q, hv⟩, fun x H' ⟨e, f⟩ => ?_⟩
        subst e
        have e := (f xs q).symm.trans hv
        cases e
        exact ⟨.refl, rs, _, List.getElem?_eq_getElem hi, rd⟩
      | false =>
        refine ⟨⟨xs, v, q, hv⟩, fun x H' ⟨e, f⟩ => ?_⟩
        subst e
        have e := (f xs q).symm.trans hv
        cases e
        exact ⟨.refl, rs, _, List.getElem?_eq_getElem hi, rd⟩
    · rw [rl.len] at hi
      cases b with
      | true => exact ⟨xs, q, hi⟩
      | false => exact ⟨xs, q, hi⟩
def zipD (l m : List D) : List D := List.zipWith (fun x y => D.tup [x, y]) l m
theorem src_zip {K : PySem.W.Frag} {B : Blk} {S0 : Store} {H0 : Hp} {b c : Bool} {a d : Addr} {l m : List D} {w1 w2 : Store → Prop} (s1 : Side K B S0 H0 b a l w1) (s2 : Side K B S0 H0 c d m w2) :
    Src K B S0 H0 (ItzM K b c a d) (zipD l m) (fun S => w1 S ∧ w2 S) :=
  fun B' S H h1 h2 g rs w i => by
    obtain ⟨xs, q, rl⟩ := s1 B' S H h1 h2 g rs w.1
    obtain ⟨ys, q2, rl2⟩ := s2 B' S H h1 h2 g rs w.2
    have len : (zipD l m).length = min l.length m.length := by unfold zipD; rw [List.length_zipWith]
    refine ⟨fun hi => ?_, fun hi => ?_⟩
    · rw [len] at hi
      have i1 : i < l.length := by omega
      have i2 : i < m.length := by omega
      obtain ⟨v, hv, rd⟩ := rl.get (List.getElem?_eq_getElem i1)
      obtain ⟨v2, hv2, rd2⟩ := rl2.get (List.getElem?_eq_getElem i2)
      refine ⟨⟨xs, ys, v, v2, q, q2, hv, hv2⟩, ?_⟩
      rintro x H' ⟨T, x1, y1, rfl, nT, rfl, f1, f2⟩
      have e1 := (f1 xs q).symm.trans hv
      have e2 := (f2 ys q2).symm.trans hv2
      cases e1
      cases e2
      obtain ⟨g', rs', sp, nb⟩ := rs.new (o := .tup [v, v2]) nT
      refine ⟨g', rs', .tup [l[i], m[i]], by unfold zipD; simp [List.getElem?_zipWith, i1, i2], repD_tup.mpr ⟨T, [v, v2], rfl, .inl ⟨.inl upd_same, sp, nb⟩, RepL.grow g' _ _ (repL_cons.mpr ⟨v, _, rfl, rd, .one rd2⟩)⟩⟩
    · refine ⟨xs, ys, q, q2, ?_⟩
      rw [len, rl.len, rl2.len] at hi
      omega
def enumD (l : List D) : List D := l.zipIdx.map fun p => D.tup [.int (p.2 : Nat), p.1]
theorem src_enum {K : PySem.W.Frag} {B : Blk} {S0 : Store} {H0 : Hp} {b : Bool} {a : Addr} {l : List D} {wt : Store → Prop} (s1 : Side K B S0 H0 b a l wt) : Src K B S0 H0 (IteM K b a) (enumD l) wt :=
  fun B' S H h1 h2 g rs w i => by
    obtain ⟨xs, q, rl⟩ := s1 B' S H h1 h2 g rs w
    have len : (enumD l).length = l.length := by unfold enumD; rw [List.length_map, List.length_zipIdx]
    refine ⟨fun hi => ?_, fun hi => ?_⟩
    · rw [len] at hi
      obtain ⟨v, hv, rd⟩ := rl.get (List.getElem?_eq_getElem hi)
      refine ⟨⟨xs, v, q, hv⟩, ?_⟩
      rintro x H' ⟨T, x1, rfl, nT, rfl, f1⟩
      have e1 := (f1 xs q).symm.trans hv
      cases e1
      obtain ⟨g', rs', sp, nb⟩ := rs.new (o := .tup [.int (i : Nat), v]) nT
      refine ⟨g', rs', .tup [.int (i : Nat), l[i]], by unfold enumD; simp [List.getElem?_zipIdx, hi], repD_tup.mpr ⟨T, _, rfl, .inl ⟨.inl upd_same, sp, nb⟩, repL_cons.mpr ⟨_, _, rfl, repD_int.mpr rfl, .one (RepD.grow g' _ _ rd)⟩⟩⟩
    · rw [len, rl.len] at hi
      exact ⟨xs, q, hi⟩
def rngD (i j : Int) : List D := (List.range (j - i).toNat).map fun k => D.int (i + (k : Nat))
theorem src_rng {K : PySem.W.Frag} {B : Blk} {S0 : Store} {H0 : Hp} {lo hi : Int} : Src K B S0 H0 (Itr lo (hi - lo).toNat) (rngD lo hi) (fun _ => True) :=
  fun B' S H h1 h2 g rs w i => by
    have len : (rngD lo hi).length = (hi - lo).toNat := by unfold rngD; rw [List.length_map, List.length_range]
    rw [len]
    refine ⟨fun h => ⟨h, ?_⟩, fun h => h⟩
    rintro x H' ⟨rfl, rfl⟩
    exact ⟨.refl, rs, .int (lo + (i : Nat)), by unfold rngD; simp [h], repD_int.mpr rfl⟩
def chrsD (z : Str) : List D := z.cps.toList.map fun c => D.str ⟨#[c]⟩
theorem src_str {K : PySem.W.Frag} {B : Blk} {S0 : Store} {H0 : Hp} {z : Str} : Src K B S0 H0 (Its z) (chrsD z) (fun _ => True) :=
  fun B' S H h1 h2 g rs w i => by
    have len : (chrsD z).length = z.cps.size := by unfold chrsD; simp
    rw [len]
    refine ⟨fun h => ⟨h, ?_⟩, fun h => h⟩
    rintro x H' ⟨rfl, c, hc, rfl⟩
    exact ⟨.refl, rs, .str ⟨#[c]⟩, by unfold chrsD; simp [hc], repD_str.mpr rfl⟩

section
variable {X : Cx}
/-! ### what is walked -/
def walkD (x : D) (S1 : Store) (R : List D → (Store → Prop) → Store → Prop) : Prop := match x with
  | .str z => R (chrsD z) (fun _ => True) S1
  | x => ∃ l, SC S1 x l ∧ R l (watchS x l) S1
theorem walkD_of {x : D} {l : List D} {S : Store} {R : List D → (Store → Prop) → Store → Prop} (c : SC S x l) (h : R l (watchS x l) S) : walkD x S R := by
  cases x with
  | str z => exact False.elim c
  | _ => exact ⟨l, c, h⟩
def wSeqI (t : WE) : WI := fun env S R => t env S fun x S1 => walkD x S1 R
theorem di_seq {tg e : Expr} {t : WE} (he : DE X e t) : DI X tg e (wSeqI t) := by
  refine ⟨fun pins s σ H R I ⟨B, env, S, Ri, re, rs, q, l⟩ => thn (he.run pins s σ H (fun v H1 => ∃ S1 d, Grow S H S1 H1 ∧ RepS X.K B S1 H1 ∧ RepD X.K B S1 H1 d v ∧
    walkD d S1 Ri) I ⟨B, env, S, _, re, rs, q, fun S1 H1 d v g rs1 rd q1 => ⟨S1, d, g, rs1, rd, q1⟩⟩) fun v s1 ⟨x, H1, I1, r1, S1, d, g, rs1, rd, q1⟩ => ?_⟩
  have seqs : (∃ m, SC S1 d m ∧ Ri m (watchS d m) S1) → wpAny (model X.prog X.w) X.A (pyIter v) (PIE X pins σ tg R) X.xe s1 := by
    rintro ⟨m, c, q1⟩
    obtain ⟨b, a, rfl, ⟨xs, sq⟩, sd⟩ := side_of rs1 rd c
    have fin := l S1 H1 m _ (ItS b X.K a) g rs1 (src_seq sd) q1
    cases r1
    obtain ⟨its, rv, p, _⟩ := Inv.sq I1 sq
    refine pyIter_sls p ?_
    have I2 : Inv X pins σ H1 { s1 with heap := s1.heap.push { cls := .type (itc b), data := .fields #[.ref a, .int 0 0] } } := I1.kept (t' := s1.toks) fun b o e => Heap.get?_push_of_some _ e
    have fp : ∀ d ∈ [s1.heap.objs.size], FpOk X pins H1 d := fun d hd => by
      obtain rfl : d = s1.heap.objs.size := by simpa using hd
      exact I1.fpOk (Nat.le_refl _) (I1.hok.fresh (Nat.le_refl _))
    cases b with
    | true => exact ⟨_, [s1.heap.objs.size], _, _, H1, rfl, I2, turn_tuple a _, ⟨_, Heap.get?_push_size _ rfl, rfl, rfl⟩, fp, fin⟩
    | false => exact ⟨_, [s1.heap.objs.size], _, _, H1, rfl, I2, turn_list a _, ⟨_, Heap.get?_push_size _ rfl, rfl, rfl⟩, fp, fin⟩
  cases d with
  | str z =>
    rw [repD_str] at rd
    subst rd
    obtain ⟨t, rfl⟩ := r1
    have fin := l S1 H1 _ _ (Its z) g rs1 src_str q1
    cases ha : z.cps.all (· < 128)
    · exact wpAny_pyIter_wide ha (pi_one (tk := s1.toks) I1 _ (turn_str _ z t "str_iterator" (.inr rfl)) ⟨_, Heap.get?_push_size _ rfl, rfl, rfl⟩ fin)
    · exact wpAny_pyIter_ascii ha (pi_one (tk := s1.toks) I1 _ (turn_str _ z t "str_ascii_iterator" (.inl rfl)) ⟨_, Heap.get?_push_size _ rfl, rfl, rfl⟩ fin)
  | int i => exact seqs q1
  | tup m => exact seqs q1
  | lst m => exact seqs q1
  | ref a => exact seqs q1
  | non => exact seqs q1
  | bl b => exact seqs q1
  | kls m => exact seqs q1
  | fn m => exact seqs q1
def wZipI (t : WA) : WI := fun env S R => t env S fun ds S1 => match ds with
  | [x, y] => ∃ l m, SC S1 x l ∧ SC S1 y m ∧ R (zipD l m) (fun S2 => watchS x l S2 ∧ watchS y m S2) S1
  | _ => False
theorem di_zip {e e2 : Expr} {t : WA} {p pos tpos : Pos} {elts : List Expr} {kk : Nat} (hg : Gl X "zip") (hm : X.mg "zip" = none) (ha : DA X [e, e2] t)
    (hs : starEach [e, e2] X.env = (false, eval e X.env) :: starEach [e2] X.env := by rfl) (hpl : (backTo pos (starEach [e2] X.env)).any (·.1) = false := by rfl) :
    DI X (.Tuple elts kk tpos) (.Call (.Name "zip" p) [e, e2] [] pos) (wZipI t) :=
  PI.mono (pi_zipM hg hm ha hs hpl) fun σ H R ⟨B, env, S, Ri, re, rs, q, l⟩ => ⟨B, env, S, _, re, rs, q, fun S1 H1 ds vs g1 rs1 rds q1 => by
    match ds, q1 with
    | [x, y], q1 =>
      obtain ⟨m1, m2, c1, c2, q1⟩ := q1
      obtain ⟨v, u, rfl, r1, r2⟩ := repL2 rds
      obtain ⟨b, a, rfl, ⟨xs, sq⟩, sd⟩ := side_of rs1 r1 c1
      obtain ⟨b', a', rfl, ⟨ys, sq'⟩, sd'⟩ := side_of rs1 r2 c2
      exact ⟨b, b', a, a', xs, ys, rfl, sq, sq', l S1 H1 _ _ _ g1 rs1 (src_zip sd sd') q1⟩
    | [], q1 => exact False.elim q1
    | [_], q1 => exact False.elim q1
    | _ :: _ :: _ :: _, q1 => exact False.elim q1⟩
def wEnumI (t : WA) : WI := fun env S R => t env S fun ds S1 => match ds with
  | [x] => ∃ l, SC S1 x l ∧ R (enumD l) (watchS x l) S1
  | _ => False
theorem di_enum {e : Expr} {t : WA} {p pos tpos : Pos} {elts : List Expr} {kk : Nat} (hg : Gl X "enumerate") (hm : X.mg "enumerate" = none) (ha : DA X [e] t) (hs : starEach [e] X.env = [(false, eval e X.env)] := by rfl) :
    DI X (.Tuple elts kk tpos) (.Call (.Name "enumerate" p) [e] [] pos) (wEnumI t) :=
  PI.mono (pi_enumM hg hm ha hs) fun σ H R ⟨B, env, S, Ri, re, rs, q, l⟩ => ⟨B, env, S, _, re, rs, q, fun S1 H1 ds vs g1 rs1 rds q1 => by
    match ds, q1 with
    | [x], q1 =>
      obtain ⟨m1, c1, q1⟩ := q1
      obtain ⟨v, rfl, r1⟩ := repL1 rds
      obtain ⟨b, a, rfl, ⟨xs, sq⟩, sd⟩ := side_of rs1 r1 c1
      exact ⟨b, a, xs, rfl, sq, l S1 H1 _ _ _ g1 rs1 (src_enum sd) q1⟩
    | [], q1 => exact False.elim q1
    | _ :: _ :: _, q1 => exact False.elim q1⟩
def Small62 (i : Int) : Prop := -(2 ^ 62) ≤ i ∧ i < 2 ^ 62
def wRng1 (t : WE) : WI := fun env S R => t env S fun d S1 => match d with
  | .int j => Small62 j ∧ R (rngD 0 j) (fun _ => True) S1
  | _ => False
theorem di_rng1 {tg a : Expr} {t : WE} {p pos : Pos} (hg : Gl X "range") (hm : X.mg "range" = none) (ha : DE X a t) (hs : starEach [a] X.env = [(false, eval a X.env)] := by rfl) (hs' : starEach [a] X.env = (false, eval a X.env) :: starEach [] X.env := by rfl) :
    DI X tg (.Call (.Name "range" p) [a] [] pos) (wRng1 t) :=
  PI.mono (pi_range1 hg hm (pa_cons ha pa_nil hs') hs) fun σ H R ⟨B, env, S, Ri, re, rs, q, l⟩ => ⟨B, env, S, _, re, rs, q, fun S1 H1 d v g1 rs1 rd q1 => by
    cases d with
    | int j =>
      rw [repD_int] at rd
      subst rd
      have src := src_rng (K := X.K) (B := B) (S0 := S1) (H0 := H1) (lo := 0) (hi := j)
      rw [Int.sub_zero] at src
      exact ⟨j, rfl, q1.1.1, q1.1.2, l S1 H1 _ _ _ g1 rs1 src q1.2⟩
    | _ => exact False.elim q1⟩
def wRng2 (ta tb : WE) : WI := fun env S R => ta env S fun d S1 => tb env S1 fun e S2 => match d, e with
  | .int i, .int j => Small62 i ∧ Small62 j ∧ R (rngD i j) (fun _ => True) S2
  | _, _ => False
theorem di_rng2 {tg a b : Expr} {t u : WE} {p pos : Pos} (hg : Gl X "range") (hm : X.mg "range" = none) (ha : DE X a t) (hb : DE X b u) (hs : starEach [a, b] X.env = [(false, eval a X.env), (false, eval b X.env)] := by rfl) (hs2 : starEach [b] X.env = [(false, eval b X.env)] := by rfl)
    (hs3 : starEach [a, b] X.env = (false, eval a X.env) :: starEach [b] X.env := by rfl) (hs4 : starEach [b] X.env = (false, eval b X.env) :: starEach [] X.env := by rfl) : DI X tg (.Call (.Name "range" p) [a, b] [] pos) (wRng2 t u) :=
  PI.mono (pi_range2 hg hm (pa_cons ha (pa_cons hb pa_nil hs4) hs3) hs hs2) fun σ H R ⟨B, env, S, Ri, re, rs, q, l⟩ => ⟨B, env, S, _, re, rs, q, fun S1 H1 d v g1 rs1 rd q1 => ⟨B, env, S1, _, re.grow g1, rs1, q1, fun S2 H2 e u g2 rs2 re2 q2 => by
    cases d with
    | int i =>
      cases e with
      | int j =>
        rw [repD_int] at rd re2
        subst rd re2
        exact ⟨i, j, rfl, ⟨q2.1.1, q2.1.2, q2.2.1.1, q2.2.1.2⟩, l S2 H2 _ _ _ (g1.trans g2) rs2 src_rng q2.2.2⟩
      | _ => exact False.elim q2
    | _ => exact False.elim q2⟩⟩

/-! ### for -/
def forW (wt : Store → Prop) (g : WG) (b : WS) : List D → WS
  | [] => fun E env S => wt S ∧ E.nx env S
  | x :: r => fun E env S => wt S ∧ g x env S fun env1 S1 => b ⟨fun env2 S2 => forW wt g b r E env2 S2, E.rt⟩ env1 S1
def forS (ti : WI) (g : WG) (b : WS) : WS := fun E env S => ti env S fun items wt S1 => forW wt g b items E env S1
theorem for_of {K : PySem.W.Frag} {ti : WI} {g : WG} {b : WS} {vs : List Nat} {Dn : Ends} {σ : L2.St} {H : Hp} (h : tDS K (forS ti g b) Dn σ H) : tFor (tDI K ti) (tDG K vs g) (tDS K b) Dn σ H := by
  obtain ⟨B, env, S, E, re, rs, q, ln, lr⟩ := h
  refine ⟨B, env, S, _, re, rs, q, fun S1 H1 items wt J g1 rs1 src q1 => ?_⟩
  refine ⟨fun i m σ' H' => ∃ env' S', RepE K B S' H' env' σ' ∧ RepS K B S' H' ∧ Grow S1 H1 S' H' ∧ m = items.length - i ∧ i ≤ items.length ∧ forW wt g b (items.drop i) E env' S',
    ⟨items.length, env, S1, re.grow g1, rs1, .refl, rfl, Nat.zero_le _, q1⟩, ?_⟩
  rintro i m σ' H' ⟨env', S', re', rs', g', rfl, hi, q'⟩
  by_cases hlt : i < items.length
  · rw [List.drop_eq_getElem_cons hlt] at q'
    obtain ⟨hw, q'⟩ := q'
    obtain ⟨go, item⟩ := (src B S' H' (fun _ z => z) (fun _ z => .inl z) g' rs' hw i).1 hlt
    refine .inr ⟨go, _, fun σ'' H'' n => ⟨items.length - (i + 1), by omega, n⟩, fun x H'' y => ?_⟩
    obtain ⟨g2, rs2, d, hd, rd⟩ := item x H'' y
    rw [List.getElem?_eq_getElem hlt] at hd
    cases hd
    refine ⟨B, env', S', _, _, re'.grow g2, rs2, rd, q', fun S3 H3 env3 σ3 g3 rs3 re3 _ q3 => ?_⟩
    have gg : Grow S1 H1 S3 H3 := g'.trans (g2.trans g3)
    exact ⟨B, env3, S3, _, re3, rs3, q3, fun S4 H4 env4 σ4 g4 rs4 re4 q4 => ⟨env4, S4, re4, rs4, gg.trans g4, rfl, hlt, q4⟩, fun S4 H4 d v g4 rs4 rd4 q4 => lr S4 H4 d v (g1.trans (gg.trans g4)) rs4 rd4 q4⟩
  · have e : i = items.length := by omega
    subst e
    rw [List.drop_length] at q'
    exact .inl ⟨(src B S' H' (fun _ z => z) (fun _ z => .inl z) g' rs' q'.1 _).2 (Nat.le_refl _), ln S' H' env' σ' (g1.trans g') rs' re' q'.2⟩
theorem ds_for {vs : List Nat} {tg iter : Expr} {body : List Stmt} {ti : WI} {g : WG} {b : WS} {pos : Pos} (hp : PassesOwn (model X.prog X.w) X.A X.env X.xe) (hc : X.calm = true) (hi : DI X tg iter ti) (hg : DG X vs tg g) (hb : DSs X body b)
    (hs : ∀ x, foldedSetIterable iter X.env x = pure x := by intro _; rfl) : DS X (.For tg iter body [] pos) (forS ti g b) :=
  PS.mono (ps_for hp hc hi hg hb hs) fun Dn σ H q => for_of q

/-! ### while -/
def whileS (c : WT) (b : WS) : WS := fun E env S => ∃ I : Nat → Slots → Store → Prop, (∃ m, I m env S) ∧ ∀ m env S, I m env S →
  c env S fun k S1 => if k = true then b ⟨fun env' S' => ∃ m', m' < m ∧ I m' env' S', E.rt⟩ env S1 else E.nx env S1
theorem ds_while {c : Expr} {body : List Stmt} {tc : WT} {tb : WS} {pos : Pos} (hp : PassesOwn (model X.prog X.w) X.A X.env X.xe) (hc : DT X c tc) (hb : DSs X body tb) : DS X (.While c body [] pos) (whileS tc tb) :=
  PS.mono (ps_while hp hc hb) fun Dn σ H ⟨B, env, S, E, re, rs, ⟨I, ⟨m0, i0⟩, turn⟩, ln, lr⟩ => by
    refine ⟨fun m σ' H' => ∃ env' S', RepE X.K B S' H' env' σ' ∧ RepS X.K B S' H' ∧ Grow S H S' H' ∧ I m env' S', ⟨m0, env, S, re, rs, .refl, i0⟩, ?_⟩
    rintro m σ' H' ⟨env', S', re', rs', g', i'⟩
    refine ⟨B, env', S', _, re', rs', turn m env' S' i', fun S1 H1 k g1 rs1 q1 => ?_⟩
    cases k with
    | true =>
      rw [if_pos rfl] at q1 ⊢
      refine ⟨fun σ'' H'' => ∃ m', m' < m ∧ ∃ env' S', RepE X.K B S' H'' env' σ'' ∧ RepS X.K B S' H'' ∧ Grow S H S' H'' ∧ I m' env' S', fun σ'' H'' n => n, ?_⟩
      exact ⟨B, env', S1, _, re'.grow g1, rs1, q1, fun S2 H2 env2 σ2 g2 rs2 re2 ⟨m', hm, i2⟩ => ⟨m', hm, env2, S2, re2, rs2, g'.trans (g1.trans g2), i2⟩, fun S2 H2 d v g2 rs2 rd q2 => lr S2 H2 d v (g'.trans (g1.trans g2)) rs2 rd q2⟩
    | false =>
      rw [if_neg Bool.false_ne_true] at q1 ⊢
      exact ln S1 H1 env' σ' (g'.trans g1) rs1 (re'.grow g1) q1

/-! ### [e for x in ..] -/
def wipeD (env : Slots) : List Nat → Slots
  | [] => env
  | v :: vs => (wipeD env vs).set v none
theorem RepE.wipe {K : PySem.W.Frag} {B : Blk} {S : Store} {H : Hp} {env : Slots} {σ : L2.St} (h : RepE K B S H env σ) : ∀ vs : List Nat, RepE K B S H (wipeD env vs) (wipe σ vs)
  | [] => h
  | v :: vs => (RepE.wipe h vs).unset v none
def wYes : WT := fun _ S Q => Q true S
def lcW (wt : Store → Prop) (g : WG) (tt : WT) (te : WE) (env : Slots) : List D → List D → Store → (List D → Store → Prop) → Prop
  | [], acc, S, Q => wt S ∧ Q acc S
  | x :: r, acc, S, Q => wt S ∧ g x env S fun env1 S1 => tt env1 S1 fun b S2 => if b = true then te env1 S2 fun d S3 => lcW wt g tt te env r (acc ++ [d]) S3 Q else lcW wt g tt te env r acc S2 Q
/-- the new list stays (frozen), or is a cell -/
def wLc (ti : WI) (g : WG) (tt : WT) (te : WE) (vs : List Nat) : WE := fun env S Q => ti env S fun items wt S1 => items.length ≤ sizeLine ∧ lcW wt g tt te (wipeD env vs) items [] S1 fun acc S2 => Q (.lst acc) S2
def wLcM (ti : WI) (g : WG) (tt : WT) (te : WE) (vs : List Nat) : WE := fun env S Q => ti env S fun items wt S1 => items.length ≤ sizeLine ∧ lcW wt g tt te (wipeD env vs) items [] S1 fun acc S2 => ∀ p, S2 p = none → Q (.ref p) (sput S2 p (.lst acc))
def DTs (X : Cx) (ifs : List Expr) (t : WT) : Prop := PTs X ifs (tDT X.K t)
theorem dts_nil : DTs X [] wYes := ⟨fun pins s σ H Q I ⟨B, env, S, Qd, re, rs, q, l⟩ => pts_nil.run pins s σ H Q I (l S H true .refl rs q)⟩
theorem dts_one {c : Expr} {t : WT} (h : DT X c t) : DTs X [c] t := pts_one h
theorem lc_of {K : PySem.W.Frag} {ti : WI} {g : WG} {tt : WT} {te : WE} {vs : List Nat} {σ : L2.St} {H : Hp} {Q : VK} {Qa : List D → Store → Prop} {B : Blk} {env : Slots} {S : Store}
    (re : RepE K B S H env σ) (rs : RepS K B S H) (h : ti env S fun items wt S1 => items.length ≤ sizeLine ∧ lcW wt g tt te (wipeD env vs) items [] S1 Qa)
    (fin : ∀ S1 H1 S' H' acc xs D, Grow S H S1 H1 → H1 D = none → Grow S1 H1 S' H' → RepS K (fun a => B a ∨ a = D) S' H' → ¬ B D → H' D = some (.lst xs) → RepL K (fun a => B a ∨ a = D) S' H' acc xs → Qa acc S' → Q (.ref D) H') :
    tLc (tDI K ti) (tDG K vs g) (tDT K tt) (tD K te) vs σ H Q := by
  refine ⟨B, env, S, _, re, rs, h, fun S1 H1 items wt J g1 rs1 src ⟨hz, q1⟩ D hD => ?_⟩
  have hb : ∀ a, (B a ∨ a = D) → B a ∨ H1 a = none := fun a z => z.elim .inl fun e => .inr (by rw [e]; exact hD)
  obtain ⟨gD, rsD, sD, nD⟩ := rs1.new (o := .lst []) hD
  have rsB : RepS K (fun a => B a ∨ a = D) S1 (upd H1 D (.lst [])) := by
    refine ⟨fun a c e => ?_, fun a z => ?_⟩
    · obtain ⟨o', e'⟩ := (rs1.cell a c e).there
      exact ((rs1.cell a c e).blk hb).frame gD (upd_ne (ne_of_none e' hD))
    · rcases z with z | z
      · exact rsD.blk a z
      · subst z
        exact ⟨⟨_, upd_same⟩, sD⟩
  refine ⟨fun i m H' => ∃ S' acc xs, RepS K (fun a => B a ∨ a = D) S' H' ∧ H' D = some (.lst xs) ∧ RepL K (fun a => B a ∨ a = D) S' H' acc xs ∧ RepE K (fun a => B a ∨ a = D) S' H' (wipeD env vs) (wipe σ vs) ∧ Grow S1 H1 S' H' ∧
      m = items.length - i ∧ i ≤ items.length ∧ acc.length ≤ i ∧ lcW wt g tt te (wipeD env vs) (items.drop i) acc S' Qa,
    ⟨items.length, S1, [], [], rsB, upd_same, repL_nil.mpr rfl, (((re.grow g1).blk hb).grow gD).wipe vs, gD, rfl, Nat.zero_le _, Nat.le_refl _, q1⟩, ?_⟩
  rintro i m H' ⟨S', acc, xs, rs', eD, rl, re', g', rfl, hi, ha, q'⟩
  by_cases hlt : i < items.length
  · rw [List.drop_eq_getElem_cons hlt] at q'
    obtain ⟨hw, q'⟩ := q'
    obtain ⟨go, item⟩ := (src _ S' H' (fun _ z => .inl z) hb g' rs' hw i).1 hlt
    refine .inr ⟨go, _, fun H'' n => ⟨items.length - (i + 1), by omega, n⟩, fun x H'' y => ?_⟩
    obtain ⟨g2, rs2, d, hd, rd⟩ := item x H'' y
    rw [List.getElem?_eq_getElem hlt] at hd
    cases hd
    refine ⟨_, wipeD env vs, S', _, _, re'.grow g2, rs2, rd, q', fun S3 H3 env3 σ3 g3 rs3 re3 w3 q3 => ⟨w3.trans (wipe_wipe vs σ), _, env3, S3, _, re3, rs3, q3, fun S4 H4 b g4 rs4 q4 => ?_⟩⟩
    have g24 : Grow S' H' S4 H4 := g2.trans (g3.trans g4)
    have sD' : S' D = none := (rs'.blk D (.inr rfl)).2
    cases b with
    | false =>
      simp only [Bool.false_eq_true, if_false] at q4
      exact iteF ⟨S4, acc, xs, rs4, (g24 D _ eD sD').1, RepL.grow g24 _ _ rl, re'.grow g24, g'.trans g24, rfl, hlt, by omega, q4⟩
    | true =>
      simp only [if_true] at q4
      refine iteT ⟨_, env3, S4, _, re3.grow g4, rs4, q4, fun S5 H5 y vy g5 rs5 ry q5 => ?_⟩
      have g25 : Grow S' H' S5 H5 := g24.trans g5
      obtain ⟨eD5, sD5⟩ := g25 D _ eD sD'
      have k : ∀ a o, H5 a = some o → ¬ (B a ∨ a = D) → (upd H5 D (.lst (xs ++ [vy]))) a = some o := fun a o e n => by rw [upd_ne fun z => n (.inr z)]; exact e
      have rl5 : RepL K (fun a => B a ∨ a = D) S5 H5 (acc ++ [y]) (xs ++ [vy]) := (RepL.grow g25 _ _ rl).app (.one ry)
      refine ⟨xs, eD5, by rw [← rl.len]; omega, S5, acc ++ [y], xs ++ [vy], ⟨fun a c e => ?_, fun a z => ?_⟩, upd_same, RepL.moved k _ _ rl5, ⟨(re'.grow g25).1, fun i d e => ?_⟩, fun a o e s => ?_, rfl, hlt, by rw [List.length_append]; simp; omega, q5⟩
      · have na : ¬ (B a ∨ a = D) := fun z => by rw [(rs5.blk a z).2] at e; cases e
        exact (rs5.cell a c e).moved k na
      · obtain ⟨⟨o, e⟩, s5⟩ := rs5.blk a z
        refine ⟨?_, s5⟩
        by_cases ea : a = D
        · subst ea; exact ⟨_, upd_same⟩
        · exact ⟨o, by rw [upd_ne ea]; exact e⟩
      · obtain ⟨v, e1, r⟩ := (re'.grow g25).2 i d e
        exact ⟨v, e1, RepD.moved k _ _ r⟩
      · obtain ⟨e5, s5⟩ := (g'.trans g25) a o e s
        exact ⟨by rw [upd_ne (ne_of_none e hD)]; exact e5, s5⟩
  · have e : i = items.length := by omega
    subst e
    rw [List.drop_length] at q'
    exact .inl ⟨(src _ S' H' (fun _ z => .inl z) hb g' rs' q'.1 _).2 (Nat.le_refl _), fin S1 H1 S' H' acc xs D g1 hD g' rs' nD eD rl q'.2⟩
end
end ND
set_option Elab.async false
set_option linter.all false
set_option maxRecDepth 100000
namespace ND
open PySem PySem.Spec PyProof.Rows L2

section
variable {X : Cx}
abbrev Blks (X : Cx) (scope : Scope) (P : Cx → Prop) : Prop := ∀ (s : Shared) (H : Hp) (C : Addr) (cl : List (Str × Addr)) (fp : List Addr), P (X.blk s H scope (compEnvC scope cl C X.env) fp)
theorem lc_frz {K : PySem.W.Frag} {B : Blk} {S : Store} {H : Hp} {Qd : D → Store → Prop} {Q : VK} (l : Lift K B S H Qd Q) (S' : Store) (H' : Hp) (acc : List D) (xs : List V) (p : Addr) (g : Grow S H S' H') (rs : RepS K (fun a => B a ∨ a = p) S' H') (nb : ¬ B p) (e : H' p = some (.lst xs))
    (rl : RepL K (fun a => B a ∨ a = p) S' H' acc xs) (q : Qd (.lst acc) S') : Q (.ref p) H' :=
  l S' H' _ _ g (rs.unblk fun a z => .inl z) (repD_lst.mpr ⟨p, xs, rfl, ⟨.inl e, (rs.blk p (.inr rfl)).2, nb⟩, RepL.unblk (fun a z => .inl z) _ _ rl⟩) q
theorem lc_cell {K : PySem.W.Frag} {B : Blk} {S : Store} {H : Hp} {Qd : D → Store → Prop} {Q : VK} (l : Lift K B S H Qd Q) (S' : Store) (H' : Hp) (acc : List D) (xs : List V) (p : Addr) (g : Grow S H S' H') (rs : RepS K (fun a => B a ∨ a = p) S' H') (nb : ¬ B p) (e : H' p = some (.lst xs))
    (rl : RepL K (fun a => B a ∨ a = p) S' H' acc xs) (n0 : H p = none) (q : ∀ p, S' p = none → Qd (.ref p) (sput S' p (.lst acc))) : Q (.ref p) H' := by
  have sp : S' p = none := (rs.blk p (.inr rfl)).2
  -- what is told stays true where p is a cell: no frozen thing stands there
  have mv : ∀ (d : D) (v : V), RepD K (fun a => B a ∨ a = p) S' H' d v → RepD K B (sput S' p (.lst acc)) H' d v := by
    have both : ∀ n : Nat, (∀ (d : D) (v : V), sizeOf d < n → RepD K (fun a => B a ∨ a = p) S' H' d v → RepD K B (sput S' p (.lst acc)) H' d v) ∧
        (∀ (l : List D) (xs : List V), sizeOf l < n → RepL K (fun a => B a ∨ a = p) S' H' l xs → RepL K B (sput S' p (.lst acc)) H' l xs) := by
      intro n
      induction n with
      | zero => exact ⟨fun _ _ h => absurd h (Nat.not_lt_zero _), fun _ _ h => absurd h (Nat.not_lt_zero _)⟩
      | succ n ih =>
        refine ⟨fun d v hn h => ?_, fun l xs hn h => ?_⟩
        · cases d with
          | non => rw [repD_non] at h ⊢; exact h
          | bl b => rw [repD_bl] at h ⊢; exact h
          | int i => rw [repD_int] at h ⊢; exact h
          | str x => rw [repD_str] at h ⊢; exact h
          | ref a => rw [repD_ref] at h ⊢; exact h
          | fn x => rw [repD_fn] at h ⊢; exact h
          | tup l =>
            obtain ⟨a, xs, e, t, r⟩ := repD_tup.mp h
            refine repD_tup.mpr ⟨a, xs, e, ?_, ih.2 l xs (by simp at hn; omega) r⟩
            rcases t with ⟨r, s, n⟩ | k
            · exact .inl ⟨r, by rw [sput_ne fun z => n (.inr z)]; exact s, fun z => n (.inl z)⟩
            · exact .inr k
          | lst l =>
            obtain ⟨a, xs, e, ⟨r, s, n⟩, rl⟩ := repD_lst.mp h
            exact repD_lst.mpr ⟨a, xs, e, ⟨r, by rw [sput_ne fun z => n (.inr z)]; exact s, fun z => n (.inl z)⟩, ih.2 l xs (by simp at hn; omega) rl⟩
          | kls l =>
            obtain ⟨a, xs, e, t, rl⟩ := repD_kls.mp h
            exact repD_kls.mpr ⟨a, xs, e, t, ih.2 l xs (by simp at hn; omega) rl⟩
        · cases l with
          | nil => rw [repL_nil] at h ⊢; exact h
          | cons d l =>
            obtain ⟨v, r, e, h1, h2⟩ := repL_cons.mp h
            exact repL_cons.mpr ⟨v, r, e, ih.1 d v (by simp at hn; omega) h1, ih.2 l r (by simp at hn; omega) h2⟩
    exact fun d v h => (both (sizeOf d + 1)).1 d v (Nat.lt_succ_self _) h
  have mvl : ∀ (l : List D) (xs : List V), RepL K (fun a => B a ∨ a = p) S' H' l xs → RepL K B (sput S' p (.lst acc)) H' l xs := by
    intro l
    induction l with
    | nil => intro xs h; rw [repL_nil] at h ⊢; exact h
    | cons d l ih =>
      intro xs h
      obtain ⟨v, r, e, h1, h2⟩ := repL_cons.mp h
      exact repL_cons.mpr ⟨v, r, e, mv d v h1, ih r h2⟩
  have pk : ∀ {κ : Type} {fs : List (κ × D)} {gs : List (κ × V)}, RepK K (fun a => B a ∨ a = p) S' H' fs gs → RepK K B (sput S' p (.lst acc)) H' fs gs := fun {κ fs gs} h => by
    unfold RepK at h ⊢
    induction h with
    | nil => exact .nil
    | cons a _ ih => exact .cons ⟨a.1, mv _ _ a.2⟩ ih
  have rs' : RepS K B (sput S' p (.lst acc)) H' := by
    refine ⟨fun a c ea => ?_, fun a z => ?_⟩
    · by_cases ha : a = p
      · subst ha
        rw [sput_same] at ea
        cases ea
        exact ⟨xs, e, mvl _ _ rl⟩
      · rw [sput_ne ha] at ea
        have h := rs.cell a c ea
        cases c with
        | lst l => obtain ⟨xs, e1, r⟩ := h; exact ⟨xs, e1, mvl _ _ r⟩
        | ins C fs => obtain ⟨dx, gs, e1, r⟩ := h; exact ⟨dx, gs, e1, pk r⟩
        | dK kvs => obtain ⟨gs, e1, r⟩ := h; exact ⟨gs, e1, pk r⟩
        | dT kvs => obtain ⟨gs, e1, r⟩ := h; exact ⟨gs, e1, pk r⟩
        | exc x => exact h
    · obtain ⟨o, s⟩ := rs.blk a (.inl z)
      exact ⟨o, by rw [sput_ne fun (e : a = p) => nb (e ▸ z)]; exact s⟩
  have g' : Grow S H (sput S' p (.lst acc)) H' := fun a o e s => by
    obtain ⟨e1, s1⟩ := g a o e s
    exact ⟨e1, by rw [sput_ne (ne_of_none e n0)]; exact s1⟩
  exact l _ _ _ _ g' rs' (repD_ref.mpr rfl) (q p sp)

theorem de_lc {elt tg iter : Expr} {ifs : List Expr} {scope : Scope} {own : List (Str × Nat)} {pos : Pos} {ti : WI} {g : WG} {tt : WT} {te : WE} (hc : X.calm = true) (hN : X.N.Nodup) (hi : DI X tg iter ti) (ok : BlkOk X.N X.env.scope scope own)
    (hg : Blks X scope fun Y => DG Y (own.map (·.2)) tg g) (ht : Blks X scope fun Y => DTs Y ifs tt) (he : Blks X scope fun Y => DE Y elt te) (hs : ∀ x, foldedSetIterable iter X.env x = pure x := by intro _; rfl) :
    DE X (.ListComp elt [⟨tg, iter, ifs, 0⟩] scope pos) (wLc ti g tt te (own.map (·.2))) :=
  PE.mono (pe_lc (own := own) (wi := tDI X.K ti) (g := tDG X.K (own.map (fun p : Str × Nat => p.2)) g) (tt := tDT X.K tt) (te := tD X.K te) hc hN hi ok (fun s H C cl fp => hg s H C cl fp) (fun s H C cl fp => ht s H C cl fp) (fun s H C cl fp => he s H C cl fp) hs) fun σ H Q ⟨B, env, S, Qd, re, rs, q, l⟩ => lc_of re rs q fun S1 H1 S' H' acc xs p g1 _ g' rs' nb e rl q' => lc_frz (l.grow g1) S' H' acc xs p g' rs' nb e rl q'
theorem de_lcM {elt tg iter : Expr} {ifs : List Expr} {scope : Scope} {own : List (Str × Nat)} {pos : Pos} {ti : WI} {g : WG} {tt : WT} {te : WE} (hc : X.calm = true) (hN : X.N.Nodup) (hi : DI X tg iter ti) (ok : BlkOk X.N X.env.scope scope own)
    (hg : Blks X scope fun Y => DG Y (own.map (·.2)) tg g) (ht : Blks X scope fun Y => DTs Y ifs tt) (he : Blks X scope fun Y => DE Y elt te) (hs : ∀ x, foldedSetIterable iter X.env x = pure x := by intro _; rfl) :
    DE X (.ListComp elt [⟨tg, iter, ifs, 0⟩] scope pos) (wLcM ti g tt te (own.map (·.2))) :=
  PE.mono (pe_lc (own := own) (wi := tDI X.K ti) (g := tDG X.K (own.map (fun p : Str × Nat => p.2)) g) (tt := tDT X.K tt) (te := tD X.K te) hc hN hi ok (fun s H C cl fp => hg s H C cl fp) (fun s H C cl fp => ht s H C cl fp) (fun s H C cl fp => he s H C cl fp) hs) fun σ H Q ⟨B, env, S, Qd, re, rs, q, l⟩ => lc_of re rs q fun S1 H1 S' H' acc xs p g1 n0 g' rs' nb e rl q' => lc_cell (l.grow g1) S' H' acc xs p g' rs' nb e rl n0 q'
/-- name = [..] -/
theorem ds_setLc (i : Nat) {y : Str} {py : Pos} {elt tg iter : Expr} {ifs : List Expr} {scope : Scope} {own : List (Str × Nat)} {pos spos : Pos} {ti : WI} {g : WG} {tt : WT} {te : WE} (hc : X.calm = true) (hN : X.N.Nodup) (hyl : X.env.scope.names.lookup y = some .local)
    (hsw : swapsWith (.ListComp elt [⟨tg, iter, ifs, 0⟩] scope pos) (some (.Name y py)) spos.line X.env = pure true) (hi : DI X tg iter ti) (ok : BlkOk X.N X.env.scope scope own)
    (hg : Blks X scope fun Y => DG Y (own.map (·.2)) tg g) (ht : Blks X scope fun Y => DTs Y ifs tt) (he : Blks X scope fun Y => DE Y elt te) (hy : X.N[i]? = some y := by rfl) (hs : ∀ x, foldedSetIterable iter X.env x = pure x := by intro _; rfl) :
    DS X (.Assign [.Name y py] (.ListComp elt [⟨tg, iter, ifs, 0⟩] scope pos) spos) (wSet i (wLc ti g tt te (own.map (·.2)))) :=
  PS.mono (ps_setLc (own := own) (wi := tDI X.K ti) (g := tDG X.K (own.map (fun p : Str × Nat => p.2)) g) (tt := tDT X.K tt) (te := tD X.K te) hc hN hy hyl hsw hi ok (fun s H C cl fp => hg s H C cl fp) (fun s H C cl fp => ht s H C cl fp) (fun s H C cl fp => he s H C cl fp) hs) fun Dn σ H ⟨B, env, S, E, re, rs, q, ln, lr⟩ => by
    show tLc _ _ _ _ _ σ H fun x H1 => gName i x σ H1 Dn.nx
    exact lc_of re rs q fun S1 H1 S' H' acc xs p g1 _ g' rs' nb e rl q' => ln _ _ _ _ (g1.trans g') (rs'.unblk fun a z => .inl z) ((((re.grow (g1.trans g'))).set i (repD_lst.mpr ⟨p, xs, rfl, ⟨.inl e, (rs'.blk p (.inr rfl)).2, nb⟩, RepL.unblk (fun a z => .inl z) _ _ rl⟩))) q'
theorem ds_setLcM (i : Nat) {y : Str} {py : Pos} {elt tg iter : Expr} {ifs : List Expr} {scope : Scope} {own : List (Str × Nat)} {pos spos : Pos} {ti : WI} {g : WG} {tt : WT} {te : WE} (hc : X.calm = true) (hN : X.N.Nodup) (hyl : X.env.scope.names.lookup y = some .local)
    (hsw : swapsWith (.ListComp elt [⟨tg, iter, ifs, 0⟩] scope pos) (some (.Name y py)) spos.line X.env = pure true) (hi : DI X tg iter ti) (ok : BlkOk X.N X.env.scope scope own)
    (hg : Blks X scope fun Y => DG Y (own.map (·.2)) tg g) (ht : Blks X scope fun Y => DTs Y ifs tt) (he : Blks X scope fun Y => DE Y elt te) (hy : X.N[i]? = some y := by rfl) (hs : ∀ x, foldedSetIterable iter X.env x = pure x := by intro _; rfl) :
    DS X (.Assign [.Name y py] (.ListComp elt [⟨tg, iter, ifs, 0⟩] scope pos) spos) (wSet i (wLcM ti g tt te (own.map (·.2)))) :=
  PS.mono (ps_setLc (own := own) (wi := tDI X.K ti) (g := tDG X.K (own.map (fun p : Str × Nat => p.2)) g) (tt := tDT X.K tt) (te := tD X.K te) hc hN hy hyl hsw hi ok (fun s H C cl fp => hg s H C cl fp) (fun s H C cl fp => ht s H C cl fp) (fun s H C cl fp => he s H C cl fp) hs) fun Dn σ H ⟨B, env, S, E, re, rs, q, ln, lr⟩ => by
    show tLc _ _ _ _ _ σ H fun x H1 => gName i x σ H1 Dn.nx
    exact lc_of re rs q fun S1 H1 S' H' acc xs p g1 n0 g' rs' nb e rl q' => by
      show Dn.nx (σ.set i (some (.ref p))) H'
      refine lc_cell (B := B) (Q := fun v H2 => ∀ w, v = .ref w → Dn.nx (σ.set i (some (.ref w))) H2) (Qd := fun d S2 => E.nx (env.set i (some d)) S2) (fun S2 H2 d v g2 rs2 rd q2 w ew => ?_) S' H' acc xs p g' rs' nb e rl n0 q' p rfl
      subst ew
      exact ln _ _ _ _ (g1.trans g2) rs2 ((re.grow (g1.trans g2)).set i rd) q2

/-! ### defs -/
def spD (K : PySem.W.Frag) (m : On) : Sp := fun vs H Q _ => ∃ B ds S Qd, RepL K B S H ds vs ∧ RepS K B S H ∧ m ds S Qd ∧ Lift K B S H Qd Q
/-- a def that may be called by its name: m its promise over data -/
structure CalD (P : Program) (w : World) (K : PySem.W.Frag) (mg : Str → Option Value) (base : Heap) (k : Nat) (x : Str) (m : On) : Prop where
  ex : ∃ (f : Addr) (fd : FuncData) (ps : List Str), FnOk P w K mg base CX0 k f fd ps (spD K m) ∧ mg x = some (.ref f) ∧ PySem.W.keepIn K (.ref f) = true ∧ Binds K fd ps []
theorem CalD.up {P : Program} {w : World} {K : PySem.W.Frag} {mg : Str → Option Value} {base : Heap} {k j : Nat} {x : Str} {m : On} (c : CalD P w K mg base k x m) (h : k ≤ j) : CalD P w K mg base j x m := by
  obtain ⟨f, fd, ps, F, a, b, c⟩ := c.ex
  exact ⟨f, fd, ps, F.mono h, a, b, c⟩
theorem de_call {k : Nat} {x : Str} {m : On} {p pos : Pos} {e : Expr} {es : List Expr} {t : WA} (c : CalD X.prog X.w X.K X.mg X.base k x m) (hr : Room k X.A) (hg : Gl X x) (ha : DA X (e :: es) t)
    (hd : (x == ("__debug__" : Str)) = false := by decide) (he : starEach (e :: es) X.env = (false, eval e X.env) :: starEach es X.env := by rfl) (hpl : (backTo pos (starEach es X.env)).any (·.1) = false := by rfl) :
    DE X (.Call (.Name x p) (e :: es) [] pos) (wCall m t) := by
  obtain ⟨f, fd, ps, F, hm, hk, hb⟩ := c.ex
  exact PE.mono (pe_call (E := E0) F hr hg hm hk hb .nil pass0 ha (hdb := hd) (he := he) (hpl := hpl)) fun σ H Q ⟨B, env, S, Qd, re, rs, q, l⟩ => ⟨B, env, S, _, re, rs, q, fun S1 H1 ds vs g1 rs1 rds q1 => ⟨B, ds, S1, Qd, by rw [List.append_nil]; exact rds, rs1, q1, l.grow g1⟩⟩
def dstart (N : List Str) (ds : List D) : Slots := ds.map some ++ List.replicate (N.length - ds.length) none
theorem repE_start {K : PySem.W.Frag} {B : Blk} {S : Store} {H : Hp} {N : List Str} {ds : List D} {vs : List V} (r : RepL K B S H ds vs) : RepE K B S H (dstart N ds) (L2.start N vs) := by
  unfold dstart L2.start
  refine ⟨by simp [r.len], fun i d e => ?_⟩
  rw [List.getElem?_append] at e ⊢
  rw [List.length_map] at e ⊢
  rw [← r.len]
  by_cases hi : i < ds.length
  · rw [if_pos hi] at e ⊢
    rw [List.getElem?_map] at e ⊢
    cases q : ds[i]? with
    | none => rw [q] at e; cases e
    | some d' =>
      rw [q] at e
      simp at e
      subst e
      obtain ⟨v, h1, h2⟩ := r.get q
      exact ⟨v, by rw [h1]; rfl, h2⟩
  · rw [if_neg hi] at e
    rw [List.getElem?_replicate] at e
    split at e <;> simp at e
section
variable {P : Program} {w : World} {K : PySem.W.Frag} {mg : Str → Option Value} {base : Heap}
/-- THE RULE for a def, over data -/
theorem okD {x qual : Str} {st : Stmt} {f : Addr} {fd : FuncData} {N ps : List Str} {k : Nat} {m : On} (F : Fun K x qual st f fd) (S : FnScope N ps (defScope st)) (len : ∀ ds S Q, m ds S Q → ds.length = ps.length)
    (hbody : ∀ (cdv : Value) (A : Around) (outer : List Env) (s : Shared) (H : Hp) (E : XK), Room k (A.deeper (envOfC qual (defScope st) s.heap.objs.size f cdv)) →
      ∃ t : WS, DSs (cxOf CX0 P w K mg base N qual (defScope st) f cdv A outer s H E).nox (defBody st) t ∧ ∀ ds S Q, m ds S Q → t ⟨fun _ S' => ∃ S'', Sub S'' S' ∧ Q .non S'', Q⟩ (dstart N ds) S) : FnOk P w K mg base CX0 (k + 1) f fd ps (spD K m) := by
  refine F.ok S (fun vs H Q E ⟨B, ds, S', Qd, r, rs, q, l⟩ => by rw [← r.len]; exact len _ _ _ q) (fun cdv A outer s H vs Q E hr ⟨B, ds, S', Qd, r, rs, q, l⟩ => ?_)
  obtain ⟨t, ht, hq⟩ := hbody cdv A outer s H E hr
  exact ⟨_, ht, B, dstart N ds, S', _, repE_start r, rs, hq ds S' Qd q, fun S1 H1 env1 σ1 g1 rs1 re1 ⟨S2, sb, q1⟩ => l S2 H1 _ _ (g1.trans sb.grow) (rs1.sub sb) (repD_non.mpr rfl) q1, l⟩
theorem calD {x : Str} {st : Stmt} {f : Addr} {fd : FuncData} {ps : List Str} {k : Nat} {m : On} (F : Fun K x x st f fd) (hm : mg x = some (.ref f)) (hb : Binds K fd ps []) (h : FnOk P w K mg base CX0 k f fd ps (spD K m)) : CalD P w K mg base k x m := ⟨f, fd, ps, h, hm, F.kp, hb⟩
/-- the law's own promise -/
def mLaw (n : Nat) : On := fun ds S Q => ∃ (d : D) (ns : List Int), ds = [d] ∧ SC S d (ns.map D.int) ∧ (d = .lst (ns.map D.int) ∨ d = .kls (ns.map D.int)) ∧ ns.length ≤ n ∧ ∀ S', Q (.bl true) S'
theorem law_sp {n : Nat} {H : Hp} {a : Addr} {ns : List Int} (hl : ns.length ≤ n) (hS : SqL K H a (ns.map V.int)) : spD K (mLaw n) [.ref a] H (fun v _ => v = .bl true) fun _ _ _ => False := by
  rcases hS with h | h
  · exact ⟨fun _ => False, [.lst (ns.map D.int)], fun _ => none, fun d _ => d = .bl true, .one (repD_lst.mpr ⟨a, _, rfl, ⟨h, rfl, fun z => z⟩, repL_ints⟩), ⟨fun _ _ e => (nomatch e), fun _ z => False.elim z⟩, ⟨_, ns, rfl, rfl, .inl rfl, hl, fun _ => rfl⟩, fun S' H' d v _ _ r e => by
      subst e
      exact repD_bl.mp r⟩
  · exact ⟨fun _ => False, [.kls (ns.map D.int)], fun _ => none, fun d _ => d = .bl true, .one (repD_kls.mpr ⟨a, _, rfl, h, repL_ints⟩), ⟨fun _ _ e => (nomatch e), fun _ z => False.elim z⟩, ⟨_, ns, rfl, rfl, .inr rfl, hl, fun _ => rfl⟩, fun S' H' d v _ _ r e => by
      subst e
      exact repD_bl.mp r⟩
end
end
end ND
set_option Elab.async false
set_option linter.all false
set_option maxRecDepth 100000
namespace ND
open PySem PySem.Spec PyProof.Rows L2

/-! ### methods of lists that are cells -/
abbrev OM := D → On
def rDM (K : PySem.W.Frag) (o : OM) : V → List V → Hp → VK → Prop := fun vx vs H Q => ∃ B S x ds Qd, RepS K B S H ∧ RepD K B S H x vx ∧ RepL K B S H ds vs ∧ o x ds S Qd ∧ Lift K B S H Qd Q
def MD (X : Cx) (id : String) (o : OM) : Prop := MtR X id (rDM X.K o)
def CellL (S : Store) (x : D) (l : List D) : Prop := match x with
  | .ref a => S a = some (.lst l)
  | _ => False
section
variable {X : Cx}
theorem MD.of {id : String} {o : OM} {r : V → List V → Hp → VK → Prop} (h : MtR X id r)
    (m : ∀ B S H x ds vx vs Qd Q, RepS X.K B S H → RepD X.K B S H x vx → RepL X.K B S H ds vs → o x ds S Qd → Lift X.K B S H Qd Q → r vx vs H Q) : MD X id o :=
  fun pins s σ H x xs v us Q I r1 r2 ⟨B, S, d, ds, Qd, rs, rx, rl, q, l⟩ => h pins s σ H x xs v us Q I r1 r2 (m B S H d ds x xs Qd Q rs rx rl q l)
def wM0 (o : OM) (t : WE) : WE := fun env S Q => t env S fun x S1 => (∃ l, CellL S1 x l) ∧ o x [] S1 Q
def wM (o : OM) (t : WE) (ta : WA) : WE := fun env S Q => t env S fun x S1 => (∃ l, CellL S1 x l) ∧ ta env S1 fun ds S2 => o x ds S2 Q
theorem cellL_rep {K : PySem.W.Frag} {B : Blk} {S : Store} {H : Hp} {x : D} {v : V} {l : List D} (rs : RepS K B S H) (r : RepD K B S H x v) (c : CellL S x l) : ∃ a xs, x = .ref a ∧ v = .ref a ∧ S a = some (.lst l) ∧ H a = some (.lst xs) ∧ RepL K B S H l xs := by
  cases x with
  | ref a =>
    have c' : S a = some (.lst l) := c
    obtain ⟨xs, e, rl⟩ := rs.cell a _ c'
    exact ⟨a, xs, rfl, repD_ref.mp r, c', e, rl⟩
  | _ => exact False.elim c
theorem de_m0 {id : String} {name : Str} {o : OM} {e : Expr} {t : WE} {apos cpos : Pos} (slot : Slot "list" name id) (hty : typeOf (.builtin id) = pure (.type "method_descriptor")) (hm : MD X id o) (ho : DE X e t)
    (hbase : attributeBase e name X.env (eval e X.env) = eval e X.env := by rfl) (hline : (apos.endLine == cpos.line) = true := by rfl) : DE X (.Call (.Attribute e name apos) [] [] cpos) (wM0 o t) :=
  PE.mono (pe_bm0 PySem.F.plainAttrs_list slot hty hm ho hbase hline) fun σ H Q ⟨B, env, S, Qd, re, rs, q, l⟩ => ⟨B, env, S, _, re, rs, q, fun S1 H1 x v g1 rs1 rx ⟨⟨m, c⟩, q1⟩ => by
    obtain ⟨a, xs, rfl, rfl, _, e, _⟩ := cellL_rep rs1 rx c
    exact ⟨.inl ⟨rfl, xs, .of e⟩, B, S1, _, [], Qd, rs1, rx, repL_nil.mpr rfl, q1, l.grow g1⟩⟩
theorem de_m {id : String} {name : Str} {o : OM} {e a : Expr} {es : List Expr} {t : WE} {ta : WA} {apos cpos : Pos} (slot : Slot "list" name id) (hty : typeOf (.builtin id) = pure (.type "method_descriptor")) (hm : MD X id o) (ho : DE X e t) (ha : DA X (a :: es) ta)
    (hbase : attributeBase e name X.env (eval e X.env) = eval e X.env := by rfl)
    (hfew : ((backTo cpos (starEach (a :: es) X.env)).all (fun x => !x.1) && (backToKw cpos (keywordEach [] X.env)).all (fun x => x.1.isSome) && decide ((a :: es).length + ([] : List Keyword).length + (if ([] : List Keyword).isEmpty then 0 else 1) < 30)) = true := by rfl)
    (hline : (apos.endLine == cpos.line) = true := by rfl) (hs : starEach (a :: es) X.env = (false, eval a X.env) :: starEach es X.env := by rfl) (hplain : (backTo cpos (starEach es X.env)).any (·.1) = false := by rfl) :
    DE X (.Call (.Attribute e name apos) (a :: es) [] cpos) (wM o t ta) :=
  PE.mono (pe_bm PySem.F.plainAttrs_list slot hty hm ho ha hbase hfew hline hs hplain) fun σ H Q ⟨B, env, S, Qd, re, rs, q, l⟩ => ⟨B, env, S, _, re, rs, q, fun S1 H1 x v g1 rs1 rx ⟨⟨m, c⟩, q1⟩ => by
    obtain ⟨a, xs, rfl, rfl, _, e, _⟩ := cellL_rep rs1 rx c
    exact ⟨.inl ⟨rfl, xs, .of e⟩, B, env, S1, _, re.grow g1, rs1, q1, fun S2 H2 ds vs g2 rs2 rds q2 => ⟨B, S2, _, ds, Qd, rs2, RepD.grow g2 _ _ rx, rds, q2, l.grow (g1.trans g2)⟩⟩⟩
/-- what a method does to its cell -/
theorem cell_set {K : PySem.W.Frag} {B : Blk} {S : Store} {H : Hp} {Qd : D → Store → Prop} {Q : VK} {a : Addr} {l l' : List D} {xs' : List V} {d : D} {v : V} (lf : Lift K B S H Qd Q) (rs : RepS K B S H) (e : S a = some (.lst l)) (rl : RepL K B S H l' xs') (rd : RepD K B S H d v)
    (q : Qd d (sput S a (.lst l'))) : Q v (upd H a (.lst xs')) := by
  obtain ⟨g, rs'⟩ := rs.write (o := .lst xs') (c := .lst l') e fun S' H' g e' => ⟨xs', e', RepL.grow g _ _ rl⟩
  exact lf _ _ _ _ g rs' (RepD.grow g _ _ rd) q
def oAppend : OM := fun x ds S Q => ∃ l d, CellL S x l ∧ ds = [d] ∧ l.length < sizeLine ∧ (∀ a, x = .ref a → Q .non (sput S a (.lst (l ++ [d]))))
theorem md_append : MD X "list.append" oAppend := MD.of mt_append fun B S H x ds vx vs Qd Q rs rx rds ⟨l, d, c, e, hz, q⟩ lf => by
  subst e
  obtain ⟨a, xs, rfl, rfl, ea, eh, rl⟩ := cellL_rep rs rx c
  obtain ⟨v, rfl, rd⟩ := repL1 rds
  exact ⟨a, xs, v, rfl, rfl, eh, by rw [← rl.len]; exact hz, cell_set lf rs ea (rl.app (.one rd)) (repD_non.mpr rfl) (q a rfl)⟩
def oPop : OM := fun x ds S Q => ∃ l d, CellL S x l ∧ ds = [] ∧ l[l.length - 1]? = some d ∧ (∀ a, x = .ref a → Q d (sput S a (.lst l.dropLast)))
theorem md_pop : MD X "list.pop" oPop := MD.of mt_pop fun B S H x ds vx vs Qd Q rs rx rds ⟨l, d, c, e, hd, q⟩ lf => by
  subst e
  obtain ⟨a, xs, rfl, rfl, ea, eh, rl⟩ := cellL_rep rs rx c
  obtain ⟨v, hv, rd⟩ := rl.get hd
  rw [repL_nil] at rds
  subst rds
  refine ⟨a, xs, v, rfl, rfl, eh, by rw [← rl.len]; exact hv, ?_⟩
  refine cell_set lf rs ea ?_ rd (q a rfl)
  rw [List.dropLast_eq_take, List.dropLast_eq_take, ← rl.len]
  exact rl.take _
def oPopAt : OM := fun x ds S Q => ∃ l i k d, CellL S x l ∧ ds = [.int i] ∧ (-(2 ^ 63) ≤ i ∧ i < 2 ^ 63) ∧ ixN l.length i = some k ∧ l[k]? = some d ∧ (∀ a, x = .ref a → Q d (sput S a (.lst (l.eraseIdx k))))
theorem md_popAt : MD X "list.pop" oPopAt := MD.of mt_popAt fun B S H x ds vx vs Qd Q rs rx rds ⟨l, i, k, d, c, e, hi, hk, hd, q⟩ lf => by
  subst e
  obtain ⟨a, xs, rfl, rfl, ea, eh, rl⟩ := cellL_rep rs rx c
  obtain ⟨v, hv, rd⟩ := rl.get hd
  obtain ⟨u, rfl, ru⟩ := repL1 rds
  rw [repD_int] at ru
  subst ru
  exact ⟨a, xs, i, k, v, rfl, rfl, eh, hi.1, hi.2, by rw [← rl.len]; exact (ixN_seq hk).1, hv, cell_set lf rs ea (rl.erase k) rd (q a rfl)⟩
def oInsert : OM := fun x ds S Q => ∃ l i d, CellL S x l ∧ ds = [.int i, d] ∧ l.length < sizeLine ∧ 0 ≤ i ∧ i < 2 ^ 63 ∧ (∀ a, x = .ref a → Q .non (sput S a (.lst (l.take i.toNat ++ [d] ++ l.drop i.toNat))))
theorem md_insert : MD X "list.insert" oInsert := MD.of mt_insert fun B S H x ds vx vs Qd Q rs rx rds ⟨l, i, d, c, e, hz, h0, h1, q⟩ lf => by
  subst e
  obtain ⟨a, xs, rfl, rfl, ea, eh, rl⟩ := cellL_rep rs rx c
  obtain ⟨u, v, rfl, ru, rd⟩ := repL2 rds
  rw [repD_int] at ru
  subst ru
  exact ⟨a, xs, i, v, rfl, rfl, eh, by rw [← rl.len]; exact hz, h0, h1, cell_set lf rs ea (((rl.take _).app (.one rd)).app (rl.drop _)) (repD_non.mpr rfl) (q a rfl)⟩
def oReverse : OM := fun x ds S Q => ∃ l, CellL S x l ∧ ds = [] ∧ (∀ a, x = .ref a → Q .non (sput S a (.lst l.reverse)))
theorem md_reverse : MD X "list.reverse" oReverse := MD.of mt_reverse fun B S H x ds vx vs Qd Q rs rx rds ⟨l, c, e, q⟩ lf => by
  subst e
  obtain ⟨a, xs, rfl, rfl, ea, eh, rl⟩ := cellL_rep rs rx c
  rw [repL_nil] at rds
  subst rds
  exact ⟨a, xs, rfl, rfl, eh, cell_set lf rs ea rl.rev (repD_non.mpr rfl) (q a rfl)⟩
theorem de_append {e a : Expr} {t u : WE} {apos cpos : Pos} (ho : DE X e t) (ha : DE X a u)
    (hbase : attributeBase e "append" X.env (eval e X.env) = eval e X.env := by rfl)
    (hfew : ((backTo cpos (starEach [a] X.env)).all (fun x => !x.1) && (backToKw cpos (keywordEach [] X.env)).all (fun x => x.1.isSome) && decide ([a].length + ([] : List Keyword).length + (if ([] : List Keyword).isEmpty then 0 else 1) < 30)) = true := by rfl)
    (hline : (apos.endLine == cpos.line) = true := by rfl) (hs : starEach [a] X.env = (false, eval a X.env) :: starEach [] X.env := by rfl) (hplain : (backTo cpos (starEach [] X.env)).any (·.1) = false := by rfl) :
    DE X (.Call (.Attribute e "append" apos) [a] [] cpos) (wM oAppend t (wCons u wNil)) :=
  de_m PySem.F.slot_list_append PySem.F.type_list_append md_append ho (da_cons ha da_nil hs) hbase hfew hline hs hplain
end
abbrev oSub : O2 := oI0 fun i j => .int (i - j)
abbrev oFdiv : O2 := oI CFd fun i j => .int (i.fdiv j)
abbrev oMod : O2 := oI (fun _ j => j ≠ 0) fun i j => .int (i.fmod j)
abbrev oPow : O2 := oI CPow fun i j => .int (i ^ j.toNat)
abbrev oLt : O2 := oI0 fun i j => .bl (decide (i < j))
abbrev oLe : O2 := oI0 fun i j => .bl (decide (i ≤ j))
abbrev oGt : O2 := oI0 fun i j => .bl (decide (j < i))
abbrev oGe : O2 := oI0 fun i j => .bl (decide (j ≤ i))
/-! ### the built-in names -/
theorem bt_len : bootBuiltins "len" = some (.builtin "len") := by decide +kernel
theorem bt_abs : bootBuiltins "abs" = some (.builtin "abs") := by decide +kernel
theorem bt_max : bootBuiltins "max" = some (.builtin "max") := by decide +kernel
theorem bt_min : bootBuiltins "min" = some (.builtin "min") := by decide +kernel
theorem bt_sum : bootBuiltins "sum" = some (.builtin "sum") := by decide +kernel
theorem bt_all : bootBuiltins "all" = some (.builtin "all") := by decide +kernel
theorem bt_tuple : bootBuiltins "tuple" = some (.type "tuple") := by decide +kernel
theorem bt_list : bootBuiltins "list" = some (.type "list") := by decide +kernel
theorem bt_int : bootBuiltins "int" = some (.type "int") := by decide +kernel
theorem bt_str : bootBuiltins "str" = some (.type "str") := by decide +kernel
theorem bt_bool : bootBuiltins "bool" = some (.type "bool") := by decide +kernel
theorem bt_isi : bootBuiltins "isinstance" = some (.builtin "isinstance") := by decide +kernel
/-- a step of the store: a cell is there -/
theorem CellL.put {S : Store} {p : Addr} {l : List D} : CellL (sput S p (.lst l)) (.ref p) l := sput_same
theorem LC.put {S : Store} {p : Addr} {l : List D} : LC (sput S p (.lst l)) (.ref p) l := sput_same
theorem SC.put {S : Store} {p : Addr} {l : List D} : SC (sput S p (.lst l)) (.ref p) l := sput_same
end ND
set_option Elab.async false
set_option linter.all false
set_option maxRecDepth 100000
/-! ND8: loops by an invariant, data told equal, numbers and fractions as data. -/
namespace ND
open PySem L2
/-- how a def's reading ends -/
abbrev fin (Q : D → Store → Prop) : DEnds := ⟨fun _ S' => ∃ S'', Sub S'' S' ∧ Q .non S'', Q⟩
theorem ite_nf {c A B : Prop} [Decidable c] (h1 : c → A) (h2 : ¬ c → B) : if decide c = true then A else B := by
  by_cases h : c
  · rw [decide_eq_true h]; exact h1 h
  · rw [decide_eq_false h]; exact h2 h
theorem ite_nn {c A B : Prop} [Decidable c] (h1 : ¬ c → A) (h2 : c → B) : if (!decide c) = true then A else B := by
  by_cases h : c
  · rw [decide_eq_true h]; exact h2 h
  · rw [decide_eq_false h]; exact h1 h
theorem ite_b {b : Bool} {A B : Prop} (h1 : b = true → A) (h2 : b = false → B) : if b = true then A else B := by
  cases b with
  | true => exact h1 rfl
  | false => exact h2 rfl
theorem ite_nb {b : Bool} {A B : Prop} (h1 : b = false → A) (h2 : b = true → B) : if (!b) = true then A else B := by
  cases b with
  | true => exact h2 rfl
  | false => exact h1 rfl
/-- the slots at the entry -/
abbrev dst (k : Nat) (ds : List D) : Slots := ds.map some ++ List.replicate (k - ds.length) none
/-! constants of the module -/
theorem glob_int {K : PySem.W.Frag} {mg : Str → Option Value} {x : Str} {i : Int} {t : Tok} (h : mg x = some (.int i t)) : GlobD K mg x (.int i) := ⟨_, .int i, h, ⟨_, rfl⟩, fun _ _ _ => repD_int.mpr rfl⟩
theorem glob_str {K : PySem.W.Frag} {mg : Str → Option Value} {x : Str} {i : Str} {t : Tok} (h : mg x = some (.str i t)) : GlobD K mg x (.str i) := ⟨_, .str i, h, ⟨_, rfl⟩, fun _ _ _ => repD_str.mpr rfl⟩
/-- ints told by their values -/
def intsOf : List Value → Option (List Int)
  | [] => some []
  | .int i _ :: r => (intsOf r).map (i :: ·)
  | _ => none
theorem intsOf_vals : ∀ {us : List Value} {ns : List Int}, intsOf us = some ns → Vals (ns.map V.int) us
  | [], ns, h => by cases h; exact .nil
  | .int i t :: r, ns, h => by
    unfold intsOf at h
    cases e : intsOf r with
    | none => rw [e] at h; cases h
    | some m =>
      rw [e] at h
      cases h
      exact .cons ⟨t, rfl⟩ (intsOf_vals e)
theorem glob_tup {K : PySem.W.Frag} {mg : Str → Option Value} {x : Str} {a : Addr} {o : Option Addr} {its : Array Value} {n : Nat} {sl : Array (Option Value)} {ns : List Int} (h : mg x = some (.ref a)) (l : K.lookup a = some ⟨.type "tuple", o, .seq its n, sl⟩)
    (hi : intsOf its.toList = some ns) (hs : its.size ≤ sizeLine) : GlobD K mg x (.tup (ns.map D.int)) :=
  ⟨_, .ref a, h, rfl, fun _ _ _ => repD_tup.mpr ⟨a, _, rfl, .inr ⟨_, its, n, l, rfl, rfl, hs, intsOf_vals hi⟩, repL_ints⟩⟩
/-- a for, by what holds ahead of each turn -/
theorem for_inv {wt : Store → Prop} {g : WG} {b : WS} {items : List D} {E : DEnds} {env : Slots} {S : Store} (I : Nat → Slots → Store → Prop) (h0 : I 0 env S)
    (step : ∀ i x env S (K : Slots → Store → Prop), items[i]? = some x → I i env S → (∀ env2 S2, I (i + 1) env2 S2 → K env2 S2) → wt S ∧ g x env S fun env1 S1 => b ⟨K, E.rt⟩ env1 S1)
    (done : ∀ env S, I items.length env S → wt S ∧ E.nx env S) : forW wt g b items E env S := by
  have go : ∀ (rest pre : List D), items = pre ++ rest → ∀ env S, I pre.length env S → forW wt g b rest E env S := by
    intro rest
    induction rest with
    | nil =>
      intro pre e env S hI
      rw [List.append_nil] at e
      subst e
      exact done env S hI
    | cons x r ih =>
      intro pre e env S hI
      have hx : items[pre.length]? = some x := by rw [e]; simp
      exact step pre.length x env S _ hx hI fun env2 S2 h2 => ih (pre ++ [x]) (by rw [e]; simp) env2 S2 (by rw [List.length_append]; exact h2)
  exact go items [] rfl env S h0
/-- the items of a comprehension, one after another: I i out S ahead of the i-th -/
theorem lc_inv {wt : Store → Prop} {g : WG} {tt : WT} {te : WE} {env : Slots} {items : List D} {S : Store} {Q : List D → Store → Prop} (I : Nat → List D → Store → Prop) (h0 : I 0 [] S)
    (step : ∀ i x acc S (K1 : D → Store → Prop) (K2 : Store → Prop), items[i]? = some x → I i acc S → (∀ d S', I (i + 1) (acc ++ [d]) S' → K1 d S') → (∀ S', I (i + 1) acc S' → K2 S') →
      wt S ∧ g x env S fun env1 S1 => tt env1 S1 fun b S2 => if b = true then te env1 S2 K1 else K2 S2)
    (done : ∀ acc S, I items.length acc S → wt S ∧ Q acc S) : lcW wt g tt te env items [] S Q := by
  have go : ∀ (rest pre acc : List D) S, items = pre ++ rest → I pre.length acc S → lcW wt g tt te env rest acc S Q := by
    intro rest
    induction rest with
    | nil =>
      intro pre acc S e hI
      rw [List.append_nil] at e
      subst e
      exact done acc S hI
    | cons x r ih =>
      intro pre acc S e hI
      have hx : items[pre.length]? = some x := by rw [e]; simp
      have e2 : items = (pre ++ [x]) ++ r := by rw [e]; simp
      exact step pre.length x acc S _ _ hx hI (fun d S' h => ih (pre ++ [x]) (acc ++ [d]) S' e2 (by rw [List.length_append]; exact h)) fun S' h => ih (pre ++ [x]) acc S' e2 (by rw [List.length_append]; exact h)
  exact go items [] [] S rfl h0
/-- .. without a test: each item is turned into one, nothing else happens -/
theorem lc_map {g : WG} {te : WE} {env : Slots} {items : List D} {S : Store} {Q : List D → Store → Prop} (f : Nat → D → D)
    (step : ∀ i x (K : D → Store → Prop), items[i]? = some x → K (f i x) S → g x env S fun env1 S1 => te env1 S1 K) (done : Q (items.mapIdx f) S) : lcW (fun _ => True) g wYes te env items [] S Q := by
  refine lc_inv (fun i acc S' => S' = S ∧ acc = (items.take i).mapIdx f) ⟨rfl, by simp⟩ ?_ ?_
  · rintro i x acc S' K1 K2 hx ⟨rfl, rfl⟩ k1 k2
    refine ⟨trivial, step i x K1 hx (k1 _ _ ⟨rfl, ?_⟩)⟩
    have hi : i < items.length := (List.getElem?_eq_some_iff.mp hx).1
    rw [List.take_add_one, hx, List.mapIdx_append]
    simp [Nat.min_eq_left (Nat.le_of_lt hi)]
  · rintro acc S' ⟨rfl, rfl⟩
    rw [List.take_length]
    exact ⟨trivial, done⟩
/-! ### data told equal -/
mutual
def pureD : D → Bool
  | .non => true
  | .int _ => true
  | .str x => PyData.strOk x
  | .tup l => pureDs l
  | .lst l => pureDs l
  | _ => false
def pureDs : List D → Bool
  | [] => true
  | d :: l => pureD d && pureDs l
def deepD : D → Nat
  | .tup l => deepDs l + 1
  | .lst l => deepDs l + 1
  | _ => 0
def deepDs : List D → Nat
  | [] => 0
  | d :: l => max (deepD d) (deepDs l)
end
mutual
theorem pure_noRef : ∀ d : D, pureD d = true → noRef d = true ∧ (toP d).canLay0 = true ∧ (toP d).depth = deepD d
  | .non, _ => ⟨rfl, rfl, rfl⟩
  | .int _, _ => ⟨rfl, rfl, rfl⟩
  | .str x, h => ⟨rfl, by unfold pureD at h; simpa [toP, PyData.canLay0] using h, by simp [toP, PyData.depth, deepD]⟩
  | .tup l, h => by
    unfold pureD at h
    obtain ⟨a, b, c⟩ := pures_noRef l h
    exact ⟨by unfold noRef; exact a, by unfold toP PyData.canLay0; exact b, by unfold toP PyData.depth deepD; rw [c]⟩
  | .lst l, h => by
    unfold pureD at h
    obtain ⟨a, b, c⟩ := pures_noRef l h
    exact ⟨by unfold noRef; exact a, by unfold toP PyData.canLay0; exact b, by unfold toP PyData.depth deepD; rw [c]⟩
  | .bl _, h => by unfold pureD at h; cases h
  | .ref _, h => by unfold pureD at h; cases h
  | .kls _, h => by unfold pureD at h; cases h
  | .fn _, h => by unfold pureD at h; cases h
theorem pures_noRef : ∀ l : List D, pureDs l = true → noRefs l = true ∧ PyData.canLayAll0 (toPs l) = true ∧ PyData.depthAll (toPs l) = deepDs l
  | [], _ => ⟨rfl, rfl, rfl⟩
  | d :: l, h => by
    unfold pureDs at h
    rw [Bool.and_eq_true] at h
    obtain ⟨a, b, c⟩ := pure_noRef d h.1
    obtain ⟨a', b', c'⟩ := pures_noRef l h.2
    refine ⟨by unfold noRefs; rw [a, a']; rfl, by unfold toPs PyData.canLayAll0; rw [b, b']; rfl, by unfold toPs PyData.depthAll deepDs; rw [c, c']⟩
end
theorem okP_of {d : D} (h : pureD d = true) (hd : deepD d ≤ 64) : okP d := by
  obtain ⟨a, b, c⟩ := pure_noRef d h
  refine ⟨a, ?_⟩
  unfold SeqAt.shaped
  rw [b, c, decide_eq_true hd]
  rfl
mutual
theorem deq_pure : ∀ x y : D, pureD x = true → pureD y = true → (deq x y = true ↔ x = y)
  | .non, y, _, hy => by cases y <;> first | (simp [deq, toP, PyData.eqv]; done) | (simp [pureD] at hy)
  | .int i, y, _, hy => by cases y <;> first | (simp [deq, toP, PyData.eqv]; done) | (simp [pureD] at hy)
  | .str s, y, _, hy => by cases y <;> first | (simp [deq, toP, PyData.eqv]; done) | (simp [pureD] at hy)
  | .tup l, y, hx, hy => by
    cases y with
    | tup m =>
      unfold pureD at hx hy
      have := deqs_pure l m hx hy
      simpa [deq, toP, PyData.eqv] using this
    | non => simp [deq, toP, PyData.eqv]
    | int _ => simp [deq, toP, PyData.eqv]
    | str _ => simp [deq, toP, PyData.eqv]
    | lst _ => simp [deq, toP, PyData.eqv]
    | bl _ => simp [pureD] at hy
    | ref _ => simp [pureD] at hy
    | kls _ => simp [pureD] at hy
    | fn _ => simp [pureD] at hy
  | .lst l, y, hx, hy => by
    cases y with
    | lst m =>
      unfold pureD at hx hy
      have := deqs_pure l m hx hy
      simpa [deq, toP, PyData.eqv] using this
    | non => simp [deq, toP, PyData.eqv]
    | int _ => simp [deq, toP, PyData.eqv]
    | str _ => simp [deq, toP, PyData.eqv]
    | tup _ => simp [deq, toP, PyData.eqv]
    | bl _ => simp [pureD] at hy
    | ref _ => simp [pureD] at hy
    | kls _ => simp [pureD] at hy
    | fn _ => simp [pureD] at hy
  | .bl _, _, hx, _ => by simp [pureD] at hx
  | .ref _, _, hx, _ => by simp [pureD] at hx
  | .kls _, _, hx, _ => by simp [pureD] at hx
  | .fn _, _, hx, _ => by simp [pureD] at hx
theorem deqs_pure : ∀ x y : List D, pureDs x = true → pureDs y = true → (PyData.eqvAll (toPs x) (toPs y) = true ↔ x = y)
  | [], [], _, _ => by simp [toPs, PyData.eqvAll]
  | [], _ :: _, _, _ => by simp [toPs, PyData.eqvAll]
  | _ :: _, [], _, _ => by simp [toPs, PyData.eqvAll]
  | a :: x, b :: y, hx, hy => by
    unfold pureDs at hx hy
    rw [Bool.and_eq_true] at hx hy
    have h1 := deq_pure a b hx.1 hy.1
    have h2 := deqs_pure x y hx.2 hy.2
    unfold deq at h1
    simp [toPs, PyData.eqvAll, h1, h2]
end
/-- == where both sides are plain data -/
theorem eq_pure {neg : Bool} {x y : D} {S : Store} {Q : D → Store → Prop} (hx : pureD x = true) (hy : pureD y = true) (dx : deepD x ≤ 64) (dy : deepD y ≤ 64) (h : ∀ b : Bool, (b = true ↔ x = y) → Q (.bl (nb neg b)) S) : oEqB neg x y S Q := by
  have gen : seen S x x → seen S y y → ∃ x' y', seen S x x' ∧ seen S y y' ∧ okP x' ∧ okP y' ∧ Q (.bl (nb neg (deq x' y'))) S := fun s1 s2 => ⟨x, y, s1, s2, okP_of hx dx, okP_of hy dy, h _ (deq_pure x y hx hy)⟩
  have sn : ∀ d : D, pureD d = true → seen S d d := fun d hd => by
    cases d with
    | ref a => simp [pureD] at hd
    | _ => rfl
  cases x with
  | int i =>
    cases y with
    | int j => exact h _ (by rw [decide_eq_true_iff]; exact ⟨fun e => by rw [e], fun e => by injection e⟩)
    | _ => exact gen (sn _ hx) (sn _ hy)
  | _ => exact gen (sn _ hx) (sn _ hy)
/-! ### menus -/
theorem atI_int {ns : List Int} {r : Int} (h0 : 0 ≤ r) (h1 : r < ns.length) : ∃ s, s ∈ ns ∧ atI (ns.map D.int) r = some (.int s) := by
  have hn : r.toNat < ns.length := by omega
  refine ⟨ns[r.toNat], List.getElem_mem hn, ?_⟩
  have e := atI_nat (xs := ns.map D.int) (j := r.toNat) (v := .int ns[r.toNat]) (by simp [hn])
  rwa [show ((r.toNat : Nat) : Int) = r by omega] at e
/-! ### sizes -/
theorem mulOk {i j : Int} {a b : Nat} (ha : i.natAbs < 2 ^ a) (hb : j.natAbs < 2 ^ b) (h0 : 0 < a := by decide) (h1 : 0 < b := by decide) (h : a + b ≤ 1000000 := by decide) : CMulW i j := wide_mul ha hb h0 h1 h
theorem cfd_of {i j : Int} {b : Nat} (h : j ≠ 0) (_ : j.natAbs < 2 ^ b) (_ : 0 < b := by decide) (_ : b ≤ 300000 := by decide) : CFd i j := h
theorem fmod_bds {x n : Int} (hn : 0 < n) : 0 ≤ x.fmod n ∧ x.fmod n < n := by
  rw [Int.fmod_eq_emod_of_nonneg _ (by omega)]
  exact ⟨Int.emod_nonneg _ (by omega), Int.emod_lt_of_pos _ hn⟩
end ND
set_option Elab.async false
set_option linter.all false
set_option maxRecDepth 100000
/-! ND9: ranges with a step, join, x in a sequence, max and min of a list, comparisons in a row. -/
namespace ND
open PySem PySem.Spec PyProof.Rows L2
def rngC (lo c : Int) (n : Nat) : List D := (List.range n).map fun k => D.int (lo + (k : Nat) * c)
theorem rngC_at {lo c : Int} {n i : Nat} (h : i < n) : (rngC lo c n)[i]? = some (.int (lo + (i : Nat) * c)) := by unfold rngC; simp [h]
theorem rngC_len {lo c : Int} {n : Nat} : (rngC lo c n).length = n := by unfold rngC; simp
theorem src_rngC {K : PySem.W.Frag} {B : Blk} {S0 : Store} {H0 : Hp} {lo c : Int} {n : Nat} : Src K B S0 H0 (Itc lo c n) (rngC lo c n) (fun _ => True) :=
  fun B' S H h1 h2 g rs w i => by
    rw [rngC_len]
    refine ⟨fun h => ⟨h, ?_⟩, fun h => h⟩
    rintro x H' ⟨rfl, rfl⟩
    exact ⟨.refl, rs, _, rngC_at h, repD_int.mpr rfl⟩
def wRng3 (t : WA) : WI := fun env S R => t env S fun ds S1 => match ds with
  | [.int i, .int j, .int c] => ∃ n, RgC i j c n ∧ R (rngC i c n) (fun _ => True) S1
  | _ => False
theorem rng3_get {ds : List D} {S : Store} {R : List D → (Store → Prop) → Store → Prop} (h : match ds with
  | [.int i, .int j, .int c] => ∃ n, RgC i j c n ∧ R (rngC i c n) (fun _ => True) S
  | _ => False) : ∃ i j c n, ds = [.int i, .int j, .int c] ∧ RgC i j c n ∧ R (rngC i c n) (fun _ => True) S := by
  match ds, h with
  | [.int i, .int j, .int c], ⟨n, h1, h2⟩ => exact ⟨i, j, c, n, rfl, h1, h2⟩
section
variable {X : Cx}
theorem di_rng3 {tg a b c : Expr} {t : WA} {p pos : Pos} (hg : Gl X "range") (hm : X.mg "range" = none) (ha : DA X [a, b, c] t)
    (hs : starEach [a, b, c] X.env = (false, eval a X.env) :: starEach [b, c] X.env := by rfl) (hpl : (backTo pos (starEach [b, c] X.env)).any (·.1) = false := by rfl) : DI X tg (.Call (.Name "range" p) [a, b, c] [] pos) (wRng3 t) :=
  PI.mono (pi_range3 hg hm ha hs hpl) fun σ H R ⟨B, env, S, Ri, re, rs, q, l⟩ => ⟨B, env, S, _, re, rs, q, fun S1 H1 ds vs g1 rs1 rds q1 => by
    obtain ⟨i, j, k, n, rfl, hc, q⟩ := rng3_get q1
    obtain ⟨v1, r1, rfl, e1, rds⟩ := repL_cons.mp rds
    obtain ⟨v2, v3, rfl, e2, e3⟩ := repL2 rds
    rw [repD_int] at e1 e2 e3
    subst e1 e2 e3
    exact ⟨i, j, k, n, rfl, hc, l S1 H1 _ _ _ g1 rs1 src_rngC q⟩⟩
/-- sep.join(texts) -/
def wJoin (t u : WE) : WE := fun env S Q => t env S fun x S1 => (∃ a, x = .str a) ∧ u env S1 fun y S2 => ∃ (a : Str) (ys : List Str), x = .str a ∧ SC S2 y (ys.map D.str) ∧ (ys.map (·.length)).sum + ys.length * a.length ≤ 16777216 ∧ Q (.str (Txt.join a ys)) S2
theorem de_join {o e : Expr} {t u : WE} {apos pos : Pos} (ho : DE X o t) (he : DE X e u) (hs : starEach [e] X.env = [(false, eval e X.env)] := by rfl) (hbase : attributeBase o "join" X.env (eval o X.env) = eval o X.env := by rfl) (hline : (apos.endLine == pos.line) = true := by rfl) :
    DE X (.Call (.Attribute o "join" apos) [e] [] pos) (wJoin t u) :=
  PE.mono (pe_join ho he hs hbase hline) fun σ H Q ⟨B, env, S, Qd, re, rs, q, l⟩ => ⟨B, env, S, _, re, rs, q, fun S1 H1 x vx g1 rs1 rx ⟨⟨a, e⟩, q1⟩ => by
    subst e
    rw [repD_str] at rx
    subst rx
    refine ⟨⟨a, rfl⟩, B, env, S1, _, re.grow g1, rs1, q1, fun S2 H2 y vy g2 rs2 ry ⟨b, ys, e, c, hz, q2⟩ => ?_⟩
    cases e
    obtain ⟨p, xs, rfl, hq, rl⟩ := sc_seq rs2 ry c
    obtain rfl := rl.strs'
    exact ⟨_, p, ys, rfl, rfl, hq, hz, l S2 H2 _ _ (g1.trans g2) rs2 (repD_str.mpr rfl) q2⟩⟩
/-! ### in -/
def flatD : D → Bool
  | .non => true
  | .bl _ => true
  | .int _ => true
  | .str _ => true
  | _ => false
def flatTo : D → V
  | .bl b => .bl b
  | .int i => .int i
  | .str s => .str s
  | _ => .non
def inDs (x : D) (l : List D) : Bool := l.any fun y => eqV (flatTo y) (flatTo x)
theorem flat_rep {K : PySem.W.Frag} {B : Blk} {S : Store} {H : Hp} {d : D} {v : V} (f : flatD d = true) (r : RepD K B S H d v) : v = flatTo d ∧ flatV v = true := by
  cases d with
  | non => rw [repD_non] at r; subst r; exact ⟨rfl, rfl⟩
  | bl b => rw [repD_bl] at r; subst r; exact ⟨rfl, rfl⟩
  | int b => rw [repD_int] at r; subst r; exact ⟨rfl, rfl⟩
  | str b => rw [repD_str] at r; subst r; exact ⟨rfl, rfl⟩
  | _ => cases f
theorem flats_rep {K : PySem.W.Frag} {B : Blk} {S : Store} {H : Hp} : ∀ {l : List D} {xs : List V}, l.all flatD = true → RepL K B S H l xs → xs = l.map flatTo ∧ xs.all flatV = true
  | [], xs, _, r => by rw [repL_nil] at r; subst r; exact ⟨rfl, rfl⟩
  | d :: l, xs, f, r => by
    obtain ⟨v, r', rfl, h1, h2⟩ := repL_cons.mp r
    rw [List.all_cons, Bool.and_eq_true] at f
    obtain ⟨e1, f1⟩ := flat_rep f.1 h1
    obtain ⟨e2, f2⟩ := flats_rep f.2 h2
    refine ⟨by rw [e1, e2]; rfl, ?_⟩
    rw [List.all_cons, f1, f2]
    rfl
def oInL (neg : Bool) : O2 := fun x y S Q => flatD x = true ∧ ∃ l, SC S y l ∧ l.all flatD = true ∧ Q (.bl (nb neg (inDs x l))) S
def oIn (neg : Bool) : O2 := fun x y S Q => match y with
  | .str z => (match x with | .str a => Q (.bl (nb neg (!(Builtin.Str.occurrences z a 0 z.length 1).isEmpty))) S | _ => False)
  | y => oInL neg x y S Q
theorem inL_rep {K : PySem.W.Frag} {neg : Bool} {B : Blk} {S : Store} {H : Hp} {x y : D} {vx vy : V} {Qd : D → Store → Prop} {Q : VK} (rs : RepS K B S H) (rx : RepD K B S H x vx) (ry : RepD K B S H y vy) (q : oInL neg x y S Qd) (l : Lift K B S H Qd Q) : rIn K neg vx vy H Q := by
  obtain ⟨fx, m, c, fm, q⟩ := q
  obtain ⟨p, xs, rfl, hq, rl⟩ := sc_seq rs ry c
  obtain ⟨e1, f1⟩ := flat_rep fx rx
  obtain ⟨e2, f2⟩ := flats_rep fm rl
  refine ⟨p, xs, rfl, hq, f1, f2, l S H _ _ .refl rs (repD_bl.mpr ?_) q⟩
  subst e1 e2
  have e : inV (flatTo x) (m.map flatTo) = inDs x m := by unfold inV inDs; rw [List.any_map]; rfl
  rw [e]
  cases neg <;> rfl
theorem od_in : OD X (compareOp .In) (oIn false) := OD.of (op_in_str.or op_in_seq) fun B S H x y vx vy Qd Q rs rx ry q l => by
  cases y with
  | str z =>
    cases x with
    | str a => rw [repD_str] at rx ry; exact .inl ⟨a, z, rx, ry, l S H _ _ .refl rs (repD_bl.mpr rfl) q⟩
    | _ => exact False.elim q
  | _ => exact .inr (inL_rep rs rx ry q l)
theorem od_notin : OD X (compareOp .NotIn) (oIn true) := OD.of (op_notin_str.or op_notIn_seq) fun B S H x y vx vy Qd Q rs rx ry q l => by
  cases y with
  | str z =>
    cases x with
    | str a => rw [repD_str] at rx ry; exact .inl ⟨a, z, rx, ry, l S H _ _ .refl rs (repD_bl.mpr rfl) q⟩
    | _ => exact False.elim q
  | _ => exact .inr (inL_rep rs rx ry q l)
theorem in_strs {x : Str} {ns : List Str} : inDs (.str x) (ns.map D.str) = decide (x ∈ ns) := by
  unfold inDs
  rw [List.any_map]
  rw [Bool.eq_iff_iff]
  simp only [List.any_eq_true, decide_eq_true_eq, Function.comp]
  constructor
  · rintro ⟨y, hy, e⟩
    have e : (y == x) = true := e
    rw [beq_iff_eq] at e
    subst e
    exact hy
  · intro h
    exact ⟨x, h, show (x == x) = true by rw [beq_iff_eq]⟩
theorem in_ints {x : Int} {ns : List Int} : inDs (.int x) (ns.map D.int) = decide (x ∈ ns) := by
  unfold inDs
  rw [List.any_map]
  rw [Bool.eq_iff_iff]
  simp only [List.any_eq_true, decide_eq_true_eq, Function.comp]
  constructor
  · rintro ⟨y, hy, e⟩
    have e : (y == x) = true := e
    rw [beq_iff_eq] at e
    subst e
    exact hy
  · intro h
    exact ⟨x, h, show (x == x) = true by rw [beq_iff_eq]⟩
/-- strings, ints in a sequence -/
theorem str_in {neg : Bool} {x : Str} {y : D} {ns : List Str} {S : Store} {Q : D → Store → Prop} (c : SC S y (ns.map D.str)) (q : Q (.bl (nb neg (decide (x ∈ ns)))) S) : oIn neg (.str x) y S Q := by
  rw [← in_strs] at q
  have h : oInL neg (.str x) y S Q := ⟨rfl, _, c, by simp [flatD], q⟩
  cases y with
  | str z => exact False.elim c
  | _ => exact h
theorem int_in {neg : Bool} {x : Int} {y : D} {ns : List Int} {S : Store} {Q : D → Store → Prop} (c : SC S y (ns.map D.int)) (q : Q (.bl (nb neg (decide (x ∈ ns)))) S) : oIn neg (.int x) y S Q := by
  rw [← in_ints] at q
  have h : oInL neg (.int x) y S Q := ⟨rfl, _, c, by simp [flatD], q⟩
  cases y with
  | str z => exact False.elim c
  | _ => exact h
/-! ### max, min of a list -/
def oMaxL : On := o1 fun x S Q => ∃ ns : List Int, LC S x (ns.map D.int) ∧ 0 < ns.length ∧ ∀ m, m ∈ ns → (∀ y, y ∈ ns → y ≤ m) → Q (.int m) S
def oMinL : On := o1 fun x S Q => ∃ ns : List Int, LC S x (ns.map D.int) ∧ 0 < ns.length ∧ ∀ m, m ∈ ns → (∀ y, y ∈ ns → m ≤ y) → Q (.int m) S
theorem o1_get {o : O1} {ds : List D} {S : Store} {Q : D → Store → Prop} (h : o1 o ds S Q) : ∃ x, ds = [x] ∧ o x S Q := by
  match ds, h with
  | [x], h => exact ⟨x, rfl, h⟩
theorem cd_maxL (hc : X.calm = true) : CD X (.builtin "max") oMaxL := CD.of (cr_max hc) fun B S H ds vs Qd Q rs r q l => by
  obtain ⟨x, rfl, ns, c, h0, q⟩ := o1_get q
  obtain ⟨v, rfl, rx⟩ := repL1 r
  obtain ⟨a, xs, rfl, h, rl⟩ := lc_seq rs rx c
  obtain rfl := rl.ints
  exact ⟨a, ns, rfl, .inl h, h0, fun m h1 h2 => l S H _ _ .refl rs (repD_int.mpr rfl) (q m h1 h2)⟩
theorem cd_minL (hc : X.calm = true) : CD X (.builtin "min") oMinL := CD.of (cr_min hc) fun B S H ds vs Qd Q rs r q l => by
  obtain ⟨x, rfl, ns, c, h0, q⟩ := o1_get q
  obtain ⟨v, rfl, rx⟩ := repL1 r
  obtain ⟨a, xs, rfl, h, rl⟩ := lc_seq rs rx c
  obtain rfl := rl.ints
  exact ⟨a, ns, rfl, .inl h, h0, fun m h1 h2 => l S H _ _ .refl rs (repD_int.mpr rfl) (q m h1 h2)⟩
/-! ### a op b op c -/
def wChain (o o' : O2) (ta tb tc : WE) : WE := fun env S Q => ta env S fun x S1 => tb env S1 fun y S2 => o x y S2 fun z S3 => match z with
  | .bl k => if k = true then tc env S3 fun w S4 => o' y w S4 Q else Q (.bl false) S3
  | _ => False
theorem chain_of {o o' : O2} {ta tb tc : WE} {σ : L2.St} {H : Hp} {Q : VK} (h : tD X.K (wChain o o' ta tb tc) σ H Q) : tChain (rD X.K o) (rD X.K o') (tD X.K ta) (tD X.K tb) (tD X.K tc) σ H Q :=
  (show ∀ σ H Q, tD X.K (wChain o o' ta tb tc) σ H Q → tChain (rD X.K o) (rD X.K o') (tD X.K ta) (tD X.K tb) (tD X.K tc) σ H Q from fun σ H Q ⟨B, env, S, Qd, re, rs, q, l⟩ => ⟨B, env, S, _, re, rs, q, fun S1 H1 x vx g1 rs1 rx q1 => ⟨B, env, S1, _, re.grow g1, rs1, q1, fun S2 H2 y vy g2 rs2 ry q2 =>
    ⟨B, S2, x, y, _, rs2, RepD.grow g2 _ _ rx, ry, q2, fun S3 H3 z vz g3 rs3 rz q3 => by
      cases z with
      | bl k =>
        rw [repD_bl] at rz
        refine ⟨k, rz, ?_⟩
        cases k with
        | true =>
          change (if true = true then _ else _) at q3
          rw [if_pos rfl] at q3 ⊢
          exact ⟨B, env, S3, _, (re.grow (g1.trans (g2.trans g3))), rs3, q3, fun S4 H4 w vw g4 rs4 rw' q4 => ⟨B, S4, y, w, Qd, rs4, RepD.grow (g3.trans g4) _ _ ry, rw', q4, l.grow (g1.trans (g2.trans (g3.trans g4)))⟩⟩
        | false =>
          change (if false = true then _ else _) at q3
          rw [if_neg Bool.false_ne_true] at q3 ⊢
          exact l S3 H3 _ _ (g1.trans (g2.trans g3)) rs3 (repD_bl.mpr rfl) q3
      | _ => exact False.elim q3⟩⟩⟩) σ H Q h
theorem de_chain {op op' : CmpOp} {o o' : O2} {a b c : Expr} {pos : Pos} {ta tb tc : WE} (ho : OD X (compareOp op) o) (ho' : OD X (compareOp op') o') (ha : DE X a ta) (hb : DE X b tb) (hc : DE X c tc)
    (hm : lastMarks [op, op'] [b, c] = false := by with_unfolding_all rfl) : DE X (.Compare a [op, op'] [b, c] pos) (wChain o o' ta tb tc) :=
  PE.mono (pe_chain ho ho' ha hb hc hm) fun σ H Q h => chain_of h
theorem dt_chain {op op' : CmpOp} {o o' : O2} {a b c : Expr} {pos : Pos} {ta tb tc : WE} (ho : OD X (compareOp op) o) (ho' : OD X (compareOp op') o') (ha : DE X a ta) (hb : DE X b tb) (hc : DE X c tc)
    (hm : lastMarks [op, op'] [b, c] = false := by with_unfolding_all rfl) : DT X (.Compare a [op, op'] [b, c] pos) (wTst (wChain o o' ta tb tc)) :=
  PT.mono (pt_chain ho ho' ha hb hc hm) fun σ H Q q => chain_of (tst_of q)
/-- what is never reached -/
def wNever : WS := fun _ _ _ => False
theorem ds_never {st : Stmt} : DS X st wNever := PS.mono ps_never fun D σ H h => by
  obtain ⟨_, _, _, _, _, _, q, _⟩ := h
  exact q
end
/-- a seam: what holds behind the first part -/
theorem wSeq_cut {a b : WS} {E : DEnds} {env : Slots} {S : Store} (P : Slots → Store → Prop) (h2 : ∀ env' S', P env' S' → b E env' S') (h1 : ∀ nx : Slots → Store → Prop, (∀ env' S', P env' S' → nx env' S') → a ⟨nx, E.rt⟩ env S) : wSeq a b E env S := h1 _ h2
theorem cut_to {l : List D} {k : Nat} : cutD l none (some (k : Int)) = l.take k := by
  unfold cutD
  simp [HT.sIx]
  rw [if_neg (by omega)]
  omega
end ND
set_option Elab.async false
set_option linter.all false
set_option maxRecDepth 100000
/-! NDC: objects of own classes: fields, methods, making. -/
namespace ND
open PySem PySem.Spec PyProof.Rows L2
def putD (f : Str) (d : D) : List (Str × D) → List (Str × D)
  | [] => [(f, d)]
  | (g, x) :: r => if g = f then (g, d) :: r else (g, x) :: putD f d r
section
variable {K : PySem.W.Frag} {B : Blk} {S : Store} {H : Hp}
theorem repF_get {f : Str} : ∀ {fs : List (Str × D)} {gs : List (Str × V)} {d : D}, RepF K B S H fs gs → fs.lookup f = some d → ∃ v, gs.lookup f = some v ∧ RepD K B S H d v
  | [], _, _, _, h => by cases h
  | (a, x) :: fs, gs, d, r, h => by
    cases r with
    | cons h1 h2 =>
      next q ys =>
      obtain ⟨b, y⟩ := q
      obtain ⟨e, rd⟩ := h1
      cases e
      rw [List.lookup_cons] at h ⊢
      by_cases hb : f == a
      · rw [hb] at h ⊢
        cases h
        exact ⟨y, rfl, rd⟩
      · rw [Bool.eq_false_iff.mpr hb] at h ⊢
        exact repF_get h2 h
theorem repF_none {f : Str} : ∀ {fs : List (Str × D)} {gs : List (Str × V)}, RepF K B S H fs gs → fs.lookup f = none → gs.lookup f = none
  | [], _, r, _ => by cases r; rfl
  | (a, x) :: fs, gs, r, h => by
    cases r with
    | cons h1 h2 =>
      next q ys =>
      obtain ⟨b, y⟩ := q
      obtain ⟨e, rd⟩ := h1
      cases e
      rw [List.lookup_cons] at h ⊢
      by_cases hb : f == a
      · rw [hb] at h
        cases h
      · rw [Bool.eq_false_iff.mpr hb] at h ⊢
        exact repF_none h2 h
theorem repF_len : ∀ {fs : List (Str × D)} {gs : List (Str × V)}, RepF K B S H fs gs → fs.length = gs.length
  | [], _, r => by cases r; rfl
  | _ :: fs, gs, r => by
    cases r with
    | cons h1 h2 => rw [List.length_cons, List.length_cons, repF_len h2]
theorem repF_put {f : Str} {d : D} {v : V} (rd : RepD K B S H d v) : ∀ {fs : List (Str × D)} {gs : List (Str × V)}, RepF K B S H fs gs → RepF K B S H (putD f d fs) (putF f v gs)
  | [], _, r => by cases r; exact .cons ⟨rfl, rd⟩ .nil
  | (a, x) :: fs, gs, r => by
    cases r with
    | cons h1 h2 =>
      next q ys =>
      obtain ⟨b, y⟩ := q
      obtain ⟨e, rx⟩ := h1
      cases e
      unfold putD putF
      by_cases hf : a = f
      · rw [if_pos hf, if_pos hf]; exact .cons ⟨rfl, rd⟩ h2
      · rw [if_neg hf, if_neg hf]; exact .cons ⟨rfl, rx⟩ (repF_put rd h2)
theorem RepF.grow' {S' : Store} {H' : Hp} (g : Grow S H S' H') : ∀ {fs : List (Str × D)} {gs : List (Str × V)}, RepF K B S H fs gs → RepF K B S' H' fs gs
  | [], _, r => by cases r; exact .nil
  | _ :: fs, gs, r => by
    cases r with
    | cons h1 h2 => exact .cons ⟨h1.1, RepD.grow g _ _ h1.2⟩ (RepF.grow' g h2)
end
section
variable {X : Cx}
/-- an object's field -/
def wFld (C : Addr) (f : Str) (t : WE) : WE := fun env S Q => t env S fun x S1 => ∃ a fs d, x = .ref a ∧ S1 a = some (.ins C fs) ∧ fs.lookup f = some d ∧ Q d S1
theorem ins_at {K : PySem.W.Frag} {B : Blk} {S : Store} {H : Hp} {a C : Addr} {fs : List (Str × D)} (rs : RepS K B S H) (e : S a = some (.ins C fs)) : ∃ dx gs, H a = some (.ins C dx gs) ∧ RepF K B S H fs gs := rs.cell a _ e
theorem de_fld {C : Addr} {f : Str} {e : Expr} {t : WE} {pos : Pos} (c : Cls X.K C) (n : NoAttr X.K C f) (he : DE X e t) (hb : attributeBase e f X.env (eval e X.env) = eval e X.env := by rfl) : DE X (.Attribute e f pos) (wFld C f t) :=
  PE.mono (pe_fld he hb) fun σ H Q ⟨B, env, S, Qd, re, rs, q, l⟩ => ⟨B, env, S, _, re, rs, q, fun S1 H1 x vx g1 rs1 rx ⟨a, fs, d, ex, ea, ef, q1⟩ => by
    subst ex
    rw [repD_ref] at rx
    obtain ⟨dx, gs, eh, rf⟩ := ins_at rs1 ea
    obtain ⟨v, ev, rd⟩ := repF_get rf ef
    exact ⟨a, C, dx, gs, v, rx, eh, c, n, ev, l S1 H1 d v g1 rs1 rd q1⟩⟩
/-- object.field = value -/
def wSetF (C : Addr) (f : Str) (to tv : WE) : WS := fun E env S => tv env S fun y S1 => to env S1 fun x S2 => ∃ a fs, x = .ref a ∧ S2 a = some (.ins C fs) ∧ fs.length < 1000 ∧ E.nx env (sput S2 a (.ins C (putD f y fs)))
theorem ds_fld {C : Addr} {f : Str} {o value : Expr} {to tv : WE} {pos pos' : Pos} (c : Cls X.K C) (n : NoAttr X.K C f) (ho : DE X o to) (hv : DE X value tv) (hs : swapsWith value (some (.Attribute o f pos')) pos.line X.env = pure false := by rfl) :
    DS X (.Assign [.Attribute o f pos'] value pos) (wSetF C f to tv) :=
  PS.mono (ps_fld ho hv hs) fun Dn σ H ⟨B, env, S, E, re, rs, q, ln, lr⟩ => ⟨B, env, S, _, re, rs, q, fun S1 H1 y vy g1 rs1 ry q1 => ⟨B, env, S1, _, re.grow g1, rs1, q1, fun S2 H2 x vx g2 rs2 rx ⟨a, fs, ex, ea, hl, q2⟩ => by
    subst ex
    rw [repD_ref] at rx
    obtain ⟨dx, gs, eh, rf⟩ := ins_at rs2 ea
    have ry2 := RepD.grow g2 _ _ ry
    refine ⟨a, C, dx, gs, rx, eh, c, n, by rw [← repF_len rf]; exact hl, ?_⟩
    obtain ⟨g, rs'⟩ := rs2.write (o := .ins C dx (putF f vy gs)) (c := .ins C (putD f y fs)) ea fun S' H' g e' => ⟨dx, _, e', (repF_put ry2 rf).grow' g⟩
    exact ln _ _ _ _ (g1.trans (g2.trans g)) rs' (re.grow (g1.trans (g2.trans g))) q2⟩⟩
/-- a method that may be called on objects of C: m its promise, the object first -/
structure MetD (P : Program) (w : World) (K : PySem.W.Frag) (mg : Str → Option Value) (base : Heap) (k : Nat) (C : Addr) (x : Str) (m : On) : Prop where
  ex : ∃ (f : Addr) (fd : FuncData) (ps : List Str), FnOk P w K mg base CX0 k f fd ps (spD K m) ∧ Cls K C ∧ Meth K C x f ∧ Binds K fd ps []
theorem MetD.up {P : Program} {w : World} {K : PySem.W.Frag} {mg : Str → Option Value} {base : Heap} {k j : Nat} {C : Addr} {x : Str} {m : On} (c : MetD P w K mg base k C x m) (h : k ≤ j) : MetD P w K mg base j C x m := by
  obtain ⟨f, fd, ps, F, a, b, c⟩ := c.ex
  exact ⟨f, fd, ps, F.mono h, a, b, c⟩
def wMeth (C : Addr) (x : Str) (m : On) (t : WE) (ta : WA) : WE := fun env S Q => t env S fun o S1 => ∃ a fs, o = .ref a ∧ S1 a = some (.ins C fs) ∧ fs.lookup x = none ∧ ta env S1 fun ds S2 => m (o :: ds) S2 Q
theorem de_meth {k : Nat} {C : Addr} {x : Str} {m : On} {o e : Expr} {es : List Expr} {t : WE} {ta : WA} {apos pos : Pos} {pl : Sem Bool} (c : MetD X.prog X.w X.K X.mg X.base k C x m) (hr : Room k X.A) (ho : DE X o t) (ha : DA X (e :: es) ta)
    (hst : starEach (e :: es) X.env = (false, eval e X.env) :: starEach es X.env := by rfl) (hpl : (backTo pos (starEach es X.env)).any (·.1) = false := by rfl)
    (ht : eval (.Call (.Attribute o x apos) (e :: es) [] pos) X.env = (do
      let ov ← eval o X.env
      standAt apos.atName
      let (f, first) ← holding [ov] (getMethod ov x pl)
      callWith pos f first (backTo pos (starEach (e :: es) X.env)) (backToKw pos (keywordEach [] X.env))) := by rfl) :
    DE X (.Call (.Attribute o x apos) (e :: es) [] pos) (wMeth C x m t ta) := by
  obtain ⟨f, fd, ps, F, hc, hm, hb⟩ := c.ex
  exact PE.mono (pe_meth (E := E0) ho hc hm F hr hb .nil pass0 ha (hst := hst) (hpl := hpl) (ht := ht)) fun σ H Q ⟨B, env, S, Qd, re, rs, q, l⟩ => ⟨B, env, S, _, re, rs, q, fun S1 H1 u vu g1 rs1 ru ⟨a, fs, eu, ea, en, q1⟩ => by
    subst eu
    have ru' := ru
    rw [repD_ref] at ru
    obtain ⟨dx, gs, eh, rf⟩ := ins_at rs1 ea
    exact ⟨a, dx, gs, ru, eh, repF_none rf en, B, env, S1, _, re.grow g1, rs1, q1, fun S2 H2 ds vs g2 rs2 rds q2 => ⟨B, .ref a :: ds, S2, Qd, repL_cons.mpr ⟨_, _, rfl, RepD.grow g2 _ _ ru', by rw [List.append_nil]; exact rds⟩, rs2, q2, l.grow (g1.trans g2)⟩⟩⟩
theorem de_meth0 {k : Nat} {C : Addr} {x : Str} {m : On} {o : Expr} {t : WE} {apos pos : Pos} {pl : Sem Bool} (c : MetD X.prog X.w X.K X.mg X.base k C x m) (hr : Room k X.A) (ho : DE X o t)
    (ht : eval (.Call (.Attribute o x apos) [] [] pos) X.env = (do
      let ov ← eval o X.env
      standAt apos.atName
      let (f, first) ← holding [ov] (getMethod ov x pl)
      callWith pos f first (backTo pos (starEach [] X.env)) (backToKw pos (keywordEach [] X.env))) := by rfl) :
    DE X (.Call (.Attribute o x apos) [] [] pos) (wMeth C x m t wNil) := by
  obtain ⟨f, fd, ps, F, hc, hm, hb⟩ := c.ex
  exact PE.mono (pe_meth0 (E := E0) ho hc hm F hr hb .nil pass0 (ht := ht)) fun σ H Q ⟨B, env, S, Qd, re, rs, q, l⟩ => ⟨B, env, S, _, re, rs, q, fun S1 H1 u vu g1 rs1 ru ⟨a, fs, eu, ea, en, q1⟩ => by
    subst eu
    have ru' := ru
    rw [repD_ref] at ru
    obtain ⟨dx, gs, eh, rf⟩ := ins_at rs1 ea
    exact ⟨a, dx, gs, ru, eh, repF_none rf en, B, [.ref a], S1, Qd, repL_cons.mpr ⟨_, _, rfl, ru', repL_nil.mpr rfl⟩, rs1, q1, l.grow g1⟩⟩
/-- a class that may be called: m its __init__'s promise -/
structure MakD (P : Program) (w : World) (K : PySem.W.Frag) (mg : Str → Option Value) (base : Heap) (k : Nat) (C : Addr) (x : Str) (m : On) : Prop where
  ex : ∃ (f : Addr) (fd : FuncData) (ps : List Str), FnOk P w K mg base CX0 k f fd ps (spD K m) ∧ Mk K C f ∧ mg x = some (.ref C) ∧ Binds K fd ps []
theorem MakD.up {P : Program} {w : World} {K : PySem.W.Frag} {mg : Str → Option Value} {base : Heap} {k j : Nat} {C : Addr} {x : Str} {m : On} (c : MakD P w K mg base k C x m) (h : k ≤ j) : MakD P w K mg base j C x m := by
  obtain ⟨f, fd, ps, F, a, b, c⟩ := c.ex
  exact ⟨f, fd, ps, F.mono h, a, b, c⟩
def wMake (C : Addr) (m : On) (ta : WA) : WE := fun env S Q => ta env S fun ds S1 => ∀ a, S1 a = none → m (.ref a :: ds) (sput S1 a (.ins C [])) fun v S2 => v = .non ∧ Q (.ref a) S2
theorem make_sp {K : PySem.W.Frag} {B : Blk} {S : Store} {H : Hp} {C a dx : Addr} {m : On} {ds : List D} {vs : List V} {Qd : D → Store → Prop} {Q : VK} {E : XK} (l : Lift K B S H Qd Q) (rs : RepS K B S H) (rds : RepL K B S H ds vs) (n1 : H a = none) (n2 : H dx = none) (ne : dx ≠ a)
    (q : ∀ a, S a = none → m (.ref a :: ds) (sput S a (.ins C [])) fun v S2 => v = .non ∧ Qd (.ref a) S2) : spD K m (.ref a :: (vs ++ [])) (upd (upd H dx (.own a)) a (.ins C dx [])) (fun v H2 => v = .non ∧ Q (.ref a) H2) E := by
  obtain ⟨g1, rs1, s1, _⟩ := rs.new (o := .own a) n2
  have n3 : upd H dx (.own a) a = none := by rw [upd_ne (fun e => ne e.symm)]; exact n1
  obtain ⟨g2, rs2⟩ := rs1.newCell (o := .ins C dx []) (c := .ins C []) n3 fun S' H' g e => ⟨dx, [], e, .nil⟩
  have sa : S a = none := (rs.new (o := .own a) n1).2.2.1
  refine ⟨B, .ref a :: ds, _, _, repL_cons.mpr ⟨_, _, rfl, repD_ref.mpr rfl, by rw [List.append_nil]; exact RepL.grow (g1.trans g2) _ _ rds⟩, rs2, q a sa, fun S' H' d v g' rs' rd qd => ?_⟩
  obtain ⟨e, qd⟩ := qd
  subst e
  rw [repD_non] at rd
  exact ⟨rd, l _ _ _ _ ((g1.trans g2).trans g') rs' (repD_ref.mpr rfl) qd⟩
theorem de_make {k : Nat} {C : Addr} {x : Str} {m : On} {e : Expr} {es : List Expr} {ta : WA} {p pos : Pos} (c : MakD X.prog X.w X.K X.mg X.base k C x m) (hr : Room (k + 1) X.A) (hg : Gl X x) (ha : DA X (e :: es) ta)
    (hdb : (x == ("__debug__" : Str)) = false := by decide) (he : starEach (e :: es) X.env = (false, eval e X.env) :: starEach es X.env := by rfl) (hpl : (backTo pos (starEach es X.env)).any (·.1) = false := by rfl) :
    DE X (.Call (.Name x p) (e :: es) [] pos) (wMake C m ta) := by
  obtain ⟨f, fd, ps, F, hM, hm, hb⟩ := c.ex
  exact PE.mono (pe_make (E := E0) hM F hr hg hm hb .nil pass0 ha (hdb := hdb) (he := he) (hpl := hpl)) fun σ H Q ⟨B, env, S, Qd, re, rs, q, l⟩ => ⟨B, env, S, _, re, rs, q, fun S1 H1 ds vs g1 rs1 rds q1 a dx n1 n2 ne => make_sp (l.grow g1) rs1 rds n1 n2 ne q1⟩
theorem de_make0 {k : Nat} {C : Addr} {x : Str} {m : On} {p pos : Pos} (c : MakD X.prog X.w X.K X.mg X.base k C x m) (hr : Room (k + 1) X.A) (hg : Gl X x) (hdb : (x == ("__debug__" : Str)) = false := by decide) :
    DE X (.Call (.Name x p) [] [] pos) (wMake C m wNil) := by
  obtain ⟨f, fd, ps, F, hM, hm, hb⟩ := c.ex
  exact PE.mono (pe_make0 (E := E0) hM F hr hg hm hb .nil pass0 (hdb := hdb)) fun σ H Q ⟨B, env, S, Qd, re, rs, q, l⟩ a dx n1 n2 ne => make_sp l rs (repL_nil.mpr rfl) n1 n2 ne q
end
end ND
set_option Elab.async false
set_option linter.all false
set_option maxRecDepth 100000
/-! NDP: the law's entry where // may be asked of numbers of any length. -/
namespace ND
open PySem PySem.Spec PyProof.Rows L2
theorem seerD {P : Program} {base : Heap} {qual : Str} {sc : Scope} {n : Nat} {f : Addr} {cd : Value} {A : Around} {outer : List Env} {k : Nat} (hN : base.NoSeer) (hT : P.given.tree = none) (hr : Room k (A.deeper (envOfC qual sc n f cd))) (hk : 32 ≤ k) (h1 : sc.isGenerator = false) (h2 : sc.isCoroutine = false) :
    Seer base P (A.deeper (envOfC qual sc n f cd)) (envOfC qual sc n f cd :: outer) :=
  ⟨hN, hT, by have := hr.dp; show _ + 100 < _; omega, _, _, rfl, h1, h2, rfl, rfl⟩
/-- the law asked at a heap in which nothing but the script is followed -/
theorem law_go {P : Program} {w : World} {K : PySem.W.Frag} {mg mb : Str → Option Value} {k : Nat} {fa sa : Addr} {fd : FuncData} {x : Str} {sp : Sp} {st : Shared} {vs : List Value} {ns : List Int}
    (hK : K.In st.heap) (hm : st.heap.Ns mainGlobals mg) (hb1 : st.heap.Ns builtinsNs mb) (hb2 : ∀ y : Str, y ≠ "__name__" → mb y = bootBuiltins y) (hlim : st.heap.NoLimit) (hsr : st.heap.NoSeer) (hgen : st.gens = #[])
    (hobj : st.heap.get? sa = some { cls := .type "list", data := .seq vs.toArray }) (hi : IntsAre vs ns) (hl : ns.length ≤ sizeLine) (hr : Room k callerA)
    (F : ∀ base : Heap, K.In base → base.Ns mainGlobals mg → base.NoSeer → FnOk P w K mg base CX0 k fa fd [x] sp) (hbind : ∀ (s : Shared) (u : Value), BindsTo s fd ⟨[u], []⟩ [(x, u)])
    (hsp : ∀ H : Hp, SqL K H sa (ns.map V.int) → sp [.ref sa] H (fun v _ => v = .bl true) fun _ _ _ => False) :
    codeAny (model P w) callerA (.call (.ref fa) ⟨[.ref sa], []⟩) (fun r t => r = .ok (.ret (.bool true)) ∧ OldK st.heap t.heap ∧ t.os = st.os ∧ AllBare t.gens) st := by
  have hv := vals_ints hi
  have hlen := hi.length
  have main : ∀ H : Hp, (∀ c u, H c = some u → c = sa ∧ K.lookup sa = none ∧ ∃ o xs, u = .frz o (.lst xs)) → SqL K H sa (ns.map V.int) → HOk P w H st.heap →
      codeAny (model P w) callerA (.call (.ref fa) ⟨[.ref sa], []⟩) (fun r t => r = .ok (.ret (.bool true)) ∧ OldK st.heap t.heap ∧ t.os = st.os ∧ AllBare t.gens) st := by
    intro H only hS hok
    -- what is no list of the script's stays in the base
    have stay : ∀ c o, st.heap.get? c = some o → o ≠ { cls := .type "list", data := .seq vs.toArray } ∨ K.lookup c ≠ none → (hidT st.heap H).get? c = some o := fun c o e hne => by
      refine hidT_get e ?_
      cases q : H c with
      | none => rfl
      | some u =>
        obtain ⟨rfl, h2, _⟩ := only c u q
        rcases hne with hne | hne
        · exact absurd (Option.some.inj (e.symm.trans hobj)) hne
        · exact absurd h2 hne
    have nss : ∀ c m, st.heap.Ns c m → (hidT st.heap H).Ns c m := fun c m ⟨o, es, ep, e, d, r⟩ => ⟨o, es, ep, stay c o e (.inl fun z => by rw [z] at d; cases d), d, r⟩
    have inB : K.In (hidT st.heap H) := fun c o e => stay c o (hK c o e) (.inr (by rw [e]; simp))
    have lim : (hidT st.heap H).NoLimit := by
      obtain ⟨mc, a1, a2⟩ := hlim
      exact ⟨mc, nss _ _ a1, a2⟩
    have seer : (hidT st.heap H).NoSeer := by
      obtain ⟨⟨m1, a1, a2, a3⟩, ⟨m2, b1, b2⟩, ⟨m3, c1, c2⟩, ⟨m4, bm, ob, d1, d2, d3, d4, d5⟩⟩ := hsr
      exact ⟨⟨m1, nss _ _ a1, a2, a3⟩, ⟨m2, nss _ _ b1, b2⟩, ⟨m3, nss _ _ c1, c2⟩, ⟨m4, bm, ob, nss _ _ d1, d2, stay bm ob d3 (.inl fun z => by rw [z] at d4; exact absurd (show Value.type "list" = Value.type "module" from d4) (by decide +kernel)), d4, d5⟩⟩
    have env : Env0 P w K mg (hidT st.heap H) callerA [] st H :=
      ⟨rfl, ⟨inB, nss _ _ hm, ⟨mb, nss _ _ hb1, hb2⟩, lim⟩, fun _ _ e => of_hidT e, Nat.le_of_eq (hidT_size _ _), trivial, fun c hc => absurd (show c ∈ ([] : List Addr) from hc) (by simp), hok, .of_eq hgen⟩
    have ran := (F _ inB (nss _ _ hm) seer).run callerA [] st H ⟨[.ref sa], []⟩ [.ref sa] [.ref sa] _ _ hr env (hbind st (.ref sa)) (.cons rfl .nil) (hsp H hS)
    refine codeAny_mono ran fun r t h => ?_
    match r, h with
    | .error e, h => exact False.elim h
    | .ok .next, h => exact False.elim h
    | .ok .brk, h => exact False.elim h
    | .ok .cont, h => exact False.elim h
    | .ok (.ret u), h =>
      obtain ⟨v, H2, hos, hbare, un, hok2, hrel, hq⟩ := h
      have hq2 : v = .bl true := hq
      subst hq2
      have hu : u = Value.bool true := hrel
      subst hu
      refine ⟨rfl, OldK.of_keep fun c o e => ?_, hos, hbare⟩
      cases q : H c with
      | none => exact un.keep c o e q (fun z => absurd (show c ∈ ([] : List Addr) from z) (by simp)) (by simp)
      | some u =>
        obtain ⟨rfl, _, ob, xs, rfl⟩ := only c u q
        obtain ⟨e1, _⟩ := hok _ _ q
        obtain ⟨e2, _⟩ := hok2 _ _ (un.frzs _ ob _ q)
        rw [e] at e1
        cases e1
        exact e2
  by_cases hk : K.lookup sa = none
  · refine main (fun c => if c = sa then some (.frz { cls := .type "list", data := .seq vs.toArray } (.lst (ns.map V.int))) else none) (fun c u z => ?_) (.inl (.inr ⟨_, if_pos rfl⟩)) fun c u z => ?_
    · by_cases hc : c = sa
      · have z2 := (if_pos hc).symm.trans z
        cases z2
        exact ⟨hc, hk, _, _, rfl⟩
      · exact nomatch (if_neg hc).symm.trans z
    · by_cases hc : c = sa
      · have z2 := (if_pos hc).symm.trans z
        cases z2
        subst hc
        exact ⟨hobj, by rw [List.length_map]; exact hl, vs, _, hv, hobj⟩
      · exact nomatch (if_neg hc).symm.trans z
  · cases q : K.lookup sa with
    | none => exact absurd q hk
    | some o =>
      have e := (hK sa o q).symm.trans hobj
      cases e
      exact main (fun _ => none) (fun c u z => nomatch z) (.inr ⟨_, vs.toArray, _, q, rfl, rfl, rfl, by rw [List.size_toArray, hlen]; exact hl, by simpa using hv⟩) fun c u z => nomatch z
theorem walkP {l : PySem.W.OpenLaw} {n k : Nat} {q : Program} {loose : List Str} {XP : (Str → Option Value) → Heap → Prop} {YP : World → Heap → Prop} {d : DefRec} {K : Params → PySem.W.Frag} {sp : World → Sp} {x : Str}
    (hn : l.most = some n) (hn2 : n ≤ sizeLine) (hdf : d.params.defaults = []) (hr : Room k callerA) (hin : importsNone q = true) (hY : ∀ (w : World) (h : Heap), YP w h → (K w.params).In h)
    (F : ∀ (w : World) (mg : Str → Option Value) (fa : Addr) (h : Heap), (K w.params).In h → h.Ns mainGlobals mg → mg d.name = some (.ref fa) →
      ∃ fd : FuncData, (∀ (s : Shared) (u : Value), BindsTo s fd ⟨[u], []⟩ [(x, u)]) ∧ ∀ base : Heap, (K w.params).In base → base.Ns mainGlobals mg → base.NoSeer → FnOk l.prog w (K w.params) mg base CX0 k fa fd [x] (sp w))
    (hsp : ∀ (w : World) (H : Hp) (a : Addr) (ns : List Int), ns.length ≤ n → SqL (K w.params) H a (ns.map V.int) → sp w [.ref a] H (fun v _ => v = .bl true) fun _ _ _ => False) :
    PySem.W.WalkO q loose XP YP l.row.toRowW d [] (fun f vs => PySem.call f vs) := by
  refine Att.attach_call hn hdf fun w _ st mg mb fa _ _ _ _ sa _ ns G Y _ _ _ hmg hobj hints hlen hgen => ?_
  obtain ⟨fd, hb, hF⟩ := F w mg fa _ (hY w _ Y) G.T.g hmg
  exact law_go (hY w _ Y) G.T.g G.T.b G.T.builtins G.T.nolimit (G.T.seer hin) hgen hobj hints (Nat.le_trans hlen hn2) hr hF hb fun H hS => hsp w H sa ns hlen hS
/-! ### range(..) made a list or a tuple -/
theorem repL_rg {K : PySem.W.Frag} {B : Blk} {S : Store} {H : Hp} {a b : Int} : RepL K B S H (rngD a b) (rgV a b) := by
  have e1 : rngD a b = ((List.range (b - a).toNat).map fun k : Nat => a + (k : Int)).map D.int := by unfold rngD; rw [List.map_map]; rfl
  have e2 : rgV a b = ((List.range (b - a).toNat).map fun k : Nat => a + (k : Int)).map V.int := by unfold rgV; rw [List.map_map]; rfl
  rw [e1, e2]
  exact repL_ints
def wRgD (t : WE) (k : Int → Store → Prop) (env : Slots) (S : Store) : Prop := t env S fun d S1 => match d with | .int n => RgOk 0 n ∧ k n S1 | _ => False
def wTupRg (t : WE) : WE := fun env S Q => wRgD t (fun n S1 => Q (.tup (rngD 0 n)) S1) env S
def wLstRg (t : WE) : WE := fun env S Q => wRgD t (fun n S1 => Q (.lst (rngD 0 n)) S1) env S
def wLstRgM (t : WE) : WE := fun env S Q => wRgD t (fun n S1 => ∀ p, S1 p = none → Q (.ref p) (sput S1 p (.lst (rngD 0 n)))) env S
section
variable {X : Cx} {a : Expr} {t : WE} {p p1 pos pos1 : Pos}
theorem de_tupRg (hc : X.calm = true) (hg : Gl X "tuple") (hm : X.mg "tuple" = none) (hgr : Gl X "range") (hmr : X.mg "range" = none) (ha : DE X a t) (na : starEach [a] X.env = (false, eval a X.env) :: starEach [] X.env := by rfl)
    (nb : starEach [.Call (.Name "range" p1) [a] [] pos1] X.env = (false, eval (.Call (.Name "range" p1) [a] [] pos1) X.env) :: starEach [] X.env := by rfl) : DE X (.Call (.Name "tuple" p) [.Call (.Name "range" p1) [a] [] pos1] [] pos) (wTupRg t) :=
  PE.mono (pe_tupRg hc hg hm (prg_1 hgr hmr ha na) nb) fun σ H Q ⟨B, env, S, Qd, re, rs, q, l⟩ => ⟨B, env, S, _, re, rs, q, fun S1 H1 x vx g1 rs1 rx q1 => by
    cases x with
    | int n => rw [repD_int] at rx; exact ⟨n, rx, q1.1, fun z hz => (l.grow g1).tup rs1 repL_rg q1.2 hz⟩
    | _ => exact False.elim q1⟩
theorem de_lstRg (hc : X.calm = true) (hg : Gl X "list") (hm : X.mg "list" = none) (hgr : Gl X "range") (hmr : X.mg "range" = none) (ha : DE X a t) (na : starEach [a] X.env = (false, eval a X.env) :: starEach [] X.env := by rfl)
    (nb : starEach [.Call (.Name "range" p1) [a] [] pos1] X.env = (false, eval (.Call (.Name "range" p1) [a] [] pos1) X.env) :: starEach [] X.env := by rfl) : DE X (.Call (.Name "list" p) [.Call (.Name "range" p1) [a] [] pos1] [] pos) (wLstRg t) :=
  PE.mono (pe_listRg hc hg hm (prg_1 hgr hmr ha na) nb) fun σ H Q ⟨B, env, S, Qd, re, rs, q, l⟩ => ⟨B, env, S, _, re, rs, q, fun S1 H1 x vx g1 rs1 rx q1 => by
    cases x with
    | int n => rw [repD_int] at rx; exact ⟨n, rx, q1.1, fun z hz => (l.grow g1).lst rs1 repL_rg q1.2 hz⟩
    | _ => exact False.elim q1⟩
theorem de_lstRgM (hc : X.calm = true) (hg : Gl X "list") (hm : X.mg "list" = none) (hgr : Gl X "range") (hmr : X.mg "range" = none) (ha : DE X a t) (na : starEach [a] X.env = (false, eval a X.env) :: starEach [] X.env := by rfl)
    (nb : starEach [.Call (.Name "range" p1) [a] [] pos1] X.env = (false, eval (.Call (.Name "range" p1) [a] [] pos1) X.env) :: starEach [] X.env := by rfl) : DE X (.Call (.Name "list" p) [.Call (.Name "range" p1) [a] [] pos1] [] pos) (wLstRgM t) :=
  PE.mono (pe_listRg hc hg hm (prg_1 hgr hmr ha na) nb) fun σ H Q ⟨B, env, S, Qd, re, rs, q, l⟩ => ⟨B, env, S, _, re, rs, q, fun S1 H1 x vx g1 rs1 rx q1 => by
    cases x with
    | int n => rw [repD_int] at rx; exact ⟨n, rx, q1.1, fun z hz => (l.grow g1).cell rs1 repL_rg q1.2 hz⟩
    | _ => exact False.elim q1⟩
end
/-! ### is True, is False -/
def oIsB (neg : Bool) : O2 := fun x y S Q => match x, y with | .bl a, .bl b => Q (.bl (nb neg (decide (a = b)))) S | _, _ => False
theorem od_isB {X : Cx} : OD X (compareOp .Is) (oIsB false) := OD.of op_is_bl fun B S H x y vx vy Qd Q rs rx ry q l => by
  cases x with
  | bl a => cases y with
    | bl b =>
      have q' : Qd (.bl (nb false (decide (a = b)))) S := q
      exact ⟨a, b, repD_bl.mp rx, repD_bl.mp ry, l S H _ _ .refl rs (repD_bl.mpr rfl) q'⟩
    | _ => exact False.elim q
  | _ => exact False.elim q
theorem od_isnotB {X : Cx} : OD X (compareOp .IsNot) (oIsB true) := OD.of op_isnot_bl fun B S H x y vx vy Qd Q rs rx ry q l => by
  cases x with
  | bl a => cases y with
    | bl b =>
      have q' : Qd (.bl (nb true (decide (a = b)))) S := q
      exact ⟨a, b, repD_bl.mp rx, repD_bl.mp ry, l S H _ _ .refl rs (repD_bl.mpr rfl) q'⟩
    | _ => exact False.elim q
  | _ => exact False.elim q
end ND
set_option Elab.async false
set_option linter.all false
set_option maxRecDepth 100000
namespace ND
open PySem PySem.Spec PyProof.Rows L2
/-! ### defs that call themselves: copies by depth, the last one never called -/
theorem okVoid {P : Program} {w : World} {K : PySem.W.Frag} {mg : Str → Option Value} {base : Heap} {k : Nat} {f : Addr} {fd : FuncData} {ps : List Str} {m : On} (h : ∀ ds S Q, ¬ m ds S Q) : FnOk P w K mg base CX0 k f fd ps (spD K m) :=
  ⟨fun vs H Q E ⟨B, ds, S, Qd, _, _, q, _⟩ => absurd q (h ds S Qd), fun A outer s H args us vs Q E _ _ _ _ ⟨B, ds, S, Qd, _, _, q, _⟩ => absurd q (h ds S Qd)⟩

end ND
set_option Elab.async false
set_option linter.all false
set_option maxRecDepth 100000
namespace ND
open PySem PySem.Spec PyProof.Rows L2
def dQ (q : Rat) : D := .tup [.int q.num, .int (q.den : Nat)]
/-! ### the greatest divisor -/
theorem gcd_step {x y : Int} (hx : 0 ≤ x) (hy : 0 ≤ y) : Int.gcd y (x % y) = Int.gcd x y := by
  obtain ⟨n, rfl⟩ := Int.eq_ofNat_of_zero_le hx
  obtain ⟨m, rfl⟩ := Int.eq_ofNat_of_zero_le hy
  rw [← Int.natCast_emod, Int.gcd_natCast_natCast, Int.gcd_natCast_natCast, Nat.gcd_comm n m, Nat.gcd_rec m n, Nat.gcd_comm]
def w_divisor : WS :=
  (wSeq (whileS (wTst (w2 oGt (wVar 1) (wC (.int 0)))) (wPar 0 1 (wCons (wVar 1) (wCons (w2 oMod (wVar 0) (wVar 1)) wNil))))
  (wRet (wVar 0)))
@[irreducible] def m_divisor : On := fun ds S Q => ∃ a b : Int, ds = [.int a, .int b] ∧ 0 ≤ a ∧ 0 ≤ b ∧ Q (.int (Int.gcd a b)) S
theorem in_divisor {ds : List D} {S : Store} {Q : D → Store → Prop} (h : (fun ds S Q => ∃ a b : Int, ds = [.int a, .int b] ∧ 0 ≤ a ∧ 0 ≤ b ∧ Q (.int (Int.gcd a b)) S : On) ds S Q) : m_divisor ds S Q := by unfold m_divisor; exact h
theorem v_divisor (ds : List D) (S : Store) (Q : D → Store → Prop) (h : m_divisor ds S Q) : w_divisor (fin Q) (dst 2 ds) S := by
  unfold m_divisor at h
  obtain ⟨a, b, rfl, ha, hb, q⟩ := h
  refine ⟨fun m env S' => ∃ x y : Int, env = [some (.int x), some (.int y)] ∧ 0 ≤ x ∧ 0 ≤ y ∧ Int.gcd x y = Int.gcd a b ∧ m = y.toNat ∧ S' = S, ⟨_, a, b, rfl, ha, hb, rfl, rfl, rfl⟩, ?_⟩
  rintro m env S' ⟨x, y, rfl, hx, hy, e, rfl, rfl⟩
  refine ⟨_, rfl, ite_nf (fun c => ?_) (fun c => ?_)⟩
  · have e1 : x.fmod y = x % y := Int.fmod_eq_emod_of_nonneg _ hy
    have h1 := Int.emod_nonneg x (show y ≠ 0 by omega)
    have h2 := Int.emod_lt_of_pos x c
    refine ⟨_, rfl, _, rfl, _, rfl, (by omega : y ≠ 0), _, ?_, y, x.fmod y, rfl, hy, by omega, by rw [e1, gcd_step hx hy, e], rfl, rfl⟩
    omega
  · have hy0 : y = 0 := by omega
    subst hy0
    refine ⟨_, rfl, ?_⟩
    rw [show (x : Int) = (Int.gcd a b : Nat) by rw [← e, Int.gcd_zero_right]; omega]
    exact q
theorem use_divisor {a b : Int} {S : Store} {Q : D → Store → Prop} (ha : 0 ≤ a) (hb : 0 ≤ b) (k : Q (.int (Int.gcd a b)) S) : m_divisor [.int a, .int b] S Q := by unfold m_divisor; exact ⟨a, b, rfl, ha, hb, k⟩
/-! ### a fraction in least numbers -/
theorem frac_num {t b g : Int} (hb : 0 < b) (hg : g = (Int.gcd t b : Nat)) : t.fdiv g = (Rat.divInt t b).num := by
  rw [Rat.num_divInt, Int.sign_eq_one_of_pos hb, Int.one_mul, Int.gcd_comm b t, ← hg]
  exact Int.fdiv_eq_ediv_of_nonneg _ (by omega)
theorem frac_den {t b g : Int} (hb : 0 < b) (hg : g = (Int.gcd t b : Nat)) : b.fdiv g = ((Rat.divInt t b).den : Nat) := by
  rw [Rat.den_divInt, if_neg (by omega), Int.gcd_comm b t, Int.natCast_ediv, ← hg, Int.fdiv_eq_ediv_of_nonneg _ (by omega)]
  congr 1
  omega
theorem gcd_pos' {t b : Int} (hb : b ≠ 0) : 0 < Int.gcd t b := Int.gcd_pos_of_ne_zero_right t hb
/-- the divisor is not too long for // -/
def GOk (_ _ : Int) : Prop := True
theorem GOk.cfd {t b : Int} (_ : GOk t b) (hb : b ≠ 0) (i : Int) : CFd i ((Int.gcd t b : Nat) : Int) := by have := gcd_pos' (t := t) hb; show _ ≠ _; omega
def w_fraction (f1 : On) : WS :=
  (wSeq (wIfS (wTst (w2 oLt (wVar 1) (wC (.int 0)))) (wPar 0 1 (wCons (w1 oNeg (wVar 0)) (wCons (w1 oNeg (wVar 1)) wNil))) wNext)
  (wSeq (wSet 2 (wCall f1 (wCons (wCall oAbs (wCons (wVar 0) wNil)) (wCons (wVar 1) wNil))))
  (wRet (wTup (wCons (w2 oFdiv (wVar 0) (wVar 2)) (wCons (w2 oFdiv (wVar 1) (wVar 2)) wNil))))))
@[irreducible] def m_fraction : On := fun ds S Q => ∃ t b : Int, ds = [.int t, .int b] ∧ b ≠ 0 ∧ GOk t b ∧ Q (dQ (Rat.divInt t b)) S
theorem in_fraction {ds : List D} {S : Store} {Q : D → Store → Prop} (h : (fun ds S Q => ∃ t b : Int, ds = [.int t, .int b] ∧ b ≠ 0 ∧ GOk t b ∧ Q (dQ (Rat.divInt t b)) S : On) ds S Q) : m_fraction ds S Q := by unfold m_fraction; exact h
theorem use_fraction {t b : Int} {S : Store} {Q : D → Store → Prop} (hb : b ≠ 0) (hg : GOk t b) (k : Q (dQ (Rat.divInt t b)) S) : m_fraction [.int t, .int b] S Q := by unfold m_fraction; exact ⟨t, b, rfl, hb, hg, k⟩
theorem abs_if (t : Int) : (if t < 0 then -t else t) = (t.natAbs : Int) := by split <;> omega
theorem v_fraction (ds : List D) (S : Store) (Q : D → Store → Prop) (h : m_fraction ds S Q) : w_fraction m_divisor (fin Q) (dst 3 ds) S := by
  unfold m_fraction at h
  obtain ⟨t, b, rfl, hb, hg, q⟩ := h
  have core : ∀ (t b : Int), 0 < b → GOk t b → Q (dQ (Rat.divInt t b)) S →
      wSeq (wSet 2 (wCall m_divisor (wCons (wCall oAbs (wCons (wVar 0) wNil)) (wCons (wVar 1) wNil)))) (wRet (wTup (wCons (w2 oFdiv (wVar 0) (wVar 2)) (wCons (w2 oFdiv (wVar 1) (wVar 2)) wNil)))) (fin Q) [some (.int t), some (.int b), none] S := by
    intro t b hb hg q
    have e0 : Int.gcd (t.natAbs : Int) b = Int.gcd t b := by simp [Int.gcd]
    refine ⟨_, rfl, _, rfl, use_divisor (by rw [abs_if]; omega) (by omega) ?_⟩
    rw [abs_if, e0]
    refine ⟨_, rfl, _, rfl, hg.cfd (by omega) t, _, rfl, _, rfl, hg.cfd (by omega) b, by show 2 ≤ sizeLine; decide, ?_⟩
    have e : dQ (Rat.divInt t b) = D.tup [.int (t.fdiv (Int.gcd t b : Nat)), .int (b.fdiv (Int.gcd t b : Nat))] := by rw [frac_num hb rfl, frac_den hb rfl]; rfl
    show Q _ _
    rw [e] at q
    exact q
  refine ⟨_, rfl, ite_nf (fun c => ?_) (fun c => ?_)⟩
  · refine ⟨_, rfl, _, rfl, core (-t) (-b) (by omega) trivial ?_⟩
    rw [Rat.neg_divInt_neg]
    exact q
  · exact core t b (by omega) hg q
theorem l_divisor (ds : List D) (S : Store) (Q : D → Store → Prop) (h : m_divisor ds S Q) : ds.length = 2 := by unfold m_divisor at h; obtain ⟨_, _, rfl, _⟩ := h; rfl
theorem l_fraction (ds : List D) (S : Store) (Q : D → Store → Prop) (h : m_fraction ds S Q) : ds.length = 2 := by unfold m_fraction at h; obtain ⟨_, _, rfl, _⟩ := h; rfl
/-! ### the law's own fractions -/
theorem fdiv_neg' (t g : Int) : t.fdiv (0 - g) = (-t).fdiv g := by
  rw [Int.zero_sub, ← Int.neg_fdiv_neg (-t) g, Int.neg_neg]
def w_law_f : WS :=
  (wSeq (wSet 2 (wCall oAbs (wCons (wVar 0) wNil)))
  (wSeq (wSet 3 (wCall oAbs (wCons (wVar 1) wNil)))
  (wSeq (whileS (wTst (w2 oGt (wVar 3) (wC (.int 0)))) (wPar 2 3 (wCons (wVar 3) (wCons (w2 oMod (wVar 2) (wVar 3)) wNil))))
  (wSeq (wIfS (wTst (w2 oLt (wVar 1) (wC (.int 0)))) (wSet 2 (w2 oSub (wC (.int 0)) (wVar 2))) wNext)
  (wRet (wTup (wCons (w2 oFdiv (wVar 0) (wVar 2)) (wCons (w2 oFdiv (wVar 1) (wVar 2)) wNil))))))))
abbrev m_law_f : On := m_fraction
theorem l_law_f (ds : List D) (S : Store) (Q : D → Store → Prop) (h : m_law_f ds S Q) : ds.length = 2 := l_fraction ds S Q h
theorem v_law_f (ds : List D) (S : Store) (Q : D → Store → Prop) (h : m_law_f ds S Q) : w_law_f (fin Q) (dst 4 ds) S := by
  unfold m_law_f m_fraction at h
  obtain ⟨t, b, rfl, hb, hg, q⟩ := h
  refine ⟨_, rfl, _, rfl, fun m env S' => ∃ x y : Int, env = [some (.int t), some (.int b), some (.int x), some (.int y)] ∧ 0 ≤ x ∧ 0 ≤ y ∧ Int.gcd x y = Int.gcd t b ∧ m = y.toNat ∧ S' = S, ⟨_, _, _, rfl, by rw [abs_if]; omega, by rw [abs_if]; omega, by rw [abs_if, abs_if]; simp [Int.gcd], rfl, rfl⟩, ?_⟩
  rintro m env S' ⟨x, y, rfl, hx, hy, e, rfl, rfl⟩
  refine ⟨_, rfl, ite_nf (fun c => ?_) (fun c => ?_)⟩
  · have e1 : x.fmod y = x % y := Int.fmod_eq_emod_of_nonneg _ hy
    have h1 := Int.emod_nonneg x (show y ≠ 0 by omega)
    have h2 := Int.emod_lt_of_pos x c
    exact ⟨_, rfl, _, rfl, _, rfl, (by omega : y ≠ 0), _, (by omega : (x.fmod y).toNat < y.toNat), y, x.fmod y, rfl, hy, by omega, by rw [e1, gcd_step hx hy, e], rfl, rfl⟩
  · have hy0 : y = 0 := by omega
    subst hy0
    have ex : x = (Int.gcd t b : Nat) := by rw [← e, Int.gcd_zero_right]; omega
    subst ex
    refine ⟨_, rfl, ite_nf (fun c => ?_) (fun c => ?_)⟩
    · have hne : ∀ i, CFd i (0 - ((Int.gcd t b : Nat) : Int)) := fun i => by have := gcd_pos' (t := t) hb; show _ ≠ _; omega
      refine ⟨_, rfl, _, rfl, _, rfl, hne t, _, rfl, _, rfl, hne b, by show 2 ≤ sizeLine; decide, ?_⟩
      have eg : ((Int.gcd t b : Nat) : Int) = (Int.gcd (-t) (-b) : Nat) := by rw [Int.gcd_neg, Int.neg_gcd]
      have e' : dQ (Rat.divInt t b) = D.tup [.int (t.fdiv (0 - (Int.gcd t b : Nat))), .int (b.fdiv (0 - (Int.gcd t b : Nat)))] := by
        rw [fdiv_neg', fdiv_neg', frac_num (t := -t) (b := -b) (by omega) eg, frac_den (t := -t) (b := -b) (by omega) eg, Rat.neg_divInt_neg]; rfl
      show Q _ _
      rw [e'] at q
      exact q
    · refine ⟨_, rfl, _, rfl, hg.cfd hb t, _, rfl, _, rfl, hg.cfd hb b, by show 2 ≤ sizeLine; decide, ?_⟩
      have e' : dQ (Rat.divInt t b) = D.tup [.int (t.fdiv (Int.gcd t b : Nat)), .int (b.fdiv (Int.gcd t b : Nat))] := by rw [frac_num (by omega) rfl, frac_den (by omega) rfl]; rfl
      show Q _ _
      rw [e'] at q
      exact q
theorem gok_of {t b : Int} {n : Nat} (_ : b ≠ 0) (_ : b.natAbs < 2 ^ n) (_ : 0 < n := by decide) (_ : n ≤ 900000 := by decide) : GOk t b := trivial
theorem gok_one {q : Rat} : GOk q.num q.den := trivial
theorem pure_dQ (q : Rat) : pureD (dQ q) = true := rfl
theorem deep_dQ (q : Rat) : deepD (dQ q) = 1 := rfl
theorem dQ_inj {a b : Rat} (h : dQ a = dQ b) : a = b := by
  unfold dQ at h
  injection h with h
  injection h with h1 h2
  injection h1 with h1
  injection h2 with h2 _
  injection h2 with h2
  exact Rat.ext h1 (by omega)
/-- two fractions told equal or not -/
theorem eq_dQ {neg : Bool} {a b : Rat} {S : Store} {Q : D → Store → Prop} (h : Q (.bl (nb neg (decide (a = b)))) S) : oEqB neg (dQ a) (dQ b) S Q :=
  eq_pure rfl rfl (by rw [deep_dQ]; decide) (by rw [deep_dQ]; decide) fun c hc => by
    have e : c = decide (a = b) := by
      by_cases hab : a = b
      · rw [decide_eq_true hab]; exact hc.mpr (by rw [hab])
      · rw [decide_eq_false hab]
        cases c with
        | true => exact absurd (dQ_inj (hc.mp rfl)) hab
        | false => rfl
    rw [e]
    exact h
theorem isi_tuple : kitB "tuple" "tuple" = some true := by decide +kernel
theorem isi_int_int : kitB "int" "int" = some true := by decide +kernel
theorem isi_int_bool : kitB "int" "bool" = some false := by decide +kernel
def w_law_is_fraction (f1 : On) : WS :=
  (wSeq (wIfS (wOr (wNot (wTst (wIsi "tuple" (wVar 0)))) (wTst (w2 oNe (wCall oLen (wCons (wVar 0) wNil)) (wC (.int 2))))) (wRet (wC (.bl false))) wNext)
  (wSeq (wIfS (wTst (w2 oNe (wLc (wSeqI (wVar 0)) (gN 1) (wOr (wNot (wTst (wIsi "int" (wVar 1)))) (wTst (wIsi "bool" (wVar 1)))) (wVar 1) [1]) (wLst wNil))) (wRet (wC (.bl false))) wNext)
  (wRet (wAndV (w2 oGt (w2 oIx (wVar 0) (wC (.int 1))) (wC (.int 0))) (w2 oEq (wCall f1 (wCons (w2 oIx (wVar 0) (wC (.int 0))) (wCons (w2 oIx (wVar 0) (wC (.int 1))) wNil))) (wVar 0))))))
@[irreducible] def m_law_is_fraction : On := fun ds S Q => ∃ q : Rat, ds = [dQ q] ∧ Q (.bl true) S
theorem in_law_is_fraction {ds : List D} {S : Store} {Q : D → Store → Prop} (h : (fun ds S Q => ∃ q : Rat, ds = [dQ q] ∧ Q (.bl true) S : On) ds S Q) : m_law_is_fraction ds S Q := by unfold m_law_is_fraction; exact h
theorem l_law_is_fraction (ds : List D) (S : Store) (Q : D → Store → Prop) (h : m_law_is_fraction ds S Q) : ds.length = 1 := by unfold m_law_is_fraction at h; obtain ⟨_, rfl, _⟩ := h; rfl
theorem v_law_is_fraction (ds : List D) (S : Store) (Q : D → Store → Prop) (h : m_law_is_fraction ds S Q) : w_law_is_fraction m_law_f (fin Q) (dst 2 ds) S := by
  unfold m_law_is_fraction at h
  obtain ⟨r, rfl, q⟩ := h
  refine ⟨_, rfl, _, _, rfl, isi_tuple, _, rfl, _, rfl, _, rfl, _, rfl, by show 2 ≤ sizeLine; decide, trivial, ?_⟩
  refine ⟨_, rfl, _, _, rfl, isi_int_int, _, rfl, _, _, rfl, isi_int_bool, trivial, _, rfl, _, _, rfl, isi_int_int, _, rfl, _, _, rfl, isi_int_bool, trivial, by decide, ?_⟩
  refine eq_pure (x := .lst []) (y := .lst []) rfl rfl (by decide) (by decide) fun b hb => ?_
  have eb : b = true := hb.mpr rfl
  subst eb
  refine ⟨_, rfl, _, _, rfl, rfl, ?_⟩
  have hd : (0 : Int) < (r.den : Nat) := by have := r.den_pos; omega
  refine ite_nf (fun _ => ?_) (fun h => absurd hd h)
  refine ⟨_, rfl, _, _, rfl, rfl, _, rfl, _, _, rfl, rfl, use_fraction (by omega) gok_one ⟨_, rfl, ?_⟩⟩
  refine eq_dQ (a := Rat.divInt r.num r.den) (b := r) ?_
  rw [Rat.num_divInt_den, decide_eq_true rfl]
  exact q
theorem use_law_is_fraction {r : Rat} {S : Store} {Q : D → Store → Prop} (k : Q (.bl true) S) : m_law_is_fraction [dQ r] S Q := by unfold m_law_is_fraction; exact ⟨r, rfl, k⟩

end ND
set_option Elab.async false
set_option linter.all false
set_option maxRecDepth 100000
namespace ND
open PySem PySem.Spec PyProof.Rows L2
def w_law_mix : WS :=
  (wSeq (wSet 2 (w2 oAdd (w2 oMod (wVar 0) (wC (.int 2147483629))) (w2 oMul (w2 oMul (wC (.int 1000003)) (wVar 1)) (wVar 1))))
  (wSeq (wSet 2 (w2 oMod (w2 oAdd (wVar 2) (w2 oMul (wC (.int 7919)) (wVar 1))) (wC (.int 2147483629))))
  (wSeq (wSet 2 (w2 oMod (w2 oMul (wVar 2) (wVar 2)) (wC (.int 2147483587))))
  (wRet (w2 oFdiv (w2 oMod (w2 oMul (wVar 2) (w2 oAdd (wVar 2) (wC (.int 40961)))) (wC (.int 2147483563))) (wC (.int 4)))))))
@[irreducible] def m_law_mix : On := fun ds S Q => ∃ c k : Int, ds = [.int c, .int k] ∧ 0 ≤ k ∧ k < 2 ^ 60 ∧ ∀ r : Int, 0 ≤ r → Q (.int r) S
theorem in_law_mix {ds : List D} {S : Store} {Q : D → Store → Prop} (h : (fun ds S Q => ∃ c k : Int, ds = [.int c, .int k] ∧ 0 ≤ k ∧ k < 2 ^ 60 ∧ ∀ r : Int, 0 ≤ r → Q (.int r) S : On) ds S Q) : m_law_mix ds S Q := by unfold m_law_mix; exact h
theorem v_law_mix (ds : List D) (S : Store) (Q : D → Store → Prop) (h : m_law_mix ds S Q) : w_law_mix (fin Q) (dst 3 ds) S := by
  unfold m_law_mix at h
  obtain ⟨c, k, rfl, hk, hk2, q⟩ := h
  have fm : ∀ (x n : Int), 0 < n → 0 ≤ x.fmod n ∧ x.fmod n < n := fun x n hn => fmod_bds hn
  refine ⟨_, rfl, (by decide : (2147483629 : Int) ≠ 0), _, rfl, mulOk (a := 21) (b := 60) (by decide) (by omega), _, rfl, mulOk (a := 81) (b := 60) ?_ (by omega), ?_⟩
  · omega
  refine ⟨_, rfl, _, rfl, mulOk (a := 13) (b := 60) (by decide) (by omega), (by decide : (2147483629 : Int) ≠ 0), ?_⟩
  obtain ⟨a1, a2⟩ := fm (c.fmod 2147483629 + 1000003 * k * k + 7919 * k) 2147483629 (by decide)
  refine ⟨_, rfl, _, rfl, mulOk (a := 31) (b := 31) (by omega) (by omega), (by decide : (2147483587 : Int) ≠ 0), ?_⟩
  obtain ⟨b1, b2⟩ := fm ((c.fmod 2147483629 + 1000003 * k * k + 7919 * k).fmod 2147483629 * (c.fmod 2147483629 + 1000003 * k * k + 7919 * k).fmod 2147483629) 2147483587 (by decide)
  refine ⟨_, rfl, _, rfl, mulOk (a := 31) (b := 32) (by omega) (by omega), (by decide : (2147483563 : Int) ≠ 0), (by decide : (4 : Int) ≠ 0), ?_⟩
  refine q _ ?_
  rw [Int.fdiv_eq_ediv_of_nonneg _ (by decide)]
  exact Int.ediv_nonneg (fm _ _ (by decide)).1 (by decide)
theorem use_mix {c k : Int} {S : Store} {Q : D → Store → Prop} (h0 : 0 ≤ k) (h1 : k < 2 ^ 60) (q : ∀ r : Int, 0 ≤ r → Q (.int r) S) : m_law_mix [.int c, .int k] S Q := by
  unfold m_law_mix; exact ⟨c, k, rfl, h0, h1, q⟩
/-- the deck: cells, how many are begun, what is left of one, how many were mixed (c at most), the sum -/
def DeckC (c : Nat) (cell : Cell) : Prop := ∃ (cs : List Int) (i left mixed total : Int), cell = .lst [.lst (cs.map D.int), .int i, .int left, .int mixed, .int total] ∧ cs.length ≤ 63 ∧ 0 ≤ i ∧ i ≤ cs.length ∧ 0 ≤ left ∧ 0 ≤ mixed ∧ mixed ≤ c
theorem DeckC.up {c c' : Nat} {cell : Cell} (h : DeckC c cell) (hc : c ≤ c') : DeckC c' cell := by
  obtain ⟨cs, i, left, mixed, total, e, a, b, d, f, g, k⟩ := h
  exact ⟨cs, i, left, mixed, total, e, a, b, d, f, g, by omega⟩
/-- from S to S' the deck at p alone has changed -/
def Dk (c : Nat) (p : Addr) (S S' : Store) : Prop := ∃ cell, DeckC c cell ∧ S' = sput S p cell
def DkAt (c : Nat) (p : Addr) (S : Store) : Prop := ∃ cell, DeckC c cell ∧ S p = some cell
theorem DkAt.up {c c' : Nat} {p : Addr} {S : Store} (h : DkAt c p S) (hc : c ≤ c') : DkAt c' p S := by
  obtain ⟨cell, a, e⟩ := h
  exact ⟨cell, a.up hc, e⟩
theorem Dk.at {c : Nat} {p : Addr} {S S' : Store} (h : Dk c p S S') : DkAt c p S' := by
  obtain ⟨cell, a, rfl⟩ := h
  exact ⟨cell, a, sput_same⟩
theorem Dk.trans {c c' : Nat} {p : Addr} {S S1 S2 : Store} (h : Dk c p S S1) (h' : Dk c' p S1 S2) : Dk c' p S S2 := by
  obtain ⟨cell, a, rfl⟩ := h
  obtain ⟨cell', a', rfl⟩ := h'
  exact ⟨cell', a', sput_sput⟩
theorem Dk.up {c c' : Nat} {p : Addr} {S S1 : Store} (h : Dk c p S S1) (hc : c ≤ c') : Dk c' p S S1 := by
  obtain ⟨cell, a, e⟩ := h
  exact ⟨cell, a.up hc, e⟩
def Few (c : Nat) : Prop := c < 2 ^ 50
def w_law_next (f1 : On) : WS :=
  (wSeq (wIfS (wAnd (wTst (w2 oEq (w2 oIx (wVar 0) (wC (.int 2))) (wC (.int 0)))) (wTst (w2 oLt (w2 oIx (wVar 0) (wC (.int 1))) (wCall oLen (wCons (w2 oIx (wVar 0) (wC (.int 0))) wNil))))) (wSeq (wSet 2 (w2 oIx (w2 oIx (wVar 0) (wC (.int 0))) (w2 oIx (wVar 0) (wC (.int 1)))))
  (wSeq (wAsg (w2 oAdd (w2 oIx (wVar 0) (wC (.int 1))) (wC (.int 1))) (gS (wVar 0) (wC (.int 1)) oSet))
  (wSeq (wIfS (wTst (w2 oLt (wVar 2) (w2 oPow (wC (.int 10)) (wC (.int 18))))) (wRet (w2 oMod (wCall f1 (wCons (wVar 2) (wCons (w2 oIx (wVar 0) (wC (.int 1))) wNil))) (wVar 1))) wNext)
  (wAsg (wVar 2) (gS (wVar 0) (wC (.int 2)) oSet))))) wNext)
  (wSeq (wIfS (wTst (w2 oGt (w2 oIx (wVar 0) (wC (.int 2))) (wC (.int 0)))) (wSeq (wSet 3 (w2 oMod (w2 oIx (wVar 0) (wC (.int 2))) (wVar 1)))
  (wSeq (wAsg (w2 oFdiv (w2 oIx (wVar 0) (wC (.int 2))) (wVar 1)) (gS (wVar 0) (wC (.int 2)) oSet))
  (wRet (wVar 3)))) wNext)
  (wSeq (wAsg (w2 oAdd (w2 oIx (wVar 0) (wC (.int 3))) (wC (.int 1))) (gS (wVar 0) (wC (.int 3)) oSet))
  (wRet (w2 oMod (wCall f1 (wCons (w2 oIx (wVar 0) (wC (.int 4))) (wCons (w2 oAdd (w2 oIx (wVar 0) (wC (.int 3))) (wC (.int 63))) wNil))) (wVar 1))))))
@[irreducible] def m_law_next : On := fun ds S Q => ∃ (p : Addr) (many : Int) (c : Nat), ds = [.ref p, .int many] ∧ 0 < many ∧ many < 2 ^ 60 ∧ Few c ∧ DkAt c p S ∧ ∀ r S', 0 ≤ r → r < many → Dk (c + 1) p S S' → Q (.int r) S'
theorem in_law_next {ds : List D} {S : Store} {Q : D → Store → Prop} (h : (fun ds S Q => ∃ (p : Addr) (many : Int) (c : Nat), ds = [.ref p, .int many] ∧ 0 < many ∧ many < 2 ^ 60 ∧ Few c ∧ DkAt c p S ∧ ∀ r S', 0 ≤ r → r < many → Dk (c + 1) p S S' → Q (.int r) S' : On) ds S Q) : m_law_next ds S Q := by unfold m_law_next; exact h
theorem pow18 : ((10 : Int) ^ (18 : Int).toNat) = 1000000000000000000 := by decide
theorem v_law_next (ds : List D) (S : Store) (Q : D → Store → Prop) (h : m_law_next ds S Q) : w_law_next m_law_mix (fin Q) (dst 4 ds) S := by
  unfold m_law_next at h
  obtain ⟨p, many, c, rfl, hm, hm2, hf, ⟨_, ⟨cs, i, left, mixed, total, rfl, hl, hi, hi2, hleft, hmix, hmix2⟩, hS⟩, q⟩ := h
  have fm : ∀ (x : Int), 0 ≤ x.fmod many ∧ x.fmod many < many := fun x => ⟨by rw [Int.fmod_eq_emod_of_nonneg _ (by omega)]; exact Int.emod_nonneg _ (by omega), by rw [Int.fmod_eq_emod_of_nonneg _ (by omega)]; exact Int.emod_lt_of_pos _ hm⟩
  have hcf : ∀ x, CFd x many := fun x => by show _ ≠ _; omega
  unfold Few at hf
  -- behind the first branch: what is left is drawn from, or mixed anew
  have rest : ∀ (S1 : Store) (i left : Int) (o2 o3 : Option D), 0 ≤ i → i ≤ cs.length → 0 ≤ left → (∀ r S', 0 ≤ r → r < many → Dk (c + 1) p S1 S' → Q (.int r) S') → S1 p = some (.lst [.lst (cs.map D.int), .int i, .int left, .int mixed, .int total]) →
      wSeq (wIfS (wTst (w2 oGt (w2 oIx (wVar 0) (wC (.int 2))) (wC (.int 0)))) (wSeq (wSet 3 (w2 oMod (w2 oIx (wVar 0) (wC (.int 2))) (wVar 1)))
        (wSeq (wAsg (w2 oFdiv (w2 oIx (wVar 0) (wC (.int 2))) (wVar 1)) (gS (wVar 0) (wC (.int 2)) oSet)) (wRet (wVar 3)))) wNext)
        (wSeq (wAsg (w2 oAdd (w2 oIx (wVar 0) (wC (.int 3))) (wC (.int 1))) (gS (wVar 0) (wC (.int 3)) oSet))
        (wRet (w2 oMod (wCall m_law_mix (wCons (w2 oIx (wVar 0) (wC (.int 4))) (wCons (w2 oAdd (w2 oIx (wVar 0) (wC (.int 3))) (wC (.int 63))) wNil))) (wVar 1)))) (fin Q) [some (.ref p), some (.int many), o2, o3] S1 := by
    intro S1 i left o2 o3 hi hi2 hleft q hS
    refine ⟨_, rfl, _, _, hS, rfl, ite_nf (fun h => ?_) (fun h => ?_)⟩
    · refine ⟨_, rfl, _, _, hS, rfl, _, rfl, (by omega : many ≠ 0), _, rfl, _, _, hS, rfl, _, rfl, hcf left, _, rfl, _, 2, hS, rfl, _, rfl, ?_⟩
      refine q _ _ (fm left).1 (fm left).2 ⟨_, ⟨cs, i, left.fdiv many, mixed, total, rfl, hl, hi, hi2, ?_, hmix, by omega⟩, rfl⟩
      rw [Int.fdiv_eq_ediv_of_nonneg _ (by omega)]
      exact Int.ediv_nonneg hleft (by omega)
    · refine ⟨_, rfl, _, _, hS, rfl, _, rfl, _, 3, hS, rfl, _, rfl, _, _, sput_same, rfl, _, rfl, _, _, sput_same, rfl, use_mix (by omega) (by omega) fun r hr => ⟨_, rfl, (by omega : many ≠ 0), ?_⟩⟩
      exact q _ _ (fm r).1 (fm r).2 ⟨_, ⟨cs, i, left, mixed + 1, total, rfl, hl, hi, hi2, hleft, by omega, by omega⟩, rfl⟩
  refine ⟨_, rfl, _, _, hS, rfl, ?_⟩
  show if decide (left = 0) = true then _ else _
  refine ite_nf (fun h0 => ⟨_, rfl, _, _, hS, rfl, _, rfl, _, _, hS, rfl, _, rfl, ?_⟩) (fun h0 => ?_)
  · refine ite_nf (fun h1 => ?_) (fun h1 => rest S i left none none hi hi2 hleft q hS)
    rw [List.length_map] at h1
    have hn : i.toNat < cs.length := by omega
    have hat : atI (cs.map D.int) i = some (.int cs[i.toNat]) := by
      have e := atI_nat (xs := cs.map D.int) (j := i.toNat) (v := .int cs[i.toNat]) (by simp [hn])
      rwa [show ((i.toNat : Nat) : Int) = i by omega] at e
    refine ⟨_, rfl, _, _, hS, rfl, _, rfl, _, _, hS, rfl, _, _, rfl, hat, _, rfl, _, _, hS, rfl, _, rfl, _, 1, hS, rfl, _, rfl, ⟨by decide, by decide, by decide⟩, ?_⟩
    refine ite_nf (fun h2 => ?_) (fun h2 => ?_)
    · refine ⟨_, rfl, _, rfl, _, _, sput_same, rfl, use_mix (by omega) (by omega) fun r hr => ⟨_, rfl, (by omega : many ≠ 0), ?_⟩⟩
      exact q _ _ (fm r).1 (fm r).2 ⟨_, ⟨cs, i + 1, left, mixed, total, rfl, hl, by omega, by omega, hleft, hmix, by omega⟩, rfl⟩
    · refine ⟨_, rfl, _, rfl, _, 2, sput_same, rfl, ?_⟩
      refine rest _ (i + 1) cs[i.toNat] _ _ (by omega) (by omega) ?_ (fun r S' h1 h2 h3 => q r S' h1 h2 ?_) sput_same
      · rw [pow18] at h2; omega
      · obtain ⟨cell, a, rfl⟩ := h3
        exact ⟨cell, a, by rw [sput_sput, sput_sput]⟩
  · exact rest S i left none none hi hi2 hleft q hS
theorem l_law_mix (ds : List D) (S : Store) (Q : D → Store → Prop) (h : m_law_mix ds S Q) : ds.length = 2 := by unfold m_law_mix at h; obtain ⟨_, _, rfl, _⟩ := h; rfl
theorem l_law_next (ds : List D) (S : Store) (Q : D → Store → Prop) (h : m_law_next ds S Q) : ds.length = 2 := by unfold m_law_next at h; obtain ⟨_, _, _, rfl, _⟩ := h; rfl
theorem use_next {p : Addr} {many : Int} {c : Nat} {S : Store} {Q : D → Store → Prop} (h : DkAt c p S) (hc : c < 2 ^ 49) (hm : 0 < many) (hm2 : many < 2 ^ 60) (k : ∀ r S', 0 ≤ r → r < many → Dk (c + 1) p S S' → Q (.int r) S') : m_law_next [.ref p, .int many] S Q := by
  unfold m_law_next; exact ⟨p, many, c, rfl, hm, hm2, by unfold Few; omega, h, k⟩
theorem len_sc {d : D} {l : List D} {S : Store} {Q : D → Store → Prop} (h : d = .lst l ∨ d = .kls l) (q : Q (.int l.length) S) : oLen [d] S Q := by
  rcases h with rfl | rfl
  · exact ⟨_, rfl, q⟩
  · exact ⟨_, rfl, q⟩
/-- the script, or a list made of it -/
def ScD (d : D) (ns : List Int) : Prop := d = .lst (ns.map D.int) ∨ d = .kls (ns.map D.int)
def w_law_deck : WS :=
  (wRet (wLstM (wCons (wSl (wVar 0) wNoP (wP (wC (.int 63)))) (wCons (wC (.int 0)) (wCons (wC (.int 0)) (wCons (wC (.int 0)) (wCons (wCall oSum (wCons (wSl (wVar 0) wNoP (wP (wC (.int 63)))) wNil)) wNil)))))))
@[irreducible] def m_law_deck : On := fun ds S Q => ∃ (d : D) (ns : List Int), ds = [d] ∧ ScD d ns ∧ ∀ p S', S p = none → Dk 0 p S S' → Q (.ref p) S'
theorem in_law_deck {ds : List D} {S : Store} {Q : D → Store → Prop} (h : (fun ds S Q => ∃ (d : D) (ns : List Int), ds = [d] ∧ ScD d ns ∧ ∀ p S', S p = none → Dk 0 p S S' → Q (.ref p) S' : On) ds S Q) : m_law_deck ds S Q := by unfold m_law_deck; exact h
theorem cutD_to {ns : List Int} {k : Nat} : cutD (ns.map D.int) none (some (k : Int)) = (ns.take k).map D.int := by
  unfold cutD
  rw [HT.sIx_none, HT.sIx_nat, List.length_map, List.drop_zero, Nat.sub_zero, ← List.map_take]
  congr 1
  by_cases h : k ≤ ns.length
  · rw [Nat.min_eq_left h]
  · rw [Nat.min_eq_right (by omega), List.take_of_length_le (Nat.le_refl _), List.take_of_length_le (by omega)]
theorem v_law_deck (ds : List D) (S : Store) (Q : D → Store → Prop) (h : m_law_deck ds S Q) : w_law_deck (fin Q) (dst 1 ds) S := by
  unfold m_law_deck at h
  obtain ⟨d, ns, rfl, hd, q⟩ := h
  have e : cutD (ns.map D.int) none (some (63 : Int)) = (ns.take 63).map D.int := cutD_to (k := 63)
  have fin2 : ∀ p, S p = none → Q (.ref p) (sput S p (.lst [.lst (cutD (ns.map D.int) none (some 63)), .int 0, .int 0, .int 0, .int (ns.take 63).sum])) := fun p hp => by
    rw [e]
    exact q p _ hp ⟨_, ⟨ns.take 63, 0, 0, 0, _, rfl, by rw [List.length_take]; omega, by omega, by omega, by omega, by omega, by omega⟩, rfl⟩
  rcases hd with rfl | rfl
  · exact ⟨_, rfl, _, rfl, _, rfl, _, rfl, ns.take 63, e, by show 5 ≤ sizeLine; decide, fun p hp => fin2 p hp⟩
  · exact ⟨_, rfl, _, rfl, ns.take 63, e, by show 5 ≤ sizeLine; decide, fun p hp => fin2 p hp⟩
theorem l_law_deck (ds : List D) (S : Store) (Q : D → Store → Prop) (h : m_law_deck ds S Q) : ds.length = 1 := by unfold m_law_deck at h; obtain ⟨_, _, rfl, _⟩ := h; rfl
theorem use_deck {d : D} {ns : List Int} {S : Store} {Q : D → Store → Prop} (h : ScD d ns) (q : ∀ p S', S p = none → Dk 0 p S S' → Q (.ref p) S') : m_law_deck [d] S Q := by
  unfold m_law_deck; exact ⟨d, ns, rfl, h, q⟩
def w_law_great (f1 : On) : WS :=
  (wSeq (wSet 1 (wCall f1 (wCons (wVar 0) (wCons (wC (.int 4)) wNil))))
  (wSeq (wIfS (wTst (w2 oEq (wVar 1) (wC (.int 0)))) (wRet (w2 oSub (w2 oSub (w2 oPow (wC (.int 10)) (wC (.int 12))) (wC (.int 1))) (wCall f1 (wCons (wVar 0) (wCons (wC (.int 3)) wNil))))) wNext)
  (wRet (w2 oFdiv (w2 oAdd (w2 oMul (wCall f1 (wCons (wVar 0) (wCons (w2 oPow (wC (.int 10)) (wC (.int 6))) wNil))) (w2 oPow (wC (.int 10)) (wC (.int 6)))) (wCall f1 (wCons (wVar 0) (wCons (w2 oPow (wC (.int 10)) (wC (.int 6))) wNil)))) (w2 oIx (wLst (wCons (wC (.int 1)) (wCons (w2 oPow (wC (.int 10)) (wC (.int 3))) (wCons (w2 oPow (wC (.int 10)) (wC (.int 8))) wNil)))) (w2 oSub (wVar 1) (wC (.int 1))))))))
@[irreducible] def m_law_great : On := fun ds S Q => ∃ (p : Addr) (c : Nat), ds = [.ref p] ∧ c < 2 ^ 40 ∧ DkAt c p S ∧ ∀ r S', 0 ≤ r → r < 10 ^ 12 → Dk (c + 3) p S S' → Q (.int r) S'
theorem in_law_great {ds : List D} {S : Store} {Q : D → Store → Prop} (h : (fun ds S Q => ∃ (p : Addr) (c : Nat), ds = [.ref p] ∧ c < 2 ^ 40 ∧ DkAt c p S ∧ ∀ r S', 0 ≤ r → r < 10 ^ 12 → Dk (c + 3) p S S' → Q (.int r) S' : On) ds S Q) : m_law_great ds S Q := by unfold m_law_great; exact h
theorem l_law_great (ds : List D) (S : Store) (Q : D → Store → Prop) (h : m_law_great ds S Q) : ds.length = 1 := by unfold m_law_great at h; obtain ⟨_, _, rfl, _⟩ := h; rfl
theorem v_law_great (ds : List D) (S : Store) (Q : D → Store → Prop) (h : m_law_great ds S Q) : w_law_great m_law_next (fin Q) (dst 2 ds) S := by
  unfold m_law_great at h
  obtain ⟨p, c, rfl, hc, hS, q⟩ := h
  refine ⟨_, rfl, use_next hS (by omega) (by decide) (by decide) fun r S1 h0 h1 d1 => ⟨_, rfl, ite_nf (fun h => ⟨⟨by decide, by decide, by decide⟩, _, rfl, use_next d1.at (by omega) (by decide) (by decide) fun r2 S2 g0 g1 d2 => ?_⟩) (fun h => ?_)⟩⟩
  · exact q _ _ (by rw [show (10 : Int) ^ (12 : Int).toNat = 1000000000000 by decide]; omega) (by rw [show (10 : Int) ^ (12 : Int).toNat = 1000000000000 by decide]; omega) ((d1.trans d2).up (by omega))
  · refine ⟨_, rfl, ⟨by decide, by decide, by decide⟩, use_next d1.at (by omega) (by decide) (by decide) fun r2 S2 g0 g1 d2 => ⟨⟨by decide, by decide, by decide⟩, ?_⟩⟩
    rw [show (10 : Int) ^ (6 : Int).toNat = 1000000 by decide] at g1
    refine ⟨mulOk (a := 20) (b := 20) (by omega) (by decide), _, rfl, ⟨by decide, by decide, by decide⟩, use_next d2.at (by omega) (by decide) (by decide) fun r3 S3 k0 k1 d3 => ?_⟩
    rw [show (10 : Int) ^ (6 : Int).toNat = 1000000 by decide] at k1
    obtain ⟨s, hs, hat⟩ := atI_int (ns := [1, (10 : Int) ^ (3 : Int).toNat, (10 : Int) ^ (8 : Int).toNat]) (r := r - 1) (by omega) (by simp; omega)
    have hs1 : 1 ≤ s ∧ s ≤ 100000000 := by
      simp only [List.mem_cons, List.not_mem_nil, or_false] at hs
      rcases hs with rfl | rfl | rfl <;> decide
    refine ⟨⟨by decide, by decide, by decide⟩, ⟨by decide, by decide, by decide⟩, by decide, _, rfl, _, _, rfl, hat, cfd_of (b := 30) (by omega) (by omega), ?_⟩
    have e6 : (10 : Int) ^ (6 : Int).toNat = 1000000 := by decide
    have e12 : (10 : Int) ^ 12 = 1000000000000 := by decide
    have ef : (r2 * (10 : Int) ^ (6 : Int).toNat + r3).fdiv s = (r2 * 1000000 + r3) / s := by rw [e6, Int.fdiv_eq_ediv_of_nonneg _ (by omega)]
    have h2 : (r2 * 1000000 + r3) / s ≤ r2 * 1000000 + r3 := Int.ediv_le_self _ (by omega)
    refine q _ _ ?_ ?_ (((d1.trans d2).trans d3).up (by omega))
    · rw [ef]; exact Int.ediv_nonneg (by omega) (by omega)
    · rw [ef, e12]; omega
theorem use_great {p : Addr} {c : Nat} {S : Store} {Q : D → Store → Prop} (h : DkAt c p S) (hc : c < 2 ^ 40) (k : ∀ r S', 0 ≤ r → r < 10 ^ 12 → Dk (c + 3) p S S' → Q (.int r) S') : m_law_great [.ref p] S Q := by
  unfold m_law_great; exact ⟨p, c, rfl, hc, h, k⟩

end ND
set_option Elab.async false
set_option linter.all false
set_option maxRecDepth 100000
namespace ND
open PySem PySem.Spec PyProof.Rows L2
/-! ### fractions by their sizes -/
def bq (n : Nat) (q : Rat) : Prop := q.num.natAbs < 2 ^ n ∧ q.den < 2 ^ n
theorem bq.mono {n m : Nat} {q : Rat} (h : bq n q) (hm : n ≤ m) : bq m q :=
  ⟨Nat.lt_of_lt_of_le h.1 (Nat.pow_le_pow_right (by decide) hm), Nat.lt_of_lt_of_le h.2 (Nat.pow_le_pow_right (by decide) hm)⟩
theorem bq_zero : bq 1 0 := ⟨by decide, by decide⟩
theorem bq_one : bq 1 1 := ⟨by decide, by decide⟩
theorem num_le {t u : Int} (hu : u ≠ 0) : (Rat.divInt t u).num.natAbs ≤ t.natAbs := by
  rw [Rat.num_divInt]
  have hg : 0 < Int.gcd u t := Int.gcd_pos_of_ne_zero_left t hu
  rw [Int.natAbs_ediv_of_dvd (Int.dvd_mul_of_dvd_right (Int.gcd_dvd_right ..) )]
  rw [Int.natAbs_mul, Int.natAbs_sign_of_ne_zero hu, Nat.one_mul]
  exact Nat.div_le_self _ _
theorem den_le {t u : Int} (hu : u ≠ 0) : (Rat.divInt t u).den ≤ u.natAbs := by
  rw [Rat.den_divInt, if_neg hu]
  exact Nat.div_le_self _ _
theorem bq_divInt {t u : Int} {n : Nat} (hu : u ≠ 0) (ht : t.natAbs < 2 ^ n) (hu2 : u.natAbs < 2 ^ n) : bq n (Rat.divInt t u) :=
  ⟨Nat.lt_of_le_of_lt (num_le hu) ht, Nat.lt_of_le_of_lt (den_le hu) hu2⟩
theorem add_lt_pow {x y : Int} {a b : Nat} (hx : x.natAbs < 2 ^ a) (hy : y.natAbs < 2 ^ b) (h : b ≤ a) : (x + y).natAbs < 2 ^ (a + 1) := by
  have h1 : 2 ^ b ≤ 2 ^ a := Nat.pow_le_pow_right (by decide) h
  rw [Nat.pow_succ]
  omega
theorem sub_lt_pow {x y : Int} {a b : Nat} (hx : x.natAbs < 2 ^ a) (hy : y.natAbs < 2 ^ b) (h : b ≤ a) : (x - y).natAbs < 2 ^ (a + 1) := by
  have h1 : 2 ^ b ≤ 2 ^ a := Nat.pow_le_pow_right (by decide) h
  rw [Nat.pow_succ]
  omega
theorem den_abs {q : Rat} {n : Nat} (h : bq n q) : ((q.den : Nat) : Int).natAbs < 2 ^ n := by have := h.2; simpa using this
theorem den_ne {q : Rat} : ((q.den : Nat) : Int) ≠ 0 := by have := q.den_nz; omega
theorem den_mul_ne {a b : Rat} : ((a.den : Nat) : Int) * ((b.den : Nat) : Int) ≠ 0 := Int.mul_ne_zero den_ne den_ne
theorem bq_pos {n : Nat} {q : Rat} (h : bq n q) : 0 < n := by
  rcases Nat.eq_zero_or_pos n with e | e
  · subst e
    have := h.2
    have := q.den_nz
    omega
  · exact e
theorem bq_add {n m : Nat} {a b : Rat} (ha : bq n a) (hb : bq m b) : bq (n + m + 1) (a + b) := by
  rw [Rat.add_def', ← Rat.divInt_ofNat]
  have h1 : ((a.den * b.den : Nat) : Int).natAbs < 2 ^ (n + m) := by rw [Int.natCast_mul]; exact wide_lt (den_abs ha) (den_abs hb)
  refine bq_divInt (by have := a.den_nz; have := b.den_nz; rw [Int.natCast_mul]; exact den_mul_ne) (add_lt_pow (wide_lt ha.1 (den_abs hb)) (wide_lt (a := m) (b := n) hb.1 (den_abs ha)) (by omega)) (Nat.lt_of_lt_of_le h1 (Nat.pow_le_pow_right (by decide) (by omega)))
theorem bq_neg {n : Nat} {a : Rat} (ha : bq n a) : bq n (-a) := ⟨by rw [Rat.neg_num, Int.natAbs_neg]; exact ha.1, ha.2⟩
theorem bq_sub {n m : Nat} {a b : Rat} (ha : bq n a) (hb : bq m b) : bq (n + m + 1) (a - b) := by
  rw [Rat.sub_eq_add_neg]; exact bq_add ha (bq_neg hb)
theorem bq_mul {n m : Nat} {a b : Rat} (ha : bq n a) (hb : bq m b) : bq (n + m) (a * b) := by
  rw [Rat.mul_def', ← Rat.divInt_ofNat, Int.natCast_mul]
  exact bq_divInt den_mul_ne (wide_lt ha.1 hb.1) (wide_lt (den_abs ha) (den_abs hb))
/-! ### the four deeds -/
theorem gok_mul {x y t : Int} {n m : Nat} (hx : x.natAbs < 2 ^ n) (hy : y.natAbs < 2 ^ m) (h : x * y ≠ 0) (hnm : n + m ≤ 900000) (h0 : 0 < n + m) : GOk t (x * y) := gok_of h (wide_lt hx hy) h0 hnm
def w_plus (f1 : On) : WS :=
  (wRet (wCall f1 (wCons (w2 oAdd (w2 oMul (w2 oIx (wVar 0) (wC (.int 0))) (w2 oIx (wVar 1) (wC (.int 1)))) (w2 oMul (w2 oIx (wVar 1) (wC (.int 0))) (w2 oIx (wVar 0) (wC (.int 1))))) (wCons (w2 oMul (w2 oIx (wVar 0) (wC (.int 1))) (w2 oIx (wVar 1) (wC (.int 1)))) wNil))))
@[irreducible] def m_plus : On := fun ds S Q => ∃ (a b : Rat) (n m : Nat), ds = [dQ a, dQ b] ∧ bq n a ∧ bq m b ∧ n + m ≤ 900000 ∧ Q (dQ (a + b)) S
theorem in_plus {ds : List D} {S : Store} {Q : D → Store → Prop} (h : (fun ds S Q => ∃ (a b : Rat) (n m : Nat), ds = [dQ a, dQ b] ∧ bq n a ∧ bq m b ∧ n + m ≤ 900000 ∧ Q (dQ (a + b)) S : On) ds S Q) : m_plus ds S Q := by unfold m_plus; exact h
theorem use_plus {a b : Rat} {n m : Nat} {S : Store} {Q : D → Store → Prop} (ha : bq n a) (hb : bq m b) (h : n + m ≤ 900000) (q : Q (dQ (a + b)) S) : m_plus [dQ a, dQ b] S Q := by unfold m_plus; exact ⟨a, b, n, m, rfl, ha, hb, h, q⟩
theorem l_plus (ds : List D) (S : Store) (Q : D → Store → Prop) (h : m_plus ds S Q) : ds.length = 2 := by unfold m_plus at h; obtain ⟨_, _, _, _, rfl, _⟩ := h; rfl
theorem v_plus (ds : List D) (S : Store) (Q : D → Store → Prop) (h : m_plus ds S Q) : w_plus m_fraction (fin Q) (dst 2 ds) S := by
  unfold m_plus at h
  obtain ⟨a, b, n, m, rfl, ha, hb, hnm, q⟩ := h
  have n0 := bq_pos ha
  have m0 := bq_pos hb
  refine ⟨_, rfl, _, _, rfl, rfl, _, rfl, _, _, rfl, rfl, mulOk ha.1 (den_abs hb) n0 m0 (by omega), _, rfl, _, _, rfl, rfl, _, rfl, _, _, rfl, rfl, mulOk hb.1 (den_abs ha) m0 n0 (by omega), _, rfl, _, _, rfl, rfl, _, rfl, _, _, rfl, rfl, mulOk (den_abs ha) (den_abs hb) n0 m0 (by omega), use_fraction den_mul_ne (gok_mul (den_abs ha) (den_abs hb) den_mul_ne hnm (by omega)) ?_⟩
  rw [← Int.natCast_mul, Rat.divInt_ofNat, ← Rat.add_def']
  exact q
def w_less (f1 : On) : WS :=
  (wRet (wCall f1 (wCons (w2 oSub (w2 oMul (w2 oIx (wVar 0) (wC (.int 0))) (w2 oIx (wVar 1) (wC (.int 1)))) (w2 oMul (w2 oIx (wVar 1) (wC (.int 0))) (w2 oIx (wVar 0) (wC (.int 1))))) (wCons (w2 oMul (w2 oIx (wVar 0) (wC (.int 1))) (w2 oIx (wVar 1) (wC (.int 1)))) wNil))))
@[irreducible] def m_less : On := fun ds S Q => ∃ (a b : Rat) (n m : Nat), ds = [dQ a, dQ b] ∧ bq n a ∧ bq m b ∧ n + m ≤ 900000 ∧ Q (dQ (a - b)) S
theorem in_less {ds : List D} {S : Store} {Q : D → Store → Prop} (h : (fun ds S Q => ∃ (a b : Rat) (n m : Nat), ds = [dQ a, dQ b] ∧ bq n a ∧ bq m b ∧ n + m ≤ 900000 ∧ Q (dQ (a - b)) S : On) ds S Q) : m_less ds S Q := by unfold m_less; exact h
theorem use_less {a b : Rat} {n m : Nat} {S : Store} {Q : D → Store → Prop} (ha : bq n a) (hb : bq m b) (h : n + m ≤ 900000) (q : Q (dQ (a - b)) S) : m_less [dQ a, dQ b] S Q := by unfold m_less; exact ⟨a, b, n, m, rfl, ha, hb, h, q⟩
theorem l_less (ds : List D) (S : Store) (Q : D → Store → Prop) (h : m_less ds S Q) : ds.length = 2 := by unfold m_less at h; obtain ⟨_, _, _, _, rfl, _⟩ := h; rfl
theorem v_less (ds : List D) (S : Store) (Q : D → Store → Prop) (h : m_less ds S Q) : w_less m_fraction (fin Q) (dst 2 ds) S := by
  unfold m_less at h
  obtain ⟨a, b, n, m, rfl, ha, hb, hnm, q⟩ := h
  have n0 := bq_pos ha
  have m0 := bq_pos hb
  refine ⟨_, rfl, _, _, rfl, rfl, _, rfl, _, _, rfl, rfl, mulOk ha.1 (den_abs hb) n0 m0 (by omega), _, rfl, _, _, rfl, rfl, _, rfl, _, _, rfl, rfl, mulOk hb.1 (den_abs ha) m0 n0 (by omega), _, rfl, _, _, rfl, rfl, _, rfl, _, _, rfl, rfl, mulOk (den_abs ha) (den_abs hb) n0 m0 (by omega), use_fraction den_mul_ne (gok_mul (den_abs ha) (den_abs hb) den_mul_ne hnm (by omega)) ?_⟩
  rw [← Int.natCast_mul, Rat.divInt_ofNat, ← Rat.sub_def']
  exact q
def w_times (f1 : On) : WS :=
  (wRet (wCall f1 (wCons (w2 oMul (w2 oIx (wVar 0) (wC (.int 0))) (w2 oIx (wVar 1) (wC (.int 0)))) (wCons (w2 oMul (w2 oIx (wVar 0) (wC (.int 1))) (w2 oIx (wVar 1) (wC (.int 1)))) wNil))))
@[irreducible] def m_times : On := fun ds S Q => ∃ (a b : Rat) (n m : Nat), ds = [dQ a, dQ b] ∧ bq n a ∧ bq m b ∧ n + m ≤ 900000 ∧ Q (dQ (a * b)) S
theorem in_times {ds : List D} {S : Store} {Q : D → Store → Prop} (h : (fun ds S Q => ∃ (a b : Rat) (n m : Nat), ds = [dQ a, dQ b] ∧ bq n a ∧ bq m b ∧ n + m ≤ 900000 ∧ Q (dQ (a * b)) S : On) ds S Q) : m_times ds S Q := by unfold m_times; exact h
theorem use_times {a b : Rat} {n m : Nat} {S : Store} {Q : D → Store → Prop} (ha : bq n a) (hb : bq m b) (h : n + m ≤ 900000) (q : Q (dQ (a * b)) S) : m_times [dQ a, dQ b] S Q := by unfold m_times; exact ⟨a, b, n, m, rfl, ha, hb, h, q⟩
theorem l_times (ds : List D) (S : Store) (Q : D → Store → Prop) (h : m_times ds S Q) : ds.length = 2 := by unfold m_times at h; obtain ⟨_, _, _, _, rfl, _⟩ := h; rfl
theorem v_times (ds : List D) (S : Store) (Q : D → Store → Prop) (h : m_times ds S Q) : w_times m_fraction (fin Q) (dst 2 ds) S := by
  unfold m_times at h
  obtain ⟨a, b, n, m, rfl, ha, hb, hnm, q⟩ := h
  have n0 := bq_pos ha
  have m0 := bq_pos hb
  refine ⟨_, rfl, _, _, rfl, rfl, _, rfl, _, _, rfl, rfl, mulOk ha.1 hb.1 n0 m0 (by omega), _, rfl, _, _, rfl, rfl, _, rfl, _, _, rfl, rfl, mulOk (den_abs ha) (den_abs hb) n0 m0 (by omega), use_fraction den_mul_ne (gok_mul (den_abs ha) (den_abs hb) den_mul_ne hnm (by omega)) ?_⟩
  rw [← Int.natCast_mul, Rat.divInt_ofNat, ← Rat.mul_def']
  exact q
/-! ### compared -/
def cmpQ (a b : Rat) : Int := if a < b then -1 else if b < a then 1 else 0
theorem cross_lt {a b : Rat} : (a.num * (b.den : Nat) - b.num * (a.den : Nat) : Int) < 0 ↔ a < b := by
  rw [Rat.lt_iff]; omega
theorem cross_gt {a b : Rat} : 0 < (a.num * (b.den : Nat) - b.num * (a.den : Nat) : Int) ↔ b < a := by
  rw [Rat.lt_iff]; omega
def w_compared : WS :=
  (wSeq (wSet 2 (w2 oSub (w2 oMul (w2 oIx (wVar 0) (wC (.int 0))) (w2 oIx (wVar 1) (wC (.int 1)))) (w2 oMul (w2 oIx (wVar 1) (wC (.int 0))) (w2 oIx (wVar 0) (wC (.int 1))))))
  (wRet (w2 oSub (wCall oInt (wCons (w2 oGt (wVar 2) (wC (.int 0))) wNil)) (wCall oInt (wCons (w2 oLt (wVar 2) (wC (.int 0))) wNil)))))
@[irreducible] def m_compared : On := fun ds S Q => ∃ (a b : Rat) (n m : Nat), ds = [dQ a, dQ b] ∧ bq n a ∧ bq m b ∧ n + m ≤ 1000000 ∧ Q (.int (cmpQ a b)) S
theorem in_compared {ds : List D} {S : Store} {Q : D → Store → Prop} (h : (fun ds S Q => ∃ (a b : Rat) (n m : Nat), ds = [dQ a, dQ b] ∧ bq n a ∧ bq m b ∧ n + m ≤ 1000000 ∧ Q (.int (cmpQ a b)) S : On) ds S Q) : m_compared ds S Q := by unfold m_compared; exact h
theorem use_compared {a b : Rat} {n m : Nat} {S : Store} {Q : D → Store → Prop} (ha : bq n a) (hb : bq m b) (h : n + m ≤ 1000000) (q : Q (.int (cmpQ a b)) S) : m_compared [dQ a, dQ b] S Q := by unfold m_compared; exact ⟨a, b, n, m, rfl, ha, hb, h, q⟩
theorem l_compared (ds : List D) (S : Store) (Q : D → Store → Prop) (h : m_compared ds S Q) : ds.length = 2 := by unfold m_compared at h; obtain ⟨_, _, _, _, rfl, _⟩ := h; rfl
theorem v_compared (ds : List D) (S : Store) (Q : D → Store → Prop) (h : m_compared ds S Q) : w_compared (fin Q) (dst 3 ds) S := by
  unfold m_compared at h
  obtain ⟨a, b, n, m, rfl, ha, hb, hnm, q⟩ := h
  have n0 := bq_pos ha
  have m0 := bq_pos hb
  refine ⟨_, rfl, _, _, rfl, rfl, _, rfl, _, _, rfl, rfl, mulOk ha.1 (den_abs hb) n0 m0 hnm, _, rfl, _, _, rfl, rfl, _, rfl, _, _, rfl, rfl, mulOk hb.1 (den_abs ha) m0 n0 (by omega), _, rfl, _, rfl, ?_⟩
  show Q (.int _) S
  have e : ((if decide (0 < (a.num * (b.den : Nat) - b.num * (a.den : Nat) : Int)) = true then (1 : Int) else 0) - (if decide ((a.num * (b.den : Nat) - b.num * (a.den : Nat) : Int) < 0) = true then (1 : Int) else 0)) = cmpQ a b := by
    unfold cmpQ
    simp only [decide_eq_true_eq, cross_lt, cross_gt]
    by_cases h1 : a < b
    · have h2 : ¬ b < a := fun h => by grind
      simp [h1, h2]
    · by_cases h2 : b < a <;> simp [h1, h2]
  rw [← e] at q
  exact q
/-! ### products of rows -/
def dot : List Rat → List Rat → Rat
  | a :: as, b :: bs => a * b + dot as bs
  | _, _ => 0
theorem dot_nil_left (bs : List Rat) : dot [] bs = 0 := by cases bs <;> rfl
theorem dot_nil_right (as : List Rat) : dot as [] = 0 := by cases as <;> rfl
theorem dot_cons (a b : Rat) (as bs : List Rat) : dot (a :: as) (b :: bs) = a * b + dot as bs := rfl
theorem dot_snoc : ∀ (as bs : List Rat) (a b : Rat), as.length = bs.length → dot (as ++ [a]) (bs ++ [b]) = dot as bs + a * b
  | [], [], a, b, _ => by show a * b + 0 = 0 + a * b; rw [Rat.add_zero, Rat.zero_add]
  | [], _ :: _, _, _, h => by simp at h
  | _ :: _, [], _, _, h => by simp at h
  | x :: as, y :: bs, a, b, h => by
    have := dot_snoc as bs a b (by simpa using h)
    simp only [List.cons_append, dot_cons, this]
    grind
theorem dot_comm : ∀ (as bs : List Rat), dot as bs = dot bs as
  | [], bs => by rw [dot_nil_left, dot_nil_right]
  | _ :: _, [] => by rw [dot_nil_left, dot_nil_right]
  | a :: as, b :: bs => by rw [dot_cons, dot_cons, dot_comm as bs, Rat.mul_comm]
def rowD (as : List Rat) : List D := as.map dQ
theorem zip_at {as bs : List Rat} {i : Nat} {x : D} (h : (zipD (rowD as) (rowD bs))[i]? = some x) : ∃ a b, as[i]? = some a ∧ bs[i]? = some b ∧ x = .tup [dQ a, dQ b] := by
  unfold zipD rowD at h
  rw [List.getElem?_zipWith, List.getElem?_map, List.getElem?_map] at h
  cases h1 : as[i]? with
  | none => rw [h1] at h; simp at h
  | some a =>
    cases h2 : bs[i]? with
    | none => rw [h1, h2] at h; simp at h
    | some b =>
      rw [h1, h2] at h
      simp at h
      exact ⟨a, b, rfl, rfl, h.symm⟩
theorem divInt_add_same {x y d : Int} (hd : d ≠ 0) : Rat.divInt (x + y) d = Rat.divInt x d + Rat.divInt y d := by
  rw [Rat.divInt_add_divInt _ _ hd hd, ← Int.add_mul, Rat.divInt_mul_right hd]
theorem mul_divInt (a b : Rat) : a * b = Rat.divInt (a.num * b.num) ((a.den : Nat) * (b.den : Nat)) := by rw [Rat.mul_def', ← Rat.divInt_ofNat, Int.natCast_mul]
theorem watch_same {x : D} {l : List D} {S : Store} (h : SC S x l) : watchS x l S := by
  cases x with
  | ref a => exact h
  | _ => exact trivial
def w_product (f1 : On) : WS :=
  (wSeq (wSet 2 (wC (.int 0)))
  (wSeq (wSet 3 (wC (.int 1)))
  (wSeq (forS (wZipI (wCons (wVar 0) (wCons (wVar 1) wNil))) (gT 2 (gConss (gN 4) (gConss (gN 5) gNils))) (wSeq (wSet 6 (w2 oMul (w2 oIx (wVar 4) (wC (.int 1))) (w2 oIx (wVar 5) (wC (.int 1)))))
  (wIfS (wTst (w2 oEq (wVar 6) (wVar 3))) (wAug 2 (oI0 fun i j => .int (i + j)) (w2 oMul (w2 oIx (wVar 4) (wC (.int 0))) (w2 oIx (wVar 5) (wC (.int 0))))) (wIfS (wAnd (wTst (w2 oNe (w2 oIx (wVar 4) (wC (.int 0))) (wC (.int 0)))) (wTst (w2 oNe (w2 oIx (wVar 5) (wC (.int 0))) (wC (.int 0))))) (wSeq (wSet 2 (w2 oAdd (w2 oMul (wVar 2) (wVar 6)) (w2 oMul (w2 oMul (w2 oIx (wVar 4) (wC (.int 0))) (w2 oIx (wVar 5) (wC (.int 0)))) (wVar 3))))
  (wAug 3 (oI CMulW fun i j => .int (i * j)) (wVar 6))) wNext))))
  (wRet (wCall f1 (wCons (wVar 2) (wCons (wVar 3) wNil)))))))
@[irreducible] def m_product : On := fun ds S Q => ∃ (x y : D) (as bs : List Rat) (n m : Nat), ds = [x, y] ∧ SC S x (rowD as) ∧ SC S y (rowD bs) ∧ as.length ≤ bs.length ∧ (∀ a ∈ as, bq n a) ∧ (∀ b ∈ bs, bq m b) ∧ 0 < n ∧ 0 < m ∧ (n + m + 1) * as.length ≤ 1000000 ∧ Q (dQ (dot as bs)) S
theorem in_product {ds : List D} {S : Store} {Q : D → Store → Prop} (h : (fun ds S Q => ∃ (x y : D) (as bs : List Rat) (n m : Nat), ds = [x, y] ∧ SC S x (rowD as) ∧ SC S y (rowD bs) ∧ as.length ≤ bs.length ∧ (∀ a ∈ as, bq n a) ∧ (∀ b ∈ bs, bq m b) ∧ 0 < n ∧ 0 < m ∧ (n + m + 1) * as.length ≤ 1000000 ∧ Q (dQ (dot as bs)) S : On) ds S Q) : m_product ds S Q := by unfold m_product; exact h
theorem use_product {x y : D} {as bs : List Rat} {n m : Nat} {S : Store} {Q : D → Store → Prop} (hx : SC S x (rowD as)) (hy : SC S y (rowD bs)) (hl : as.length = bs.length) (ha : ∀ a ∈ as, bq n a) (hb : ∀ b ∈ bs, bq m b) (n0 : 0 < n) (m0 : 0 < m)
    (h : (n + m + 1) * (as.length + 1) ≤ 900000) (q : Q (dQ (dot as bs)) S) : m_product [x, y] S Q := by unfold m_product; exact ⟨x, y, as, bs, n, m, rfl, hx, hy, Nat.le_of_eq hl, ha, hb, n0, m0, by rw [Nat.mul_succ] at h; omega, q⟩
theorem use_product2 {x y : D} {as bs : List Rat} {n m : Nat} {S : Store} {Q : D → Store → Prop} (hx : SC S x (rowD as)) (hy : SC S y (rowD bs)) (hl : as.length = bs.length) (ha : ∀ a ∈ as, bq n a) (hb : ∀ b ∈ bs, bq m b) (n0 : 0 < n) (m0 : 0 < m)
    (h : (n + m + 1) * as.length ≤ 1000000) (q : Q (dQ (dot as bs)) S) : m_product [x, y] S Q := by unfold m_product; exact ⟨x, y, as, bs, n, m, rfl, hx, hy, Nat.le_of_eq hl, ha, hb, n0, m0, h, q⟩
/-- the first row may be the shorter one -/
theorem use_productS {x y : D} {as bs : List Rat} {n m : Nat} {S : Store} {Q : D → Store → Prop} (hx : SC S x (rowD as)) (hy : SC S y (rowD bs)) (hl : as.length ≤ bs.length) (ha : ∀ a ∈ as, bq n a) (hb : ∀ b ∈ bs, bq m b) (n0 : 0 < n) (m0 : 0 < m)
    (h : (n + m + 1) * as.length ≤ 1000000) (q : Q (dQ (dot as bs)) S) : m_product [x, y] S Q := by unfold m_product; exact ⟨x, y, as, bs, n, m, rfl, hx, hy, hl, ha, hb, n0, m0, h, q⟩
theorem dot_short : ∀ {a z : List Rat}, dot a z = dot a (z.take a.length)
  | [], z => by rw [dot_nil_left, dot_nil_left]
  | x :: a, [] => by rw [List.take_nil]
  | x :: a, y :: z => by
    show x * y + dot a z = x * y + dot a (z.take a.length)
    rw [dot_short]
theorem l_product (ds : List D) (S : Store) (Q : D → Store → Prop) (h : m_product ds S Q) : ds.length = 2 := by unfold m_product at h; obtain ⟨_, _, _, _, _, _, rfl, _⟩ := h; rfl
theorem v_product (ds : List D) (S : Store) (Q : D → Store → Prop) (h : m_product ds S Q) : w_product m_fraction (fin Q) (dst 7 ds) S := by
  unfold m_product at h
  obtain ⟨x, y, as, bs, n, m, rfl, hx, hy, hl, ha, hb, n0, m0, hsz, q⟩ := h
  have key : ∀ i, i < as.length → (n + m + 1) * i + (n + m + 1) ≤ 1000000 := fun i hi => by
    have h1 : (n + m + 1) * (i + 1) ≤ (n + m + 1) * as.length := Nat.mul_le_mul_left _ (by omega)
    rw [Nat.mul_succ] at h1
    omega
  refine ⟨_, rfl, _, rfl, _, _, hx, hy, ?_⟩
  refine for_inv (fun i env S' => S' = S ∧ i ≤ as.length ∧ ∃ (t b : Int) (o4 o5 o6 : Option D), env = [some x, some y, some (.int t), some (.int b), o4, o5, o6] ∧ 0 < b ∧ b.natAbs < 2 ^ ((n + m + 1) * i + 1) ∧ t.natAbs < 2 ^ ((n + m + 1) * i + 1) ∧ Rat.divInt t b = dot (as.take i) (bs.take i))
    ⟨rfl, Nat.zero_le _, 0, 1, none, none, none, rfl, by decide, by simp, by simp, by simp [dot]⟩ ?_ ?_
  · rintro i z env S' K hz ⟨rfl, hi, t, b, o4, o5, o6, rfl, hb0, hb1, ht, he⟩ hK
    obtain ⟨u, v, hu, hv, rfl⟩ := zip_at hz
    have iu : i < as.length := (List.getElem?_eq_some_iff.mp hu).1
    have bu := ha u (List.mem_of_getElem? hu)
    have bv := hb v (List.mem_of_getElem? hv)
    have hk := key i iu
    have hnew : dot (as.take (i + 1)) (bs.take (i + 1)) = dot (as.take i) (bs.take i) + u * v := by
      rw [List.take_add_one, List.take_add_one, hu, hv]
      exact dot_snoc _ _ _ _ (by rw [List.length_take, List.length_take]; omega)
    have hp : ((u.den : Nat) : Int) * ((v.den : Nat) : Int) ≠ 0 := den_mul_ne
    have hp0 : 0 < ((u.den : Nat) : Int) * ((v.den : Nat) : Int) := Int.mul_pos (by have := u.den_pos; omega) (by have := v.den_pos; omega)
    have hpl : (((u.den : Nat) : Int) * ((v.den : Nat) : Int)).natAbs < 2 ^ (n + m) := wide_lt (den_abs bu) (den_abs bv)
    have hxl : (u.num * v.num).natAbs < 2 ^ (n + m) := wide_lt bu.1 bv.1
    have e3 : (n + m + 1) * (i + 1) + 1 = ((n + m + 1) * i + 1 + (n + m)) + 1 := by rw [Nat.mul_succ]; omega
    refine ⟨⟨watch_same hx, watch_same hy⟩, _, rfl, rfl, _, rfl, _, _, rfl, rfl, _, rfl, _, _, rfl, rfl, mulOk (den_abs bu) (den_abs bv) n0 m0 (by omega), _, rfl, _, rfl, ?_⟩
    refine ite_nf (fun hpb => ?_) (fun hpb => ?_)
    · subst hpb
      refine ⟨_, rfl, _, rfl, _, _, rfl, rfl, _, rfl, _, _, rfl, rfl, mulOk bu.1 bv.1 n0 m0 (by omega), hK _ _ ⟨rfl, iu, _, _, _, _, _, rfl, hb0, ?_, ?_, ?_⟩⟩
      · exact Nat.lt_of_lt_of_le hpl (Nat.pow_le_pow_right (by decide) (by omega))
      · rw [e3]; exact add_lt_pow (a := (n + m + 1) * i + 1 + (n + m)) (b := n + m) (Nat.lt_of_lt_of_le ht (Nat.pow_le_pow_right (by decide) (by omega))) hxl (by omega)
      · rw [divInt_add_same hp, he, ← mul_divInt, hnew]
    · refine ⟨_, rfl, _, _, rfl, rfl, ?_⟩
      have zero : u.num = 0 ∨ v.num = 0 → K [some x, some y, some (.int t), some (.int b), some (dQ u), some (dQ v), some (.int (((u.den : Nat) : Int) * ((v.den : Nat) : Int)))] S' := fun hz => by
        refine hK _ _ ⟨rfl, iu, t, b, _, _, _, rfl, hb0, Nat.lt_of_lt_of_le hb1 (Nat.pow_le_pow_right (by decide) (by omega)), Nat.lt_of_lt_of_le ht (Nat.pow_le_pow_right (by decide) (by omega)), ?_⟩
        have : u * v = 0 := by
          rcases hz with hz | hz
          · rw [Rat.num_eq_zero.mp hz, Rat.zero_mul]
          · rw [Rat.num_eq_zero.mp hz, Rat.mul_zero]
        rw [he, hnew, this, Rat.add_zero]
      have more : K [some x, some y, some (.int (t * (((u.den : Nat) : Int) * ((v.den : Nat) : Int)) + u.num * v.num * b)), some (.int (b * (((u.den : Nat) : Int) * ((v.den : Nat) : Int)))), some (dQ u), some (dQ v), some (.int (((u.den : Nat) : Int) * ((v.den : Nat) : Int)))] S' := by
        refine hK _ _ ⟨rfl, iu, _, _, _, _, _, rfl, Int.mul_pos hb0 hp0, ?_, ?_, ?_⟩
        · exact Nat.lt_of_lt_of_le (wide_lt hb1 hpl) (Nat.pow_le_pow_right (by decide) (by omega))
        · rw [e3]; exact add_lt_pow (wide_lt ht hpl) (wide_lt hxl hb1) (by omega)
        · rw [hnew, ← he, mul_divInt u v, Rat.divInt_add_divInt _ _ (by omega) hp]
      refine ite_nn (fun hu0 => ⟨_, rfl, _, _, rfl, rfl, ite_nn (fun hv0 => ?_) (fun hv0 => zero (.inr hv0))⟩) (fun hu0 => zero (.inl hu0))
      refine ⟨_, rfl, _, rfl, mulOk ht hpl (by omega) (by omega) (by omega), _, rfl, _, _, rfl, rfl, _, rfl, _, _, rfl, rfl, mulOk bu.1 bv.1 n0 m0 (by omega), _, rfl, mulOk hxl hb1 (by omega) (by omega) (by omega), ?_⟩
      exact ⟨_, rfl, _, rfl, mulOk hb1 hpl (by omega) (by omega) (by omega), more⟩
  · rintro env S' ⟨rfl, hi, t, b, o4, o5, o6, rfl, hb0, hb1, ht, he⟩
    have len : (zipD (rowD as) (rowD bs)).length = as.length := by unfold zipD rowD; rw [List.length_zipWith, List.length_map, List.length_map]; omega
    refine ⟨⟨watch_same hx, watch_same hy⟩, _, rfl, _, rfl, ?_⟩
    rw [len] at hb1 he hi
    refine use_fraction (by omega) trivial ?_
    rw [he, List.take_length, ← dot_short]
    exact q

end ND
set_option Elab.async false
set_option linter.all false
set_option maxRecDepth 100000
namespace ND
open PySem PySem.Spec PyProof.Rows L2
theorem Dk.refl {c : Nat} {p : Addr} {S : Store} (h : DkAt c p S) : Dk c p S S := by
  obtain ⟨cell, a, e⟩ := h
  refine ⟨cell, a, ?_⟩
  funext b
  unfold sput
  split
  · next hb => rw [hb, e]
  · rfl
theorem Dk.get {c : Nat} {p a : Addr} {S S' : Store} (h : Dk c p S S') (ha : a ≠ p) : S' a = S a := by
  obtain ⟨cell, _, rfl⟩ := h
  exact sput_ne ha
theorem Dk.then {c c' : Nat} {p : Addr} {S S1 S2 : Store} (h : Dk c p S S1) (h' : Dk c' p S1 S2) (hc : c ≤ c') : Dk c' p S S2 := h.trans h'
theorem bq_int {i : Int} {n : Nat} (h : i.natAbs < 2 ^ n) (hn : 0 < n) : bq n (i : Rat) := ⟨h, by
  show 1 < 2 ^ n
  calc 1 < 2 ^ 1 := by decide
    _ ≤ 2 ^ n := Nat.pow_le_pow_right (by decide) hn⟩
theorem dQ_int (i : Int) : dQ (i : Rat) = .tup [.int i, .int 1] := rfl
/-! ### a drawn fraction -/
def w_law_fraction (f1 : On) (f2 : On) (f3 : On) : WS :=
  (wSeq (wSet 2 (wCall f1 (wCons (wVar 0) (wCons (wVar 1) wNil))))
  (wSeq (wIfS (wTst (w2 oLt (wVar 2) (wC (.int 3)))) (wRet (wTup (wCons (w2 oSub (wCall f1 (wCons (wVar 0) (wCons (wC (.int 7)) wNil))) (wC (.int 3))) (wCons (wC (.int 1)) wNil)))) wNext)
  (wSeq (wIfS (wTst (w2 oLt (wVar 2) (wC (.int 5)))) (wRet (wCall f2 (wCons (w2 oSub (wCall f1 (wCons (wVar 0) (wCons (wC (.int 25)) wNil))) (wC (.int 12))) (wCons (w2 oAdd (wC (.int 1)) (wCall f1 (wCons (wVar 0) (wCons (wC (.int 8)) wNil)))) wNil)))) wNext)
  (wSeq (wIfS (wTst (w2 oEq (wVar 2) (wC (.int 5)))) (wRet (wTup (wCons (wC (.int 0)) (wCons (wC (.int 1)) wNil)))) wNext)
  (wRet (wCall f2 (wCons (w2 oMul (wCall f3 (wCons (wVar 0) wNil)) (w2 oIx (wLst (wCons (wC (.int 1)) (wCons (w1 oNeg (wC (.int 1))) wNil))) (wCall f1 (wCons (wVar 0) (wCons (wC (.int 2)) wNil))))) (wCons (wCall (oTwo max2) (wCons (wC (.int 1)) (wCons (wCall f3 (wCons (wVar 0) wNil)) wNil))) wNil))))))))
@[irreducible] def m_law_fraction : On := fun ds S Q => ∃ (p : Addr) (most : Int) (c : Nat), ds = [.ref p, .int most] ∧ 0 < most ∧ most < 2 ^ 50 ∧ c < 2 ^ 39 ∧ DkAt c p S ∧ ∀ q S', bq 40 q → (most ≤ 6 → bq 4 q) → Dk (c + 9) p S S' → Q (dQ q) S'
theorem in_law_fraction {ds : List D} {S : Store} {Q : D → Store → Prop} (h : (fun ds S Q => ∃ (p : Addr) (most : Int) (c : Nat), ds = [.ref p, .int most] ∧ 0 < most ∧ most < 2 ^ 50 ∧ c < 2 ^ 39 ∧ DkAt c p S ∧ ∀ q S', bq 40 q → (most ≤ 6 → bq 4 q) → Dk (c + 9) p S S' → Q (dQ q) S' : On) ds S Q) : m_law_fraction ds S Q := by unfold m_law_fraction; exact h
theorem use_draw {p : Addr} {most : Int} {c : Nat} {S : Store} {Q : D → Store → Prop} (h : DkAt c p S) (hc : c < 2 ^ 39) (h0 : 0 < most) (h1 : most < 2 ^ 50) (k : ∀ q S', bq 40 q → (most ≤ 6 → bq 4 q) → Dk (c + 9) p S S' → Q (dQ q) S') : m_law_fraction [.ref p, .int most] S Q := by
  unfold m_law_fraction; exact ⟨p, most, c, rfl, h0, h1, hc, h, k⟩
theorem l_law_fraction (ds : List D) (S : Store) (Q : D → Store → Prop) (h : m_law_fraction ds S Q) : ds.length = 2 := by unfold m_law_fraction at h; obtain ⟨_, _, _, rfl, _⟩ := h; rfl
theorem v_law_fraction (ds : List D) (S : Store) (Q : D → Store → Prop) (h : m_law_fraction ds S Q) : w_law_fraction m_law_next m_law_f m_law_great (fin Q) (dst 3 ds) S := by
  unfold m_law_fraction at h
  obtain ⟨p, most, c, rfl, hm0, hm1, hc, hS, q⟩ := h
  refine ⟨_, rfl, _, rfl, use_next hS (by omega) hm0 (by omega) fun kind S1 a1 b1 d1 => ⟨_, rfl, ite_nf (fun h3 => ?_) (fun h3 => ?_)⟩⟩
  · refine ⟨_, rfl, use_next d1.at (by omega) (by decide) (by decide) fun r S2 a2 b2 d2 => ⟨by show 2 ≤ sizeLine; decide, ?_⟩⟩
    have hb : bq 4 ((r - 3 : Int) : Rat) := bq_int (by omega) (by decide)
    have := q ((r - 3 : Int) : Rat) S2 (hb.mono (by decide)) (fun _ => hb) ((d1.trans d2).up (by omega))
    exact this
  · refine ⟨_, rfl, ite_nf (fun h5 => ?_) (fun h5 => ?_)⟩
    · refine ⟨_, rfl, use_next d1.at (by omega) (by decide) (by decide) fun r S2 a2 b2 d2 => ⟨_, rfl, use_next d2.at (by omega) (by decide) (by decide) fun u S3 a3 b3 d3 => ?_⟩⟩
      refine use_fraction (by omega) (gok_of (n := 40) (by omega) (by omega)) ?_
      have hb : bq 4 (Rat.divInt (r - 12) (1 + u)) := bq_divInt (by omega) (by omega) (by omega)
      exact q _ S3 (hb.mono (by decide)) (fun _ => hb) (((d1.trans d2).trans d3).up (by omega))
    · refine ⟨_, rfl, ite_nf (fun h6 => ?_) (fun h6 => ?_)⟩
      · refine ⟨by show 2 ≤ sizeLine; decide, ?_⟩
        have := q 0 S1 (bq_zero.mono (by decide)) (fun _ => bq_zero.mono (by decide)) (d1.up (by omega))
        exact this
      · refine ⟨_, rfl, use_great d1.at (by omega) fun g S2 a2 b2 d2 => ⟨by show 2 ≤ sizeLine; decide, _, rfl, use_next d2.at (by omega) (by decide) (by decide) fun s S3 a3 b3 d3 => ?_⟩⟩
        obtain ⟨z, hz, hat⟩ := atI_int (ns := [1, -1]) (r := s) a3 (by simp; omega)
        have hz2 : z = 1 ∨ z = -1 := by simpa using hz
        have e12 : (10 : Int) ^ 12 = 1000000000000 := by decide
        refine ⟨_, _, rfl, hat, mulOk (a := 40) (b := 2) (by omega) (by omega), _, rfl, use_great d3.at (by omega) fun u S4 a4 b4 d4 => ?_⟩
        have hu : max2 1 u ≠ 0 ∧ (max2 1 u).natAbs < 2 ^ 40 := by unfold max2; split <;> omega
        have hg : (g * z).natAbs < 2 ^ 40 := by rcases hz2 with rfl | rfl <;> omega
        refine use_fraction hu.1 (gok_of (n := 40) hu.1 hu.2) ?_
        exact q _ S4 (bq_divInt hu.1 hg hu.2) (fun h => by omega) ((((d1.trans d2).trans d3).trans d4).up (by omega))
/-! ### rows of drawn fractions -/
theorem lc_row {wt : Store → Prop} {g : WG} {te : WE} {env : Slots} {items : List D} {p : Addr} {c k n : Nat} {S : Store} {Q : List D → Store → Prop} (hS : DkAt c p S) (hw : ∀ c' S', Dk c' p S S' → wt S')
    (step : ∀ i x S' (K : D → Store → Prop), items[i]? = some x → Dk (c + k * i) p S S' → (∀ q S'', bq n q → Dk (c + k * (i + 1)) p S' S'' → K (dQ q) S'') → g x env S' fun env1 S1 => te env1 S1 K)
    (done : ∀ qs S', qs.length = items.length → (∀ q ∈ qs, bq n q) → Dk (c + k * items.length) p S S' → Q (rowD qs) S') : lcW wt g wYes te env items [] S Q := by
  refine lc_inv (fun i acc S' => ∃ qs : List Rat, acc = rowD qs ∧ qs.length = i ∧ (∀ q ∈ qs, bq n q) ∧ Dk (c + k * i) p S S') ⟨[], rfl, rfl, by simp, Dk.refl hS⟩ ?_ ?_
  · rintro i x acc S' K1 K2 hx ⟨qs, rfl, hl, hq, d⟩ k1 k2
    refine ⟨hw _ _ d, step i x S' K1 hx d fun q S'' hb d' => k1 _ _ ⟨qs ++ [q], by unfold rowD; rw [List.map_append]; rfl, by rw [List.length_append, hl]; rfl, fun r hr => ?_, d.trans d'⟩⟩
    rcases List.mem_append.mp hr with h | h
    · exact hq r h
    · rw [List.mem_singleton.mp h]; exact hb
  · rintro acc S' ⟨qs, rfl, hl, hq, d⟩
    exact ⟨hw _ _ d, done qs S' hl hq d⟩
/-! ### sums from the last on -/
theorem dot_drop {as bs : List Rat} {i : Nat} (ha : i < as.length) (hb : i < bs.length) : dot (as.drop i) (bs.drop i) = as[i] * bs[i] + dot (as.drop (i + 1)) (bs.drop (i + 1)) := by
  rw [List.drop_eq_getElem_cons ha, List.drop_eq_getElem_cons hb, dot_cons]
theorem rowD_at {as : List Rat} {i : Nat} (h : i < as.length) : atI (rowD as) ((i : Nat) : Int) = some (dQ as[i]) := atI_nat (by unfold rowD; simp [h])
theorem rowD_len {as : List Rat} : (rowD as).length = as.length := by unfold rowD; simp
theorem bq_dot : ∀ {as bs : List Rat} {n m : Nat}, (∀ a ∈ as, bq n a) → (∀ b ∈ bs, bq m b) → bq ((n + m + 1) * as.length + 1) (dot as bs)
  | [], bs, n, m, _, _ => by rw [dot_nil_left]; exact bq_zero.mono (by simp)
  | a :: as, [], n, m, _, _ => by rw [dot_nil_right]; exact bq_zero.mono (by simp)
  | a :: as, b :: bs, n, m, ha, hb => by
    have h1 := bq_dot (as := as) (bs := bs) (fun x h => ha x (List.mem_cons_of_mem _ h)) (fun x h => hb x (List.mem_cons_of_mem _ h))
    have h2 := bq_mul (ha a (List.mem_cons_self ..)) (hb b (List.mem_cons_self ..))
    rw [dot_cons]
    refine (bq_add h2 h1).mono ?_
    rw [List.length_cons, Nat.mul_succ]
    omega
theorem rngD_get {a b : Int} {i : Nat} {x : D} (h : (rngD a b)[i]? = some x) : x = .int (a + (i : Nat)) ∧ i < (b - a).toNat := by
  unfold rngD at h
  rw [List.getElem?_map] at h
  cases e : (List.range (b - a).toNat)[i]? with
  | none => rw [e] at h; cases h
  | some j =>
    rw [e] at h
    cases h
    obtain ⟨h1, h2⟩ := List.getElem?_eq_some_iff.mp e
    rw [List.getElem_range] at h2
    subst h2
    exact ⟨rfl, by simpa using h1⟩
theorem rngD_len {a b : Int} : (rngD a b).length = (b - a).toNat := by unfold rngD; simp
theorem lc_const {g : WG} {te : WE} {env : Slots} {items : List D} {S : Store} {Q : List D → Store → Prop} (d : D) (step : ∀ x (K : D → Store → Prop), K d S → g x env S fun env1 S1 => te env1 S1 K) (done : Q (List.replicate items.length d) S) :
    lcW (fun _ => True) g wYes te env items [] S Q := by
  refine lc_inv (fun i acc S' => S' = S ∧ acc = List.replicate i d) ⟨rfl, rfl⟩ ?_ ?_
  · rintro i x acc S' K1 K2 hx ⟨rfl, rfl⟩ k1 k2
    exact ⟨trivial, step x K1 (k1 _ _ ⟨rfl, by rw [List.replicate_succ']⟩)⟩
  · rintro acc S' ⟨rfl, rfl⟩
    exact ⟨trivial, done⟩
theorem rowD_replicate {n : Nat} {q : Rat} : List.replicate n (dQ q) = rowD (List.replicate n q) := by unfold rowD; rw [List.map_replicate]
theorem dot_zeros : ∀ (as : List Rat) (n : Nat), dot as (List.replicate n 0) = 0
  | [], n => dot_nil_left _
  | a :: as, 0 => dot_nil_right _
  | a :: as, n + 1 => by rw [List.replicate_succ, dot_cons, dot_zeros as n, Rat.mul_zero, Rat.add_zero]

end ND
set_option Elab.async false
set_option linter.all false
set_option maxRecDepth 100000
namespace ND
open PySem PySem.Spec PyProof.Rows L2
/-! ### a local cell over the deck's store -/
theorem sput_comm {S : Store} {a b : Addr} {c c' : Cell} (h : a ≠ b) : sput (sput S a c) b c' = sput (sput S b c') a c := by
  funext x
  unfold sput
  by_cases h1 : x = b
  · subst h1
    rw [if_pos rfl, if_neg (fun e => h e.symm), if_pos rfl]
  · rw [if_neg h1]
    by_cases h2 : x = a
    · rw [if_pos h2, if_pos h2]
    · rw [if_neg h2, if_neg h2, if_neg h1]
theorem Dk.put {c : Nat} {p f : Addr} {S S' : Store} {l l' : Cell} (h : Dk c p (sput S f l) S') (hf : f ≠ p) : Dk c p (sput S f l') (sput S' f l') := by
  obtain ⟨cell, a, rfl⟩ := h
  exact ⟨cell, a, by rw [sput_comm (fun e => hf e.symm), sput_sput]⟩
theorem Dk.drop {c : Nat} {p f : Addr} {S S' : Store} {l : Cell} (h : Dk c p (sput S f l) S') (hf : f ≠ p) (n : S f = none) : ∃ S'', Sub S'' S' ∧ Dk c p S S'' := by
  obtain ⟨cell, a, rfl⟩ := h
  refine ⟨sput S p cell, fun x u e => ?_, cell, a, rfl⟩
  unfold sput at e ⊢
  by_cases hx : x = p
  · rw [if_pos hx] at e ⊢; exact e
  · rw [if_neg hx] at e ⊢
    rw [if_neg (fun z => by rw [z, n] at e; cases e)]
    exact e
theorem Dk.cell {c : Nat} {p f : Addr} {S S' : Store} {l : Cell} (h : Dk c p (sput S f l) S') (hf : f ≠ p) : S' f = some l := by rw [h.get hf, sput_same]
theorem DkAt.ne {c : Nat} {p f : Addr} {S : Store} (h : DkAt c p S) (n : S f = none) : f ≠ p := fun e => by
  obtain ⟨cell, _, e2⟩ := h
  rw [e, e2] at n
  cases n
theorem DkAt.put {c : Nat} {p f : Addr} {S : Store} {l : Cell} (h : DkAt c p S) (hf : f ≠ p) : DkAt c p (sput S f l) := by
  obtain ⟨cell, a, e⟩ := h
  exact ⟨cell, a, by rw [sput_ne (fun z => hf z.symm), e]⟩
/-! ### words -/
def Word (w : List Nat) : Prop := 1 ≤ w.length ∧ w.length ≤ 8 ∧ ∀ c ∈ w, 97 ≤ c ∧ c ≤ 122
def wordD (w : List Nat) : D := .str (SX.S w)
theorem nodup_le {α : Type} [DecidableEq α] : ∀ {l m : List α}, l.Nodup → (∀ x ∈ l, x ∈ m) → l.length ≤ m.length
  | [], m, _, _ => Nat.zero_le _
  | a :: l, m, hn, hs => by
    rw [List.nodup_cons] at hn
    have ha := hs a (List.mem_cons_self ..)
    have := nodup_le (l := l) (m := m.erase a) hn.2 fun x hx => (List.mem_erase_of_ne (fun e => hn.1 (by rw [← e]; exact hx))).mpr (hs x (List.mem_cons_of_mem _ hx))
    rw [List.length_erase_of_mem ha] at this
    have := List.length_pos_of_mem ha
    rw [List.length_cons]
    omega
theorem atI_mem {xs : List D} {r : Int} (h0 : 0 ≤ r) (h1 : r < xs.length) : ∃ x, x ∈ xs ∧ atI xs r = some x := by
  have hn : r.toNat < xs.length := by omega
  refine ⟨xs[r.toNat], List.getElem_mem hn, ?_⟩
  have e := atI_nat (xs := xs) (j := r.toNat) (v := xs[r.toNat]) (by simp [hn])
  rwa [show ((r.toNat : Nat) : Int) = r by omega] at e
theorem atI_sign {xs : List Nat} {r : Int} (h0 : 0 ≤ r) (h1 : r < xs.length) : ∃ x, x ∈ xs ∧ atI xs r = some x := by
  have hn : r.toNat < xs.length := by omega
  refine ⟨xs[r.toNat], List.getElem_mem hn, ?_⟩
  have e := atI_nat (xs := xs) (j := r.toNat) (v := xs[r.toNat]) (by simp [hn])
  rwa [show ((r.toNat : Nat) : Int) = r by omega] at e
theorem join_signs : ∀ cs : List Nat, TL.joinL [] (cs.map fun c => [c]) = cs
  | [] => rfl
  | [c] => rfl
  | c :: d :: r => by
    have := join_signs (d :: r)
    show [c] ++ ([] ++ TL.joinL [] ((d :: r).map fun c => [c])) = _
    rw [this]
    rfl
abbrev letters26 : List Nat := [101, 116, 97, 111, 105, 110, 115, 104, 114, 100, 108, 117, 99, 109, 102, 119, 121, 112, 118, 98, 103, 107, 106, 113, 120, 122]
abbrev words7 : List (List Nat) := [[97], [98], [97, 98], [97, 98, 99], [120], [120, 121, 122], [122, 122]]
theorem S_ne {a b : List Nat} (h : a ≠ b) : SX.S a ≠ SX.S b := fun e => h (SX.S_inj e)
theorem mem_S {x : List Nat} {ws : List (List Nat)} : SX.S x ∈ ws.map SX.S ↔ x ∈ ws := by
  rw [List.mem_map]
  exact ⟨fun ⟨y, h, e⟩ => by rw [← SX.S_inj e]; exact h, fun h => ⟨x, h, rfl⟩⟩
def w_law_names (f1 : On) : WS :=
  (wSeq (wSet 2 (wC (.str "etaoinshrdlucmfwypvbgkjqxz")))
  (wSeq (wSet 3 (wLstM wNil))
  (wSeq (forS (wRng1 (wVar 1)) (gN 4) (wSeq (wSet 5 (wJoin (wC (.str "")) (wLc (wRng1 (w2 oAdd (wC (.int 1)) (wCall f1 (wCons (wVar 0) (wCons (wC (.int 8)) wNil))))) (gN 6) wYes (w2 oIx (wVar 2) (wCall f1 (wCons (wVar 0) (wCons (wC (.int 26)) wNil)))) [6])))
  (wSeq (wIfS (wAnd (wTst (w2 oGt (wVar 4) (wC (.int 0)))) (wTst (w2 oEq (wCall f1 (wCons (wVar 0) (wCons (wC (.int 3)) wNil))) (wC (.int 1))))) (wSet 5 (wSl (w2 oAdd (w2 oIx (wVar 3) (w2 oSub (wVar 4) (wC (.int 1)))) (wC (.str "a"))) wNoP (wP (wC (.int 8))))) wNext)
  (wSeq (wIfS (wTst (w2 (oIn false) (wVar 5) (wVar 3))) (wSet 5 (w2 oIx (wLc (wSeqI (wLst (wCons (wC (.str "a")) (wCons (wC (.str "b")) (wCons (wC (.str "ab")) (wCons (wC (.str "abc")) (wCons (wC (.str "x")) (wCons (wC (.str "xyz")) (wCons (wC (.str "zz")) wNil))))))))) (gN 7) (wTst (w2 (oIn true) (wVar 7) (wVar 3))) (wVar 7) [7]) (wC (.int 0)))) wNext)
  (wDrop (wM oAppend (wVar 3) (wCons (wVar 5) wNil)))))))
  (wRet (wFz (wCall oTuple (wCons (wVar 3) wNil)))))))
@[irreducible] def m_law_names : On := fun ds S0 Q => ∃ (p : Addr) (many : Int) (c : Nat), ds = [.ref p, .int many] ∧ 0 ≤ many ∧ many ≤ 6 ∧ c < 2 ^ 39 ∧ DkAt c p S0 ∧
  ∀ (ws : List (List Nat)) S', (ws.length : Int) = many → (∀ w ∈ ws, Word w) → ws.Nodup → Dk (c + 60) p S0 S' → Q (.tup (ws.map wordD)) S'
theorem in_law_names {ds : List D} {S : Store} {Q : D → Store → Prop} (h : (fun ds S0 Q => ∃ (p : Addr) (many : Int) (c : Nat), ds = [.ref p, .int many] ∧ 0 ≤ many ∧ many ≤ 6 ∧ c < 2 ^ 39 ∧ DkAt c p S0 ∧
  ∀ (ws : List (List Nat)) S', (ws.length : Int) = many → (∀ w ∈ ws, Word w) → ws.Nodup → Dk (c + 60) p S0 S' → Q (.tup (ws.map wordD)) S' : On) ds S Q) : m_law_names ds S Q := by unfold m_law_names; exact h
theorem use_names {p : Addr} {many : Int} {c : Nat} {S0 : Store} {Q : D → Store → Prop} (h : DkAt c p S0) (hc : c < 2 ^ 39) (h0 : 0 ≤ many) (h1 : many ≤ 6)
    (k : ∀ (ws : List (List Nat)) S', (ws.length : Int) = many → (∀ w ∈ ws, Word w) → ws.Nodup → Dk (c + 60) p S0 S' → Q (.tup (ws.map wordD)) S') : m_law_names [.ref p, .int many] S0 Q := by
  unfold m_law_names; exact ⟨p, many, c, rfl, h0, h1, hc, h, k⟩
theorem l_law_names (ds : List D) (S0 : Store) (Q : D → Store → Prop) (h : m_law_names ds S0 Q) : ds.length = 2 := by unfold m_law_names at h; obtain ⟨_, _, _, rfl, _⟩ := h; rfl
theorem v_law_names (ds : List D) (S0 : Store) (Q : D → Store → Prop) (h : m_law_names ds S0 Q) : w_law_names m_law_next (fin Q) (dst 8 ds) S0 := by
  unfold m_law_names at h
  obtain ⟨p, many, c, rfl, h0, h6, hc, hS, q⟩ := h
  refine ⟨by show 0 ≤ sizeLine; decide, fun f hf => ⟨_, rfl, ⟨by omega, by omega⟩, ?_⟩⟩
  have hfp : f ≠ p := hS.ne hf
  have hlen : (rngD 0 many).length = many.toNat := by rw [rngD_len, Int.sub_zero]
  refine for_inv (fun k env S' => ∃ (ws : List (List Nat)) (o4 o5 o6 o7 : Option D), env = [some (.ref p), some (.int many), some (.str "etaoinshrdlucmfwypvbgkjqxz"), some (.ref f), o4, o5, o6, o7] ∧ ws.length = k ∧ (∀ w ∈ ws, Word w) ∧ ws.Nodup ∧ Dk (c + 10 * k) p (sput S0 f (.lst (ws.map wordD))) S')
    ⟨[], _, _, _, _, rfl, rfl, by simp, List.nodup_nil, Dk.refl (hS.put hfp)⟩ ?_ ?_
  · rintro k x env S1 K hx ⟨ws, o4, o5, o6, o7, rfl, hk, hw, hnd, d1⟩ hK
    obtain ⟨rfl, hk2⟩ := rngD_get hx
    have hk6 : k < 6 := by omega
    refine ⟨trivial, ⟨_, rfl⟩, _, rfl, use_next d1.at (by omega) (by decide) (by decide) fun r S2 r0 r1 d2 => ⟨⟨by omega, by omega⟩, ?_, ?_⟩⟩
    · rw [rngD_len]; exact Nat.le_trans (show (1 + r - 0).toNat ≤ 8 by omega) (by decide)
    have len2 : (rngD 0 (1 + r)).length = (1 + r).toNat := by rw [rngD_len, Int.sub_zero]
    refine lc_inv (fun i acc S' => ∃ cs : List Nat, acc = cs.map (fun c => D.str ⟨#[c]⟩) ∧ cs.length = i ∧ (∀ c ∈ cs, 97 ≤ c ∧ c ≤ 122) ∧ Dk (c + 10 * k + 1 + i) p S2 S') ⟨[], rfl, rfl, by simp, Dk.refl d2.at⟩ ?_ ?_
    · rintro i x acc S' K1 K2 hx ⟨cs, rfl, hcs, hlow, d3⟩ k1 k2
      have hi : i < (1 + r).toNat := by rw [← len2]; exact (List.getElem?_eq_some_iff.mp hx).1
      refine ⟨trivial, _, rfl, _, rfl, use_next d3.at (by omega) (by decide) (by decide) fun s S4 s0 s1 d4 => ?_⟩
      obtain ⟨g, hg, hat⟩ := atI_sign (xs := letters26) (r := s) s0 (by simpa using s1)
      refine ⟨g, hat, by decide, k1 _ _ ⟨cs ++ [g], by simp, by simp [hcs], fun c hc => ?_, d3.trans (d4.up (by omega))⟩⟩
      rcases List.mem_append.mp hc with h | h
      · exact hlow c h
      · rw [List.mem_singleton.mp h]
        have : ∀ c ∈ letters26, 97 ≤ c ∧ c ≤ 122 := by decide
        exact this g hg
    rintro acc S3 ⟨cs, rfl, hcs, hlow, d3⟩
    rw [len2] at hcs d3
    have hd3 : Dk (c + 10 * k + 9) p (sput S0 f (.lst (ws.map wordD))) S3 := (d1.trans d2).trans (d3.up (by omega))
    have hcell : S3 f = some (.lst (ws.map wordD)) := hd3.cell hfp
    refine ⟨trivial, "", cs.map (fun c => SX.S [c]), rfl, ?_, ?_, ?_⟩
    · show cs.map _ = (cs.map _).map _
      rw [List.map_map]
      rfl
    · have e1 : ((cs.map (fun c => SX.S [c])).map (·.length)).sum = cs.length := by
        rw [List.map_map]
        have : ∀ l : List Nat, (l.map ((fun x : Str => x.length) ∘ fun c => SX.S [c])).sum = l.length := fun l => by
          induction l with
          | nil => rfl
          | cons a l ih => rw [List.map_cons, List.sum_cons, ih, List.length_cons]; show 1 + l.length = _; omega
        exact this cs
      have e2 : ("" : Str).length = 0 := by decide
      rw [e1, e2, hcs]
      omega
    have ej : Txt.join "" (cs.map (fun c => SX.S [c])) = SX.S cs := by
      have e0 : ("" : Str) = SX.S [] := by decide
      have e1 : cs.map (fun c => SX.S [c]) = (cs.map fun c => [c]).map SX.S := by rw [List.map_map]; rfl
      rw [e0, e1, SX.join_S, join_signs]
    rw [ej]
    have w0 : Word cs := ⟨by omega, by omega, hlow⟩
    -- the end: a word not in the list is put behind
    have last : ∀ (w : List Nat) (o6 o7 : Option D) S4, Word w → w ∉ ws → Dk (c + 10 * k + 10) p (sput S0 f (.lst (ws.map wordD))) S4 →
        wDrop (wM oAppend (wVar 3) (wCons (wVar 5) wNil)) ⟨K, Q⟩ [some (.ref p), some (.int many), some (.str "etaoinshrdlucmfwypvbgkjqxz"), some (.ref f), some (.int (0 + (k : Nat))), some (wordD w), o6, o7] S4 := by
      intro w o6 o7 S4 hw4 hnew d4
      have hc4 : S4 f = some (.lst (ws.map wordD)) := d4.cell hfp
      refine ⟨_, rfl, ⟨_, hc4⟩, _, rfl, _, _, hc4, rfl, ?_, ?_⟩
      · rw [List.length_map]; exact Nat.lt_of_lt_of_le (show ws.length < 7 by omega) (by decide)
      · intro a ha
        cases ha
        refine hK _ _ ⟨ws ++ [w], _, _, _, _, rfl, by simp [hk], fun v hv => ?_, ?_, ?_⟩
        · rcases List.mem_append.mp hv with h | h
          · exact hw v h
          · rw [List.mem_singleton.mp h]; exact hw4
        · rw [List.nodup_append]
          refine ⟨hnd, by simp, fun a ha b hb => ?_⟩
          rw [List.mem_singleton.mp hb]
          exact fun e => hnew (by rw [← e]; exact ha)
        · have := d4.put (l' := .lst ((ws ++ [w]).map wordD)) hfp
          rw [List.map_append] at this ⊢
          exact this.up (by omega)
    have inn : ∀ (w : List Nat) (o6 o7 : Option D) S4, Word w → Dk (c + 10 * k + 10) p (sput S0 f (.lst (ws.map wordD))) S4 →
        wSeq (wIfS (wTst (w2 (oIn false) (wVar 5) (wVar 3))) (wSet 5 (w2 oIx (wLc (wSeqI (wLst (wCons (wC (.str "a")) (wCons (wC (.str "b")) (wCons (wC (.str "ab")) (wCons (wC (.str "abc")) (wCons (wC (.str "x")) (wCons (wC (.str "xyz")) (wCons (wC (.str "zz")) wNil))))))))) (gN 7) (wTst (w2 (oIn true) (wVar 7) (wVar 3))) (wVar 7) [7]) (wC (.int 0)))) wNext)
          (wDrop (wM oAppend (wVar 3) (wCons (wVar 5) wNil))) ⟨K, Q⟩ [some (.ref p), some (.int many), some (.str "etaoinshrdlucmfwypvbgkjqxz"), some (.ref f), some (.int (0 + (k : Nat))), some (wordD w), o6, o7] S4 := by
      intro w o6 o7 S4 hw4 d4
      have hc4 : S4 f = some (.lst (ws.map wordD)) := d4.cell hfp
      have hsc : SC S4 (.ref f) ((ws.map SX.S).map D.str) := by
        show S4 f = _
        rw [hc4, List.map_map]
        rfl
      refine ⟨_, rfl, _, rfl, str_in hsc (ite_nf (fun hin => ?_) (fun hin => ?_))⟩
      · refine ⟨by show 7 ≤ sizeLine; decide, _, rfl, by show 7 ≤ sizeLine; decide, ?_⟩
        refine lc_inv (fun i acc S' => S' = S4 ∧ acc = ((words7.take i).filter (fun v => decide (v ∉ ws))).map wordD) ⟨rfl, rfl⟩ ?_ ?_
        · rintro i x acc S' K1 K2 hx ⟨rfl, rfl⟩ k1 k2
          have hx' : (words7.map wordD)[i]? = some x := hx
          rw [List.getElem?_map] at hx'
          cases hv : words7[i]? with
          | none => rw [hv] at hx'; cases hx'
          | some v =>
            rw [hv] at hx'
            cases hx'
            refine ⟨trivial, _, rfl, _, rfl, str_in hsc ?_⟩
            show if (!decide (SX.S v ∈ ws.map SX.S)) = true then _ else _
            rw [show decide (SX.S v ∈ ws.map SX.S) = decide (v ∈ ws) from by rw [Bool.eq_iff_iff, decide_eq_true_iff, decide_eq_true_iff]; exact mem_S]
            refine ite_nn (fun hn => ?_) (fun hn => ?_)
            · refine ⟨_, rfl, k1 _ _ ⟨rfl, ?_⟩⟩
              rw [List.take_add_one, hv, List.filter_append, List.map_append]
              congr 1
              show _ = (List.filter _ [v]).map wordD
              rw [List.filter_cons_of_pos (by simpa using hn)]
              rfl
            · refine k2 _ ⟨rfl, ?_⟩
              rw [List.take_add_one, hv, List.filter_append, List.map_append]
              show _ = _ ++ (List.filter _ [v]).map wordD
              rw [List.filter_cons_of_neg (by simpa using hn)]
              simp
        · rintro acc S' ⟨rfl, rfl⟩
          refine ⟨trivial, ?_⟩
          have ht : words7.take 7 = words7 := rfl
          show oIx (.lst (((words7.take 7).filter (fun v => decide (v ∉ ws))).map wordD)) (.int 0) _ _
          rw [ht]
          cases hF : words7.filter (fun v => decide (v ∉ ws)) with
          | nil =>
            exfalso
            have hsub : ∀ x ∈ words7, x ∈ ws := fun x hx => by
              have := List.filter_eq_nil_iff.mp hF x hx
              simpa using this
            have := nodup_le (l := words7) (m := ws) (by decide) hsub
            have : words7.length = 7 := rfl
            omega
          | cons v rest =>
            have hv : v ∈ words7.filter (fun v => decide (v ∉ ws)) := by rw [hF]; exact List.mem_cons_self ..
            rw [List.mem_filter] at hv
            have hvw : Word v := by
              have : ∀ v ∈ words7, Word v := by unfold Word; decide
              exact this v hv.1
            refine ⟨_, _, rfl, (atI_nat (xs := (v :: rest).map wordD) (j := 0) (v := wordD v) rfl), ?_⟩
            exact last v _ _ _ hvw (by simpa using hv.2) d4
      · exact last w _ _ _ hw4 (fun h => hin (mem_S.mpr h)) d4
    -- now and then an old word with an a behind
    refine ⟨_, rfl, ite_nf (fun hk0 => ?_) (fun hk0 => ?_)⟩
    · refine ⟨_, rfl, use_next hd3.at (by omega) (by decide) (by decide) fun s S5 s0 s1 d5 => ?_⟩
      have d6 := hd3.trans (d5.up (show _ ≤ c + 10 * k + 10 by omega))
      refine ite_nf (fun h1 => ?_) (fun h1 => inn cs _ _ S5 w0 d6)
      have hkk : k - 1 < ws.length := by omega
      have hat : atI (ws.map wordD) ((0 + (k : Nat) : Int) - 1) = some (wordD ws[k - 1]) := by
        have e := atI_nat (xs := ws.map wordD) (j := k - 1) (v := wordD ws[k - 1]) (by simp [hkk])
        rwa [show (((k - 1 : Nat)) : Int) = (0 + (k : Nat) : Int) - 1 by omega] at e
      have ew : SX.S ws[k - 1] ++ ("a" : Str) = SX.S (ws[k - 1] ++ [97]) := by rw [show ("a" : Str) = SX.S [97] by decide, SX.S_cat]
      have hwk := hw _ (List.getElem_mem hkk)
      refine ⟨_, rfl, _, rfl, _, _, d6.cell hfp, hat, ?_, ?_⟩
      · show (SX.S ws[k - 1]).length + ("a" : Str).length ≤ sizeLine
        rw [SX.S_len]
        exact Nat.le_trans (show ws[k - 1].length + 1 ≤ 9 by have := hwk.2.1; omega) (by decide)
      show _ ∧ _
      rw [ew]
      refine ⟨?_, ?_⟩
      · rw [SX.S_len, List.length_append]
        exact Nat.le_trans (show ws[k - 1].length + 1 ≤ 9 by have := hwk.2.1; omega) (by decide)
      · show wSeq _ _ _ _ _
        rw [C8.cutS_slice, SX.slice_to (by decide)]
        refine inn _ _ _ S5 ⟨?_, ?_, fun c hc => ?_⟩ d6
        · rw [List.length_take, List.length_append]; have := hwk.1; simp; omega
        · rw [List.length_take]; exact Nat.min_le_left _ _
        · rcases List.mem_append.mp (List.mem_of_mem_take hc) with h | h
          · exact hwk.2.2 c h
          · rw [List.mem_singleton.mp h]; decide
    · exact inn cs _ _ S3 w0 (hd3.up (by omega))
  · rintro env S' ⟨ws, o4, o5, o6, o7, rfl, hk, hw, hnd, d⟩
    rw [hlen] at hk d
    obtain ⟨S'', hs, d2⟩ := d.drop hfp hf
    refine ⟨trivial, _, rfl, _, d.cell hfp, ?_⟩
    exact ⟨_, S'', hs, .same _, q ws S'' (by omega) hw hnd (d2.up (by omega))⟩

end ND
set_option Elab.async false
set_option linter.all false
set_option maxRecDepth 100000
namespace ND
open PySem PySem.Spec PyProof.Rows L2
/-! ### tables -/
def rowsD (rows : List (List Rat)) : List D := rows.map fun r => D.tup (rowD r)
theorem rowsD_len {rows : List (List Rat)} : (rowsD rows).length = rows.length := by unfold rowsD; simp
theorem neg_dQ (q : Rat) : D.tup [.int (0 - q.num), .int ((q.den : Nat) : Int)] = dQ (-q) := by
  unfold dQ
  rw [Rat.neg_num, Rat.neg_den, Int.zero_sub]
def leftQ (rows : List (List Rat)) (wish weights : List Rat) : List Rat := List.zipWith (fun r w => w - dot r weights) rows wish
theorem zip_rows {rows : List (List Rat)} {wish : List Rat} {i : Nat} {x : D} (h : (zipD (rowsD rows) (rowD wish))[i]? = some x) : ∃ r w, rows[i]? = some r ∧ wish[i]? = some w ∧ x = .tup [.tup (rowD r), dQ w] := by
  unfold zipD rowsD rowD at h
  rw [List.getElem?_zipWith, List.getElem?_map, List.getElem?_map] at h
  cases h1 : rows[i]? with
  | none => rw [h1] at h; simp at h
  | some a =>
    cases h2 : wish[i]? with
    | none => rw [h1, h2] at h; simp at h
    | some b =>
      rw [h1, h2] at h
      simp at h
      exact ⟨a, b, rfl, rfl, h.symm⟩
theorem zip_rows_len {rows : List (List Rat)} {wish : List Rat} : (zipD (rowsD rows) (rowD wish)).length = min rows.length wish.length := by unfold zipD rowsD rowD; simp
/-- .. sizes of a table: entries, wish, weights -/
structure Fit (rows : List (List Rat)) (wish weights : List Rat) (n k m : Nat) : Prop where
  len : rows.length = wish.length
  wid : ∀ r ∈ rows, r.length = weights.length
  ent : ∀ r ∈ rows, ∀ q ∈ r, bq n q
  wsh : ∀ q ∈ wish, bq k q
  wts : ∀ q ∈ weights, bq m q
  n0 : 0 < n
  m0 : 0 < m
  sz : (n + m + 1) * (weights.length + 1) + k ≤ 900000
  line : rows.length ≤ 1000
theorem leftQ_snoc {rows : List (List Rat)} {wish weights : List Rat} {i : Nat} {r : List Rat} {w : Rat} (hr : rows[i]? = some r) (hw : wish[i]? = some w) :
    (leftQ rows wish weights).take (i + 1) = (leftQ rows wish weights).take i ++ [w - dot r weights] := by
  have : (leftQ rows wish weights)[i]? = some (w - dot r weights) := by
    unfold leftQ
    rw [List.getElem?_zipWith, hr, hw]
  rw [List.take_add_one, this]
  rfl
theorem leftQ_len {rows : List (List Rat)} {wish weights : List Rat} : (leftQ rows wish weights).length = min rows.length wish.length := by unfold leftQ; simp
theorem bq_left {rows : List (List Rat)} {wish weights : List Rat} {n k m : Nat} (h : Fit rows wish weights n k m) : ∀ q ∈ leftQ rows wish weights, bq (k + (n + m + 1) * weights.length + 2) q := by
  intro q hq
  obtain ⟨i, hi⟩ := List.mem_iff_getElem?.mp hq
  unfold leftQ at hi
  rw [List.getElem?_zipWith] at hi
  cases h1 : rows[i]? with
  | none => rw [h1] at hi; cases hi
  | some r =>
    cases h2 : wish[i]? with
    | none => rw [h1, h2] at hi; cases hi
    | some w =>
      rw [h1, h2] at hi
      cases hi
      have hr := List.mem_of_getElem? h1
      have := bq_dot (h.ent _ hr) h.wts
      rw [h.wid _ hr] at this
      exact (bq_sub (h.wsh _ (List.mem_of_getElem? h2)) this).mono (by omega)
def w_left_of (f1 : On) (f2 : On) : WS :=
  (wSeq (wAsg (wVar 0) (gT 3 (gConss (gN 2) (gConss (gN 3) (gConss (gN 4) gNils)))))
  (wRet (wCall oTuple (wCons (wLc (wZipI (wCons (wVar 3) (wCons (wVar 4) wNil))) (gT 2 (gConss (gN 5) (gConss (gN 6) gNils))) wYes (wCall f2 (wCons (wVar 6) (wCons (wCall f1 (wCons (wVar 5) (wCons (wVar 1) wNil))) wNil))) [5, 6]) wNil))))
@[irreducible] def m_left_of : On := fun ds S Q => ∃ (nm wd : D) (rows : List (List Rat)) (wish weights : List Rat) (n k m : Nat), ds = [.tup [nm, .tup (rowsD rows), .tup (rowD wish)], wd] ∧ SC S wd (rowD weights) ∧ Fit rows wish weights n k m ∧ Q (.tup (rowD (leftQ rows wish weights))) S
theorem in_left_of {ds : List D} {S : Store} {Q : D → Store → Prop} (h : (fun ds S Q => ∃ (nm wd : D) (rows : List (List Rat)) (wish weights : List Rat) (n k m : Nat), ds = [.tup [nm, .tup (rowsD rows), .tup (rowD wish)], wd] ∧ SC S wd (rowD weights) ∧ Fit rows wish weights n k m ∧ Q (.tup (rowD (leftQ rows wish weights))) S : On) ds S Q) : m_left_of ds S Q := by unfold m_left_of; exact h
theorem use_left {nm wd : D} {rows : List (List Rat)} {wish weights : List Rat} {n k m : Nat} {S : Store} {Q : D → Store → Prop} (hs : SC S wd (rowD weights)) (f : Fit rows wish weights n k m) (q : Q (.tup (rowD (leftQ rows wish weights))) S) :
    m_left_of [.tup [nm, .tup (rowsD rows), .tup (rowD wish)], wd] S Q := by unfold m_left_of; exact ⟨nm, wd, rows, wish, weights, n, k, m, rfl, hs, f, q⟩
theorem l_left_of (ds : List D) (S : Store) (Q : D → Store → Prop) (h : m_left_of ds S Q) : ds.length = 2 := by unfold m_left_of at h; obtain ⟨_, _, _, _, _, _, _, _, rfl, _⟩ := h; rfl
theorem v_left_of (ds : List D) (S : Store) (Q : D → Store → Prop) (h : m_left_of ds S Q) : w_left_of m_product m_less (fin Q) (dst 7 ds) S := by
  unfold m_left_of at h
  obtain ⟨nm, wd, rows, wish, weights, n, k, m, rfl, hs, f, q⟩ := h
  refine ⟨_, rfl, _, rfl, rfl, _, rfl, _, rfl, _, _, rfl, rfl, ?_, ?_⟩
  · rw [zip_rows_len]; exact Nat.le_trans (Nat.min_le_left _ _) (Nat.le_trans f.line (by decide))
  refine lc_inv (fun i acc S' => S' = S ∧ acc = rowD ((leftQ rows wish weights).take i)) ⟨rfl, rfl⟩ ?_ ?_
  · rintro i x acc S' K1 K2 hx ⟨rfl, rfl⟩ k1 k2
    obtain ⟨r, w, hr, hw, rfl⟩ := zip_rows hx
    have rm := List.mem_of_getElem? hr
    have wm := List.mem_of_getElem? hw
    have hl := f.wid r rm
    have hsz := f.sz
    have hsz2 : (n + m + 1) * (weights.length + 1) = (n + m + 1) * weights.length + (n + m + 1) := Nat.mul_succ ..
    have hd := bq_dot (f.ent r rm) f.wts
    rw [hl] at hd
    refine ⟨⟨trivial, trivial⟩, _, rfl, rfl, _, rfl, _, rfl, _, rfl, use_product (as := r) (bs := weights) rfl hs hl (f.ent r rm) f.wts f.n0 f.m0 (by rw [hl]; omega) (use_less (f.wsh w wm) hd (by omega) (k1 _ _ ⟨rfl, ?_⟩))⟩
    rw [leftQ_snoc hr hw]
    unfold rowD
    rw [List.map_append]
    rfl
  · rintro acc S' ⟨rfl, rfl⟩
    refine ⟨⟨trivial, trivial⟩, _, rfl, ?_⟩
    rw [zip_rows_len, ← leftQ_len (weights := weights), List.take_length]
    exact q
def w_far_of (f1 : On) (f2 : On) : WS :=
  (wSeq (wSet 2 (wCall f1 (wCons (wVar 0) (wCons (wVar 1) wNil))))
  (wRet (wCall f2 (wCons (wVar 2) (wCons (wVar 2) wNil)))))
@[irreducible] def m_far_of : On := fun ds S Q => ∃ (nm wd : D) (rows : List (List Rat)) (wish weights : List Rat) (n k m : Nat), ds = [.tup [nm, .tup (rowsD rows), .tup (rowD wish)], wd] ∧ SC S wd (rowD weights) ∧ Fit rows wish weights n k m ∧
  (2 * (k + (n + m + 1) * weights.length + 2) + 1) * (rows.length + 1) ≤ 900000 ∧ Q (dQ (dot (leftQ rows wish weights) (leftQ rows wish weights))) S
theorem in_far_of {ds : List D} {S : Store} {Q : D → Store → Prop} (h : (fun ds S Q => ∃ (nm wd : D) (rows : List (List Rat)) (wish weights : List Rat) (n k m : Nat), ds = [.tup [nm, .tup (rowsD rows), .tup (rowD wish)], wd] ∧ SC S wd (rowD weights) ∧ Fit rows wish weights n k m ∧
  (2 * (k + (n + m + 1) * weights.length + 2) + 1) * (rows.length + 1) ≤ 900000 ∧ Q (dQ (dot (leftQ rows wish weights) (leftQ rows wish weights))) S : On) ds S Q) : m_far_of ds S Q := by unfold m_far_of; exact h
theorem use_far {nm wd : D} {rows : List (List Rat)} {wish weights : List Rat} {n k m : Nat} {S : Store} {Q : D → Store → Prop} (hs : SC S wd (rowD weights)) (f : Fit rows wish weights n k m) (sz : (2 * (k + (n + m + 1) * weights.length + 2) + 1) * (rows.length + 1) ≤ 900000)
    (q : Q (dQ (dot (leftQ rows wish weights) (leftQ rows wish weights))) S) : m_far_of [.tup [nm, .tup (rowsD rows), .tup (rowD wish)], wd] S Q := by unfold m_far_of; exact ⟨nm, wd, rows, wish, weights, n, k, m, rfl, hs, f, sz, q⟩
theorem l_far_of (ds : List D) (S : Store) (Q : D → Store → Prop) (h : m_far_of ds S Q) : ds.length = 2 := by unfold m_far_of at h; obtain ⟨_, _, _, _, _, _, _, _, rfl, _⟩ := h; rfl
theorem v_far_of (ds : List D) (S : Store) (Q : D → Store → Prop) (h : m_far_of ds S Q) : w_far_of m_left_of m_product (fin Q) (dst 3 ds) S := by
  unfold m_far_of at h
  obtain ⟨nm, wd, rows, wish, weights, n, k, m, rfl, hs, f, sz, q⟩ := h
  have hb := bq_left f
  have e : (leftQ rows wish weights).length = rows.length := by rw [leftQ_len, f.len, Nat.min_self]
  refine ⟨_, rfl, _, rfl, use_left hs f ⟨_, rfl, _, rfl, use_product rfl rfl rfl hb hb (by omega) (by omega) ?_ q⟩⟩
  rw [e]
  have e2 : k + (n + m + 1) * weights.length + 2 + (k + (n + m + 1) * weights.length + 2) + 1 = 2 * (k + (n + m + 1) * weights.length + 2) + 1 := by omega
  rw [e2]
  exact sz
/-! ### a drawn table -/
structure Tab (ws : List (List Nat)) (rows : List (List Rat)) (wish : List Rat) (n : Nat) : Prop where
  wrd : ∀ w ∈ ws, Word w
  nd : ws.Nodup
  few : ws.length ≤ 6
  low : rows.length ≤ 10
  len : rows.length = wish.length
  wid : ∀ r ∈ rows, r.length = ws.length
  ent : ∀ r ∈ rows, ∀ q ∈ r, bq n q
  wsh : ∀ q ∈ wish, bq n q
def tabD (ws : List (List Nat)) (rows : List (List Rat)) (wish : List Rat) : D := .tup [.tup (ws.map wordD), .tup (rowsD rows), .tup (rowD wish)]
def w_law_table (f1 : On) (f2 : On) (f3 : On) : WS :=
  (wSeq (wSet 1 (wCall f2 (wCons (wVar 0) (wCons (wCall f1 (wCons (wVar 0) (wCons (wC (.int 7)) wNil))) wNil))))
  (wSeq (wSet 2 (w2 oIx (wLst (wCons (wC (.int 8)) (wCons (wC (.int 6)) wNil))) (wCall f1 (wCons (wVar 0) (wCons (wC (.int 2)) wNil)))))
  (wSeq (wSet 3 (wLstM wNil))
  (wSeq (forS (wRng1 (w2 oIx (wLst (wCons (wCall f1 (wCons (wVar 0) (wCons (wC (.int 11)) wNil))) (wCons (wCall f1 (wCons (wVar 0) (wCons (wC (.int 3)) wNil))) wNil))) (wCall f1 (wCons (wVar 0) (wCons (wC (.int 2)) wNil))))) (gN 4) (wDrop (wM oAppend (wVar 3) (wCons (wCall oTuple (wCons (wLc (wSeqI (wVar 1)) (gN 6) wYes (wCall f3 (wCons (wVar 0) (wCons (wVar 2) wNil))) [6]) wNil)) wNil))))
  (wRet (wFz (wTup (wCons (wVar 1) (wCons (wCall oTuple (wCons (wVar 3) wNil)) (wCons (wCall oTuple (wCons (wLc (wSeqI (wVar 3)) (gN 5) wYes (wCall f3 (wCons (wVar 0) (wCons (wVar 2) wNil))) [5]) wNil)) wNil))))))))))
@[irreducible] def m_law_table : On := fun ds S0 Q => ∃ (p : Addr) (c : Nat), ds = [.ref p] ∧ c < 2 ^ 38 ∧ DkAt c p S0 ∧ ∀ (ws : List (List Nat)) (rows : List (List Rat)) (wish : List Rat) S', Tab ws rows wish 40 → Dk (c + 1000) p S0 S' → Q (tabD ws rows wish) S'
theorem in_law_table {ds : List D} {S : Store} {Q : D → Store → Prop} (h : (fun ds S0 Q => ∃ (p : Addr) (c : Nat), ds = [.ref p] ∧ c < 2 ^ 38 ∧ DkAt c p S0 ∧ ∀ (ws : List (List Nat)) (rows : List (List Rat)) (wish : List Rat) S', Tab ws rows wish 40 → Dk (c + 1000) p S0 S' → Q (tabD ws rows wish) S' : On) ds S Q) : m_law_table ds S Q := by unfold m_law_table; exact h
theorem use_table {p : Addr} {c : Nat} {S0 : Store} {Q : D → Store → Prop} (h : DkAt c p S0) (hc : c < 2 ^ 38) (k : ∀ (ws : List (List Nat)) (rows : List (List Rat)) (wish : List Rat) S', Tab ws rows wish 40 → Dk (c + 1000) p S0 S' → Q (tabD ws rows wish) S') : m_law_table [.ref p] S0 Q := by
  unfold m_law_table; exact ⟨p, c, rfl, hc, h, k⟩
theorem l_law_table (ds : List D) (S0 : Store) (Q : D → Store → Prop) (h : m_law_table ds S0 Q) : ds.length = 1 := by unfold m_law_table at h; obtain ⟨_, _, rfl, _⟩ := h; rfl
theorem v_law_table (ds : List D) (S0 : Store) (Q : D → Store → Prop) (h : m_law_table ds S0 Q) : w_law_table m_law_next m_law_names m_law_fraction (fin Q) (dst 7 ds) S0 := by
  unfold m_law_table at h
  obtain ⟨p, c, rfl, hc, hS, q⟩ := h
  refine ⟨_, rfl, _, rfl, use_next hS (by omega) (by decide) (by decide) fun many S1 a0 a1 d1 => use_names d1.at (by omega) a0 (by omega) fun ws S2 hws hword hnd d2 => ?_⟩
  refine ⟨by show 2 ≤ sizeLine; decide, _, rfl, use_next d2.at (by omega) (by decide) (by decide) fun r S3 b0 b1 d3 => ?_⟩
  obtain ⟨kinds, hkm, hkat⟩ := atI_int (ns := [8, 6]) (r := r) b0 (by simp; omega)
  have hk : 0 < kinds ∧ kinds ≤ 8 := by
    have : kinds = 8 ∨ kinds = 6 := by simpa using hkm
    omega
  have d03 : Dk (c + 62) p S0 S3 := ((d1.trans d2).trans (d3.up (by omega)))
  refine ⟨_, _, rfl, hkat, by show 0 ≤ sizeLine; decide, fun f hf => ?_⟩
  have hfp : f ≠ p := d03.at.ne hf
  have d03f := d03.at.put (l := .lst []) hfp
  refine ⟨_, rfl, use_next d03f (by omega) (by decide) (by decide) fun x1 S4 c0 c1 d4 => ⟨_, rfl, use_next d4.at (by omega) (by decide) (by decide) fun x2 S5 e0 e1 d5 => ⟨by show 2 ≤ sizeLine; decide, _, rfl, use_next d5.at (by omega) (by decide) (by decide) fun x3 S6 g0 g1 d6 => ?_⟩⟩⟩
  obtain ⟨size, hsm, hsat⟩ := atI_int (ns := [x1, x2]) (r := x3) g0 (by simp; omega)
  have hsz : 0 ≤ size ∧ size ≤ 10 := by
    have : size = x1 ∨ size = x2 := by simpa using hsm
    omega
  have d6' : Dk (c + 65) p (sput S3 f (.lst [])) S6 := ((d4.trans d5).trans d6).up (by omega)
  refine ⟨_, _, rfl, hsat, ⟨by omega, by omega⟩, ?_⟩
  have hlen : (rngD 0 size).length = size.toNat := by rw [rngD_len, Int.sub_zero]
  have hwl : (ws.map wordD).length = ws.length := List.length_map ..
  have hfew : ws.length ≤ 6 := by omega
  -- a row of fractions, one for each item
  have drawn : ∀ (i : Nat) (items : List D) (wt : Store → Prop) (env : Slots) (vs : Nat) (g : WG) (S : Store) (K : List D → Store → Prop) (c' : Nat), items.length ≤ 10 → DkAt c' p S → c' < 2 ^ 38 + 10000 → (∀ c' S', Dk c' p S S' → wt S') →
      (∀ x S' (K : Slots → Store → Prop), g x env S' K = K (env.set vs (some x)) S') → (env.set vs none)[0]? = some (some (.ref p)) → (env.set vs none)[2]? = some (some (.int kinds)) → vs ≠ 0 → vs ≠ 2 →
      (∀ qs S', qs.length = items.length → (∀ q ∈ qs, bq 40 q) → Dk (c' + 9 * items.length) p S S' → K (rowD qs) S') →
      lcW wt g wYes (wCall m_law_fraction (wCons (wVar 0) (wCons (wVar 2) wNil))) env items [] S K := by
    intro i items wt env vs g S K c' hi hS hc hw hg h0 h2 n0 n2 k
    refine lc_row (c := c') (k := 9) (n := 40) hS hw (fun j x S' K' hj dj k' => ?_) k
    have hj2 : j < items.length := (List.getElem?_eq_some_iff.mp hj).1
    rw [hg]
    refine ⟨_, by rw [List.getElem?_set_ne n0] at h0 ⊢; exact h0, _, by rw [List.getElem?_set_ne n2] at h2 ⊢; exact h2, use_draw dj.at (by omega) hk.1 (by omega) fun q S'' h1 _ h3 => k' q S'' h1 (h3.up (by omega))⟩
  refine for_inv (fun k env S' => ∃ (rows : List (List Rat)) (o4 o5 o6 : Option D), env = [some (.ref p), some (.tup (ws.map wordD)), some (.int kinds), some (.ref f), o4, o5, o6] ∧ rows.length = k ∧ (∀ r ∈ rows, r.length = ws.length ∧ ∀ q ∈ r, bq 40 q) ∧ Dk (c + 65 + 54 * k) p (sput S3 f (.lst (rowsD rows))) S')
    ⟨[], _, _, _, rfl, rfl, by simp, d6'⟩ ?_ ?_
  · rintro k x env S K hx ⟨rows, o4, o5, o6, rfl, hkl, hrows, d⟩ hK
    obtain ⟨rfl, hk2⟩ := rngD_get hx
    have hk10 : k < 10 := by omega
    refine ⟨trivial, _, rfl, ⟨_, d.cell hfp⟩, _, rfl, _, rfl, ?_, ?_⟩
    · rw [hwl]; exact Nat.le_trans hfew (by decide)
    refine drawn k _ _ _ 6 _ S _ (c + 65 + 54 * k) (by rw [hwl]; omega) d.at (by omega) (fun _ _ _ => trivial) (fun _ _ _ => rfl) rfl rfl (by decide) (by decide) fun qs S7 hq hb d7 => ?_
    rw [hwl] at hq d7
    have d8 := d.trans (d7.up (show c + 65 + 54 * k + 9 * ws.length ≤ c + 65 + 54 * (k + 1) by omega))
    refine ⟨_, rfl, _, _, d8.cell hfp, rfl, ?_, fun a ha => ?_⟩
    · rw [rowsD_len, hkl]; exact Nat.lt_of_lt_of_le hk10 (by decide)
    cases ha
    refine hK _ _ ⟨rows ++ [qs], _, _, _, rfl, by simp [hkl], fun r hr => ?_, ?_⟩
    · rcases List.mem_append.mp hr with h | h
      · exact hrows r h
      · rw [List.mem_singleton.mp h]; exact ⟨hq, hb⟩
    · have := d8.put (l' := .lst (rowsD (rows ++ [qs]))) hfp
      have e : rowsD (rows ++ [qs]) = rowsD rows ++ [.tup (rowD qs)] := by unfold rowsD; rw [List.map_append]; rfl
      rw [e] at this ⊢
      exact this
  · rintro env S ⟨rows, o4, o5, o6, rfl, hkl, hrows, d⟩
    rw [hlen] at hkl d
    have hcell := d.cell hfp
    refine ⟨trivial, _, rfl, _, rfl, _, hcell, _, rfl, _, hcell, ?_, ?_⟩
    · rw [rowsD_len]; exact Nat.le_trans (show rows.length ≤ 10 by omega) (by decide)
    refine drawn 0 _ _ _ 5 _ S _ (c + 65 + 54 * size.toNat) (by rw [rowsD_len]; omega) d.at (by omega) (fun c' S' h => by show S' f = _; rw [h.get hfp]; exact hcell) (fun _ _ _ => rfl) rfl rfl (by decide) (by decide) fun qs S7 hq hb d7 => ?_
    rw [rowsD_len] at hq d7
    have d8 := d.trans d7
    obtain ⟨S'', hs, d9⟩ := d8.drop hfp hf
    refine ⟨_, rfl, by show 3 ≤ sizeLine; decide, _, S'', hs, .same _, ?_⟩
    exact q ws rows qs S'' ⟨hword, hnd, hfew, by omega, hq.symm, fun r hr => (hrows r hr).1, fun r hr => (hrows r hr).2, hb⟩ ((d03.trans d9).up (by omega))
/-! ### rows told equal -/
theorem pure_rowD : ∀ {qs : List Rat}, pureDs (rowD qs) = true
  | [] => rfl
  | q :: r => by
    show (pureD (dQ q) && pureDs (rowD r)) = true
    rw [pure_rowD (qs := r)]
    rfl
theorem deep_rowD : ∀ {qs : List Rat}, deepDs (rowD qs) ≤ 1
  | [] => by decide
  | q :: r => by
    show max (deepD (dQ q)) (deepDs (rowD r)) ≤ 1
    have := deep_rowD (qs := r)
    rw [deep_dQ]
    omega
theorem rowD_inj : ∀ {a b : List Rat}, rowD a = rowD b → a = b
  | [], [], _ => rfl
  | [], _ :: _, h => by cases h
  | _ :: _, [], h => by cases h
  | x :: a, y :: b, h => by
    have h1 : dQ x = dQ y ∧ rowD a = rowD b := List.cons.inj h
    rw [dQ_inj h1.1, rowD_inj h1.2]
theorem eq_dec {neg : Bool} {P : Prop} [Decidable P] {S : Store} {Q : D → Store → Prop} {c : Bool} (hc : c = true ↔ P) (h : Q (.bl (nb neg (decide P))) S) : Q (.bl (nb neg c)) S := by
  have e : c = decide P := by
    by_cases hp : P
    · rw [decide_eq_true hp]; exact hc.mpr hp
    · rw [decide_eq_false hp]
      cases c with
      | true => exact absurd (hc.mp rfl) hp
      | false => rfl
  rw [e]
  exact h
theorem eq_row {neg : Bool} {a b : List Rat} {S : Store} {Q : D → Store → Prop} (h : Q (.bl (nb neg (decide (a = b)))) S) : oEqB neg (.tup (rowD a)) (.tup (rowD b)) S Q := by
  have hd : ∀ qs, deepD (.tup (rowD qs)) ≤ 64 := fun qs => by
    have := deep_rowD (qs := qs)
    show deepDs (rowD qs) + 1 ≤ 64
    omega
  exact eq_pure (x := .tup (rowD a)) (y := .tup (rowD b)) pure_rowD pure_rowD (hd a) (hd b) fun c hc => eq_dec (P := a = b) (hc.trans ⟨fun e => by injection e with e; exact rowD_inj e, fun e => by rw [e]⟩) h
/-- an empty list told empty -/
theorem eq_nilL {neg : Bool} {S : Store} {Q : D → Store → Prop} (h : Q (.bl (nb neg true)) S) : oEqB neg (.lst []) (.lst []) S Q :=
  eq_pure (x := .lst []) (y := .lst []) rfl rfl (by decide) (by decide) fun b hb => by
    have eb : b = true := hb.mpr rfl
    subst eb
    exact h
/-- a filter that lets none by -/
theorem lc_none {wt : Store → Prop} {g : WG} {tt : WT} {te : WE} {env : Slots} {items : List D} {S : Store} {Q : List D → Store → Prop} (hw : wt S) (step : ∀ x (K : Slots → Bool → Store → Prop), x ∈ items → (∀ env1, K env1 false S) → g x env S fun env1 S1 => tt env1 S1 (K env1)) (done : Q [] S) : lcW wt g tt te env items [] S Q := by
  refine lc_inv (fun i acc S' => S' = S ∧ acc = []) ⟨rfl, rfl⟩ ?_ ?_
  · rintro i x acc S' K1 K2 hx ⟨rfl, rfl⟩ k1 k2
    exact ⟨hw, step x (fun env1 b S2 => if b = true then te env1 S2 K1 else K2 S2) (List.mem_of_getElem? hx) fun env1 => k2 _ ⟨rfl, rfl⟩⟩
  · rintro acc S' ⟨rfl, rfl⟩
    exact ⟨hw, done⟩
theorem mem_rowD {qs : List Rat} {x : D} (h : x ∈ rowD qs) : ∃ q, q ∈ qs ∧ x = dQ q := by
  obtain ⟨q, h1, h2⟩ := List.mem_map.mp h
  exact ⟨q, h1, h2.symm⟩
theorem rowD_get {qs : List Rat} {i : Nat} {x : D} (h : (rowD qs)[i]? = some x) : ∃ q, qs[i]? = some q ∧ x = dQ q := by
  unfold rowD at h
  rw [List.getElem?_map] at h
  cases e : qs[i]? with
  | none => rw [e] at h; cases h
  | some q => rw [e] at h; cases h; exact ⟨q, rfl, rfl⟩

end ND
set_option Elab.async false
set_option linter.all false
set_option maxRecDepth 100000
namespace ND
open PySem PySem.Spec PyProof.Rows L2
/-! ### texts: startswith, split, int(text); a try whose body refuses nothing -/
section
variable {X : Cx}
def wStarts (t u : WE) : WE := fun env S Q => t env S fun x S1 => (∃ a, x = .str a) ∧ u env S1 fun y S2 => ∃ a b : Str, x = .str a ∧ y = .str b ∧ Q (.bl (Txt.startswith a b)) S2
theorem de_starts {o e : Expr} {t u : WE} {apos pos : Pos} (ho : DE X o t) (he : DE X e u) (hs : starEach [e] X.env = [(false, eval e X.env)] := by rfl) (hbase : attributeBase o "startswith" X.env (eval o X.env) = eval o X.env := by rfl) (hline : (apos.endLine == pos.line) = true := by rfl) :
    DE X (.Call (.Attribute o "startswith" apos) [e] [] pos) (wStarts t u) :=
  PE.mono (pe_m1 PySem.F.slot_str_startswith PySem.F.type_str_startswith mt_startswith ho he hs hbase hline) fun σ H Q ⟨B, env, S, Qd, re, rs, q, l⟩ => ⟨B, env, S, _, re, rs, q, fun S1 H1 x vx g1 rs1 rx ⟨⟨a, e⟩, q1⟩ => by
    subst e
    rw [repD_str] at rx
    subst rx
    refine ⟨⟨a, rfl⟩, B, env, S1, _, re.grow g1, rs1, q1, fun S2 H2 y vy g2 rs2 ry ⟨b, c, e, e2, q2⟩ => ?_⟩
    cases e
    subst e2
    rw [repD_str] at ry
    subst ry
    exact ⟨_, _, rfl, rfl, l S2 H2 _ _ (g1.trans g2) rs2 (repD_bl.mpr rfl) q2⟩⟩
def wSplit (t u : WE) : WE := fun env S Q => t env S fun x S1 => (∃ a, x = .str a) ∧ u env S1 fun y S2 => ∃ a b : Str, x = .str a ∧ y = .str b ∧ (b.length == 0) = false ∧ a.length + 2 ≤ sizeLine ∧ Q (.lst ((Txt.split a b).map D.str)) S2
theorem repL_strs {K : PySem.W.Frag} {B : Blk} {S : Store} {H : Hp} : ∀ {ys : List Str}, RepL K B S H (ys.map D.str) (ys.map V.str)
  | [] => repL_nil.mpr rfl
  | y :: ys => repL_cons.mpr ⟨_, _, rfl, repD_str.mpr rfl, repL_strs⟩
theorem de_split {o e : Expr} {t u : WE} {apos pos : Pos} (ho : DE X o t) (he : DE X e u) (hs : starEach [e] X.env = [(false, eval e X.env)] := by rfl) (hbase : attributeBase o "split" X.env (eval o X.env) = eval o X.env := by rfl) (hline : (apos.endLine == pos.line) = true := by rfl) :
    DE X (.Call (.Attribute o "split" apos) [e] [] pos) (wSplit t u) :=
  PE.mono (pe_split ho he hs hbase hline) fun σ H Q ⟨B, env, S, Qd, re, rs, q, l⟩ => ⟨B, env, S, _, re, rs, q, fun S1 H1 x vx g1 rs1 rx ⟨⟨a, e⟩, q1⟩ => by
    subst e
    rw [repD_str] at rx
    subst rx
    refine ⟨⟨a, rfl⟩, B, env, S1, _, re.grow g1, rs1, q1, fun S2 H2 y vy g2 rs2 ry ⟨b, c, e, e2, h1, h2, q2⟩ => ?_⟩
    cases e
    subst e2
    rw [repD_str] at ry
    subst ry
    exact ⟨_, _, rfl, rfl, h1, h2, fun p n => (l.grow (g1.trans g2)).lst rs2 repL_strs q2 n⟩⟩
def oIntS : On := o1 fun x S Q => match x with
  | .str a => ∃ n, PySem.intText? a = some n ∧ a.length ≤ 640 ∧ Q (.int n) S
  | _ => False
theorem cd_intS : CD X (.type "int") oIntS := CD.of call_int_str fun B S H ds vs Qd Q rs r q l => by
  match ds, q with
  | [x], q =>
    obtain ⟨v, rfl, rx⟩ := repL1 r
    cases x with
    | str a =>
      obtain ⟨n, h1, h2, q⟩ := q
      rw [repD_str] at rx; subst rx
      exact ⟨a, n, rfl, h1, h2, l S H _ _ .refl rs (repD_int.mpr rfl) q⟩
    | _ => exact False.elim q
  | [], q => exact False.elim q
  | _ :: _ :: _, q => exact False.elim q
theorem ds_tryNo {body : List Stmt} {h₀ : ExceptHandler} {hs : List ExceptHandler} {pos : Pos} {t : WS} (hn : ∀ e s, ¬ X.xe e s) (hb : DSs X body t) : DS X (.Try body (h₀ :: hs) [] [] pos) t :=
  PS.mono (ps_try_never hn hb pss_nil) fun Dn σ H q => q
end

end ND
set_option Elab.async false
set_option linter.all false
set_option maxRecDepth 100000
namespace ND
open PySem PySem.Spec PyProof.Rows L2
/-! ### numbers as texts -/
open TL
theorem tl_neg {i : Int} (h : i < 0) : tl (Str.ofString (toString i)) = 45 :: numL i.natAbs := by
  obtain ⟨n, rfl⟩ : ∃ n : Nat, i = -((n + 1 : Nat) : Int) := ⟨i.natAbs - 1, by omega⟩
  have e : toString (-((n + 1 : Nat) : Int)) = "-" ++ toString (((n + 1 : Nat)) : Int) := rfl
  rw [e, tl_ofString, String.toList_append, List.map_append, ← tl_ofString (toString (((n + 1 : Nat)) : Int)), tl_num, show (-((n + 1 : Nat) : Int)).natAbs = n + 1 by omega]
  rfl
theorem tl_nn {i : Int} (h : 0 ≤ i) : tl (Str.ofString (toString i)) = numL i.natAbs := by
  obtain ⟨n, rfl⟩ := Int.eq_ofNat_of_zero_le h
  exact tl_num n
abbrev intT (i : Int) : Str := Str.ofString (toString i)
abbrev natT (n : Nat) : Str := intT (n : Int)
/-- a word: a whole number, or two and a stroke -/
def wordT (a : Int) : Option Nat → Str
  | none => intT a
  | some b => intT a ++ "/" ++ natT b
theorem tl_word {a : Int} {b : Option Nat} : tl (wordT a b) = tl (intT a) ++ (match b with | none => [] | some b => 47 :: numL b) := by
  cases b with
  | none => show tl (intT a) = _; simp
  | some b =>
    show tl (intT a ++ "/" ++ natT b) = _
    rw [tl_append, tl_append, tl_num, List.append_assoc]
    rfl
theorem numL_head : ∀ (n : Nat), n ≠ 0 → (numL n).head? ≠ some 48 := fun n => by
  induction n using Nat.strongRecOn with
  | _ n ih =>
    intro hn
    by_cases h : n < 10
    · rw [numL_lt h]
      simp
      omega
    · rw [numL_step (by omega), List.head?_append]
      have := ih (n / 10) (by omega) (by omega)
      cases e : numL (n / 10) with
      | nil => exact absurd e (numL_ne _)
      | cons c r => rw [e] at this; simpa using this
theorem str_eq {x y : Str} (h : tl x = tl y) : x = y := by rw [← mk_tl x, ← mk_tl y, h]
theorem starts_minus {x : Str} : Txt.startswith x "-" = decide ((tl x).head? = some 45) := by
  have e : tl ("-" : Str) = [45] := by decide +kernel
  have hi := at_iff (x := x) (y := "-") (by rw [e]; simp) 0
  have hs : Txt.startswith x "-" = true ↔ StrLaws.At x "-" x.length 0 := by
    unfold Txt.startswith StrLaws.At
    rw [Bool.and_eq_true, decide_eq_true_iff]
  rw [e, List.drop_zero] at hi
  have hp : pre [45] (tl x) = true ↔ (tl x).head? = some 45 := by
    cases tl x with
    | nil => exact ⟨(fun h => by cases h), (fun h => by cases h)⟩
    | cons c r =>
      show (([c] : List Nat) == [45]) = true ↔ some c = some 45
      constructor
      · intro h; have := eq_of_beq h; injection this with h1 _; rw [h1]
      · intro h; injection h with h; rw [h]; rfl
  by_cases h : (tl x).head? = some 45
  · rw [decide_eq_true h]; exact hs.mpr (hi.mpr (hp.mpr h))
  · rw [decide_eq_false h]
    cases c : Txt.startswith x "-" with
    | false => rfl
    | true => exact absurd (hp.mp (hi.mp (hs.mp c))) h
theorem tl_cut {x : Str} {k : Nat} (h : k ≤ (tl x).length) : tl (cutS x (some (k : Int)) none) = (tl x).drop k := by
  have hx := len_tl x
  show ((tl x).drop (HT.sIx x.length 0 (some (k : Int)))).take (HT.sIx x.length x.length none - HT.sIx x.length 0 (some (k : Int))) = _
  rw [HT.sIx_none, HT.sIx_nat, hx, Nat.min_eq_left h]
  exact List.take_of_length_le (by rw [List.length_drop]; exact Nat.le_refl _)
theorem cut_word {a : Int} {b : Option Nat} (h : a < 0) : cutS (wordT a b) (some 1) none = wordT (a.natAbs : Int) b := by
  refine str_eq ?_
  have e1 : tl (wordT a b) = 45 :: tl (wordT (a.natAbs : Int) b) := by
    rw [tl_word, tl_word, tl_neg h, tl_num]
    rfl
  have e2 : tl (cutS (wordT a b) (some 1) none) = (tl (wordT a b)).drop 1 := tl_cut (k := 1) (by rw [e1]; simp)
  rw [e2, e1]
  rfl
theorem cut_zero {x : Str} : cutS x (some 0) none = x := by
  exact str_eq (tl_cut (k := 0) (Nat.zero_le _))
theorem split_word {n : Nat} {b : Option Nat} : Txt.split (wordT (n : Int) b) "/" = (n :: b.toList).map natT := by
  have k : ("/" : Str).cps.all (· < 256) = true := by decide +kernel
  have e : tl ("/" : Str) = 47 :: [] := by decide +kernel
  have f : ∀ m : Nat, 47 ∉ tl (natT m) := fun m => by rw [tl_num]; exact numL_free (by decide)
  cases b with
  | none =>
    have := split_join e k (parts := [natT n]) (by simp) (fun p hp => by rw [List.mem_singleton.mp hp]; exact f n)
    have e2 : Txt.join "/" [natT n] = natT n := by rw [join_eq]; rfl
    rw [e2] at this
    exact this
  | some b =>
    have := split_join e k (parts := [natT n, natT b]) (by simp) (fun p hp => by
      rcases List.mem_cons.mp hp with rfl | hp
      · exact f n
      · rw [List.mem_singleton.mp hp]; exact f b)
    have e2 : Txt.join "/" [natT n, natT b] = wordT n (some b) := by rw [join_eq]; rfl
    rw [e2] at this
    exact this
theorem natT_inj {m n : Nat} (h : natT m = natT n) : m = n := numL_inj (by rw [← tl_num, ← tl_num]; exact congrArg tl h)
/-- how a fraction is written -/
def showQ (q : Rat) : Str := wordT q.num (if q.den = 1 then none else some q.den)
theorem word_inj {a a' : Int} {b b' : Option Nat} (h : wordT a b = wordT a' b') : a = a' ∧ b = b' := by
  have key : ∀ {n n' : Nat} {b b' : Option Nat}, wordT (n : Int) b = wordT (n' : Int) b' → n = n' ∧ b = b' := fun {n n' b b'} h => by
    have s1 := split_word (n := n) (b := b)
    rw [h, split_word] at s1
    have s1 : natT n' :: b'.toList.map natT = natT n :: b.toList.map natT := s1
    cases b with
    | none =>
      cases b' with
      | none => injection s1 with e1 _; exact ⟨(natT_inj e1).symm, rfl⟩
      | some c => injection s1 with _ e2; cases e2
    | some b =>
      cases b' with
      | none => injection s1 with _ e2; cases e2
      | some c =>
        injection s1 with e1 e2
        injection e2 with e2 _
        exact ⟨(natT_inj e1).symm, by rw [natT_inj e2]⟩
  have head : ∀ {n : Nat} {b : Option Nat}, (tl (wordT (n : Int) b)).head? ≠ some 45 := fun {n b} => by
    rw [tl_word, tl_num, List.head?_append]
    cases e : numL n with
    | nil => exact absurd e (numL_ne n)
    | cons c r =>
      have := numL_digits n c (by rw [e]; simp)
      simp
      omega
  have neg : ∀ {a : Int} {b : Option Nat}, a < 0 → (tl (wordT a b)).head? = some 45 := fun {a b} ha => by
    rw [tl_word, tl_neg ha]; rfl
  have nn : ∀ {a : Int}, 0 ≤ a → a = (a.natAbs : Int) := fun {a} h => by omega
  rcases Int.lt_or_le a 0 with ha | ha
  · rcases Int.lt_or_le a' 0 with ha' | ha'
    · have e := congrArg (fun x => cutS x (some 1) none) h
      have e : cutS (wordT a b) (some 1) none = cutS (wordT a' b') (some 1) none := e
      rw [cut_word ha, cut_word ha'] at e
      obtain ⟨h1, h2⟩ := key e
      exact ⟨by omega, h2⟩
    · have h1 := neg (b := b) ha
      rw [h, nn ha'] at h1
      exact absurd h1 head
  · rcases Int.lt_or_le a' 0 with ha' | ha'
    · have h1 := neg (b := b') ha'
      rw [← h, nn ha] at h1
      exact absurd h1 head
    · rw [nn ha, nn ha'] at h
      obtain ⟨h1, h2⟩ := key h
      exact ⟨by omega, h2⟩
theorem showQ_inj {p q : Rat} : showQ p = showQ q ↔ p = q := by
  constructor
  · intro h
    obtain ⟨h1, h2⟩ := word_inj h
    refine Rat.ext h1 ?_
    by_cases e1 : p.den = 1 <;> by_cases e2 : q.den = 1
    · rw [e1, e2]
    · rw [if_pos e1, if_neg e2] at h2; cases h2
    · rw [if_neg e1, if_pos e2] at h2; cases h2
    · rw [if_neg e1, if_neg e2] at h2
      injection h2
  · intro h; rw [h]

end ND
set_option Elab.async false
set_option linter.all false
set_option maxRecDepth 100000
namespace ND
open PySem PySem.Spec PyProof.Rows L2
open TL
theorem lc_mapT {α β : Type} {wt : Store → Prop} {g : WG} {te : WE} {env : Slots} {S : Store} {Q : List D → Store → Prop} (ι : α → D) (κ : β → D) (f : α → β) (a : List α) (hw : wt S)
    (step : ∀ x (K : D → Store → Prop), x ∈ a → K (κ (f x)) S → g (ι x) env S fun env1 S1 => te env1 S1 K) (done : Q ((a.map f).map κ) S) : lcW wt g wYes te env (a.map ι) [] S Q := by
  refine lc_inv (fun i acc S' => S' = S ∧ acc = ((a.take i).map f).map κ) ⟨rfl, rfl⟩ ?_ ?_
  · rintro i x acc S' K1 K2 hx ⟨rfl, rfl⟩ k1 k2
    rw [List.getElem?_map] at hx
    cases e : a[i]? with
    | none => rw [e] at hx; cases hx
    | some y =>
      rw [e] at hx
      cases hx
      refine ⟨hw, step y K1 (List.mem_of_getElem? e) (k1 _ _ ⟨rfl, ?_⟩)⟩
      rw [List.take_add_one, e, List.map_append, List.map_append]
      rfl
  · rintro acc S' ⟨rfl, rfl⟩
    rw [List.length_map, List.take_length]
    exact ⟨hw, done⟩
theorem lenT {x : Str} : x.length = (tl x).length := len_tl x
theorem line_of {n : Nat} (h : n ≤ 100000) : n ≤ sizeLine := Nat.le_trans h (by decide)
/-- small enough to be written -/
structure WB (a : Int) (b : Option Nat) : Prop where
  a1 : a.natAbs < 10 ^ 200
  b0 : ∀ n, b = some n → 0 < n
  b1 : ∀ n, b = some n → n < 10 ^ 200
theorem log_200 {n : Nat} (h : n < 10 ^ 200) : n.log2 < 1920 := by
  rcases Nat.eq_zero_or_pos n with rfl | h0
  · decide
  · exact (Nat.log2_lt (by omega)).mpr (Nat.lt_of_lt_of_le h (by decide +kernel))
theorem len_intT {a : Int} (h : a.natAbs < 10 ^ 200) : (intT a).length ≤ 201 := by
  rw [lenT]
  have := numL_len (n := a.natAbs) (k := 200) (by decide) h
  rcases Int.lt_or_le a 0 with ha | ha
  · rw [tl_neg ha, List.length_cons]; omega
  · rw [tl_nn ha]; omega
theorem WB.len {a : Int} {b : Option Nat} (t : WB a b) : (wordT a b).length ≤ 403 := by
  have h1 := len_intT t.a1
  cases b with
  | none => show (intT a).length ≤ 403; omega
  | some b =>
    have h2 := len_intT (a := (b : Int)) (by have := t.b1 b rfl; omega)
    rw [lenT] at h1 h2 ⊢
    show (tl (intT a ++ "/" ++ natT b)).length ≤ 403
    rw [tl_append, tl_append, List.length_append, List.length_append]
    have h3 : (tl ("/" : Str)).length = 1 := by decide +kernel
    have h4 : (tl (natT b)).length ≤ 201 := h2
    omega
theorem wordQ_b {q : Rat} {n : Nat} (h : bq n q) (hn : 2 ^ n ≤ 10 ^ 200) : WB q.num (if q.den = 1 then none else some q.den) := by
  refine ⟨Nat.lt_of_lt_of_le h.1 hn, fun n e => ?_, fun n e => ?_⟩
  · split at e
    · cases e
    · injection e with e; have := q.den_pos; omega
  · split at e
    · cases e
    · injection e with e; rw [← e]; exact Nat.lt_of_lt_of_le h.2 hn
def w_number_shown : WS :=
  (wSeq (wIfS (wTst (w2 oEq (w2 oIx (wVar 0) (wC (.int 1))) (wC (.int 1)))) (wRet (wCall oStrI (wCons (w2 oIx (wVar 0) (wC (.int 0))) wNil))) wNext)
  (wRet (w2 oAdd (w2 oAdd (wCall oStrI (wCons (w2 oIx (wVar 0) (wC (.int 0))) wNil)) (wC (.str "/"))) (wCall oStrI (wCons (w2 oIx (wVar 0) (wC (.int 1))) wNil)))))
@[irreducible] def m_number_shown : On := fun ds S Q => ∃ (q : Rat) (n : Nat), ds = [dQ q] ∧ bq n q ∧ 2 ^ n ≤ 10 ^ 200 ∧ Q (.str (showQ q)) S
theorem in_number_shown {ds : List D} {S : Store} {Q : D → Store → Prop} (h : (fun ds S Q => ∃ (q : Rat) (n : Nat), ds = [dQ q] ∧ bq n q ∧ 2 ^ n ≤ 10 ^ 200 ∧ Q (.str (showQ q)) S : On) ds S Q) : m_number_shown ds S Q := by unfold m_number_shown; exact h
theorem l_number_shown (ds : List D) (S : Store) (Q : D → Store → Prop) (h : m_number_shown ds S Q) : ds.length = 1 := by unfold m_number_shown at h; obtain ⟨_, _, rfl, _⟩ := h; rfl
theorem v_number_shown (ds : List D) (S : Store) (Q : D → Store → Prop) (h : m_number_shown ds S Q) : w_number_shown (fin Q) (dst 1 ds) S := by
  unfold m_number_shown at h
  obtain ⟨x, n, rfl, hb, hn, q⟩ := h
  have t := wordQ_b hb hn
  have d1 : x.den < 10 ^ 200 := Nat.lt_of_lt_of_le hb.2 hn
  unfold w_number_shown
  unfold showQ at q
  refine ⟨_, rfl, _, _, rfl, rfl, ite_nf (fun h => ?_) fun h => ?_⟩
  · have e : x.den = 1 := by omega
    rw [if_pos e] at q
    exact ⟨_, rfl, _, _, rfl, rfl, log_200 t.a1, q⟩
  · have e : x.den ≠ 1 := by omega
    rw [if_neg e] at q
    have l1 := len_intT t.a1
    have l2 := len_intT (a := (x.den : Int)) (by omega)
    have l3 : ("/" : Str).length = 1 := by decide +kernel
    refine ⟨_, rfl, _, _, rfl, rfl, log_200 t.a1, line_of (by rw [l3]; have l1 : (Str.ofString (toString x.num)).length ≤ 201 := l1; omega), _, rfl, _, _, rfl, rfl, log_200 (by show x.den < _; exact d1), line_of ?_, q⟩
    have e2 : (intT x.num ++ "/" : Str).length ≤ 202 := by
      rw [lenT] at l1 ⊢
      rw [tl_append, List.length_append]
      have h3 : (tl ("/" : Str)).length = 1 := by decide +kernel
      omega
    have e2 : (Str.ofString (toString x.num) ++ "/" : Str).length ≤ 202 := e2
    have l2 : (Str.ofString (toString (x.den : Int))).length ≤ 201 := l2
    omega
def w_figures_told : WS :=
  (wSeq (wIfS (wOr (wTst (w2 oEq (wVar 0) (wC (.str "")))) (wAnd (wTst (w2 oEq (w2 oIx (wVar 0) (wC (.int 0))) (wC (.str "0")))) (wTst (w2 oNe (wVar 0) (wC (.str "0")))))) wNever wNext)
  (wSeq (forS (wSeqI (wVar 0)) (gN 1) (wIfS (wTst (w2 (oIn true) (wVar 1) (wC (.str "0123456789")))) wNever wNext))
  (wRet (wCall oIntS (wCons (wVar 0) wNil)))))
theorem eq_strT {neg : Bool} {a b : Str} {S : Store} {Q : D → Store → Prop} (ha : PyData.strOk a = true) (hb : PyData.strOk b = true) (q : Q (.bl (nb neg (decide (a = b)))) S) : oEqB neg (.str a) (.str b) S Q :=
  eq_pure (by show pureD (.str a) = true; unfold pureD; exact ha) (by show pureD (.str b) = true; unfold pureD; exact hb) (by show 0 ≤ 64; decide) (by show 0 ≤ 64; decide) fun c hc => by
    have e : c = decide (a = b) := by
      by_cases h : a = b
      · rw [decide_eq_true h]; exact hc.mpr (by rw [h])
      · rw [decide_eq_false h]
        cases c with
        | true => have := hc.mp rfl; injection this with z; exact absurd z h
        | false => rfl
    rw [e]
    exact q
theorem strOk_tl {x : Str} (h : ∀ c ∈ tl x, c < 128) : PyData.strOk x = true := by
  unfold PyData.strOk
  rw [← Array.all_toList, List.all_eq_true]
  intro c hc
  have := h c hc
  exact decide_eq_true (by omega)
theorem wIf_decT {A : WT} {a b : WS} {E : DEnds} {env : Slots} {S : Store} {pa : Bool} (hA : ∀ Q, Q pa S → A env S Q) (h1 : pa = true → a E env S) (h2 : pa = false → b E env S) : wIfS A a b E env S := by
  refine hA _ ?_
  cases pa with
  | false => exact h2 rfl
  | true => exact h1 rfl
theorem wOr_goT {A B : WT} {env : Slots} {S : Store} {pa pb : Bool} (hA : ∀ Q, Q pa S → A env S Q) (hB : pa = false → ∀ Q, Q pb S → B env S Q) : ∀ Q, Q (pa || pb) S → wOr A B env S Q := fun Q q => by
  refine hA _ ?_
  cases pa with
  | false => exact hB rfl _ q
  | true => exact q
theorem wAnd_goT {A B : WT} {env : Slots} {S : Store} {pa pb : Bool} (hA : ∀ Q, Q pa S → A env S Q) (hB : pa = true → ∀ Q, Q pb S → B env S Q) : ∀ Q, Q (pa && pb) S → wAnd A B env S Q := fun Q q => by
  refine hA _ ?_
  cases pa with
  | false => exact q
  | true => exact hB rfl _ q
theorem next_goT {E : DEnds} {env : Slots} {S : Store} (h : E.nx env S) : wNext E env S := h
theorem sign_eq {c d : Nat} : (⟨#[c]⟩ : Str) = ⟨#[d]⟩ ↔ c = d := by
  constructor
  · intro h; injection h with h; injection h with h; injection h
  · intro h; rw [h]
theorem digit_in {c : Nat} (h : 48 ≤ c ∧ c ≤ 57) : (Builtin.Str.occurrences ("0123456789" : Str) ⟨#[c]⟩ 0 ("0123456789" : Str).length 1).isEmpty = false := by
  have k : ∀ d : Fin 10, (Builtin.Str.occurrences ("0123456789" : Str) ⟨#[48 + d.val]⟩ 0 ("0123456789" : Str).length 1).isEmpty = false := by decide +kernel
  have := k ⟨c - 48, by omega⟩
  rw [show 48 + (c - 48) = c by omega] at this
  exact this
@[irreducible] def m_figures_told : On := fun ds S Q => ∃ n : Nat, ds = [.str (natT n)] ∧ n < 10 ^ 200 ∧ Q (.int (n : Nat)) S
theorem in_figures_told {ds : List D} {S : Store} {Q : D → Store → Prop} (h : (fun ds S Q => ∃ n : Nat, ds = [.str (natT n)] ∧ n < 10 ^ 200 ∧ Q (.int (n : Nat)) S : On) ds S Q) : m_figures_told ds S Q := by unfold m_figures_told; exact h
theorem l_figures_told (ds : List D) (S : Store) (Q : D → Store → Prop) (h : m_figures_told ds S Q) : ds.length = 1 := by unfold m_figures_told at h; obtain ⟨_, rfl, _⟩ := h; rfl
theorem v_figures_told (ds : List D) (S : Store) (Q : D → Store → Prop) (h : m_figures_told ds S Q) : w_figures_told (fin Q) (dst 2 ds) S := by
  unfold m_figures_told at h
  obtain ⟨n, rfl, hn, q⟩ := h
  have et := tl_num n
  have ll := numL_len (n := n) (k := 200) (by decide) hn
  have lx : (natT n).length ≤ 200 := by rw [lenT, et]; exact ll
  obtain ⟨c, r, ec⟩ : ∃ c r, numL n = c :: r := by
    cases e : numL n with
    | nil => exact absurd e (numL_ne n)
    | cons c r => exact ⟨c, r, rfl⟩
  have ok : PyData.strOk (natT n) = true := strOk_tl fun c hc => by rw [et] at hc; have := numL_digits n c hc; omega
  have ok1 : ∀ x : Nat, 48 ≤ x ∧ x ≤ 57 → PyData.strOk (⟨#[x]⟩ : Str) = true := fun x hx => strOk_tl fun c hc => by
    have : c = x := by simpa using hc
    omega
  have cd := numL_digits n c (by rw [ec]; simp)
  have ne : natT n ≠ "" := fun e => by
    have h1 : tl (natT n) = tl ("" : Str) := by rw [e]
    rw [et, ec] at h1
    have h2 : tl ("" : Str) = [] := by decide +kernel
    rw [h2] at h1
    cases h1
  unfold w_figures_told
  have z0 : ("0" : Str) = ⟨#[48]⟩ := by decide +kernel
  have hz : c = 48 → natT n = "0" := fun h => by
    have n0 : n = 0 := Classical.byContradiction fun hn => numL_head n hn (by rw [ec, h]; rfl)
    rw [n0]
    decide +kernel
  refine wIf_decT (pa := false || (decide (c = 48) && false)) (wOr_goT (fun R k => ⟨_, rfl, eq_strT ok (by decide +kernel) (by rw [decide_eq_false ne]; exact k)⟩) fun _ => wAnd_goT (fun R k => ⟨_, rfl, c, ?_, line_of (by omega), ?_⟩) fun h R k => ⟨_, rfl, eq_strT ok (by decide +kernel) (by rw [decide_eq_true (hz (of_decide_eq_true h))]; exact k)⟩) (fun h => by simp at h) fun _ => next_goT ?_
  · show atI (tl (natT n)) ((0 : Nat) : Int) = some c
    rw [et, ec]
    exact atI_nat (j := 0) rfl
  · rw [z0]
    refine eq_strT (ok1 c cd) (by rw [← z0]; decide +kernel) ?_
    have e : decide ((⟨#[c]⟩ : Str) = ⟨#[48]⟩) = decide (c = 48) := decide_eq_decide.mpr sign_eq
    rw [e]; exact k
  refine ⟨_, rfl, ?_⟩
  refine for_inv (fun i env S' => S' = S ∧ ∃ o, env = [some (.str (natT n)), o]) ⟨rfl, _, rfl⟩ ?_ ?_
  · rintro i x env S' K hx ⟨rfl, o, rfl⟩ hK
    have hx : ((tl (natT n)).map fun c => D.str ⟨#[c]⟩)[i]? = some x := hx
    rw [List.getElem?_map] at hx
    obtain ⟨y, hy, rfl⟩ := Option.map_eq_some_iff.mp hx
    have yd := numL_digits n y (by rw [← et]; exact List.mem_of_getElem? hy)
    refine ⟨trivial, ?_⟩
    refine wIf_decT (pa := false) (fun R k => ⟨_, rfl, ?_⟩) (fun h => by cases h) fun _ => next_goT (hK _ _ ⟨rfl, _, rfl⟩)
    show R (nb true (!(Builtin.Str.occurrences ("0123456789" : Str) ⟨#[y]⟩ 0 ("0123456789" : Str).length 1).isEmpty)) S'
    rw [digit_in yd]
    exact k
  · rintro env S' ⟨rfl, o, rfl⟩
    exact ⟨trivial, _, rfl, n, int_num (by omega), by omega, q⟩
def w_read_number (f1 : On) (f2 : On) : WS :=
  (wSeq (wSet 1 (wStarts (wVar 0) (wC (.str "-"))))
  (wSeq (wSet 2 (wSplit (wSl (wVar 0) (wP (wCall oInt (wCons (wVar 1) wNil))) wNoP) (wC (.str "/"))))
  (wSeq (wIfS (wTst (w2 oGt (wCall oLen (wCons (wVar 2) wNil)) (wC (.int 2)))) wNever wNext)
  (wSeq (wSet 3 (w2 oAdd (wLc (wSeqI (wVar 2)) (gN 4) wYes (wCall f1 (wCons (wVar 4) wNil)) [4]) (wLst (wCons (wC (.int 1)) wNil))))
  (wSeq (wIfS (wOr (wAnd (wTst (wVar 1)) (wTst (w2 oEq (w2 oIx (wVar 3) (wC (.int 0))) (wC (.int 0))))) (wTst (w2 oEq (w2 oIx (wVar 3) (wC (.int 1))) (wC (.int 0))))) wNever wNext)
  (wRet (wCall f2 (wCons (w2 oMul (w2 oIx (wVar 3) (wC (.int 0))) (w2 oIx (wLst (wCons (wC (.int 1)) (wCons (w1 oNeg (wC (.int 1))) wNil))) (wCall oInt (wCons (wVar 1) wNil)))) (wCons (w2 oIx (wVar 3) (wC (.int 1))) wNil)))))))))
@[irreducible] def m_read_number : On := fun ds S Q => ∃ (a : Int) (b : Option Nat), ds = [.str (wordT a b)] ∧ WB a b ∧ Q (dQ (Rat.divInt a ((b.getD 1 : Nat) : Int))) S
theorem in_read_number {ds : List D} {S : Store} {Q : D → Store → Prop} (h : (fun ds S Q => ∃ (a : Int) (b : Option Nat), ds = [.str (wordT a b)] ∧ WB a b ∧ Q (dQ (Rat.divInt a ((b.getD 1 : Nat) : Int))) S : On) ds S Q) : m_read_number ds S Q := by unfold m_read_number; exact h
theorem l_read_number (ds : List D) (S : Store) (Q : D → Store → Prop) (h : m_read_number ds S Q) : ds.length = 1 := by unfold m_read_number at h; obtain ⟨_, _, rfl, _⟩ := h; rfl
theorem v_read_number (ds : List D) (S : Store) (Q : D → Store → Prop) (h : m_read_number ds S Q) : w_read_number m_figures_told m_fraction (fin Q) (dst 5 ds) S := by
  unfold m_read_number at h
  obtain ⟨a, b, rfl, t, q⟩ := h
  have tlen := t.len
  have e1 : Txt.startswith (wordT a b) "-" = decide (a < 0) := by
    rw [starts_minus]
    refine decide_eq_decide.mpr ?_
    rw [tl_word]
    rcases Int.lt_or_le a 0 with ha | ha
    · rw [tl_neg ha]
      exact ⟨fun _ => ha, fun _ => rfl⟩
    · rw [tl_nn ha, List.head?_append]
      refine ⟨fun h => ?_, fun h => by omega⟩
      cases e : numL a.natAbs with
      | nil => exact absurd e (numL_ne _)
      | cons c r =>
        have := numL_digits a.natAbs c (by rw [e]; simp)
        rw [e] at h
        have h : some c = some 45 := h
        injection h with h
        omega
  have e2 : cutS (wordT a b) (some (if decide (a < 0) = true then 1 else 0)) none = wordT (a.natAbs : Int) b := by
    rcases Int.lt_or_le a 0 with ha | ha
    · rw [decide_eq_true ha, if_pos rfl]; exact cut_word ha
    · rw [decide_eq_false (by omega), if_neg Bool.false_ne_true, cut_zero]
      rw [show ((a.natAbs : Nat) : Int) = a by omega]
  have l2 : (wordT (a.natAbs : Int) b).length ≤ 403 := WB.len ⟨by rw [Int.natAbs_natCast]; exact t.a1, t.b0, t.b1⟩
  have e3 := split_word (n := a.natAbs) (b := b)
  have c1 : ("/" : Str).length = 1 := by decide +kernel
  unfold w_read_number
  refine ⟨_, rfl, ⟨_, rfl⟩, _, _, rfl, rfl, ?_⟩
  rw [e1]
  refine ⟨_, rfl, _, rfl, line_of (by omega), ?_⟩
  rw [e2]
  refine ⟨⟨_, rfl⟩, _, _, rfl, rfl, by rw [c1]; rfl, line_of (by omega), ?_⟩
  rw [e3]
  obtain ⟨ns, hns, hn0, hn1, hnl, hnb⟩ : ∃ ns : List Nat, ((a.natAbs :: b.toList).map natT).map D.str = ns.map (fun n => D.str (natT n)) ∧ (ns ++ [1])[0]? = some a.natAbs ∧ (ns ++ [1])[1]? = some (b.getD 1) ∧ ns.length ≤ 2 ∧ ∀ n ∈ ns, n < 10 ^ 200 := by
    cases b with
    | none => exact ⟨[a.natAbs], rfl, rfl, rfl, by simp, fun n hn => by rw [List.mem_singleton.mp hn]; exact t.a1⟩
    | some b => exact ⟨[a.natAbs, b], rfl, rfl, rfl, by simp, fun n hn => by
        rcases List.mem_cons.mp hn with rfl | hn
        · exact t.a1
        · rw [List.mem_singleton.mp hn]; exact t.b1 b rfl⟩
  rw [hns]
  have hb0 : b.getD 1 ≠ 0 := by
    cases b with
    | none => exact Nat.one_ne_zero
    | some b => have := t.b0 b rfl; show b ≠ 0; omega
  dsimp only
  refine wIf_decT (pa := false) (fun R k => ⟨_, rfl, _, rfl, ?_⟩) (fun h => by cases h) fun _ => next_goT ?_
  · have e : decide (((ns.map fun n => D.str (natT n)).length : Int) > 2) = false := decide_eq_false (by rw [List.length_map]; omega)
    show R (decide (((ns.map fun n => D.str (natT n)).length : Int) > 2)) S
    rw [e]; exact k
  dsimp only
  refine ⟨_, rfl, walkD_of (l := ns.map fun n => D.str (natT n)) rfl ⟨line_of (by rw [List.length_map]; omega), ?_⟩⟩
  refine lc_mapT (fun n : Nat => D.str (natT n)) (fun n : Nat => D.int (n : Nat)) (fun n => n) ns trivial (fun n K hn k => ⟨_, rfl, in_figures_told ⟨n, rfl, hnb n hn, k⟩⟩) ?_
  rw [List.map_id']
  refine ⟨line_of (by decide), ns.map fun n : Nat => D.int (n : Nat), [.int 1], rfl, rfl, line_of (by rw [List.length_map]; show ns.length + 1 ≤ _; omega), ?_⟩
  have en : (ns.map fun n : Nat => D.int (n : Nat)) ++ [.int 1] = (ns ++ [1]).map fun n : Nat => D.int (n : Nat) := by rw [List.map_append]; rfl
  rw [en]
  have at0 : atI ((ns ++ [1]).map fun n : Nat => D.int (n : Nat)) 0 = some (.int (a.natAbs : Nat)) := atI_nat (j := 0) (by rw [List.getElem?_map, hn0]; rfl)
  have at1 : atI ((ns ++ [1]).map fun n : Nat => D.int (n : Nat)) 1 = some (.int ((b.getD 1 : Nat) : Int)) := atI_nat (j := 1) (by rw [List.getElem?_map, hn1]; rfl)
  generalize (ns ++ [1]).map (fun n : Nat => D.int (n : Nat)) = nums at at0 at1
  dsimp only
  refine wIf_decT (pa := (decide (a < 0) && decide ((a.natAbs : Int) = 0)) || decide (((b.getD 1 : Nat) : Int) = 0)) (wOr_goT (wAnd_goT (fun R k => ⟨_, rfl, k⟩) fun _ R k => ⟨_, rfl, _, _, rfl, at0, k⟩) fun _ R k => ⟨_, rfl, _, _, rfl, at1, k⟩) (fun h => ?_) fun _ => next_goT ?_
  · rw [Bool.or_eq_true, Bool.and_eq_true, decide_eq_true_iff, decide_eq_true_iff, decide_eq_true_iff] at h
    omega
  dsimp only
  have p200 : (10 : Nat) ^ 200 ≤ 2 ^ 700 := by decide +kernel
  have ha7 : a.natAbs < 2 ^ 700 := Nat.lt_of_lt_of_le t.a1 p200
  refine ⟨_, rfl, _, _, rfl, at0, line_of (by decide), _, rfl, _, (if decide (a < 0) = true then D.int (-1) else D.int 1), rfl, ?_, ?_⟩
  · by_cases h : a < 0
    · rw [decide_eq_true h]; rfl
    · rw [decide_eq_false h]; rfl
  have fin : ∀ z : Int, z = a → m_fraction [.int z, .int ((b.getD 1 : Nat) : Int)] S Q := fun z hz => by
    rw [hz]
    exact use_fraction (by omega) trivial q
  by_cases h : a < 0
  · rw [decide_eq_true h, if_pos rfl]
    exact ⟨mulOk (a := 700) (b := 2) (by rw [Int.natAbs_natCast]; exact ha7) (by decide) (by decide) (by decide) (by decide), _, rfl, _, _, rfl, at1, fin _ (by omega)⟩
  · rw [decide_eq_false h, if_neg Bool.false_ne_true]
    exact ⟨mulOk (a := 700) (b := 2) (by rw [Int.natAbs_natCast]; exact ha7) (by decide) (by decide) (by decide) (by decide), _, rfl, _, _, rfl, at1, fin _ (by omega)⟩
theorem wordQ_val (q : Rat) : Rat.divInt q.num ((((if q.den = 1 then none else some q.den) : Option Nat).getD 1 : Nat) : Int) = q := by
  have e : ((if q.den = 1 then none else some q.den) : Option Nat).getD 1 = q.den := by
    by_cases h : q.den = 1
    · rw [if_pos h, h]; rfl
    · rw [if_neg h]; rfl
  rw [e, Rat.divInt_ofNat]
  exact Rat.mkRat_self q
theorem use_readQ {q : Rat} {n : Nat} {S : Store} {Q : D → Store → Prop} (h : bq n q) (hn : 2 ^ n ≤ 10 ^ 200) (k : Q (dQ q) S) : m_read_number [.str (showQ q)] S Q :=
  in_read_number ⟨q.num, _, rfl, wordQ_b h hn, by rw [wordQ_val]; exact k⟩

end ND
set_option Elab.async false
set_option linter.all false
set_option maxRecDepth 100000
namespace ND
open PySem PySem.Spec PyProof.Rows L2
open TL
/-! ### lines and tables as texts -/
theorem mem_joinL {S : List Nat} {c : Nat} : ∀ {ps : List (List Nat)}, c ∈ joinL S ps → c ∈ S ∨ ∃ p ∈ ps, c ∈ p
  | [], h => by cases h
  | [p], h => .inr ⟨p, by simp, h⟩
  | p :: q :: r, h => by
    rcases List.mem_append.mp h with h | h
    · exact .inr ⟨p, by simp, h⟩
    · rcases List.mem_append.mp h with h | h
      · exact .inl h
      · rcases mem_joinL h with h | ⟨x, hx, hc⟩
        · exact .inl h
        · exact .inr ⟨x, List.mem_cons_of_mem _ hx, hc⟩
theorem len_joinL {S : List Nat} {m : Nat} : ∀ {ps : List (List Nat)}, (∀ p ∈ ps, p.length ≤ m) → (joinL S ps).length ≤ ps.length * (m + S.length)
  | [], _ => Nat.zero_le _
  | [p], h => by
    have := h p (by simp)
    show p.length ≤ 1 * (m + S.length)
    omega
  | p :: q :: r, h => by
    have h1 := h p (by simp)
    have h2 := len_joinL (S := S) (ps := q :: r) fun x hx => h x (List.mem_cons_of_mem _ hx)
    show (p ++ (S ++ joinL S (q :: r))).length ≤ ((q :: r).length + 1) * (m + S.length)
    rw [List.length_append, List.length_append, Nat.add_mul, Nat.one_mul]
    omega
theorem tl_joinT (y : Str) (ps : List Str) : tl (Txt.join y ps) = joinL (tl y) (ps.map tl) := by rw [join_eq]; exact tl_join y ps
theorem tl_sp : tl (" " : Str) = [32] := by decide +kernel
theorem tl_nl : tl ("\n" : Str) = [10] := by decide +kernel
theorem tl_eq : tl ("=" : Str) = [61] := by decide +kernel
/-- a word of a line: without blanks and line ends -/
def WordOk (x : Str) : Prop := ∀ c ∈ tl x, c ≠ 10 ∧ c ≠ 32 ∧ c < 128
theorem ok_eq : WordOk ("=" : Str) := by
  intro c hc
  rw [tl_eq] at hc
  have : c = 61 := by simpa using hc
  omega
theorem ok_name {w : List Nat} (h : Word w) : WordOk (SX.S w) := fun c hc => by have := h.2.2 c hc; omega
theorem ok_word {a : Int} {b : Option Nat} : WordOk (wordT a b) := fun c hc => by
  have dg : ∀ n : Nat, ∀ c ∈ numL n, c ≠ 10 ∧ c ≠ 32 ∧ c < 128 := fun n c h => by have := numL_digits n c h; omega
  rw [tl_word] at hc
  rcases List.mem_append.mp hc with h | h
  · rcases Int.lt_or_le a 0 with ha | ha
    · rw [tl_neg ha] at h
      rcases List.mem_cons.mp h with rfl | h
      · decide
      · exact dg _ c h
    · rw [tl_nn ha] at h; exact dg _ c h
  · cases b with
    | none => cases h
    | some b =>
      rcases List.mem_cons.mp h with rfl | h
      · decide
      · exact dg _ c h
def lineT (ps : List Str) : Str := Txt.join " " ps
theorem split_line {ps : List Str} (hn : ps ≠ []) (h : ∀ p ∈ ps, WordOk p) : Txt.split (lineT ps) " " = ps :=
  split_join tl_sp (by decide +kernel) hn fun p hp hm => (h p hp 32 hm).2.1 rfl
theorem line_ok {ps : List Str} (h : ∀ p ∈ ps, WordOk p) : ∀ c ∈ tl (lineT ps), c ≠ 10 ∧ c < 128 := fun c hc => by
  unfold lineT at hc
  rw [tl_joinT, tl_sp] at hc
  rcases mem_joinL hc with h1 | ⟨p, hp, h1⟩
  · have : c = 32 := by simpa using h1
    omega
  · obtain ⟨x, hx, rfl⟩ := List.mem_map.mp hp
    have := h x hx c h1
    omega
theorem line_len {ps : List Str} {m : Nat} (h : ∀ p ∈ ps, p.length ≤ m) : (lineT ps).length ≤ ps.length * (m + 1) := by
  rw [lenT]
  unfold lineT
  rw [tl_joinT, tl_sp]
  have := len_joinL (S := [32]) (m := m) (ps := ps.map tl) fun p hp => by
    obtain ⟨x, hx, rfl⟩ := List.mem_map.mp hp
    have := h x hx
    rw [lenT] at this
    exact this
  rw [List.length_map] at this
  exact this
def linesT (ls : List Str) : Str := Txt.join "\n" ls
theorem split_lines {ls : List Str} (hn : ls ≠ []) (h : ∀ l ∈ ls, ∀ c ∈ tl l, c ≠ 10 ∧ c < 128) : Txt.split (linesT ls) "\n" = ls :=
  split_join tl_nl (by decide +kernel) hn fun p hp hm => (h p hp 10 hm).1 rfl
theorem lines_len {ps : List Str} {m : Nat} (h : ∀ p ∈ ps, p.length ≤ m) : (linesT ps).length ≤ ps.length * (m + 1) := by
  rw [lenT]
  unfold linesT
  rw [tl_joinT, tl_nl]
  have := len_joinL (S := [10]) (m := m) (ps := ps.map tl) fun p hp => by
    obtain ⟨x, hx, rfl⟩ := List.mem_map.mp hp
    have := h x hx
    rw [lenT] at this
    exact this
  rw [List.length_map] at this
  exact this
/-- a number in a line -/
abbrev NumW : Type := Int × Option Nat
abbrev numT (p : NumW) : Str := wordT p.1 p.2
def numV (p : NumW) : Rat := Rat.divInt p.1 ((p.2.getD 1 : Nat) : Int)
def numOf (q : Rat) : NumW := (q.num, if q.den = 1 then none else some q.den)
theorem numV_of (q : Rat) : numV (numOf q) = q := wordQ_val q
theorem numT_of (q : Rat) : numT (numOf q) = showQ q := rfl
abbrev RowW : Type := List NumW × NumW
def rowWords (r : RowW) : List Str := r.1.map numT ++ [("=" : Str), numT r.2]
def headWords (ws : List (List Nat)) : List Str := ws.map SX.S ++ [("=" : Str)]
def textW (ws : List (List Nat)) (rs : List RowW) : Str := linesT (lineT (headWords ws) :: rs.map fun r => lineT (rowWords r))
structure TexC (ws : List (List Nat)) (rs : List RowW) : Prop where
  wrd : ∀ w ∈ ws, Word w
  nd : ws.Nodup
  few : ws.length ≤ 6
  low : rs.length ≤ 11
  wid : ∀ r ∈ rs, r.1.length = ws.length
  ok : ∀ r ∈ rs, (∀ p ∈ r.1, WB p.1 p.2) ∧ WB r.2.1 r.2.2
section
variable {ws : List (List Nat)} {rs : List RowW} {r : RowW}
theorem head_ok (t : TexC ws rs) : ∀ p ∈ headWords ws, WordOk p := fun p hp => by
  rcases List.mem_append.mp hp with h | h
  · obtain ⟨w, hw, rfl⟩ := List.mem_map.mp h
    exact ok_name (t.wrd w hw)
  · rw [List.mem_singleton.mp h]; exact ok_eq
theorem row_ok : ∀ p ∈ rowWords r, WordOk p := fun p hp => by
  rcases List.mem_append.mp hp with h | h
  · obtain ⟨w, hw, rfl⟩ := List.mem_map.mp h
    exact ok_word
  · rcases List.mem_cons.mp h with rfl | h
    · exact ok_eq
    · rw [List.mem_singleton.mp h]; exact ok_word
theorem head_ne : headWords ws ≠ [] := by unfold headWords; simp
theorem row_ne : rowWords r ≠ [] := by unfold rowWords; simp
theorem len_eq1 : ("=" : Str).length = 1 := by decide +kernel
theorem head_len (t : TexC ws rs) : (lineT (headWords ws)).length ≤ 63 := by
  have := line_len (m := 8) (ps := headWords ws) fun p hp => by
    rcases List.mem_append.mp hp with h | h
    · obtain ⟨w, hw, rfl⟩ := List.mem_map.mp h
      rw [SX.S_len]; exact (t.wrd w hw).2.1
    · rw [List.mem_singleton.mp h, len_eq1]; decide
  have e : (headWords ws).length = ws.length + 1 := by unfold headWords; simp
  rw [e] at this
  have := t.few
  omega
theorem row_len (t : TexC ws rs) (hr : r ∈ rs) : (lineT (rowWords r)).length ≤ 3300 := by
  obtain ⟨h1, h2⟩ := t.ok r hr
  have := line_len (m := 403) (ps := rowWords r) fun p hp => by
    rcases List.mem_append.mp hp with h | h
    · obtain ⟨w, hw, rfl⟩ := List.mem_map.mp h
      exact (h1 w hw).len
    · rcases List.mem_cons.mp h with rfl | h
      · rw [len_eq1]; decide
      · rw [List.mem_singleton.mp h]; exact h2.len
  have e : (rowWords r).length = ws.length + 2 := by unfold rowWords; rw [List.length_append, List.length_map, t.wid r hr]; rfl
  rw [e] at this
  have := t.few
  omega
theorem textW_len (t : TexC ws rs) : (textW ws rs).length ≤ 39700 := by
  have := lines_len (m := 3300) (ps := lineT (headWords ws) :: rs.map fun r => lineT (rowWords r)) fun p hp => by
    rcases List.mem_cons.mp hp with rfl | h
    · have := head_len t; omega
    · obtain ⟨r, hr, rfl⟩ := List.mem_map.mp h
      exact row_len t hr
  rw [List.length_cons, List.length_map] at this
  have := t.low
  unfold textW
  omega
theorem textW_split (t : TexC ws rs) : Txt.split (textW ws rs) "\n" = lineT (headWords ws) :: rs.map fun r => lineT (rowWords r) := by
  refine split_lines (by simp) fun l hl => ?_
  rcases List.mem_cons.mp hl with rfl | h
  · exact line_ok (head_ok t)
  · obtain ⟨r, hr, rfl⟩ := List.mem_map.mp h
    exact line_ok row_ok
theorem textW_ok (t : TexC ws rs) : PyData.strOk (textW ws rs) = true := strOk_tl fun c hc => by
  unfold textW linesT at hc
  rw [tl_joinT, tl_nl] at hc
  rcases mem_joinL hc with h1 | ⟨p, hp, h1⟩
  · have : c = 10 := by simpa using h1
    omega
  · obtain ⟨l, hl, rfl⟩ := List.mem_map.mp hp
    rcases List.mem_cons.mp hl with rfl | h
    · exact (line_ok (head_ok t) c h1).2
    · obtain ⟨r, hr, rfl⟩ := List.mem_map.mp h
      exact (line_ok row_ok c h1).2
end
/-! a table as a text -/
def rowsW (rows : List (List Rat)) (wish : List Rat) : List RowW := List.zipWith (fun r w => (r.map numOf, numOf w)) rows wish
def textT (ws : List (List Nat)) (rows : List (List Rat)) (wish : List Rat) : Str := textW ws (rowsW rows wish)
theorem rowsW_row : ∀ {rows : List (List Rat)} {wish : List Rat}, rows.length = wish.length → (rowsW rows wish).map (fun r => r.1.map numV) = rows
  | [], [], _ => rfl
  | [], _ :: _, h => by simp at h
  | _ :: _, [], h => by simp at h
  | r :: rows, w :: wish, h => by
    show (r.map numOf).map numV :: (rowsW rows wish).map _ = r :: rows
    rw [rowsW_row (by simpa using h), List.map_map, show (numV ∘ numOf) = id from funext numV_of, List.map_id]
theorem rowsW_wish : ∀ {rows : List (List Rat)} {wish : List Rat}, rows.length = wish.length → (rowsW rows wish).map (fun r => numV r.2) = wish
  | [], [], _ => rfl
  | [], _ :: _, h => by simp at h
  | _ :: _, [], h => by simp at h
  | r :: rows, w :: wish, h => by
    show numV (numOf w) :: (rowsW rows wish).map _ = w :: wish
    rw [rowsW_wish (by simpa using h), numV_of]
theorem numOf_b {q : Rat} {n : Nat} (h : bq n q) (hn : 2 ^ n ≤ 10 ^ 200) : WB (numOf q).1 (numOf q).2 := wordQ_b h hn
structure TabT (ws : List (List Nat)) (rows : List (List Rat)) (wish : List Rat) : Prop where
  wrd : ∀ w ∈ ws, Word w
  nd : ws.Nodup
  few : ws.length ≤ 6
  low : rows.length ≤ 10
  len : rows.length = wish.length
  wid : ∀ r ∈ rows, r.length = ws.length
  ent : ∀ r ∈ rows, ∀ q ∈ r, bq 600 q
  wsh : ∀ q ∈ wish, bq 600 q
theorem p600 : (2 : Nat) ^ 600 ≤ 10 ^ 200 := by decide +kernel
theorem TabT.w {ws : List (List Nat)} {rows : List (List Rat)} {wish : List Rat} (t : TabT ws rows wish) : TexC ws (rowsW rows wish) := by
  refine ⟨t.wrd, t.nd, t.few, ?_, fun r hr => ?_, fun r hr => ?_⟩
  · unfold rowsW
    rw [List.length_zipWith]
    have := t.low
    omega
  all_goals
    obtain ⟨i, hi, rfl⟩ := List.getElem_of_mem hr
    have hi2 := hi
    unfold rowsW at hi2
    rw [List.length_zipWith] at hi2
    have e : (rowsW rows wish)[i] = ((rows[i]'(by omega)).map numOf, numOf (wish[i]'(by omega))) := List.getElem_zipWith ..
    rw [e]
  · rw [List.length_map]; exact t.wid _ (List.getElem_mem _)
  · refine ⟨fun p hp => ?_, numOf_b (t.wsh _ (List.getElem_mem _)) p600⟩
    obtain ⟨q, hq, rfl⟩ := List.mem_map.mp hp
    exact numOf_b (t.ent _ (List.getElem_mem _) q hq) p600
theorem S_map_inj : ∀ {a b : List (List Nat)}, a.map SX.S = b.map SX.S → a = b
  | [], [], _ => rfl
  | [], _ :: _, h => by simp at h
  | _ :: _, [], h => by simp at h
  | x :: a, y :: b, h => by
    injection h with h1 h2
    rw [SX.S_inj h1, S_map_inj h2]
theorem numT_inj {p q : NumW} (h : numT p = numT q) : p = q := by
  obtain ⟨h1, h2⟩ := word_inj h
  exact Prod.ext h1 h2
theorem rowWords_inj {r s : RowW} (h : rowWords r = rowWords s) : r = s := by
  unfold rowWords at h
  have hl := congrArg List.length h
  rw [List.length_append, List.length_append, List.length_map, List.length_map] at hl
  have hl : r.1.length = s.1.length := by simpa using hl
  obtain ⟨h1, h2⟩ := List.append_inj h (by rw [List.length_map, List.length_map, hl])
  injection h2 with _ h3
  injection h3 with h3 _
  refine Prod.ext ?_ (numT_inj h3)
  have key : ∀ {a b : List NumW}, a.map numT = b.map numT → a = b := fun {a} => by
    induction a with
    | nil => intro b h; cases b with
      | nil => rfl
      | cons y b => simp at h
    | cons x a ih => intro b h; cases b with
      | nil => simp at h
      | cons y b =>
        injection h with h1 h2
        rw [numT_inj h1, ih h2]
  exact key h1
theorem textW_inj {ws ws' : List (List Nat)} {rs rs' : List RowW} (t : TexC ws rs) (t' : TexC ws' rs') (h : textW ws rs = textW ws' rs') : ws = ws' ∧ rs = rs' := by
  have s1 := textW_split t
  rw [h, textW_split t'] at s1
  injection s1 with e1 e2
  have h1 := split_line head_ne (head_ok t)
  rw [← e1, split_line head_ne (head_ok t')] at h1
  unfold headWords at h1
  have h2 := List.append_inj_left' h1 rfl
  refine ⟨(S_map_inj h2).symm, ?_⟩
  have key : ∀ {a b : List RowW}, (b.map fun r => lineT (rowWords r)) = (a.map fun r => lineT (rowWords r)) → a = b := fun {a} => by
    induction a with
    | nil => intro b h; cases b with
      | nil => rfl
      | cons y b => simp at h
    | cons x a ih => intro b h; cases b with
      | nil => simp at h
      | cons y b =>
        injection h with h1 h2
        have e := split_line (row_ne (r := x)) row_ok
        have h1 : lineT (rowWords y) = lineT (rowWords x) := h1
        rw [← h1, split_line row_ne row_ok] at e
        rw [rowWords_inj e, ih h2]
  exact key e2
theorem textT_inj {ws ws' : List (List Nat)} {rows rows' : List (List Rat)} {wish wish' : List Rat} (t : TabT ws rows wish) (t' : TabT ws' rows' wish') : textT ws rows wish = textT ws' rows' wish' ↔ tabD ws rows wish = tabD ws' rows' wish' := by
  constructor
  · intro h
    obtain ⟨h1, h2⟩ := textW_inj t.w t'.w h
    have e1 := rowsW_row t.len
    have e2 := rowsW_wish t.len
    rw [h2] at e1 e2
    rw [rowsW_row t'.len] at e1
    rw [rowsW_wish t'.len] at e2
    rw [h1, e1, e2]
  · intro h
    unfold tabD at h
    injection h with h
    injection h with h1 h
    injection h with h2 h
    injection h with h3 _
    injection h1 with h1
    injection h2 with h2
    injection h3 with h3
    have k1 : ws = ws' := by
      have : (ws.map SX.S).map D.str = (ws'.map SX.S).map D.str := by rw [List.map_map, List.map_map]; exact h1
      refine S_map_inj ?_
      exact (List.map_inj_right (fun x y e => by injection e)).mp this
    have k3 : wish = wish' := rowD_inj h3
    have k2 : rows = rows' := by
      unfold rowsD at h2
      exact (List.map_inj_right (fun x y e => by injection e with e; exact rowD_inj e)).mp h2
    rw [k1, k2, k3]

end ND
set_option Elab.async false
set_option linter.all false
set_option maxRecDepth 100000
namespace ND
open PySem PySem.Spec PyProof.Rows L2
open TL
/-! ### tables read and shown -/
theorem cut_drop {l : List D} {k : Nat} : cutD l (some (k : Int)) none = l.drop k := by
  unfold cutD
  rw [HT.sIx_none, HT.sIx_nat]
  rcases Nat.le_total k l.length with h | h
  · rw [Nat.min_eq_left h]; exact List.take_of_length_le (by rw [List.length_drop]; exact Nat.le_refl _)
  · rw [Nat.min_eq_right h, Nat.sub_self, List.take_zero, List.drop_eq_nil_of_le h]
theorem cut_take {l : List D} {k : Nat} : cutD l none (some (k : Int)) = l.take k := by
  unfold cutD
  rw [HT.sIx_none, HT.sIx_nat, List.drop_zero, Nat.sub_zero]
  rcases Nat.le_total k l.length with h | h
  · rw [Nat.min_eq_left h]
  · rw [Nat.min_eq_right h, List.take_of_length_le (Nat.le_refl _), List.take_of_length_le h]
theorem cut_last {l : List D} {x : D} : cutD (l ++ [x]) none (some (-1)) = l := by
  unfold cutD
  have e : HT.sIx (l ++ [x]).length (l ++ [x]).length (some (-1)) = l.length := by
    show (if (-1 : Int) < 0 then ((-1 : Int) + ((l ++ [x]).length : Int)).toNat else min (-1 : Int).toNat (l ++ [x]).length) = l.length
    rw [if_pos (by decide), List.length_append]
    simp
    omega
  rw [e, HT.sIx_none, List.drop_zero, Nat.sub_zero, List.take_left']
  rfl
theorem g2_goT {i j : Nat} {a b : D} {env : Slots} {S : Store} {Q : Slots → Store → Prop} (h : Q ((env.set i (some a)).set j (some b)) S) : gConss (gN i) (gConss (gN j) gNils) [a, b] env S Q := h
theorem g3_goT {i j k : Nat} {a b c : D} {env : Slots} {S : Store} {Q : Slots → Store → Prop} (h : Q (((env.set i (some a)).set j (some b)).set k (some c)) S) : gConss (gN i) (gConss (gN j) (gConss (gN k) gNils)) [a, b, c] env S Q := h
theorem atI_lastT {l : List D} {x : D} : atI (l ++ [x]) (-1) = some x := by
  unfold atI ixN
  rw [if_neg (by decide), if_pos (by rw [List.length_append]; show -(((l.length + 1 : Nat)) : Int) ≤ -1; omega)]
  show (l ++ [x])[((-1 : Int) + ((l ++ [x]).length : Int)).toNat]? = some x
  have e : ((-1 : Int) + ((l ++ [x]).length : Int)).toNat = l.length := by rw [List.length_append]; show ((-1 : Int) + ((l.length + 1 : Nat) : Int)).toNat = _; omega
  rw [e]
  simp
theorem letter_in {c : Nat} (h : 97 ≤ c ∧ c ≤ 122) : (Builtin.Str.occurrences ("abcdefghijklmnopqrstuvwxyz" : Str) ⟨#[c]⟩ 0 ("abcdefghijklmnopqrstuvwxyz" : Str).length 1).isEmpty = false := by
  have k : ∀ d : Fin 26, (Builtin.Str.occurrences ("abcdefghijklmnopqrstuvwxyz" : Str) ⟨#[97 + d.val]⟩ 0 ("abcdefghijklmnopqrstuvwxyz" : Str).length 1).isEmpty = false := by decide +kernel
  have := k ⟨c - 97, by omega⟩
  rw [show 97 + (c - 97) = c by omega] at this
  exact this
theorem all_trueT {l : List Nat} {S : Store} {Q : D → Store → Prop} (q : Q (.bl true) S) : oAll [.lst (l.map fun _ => D.bl true)] S Q := by
  refine ⟨l.map fun _ => true, by show _ = (l.map fun _ => true).map D.bl; rw [List.map_map]; rfl, ?_⟩
  have e : (l.map fun _ => true).all id = true := by rw [List.all_eq_true]; intro b hb; obtain ⟨_, _, rfl⟩ := List.mem_map.mp hb; rfl
  first | (rw [e]; exact q) | (simp; exact q)
def w_is_name : WS :=
  (wSeq (wIfS (wNot (wTst (wChain oLe oLe (wC (.int 1)) (wCall oLen (wCons (wVar 0) wNil)) (wC (.int 8))))) (wRet (wC (.bl false))) wNext)
  (wRet (wCall oAll (wCons (wLc (wSeqI (wVar 0)) (gN 1) wYes (w2 (oIn false) (wVar 1) (wC (.str "abcdefghijklmnopqrstuvwxyz"))) [1]) wNil))))
@[irreducible] def m_is_name : On := fun ds S Q => ∃ w : List Nat, ds = [wordD w] ∧ Word w ∧ Q (.bl true) S
theorem in_is_name {ds : List D} {S : Store} {Q : D → Store → Prop} (h : (fun ds S Q => ∃ w : List Nat, ds = [wordD w] ∧ Word w ∧ Q (.bl true) S : On) ds S Q) : m_is_name ds S Q := by unfold m_is_name; exact h
theorem l_is_name (ds : List D) (S : Store) (Q : D → Store → Prop) (h : m_is_name ds S Q) : ds.length = 1 := by unfold m_is_name at h; obtain ⟨_, rfl, _⟩ := h; rfl
theorem v_is_name (ds : List D) (S : Store) (Q : D → Store → Prop) (h : m_is_name ds S Q) : w_is_name (fin Q) (dst 2 ds) S := by
  unfold m_is_name at h
  obtain ⟨w, rfl, hw, q⟩ := h
  obtain ⟨w1, w8, wl⟩ := hw
  have el : (SX.S w).length = w.length := SX.S_len w
  unfold w_is_name
  have ch : ∀ R : Bool → Store → Prop, R false S → wNot (wTst (wChain oLe oLe (wC (.int 1)) (wCall oLen (wCons (wVar 0) wNil)) (wC (.int 8)))) (dst 2 [wordD w]) S R := fun R k => by
    refine ⟨_, rfl, line_of (by rw [el]; omega), ?_⟩
    have e1 : decide ((1 : Int) ≤ ((SX.S w).length : Int)) = true := decide_eq_true (by rw [el]; omega)
    have e2 : decide (((SX.S w).length : Int) ≤ 8) = true := decide_eq_true (by rw [el]; omega)
    show (if decide ((1 : Int) ≤ ((SX.S w).length : Int)) = true then _ else _)
    rw [if_pos e1]
    show R (!decide (((SX.S w).length : Int) ≤ 8)) S
    rw [e2]
    exact k
  refine wIf_decT (pa := false) ch (fun h => by cases h) fun _ => next_goT ?_
  refine ⟨_, rfl, ?_⟩
  refine ⟨by show (chrsD (SX.S w)).length ≤ sizeLine; unfold chrsD; rw [List.length_map]; exact line_of (by show w.length ≤ _; omega), ?_⟩
  show lcW (fun _ => True) (gN 1) wYes (w2 (oIn false) (wVar 1) (wC (.str "abcdefghijklmnopqrstuvwxyz"))) _ (w.map fun c => D.str ⟨#[c]⟩) [] S _
  refine lc_mapT (fun c : Nat => D.str ⟨#[c]⟩) (fun _ : Nat => D.bl true) (fun c => c) w trivial (fun c K hc k => ⟨_, rfl, ?_⟩) ?_
  · show K (.bl (nb false (!(Builtin.Str.occurrences ("abcdefghijklmnopqrstuvwxyz" : Str) ⟨#[c]⟩ 0 ("abcdefghijklmnopqrstuvwxyz" : Str).length 1).isEmpty))) S
    rw [letter_in (wl c hc)]
    exact k
  · rw [List.map_id']
    exact all_trueT q
theorem enum_words {ws : List (List Nat)} {i : Nat} {x : D} (h : (enumD (ws.map wordD))[i]? = some x) : ∃ w, ws[i]? = some w ∧ x = .tup [.int (i : Nat), wordD w] := by
  unfold enumD at h
  rw [List.getElem?_map, List.getElem?_zipIdx, List.getElem?_map] at h
  cases e : ws[i]? with
  | none => rw [e] at h; simp at h
  | some w =>
    rw [e] at h
    refine ⟨w, rfl, ?_⟩
    simp at h
    exact h.symm
theorem words_map {ws : List (List Nat)} : ws.map wordD = (ws.map SX.S).map D.str := by rw [List.map_map]; rfl
def w_head_read (f1 : On) : WS :=
  (wSeq (wSet 1 (wSplit (wVar 0) (wC (.str " "))))
  (wSeq (wSet 2 (wSl (wVar 1) wNoP (wP (w1 oNeg (wC (.int 1))))))
  (wSeq (wIfS (wTst (w2 oNe (w2 oIx (wVar 1) (w1 oNeg (wC (.int 1)))) (wC (.str "=")))) wNever wNext)
  (wSeq (forS (wEnumI (wCons (wVar 2) wNil)) (gT 2 (gConss (gN 3) (gConss (gN 4) gNils))) (wIfS (wOr (wNot (wTst (wCall f1 (wCons (wVar 4) wNil)))) (wTst (w2 (oIn false) (wVar 4) (wSl (wVar 2) wNoP (wP (wVar 3)))))) wNever wNext))
  (wRet (wCall oTuple (wCons (wVar 2) wNil)))))))
@[irreducible] def m_head_read : On := fun ds S Q => ∃ (ws : List (List Nat)) (rs : List RowW), ds = [.str (lineT (headWords ws))] ∧ TexC ws rs ∧ Q (.tup (ws.map wordD)) S
theorem in_head_read {ds : List D} {S : Store} {Q : D → Store → Prop} (h : (fun ds S Q => ∃ (ws : List (List Nat)) (rs : List RowW), ds = [.str (lineT (headWords ws))] ∧ TexC ws rs ∧ Q (.tup (ws.map wordD)) S : On) ds S Q) : m_head_read ds S Q := by unfold m_head_read; exact h
theorem l_head_read (ds : List D) (S : Store) (Q : D → Store → Prop) (h : m_head_read ds S Q) : ds.length = 1 := by unfold m_head_read at h; obtain ⟨_, _, rfl, _⟩ := h; rfl
theorem v_head_read (ds : List D) (S : Store) (Q : D → Store → Prop) (h : m_head_read ds S Q) : w_head_read m_is_name (fin Q) (dst 5 ds) S := by
  unfold m_head_read at h
  obtain ⟨ws, rs, rfl, t, q⟩ := h
  have hl := head_len t
  have sp := split_line head_ne (head_ok t)
  have c1 : (" " : Str).length = 1 := by decide +kernel
  have ew : (headWords ws).map D.str = ws.map wordD ++ [.str "="] := by unfold headWords; rw [List.map_append, ← words_map]; rfl
  unfold w_head_read
  refine ⟨_, rfl, ⟨_, rfl⟩, _, _, rfl, rfl, by rw [c1]; rfl, line_of (by omega), ?_⟩
  rw [sp, ew]
  dsimp only
  refine ⟨_, rfl, _, rfl, ?_⟩
  rw [cut_last]
  dsimp only
  refine wIf_decT (pa := false) (fun R k => ⟨_, rfl, _, _, rfl, atI_lastT, ?_⟩) (fun h => by cases h) fun _ => next_goT ?_
  · refine eq_strT (by decide +kernel) (by decide +kernel) ?_
    rw [decide_eq_true rfl]
    exact k
  dsimp only
  refine ⟨_, rfl, _, rfl, ?_⟩
  refine for_inv (fun i env S' => S' = S ∧ ∃ o3 o4, env = [some (.str (lineT (headWords ws))), some (.lst (ws.map wordD ++ [.str "="])), some (.lst (ws.map wordD)), o3, o4]) ⟨rfl, _, _, rfl⟩ ?_ ?_
  · rintro i x env S' K hx ⟨rfl, o3, o4, rfl⟩ hK
    obtain ⟨w, hw, rfl⟩ := enum_words hx
    refine ⟨trivial, _, rfl, rfl, ?_⟩
    refine g2_goT ?_
    have nin : ¬ SX.S w ∈ (ws.take i).map SX.S := fun h => by
      have h := mem_S.mp h
      obtain ⟨hi, ei⟩ := List.getElem?_eq_some_iff.mp hw
      obtain ⟨j, hj, ej⟩ := List.getElem_of_mem h
      rw [List.length_take] at hj
      rw [List.getElem_take] at ej
      have hp := (List.pairwise_iff_getElem.mp t.nd) j i (by omega) hi (by omega)
      exact hp (ej.trans ei.symm)
    refine wIf_decT (pa := false || false) (wOr_goT (fun R k => ⟨_, rfl, in_is_name ⟨w, rfl, t.wrd w (List.mem_of_getElem? hw), k⟩⟩) fun _ R k => ⟨_, rfl, _, rfl, _, rfl, _, rfl, ?_⟩) (fun h => by cases h) fun _ => next_goT (hK _ _ ⟨rfl, _, _, rfl⟩)
    rw [cut_take, words_map, ← List.map_take, ← List.map_take]
    refine str_in (ns := (ws.take i).map SX.S) rfl ?_
    rw [decide_eq_false nin]
    exact k
  · rintro env S' ⟨rfl, o3, o4, rfl⟩
    exact ⟨trivial, _, rfl, _, rfl, q⟩
theorem rowsW_len {r : RowW} : (rowWords r).length = r.1.length + 2 := by unfold rowWords; rw [List.length_append, List.length_map]; rfl
theorem eq_intW {neg : Bool} {a b : Int} {S : Store} {Q : D → Store → Prop} (q : Q (.bl (nb neg (decide (a = b)))) S) : oEqB neg (.int a) (.int b) S Q :=
  eq_pure rfl rfl (by show 0 ≤ 64; decide) (by show 0 ≤ 64; decide) fun c hc => by
    have e : c = decide (a = b) := by
      by_cases h : a = b
      · rw [decide_eq_true h]; exact hc.mpr (by rw [h])
      · rw [decide_eq_false h]
        cases c with
        | true => have := hc.mp rfl; injection this with z; exact absurd z h
        | false => rfl
    rw [e]; exact q
theorem c_goW {d : D} {env : Slots} {S : Store} {Q : D → Store → Prop} (h : Q d S) : wC d env S Q := h
theorem addne_goW {a i j : Int} {S : Store} {R : D → Store → Prop} (h : a = i + j) (k : R (.bl false) S) : oAdd (.int i) (.int j) S fun y S2 => oEqB true (.int a) y S2 R := eq_intW (by rw [decide_eq_true h]; exact k)
abbrev rowVD (r : RowW) : D := .tup [.tup (rowD (r.1.map numV)), dQ (numV r.2)]
def w_row_read (f1 : On) : WS :=
  (wSeq (wSet 3 (wSplit (wVar 0) (wC (.str " "))))
  (wSeq (wIfS (wOr (wTst (w2 oNe (wCall oLen (wCons (wVar 3) wNil)) (w2 oAdd (wVar 1) (wC (.int 2))))) (wTst (w2 oNe (w2 oIx (wVar 3) (wVar 1)) (wC (.str "="))))) wNever wNext)
  (wSeq (wSet 4 (wLc (wSeqI (w2 oAdd (wSl (wVar 3) wNoP (wP (wVar 1))) (wSl (wVar 3) (wP (w2 oAdd (wVar 1) (wC (.int 1)))) wNoP))) (gN 5) wYes (wCall f1 (wCons (wVar 5) wNil)) [5]))
  (wRet (wFz (wTup (wCons (wCall oTuple (wCons (wSl (wVar 4) wNoP (wP (wVar 1))) wNil)) (wCons (w2 oIx (wVar 4) (wVar 1)) wNil))))))))
@[irreducible] def m_row_read : On := fun ds S Q => ∃ (ws : List (List Nat)) (rs : List RowW) (r : RowW) (place : Int), ds = [.str (lineT (rowWords r)), .int (ws.length : Nat), .int place] ∧ TexC ws rs ∧ r ∈ rs ∧ Q (rowVD r) S
theorem in_row_read {ds : List D} {S : Store} {Q : D → Store → Prop} (h : (fun ds S Q => ∃ (ws : List (List Nat)) (rs : List RowW) (r : RowW) (place : Int), ds = [.str (lineT (rowWords r)), .int (ws.length : Nat), .int place] ∧ TexC ws rs ∧ r ∈ rs ∧ Q (rowVD r) S : On) ds S Q) : m_row_read ds S Q := by unfold m_row_read; exact h
theorem l_row_read (ds : List D) (S : Store) (Q : D → Store → Prop) (h : m_row_read ds S Q) : ds.length = 3 := by unfold m_row_read at h; obtain ⟨_, _, _, _, rfl, _⟩ := h; rfl
theorem v_row_read (ds : List D) (S : Store) (Q : D → Store → Prop) (h : m_row_read ds S Q) : w_row_read m_read_number (fin Q) (dst 6 ds) S := by
  unfold m_row_read at h
  obtain ⟨ws, rs, r, place, rfl, t, hr, q⟩ := h
  have hl := row_len t hr
  have wd := t.wid r hr
  have few := t.few
  obtain ⟨ok1, ok2⟩ := t.ok r hr
  have sp := split_line (row_ne (r := r)) row_ok
  have c1 : (" " : Str).length = 1 := by decide +kernel
  have ew : (rowWords r).map D.str = r.1.map (fun p => D.str (numT p)) ++ [.str "=", .str (numT r.2)] := by unfold rowWords; rw [List.map_append, List.map_map]; rfl
  have lm : (r.1.map (fun p => D.str (numT p))).length = ws.length := by rw [List.length_map, wd]
  unfold w_row_read
  refine ⟨_, rfl, ⟨_, rfl⟩, _, _, rfl, rfl, by rw [c1]; rfl, line_of (by omega), ?_⟩
  rw [sp, ew]
  generalize hw : r.1.map (fun p => D.str (numT p)) = wl at lm
  have lw : (wl ++ [D.str "=", .str (numT r.2)]).length = ws.length + 2 := by rw [List.length_append, lm]; rfl
  have at1 : atI (wl ++ [D.str "=", .str (numT r.2)]) ((ws.length : Nat) : Int) = some (.str "=") := atI_nat (by rw [List.getElem?_append_right (by omega), lm, Nat.sub_self]; rfl)
  dsimp only
  refine wIf_decT (pa := false || false) (wOr_goT (fun R k => ⟨_, rfl, _, rfl, ?_⟩) fun _ R k => ⟨_, rfl, _, rfl, _, _, rfl, at1, eq_strT (by decide +kernel) (by decide +kernel) (by rw [decide_eq_true rfl]; exact k)⟩) (fun h => by cases h) fun _ => next_goT ?_
  · refine ⟨_, rfl, ?_⟩
    have e : (((wl ++ [D.str "=", .str (numT r.2)]).length : Nat) : Int) = ((ws.length : Nat) : Int) + 2 := by rw [lw]; rfl
    refine c_goW ?_
    exact addne_goW e k
  dsimp only
  refine ⟨_, rfl, _, rfl, _, rfl, ?_⟩
  rw [cut_take, List.take_left' lm]
  refine ⟨_, rfl, _, rfl, _, rfl, ?_⟩
  have e1 : (((ws.length : Nat) : Int) + 1) = ((ws.length + 1 : Nat) : Int) := rfl
  rw [e1, cut_drop, List.drop_append, lm]
  have e2 : wl.drop (ws.length + 1) ++ [D.str "=", .str (numT r.2)].drop (ws.length + 1 - ws.length) = [.str (numT r.2)] := by
    rw [List.drop_eq_nil_of_le (by omega), show ws.length + 1 - ws.length = 1 by omega]; rfl
  rw [e2]
  refine ⟨_, _, rfl, rfl, line_of (by rw [lm]; show ws.length + 1 ≤ _; omega), ?_⟩
  have e3 : wl ++ [D.str (numT r.2)] = (r.1 ++ [r.2]).map fun p => D.str (numT p) := by rw [List.map_append, ← hw]; rfl
  rw [e3]
  refine walkD_of (l := (r.1 ++ [r.2]).map fun p => D.str (numT p)) rfl ⟨line_of (by rw [List.length_map, List.length_append, wd]; show ws.length + 1 ≤ _; omega), ?_⟩
  refine lc_mapT (fun p : NumW => D.str (numT p)) dQ numV (r.1 ++ [r.2]) trivial (fun p K hp k => ⟨_, rfl, in_read_number ⟨p.1, p.2, rfl, ?_, k⟩⟩) ?_
  · rcases List.mem_append.mp hp with h | h
    · exact ok1 p h
    · rw [List.mem_singleton.mp h]; exact ok2
  have e4 : ((r.1 ++ [r.2]).map numV).map dQ = rowD (r.1.map numV) ++ [dQ (numV r.2)] := by rw [List.map_append, List.map_append]; rfl
  rw [e4]
  have lr : (rowD (r.1.map numV)).length = ws.length := by rw [rowD_len, List.length_map, wd]
  have at2 : atI (rowD (r.1.map numV) ++ [dQ (numV r.2)]) ((ws.length : Nat) : Int) = some (dQ (numV r.2)) := atI_nat (by rw [List.getElem?_append_right (by omega), lr, Nat.sub_self]; rfl)
  dsimp only
  refine ⟨_, rfl, _, rfl, _, rfl, ?_⟩
  rw [cut_take, List.take_left' lr]
  exact ⟨_, rfl, _, rfl, _, rfl, _, _, rfl, at2, by show 2 ≤ sizeLine; decide, _, S, Sub.refl _, .same _, q⟩
def w_read_table (f1 : On) (f2 : On) : WS :=
  (wSeq (wSet 1 (wSplit (wVar 0) (wC (.str "\n"))))
  (wSeq (wSet 2 (wCall f1 (wCons (w2 oIx (wVar 1) (wC (.int 0))) wNil)))
  (wSeq (wSet 3 (wLc (wRng2 (wC (.int 1)) (wCall oLen (wCons (wVar 1) wNil))) (gN 4) wYes (wCall f2 (wCons (w2 oIx (wVar 1) (wVar 4)) (wCons (wCall oLen (wCons (wVar 2) wNil)) (wCons (wVar 4) wNil)))) [4]))
  (wRet (wTup (wCons (wVar 2) (wCons (wCall oTuple (wCons (wLc (wSeqI (wVar 3)) (gT 2 (gConss (gN 5) (gConss (gN 6) gNils))) wYes (wVar 5) [5, 6]) wNil)) (wCons (wCall oTuple (wCons (wLc (wSeqI (wVar 3)) (gT 2 (gConss (gN 5) (gConss (gN 6) gNils))) wYes (wVar 6) [5, 6]) wNil)) wNil))))))))
@[irreducible] def m_read_table : On := fun ds S Q => ∃ (ws : List (List Nat)) (rs : List RowW), ds = [.str (textW ws rs)] ∧ TexC ws rs ∧ Q (tabD ws (rs.map fun r => r.1.map numV) (rs.map fun r => numV r.2)) S
theorem in_read_table {ds : List D} {S : Store} {Q : D → Store → Prop} (h : (fun ds S Q => ∃ (ws : List (List Nat)) (rs : List RowW), ds = [.str (textW ws rs)] ∧ TexC ws rs ∧ Q (tabD ws (rs.map fun r => r.1.map numV) (rs.map fun r => numV r.2)) S : On) ds S Q) : m_read_table ds S Q := by unfold m_read_table; exact h
theorem l_read_table (ds : List D) (S : Store) (Q : D → Store → Prop) (h : m_read_table ds S Q) : ds.length = 1 := by unfold m_read_table at h; obtain ⟨_, _, rfl, _⟩ := h; rfl
theorem rngD_one {n : Nat} : rngD 1 ((n + 1 : Nat) : Int) = (List.range n).map fun k : Nat => D.int ((k : Int) + 1) := by
  unfold rngD
  have e : (((n + 1 : Nat) : Int) - 1).toNat = n := by omega
  rw [e]
  exact List.map_congr_left fun k _ => by rw [Int.add_comm]
theorem v_read_table (ds : List D) (S : Store) (Q : D → Store → Prop) (h : m_read_table ds S Q) : w_read_table m_head_read m_row_read (fin Q) (dst 7 ds) S := by
  unfold m_read_table at h
  obtain ⟨ws, rs, rfl, t, q⟩ := h
  have tl1 := textW_len t
  have sp := textW_split t
  have low := t.low
  have c1 : ("\n" : Str).length = 1 := by decide +kernel
  unfold w_read_table
  refine ⟨_, rfl, ⟨_, rfl⟩, _, _, rfl, rfl, by rw [c1]; rfl, line_of (by omega), ?_⟩
  rw [sp]
  have ew : (lineT (headWords ws) :: rs.map fun r => lineT (rowWords r)).map D.str = .str (lineT (headWords ws)) :: rs.map fun r => D.str (lineT (rowWords r)) := by rw [List.map_cons, List.map_map]; rfl
  rw [ew]
  have at0 : atI (D.str (lineT (headWords ws)) :: rs.map fun r => D.str (lineT (rowWords r))) 0 = some (.str (lineT (headWords ws))) := atI_nat (j := 0) rfl
  have len : (D.str (lineT (headWords ws)) :: rs.map fun r => D.str (lineT (rowWords r))).length = rs.length + 1 := by rw [List.length_cons, List.length_map]
  have atk : ∀ k (hk : k < rs.length), atI (D.str (lineT (headWords ws)) :: rs.map fun r => D.str (lineT (rowWords r))) ((k : Int) + 1) = some (.str (lineT (rowWords rs[k]))) := fun k hk => atI_nat (j := k + 1) (by rw [List.getElem?_cons_succ, List.getElem?_map, List.getElem?_eq_getElem hk]; rfl)
  generalize (D.str (lineT (headWords ws)) :: rs.map fun r => D.str (lineT (rowWords r))) = ls at at0 len atk
  dsimp only
  refine ⟨_, rfl, _, _, rfl, at0, in_head_read ⟨ws, rs, rfl, t, ?_⟩⟩
  dsimp only
  refine ⟨_, rfl, _, rfl, ?_⟩
  rw [len]
  refine ⟨⟨by decide, by decide⟩, ⟨by omega, by omega⟩, line_of (by rw [rngD_len]; omega), ?_⟩
  rw [rngD_one]
  have er : (List.range rs.length).map (fun k => rs.getD k ([], (0, none))) = rs := by
    refine List.ext_getElem (by simp) fun k h1 h2 => ?_
    simp [List.getD, h2]
  refine lc_mapT (fun k : Nat => D.int ((k : Int) + 1)) rowVD (fun k => rs.getD k ([], (0, none))) (List.range rs.length) trivial (fun k K hk k2 => ?_) ?_
  · have hk := List.mem_range.mp hk
    have e : rs.getD k ([], (0, none)) = rs[k] := by simp [List.getD, hk]
    rw [e] at k2
    exact ⟨_, rfl, _, rfl, _, _, rfl, atk k hk, _, rfl, _, rfl, _, rfl, in_row_read ⟨ws, rs, rs[k], _, by rw [List.length_map], t, List.getElem_mem hk, k2⟩⟩
  rw [er]
  dsimp only
  have lw : (rs.map rowVD).length ≤ sizeLine := line_of (by rw [List.length_map]; omega)
  refine ⟨_, rfl, _, rfl, walkD_of (l := rs.map rowVD) rfl ⟨lw, ?_⟩⟩
  refine lc_mapT rowVD (fun r : List Rat => D.tup (rowD r)) (fun r : RowW => r.1.map numV) rs trivial (fun r K hr k => ⟨_, rfl, rfl, g2_goT ⟨_, rfl, k⟩⟩) ⟨_, rfl, ?_⟩
  refine ⟨_, rfl, walkD_of (l := rs.map rowVD) rfl ⟨lw, ?_⟩⟩
  refine lc_mapT rowVD dQ (fun r : RowW => numV r.2) rs trivial (fun r K hr k => ⟨_, rfl, rfl, g2_goT ⟨_, rfl, k⟩⟩) ⟨_, rfl, ?_⟩
  exact ⟨by show 3 ≤ sizeLine; decide, q⟩
def w_table_shown (f1 : On) : WS :=
  (wSeq (wAsg (wVar 0) (gT 3 (gConss (gN 1) (gConss (gN 2) (gConss (gN 3) gNils)))))
  (wSeq (wSet 4 (wLstM (wCons (wJoin (wC (.str " ")) (w2 oAdd (wCall oList (wCons (wVar 1) wNil)) (wLst (wCons (wC (.str "=")) wNil)))) wNil)))
  (wSeq (forS (wZipI (wCons (wVar 2) (wCons (wVar 3) wNil))) (gT 2 (gConss (gN 5) (gConss (gN 6) gNils))) (wDrop (wM oAppend (wVar 4) (wCons (wJoin (wC (.str " ")) (w2 oAdd (wLc (wSeqI (wVar 5)) (gN 7) wYes (wCall f1 (wCons (wVar 7) wNil)) [7]) (wLst (wCons (wC (.str "=")) (wCons (wCall f1 (wCons (wVar 6) wNil)) wNil))))) wNil))))
  (wRet (wFz (wJoin (wC (.str "\n")) (wVar 4)))))))
@[irreducible] def m_table_shown : On := fun ds S Q => ∃ (ws : List (List Nat)) (rows : List (List Rat)) (wish : List Rat), ds = [tabD ws rows wish] ∧ TabT ws rows wish ∧ Q (.str (textT ws rows wish)) S
theorem in_table_shown {ds : List D} {S : Store} {Q : D → Store → Prop} (h : (fun ds S Q => ∃ (ws : List (List Nat)) (rows : List (List Rat)) (wish : List Rat), ds = [tabD ws rows wish] ∧ TabT ws rows wish ∧ Q (.str (textT ws rows wish)) S : On) ds S Q) : m_table_shown ds S Q := by unfold m_table_shown; exact h
theorem l_table_shown (ds : List D) (S : Store) (Q : D → Store → Prop) (h : m_table_shown ds S Q) : ds.length = 1 := by unfold m_table_shown at h; obtain ⟨_, _, _, rfl, _⟩ := h; rfl
theorem sum_len {l : List Str} {m : Nat} (h : ∀ x ∈ l, x.length ≤ m) : (l.map (·.length)).sum ≤ l.length * m := by
  induction l with
  | nil => simp
  | cons a l ih =>
    have h1 := h a List.mem_cons_self
    have h2 := ih fun x hx => h x (List.mem_cons_of_mem _ hx)
    rw [List.map_cons, List.sum_cons, List.length_cons, Nat.add_mul, Nat.one_mul]
    omega
theorem v_table_shown (ds : List D) (S : Store) (Q : D → Store → Prop) (h : m_table_shown ds S Q) : w_table_shown m_number_shown (fin Q) (dst 8 ds) S := by
  unfold m_table_shown at h
  obtain ⟨ws, rows, wish, rfl, t, q⟩ := h
  have tw := t.w
  have few := t.few
  have low := t.low
  have c1 : (" " : Str).length = 1 := by decide +kernel
  have c2 : ("\n" : Str).length = 1 := by decide +kernel
  unfold w_table_shown
  refine ⟨_, rfl, _, rfl, rfl, ?_⟩
  refine g3_goT ?_
  dsimp only
  have eh : ws.map wordD ++ [D.str "="] = (headWords ws).map D.str := by unfold headWords; rw [List.map_append, ← words_map]; rfl
  refine ⟨⟨_, rfl⟩, _, rfl, _, rfl, by show 1 ≤ sizeLine; decide, _, _, rfl, rfl, line_of (by rw [List.length_map]; show ws.length + 1 ≤ _; omega), ?_⟩
  rw [eh]
  refine ⟨_, headWords ws, rfl, rfl, ?_, by show 1 ≤ sizeLine; decide, fun f hf => ?_⟩
  · have h1 := sum_len (m := 8) (l := headWords ws) fun p hp => by
      rcases List.mem_append.mp hp with h | h
      · obtain ⟨w, hw, rfl⟩ := List.mem_map.mp h
        rw [SX.S_len]; exact (t.wrd w hw).2.1
      · rw [List.mem_singleton.mp h, len_eq1]; decide
    have h2 : (headWords ws).length ≤ 7 := by unfold headWords; rw [List.length_append, List.length_map]; show ws.length + 1 ≤ 7; omega
    rw [c1]
    omega
  have len3 : rows.length = wish.length := t.len
  generalize hls : (rowsW rows wish).map (fun r => lineT (rowWords r)) = ls
  have lsl : ls.length = rows.length := by rw [← hls, List.length_map]; unfold rowsW; rw [List.length_zipWith]; omega
  have lsk : ∀ k (r : List Rat) (w : Rat), rows[k]? = some r → wish[k]? = some w → ls[k]? = some (lineT (rowWords (r.map numOf, numOf w))) := fun k r w hr hw => by
    rw [← hls, List.getElem?_map]
    unfold rowsW
    rw [List.getElem?_zipWith, hr, hw]
    rfl
  dsimp only
  refine ⟨_, rfl, _, rfl, _, _, rfl, rfl, ?_⟩
  refine for_inv (fun i env S' => i ≤ rows.length ∧ S' = sput S f (.lst (.str (lineT (headWords ws)) :: (ls.take i).map D.str)) ∧ ∃ o5 o6 o7, env = [some (tabD ws rows wish), some (.tup (ws.map wordD)), some (.tup (rowsD rows)), some (.tup (rowD wish)), some (.ref f), o5, o6, o7]) ⟨Nat.zero_le _, rfl, _, _, _, rfl⟩ ?_ ?_
  · rintro i x env S' K hx ⟨hi, rfl, o5, o6, o7, rfl⟩ hK
    obtain ⟨r, w, hr, hw, rfl⟩ := zip_rows hx
    have hrm := List.mem_of_getElem? hr
    have hi2 : i < rows.length := (List.getElem?_eq_some_iff.mp hr).1
    have wd := t.wid r hrm
    have hk := lsk i r w hr hw
    have hrw : (r.map numOf, numOf w) ∈ rowsW rows wish := by
      refine List.mem_of_getElem? (i := i) ?_
      unfold rowsW
      rw [List.getElem?_zipWith, hr, hw]
    obtain ⟨ok1, ok2⟩ := tw.ok _ hrw
    refine ⟨⟨trivial, trivial⟩, _, rfl, rfl, g2_goT ?_⟩
    dsimp only
    refine ⟨_, rfl, ⟨_, sput_same⟩, ⟨_, rfl⟩, _, rfl, walkD_of (l := rowD r) rfl ⟨line_of (by rw [rowD_len, wd]; omega), ?_⟩⟩
    refine lc_mapT dQ D.str showQ r trivial (fun q K2 hq k => ⟨_, rfl, in_number_shown ⟨q, 600, rfl, t.ent r hrm q hq, p600, k⟩⟩) ?_
    refine ⟨_, rfl, in_number_shown ⟨w, 600, rfl, t.wsh w (List.mem_of_getElem? hw), p600, ?_⟩⟩
    refine ⟨by show 2 ≤ sizeLine; decide, _, _, rfl, rfl, line_of (by rw [List.length_map, List.length_map, wd]; show ws.length + 2 ≤ _; omega), ?_⟩
    have er : (r.map showQ).map D.str ++ [D.str "=", .str (showQ w)] = (rowWords (r.map numOf, numOf w)).map D.str := by
      unfold rowWords
      rw [List.map_append, List.map_map, List.map_map, List.map_map]
      rfl
    rw [er]
    refine ⟨_, rowWords (r.map numOf, numOf w), rfl, rfl, ?_, ?_⟩
    · have h1 := sum_len (m := 403) (l := rowWords (r.map numOf, numOf w)) fun p hp => by
        rcases List.mem_append.mp hp with h | h
        · obtain ⟨w, hw, rfl⟩ := List.mem_map.mp h
          exact (ok1 w hw).len
        · rcases List.mem_cons.mp h with rfl | h
          · rw [len_eq1]; decide
          · rw [List.mem_singleton.mp h]; exact ok2.len
      have h2 : (rowWords (r.map numOf, numOf w)).length ≤ 8 := by rw [rowsW_len, List.length_map, wd]; omega
      rw [c1]
      omega
    refine ⟨_, _, sput_same, rfl, Nat.lt_of_le_of_lt (show _ ≤ 20 by rw [List.length_cons, List.length_map, List.length_take]; omega) (by decide), fun z hz => ?_⟩
    cases hz
    refine hK _ _ ⟨hi2, ?_, _, _, _, rfl⟩
    rw [sput_sput, List.take_add_one, hk, List.map_append]
    rfl
  · rintro env S' ⟨hi, rfl, o5, o6, o7, rfl⟩
    have e0 : ls.take (zipD (rowsD rows) (rowD wish)).length = ls := by rw [zip_rows_len]; exact List.take_of_length_le (by omega)
    rw [e0]
    refine ⟨⟨trivial, trivial⟩, ⟨_, rfl⟩, _, rfl, ?_⟩
    refine ⟨_, lineT (headWords ws) :: ls, rfl, sput_same, ?_, ?_⟩
    · have h1 := sum_len (m := 3300) (l := lineT (headWords ws) :: ls) fun p hp => by
        rcases List.mem_cons.mp hp with rfl | h
        · have := head_len tw; omega
        · rw [← hls] at h
          obtain ⟨r, hr, rfl⟩ := List.mem_map.mp h
          exact row_len tw hr
      have h2 : (lineT (headWords ws) :: ls).length ≤ 11 := by rw [List.length_cons]; omega
      rw [c2]
      omega
    · have ef : Txt.join "\n" (lineT (headWords ws) :: ls) = textT ws rows wish := by rw [← hls]; rfl
      rw [ef]
      exact ⟨_, S, (Sub.refl S).put hf, .same _, q⟩
theorem use_shown {ws : List (List Nat)} {rows : List (List Rat)} {wish : List Rat} {S : Store} {Q : D → Store → Prop} (t : TabT ws rows wish) (q : Q (.str (textT ws rows wish)) S) : m_table_shown [tabD ws rows wish] S Q := in_table_shown ⟨ws, rows, wish, rfl, t, q⟩
theorem use_readT {ws : List (List Nat)} {rows : List (List Rat)} {wish : List Rat} {S : Store} {Q : D → Store → Prop} (t : TabT ws rows wish) (q : Q (tabD ws rows wish) S) : m_read_table [.str (textT ws rows wish)] S Q :=
  in_read_table ⟨ws, rowsW rows wish, rfl, t.w, by rw [rowsW_row t.len, rowsW_wish t.len]; exact q⟩

end ND
set_option Elab.async false
set_option linter.all false
set_option maxRecDepth 100000
namespace ND
open PySem PySem.Spec PyProof.Rows L2
open TL
def LikeN : Nat → D → Prop
  | 0, _ => False
  | n + 1, d => (∃ i, d = .int i) ∨ (∃ s, d = .str s ∧ PyData.strOk s = true) ∨ ∃ l, d = .tup l ∧ l.length ≤ 1000 ∧ ∀ x ∈ l, LikeN n x
theorem kit_it : kitB "int" "tuple" = some false := by decide +kernel
theorem kit_st : kitB "str" "tuple" = some false := by decide +kernel
theorem kit_is : kitB "int" "str" = some false := by decide +kernel
theorem kit_ss : kitB "str" "str" = some true := by decide +kernel
theorem all_trueN {n : Nat} {S : Store} {Q : D → Store → Prop} (q : Q (.bl true) S) : oAll [.lst (List.replicate n (D.bl true))] S Q := by
  refine ⟨List.replicate n true, by show _ = (List.replicate n true).map D.bl; rw [List.map_replicate], ?_⟩
  have e : (List.replicate n true).all id = true := by rw [List.all_eq_true]; intro b hb; exact (List.mem_replicate.mp hb).2
  first | (rw [e]; exact q) | (simp; exact q)
theorem andV_goW {A B : WE} {env : Slots} {S : Store} {Q : D → Store → Prop} (hA : ∀ K : D → Store → Prop, K (.bl true) S → A env S K) (h2 : B env S Q) : wAndV A B env S Q := hA _ h2
theorem eq_strW {neg : Bool} {a b : Str} {S : Store} {Q : D → Store → Prop} (ha : PyData.strOk a = true) (e : a = b) (q : Q (.bl (nb neg true)) S) : oEqB neg (.str a) (.str b) S Q := by
  subst e
  refine eq_strT ha ha ?_
  rw [decide_eq_true rfl]; exact q
def w_like (f1 : On) : WS :=
  (wSeq (wIfS (wTst (wIsi "tuple" (wVar 1))) (wSeq (wIfS (wOr (wNot (wTst (wIsi "tuple" (wVar 0)))) (wTst (w2 oNe (wCall oLen (wCons (wVar 0) wNil)) (wCall oLen (wCons (wVar 1) wNil))))) (wRet (wC (.bl false))) wNext)
  (wRet (wCall oAll (wCons (wLc (wRng1 (wCall oLen (wCons (wVar 1) wNil))) (gN 2) wYes (wCall f1 (wCons (w2 oIx (wVar 0) (wVar 2)) (wCons (w2 oIx (wVar 1) (wVar 2)) wNil))) [2]) wNil)))) wNext)
  (wSeq (wIfS (wTst (wIsi "str" (wVar 1))) (wRet (wAndV (wIsi "str" (wVar 0)) (w2 oEq (wVar 0) (wVar 1)))) wNext)
  (wRet (wAndV (wIsi "int" (wVar 0)) (wAndV (w1 oNot (wIsi "bool" (wVar 0))) (w2 oEq (wVar 0) (wVar 1)))))))
@[irreducible] def m_like (n : Nat) : On := fun ds S Q => ∃ d, ds = [d, d] ∧ LikeN n d ∧ Q (.bl true) S
theorem in_like {n : Nat} {ds : List D} {S : Store} {Q : D → Store → Prop} (h : (fun ds S Q => ∃ d, ds = [d, d] ∧ LikeN n d ∧ Q (.bl true) S : On) ds S Q) : m_like n ds S Q := by unfold m_like; exact h
theorem void_like (ds : List D) (S : Store) (Q : D → Store → Prop) : ¬ m_like 0 ds S Q := by
  unfold m_like
  rintro ⟨d, _, h, _⟩
  exact h
theorem l_like (n : Nat) (ds : List D) (S : Store) (Q : D → Store → Prop) (h : m_like n ds S Q) : ds.length = 2 := by unfold m_like at h; obtain ⟨_, rfl, _⟩ := h; rfl
theorem v_like (n : Nat) (ds : List D) (S : Store) (Q : D → Store → Prop) (h : m_like (n + 1) ds S Q) : w_like (m_like n) (fin Q) (dst 3 ds) S := by
  unfold m_like at h
  obtain ⟨d, rfl, h, q⟩ := h
  unfold w_like
  rcases h with ⟨i, rfl⟩ | ⟨s, rfl, hs⟩ | ⟨l, rfl, hl, hx⟩
  · refine wIf_decT (pa := false) (fun R k => ⟨_, rfl, _, _, rfl, kit_it, k⟩) (fun h => by cases h) fun _ => next_goT ?_
    dsimp only
    refine wIf_decT (pa := false) (fun R k => ⟨_, rfl, _, _, rfl, kit_is, k⟩) (fun h => by cases h) fun _ => next_goT ?_
    dsimp only
    refine andV_goW (fun K k => ⟨_, rfl, _, _, rfl, isi_int_int, k⟩) ?_
    refine andV_goW (fun K k => ⟨_, rfl, _, _, rfl, isi_int_bool, k⟩) ?_
    exact ⟨_, rfl, _, rfl, eq_intW (by rw [decide_eq_true rfl]; exact q)⟩
  · refine wIf_decT (pa := false) (fun R k => ⟨_, rfl, _, _, rfl, kit_st, k⟩) (fun h => by cases h) fun _ => next_goT ?_
    dsimp only
    refine wIf_decT (pa := true) (fun R k => ⟨_, rfl, _, _, rfl, kit_ss, k⟩) (fun _ => ?_) fun h => by cases h
    refine andV_goW (fun K k => ⟨_, rfl, _, _, rfl, kit_ss, k⟩) ?_
    exact ⟨_, rfl, _, rfl, eq_strW hs rfl q⟩
  · refine wIf_decT (pa := true) (fun R k => ⟨_, rfl, _, _, rfl, isi_tuple, k⟩) (fun _ => ?_) fun h => by cases h
    refine wIf_decT (pa := false || false) (wOr_goT (fun R k => ⟨_, rfl, _, _, rfl, isi_tuple, k⟩) fun _ R k => ⟨_, rfl, _, rfl, _, rfl, _, rfl, eq_intW (by rw [decide_eq_true rfl]; exact k)⟩) (fun h => by cases h) fun _ => next_goT ?_
    have ln : (rngD 0 (l.length : Int)).length = l.length := by rw [rngD_len]; omega
    refine ⟨_, rfl, _, rfl, ⟨by omega, by omega⟩, line_of (by rw [ln]; omega), ?_⟩
    refine lc_inv (fun i acc S' => S' = S ∧ acc = List.replicate i (D.bl true)) ⟨rfl, rfl⟩ ?_ ?_
    · rintro i x acc S' K1 K2 hxi ⟨rfl, rfl⟩ k1 k2
      obtain ⟨rfl, hi⟩ := rngD_get hxi
      have hi : i < l.length := by omega
      have at1 : atI l (0 + (i : Int)) = some l[i] := by rw [Int.zero_add]; exact atI_nat (by simp [hi])
      refine ⟨trivial, _, rfl, _, rfl, _, _, rfl, at1, _, rfl, _, rfl, _, _, rfl, at1, in_like ⟨l[i], rfl, hx _ (List.getElem_mem hi), k1 _ _ ⟨rfl, ?_⟩⟩⟩
      rw [List.replicate_succ']
    · rintro acc S' ⟨rfl, rfl⟩
      exact ⟨trivial, all_trueN q⟩
theorem like_row {n : Nat} {r : List Rat} (h : r.length ≤ 1000) : LikeN (n + 3) (.tup (rowD r)) := .inr (.inr ⟨_, rfl, by rw [rowD_len]; exact h, fun x hx => by
  obtain ⟨q, _, rfl⟩ := List.mem_map.mp hx
  exact .inr (.inr ⟨_, rfl, by show 2 ≤ 1000; decide, fun y hy => by
    rcases List.mem_cons.mp hy with rfl | hy
    · exact .inl ⟨_, rfl⟩
    · rw [List.mem_singleton.mp hy]; exact .inl ⟨_, rfl⟩⟩)⟩)
theorem like_tab {ws : List (List Nat)} {rows : List (List Rat)} {wish : List Rat} (t : TabT ws rows wish) : LikeN 5 (tabD ws rows wish) := by
  have few := t.few
  have low := t.low
  have len := t.len
  refine .inr (.inr ⟨_, rfl, by show 3 ≤ 1000; decide, fun x hx => ?_⟩)
  rcases List.mem_cons.mp hx with rfl | hx
  · refine .inr (.inr ⟨_, rfl, by rw [List.length_map]; omega, fun y hy => ?_⟩)
    obtain ⟨w, hw, rfl⟩ := List.mem_map.mp hy
    exact .inr (.inl ⟨_, rfl, strOk_tl fun c hc => by have := (t.wrd w hw).2.2 c hc; omega⟩)
  · rcases List.mem_cons.mp hx with rfl | hx
    · refine .inr (.inr ⟨_, rfl, by rw [rowsD_len]; omega, fun y hy => ?_⟩)
      obtain ⟨r, hr, rfl⟩ := List.mem_map.mp hy
      exact like_row (n := 0) (by rw [t.wid r hr]; omega)
    · rw [List.mem_singleton.mp hx]
      exact like_row (n := 1) (by omega)
theorem tst_any12 {E : WE} {env : Slots} {S : Store} {R : Bool → Store → Prop} {a : Int} (hE : ∀ K : D → Store → Prop, K (.int a) S → E env S K) (h : ∀ b, R b S) : wTst (w2 oGe E (w2 oPow (wC (.int 10)) (wC (.int 12)))) env S R := hE _ ⟨⟨by decide, by decide, by decide⟩, h _⟩
theorem wIf_any {A : WT} {a b : WS} {E : DEnds} {env : Slots} {S : Store} (hA : ∀ R : Bool → Store → Prop, R true S → R false S → A env S R) (h1 : a E env S) (h2 : b E env S) : wIfS A a b E env S := hA _ h1 h2
theorem wOr_anyF {A B : WT} {env : Slots} {S : Store} {R : Bool → Store → Prop} (hA : ∀ K : Bool → Store → Prop, K false S → A env S K) (hB : B env S R) : wOr A B env S R := hA _ hB
theorem pick12 {r : Int} (h0 : 0 ≤ r) (h1 : r < 4) : ∃ b : Nat, 0 < b ∧ b ≤ 12 ∧ atI [D.int 1, .int 2, .int 5, .int 12] r = some (.int (b : Int)) := by
  rcases (show r = 0 ∨ r = 1 ∨ r = 2 ∨ r = 3 by omega) with rfl | rfl | rfl | rfl
  · exact ⟨1, by decide, by decide, rfl⟩
  · exact ⟨2, by decide, by decide, rfl⟩
  · exact ⟨5, by decide, by decide, rfl⟩
  · exact ⟨12, by decide, by decide, rfl⟩
theorem numV_by {q : Rat} {b : Nat} (hb : 0 < b) : numV (q.num * (b : Int), some (q.den * b)) = q := by
  show Rat.divInt (q.num * (b : Int)) (((q.den * b : Nat)) : Int) = q
  rw [Int.natCast_mul, Rat.divInt_mul_right (by omega), Rat.divInt_ofNat]
  exact Rat.mkRat_self q
def w_word08 (f1 : On) : WS :=
  (wSeq (wSet 3 (w2 oIx (wLst (wCons (wC (.int 1)) (wCons (wC (.int 2)) (wCons (wC (.int 5)) (wCons (wC (.int 12)) wNil))))) (wCall f1 (wCons (wVar 0) (wCons (wC (.int 4)) wNil)))))
  (wSeq (wIfS (wOr (wTst (wVar 2)) (wTst (w2 oGe (w2 oMul (wCall (oTwo max2) (wCons (wCall oAbs (wCons (w2 oIx (wVar 1) (wC (.int 0))) wNil)) (wCons (w2 oIx (wVar 1) (wC (.int 1))) wNil))) (wVar 3)) (w2 oPow (wC (.int 10)) (wC (.int 12)))))) (wSet 3 (wC (.int 1))) wNext)
  (wSeq (wIfS (wAnd (wTst (w2 oEq (wVar 3) (wC (.int 1)))) (wTst (w2 oEq (w2 oIx (wVar 1) (wC (.int 1))) (wC (.int 1))))) (wRet (wCall oStrI (wCons (w2 oIx (wVar 1) (wC (.int 0))) wNil))) wNext)
  (wRet (w2 oAdd (w2 oAdd (wCall oStrI (wCons (w2 oMul (w2 oIx (wVar 1) (wC (.int 0))) (wVar 3)) wNil)) (wC (.str "/"))) (wCall oStrI (wCons (w2 oMul (w2 oIx (wVar 1) (wC (.int 1))) (wVar 3)) wNil)))))))
@[irreducible] def m_word08 : On := fun ds S Q => ∃ (p : Addr) (x : Rat) (plain : Bool) (c : Nat), ds = [.ref p, dQ x, .bl plain] ∧ bq 40 x ∧ c < 2 ^ 38 ∧ DkAt c p S ∧ ∀ (w : NumW) S', numV w = x → WB w.1 w.2 → (plain = true → w = numOf x) → Dk (c + 1) p S S' → Q (.str (numT w)) S'
theorem in_word08 {ds : List D} {S : Store} {Q : D → Store → Prop} (h : (fun ds S Q => ∃ (p : Addr) (x : Rat) (plain : Bool) (c : Nat), ds = [.ref p, dQ x, .bl plain] ∧ bq 40 x ∧ c < 2 ^ 38 ∧ DkAt c p S ∧ ∀ (w : NumW) S', numV w = x → WB w.1 w.2 → (plain = true → w = numOf x) → Dk (c + 1) p S S' → Q (.str (numT w)) S' : On) ds S Q) : m_word08 ds S Q := by unfold m_word08; exact h
theorem l_word08 (ds : List D) (S : Store) (Q : D → Store → Prop) (h : m_word08 ds S Q) : ds.length = 3 := by unfold m_word08 at h; obtain ⟨_, _, _, _, rfl, _⟩ := h; rfl
theorem v_word08 (ds : List D) (S : Store) (Q : D → Store → Prop) (h : m_word08 ds S Q) : w_word08 m_law_next (fin Q) (dst 4 ds) S := by
  unfold m_word08 at h
  obtain ⟨p, x, plain, c, rfl, hx, hc, hS, q⟩ := h
  have p44 : (2 : Nat) ^ 44 ≤ 10 ^ 200 := by decide +kernel
  have hd := x.den_pos
  have ax : x.num.natAbs < 2 ^ 40 := hx.1
  have dx : x.den < 2 ^ 40 := hx.2
  unfold w_word08
  refine ⟨by show 4 ≤ sizeLine; decide, _, rfl, use_next hS (by omega) (by decide) (by decide) fun r S1 r0 r1 d1 => ?_⟩
  obtain ⟨b, b0, b1, hb⟩ := pick12 r0 r1
  refine ⟨_, _, rfl, hb, ?_⟩
  dsimp only
  refine wSeq_cut (fun env S' => ∃ b : Nat, env = [some (.ref p), some (dQ x), some (.bl plain), some (.int (b : Int))] ∧ 0 < b ∧ b ≤ 12 ∧ (plain = true → b = 1) ∧ S' = S1) (fun env S2 hP => ?_) (fun nx hnx => ?_)
  rotate_left
  · cases plain with
    | true => exact ⟨_, rfl, hnx _ _ ⟨1, rfl, by decide, by decide, fun _ => rfl, rfl⟩⟩
    | false =>
      refine wIf_any (fun R k1 k2 => wOr_anyF (fun K k => ⟨_, rfl, k⟩) (tst_any12 (fun K k => ⟨_, rfl, _, _, rfl, rfl, _, rfl, _, _, rfl, rfl, _, rfl, mulOk (a := 41) (b := 4) ?_ (by omega) (by decide) (by decide) (by decide), k⟩) fun z => by
        cases z with
        | true => exact k1
        | false => exact k2)) (hnx _ _ ⟨1, rfl, by decide, by decide, (fun h => by cases h), rfl⟩) (hnx _ _ ⟨b, rfl, b0, b1, (fun h => by cases h), rfl⟩)
      unfold max2
      split <;> split <;> omega
  obtain ⟨b, rfl, b0, b1, hpl, rfl⟩ := hP
  refine wIf_decT (pa := decide ((b : Int) = 1) && decide ((x.den : Int) = 1)) (wAnd_goT (fun R k => ⟨_, rfl, k⟩) fun _ R k => ⟨_, rfl, _, _, rfl, rfl, k⟩) (fun h => ?_) fun h => next_goT ?_
  · rw [Bool.and_eq_true, decide_eq_true_iff, decide_eq_true_iff] at h
    have e : x.den = 1 := by omega
    have en : numOf x = (x.num, none) := by unfold numOf; rw [if_pos e]
    have wb := numOf_b (hx.mono (by decide : 40 ≤ 600)) p600
    refine ⟨_, rfl, _, _, rfl, rfl, log_200 (by have := wb.a1; rw [en] at this; exact this), ?_⟩
    have := q (numOf x) S2 (numV_of x) wb (fun _ => rfl) d1
    rw [en] at this
    exact this
  · have wb : WB (x.num * (b : Int)) (some (x.den * b)) := by
      refine ⟨?_, fun n e => ?_, fun n e => ?_⟩
      · rw [Int.natAbs_mul, Int.natAbs_natCast]
        have := Nat.mul_lt_mul'' ax (show b < 2 ^ 4 by omega)
        rw [← Nat.pow_add] at this
        omega
      · injection e with e; rw [← e]; exact Nat.mul_pos hd b0
      · injection e with e
        have := Nat.mul_lt_mul'' dx (show b < 2 ^ 4 by omega)
        rw [← Nat.pow_add] at this
        omega
    have l1 := len_intT wb.a1
    have l2 := len_intT (a := ((x.den * b : Nat) : Int)) (by have := wb.b1 _ rfl; omega)
    have c1 : ("/" : Str).length = 1 := by decide +kernel
    have l3 : (intT (x.num * (b : Int)) ++ "/" : Str).length ≤ 202 := by
      rw [lenT] at l1 ⊢
      rw [tl_append, List.length_append]
      have h3 : (tl ("/" : Str)).length = 1 := by decide +kernel
      omega
    have l1 : (Str.ofString (toString (x.num * (b : Int)))).length ≤ 201 := l1
    have l3 : (Str.ofString (toString (x.num * (b : Int))) ++ "/" : Str).length ≤ 202 := l3
    have eb : ((x.den : Nat) : Int) * (b : Int) = ((x.den * b : Nat) : Int) := (Int.natCast_mul ..).symm
    have l2 : (Str.ofString (toString ((x.den * b : Nat) : Int))).length ≤ 201 := l2
    refine ⟨_, rfl, _, _, rfl, rfl, _, rfl, mulOk (a := 40) (b := 4) ax (by omega) (by decide) (by decide) (by decide), log_200 wb.a1, line_of (by omega), _, rfl, _, _, rfl, rfl, _, rfl, mulOk (a := 40) (b := 4) (by omega) (by omega) (by decide) (by decide) (by decide), ?_⟩
    rw [eb]
    refine ⟨log_200 (by have := wb.b1 _ rfl; rw [Int.natAbs_natCast]; exact this), line_of (by omega), ?_⟩
    refine q (x.num * (b : Int), some (x.den * b)) S2 (numV_by b0) wb (fun hp => ?_) d1
    have hb1 := hpl hp
    subst hb1
    have e : x.den ≠ 1 := fun e => by rw [e] at h; exact absurd h (by decide)
    unfold numOf
    rw [if_neg e, Nat.mul_one, show ((1 : Nat) : Int) = 1 from rfl, Int.mul_one]
theorem Tab.up8 {ws : List (List Nat)} {rows : List (List Rat)} {wish : List Rat} (t : Tab ws rows wish 40) : TabT ws rows wish :=
  ⟨t.wrd, t.nd, t.few, t.low, t.len, t.wid, fun r hr q hq => (t.ent r hr q hq).mono (by decide), fun q hq => (t.wsh q hq).mono (by decide)⟩
theorem rowD_getW {as : List Rat} {i : Nat} {x : D} (h : (rowD as)[i]? = some x) : ∃ r, as[i]? = some r ∧ x = dQ r := by
  unfold rowD at h
  rw [List.getElem?_map] at h
  obtain ⟨r, h1, h2⟩ := Option.map_eq_some_iff.mp h
  exact ⟨r, h1, h2.symm⟩
theorem TexC.of {ws : List (List Nat)} {rows : List (List Rat)} {wish : List Rat} {rs : List RowW} (t : Tab ws rows wish 40) (h1 : rs.map (fun r => r.1.map numV) = rows) (ok : ∀ r ∈ rs, (∀ p ∈ r.1, WB p.1 p.2) ∧ WB r.2.1 r.2.2) : TexC ws rs := by
  have hl : rs.length = rows.length := by rw [← h1, List.length_map]
  refine ⟨t.wrd, t.nd, t.few, by have := t.low; omega, fun r hr => ?_, ok⟩
  have := t.wid (r.1.map numV) (by rw [← h1]; exact List.mem_map.mpr ⟨r, hr, rfl⟩)
  rw [List.length_map] at this
  exact this
def w_text08 (f1 : On) : WS :=
  (wSeq (wAsg (wVar 1) (gT 3 (gConss (gN 3) (gConss (gN 4) (gConss (gN 5) gNils)))))
  (wSeq (wSet 6 (wLstM (wCons (wJoin (wC (.str " ")) (w2 oAdd (wCall oList (wCons (wVar 3) wNil)) (wLst (wCons (wC (.str "=")) wNil)))) wNil)))
  (wSeq (forS (wZipI (wCons (wVar 4) (wCons (wVar 5) wNil))) (gT 2 (gConss (gN 7) (gConss (gN 8) gNils))) (wSeq (wSet 9 (wLc (wSeqI (wVar 7)) (gN 10) wYes (wCall f1 (wCons (wVar 0) (wCons (wVar 10) (wCons (wVar 2) wNil)))) [10]))
  (wDrop (wM oAppend (wVar 6) (wCons (wJoin (wC (.str " ")) (w2 oAdd (wVar 9) (wLst (wCons (wC (.str "=")) (wCons (wCall f1 (wCons (wVar 0) (wCons (wVar 8) (wCons (wVar 2) wNil)))) wNil))))) wNil)))))
  (wRet (wFz (wJoin (wC (.str "\n")) (wVar 6)))))))
@[irreducible] def m_text08 : On := fun ds S Q => ∃ (p : Addr) (ws : List (List Nat)) (rows : List (List Rat)) (wish : List Rat) (plain : Bool) (c : Nat), ds = [.ref p, tabD ws rows wish, .bl plain] ∧ Tab ws rows wish 40 ∧ c < 2 ^ 37 ∧ DkAt c p S ∧
  ∀ (rs : List RowW) S', rs.map (fun r => r.1.map numV) = rows → rs.map (fun r => numV r.2) = wish → TexC ws rs → (plain = true → rs = rowsW rows wish) → Dk (c + 100) p S S' → Q (.str (textW ws rs)) S'
theorem in_text08 {ds : List D} {S : Store} {Q : D → Store → Prop} (h : (fun ds S Q => ∃ (p : Addr) (ws : List (List Nat)) (rows : List (List Rat)) (wish : List Rat) (plain : Bool) (c : Nat), ds = [.ref p, tabD ws rows wish, .bl plain] ∧ Tab ws rows wish 40 ∧ c < 2 ^ 37 ∧ DkAt c p S ∧
  ∀ (rs : List RowW) S', rs.map (fun r => r.1.map numV) = rows → rs.map (fun r => numV r.2) = wish → TexC ws rs → (plain = true → rs = rowsW rows wish) → Dk (c + 100) p S S' → Q (.str (textW ws rs)) S' : On) ds S Q) : m_text08 ds S Q := by unfold m_text08; exact h
theorem l_text08 (ds : List D) (S : Store) (Q : D → Store → Prop) (h : m_text08 ds S Q) : ds.length = 3 := by unfold m_text08 at h; obtain ⟨_, _, _, _, _, _, rfl, _⟩ := h; rfl
set_option maxHeartbeats 1000000 in
theorem v_text08 (ds : List D) (S : Store) (Q : D → Store → Prop) (h : m_text08 ds S Q) : w_text08 m_word08 (fin Q) (dst 11 ds) S := by
  unfold m_text08 at h
  obtain ⟨p, ws, rows, wish, plain, c, rfl, t, hc, hS, q⟩ := h
  have few := t.few
  have low := t.low
  have len := t.len
  have c1 : (" " : Str).length = 1 := by decide +kernel
  have c2 : ("\n" : Str).length = 1 := by decide +kernel
  have hlen : ∀ p ∈ headWords ws, p.length ≤ 8 := fun p hp => by
    rcases List.mem_append.mp hp with h | h
    · obtain ⟨w, hw, rfl⟩ := List.mem_map.mp h
      rw [SX.S_len]; exact (t.wrd w hw).2.1
    · rw [List.mem_singleton.mp h, len_eq1]; decide
  unfold w_text08
  refine ⟨_, rfl, _, rfl, rfl, ?_⟩
  refine g3_goT ?_
  dsimp only
  have eh : ws.map wordD ++ [D.str "="] = (headWords ws).map D.str := by unfold headWords; rw [List.map_append, ← words_map]; rfl
  refine ⟨⟨_, rfl⟩, _, rfl, _, rfl, by show 1 ≤ sizeLine; decide, _, _, rfl, rfl, line_of (by rw [List.length_map]; show ws.length + 1 ≤ _; omega), ?_⟩
  rw [eh]
  refine ⟨_, headWords ws, rfl, rfl, ?_, by show 1 ≤ sizeLine; decide, fun f hf => ?_⟩
  · have h1 := sum_len hlen
    have h2 : (headWords ws).length ≤ 7 := by unfold headWords; rw [List.length_append, List.length_map]; show ws.length + 1 ≤ 7; omega
    rw [c1]
    omega
  have hfp : f ≠ p := hS.ne hf
  dsimp only
  refine ⟨_, rfl, _, rfl, _, _, rfl, rfl, ?_⟩
  refine for_inv (fun i env S' => i ≤ rows.length ∧ ∃ (rs : List RowW) (o7 o8 o9 o10 : Option D), env = [some (.ref p), some (tabD ws rows wish), some (.bl plain), some (.tup (ws.map wordD)), some (.tup (rowsD rows)), some (.tup (rowD wish)), some (.ref f), o7, o8, o9, o10] ∧ rs.length = i ∧
    rs.map (fun r => r.1.map numV) = rows.take i ∧ rs.map (fun r => numV r.2) = wish.take i ∧ (∀ r ∈ rs, (∀ p ∈ r.1, WB p.1 p.2) ∧ WB r.2.1 r.2.2) ∧ (plain = true → rs = (rowsW rows wish).take i) ∧
    Dk (c + 8 * i) p (sput S f (.lst (.str (lineT (headWords ws)) :: rs.map fun r => D.str (lineT (rowWords r))))) S')
    ⟨Nat.zero_le _, [], _, _, _, _, rfl, rfl, rfl, rfl, by simp, fun _ => rfl, Dk.refl (hS.put hfp)⟩ ?_ ?_
  · rintro i x env S1 K hx ⟨hi, rs, o7, o8, o9, o10, rfl, hl, e1, e2, ok, epl, d1⟩ hK
    obtain ⟨r, w, hr, hw, rfl⟩ := zip_rows hx
    have hrm := List.mem_of_getElem? hr
    have hi2 : i < rows.length := (List.getElem?_eq_some_iff.mp hr).1
    have wd := t.wid r hrm
    have br := t.ent r hrm
    have bw := t.wsh w (List.mem_of_getElem? hw)
    have hcell : S1 f = some (.lst (.str (lineT (headWords ws)) :: rs.map fun r => D.str (lineT (rowWords r)))) := d1.cell hfp
    refine ⟨⟨trivial, trivial⟩, _, rfl, rfl, g2_goT ?_⟩
    dsimp only
    refine ⟨_, rfl, walkD_of (l := rowD r) rfl ⟨line_of (by rw [rowD_len, wd]; omega), ?_⟩⟩
    refine lc_inv (fun j acc S' => j ≤ r.length ∧ ∃ vs : List NumW, acc = vs.map (fun v => D.str (numT v)) ∧ vs.length = j ∧ vs.map numV = r.take j ∧ (∀ v ∈ vs, WB v.1 v.2) ∧ (plain = true → vs = (r.take j).map numOf) ∧ Dk (c + 8 * i + j) p S1 S') ⟨Nat.zero_le _, [], rfl, rfl, rfl, by simp, fun _ => rfl, Dk.refl d1.at⟩ ?_ ?_
    · rintro j x acc S2 K1 K2 hxj ⟨hj, vs, rfl, hvl, ev, okv, eplv, d2⟩ k1 k2
      obtain ⟨y, hy, rfl⟩ := rowD_getW hxj
      have hj2 : j < r.length := (List.getElem?_eq_some_iff.mp hy).1
      refine ⟨trivial, _, rfl, _, rfl, _, rfl, in_word08 ⟨p, y, plain, _, rfl, br y (List.mem_of_getElem? hy), by omega, d2.at, fun v S3 hv hwb hpl d3 => k1 _ _ ⟨hj2, vs ++ [v], by rw [List.map_append]; rfl, by simp [hvl], ?_, fun u hu => ?_, fun hp => ?_, d2.trans (d3.up (by omega))⟩⟩⟩
      · rw [List.map_append, ev, List.take_add_one, hy]
        show _ ++ [numV v] = _ ++ [y]
        rw [hv]
      · rcases List.mem_append.mp hu with h | h
        · exact okv u h
        · rw [List.mem_singleton.mp h]; exact hwb
      · rw [eplv hp, hpl hp, List.take_add_one, hy, List.map_append]; rfl
    · rintro acc S2 ⟨_, vs, rfl, hvl, ev, okv, eplv, d2⟩
      rw [rowD_len] at hvl ev eplv d2
      rw [List.take_of_length_le (Nat.le_refl _)] at ev eplv
      refine ⟨trivial, ?_⟩
      have hcell2 : S2 f = some (.lst (.str (lineT (headWords ws)) :: rs.map fun r => D.str (lineT (rowWords r)))) := (d1.trans d2).cell hfp
      dsimp only
      refine ⟨_, rfl, ⟨_, hcell2⟩, ⟨_, rfl⟩, _, rfl, _, rfl, _, rfl, _, rfl, in_word08 ⟨p, w, plain, _, rfl, bw, by omega, d2.at, fun v S3 hv hwb hpl d3 => ?_⟩⟩
      refine ⟨by show 2 ≤ sizeLine; decide, _, _, rfl, rfl, line_of (by rw [List.length_map, hvl, wd]; show ws.length + 2 ≤ _; omega), ?_⟩
      have ew : vs.map (fun v => D.str (numT v)) ++ [D.str "=", .str (numT v)] = (rowWords (vs, v)).map D.str := by
        unfold rowWords
        rw [List.map_append, List.map_map]
        rfl
      rw [ew]
      refine ⟨_, rowWords (vs, v), rfl, rfl, ?_, ?_⟩
      · have h1 := sum_len (m := 403) (l := rowWords (vs, v)) fun p hp => by
          rcases List.mem_append.mp hp with h | h
          · obtain ⟨w, hw, rfl⟩ := List.mem_map.mp h
            exact (okv w hw).len
          · rcases List.mem_cons.mp h with rfl | h
            · rw [len_eq1]; decide
            · rw [List.mem_singleton.mp h]; exact hwb.len
        have h2 : (rowWords (vs, v)).length ≤ 8 := by rw [rowsW_len]; show vs.length + 2 ≤ 8; rw [hvl, wd]; omega
        rw [c1]
        omega
      have d123 := (d1.trans d2).trans d3
      have hcell3 := d123.cell hfp
      refine ⟨_, _, hcell3, rfl, Nat.lt_of_le_of_lt (show _ ≤ 20 by rw [List.length_cons, List.length_map, hl]; omega) (by decide), fun z hz => ?_⟩
      cases hz
      refine hK _ _ ⟨hi2, rs ++ [(vs, v)], _, _, _, _, rfl, by simp [hl], ?_, ?_, fun u hu => ?_, fun hp => ?_, ?_⟩
      · rw [List.map_append, e1, List.take_add_one, hr]
        show _ ++ [vs.map numV] = _ ++ [r]
        rw [ev]
      · rw [List.map_append, e2, List.take_add_one, hw]
        show _ ++ [numV v] = _ ++ [w]
        rw [hv]
      · rcases List.mem_append.mp hu with h | h
        · exact ok u h
        · rw [List.mem_singleton.mp h]; exact ⟨okv, hwb⟩
      · have ek : (rowsW rows wish)[i]? = some (r.map numOf, numOf w) := by unfold rowsW; rw [List.getElem?_zipWith, hr, hw]
        rw [epl hp, List.take_add_one, ek, eplv hp, hpl hp]; rfl
      · have := d123.put hfp (l' := .lst (.str (lineT (headWords ws)) :: (rs ++ [(vs, v)]).map fun r => D.str (lineT (rowWords r))))
        rw [List.map_append, ← List.cons_append]  at this
        rw [List.map_append, ← List.cons_append]
        exact this.up (by omega)
  · rintro env S1 ⟨hi, rs, o7, o8, o9, o10, rfl, hl, e1, e2, ok, epl, d1⟩
    have lz : (zipD (rowsD rows) (rowD wish)).length = rows.length := by rw [zip_rows_len]; omega
    rw [lz] at hl e1 e2 epl d1
    rw [List.take_of_length_le (Nat.le_refl _)] at e1
    rw [List.take_of_length_le (by omega)] at e2
    have lw : (rowsW rows wish).length = rows.length := by unfold rowsW; rw [List.length_zipWith]; omega
    rw [List.take_of_length_le (by omega)] at epl
    have tex := TexC.of t e1 ok
    refine ⟨⟨trivial, trivial⟩, ⟨_, rfl⟩, _, rfl, ?_⟩
    have em : (.str (lineT (headWords ws)) :: rs.map fun r => D.str (lineT (rowWords r))) = (lineT (headWords ws) :: rs.map fun r => lineT (rowWords r)).map D.str := by rw [List.map_cons, List.map_map]; rfl
    refine ⟨_, lineT (headWords ws) :: rs.map fun r => lineT (rowWords r), rfl, by rw [← em]; exact d1.cell hfp, ?_, ?_⟩
    · have h1 := sum_len (m := 3300) (l := lineT (headWords ws) :: rs.map fun r => lineT (rowWords r)) fun p hp => by
        rcases List.mem_cons.mp hp with rfl | h
        · have := head_len tex; omega
        · obtain ⟨r, hr, rfl⟩ := List.mem_map.mp h
          exact row_len tex hr
      have h2 : (lineT (headWords ws) :: rs.map fun r => lineT (rowWords r)).length ≤ 12 := by rw [List.length_cons, List.length_map]; have := tex.low; omega
      rw [c2]
      omega
    · obtain ⟨S2, sb, d2⟩ := d1.drop hfp hf
      exact ⟨_, S2, sb, .same _, q rs S2 e1 e2 tex epl (d2.up (by omega))⟩
def w_law (f1 : On) (f2 : On) (f3 : On) (f4 : On) (f5 : On) (f6 : On) : WS :=
  (wSeq (wSet 1 (wCall f1 (wCons (wVar 0) wNil)))
  (wSeq (forS (wRng1 (wC (.int 2))) (gN 2) (wSeq (wSet 3 (wCall f2 (wCons (wVar 1) wNil)))
  (wSeq (wSet 4 (wCall f3 (wCons (wVar 1) (wCons (wVar 3) (wCons (wC (.bl true)) wNil)))))
  (wSeq (forS (wSeqI (wLst (wCons (wVar 4) (wCons (wCall f3 (wCons (wVar 1) (wCons (wVar 3) (wCons (wC (.bl false)) wNil)))) (wCons (wVar 4) wNil))))) (gN 5) (wIfS (wAnd (wTst (w2 oLe (wCall oLen (wCons (wVar 5) wNil)) (wC (.int 4000)))) (wNot (wTst (wCall f5 (wCons (wCall f4 (wCons (wVar 5) wNil)) (wCons (wVar 3) wNil)))))) (wRet (wC (.bl false))) wNext))
  (wSeq (wSet 6 (wCall f6 (wCons (wVar 3) wNil)))
  (wIfS (wOr (wNot (wTst (wIsi "str" (wVar 6)))) (wTst (w2 oNe (wVar 6) (wVar 4)))) (wRet (wC (.bl false))) wNext))))))
  (wRet (wC (.bl true)))))
abbrev m_law : On := mLaw 63
theorem l_law (ds : List D) (S : Store) (Q : D → Store → Prop) (h : m_law ds S Q) : ds.length = 1 := by obtain ⟨_, _, rfl, _⟩ := h; rfl
set_option maxHeartbeats 1000000 in
theorem v_law (ds : List D) (S : Store) (Q : D → Store → Prop) (h : m_law ds S Q) : w_law m_law_deck m_law_table m_text08 m_read_table (m_like 5) m_table_shown (fin Q) (dst 7 ds) S := by
  obtain ⟨d, ns, rfl, hc, hd, hl, q⟩ := h
  unfold w_law
  refine ⟨_, rfl, use_deck hd fun p S1 hp d1 => ?_⟩
  dsimp only
  refine ⟨⟨by decide, by decide⟩, ?_⟩
  refine for_inv (fun i env S' => ∃ o2 o3 o4 o5 o6, env = [some d, some (.ref p), o2, o3, o4, o5, o6] ∧ DkAt (2000 * i) p S') ⟨_, _, _, _, _, rfl, d1.at⟩ ?_ ?_
  · rintro i x env S2 K hx ⟨o2, o3, o4, o5, o6, rfl, hS⟩ hK
    have hi : i < 2 := (List.getElem?_eq_some_iff.mp hx).1
    refine ⟨trivial, _, rfl, use_table hS (by omega) fun ws rows wish S3 t d3 => ?_⟩
    have u := t.up8
    have few := t.few
    dsimp only
    refine ⟨_, rfl, _, rfl, in_text08 ⟨p, ws, rows, wish, true, _, rfl, t, by omega, d3.at, fun rs1 S4 f1 f2 tx1 epl1 d4 => ?_⟩⟩
    dsimp only
    refine wSeq_cut (fun env S' => ∃ o5, env = [some d, some (.ref p), some x, some (tabD ws rows wish), some (.str (textW ws rs1)), o5, o6] ∧ DkAt (2000 * (i + 1)) p S') (fun env S5 hP => ?_) (fun nx hnx => ?_)
    rotate_left
    · refine ⟨_, rfl, _, rfl, _, rfl, in_text08 ⟨p, ws, rows, wish, false, _, rfl, t, by omega, d4.at, fun rs2 S5 g1 g2 tx2 _ d5 => ?_⟩⟩
      refine ⟨_, rfl, by show 3 ≤ sizeLine; decide, walkD_of (l := [D.str (textW ws rs1), .str (textW ws rs2), .str (textW ws rs1)]) rfl ?_⟩
      have each : ∀ y ∈ [D.str (textW ws rs1), .str (textW ws rs2), .str (textW ws rs1)], ∃ rs : List RowW, y = .str (textW ws rs) ∧ rs.map (fun r => r.1.map numV) = rows ∧ rs.map (fun r => numV r.2) = wish ∧ TexC ws rs := fun y hy => by
        rcases List.mem_cons.mp hy with rfl | hy
        · exact ⟨rs1, rfl, f1, f2, tx1⟩
        · rcases List.mem_cons.mp hy with rfl | hy
          · exact ⟨rs2, rfl, g1, g2, tx2⟩
          · rw [List.mem_singleton.mp hy]; exact ⟨rs1, rfl, f1, f2, tx1⟩
      refine for_inv (fun j env S' => S' = S5 ∧ ∃ o5, env = [some d, some (.ref p), some x, some (tabD ws rows wish), some (.str (textW ws rs1)), o5, o6]) ⟨rfl, _, rfl⟩ ?_ ?_
      · rintro j y env S' K3 hy ⟨rfl, o5, rfl⟩ hK3
        obtain ⟨rs, rfl, h1, h2, tx⟩ := each y (List.mem_of_getElem? hy)
        have tlr := textW_len tx
        refine ⟨trivial, ?_⟩
        refine wIf_decT (pa := decide (((textW ws rs).length : Int) ≤ 4000) && false) (wAnd_goT (fun R k => ⟨_, rfl, line_of (by omega), k⟩) fun _ R k => ⟨_, rfl, in_read_table ⟨ws, rs, rfl, tx, by rw [h1, h2]; exact ⟨_, rfl, in_like ⟨_, rfl, like_tab u, k⟩⟩⟩⟩) (fun h => by rw [Bool.and_false] at h; cases h) fun _ => next_goT (hK3 _ _ ⟨rfl, _, rfl⟩)
      · rintro env S' ⟨rfl, o5, rfl⟩
        exact ⟨trivial, hnx _ _ ⟨_, rfl, d5.at.up (by omega)⟩⟩
    obtain ⟨o5, rfl, hS5⟩ := hP
    have e1 : textW ws rs1 = textT ws rows wish := by rw [epl1 rfl]; rfl
    refine ⟨_, rfl, use_shown u ?_⟩
    dsimp only
    refine wIf_decT (pa := false || false) (wOr_goT (fun R k => ⟨_, rfl, _, _, rfl, kit_ss, k⟩) fun _ R k => ⟨_, rfl, _, rfl, eq_strW (textW_ok u.w) e1.symm k⟩) (fun h => by cases h) fun _ => next_goT ?_
    exact hK _ _ ⟨_, _, _, _, _, rfl, hS5⟩
  · rintro env S' ⟨o2, o3, o4, o5, o6, rfl, hS⟩
    exact ⟨trivial, q S'⟩

end ND
set_option Elab.async false
set_option linter.all false
set_option maxRecDepth 100000
namespace ND
open PySem PySem.Spec PyProof.Rows L2
def topS (i : Nat) : Stmt := PySem.Challenge.pw_nearlaid_k08_read_table.main.body.getD i (.Pass ⟨0, 0, 0, 0⟩)
abbrev c_FIGURES : D := (.str "0123456789")
abbrev c_LETTERS : D := (.str "abcdefghijklmnopqrstuvwxyz")
abbrev c_LONGEST : D := (.int 8)
abbrev s_law_deck : Stmt := topS 21
abbrev n_law_deck : List Str := ["script"]
theorem sc_law_deck : FnScope n_law_deck ["script"] (defScope s_law_deck) := ⟨rfl, rfl, rfl, by decide +kernel, rfl, by decide +kernel, by decide +kernel⟩
abbrev s_law_mix : Stmt := topS 20
abbrev n_law_mix : List Str := ["cell", "k", "number"]
theorem sc_law_mix : FnScope n_law_mix ["cell", "k"] (defScope s_law_mix) := ⟨rfl, rfl, rfl, by decide +kernel, rfl, by decide +kernel, by decide +kernel⟩
abbrev s_law_next : Stmt := topS 22
abbrev n_law_next : List Str := ["deck", "many", "cell", "found"]
theorem sc_law_next : FnScope n_law_next ["deck", "many"] (defScope s_law_next) := ⟨rfl, rfl, rfl, by decide +kernel, rfl, by decide +kernel, by decide +kernel⟩
abbrev s_law_names : Stmt := topS 29
abbrev n_law_names : List Str := ["deck", "many", "letters", "found", "k", "name", "j", "one"]
theorem sc_law_names : FnScope n_law_names ["deck", "many"] (defScope s_law_names) := ⟨rfl, rfl, rfl, by decide +kernel, rfl, by decide +kernel, by decide +kernel⟩
abbrev s_law_f : Stmt := topS 23
abbrev n_law_f : List Str := ["top", "under", "one", "other"]
theorem sc_law_f : FnScope n_law_f ["top", "under"] (defScope s_law_f) := ⟨rfl, rfl, rfl, by decide +kernel, rfl, by decide +kernel, by decide +kernel⟩
abbrev s_law_great : Stmt := topS 26
abbrev n_law_great : List Str := ["deck", "kind"]
theorem sc_law_great : FnScope n_law_great ["deck"] (defScope s_law_great) := ⟨rfl, rfl, rfl, by decide +kernel, rfl, by decide +kernel, by decide +kernel⟩
abbrev s_law_fraction : Stmt := topS 27
abbrev n_law_fraction : List Str := ["deck", "most", "kind"]
theorem sc_law_fraction : FnScope n_law_fraction ["deck", "most"] (defScope s_law_fraction) := ⟨rfl, rfl, rfl, by decide +kernel, rfl, by decide +kernel, by decide +kernel⟩
abbrev s_law_table : Stmt := topS 30
abbrev n_law_table : List Str := ["deck", "names", "kinds", "rows", "k", "row", "name"]
theorem sc_law_table : FnScope n_law_table ["deck"] (defScope s_law_table) := ⟨rfl, rfl, rfl, by decide +kernel, rfl, by decide +kernel, by decide +kernel⟩
abbrev s_law_word : Stmt := topS 31
abbrev n_law_word : List Str := ["deck", "number", "plain", "by"]
theorem sc_law_word : FnScope n_law_word ["deck", "number", "plain"] (defScope s_law_word) := ⟨rfl, rfl, rfl, by decide +kernel, rfl, by decide +kernel, by decide +kernel⟩
abbrev s_law_text : Stmt := topS 32
abbrev n_law_text : List Str := ["deck", "table", "plain", "names", "rows", "wish", "lines", "row", "number", "words", "part"]
theorem sc_law_text : FnScope n_law_text ["deck", "table", "plain"] (defScope s_law_text) := ⟨rfl, rfl, rfl, by decide +kernel, rfl, by decide +kernel, by decide +kernel⟩
abbrev s_is_name : Stmt := topS 14
abbrev n_is_name : List Str := ["word", "sign"]
theorem sc_is_name : FnScope n_is_name ["word"] (defScope s_is_name) := ⟨rfl, rfl, rfl, by decide +kernel, rfl, by decide +kernel, by decide +kernel⟩
abbrev s_head_read : Stmt := topS 15
abbrev n_head_read : List Str := ["line", "words", "names", "place", "name"]
theorem sc_head_read : FnScope n_head_read ["line"] (defScope s_head_read) := ⟨rfl, rfl, rfl, by decide +kernel, rfl, by decide +kernel, by decide +kernel⟩
abbrev s_figures_told : Stmt := topS 9
abbrev n_figures_told : List Str := ["text", "sign"]
theorem sc_figures_told : FnScope n_figures_told ["text"] (defScope s_figures_told) := ⟨rfl, rfl, rfl, by decide +kernel, rfl, by decide +kernel, by decide +kernel⟩
abbrev s_divisor : Stmt := topS 6
abbrev n_divisor : List Str := ["one", "other"]
theorem sc_divisor : FnScope n_divisor ["one", "other"] (defScope s_divisor) := ⟨rfl, rfl, rfl, by decide +kernel, rfl, by decide +kernel, by decide +kernel⟩
abbrev s_fraction : Stmt := topS 7
abbrev n_fraction : List Str := ["top", "below", "by"]
theorem sc_fraction : FnScope n_fraction ["top", "below"] (defScope s_fraction) := ⟨rfl, rfl, rfl, by decide +kernel, rfl, by decide +kernel, by decide +kernel⟩
abbrev s_read_number : Stmt := topS 10
abbrev n_read_number : List Str := ["text", "minus", "parts", "numbers", "part"]
theorem sc_read_number : FnScope n_read_number ["text"] (defScope s_read_number) := ⟨rfl, rfl, rfl, by decide +kernel, rfl, by decide +kernel, by decide +kernel⟩
abbrev s_row_read : Stmt := topS 16
abbrev n_row_read : List Str := ["line", "many", "place", "words", "numbers", "word"]
theorem sc_row_read : FnScope n_row_read ["line", "many", "place"] (defScope s_row_read) := ⟨rfl, rfl, rfl, by decide +kernel, rfl, by decide +kernel, by decide +kernel⟩
abbrev s_read_table : Stmt := topS 17
abbrev n_read_table : List Str := ["text", "lines", "names", "read", "place", "row", "wish"]
theorem sc_read_table : FnScope n_read_table ["text"] (defScope s_read_table) := ⟨rfl, rfl, rfl, by decide +kernel, rfl, by decide +kernel, by decide +kernel⟩
abbrev s_law_like : Stmt := topS 33
abbrev n_law_like : List Str := ["found", "due", "k"]
theorem sc_law_like : FnScope n_law_like ["found", "due"] (defScope s_law_like) := ⟨rfl, rfl, rfl, by decide +kernel, rfl, by decide +kernel, by decide +kernel⟩
abbrev s_number_shown : Stmt := topS 8
abbrev n_number_shown : List Str := ["one"]
theorem sc_number_shown : FnScope n_number_shown ["one"] (defScope s_number_shown) := ⟨rfl, rfl, rfl, by decide +kernel, rfl, by decide +kernel, by decide +kernel⟩
abbrev s_table_shown : Stmt := topS 18
abbrev n_table_shown : List Str := ["table", "names", "rows", "wish", "lines", "row", "number", "part"]
theorem sc_table_shown : FnScope n_table_shown ["table"] (defScope s_table_shown) := ⟨rfl, rfl, rfl, by decide +kernel, rfl, by decide +kernel, by decide +kernel⟩
abbrev s_law : Stmt := topS 34
abbrev n_law : List Str := ["script", "deck", "turn", "table", "shown", "text", "found"]
theorem sc_law : FnScope n_law ["script"] (defScope s_law) := ⟨rfl, rfl, rfl, by decide +kernel, rfl, by decide +kernel, by decide +kernel⟩
section
variable {P : Program} {w : World} {K : PySem.W.Frag} {mg : Str → Option Value} {base : Heap}
set_option maxHeartbeats 4000000 in
theorem ok_law_deck {f : Addr} {fd : FuncData} (F : Fun K "_law_deck" "_law_deck" s_law_deck f fd) (z_sum : mg "sum" = none) : FnOk P w K mg base CX0 1 f fd ["script"] (spD K m_law_deck) :=
  okD F sc_law_deck l_law_deck fun cdv A outer s H E hr => ⟨w_law_deck,
  (dss_one (ds_ret (de_lstM (da_cons (de_slice (de_var 0) do_none (do_some de_int)) (da_cons de_int (da_cons de_int (da_cons de_int (da_cons (de_callB (cd_sum rfl) (by rfl) z_sum bt_sum (da_cons (de_slice (de_var 0) do_none (do_some de_int)) da_nil)) da_nil)))))))), v_law_deck⟩
set_option maxHeartbeats 4000000 in
theorem ok_law_mix {f : Addr} {fd : FuncData} (F : Fun K "_law_mix" "_law_mix" s_law_mix f fd) (hN : base.NoSeer) (hT : P.given.tree = none) : FnOk P w K mg base CX0 33 f fd ["cell", "k"] (spD K m_law_mix) :=
  okD F sc_law_mix l_law_mix fun cdv A outer s H E hr => have hs := seerD hN hT hr (by decide) rfl rfl; ⟨w_law_mix,
  (dss_cons (ds_set 2 sc_law_mix.nd (Or.inl rfl) (de_bin od_add (de_bin od_mod (de_var 0) de_int) (de_bin od_mul (de_bin od_mul de_int (de_var 1)) (de_var 1))))
  (dss_cons (ds_set 2 sc_law_mix.nd (Or.inl rfl) (de_bin od_mod (de_bin od_add (de_var 2) (de_bin od_mul de_int (de_var 1))) de_int))
  (dss_cons (ds_set 2 sc_law_mix.nd (Or.inl rfl) (de_bin od_mod (de_bin od_mul (de_var 2) (de_var 2)) de_int))
  (dss_one (ds_ret (de_bin (od_fdiv hs) (de_bin od_mod (de_bin od_mul (de_var 2) (de_bin od_add (de_var 2) de_int)) de_int) de_int)))))), v_law_mix⟩
set_option maxHeartbeats 4000000 in
theorem ok_law_next {f : Addr} {fd : FuncData} (F : Fun K "_law_next" "_law_next" s_law_next f fd) (k_law_mix : CalD P w K mg base 33 "_law_mix" m_law_mix) (z_len : mg "len" = none) (hN : base.NoSeer) (hT : P.given.tree = none) : FnOk P w K mg base CX0 34 f fd ["deck", "many"] (spD K m_law_next) :=
  okD F sc_law_next l_law_next fun cdv A outer s H E hr => have hs := seerD hN hT hr (by decide) rfl rfl; ⟨w_law_next m_law_mix,
  (dss_cons (ds_if (dt_w (dw_and (dt_cmp (od_eq hr.units) (de_ix odx_ix (de_var 0) de_int) de_int) (dw_and1 (dt_cmp od_lt (de_ix odx_ix (de_var 0) de_int) (de_callB cd_len (by rfl) z_len bt_len (da_cons (de_ix odx_ix (de_var 0) de_int) da_nil)))))) (dss_cons (ds_set 2 sc_law_next.nd (Or.inl rfl) (de_ix odx_ix (de_ix odx_ix (de_var 0) de_int) (de_ix odx_ix (de_var 0) de_int)))
  (dss_cons (ds_asg (vs := []) (de_bin od_add (de_ix odx_ix (de_var 0) de_int) de_int) (dg_sub (de_var 0) de_int od_set))
  (dss_cons (ds_if (dt_cmp od_lt (de_var 2) (de_bin od_pow de_int de_int)) (dss_one (ds_ret (de_bin od_mod (de_call (k_law_mix.up (by decide)) hr (by rfl) (da_cons (de_var 2) (da_cons (de_ix odx_ix (de_var 0) de_int) da_nil))) (de_var 1)))) dss_nil)
  (dss_one (ds_asg (vs := []) (de_var 2) (dg_sub (de_var 0) de_int od_set)))))) dss_nil)
  (dss_cons (ds_if (dt_cmp od_gt (de_ix odx_ix (de_var 0) de_int) de_int) (dss_cons (ds_set 3 sc_law_next.nd (Or.inl rfl) (de_bin od_mod (de_ix odx_ix (de_var 0) de_int) (de_var 1)))
  (dss_cons (ds_asg (vs := []) (de_bin (od_fdiv hs) (de_ix odx_ix (de_var 0) de_int) (de_var 1)) (dg_sub (de_var 0) de_int od_set))
  (dss_one (ds_ret (de_var 3))))) dss_nil)
  (dss_cons (ds_asg (vs := []) (de_bin od_add (de_ix odx_ix (de_var 0) de_int) de_int) (dg_sub (de_var 0) de_int od_set))
  (dss_one (ds_ret (de_bin od_mod (de_call (k_law_mix.up (by decide)) hr (by rfl) (da_cons (de_ix odx_ix (de_var 0) de_int) (da_cons (de_bin od_add (de_ix odx_ix (de_var 0) de_int) de_int) da_nil))) (de_var 1))))))), v_law_next⟩
set_option maxHeartbeats 4000000 in
theorem ok_law_names {f : Addr} {fd : FuncData} (F : Fun K "_law_names" "_law_names" s_law_names f fd) (k_law_next : CalD P w K mg base 34 "_law_next" m_law_next) (z_range : mg "range" = none) (z_tuple : mg "tuple" = none) : FnOk P w K mg base CX0 35 f fd ["deck", "many"] (spD K m_law_names) :=
  okD F sc_law_names l_law_names fun cdv A outer s H E hr => ⟨w_law_names m_law_next,
  (dss_cons (ds_set 2 sc_law_names.nd (Or.inr rfl) de_str)
  (dss_cons (ds_set 3 sc_law_names.nd (Or.inr rfl) (de_lstM da_nil))
  (dss_cons (ds_for (vs := [4]) PassesOwn.never rfl (di_rng1 (by rfl) z_range (de_var 1)) (dg_name 4 sc_law_names.nd (Or.inl rfl)) (dss_cons (ds_set 5 sc_law_names.nd (Or.inl rfl) (de_join de_str (de_lc (own := [("j", 6)]) rfl sc_law_names.nd (di_rng1 (by rfl) z_range (de_bin od_add de_int (de_call (k_law_next.up (by decide)) hr (by rfl) (da_cons (de_var 0) (da_cons de_int da_nil))))) (blkOk_by (N := n_law_names) (sc := (defScope s_law_names)) (by decide +kernel)) (fun _ _ _ _ _ => (dg_name 6 sc_law_names.nd (Or.inl rfl))) (fun _ _ _ _ _ => dts_nil) (fun _ _ _ _ _ => (de_ix odx_ix (de_var 2) (de_call (k_law_next.up (by decide)) hr (by rfl) (da_cons (de_var 0) (da_cons de_int da_nil))))))))
  (dss_cons (ds_if (dt_w (dw_and (dt_cmp od_gt (de_var 4) de_int) (dw_and1 (dt_cmp (od_eq hr.units) (de_call (k_law_next.up (by decide)) hr (by rfl) (da_cons (de_var 0) (da_cons de_int da_nil))) de_int)))) (dss_one (ds_set 5 sc_law_names.nd (Or.inl rfl) (de_slice (de_bin od_add (de_ix odx_ix (de_var 3) (de_bin od_sub (de_var 4) de_int)) de_str) do_none (do_some de_int)))) dss_nil)
  (dss_cons (ds_if (dt_cmp od_in (de_var 5) (de_var 3)) (dss_one (ds_set 5 sc_law_names.nd (Or.inl rfl) (de_ix odx_ix (de_lc (own := [("one", 7)]) rfl sc_law_names.nd (di_seq (de_lst (da_cons de_str (da_cons de_str (da_cons de_str (da_cons de_str (da_cons de_str (da_cons de_str (da_cons de_str da_nil))))))))) (blkOk_by (N := n_law_names) (sc := (defScope s_law_names)) (by decide +kernel)) (fun _ _ _ _ _ => (dg_name 7 sc_law_names.nd (Or.inl rfl))) (fun _ _ _ _ _ => (dts_one (dt_cmp od_notin (de_var 7) (de_var 3)))) (fun _ _ _ _ _ => (de_var 7))) de_int))) dss_nil)
  (dss_one (ds_expr (de_append (de_var 3) (de_var 5))))))))
  (dss_one (ds_ret (de_fz (de_callTy cd_tuple (by rfl) z_tuple bt_tuple (da_cons (de_var 3) da_nil)))))))), v_law_names⟩
set_option maxHeartbeats 4000000 in
theorem ok_law_f {f : Addr} {fd : FuncData} (F : Fun K "_law_f" "_law_f" s_law_f f fd) (z_abs : mg "abs" = none) (hN : base.NoSeer) (hT : P.given.tree = none) : FnOk P w K mg base CX0 33 f fd ["top", "under"] (spD K m_law_f) :=
  okD F sc_law_f l_law_f fun cdv A outer s H E hr => have hs := seerD hN hT hr (by decide) rfl rfl; ⟨w_law_f,
  (dss_cons (ds_set 2 sc_law_f.nd (Or.inl rfl) (de_callB cd_abs (by rfl) z_abs bt_abs (da_cons (de_var 0) da_nil)))
  (dss_cons (ds_set 3 sc_law_f.nd (Or.inl rfl) (de_callB cd_abs (by rfl) z_abs bt_abs (da_cons (de_var 1) da_nil)))
  (dss_cons (ds_while PassesOwn.never (dt_cmp od_gt (de_var 3) de_int) (dss_one (ds_par 2 3 rfl sc_law_f.nd rfl rfl (da_cons (de_var 3) (da_cons (de_bin od_mod (de_var 2) (de_var 3)) da_nil)))))
  (dss_cons (ds_if (dt_cmp od_lt (de_var 1) de_int) (dss_one (ds_set 2 sc_law_f.nd (Or.inl rfl) (de_bin od_sub de_int (de_var 2)))) dss_nil)
  (dss_one (ds_ret (de_tup (da_cons (de_bin (od_fdiv hs) (de_var 0) (de_var 2)) (da_cons (de_bin (od_fdiv hs) (de_var 1) (de_var 2)) da_nil))))))))), v_law_f⟩
set_option maxHeartbeats 4000000 in
theorem ok_law_great {f : Addr} {fd : FuncData} (F : Fun K "_law_great" "_law_great" s_law_great f fd) (k_law_next : CalD P w K mg base 34 "_law_next" m_law_next) (hN : base.NoSeer) (hT : P.given.tree = none) : FnOk P w K mg base CX0 35 f fd ["deck"] (spD K m_law_great) :=
  okD F sc_law_great l_law_great fun cdv A outer s H E hr => have hs := seerD hN hT hr (by decide) rfl rfl; ⟨w_law_great m_law_next,
  (dss_cons (ds_set 1 sc_law_great.nd (Or.inl rfl) (de_call (k_law_next.up (by decide)) hr (by rfl) (da_cons (de_var 0) (da_cons de_int da_nil))))
  (dss_cons (ds_if (dt_cmp (od_eq hr.units) (de_var 1) de_int) (dss_one (ds_ret (de_bin od_sub (de_bin od_sub (de_bin od_pow de_int de_int) de_int) (de_call (k_law_next.up (by decide)) hr (by rfl) (da_cons (de_var 0) (da_cons de_int da_nil)))))) dss_nil)
  (dss_one (ds_ret (de_bin (od_fdiv hs) (de_bin od_add (de_bin od_mul (de_call (k_law_next.up (by decide)) hr (by rfl) (da_cons (de_var 0) (da_cons (de_bin od_pow de_int de_int) da_nil))) (de_bin od_pow de_int de_int)) (de_call (k_law_next.up (by decide)) hr (by rfl) (da_cons (de_var 0) (da_cons (de_bin od_pow de_int de_int) da_nil)))) (de_ix odx_ix (de_lst (da_cons de_int (da_cons (de_bin od_pow de_int de_int) (da_cons (de_bin od_pow de_int de_int) da_nil)))) (de_bin od_sub (de_var 1) de_int))))))), v_law_great⟩
set_option maxHeartbeats 4000000 in
theorem ok_law_fraction {f : Addr} {fd : FuncData} (F : Fun K "_law_fraction" "_law_fraction" s_law_fraction f fd) (k_law_next : CalD P w K mg base 34 "_law_next" m_law_next) (k_law_f : CalD P w K mg base 33 "_law_f" m_law_f) (k_law_great : CalD P w K mg base 35 "_law_great" m_law_great) (z_max : mg "max" = none) : FnOk P w K mg base CX0 36 f fd ["deck", "most"] (spD K m_law_fraction) :=
  okD F sc_law_fraction l_law_fraction fun cdv A outer s H E hr => ⟨w_law_fraction m_law_next m_law_f m_law_great,
  (dss_cons (ds_set 2 sc_law_fraction.nd (Or.inl rfl) (de_call (k_law_next.up (by decide)) hr (by rfl) (da_cons (de_var 0) (da_cons (de_var 1) da_nil))))
  (dss_cons (ds_if (dt_cmp od_lt (de_var 2) de_int) (dss_one (ds_ret (de_tup (da_cons (de_bin od_sub (de_call (k_law_next.up (by decide)) hr (by rfl) (da_cons (de_var 0) (da_cons de_int da_nil))) de_int) (da_cons de_int da_nil))))) dss_nil)
  (dss_cons (ds_if (dt_cmp od_lt (de_var 2) de_int) (dss_one (ds_ret (de_call (k_law_f.up (by decide)) hr (by rfl) (da_cons (de_bin od_sub (de_call (k_law_next.up (by decide)) hr (by rfl) (da_cons (de_var 0) (da_cons de_int da_nil))) de_int) (da_cons (de_bin od_add de_int (de_call (k_law_next.up (by decide)) hr (by rfl) (da_cons (de_var 0) (da_cons de_int da_nil)))) da_nil))))) dss_nil)
  (dss_cons (ds_if (dt_cmp (od_eq hr.units) (de_var 2) de_int) (dss_one (ds_ret (de_tup (da_cons de_int (da_cons de_int da_nil))))) dss_nil)
  (dss_one (ds_ret (de_call (k_law_f.up (by decide)) hr (by rfl) (da_cons (de_bin od_mul (de_call (k_law_great.up (by decide)) hr (by rfl) (da_cons (de_var 0) da_nil)) (de_ix odx_ix (de_lst (da_cons de_int (da_cons (de_neg de_int) da_nil))) (de_call (k_law_next.up (by decide)) hr (by rfl) (da_cons (de_var 0) (da_cons de_int da_nil))))) (da_cons (de_callB (cd_max rfl) (by rfl) z_max bt_max (da_cons de_int (da_cons (de_call (k_law_great.up (by decide)) hr (by rfl) (da_cons (de_var 0) da_nil)) da_nil))) da_nil))))))))), v_law_fraction⟩
set_option maxHeartbeats 4000000 in
theorem ok_law_table {f : Addr} {fd : FuncData} (F : Fun K "_law_table" "_law_table" s_law_table f fd) (k_law_next : CalD P w K mg base 34 "_law_next" m_law_next) (k_law_names : CalD P w K mg base 35 "_law_names" m_law_names) (k_law_fraction : CalD P w K mg base 36 "_law_fraction" m_law_fraction) (z_range : mg "range" = none) (z_tuple : mg "tuple" = none) : FnOk P w K mg base CX0 37 f fd ["deck"] (spD K m_law_table) :=
  okD F sc_law_table l_law_table fun cdv A outer s H E hr => ⟨w_law_table m_law_next m_law_names m_law_fraction,
  (dss_cons (ds_set 1 sc_law_table.nd (Or.inl rfl) (de_call (k_law_names.up (by decide)) hr (by rfl) (da_cons (de_var 0) (da_cons (de_call (k_law_next.up (by decide)) hr (by rfl) (da_cons (de_var 0) (da_cons de_int da_nil))) da_nil))))
  (dss_cons (ds_set 2 sc_law_table.nd (Or.inr rfl) (de_ix odx_ix (de_lst (da_cons de_int (da_cons de_int da_nil))) (de_call (k_law_next.up (by decide)) hr (by rfl) (da_cons (de_var 0) (da_cons de_int da_nil)))))
  (dss_cons (ds_set 3 sc_law_table.nd (Or.inl rfl) (de_lstM da_nil))
  (dss_cons (ds_for (vs := [4]) PassesOwn.never rfl (di_rng1 (by rfl) z_range (de_ix odx_ix (de_lst (da_cons (de_call (k_law_next.up (by decide)) hr (by rfl) (da_cons (de_var 0) (da_cons de_int da_nil))) (da_cons (de_call (k_law_next.up (by decide)) hr (by rfl) (da_cons (de_var 0) (da_cons de_int da_nil))) da_nil))) (de_call (k_law_next.up (by decide)) hr (by rfl) (da_cons (de_var 0) (da_cons de_int da_nil))))) (dg_name 4 sc_law_table.nd (Or.inl rfl)) (dss_one (ds_expr (de_append (de_var 3) (de_callTy cd_tuple (by rfl) z_tuple bt_tuple (da_cons (de_lc (own := [("name", 6)]) rfl sc_law_table.nd (di_seq (de_var 1)) (blkOk_by (N := n_law_table) (sc := (defScope s_law_table)) (by decide +kernel)) (fun _ _ _ _ _ => (dg_name 6 sc_law_table.nd (Or.inl rfl))) (fun _ _ _ _ _ => dts_nil) (fun _ _ _ _ _ => (de_call (k_law_fraction.up (by decide)) hr (by rfl) (da_cons (de_var 0) (da_cons (de_var 2) da_nil))))) da_nil))))))
  (dss_one (ds_ret (de_fz (de_tup (da_cons (de_var 1) (da_cons (de_callTy cd_tuple (by rfl) z_tuple bt_tuple (da_cons (de_var 3) da_nil)) (da_cons (de_callTy cd_tuple (by rfl) z_tuple bt_tuple (da_cons (de_lc (own := [("row", 5)]) rfl sc_law_table.nd (di_seq (de_var 3)) (blkOk_by (N := n_law_table) (sc := (defScope s_law_table)) (by decide +kernel)) (fun _ _ _ _ _ => (dg_name 5 sc_law_table.nd (Or.inl rfl))) (fun _ _ _ _ _ => dts_nil) (fun _ _ _ _ _ => (de_call (k_law_fraction.up (by decide)) hr (by rfl) (da_cons (de_var 0) (da_cons (de_var 2) da_nil))))) da_nil)) da_nil))))))))))), v_law_table⟩
set_option maxHeartbeats 4000000 in
theorem ok_law_word {f : Addr} {fd : FuncData} (F : Fun K "_law_word" "_law_word" s_law_word f fd) (k_law_next : CalD P w K mg base 34 "_law_next" m_law_next) (z_max : mg "max" = none) (z_abs : mg "abs" = none) (z_str : mg "str" = none) : FnOk P w K mg base CX0 35 f fd ["deck", "number", "plain"] (spD K m_word08) :=
  okD F sc_law_word l_word08 fun cdv A outer s H E hr => ⟨w_word08 m_law_next,
  (dss_cons (ds_set 3 sc_law_word.nd (Or.inl rfl) (de_ix odx_ix (de_lst (da_cons de_int (da_cons de_int (da_cons de_int (da_cons de_int da_nil))))) (de_call (k_law_next.up (by decide)) hr (by rfl) (da_cons (de_var 0) (da_cons de_int da_nil)))))
  (dss_cons (ds_if (dt_w (dw_or (dt_val (de_var 2)) (dw_or1 (dt_cmp od_ge (de_bin od_mul (de_callB (cd_max rfl) (by rfl) z_max bt_max (da_cons (de_callB cd_abs (by rfl) z_abs bt_abs (da_cons (de_ix odx_ix (de_var 1) de_int) da_nil)) (da_cons (de_ix odx_ix (de_var 1) de_int) da_nil))) (de_var 3)) (de_bin od_pow de_int de_int))))) (dss_one (ds_set 3 sc_law_word.nd (Or.inl rfl) de_int)) dss_nil)
  (dss_cons (ds_if (dt_w (dw_and (dt_cmp (od_eq hr.units) (de_var 3) de_int) (dw_and1 (dt_cmp (od_eq hr.units) (de_ix odx_ix (de_var 1) de_int) de_int)))) (dss_one (ds_ret (de_callTy cd_strI (by rfl) z_str bt_str (da_cons (de_ix odx_ix (de_var 1) de_int) da_nil)))) dss_nil)
  (dss_one (ds_ret (de_bin od_add (de_bin od_add (de_callTy cd_strI (by rfl) z_str bt_str (da_cons (de_bin od_mul (de_ix odx_ix (de_var 1) de_int) (de_var 3)) da_nil)) de_str) (de_callTy cd_strI (by rfl) z_str bt_str (da_cons (de_bin od_mul (de_ix odx_ix (de_var 1) de_int) (de_var 3)) da_nil)))))))), v_word08⟩
set_option maxHeartbeats 4000000 in
theorem ok_law_text {f : Addr} {fd : FuncData} (F : Fun K "_law_text" "_law_text" s_law_text f fd) (k_law_word : CalD P w K mg base 35 "_law_word" m_word08) (z_list : mg "list" = none) (z_zip : mg "zip" = none) : FnOk P w K mg base CX0 36 f fd ["deck", "table", "plain"] (spD K m_text08) :=
  okD F sc_law_text l_text08 fun cdv A outer s H E hr => ⟨w_text08 m_word08,
  (dss_cons (ds_asg (vs := [3, 4, 5]) (de_var 1) (dg_tup rfl (dgs_cons (dg_name 3 sc_law_text.nd (Or.inl rfl)) (dgs_cons (dg_name 4 sc_law_text.nd (Or.inl rfl)) (dgs_cons (dg_name 5 sc_law_text.nd (Or.inl rfl)) dgs_nil)))))
  (dss_cons (ds_set 6 sc_law_text.nd (Or.inl rfl) (de_lstM (da_cons (de_join de_str (de_bin od_add (de_callTy cd_list (by rfl) z_list bt_list (da_cons (de_var 3) da_nil)) (de_lst (da_cons de_str da_nil)))) da_nil)))
  (dss_cons (ds_for (vs := [7, 8]) PassesOwn.never rfl (di_zip (by rfl) z_zip (da_cons (de_var 4) (da_cons (de_var 5) da_nil))) (dg_tup rfl (dgs_cons (dg_name 7 sc_law_text.nd (Or.inl rfl)) (dgs_cons (dg_name 8 sc_law_text.nd (Or.inl rfl)) dgs_nil))) (dss_cons (ds_setLc (own := [("part", 10)]) 9 rfl sc_law_text.nd rfl (sw_true rfl rfl rfl (by decide +kernel)) (di_seq (de_var 7)) (blkOk_by (N := n_law_text) (sc := (defScope s_law_text)) (by decide +kernel)) (fun _ _ _ _ _ => (dg_name 10 sc_law_text.nd (Or.inl rfl))) (fun _ _ _ _ _ => dts_nil) (fun _ _ _ _ _ => (de_call (k_law_word.up (by decide)) hr (by rfl) (da_cons (de_var 0) (da_cons (de_var 10) (da_cons (de_var 2) da_nil))))))
  (dss_one (ds_expr (de_append (de_var 6) (de_join de_str (de_bin od_add (de_var 9) (de_lst (da_cons de_str (da_cons (de_call (k_law_word.up (by decide)) hr (by rfl) (da_cons (de_var 0) (da_cons (de_var 8) (da_cons (de_var 2) da_nil)))) da_nil))))))))))
  (dss_one (ds_ret (de_fz (de_join de_str (de_var 6)))))))), v_text08⟩
set_option maxHeartbeats 4000000 in
theorem ok_is_name {f : Addr} {fd : FuncData} (F : Fun K "is_name" "is_name" s_is_name f fd) (g_LONGEST : GlobD K mg "LONGEST" c_LONGEST) (g_LETTERS : GlobD K mg "LETTERS" c_LETTERS) (z_len : mg "len" = none) (z_all : mg "all" = none) : FnOk P w K mg base CX0 1 f fd ["word"] (spD K m_is_name) :=
  okD F sc_is_name l_is_name fun cdv A outer s H E hr => ⟨w_is_name,
  (dss_cons (ds_if (dt_not (dt_chain od_le od_le de_int (de_callB cd_len (by rfl) z_len bt_len (da_cons (de_var 0) da_nil)) (de_glob (by rfl) g_LONGEST))) (dss_one (ds_ret de_bl)) dss_nil)
  (dss_one (ds_ret (de_callB (cd_all rfl) (by rfl) z_all bt_all (da_cons (de_lc (own := [("sign", 1)]) rfl sc_is_name.nd (di_seq (de_var 0)) (blkOk_by (N := n_is_name) (sc := (defScope s_is_name)) (by decide +kernel)) (fun _ _ _ _ _ => (dg_name 1 sc_is_name.nd (Or.inl rfl))) (fun _ _ _ _ _ => dts_nil) (fun _ _ _ _ _ => (de_cmp od_in (de_var 1) (de_glob (by rfl) g_LETTERS)))) da_nil))))), v_is_name⟩
set_option maxHeartbeats 4000000 in
theorem ok_head_read {f : Addr} {fd : FuncData} (F : Fun K "head_read" "head_read" s_head_read f fd) (k_is_name : CalD P w K mg base 1 "is_name" m_is_name) (z_enumerate : mg "enumerate" = none) (z_tuple : mg "tuple" = none) : FnOk P w K mg base CX0 2 f fd ["line"] (spD K m_head_read) :=
  okD F sc_head_read l_head_read fun cdv A outer s H E hr => ⟨w_head_read m_is_name,
  (dss_cons (ds_set 1 sc_head_read.nd (Or.inl rfl) (de_split (de_var 0) de_str))
  (dss_cons (ds_set 2 sc_head_read.nd (Or.inl rfl) (de_slice (de_var 1) do_none (do_some (de_neg de_int))))
  (dss_cons (ds_if (dt_cmp (od_ne hr.units) (de_ix odx_ix (de_var 1) (de_neg de_int)) de_str) (dss_one ds_never) dss_nil)
  (dss_cons (ds_for (vs := [3, 4]) PassesOwn.never rfl (di_enum (by rfl) z_enumerate (da_cons (de_var 2) da_nil)) (dg_tup rfl (dgs_cons (dg_name 3 sc_head_read.nd (Or.inl rfl)) (dgs_cons (dg_name 4 sc_head_read.nd (Or.inl rfl)) dgs_nil))) (dss_one (ds_if (dt_w (dw_or (dt_not (dt_val (de_call (k_is_name.up (by decide)) hr (by rfl) (da_cons (de_var 4) da_nil)))) (dw_or1 (dt_cmp od_in (de_var 4) (de_slice (de_var 2) do_none (do_some (de_var 3))))))) (dss_one ds_never) dss_nil)))
  (dss_one (ds_ret (de_callTy cd_tuple (by rfl) z_tuple bt_tuple (da_cons (de_var 2) da_nil)))))))), v_head_read⟩
set_option maxHeartbeats 4000000 in
theorem ok_figures_told {f : Addr} {fd : FuncData} (F : Fun K "figures_told" "figures_told" s_figures_told f fd) (g_FIGURES : GlobD K mg "FIGURES" c_FIGURES) (z_int : mg "int" = none) : FnOk P w K mg base CX0 1 f fd ["text"] (spD K m_figures_told) :=
  okD F sc_figures_told l_figures_told fun cdv A outer s H E hr => ⟨w_figures_told,
  (dss_cons (ds_if (dt_w (dw_or (dt_cmp (od_eq hr.units) (de_var 0) de_str) (dw_or1 (dt_w (dw_and (dt_cmp (od_eq hr.units) (de_ix odx_ix (de_var 0) de_int) de_str) (dw_and1 (dt_cmp (od_ne hr.units) (de_var 0) de_str))))))) (dss_one ds_never) dss_nil)
  (dss_cons (ds_for (vs := [1]) PassesOwn.never rfl (di_seq (de_var 0)) (dg_name 1 sc_figures_told.nd (Or.inl rfl)) (dss_one (ds_if (dt_cmp od_notin (de_var 1) (de_glob (by rfl) g_FIGURES)) (dss_one ds_never) dss_nil)))
  (dss_one (ds_ret (de_callTy cd_intS (by rfl) z_int bt_int (da_cons (de_var 0) da_nil)))))), v_figures_told⟩
set_option maxHeartbeats 4000000 in
theorem ok_divisor {f : Addr} {fd : FuncData} (F : Fun K "divisor" "divisor" s_divisor f fd) : FnOk P w K mg base CX0 1 f fd ["one", "other"] (spD K m_divisor) :=
  okD F sc_divisor l_divisor fun cdv A outer s H E hr => ⟨w_divisor,
  (dss_cons (ds_while PassesOwn.never (dt_cmp od_gt (de_var 1) de_int) (dss_one (ds_par 0 1 rfl sc_divisor.nd rfl rfl (da_cons (de_var 1) (da_cons (de_bin od_mod (de_var 0) (de_var 1)) da_nil)))))
  (dss_one (ds_ret (de_var 0)))), v_divisor⟩
set_option maxHeartbeats 4000000 in
theorem ok_fraction {f : Addr} {fd : FuncData} (F : Fun K "fraction" "fraction" s_fraction f fd) (k_divisor : CalD P w K mg base 1 "divisor" m_divisor) (z_abs : mg "abs" = none) (hN : base.NoSeer) (hT : P.given.tree = none) : FnOk P w K mg base CX0 33 f fd ["top", "below"] (spD K m_fraction) :=
  okD F sc_fraction l_fraction fun cdv A outer s H E hr => have hs := seerD hN hT hr (by decide) rfl rfl; ⟨w_fraction m_divisor,
  (dss_cons (ds_if (dt_cmp od_lt (de_var 1) de_int) (dss_one (ds_par 0 1 rfl sc_fraction.nd rfl rfl (da_cons (de_neg (de_var 0)) (da_cons (de_neg (de_var 1)) da_nil)))) dss_nil)
  (dss_cons (ds_set 2 sc_fraction.nd (Or.inl rfl) (de_call (k_divisor.up (by decide)) hr (by rfl) (da_cons (de_callB cd_abs (by rfl) z_abs bt_abs (da_cons (de_var 0) da_nil)) (da_cons (de_var 1) da_nil))))
  (dss_one (ds_ret (de_tup (da_cons (de_bin (od_fdiv hs) (de_var 0) (de_var 2)) (da_cons (de_bin (od_fdiv hs) (de_var 1) (de_var 2)) da_nil))))))), v_fraction⟩
set_option maxHeartbeats 4000000 in
theorem ok_read_number {f : Addr} {fd : FuncData} (F : Fun K "read_number" "read_number" s_read_number f fd) (k_figures_told : CalD P w K mg base 1 "figures_told" m_figures_told) (k_fraction : CalD P w K mg base 33 "fraction" m_fraction) (z_int : mg "int" = none) (z_len : mg "len" = none) : FnOk P w K mg base CX0 34 f fd ["text"] (spD K m_read_number) :=
  okD F sc_read_number l_read_number fun cdv A outer s H E hr => ⟨w_read_number m_figures_told m_fraction,
  (dss_cons (ds_set 1 sc_read_number.nd (Or.inl rfl) (de_starts (de_var 0) de_str))
  (dss_cons (ds_set 2 sc_read_number.nd (Or.inl rfl) (de_split (de_slice (de_var 0) (do_some (de_callTy cd_int (by rfl) z_int bt_int (da_cons (de_var 1) da_nil))) do_none) de_str))
  (dss_cons (ds_if (dt_cmp od_gt (de_callB cd_len (by rfl) z_len bt_len (da_cons (de_var 2) da_nil)) de_int) (dss_one ds_never) dss_nil)
  (dss_cons (ds_set 3 sc_read_number.nd (Or.inl rfl) (de_bin od_add (de_lc (own := [("part", 4)]) rfl sc_read_number.nd (di_seq (de_var 2)) (blkOk_by (N := n_read_number) (sc := (defScope s_read_number)) (by decide +kernel)) (fun _ _ _ _ _ => (dg_name 4 sc_read_number.nd (Or.inl rfl))) (fun _ _ _ _ _ => dts_nil) (fun _ _ _ _ _ => (de_call (k_figures_told.up (by decide)) hr (by rfl) (da_cons (de_var 4) da_nil)))) (de_lst (da_cons de_int da_nil))))
  (dss_cons (ds_if (dt_w (dw_or (dt_w (dw_and (dt_val (de_var 1)) (dw_and1 (dt_cmp (od_eq hr.units) (de_ix odx_ix (de_var 3) de_int) de_int)))) (dw_or1 (dt_cmp (od_eq hr.units) (de_ix odx_ix (de_var 3) de_int) de_int)))) (dss_one ds_never) dss_nil)
  (dss_one (ds_ret (de_call (k_fraction.up (by decide)) hr (by rfl) (da_cons (de_bin od_mul (de_ix odx_ix (de_var 3) de_int) (de_ix odx_ix (de_lst (da_cons de_int (da_cons (de_neg de_int) da_nil))) (de_callTy cd_int (by rfl) z_int bt_int (da_cons (de_var 1) da_nil)))) (da_cons (de_ix odx_ix (de_var 3) de_int) da_nil)))))))))), v_read_number⟩
set_option maxHeartbeats 4000000 in
theorem ok_row_read {f : Addr} {fd : FuncData} (F : Fun K "row_read" "row_read" s_row_read f fd) (k_read_number : CalD P w K mg base 34 "read_number" m_read_number) (z_len : mg "len" = none) (z_tuple : mg "tuple" = none) : FnOk P w K mg base CX0 35 f fd ["line", "many", "place"] (spD K m_row_read) :=
  okD F sc_row_read l_row_read fun cdv A outer s H E hr => ⟨w_row_read m_read_number,
  (dss_cons (ds_set 3 sc_row_read.nd (Or.inl rfl) (de_split (de_var 0) de_str))
  (dss_cons (ds_if (dt_w (dw_or (dt_cmp (od_ne hr.units) (de_callB cd_len (by rfl) z_len bt_len (da_cons (de_var 3) da_nil)) (de_bin od_add (de_var 1) de_int)) (dw_or1 (dt_cmp (od_ne hr.units) (de_ix odx_ix (de_var 3) (de_var 1)) de_str)))) (dss_one ds_never) dss_nil)
  (dss_cons (ds_tryNo (fun _ _ h => h) (dss_one (ds_setLc (own := [("word", 5)]) 4 rfl sc_row_read.nd rfl (sw_true rfl rfl rfl (by decide +kernel)) (di_seq (de_bin od_add (de_slice (de_var 3) do_none (do_some (de_var 1))) (de_slice (de_var 3) (do_some (de_bin od_add (de_var 1) de_int)) do_none))) (blkOk_by (N := n_row_read) (sc := (defScope s_row_read)) (by decide +kernel)) (fun _ _ _ _ _ => (dg_name 5 sc_row_read.nd (Or.inl rfl))) (fun _ _ _ _ _ => dts_nil) (fun _ _ _ _ _ => (de_call (k_read_number.up (by decide)) hr (by rfl) (da_cons (de_var 5) da_nil))))))
  (dss_one (ds_ret (de_fz (de_tup (da_cons (de_callTy cd_tuple (by rfl) z_tuple bt_tuple (da_cons (de_slice (de_var 4) do_none (do_some (de_var 1))) da_nil)) (da_cons (de_ix odx_ix (de_var 4) (de_var 1)) da_nil))))))))), v_row_read⟩
set_option maxHeartbeats 4000000 in
theorem ok_read_table {f : Addr} {fd : FuncData} (F : Fun K "read_table" "read_table" s_read_table f fd) (k_head_read : CalD P w K mg base 2 "head_read" m_head_read) (k_row_read : CalD P w K mg base 35 "row_read" m_row_read) (z_range : mg "range" = none) (z_len : mg "len" = none) (z_tuple : mg "tuple" = none) : FnOk P w K mg base CX0 36 f fd ["text"] (spD K m_read_table) :=
  okD F sc_read_table l_read_table fun cdv A outer s H E hr => ⟨w_read_table m_head_read m_row_read,
  (dss_cons (ds_set 1 sc_read_table.nd (Or.inr rfl) (de_split (de_var 0) de_str))
  (dss_cons (ds_set 2 sc_read_table.nd (Or.inr rfl) (de_call (k_head_read.up (by decide)) hr (by rfl) (da_cons (de_ix odx_ix (de_var 1) de_int) da_nil)))
  (dss_cons (ds_setLc (own := [("place", 4)]) 3 rfl sc_read_table.nd rfl (sw_true rfl rfl rfl (by decide +kernel)) (di_rng2 (by rfl) z_range de_int (de_callB cd_len (by rfl) z_len bt_len (da_cons (de_var 1) da_nil))) (blkOk_by (N := n_read_table) (sc := (defScope s_read_table)) (by decide +kernel)) (fun _ _ _ _ _ => (dg_name 4 sc_read_table.nd (Or.inl rfl))) (fun _ _ _ _ _ => dts_nil) (fun _ _ _ _ _ => (de_call (k_row_read.up (by decide)) hr (by rfl) (da_cons (de_ix odx_ix (de_var 1) (de_var 4)) (da_cons (de_callB cd_len (by rfl) z_len bt_len (da_cons (de_var 2) da_nil)) (da_cons (de_var 4) da_nil))))))
  (dss_one (ds_ret (de_tup (da_cons (de_var 2) (da_cons (de_callTy cd_tuple (by rfl) z_tuple bt_tuple (da_cons (de_lc (own := [("row", 5), ("wish", 6)]) rfl sc_read_table.nd (di_seq (de_var 3)) (blkOk_by (N := n_read_table) (sc := (defScope s_read_table)) (by decide +kernel)) (fun _ _ _ _ _ => (dg_tup rfl (dgs_cons (dg_name 5 sc_read_table.nd (Or.inl rfl)) (dgs_cons (dg_name 6 sc_read_table.nd (Or.inl rfl)) dgs_nil)))) (fun _ _ _ _ _ => dts_nil) (fun _ _ _ _ _ => (de_var 5))) da_nil)) (da_cons (de_callTy cd_tuple (by rfl) z_tuple bt_tuple (da_cons (de_lc (own := [("row", 5), ("wish", 6)]) rfl sc_read_table.nd (di_seq (de_var 3)) (blkOk_by (N := n_read_table) (sc := (defScope s_read_table)) (by decide +kernel)) (fun _ _ _ _ _ => (dg_tup rfl (dgs_cons (dg_name 5 sc_read_table.nd (Or.inl rfl)) (dgs_cons (dg_name 6 sc_read_table.nd (Or.inl rfl)) dgs_nil)))) (fun _ _ _ _ _ => dts_nil) (fun _ _ _ _ _ => (de_var 6))) da_nil)) da_nil))))))))), v_read_table⟩
set_option maxHeartbeats 4000000 in
theorem ok_law_like_1 {f : Addr} {fd : FuncData} (F : Fun K "_law_like" "_law_like" s_law_like f fd) (k_law_like_0 : CalD P w K mg base 1 "_law_like" (m_like 0)) (z_isinstance : mg "isinstance" = none) (z_tuple : mg "tuple" = none) (z_len : mg "len" = none) (z_all : mg "all" = none) (z_range : mg "range" = none) (z_str : mg "str" = none) (z_int : mg "int" = none) (z_bool : mg "bool" = none) : FnOk P w K mg base CX0 2 f fd ["found", "due"] (spD K (m_like 1)) :=
  okD F sc_law_like (l_like 1) fun cdv A outer s H E hr => ⟨w_like (m_like 0),
  (dss_cons (ds_if (dt_val (de_isi (by rfl) z_isinstance (by rfl) z_tuple bt_tuple (de_var 1))) (dss_cons (ds_if (dt_w (dw_or (dt_not (dt_val (de_isi (by rfl) z_isinstance (by rfl) z_tuple bt_tuple (de_var 0)))) (dw_or1 (dt_cmp (od_ne hr.units) (de_callB cd_len (by rfl) z_len bt_len (da_cons (de_var 0) da_nil)) (de_callB cd_len (by rfl) z_len bt_len (da_cons (de_var 1) da_nil)))))) (dss_one (ds_ret de_bl)) dss_nil)
  (dss_one (ds_ret (de_callB (cd_all rfl) (by rfl) z_all bt_all (da_cons (de_lc (own := [("k", 2)]) rfl sc_law_like.nd (di_rng1 (by rfl) z_range (de_callB cd_len (by rfl) z_len bt_len (da_cons (de_var 1) da_nil))) (blkOk_by (N := n_law_like) (sc := (defScope s_law_like)) (by decide +kernel)) (fun _ _ _ _ _ => (dg_name 2 sc_law_like.nd (Or.inl rfl))) (fun _ _ _ _ _ => dts_nil) (fun _ _ _ _ _ => (de_call (k_law_like_0.up (by decide)) hr (by rfl) (da_cons (de_ix odx_ix (de_var 0) (de_var 2)) (da_cons (de_ix odx_ix (de_var 1) (de_var 2)) da_nil))))) da_nil))))) dss_nil)
  (dss_cons (ds_if (dt_val (de_isi (by rfl) z_isinstance (by rfl) z_str bt_str (de_var 1))) (dss_one (ds_ret (de_and (de_isi (by rfl) z_isinstance (by rfl) z_str bt_str (de_var 0)) (de_one (de_cmp (od_eq hr.units) (de_var 0) (de_var 1)))))) dss_nil)
  (dss_one (ds_ret (de_and (de_isi (by rfl) z_isinstance (by rfl) z_int bt_int (de_var 0)) (de_and (de_not (de_isi (by rfl) z_isinstance (by rfl) z_bool bt_bool (de_var 0))) (de_one (de_cmp (od_eq hr.units) (de_var 0) (de_var 1))))))))), (v_like 0)⟩
set_option maxHeartbeats 4000000 in
theorem ok_law_like_2 {f : Addr} {fd : FuncData} (F : Fun K "_law_like" "_law_like" s_law_like f fd) (k_law_like_1 : CalD P w K mg base 2 "_law_like" (m_like 1)) (z_isinstance : mg "isinstance" = none) (z_tuple : mg "tuple" = none) (z_len : mg "len" = none) (z_all : mg "all" = none) (z_range : mg "range" = none) (z_str : mg "str" = none) (z_int : mg "int" = none) (z_bool : mg "bool" = none) : FnOk P w K mg base CX0 3 f fd ["found", "due"] (spD K (m_like 2)) :=
  okD F sc_law_like (l_like 2) fun cdv A outer s H E hr => ⟨w_like (m_like 1),
  (dss_cons (ds_if (dt_val (de_isi (by rfl) z_isinstance (by rfl) z_tuple bt_tuple (de_var 1))) (dss_cons (ds_if (dt_w (dw_or (dt_not (dt_val (de_isi (by rfl) z_isinstance (by rfl) z_tuple bt_tuple (de_var 0)))) (dw_or1 (dt_cmp (od_ne hr.units) (de_callB cd_len (by rfl) z_len bt_len (da_cons (de_var 0) da_nil)) (de_callB cd_len (by rfl) z_len bt_len (da_cons (de_var 1) da_nil)))))) (dss_one (ds_ret de_bl)) dss_nil)
  (dss_one (ds_ret (de_callB (cd_all rfl) (by rfl) z_all bt_all (da_cons (de_lc (own := [("k", 2)]) rfl sc_law_like.nd (di_rng1 (by rfl) z_range (de_callB cd_len (by rfl) z_len bt_len (da_cons (de_var 1) da_nil))) (blkOk_by (N := n_law_like) (sc := (defScope s_law_like)) (by decide +kernel)) (fun _ _ _ _ _ => (dg_name 2 sc_law_like.nd (Or.inl rfl))) (fun _ _ _ _ _ => dts_nil) (fun _ _ _ _ _ => (de_call (k_law_like_1.up (by decide)) hr (by rfl) (da_cons (de_ix odx_ix (de_var 0) (de_var 2)) (da_cons (de_ix odx_ix (de_var 1) (de_var 2)) da_nil))))) da_nil))))) dss_nil)
  (dss_cons (ds_if (dt_val (de_isi (by rfl) z_isinstance (by rfl) z_str bt_str (de_var 1))) (dss_one (ds_ret (de_and (de_isi (by rfl) z_isinstance (by rfl) z_str bt_str (de_var 0)) (de_one (de_cmp (od_eq hr.units) (de_var 0) (de_var 1)))))) dss_nil)
  (dss_one (ds_ret (de_and (de_isi (by rfl) z_isinstance (by rfl) z_int bt_int (de_var 0)) (de_and (de_not (de_isi (by rfl) z_isinstance (by rfl) z_bool bt_bool (de_var 0))) (de_one (de_cmp (od_eq hr.units) (de_var 0) (de_var 1))))))))), (v_like 1)⟩
set_option maxHeartbeats 4000000 in
theorem ok_law_like_3 {f : Addr} {fd : FuncData} (F : Fun K "_law_like" "_law_like" s_law_like f fd) (k_law_like_2 : CalD P w K mg base 3 "_law_like" (m_like 2)) (z_isinstance : mg "isinstance" = none) (z_tuple : mg "tuple" = none) (z_len : mg "len" = none) (z_all : mg "all" = none) (z_range : mg "range" = none) (z_str : mg "str" = none) (z_int : mg "int" = none) (z_bool : mg "bool" = none) : FnOk P w K mg base CX0 4 f fd ["found", "due"] (spD K (m_like 3)) :=
  okD F sc_law_like (l_like 3) fun cdv A outer s H E hr => ⟨w_like (m_like 2),
  (dss_cons (ds_if (dt_val (de_isi (by rfl) z_isinstance (by rfl) z_tuple bt_tuple (de_var 1))) (dss_cons (ds_if (dt_w (dw_or (dt_not (dt_val (de_isi (by rfl) z_isinstance (by rfl) z_tuple bt_tuple (de_var 0)))) (dw_or1 (dt_cmp (od_ne hr.units) (de_callB cd_len (by rfl) z_len bt_len (da_cons (de_var 0) da_nil)) (de_callB cd_len (by rfl) z_len bt_len (da_cons (de_var 1) da_nil)))))) (dss_one (ds_ret de_bl)) dss_nil)
  (dss_one (ds_ret (de_callB (cd_all rfl) (by rfl) z_all bt_all (da_cons (de_lc (own := [("k", 2)]) rfl sc_law_like.nd (di_rng1 (by rfl) z_range (de_callB cd_len (by rfl) z_len bt_len (da_cons (de_var 1) da_nil))) (blkOk_by (N := n_law_like) (sc := (defScope s_law_like)) (by decide +kernel)) (fun _ _ _ _ _ => (dg_name 2 sc_law_like.nd (Or.inl rfl))) (fun _ _ _ _ _ => dts_nil) (fun _ _ _ _ _ => (de_call (k_law_like_2.up (by decide)) hr (by rfl) (da_cons (de_ix odx_ix (de_var 0) (de_var 2)) (da_cons (de_ix odx_ix (de_var 1) (de_var 2)) da_nil))))) da_nil))))) dss_nil)
  (dss_cons (ds_if (dt_val (de_isi (by rfl) z_isinstance (by rfl) z_str bt_str (de_var 1))) (dss_one (ds_ret (de_and (de_isi (by rfl) z_isinstance (by rfl) z_str bt_str (de_var 0)) (de_one (de_cmp (od_eq hr.units) (de_var 0) (de_var 1)))))) dss_nil)
  (dss_one (ds_ret (de_and (de_isi (by rfl) z_isinstance (by rfl) z_int bt_int (de_var 0)) (de_and (de_not (de_isi (by rfl) z_isinstance (by rfl) z_bool bt_bool (de_var 0))) (de_one (de_cmp (od_eq hr.units) (de_var 0) (de_var 1))))))))), (v_like 2)⟩
set_option maxHeartbeats 4000000 in
theorem ok_law_like_4 {f : Addr} {fd : FuncData} (F : Fun K "_law_like" "_law_like" s_law_like f fd) (k_law_like_3 : CalD P w K mg base 4 "_law_like" (m_like 3)) (z_isinstance : mg "isinstance" = none) (z_tuple : mg "tuple" = none) (z_len : mg "len" = none) (z_all : mg "all" = none) (z_range : mg "range" = none) (z_str : mg "str" = none) (z_int : mg "int" = none) (z_bool : mg "bool" = none) : FnOk P w K mg base CX0 5 f fd ["found", "due"] (spD K (m_like 4)) :=
  okD F sc_law_like (l_like 4) fun cdv A outer s H E hr => ⟨w_like (m_like 3),
  (dss_cons (ds_if (dt_val (de_isi (by rfl) z_isinstance (by rfl) z_tuple bt_tuple (de_var 1))) (dss_cons (ds_if (dt_w (dw_or (dt_not (dt_val (de_isi (by rfl) z_isinstance (by rfl) z_tuple bt_tuple (de_var 0)))) (dw_or1 (dt_cmp (od_ne hr.units) (de_callB cd_len (by rfl) z_len bt_len (da_cons (de_var 0) da_nil)) (de_callB cd_len (by rfl) z_len bt_len (da_cons (de_var 1) da_nil)))))) (dss_one (ds_ret de_bl)) dss_nil)
  (dss_one (ds_ret (de_callB (cd_all rfl) (by rfl) z_all bt_all (da_cons (de_lc (own := [("k", 2)]) rfl sc_law_like.nd (di_rng1 (by rfl) z_range (de_callB cd_len (by rfl) z_len bt_len (da_cons (de_var 1) da_nil))) (blkOk_by (N := n_law_like) (sc := (defScope s_law_like)) (by decide +kernel)) (fun _ _ _ _ _ => (dg_name 2 sc_law_like.nd (Or.inl rfl))) (fun _ _ _ _ _ => dts_nil) (fun _ _ _ _ _ => (de_call (k_law_like_3.up (by decide)) hr (by rfl) (da_cons (de_ix odx_ix (de_var 0) (de_var 2)) (da_cons (de_ix odx_ix (de_var 1) (de_var 2)) da_nil))))) da_nil))))) dss_nil)
  (dss_cons (ds_if (dt_val (de_isi (by rfl) z_isinstance (by rfl) z_str bt_str (de_var 1))) (dss_one (ds_ret (de_and (de_isi (by rfl) z_isinstance (by rfl) z_str bt_str (de_var 0)) (de_one (de_cmp (od_eq hr.units) (de_var 0) (de_var 1)))))) dss_nil)
  (dss_one (ds_ret (de_and (de_isi (by rfl) z_isinstance (by rfl) z_int bt_int (de_var 0)) (de_and (de_not (de_isi (by rfl) z_isinstance (by rfl) z_bool bt_bool (de_var 0))) (de_one (de_cmp (od_eq hr.units) (de_var 0) (de_var 1))))))))), (v_like 3)⟩
set_option maxHeartbeats 4000000 in
theorem ok_law_like_5 {f : Addr} {fd : FuncData} (F : Fun K "_law_like" "_law_like" s_law_like f fd) (k_law_like_4 : CalD P w K mg base 5 "_law_like" (m_like 4)) (z_isinstance : mg "isinstance" = none) (z_tuple : mg "tuple" = none) (z_len : mg "len" = none) (z_all : mg "all" = none) (z_range : mg "range" = none) (z_str : mg "str" = none) (z_int : mg "int" = none) (z_bool : mg "bool" = none) : FnOk P w K mg base CX0 6 f fd ["found", "due"] (spD K (m_like 5)) :=
  okD F sc_law_like (l_like 5) fun cdv A outer s H E hr => ⟨w_like (m_like 4),
  (dss_cons (ds_if (dt_val (de_isi (by rfl) z_isinstance (by rfl) z_tuple bt_tuple (de_var 1))) (dss_cons (ds_if (dt_w (dw_or (dt_not (dt_val (de_isi (by rfl) z_isinstance (by rfl) z_tuple bt_tuple (de_var 0)))) (dw_or1 (dt_cmp (od_ne hr.units) (de_callB cd_len (by rfl) z_len bt_len (da_cons (de_var 0) da_nil)) (de_callB cd_len (by rfl) z_len bt_len (da_cons (de_var 1) da_nil)))))) (dss_one (ds_ret de_bl)) dss_nil)
  (dss_one (ds_ret (de_callB (cd_all rfl) (by rfl) z_all bt_all (da_cons (de_lc (own := [("k", 2)]) rfl sc_law_like.nd (di_rng1 (by rfl) z_range (de_callB cd_len (by rfl) z_len bt_len (da_cons (de_var 1) da_nil))) (blkOk_by (N := n_law_like) (sc := (defScope s_law_like)) (by decide +kernel)) (fun _ _ _ _ _ => (dg_name 2 sc_law_like.nd (Or.inl rfl))) (fun _ _ _ _ _ => dts_nil) (fun _ _ _ _ _ => (de_call (k_law_like_4.up (by decide)) hr (by rfl) (da_cons (de_ix odx_ix (de_var 0) (de_var 2)) (da_cons (de_ix odx_ix (de_var 1) (de_var 2)) da_nil))))) da_nil))))) dss_nil)
  (dss_cons (ds_if (dt_val (de_isi (by rfl) z_isinstance (by rfl) z_str bt_str (de_var 1))) (dss_one (ds_ret (de_and (de_isi (by rfl) z_isinstance (by rfl) z_str bt_str (de_var 0)) (de_one (de_cmp (od_eq hr.units) (de_var 0) (de_var 1)))))) dss_nil)
  (dss_one (ds_ret (de_and (de_isi (by rfl) z_isinstance (by rfl) z_int bt_int (de_var 0)) (de_and (de_not (de_isi (by rfl) z_isinstance (by rfl) z_bool bt_bool (de_var 0))) (de_one (de_cmp (od_eq hr.units) (de_var 0) (de_var 1))))))))), (v_like 4)⟩
set_option maxHeartbeats 4000000 in
theorem ok_number_shown {f : Addr} {fd : FuncData} (F : Fun K "number_shown" "number_shown" s_number_shown f fd) (z_str : mg "str" = none) : FnOk P w K mg base CX0 1 f fd ["one"] (spD K m_number_shown) :=
  okD F sc_number_shown l_number_shown fun cdv A outer s H E hr => ⟨w_number_shown,
  (dss_cons (ds_if (dt_cmp (od_eq hr.units) (de_ix odx_ix (de_var 0) de_int) de_int) (dss_one (ds_ret (de_callTy cd_strI (by rfl) z_str bt_str (da_cons (de_ix odx_ix (de_var 0) de_int) da_nil)))) dss_nil)
  (dss_one (ds_ret (de_bin od_add (de_bin od_add (de_callTy cd_strI (by rfl) z_str bt_str (da_cons (de_ix odx_ix (de_var 0) de_int) da_nil)) de_str) (de_callTy cd_strI (by rfl) z_str bt_str (da_cons (de_ix odx_ix (de_var 0) de_int) da_nil)))))), v_number_shown⟩
set_option maxHeartbeats 4000000 in
theorem ok_table_shown {f : Addr} {fd : FuncData} (F : Fun K "table_shown" "table_shown" s_table_shown f fd) (k_number_shown : CalD P w K mg base 1 "number_shown" m_number_shown) (z_list : mg "list" = none) (z_zip : mg "zip" = none) : FnOk P w K mg base CX0 2 f fd ["table"] (spD K m_table_shown) :=
  okD F sc_table_shown l_table_shown fun cdv A outer s H E hr => ⟨w_table_shown m_number_shown,
  (dss_cons (ds_asg (vs := [1, 2, 3]) (de_var 0) (dg_tup rfl (dgs_cons (dg_name 1 sc_table_shown.nd (Or.inl rfl)) (dgs_cons (dg_name 2 sc_table_shown.nd (Or.inl rfl)) (dgs_cons (dg_name 3 sc_table_shown.nd (Or.inl rfl)) dgs_nil)))))
  (dss_cons (ds_set 4 sc_table_shown.nd (Or.inl rfl) (de_lstM (da_cons (de_join de_str (de_bin od_add (de_callTy cd_list (by rfl) z_list bt_list (da_cons (de_var 1) da_nil)) (de_lst (da_cons de_str da_nil)))) da_nil)))
  (dss_cons (ds_for (vs := [5, 6]) PassesOwn.never rfl (di_zip (by rfl) z_zip (da_cons (de_var 2) (da_cons (de_var 3) da_nil))) (dg_tup rfl (dgs_cons (dg_name 5 sc_table_shown.nd (Or.inl rfl)) (dgs_cons (dg_name 6 sc_table_shown.nd (Or.inl rfl)) dgs_nil))) (dss_one (ds_expr (de_append (de_var 4) (de_join de_str (de_bin od_add (de_lc (own := [("part", 7)]) rfl sc_table_shown.nd (di_seq (de_var 5)) (blkOk_by (N := n_table_shown) (sc := (defScope s_table_shown)) (by decide +kernel)) (fun _ _ _ _ _ => (dg_name 7 sc_table_shown.nd (Or.inl rfl))) (fun _ _ _ _ _ => dts_nil) (fun _ _ _ _ _ => (de_call (k_number_shown.up (by decide)) hr (by rfl) (da_cons (de_var 7) da_nil)))) (de_lst (da_cons de_str (da_cons (de_call (k_number_shown.up (by decide)) hr (by rfl) (da_cons (de_var 6) da_nil)) da_nil)))))))))
  (dss_one (ds_ret (de_fz (de_join de_str (de_var 4)))))))), v_table_shown⟩
set_option maxHeartbeats 4000000 in
theorem ok_law {f : Addr} {fd : FuncData} (F : Fun K "law" "law" s_law f fd) (k_law_deck : CalD P w K mg base 1 "_law_deck" m_law_deck) (k_law_table : CalD P w K mg base 37 "_law_table" m_law_table) (k_law_text : CalD P w K mg base 36 "_law_text" m_text08) (k_read_table : CalD P w K mg base 36 "read_table" m_read_table) (k_law_like_5 : CalD P w K mg base 6 "_law_like" (m_like 5)) (k_table_shown : CalD P w K mg base 2 "table_shown" m_table_shown) (z_range : mg "range" = none) (z_len : mg "len" = none) (z_isinstance : mg "isinstance" = none) (z_str : mg "str" = none) : FnOk P w K mg base CX0 38 f fd ["script"] (spD K m_law) :=
  okD F sc_law l_law fun cdv A outer s H E hr => ⟨w_law m_law_deck m_law_table m_text08 m_read_table (m_like 5) m_table_shown,
  (dss_cons (ds_set 1 sc_law.nd (Or.inl rfl) (de_call (k_law_deck.up (by decide)) hr (by rfl) (da_cons (de_var 0) da_nil)))
  (dss_cons (ds_for (vs := [2]) PassesOwn.never rfl (di_rng1 (by rfl) z_range de_int) (dg_name 2 sc_law.nd (Or.inl rfl)) (dss_cons (ds_set 3 sc_law.nd (Or.inl rfl) (de_call (k_law_table.up (by decide)) hr (by rfl) (da_cons (de_var 1) da_nil)))
  (dss_cons (ds_set 4 sc_law.nd (Or.inl rfl) (de_call (k_law_text.up (by decide)) hr (by rfl) (da_cons (de_var 1) (da_cons (de_var 3) (da_cons de_bl da_nil)))))
  (dss_cons (ds_for (vs := [5]) PassesOwn.never rfl (di_seq (de_lst (da_cons (de_var 4) (da_cons (de_call (k_law_text.up (by decide)) hr (by rfl) (da_cons (de_var 1) (da_cons (de_var 3) (da_cons de_bl da_nil)))) (da_cons (de_var 4) da_nil))))) (dg_name 5 sc_law.nd (Or.inl rfl)) (dss_one (ds_if (dt_w (dw_and (dt_cmp od_le (de_callB cd_len (by rfl) z_len bt_len (da_cons (de_var 5) da_nil)) de_int) (dw_and1 (dt_not (dt_val (de_call (k_law_like_5.up (by decide)) hr (by rfl) (da_cons (de_call (k_read_table.up (by decide)) hr (by rfl) (da_cons (de_var 5) da_nil)) (da_cons (de_var 3) da_nil)))))))) (dss_one (ds_ret de_bl)) dss_nil)))
  (dss_cons (ds_set 6 sc_law.nd (Or.inl rfl) (de_call (k_table_shown.up (by decide)) hr (by rfl) (da_cons (de_var 3) da_nil)))
  (dss_one (ds_if (dt_w (dw_or (dt_not (dt_val (de_isi (by rfl) z_isinstance (by rfl) z_str bt_str (de_var 6)))) (dw_or1 (dt_cmp (od_ne hr.units) (de_var 6) (de_var 4))))) (dss_one (ds_ret de_bl)) dss_nil)))))))
  (dss_one (ds_ret de_bl)))), v_law⟩
set_option maxHeartbeats 4000000 in
theorem all_mk {l : PySem.W.OpenLaw} {w : World} {K : PySem.W.Frag} {h : Heap} {mg : Str → Option Value} {fa f0 f1 f2 f3 f4 f5 f6 f7 f8 f9 f10 f11 f12 f13 f14 f15 f16 f17 f18 f19 f20 f21 f22 f23 f24 f25 f26 : Addr} (X : K.In h) (G : h.Ns mainGlobals mg) (hT : l.prog.given.tree = none) (hfa : mg "law" = some (.ref fa))
    {od0 an0 od1 an1 od2 an2 od3 an3 od4 an4 od5 an5 od6 an6 od7 an7 od8 an8 od9 an9 od10 an10 od11 an11 od12 an12 od13 an13 od14 an14 od15 an15 od16 an16 od17 an17 od18 an18 od19 an19 od20 an20 od21 an21 od22 an22 od23 an23 od24 an24 od25 an25 od26 an26 : Option Addr} {sl0 sl1 sl2 sl3 sl4 sl5 sl6 sl7 sl8 sl9 sl10 sl11 sl12 sl13 sl14 sl15 sl16 sl17 sl18 sl19 sl20 sl21 sl22 sl23 sl24 sl25 sl26 : Array (Option Value)} {oc0 kV0 dc0 pm0 cd0 ct0 oc1 kV1 dc1 pm1 cd1 ct1 oc2 kV2 dc2 pm2 cd2 ct2 oc3 kV3 dc3 pm3 cd3 ct3 oc4 kV4 dc4 pm4 cd4 ct4 oc5 kV5 dc5 pm5 cd5 ct5 oc6 kV6 dc6 pm6 cd6 ct6 oc7 kV7 dc7 pm7 cd7 ct7 oc8 kV8 dc8 pm8 cd8 ct8 oc9 kV9 dc9 pm9 cd9 ct9 oc10 kV10 dc10 pm10 cd10 ct10 oc11 kV11 dc11 pm11 cd11 ct11 oc12 kV12 dc12 pm12 cd12 ct12 oc13 kV13 dc13 pm13 cd13 ct13 oc14 kV14 dc14 pm14 cd14 ct14 oc15 kV15 dc15 pm15 cd15 ct15 oc16 kV16 dc16 pm16 cd16 ct16 oc17 kV17 dc17 pm17 cd17 ct17 oc18 kV18 dc18 pm18 cd18 ct18 oc19 kV19 dc19 pm19 cd19 ct19 oc20 kV20 dc20 pm20 cd20 ct20 oc21 kV21 dc21 pm21 cd21 ct21 oc22 kV22 dc22 pm22 cd22 ct22 oc23 kV23 dc23 pm23 cd23 ct23 oc24 kV24 dc24 pm24 cd24 ct24 oc25 kV25 dc25 pm25 cd25 ct25 oc26 kV26 dc26 pm26 cd26 ct26 : Value} {gt0 : Tok} {gt1 : Tok} {gt2 : Tok}
    (a0 : PySem.W.nsIn K mainGlobals "_law_deck" = some (some (.ref f0))) (l0 : K.lookup f0 = some ⟨oc0, od0, .func (PySem.W.fnOf "_law_deck" "_law_deck" (defArgs s_law_deck) (defBody s_law_deck) (defScope s_law_deck) .none kV0 dc0 pm0 an0 cd0 ct0), sl0⟩) (c0 : PySem.W.codeIn K cd0 "_law_deck" = true) (k0 : PySem.W.keepIn K (.ref f0) = true)
    (a1 : PySem.W.nsIn K mainGlobals "_law_mix" = some (some (.ref f1))) (l1 : K.lookup f1 = some ⟨oc1, od1, .func (PySem.W.fnOf "_law_mix" "_law_mix" (defArgs s_law_mix) (defBody s_law_mix) (defScope s_law_mix) .none kV1 dc1 pm1 an1 cd1 ct1), sl1⟩) (c1 : PySem.W.codeIn K cd1 "_law_mix" = true) (k1 : PySem.W.keepIn K (.ref f1) = true)
    (a2 : PySem.W.nsIn K mainGlobals "_law_next" = some (some (.ref f2))) (l2 : K.lookup f2 = some ⟨oc2, od2, .func (PySem.W.fnOf "_law_next" "_law_next" (defArgs s_law_next) (defBody s_law_next) (defScope s_law_next) .none kV2 dc2 pm2 an2 cd2 ct2), sl2⟩) (c2 : PySem.W.codeIn K cd2 "_law_next" = true) (k2 : PySem.W.keepIn K (.ref f2) = true)
    (a3 : PySem.W.nsIn K mainGlobals "_law_names" = some (some (.ref f3))) (l3 : K.lookup f3 = some ⟨oc3, od3, .func (PySem.W.fnOf "_law_names" "_law_names" (defArgs s_law_names) (defBody s_law_names) (defScope s_law_names) .none kV3 dc3 pm3 an3 cd3 ct3), sl3⟩) (c3 : PySem.W.codeIn K cd3 "_law_names" = true) (k3 : PySem.W.keepIn K (.ref f3) = true)
    (a4 : PySem.W.nsIn K mainGlobals "_law_f" = some (some (.ref f4))) (l4 : K.lookup f4 = some ⟨oc4, od4, .func (PySem.W.fnOf "_law_f" "_law_f" (defArgs s_law_f) (defBody s_law_f) (defScope s_law_f) .none kV4 dc4 pm4 an4 cd4 ct4), sl4⟩) (c4 : PySem.W.codeIn K cd4 "_law_f" = true) (k4 : PySem.W.keepIn K (.ref f4) = true)
    (a5 : PySem.W.nsIn K mainGlobals "_law_great" = some (some (.ref f5))) (l5 : K.lookup f5 = some ⟨oc5, od5, .func (PySem.W.fnOf "_law_great" "_law_great" (defArgs s_law_great) (defBody s_law_great) (defScope s_law_great) .none kV5 dc5 pm5 an5 cd5 ct5), sl5⟩) (c5 : PySem.W.codeIn K cd5 "_law_great" = true) (k5 : PySem.W.keepIn K (.ref f5) = true)
    (a6 : PySem.W.nsIn K mainGlobals "_law_fraction" = some (some (.ref f6))) (l6 : K.lookup f6 = some ⟨oc6, od6, .func (PySem.W.fnOf "_law_fraction" "_law_fraction" (defArgs s_law_fraction) (defBody s_law_fraction) (defScope s_law_fraction) .none kV6 dc6 pm6 an6 cd6 ct6), sl6⟩) (c6 : PySem.W.codeIn K cd6 "_law_fraction" = true) (k6 : PySem.W.keepIn K (.ref f6) = true)
    (a7 : PySem.W.nsIn K mainGlobals "_law_table" = some (some (.ref f7))) (l7 : K.lookup f7 = some ⟨oc7, od7, .func (PySem.W.fnOf "_law_table" "_law_table" (defArgs s_law_table) (defBody s_law_table) (defScope s_law_table) .none kV7 dc7 pm7 an7 cd7 ct7), sl7⟩) (c7 : PySem.W.codeIn K cd7 "_law_table" = true) (k7 : PySem.W.keepIn K (.ref f7) = true)
    (a8 : PySem.W.nsIn K mainGlobals "_law_word" = some (some (.ref f8))) (l8 : K.lookup f8 = some ⟨oc8, od8, .func (PySem.W.fnOf "_law_word" "_law_word" (defArgs s_law_word) (defBody s_law_word) (defScope s_law_word) .none kV8 dc8 pm8 an8 cd8 ct8), sl8⟩) (c8 : PySem.W.codeIn K cd8 "_law_word" = true) (k8 : PySem.W.keepIn K (.ref f8) = true)
    (a9 : PySem.W.nsIn K mainGlobals "_law_text" = some (some (.ref f9))) (l9 : K.lookup f9 = some ⟨oc9, od9, .func (PySem.W.fnOf "_law_text" "_law_text" (defArgs s_law_text) (defBody s_law_text) (defScope s_law_text) .none kV9 dc9 pm9 an9 cd9 ct9), sl9⟩) (c9 : PySem.W.codeIn K cd9 "_law_text" = true) (k9 : PySem.W.keepIn K (.ref f9) = true)
    (a10 : PySem.W.nsIn K mainGlobals "is_name" = some (some (.ref f10))) (l10 : K.lookup f10 = some ⟨oc10, od10, .func (PySem.W.fnOf "is_name" "is_name" (defArgs s_is_name) (defBody s_is_name) (defScope s_is_name) .none kV10 dc10 pm10 an10 cd10 ct10), sl10⟩) (c10 : PySem.W.codeIn K cd10 "is_name" = true) (k10 : PySem.W.keepIn K (.ref f10) = true)
    (a11 : PySem.W.nsIn K mainGlobals "head_read" = some (some (.ref f11))) (l11 : K.lookup f11 = some ⟨oc11, od11, .func (PySem.W.fnOf "head_read" "head_read" (defArgs s_head_read) (defBody s_head_read) (defScope s_head_read) .none kV11 dc11 pm11 an11 cd11 ct11), sl11⟩) (c11 : PySem.W.codeIn K cd11 "head_read" = true) (k11 : PySem.W.keepIn K (.ref f11) = true)
    (a12 : PySem.W.nsIn K mainGlobals "figures_told" = some (some (.ref f12))) (l12 : K.lookup f12 = some ⟨oc12, od12, .func (PySem.W.fnOf "figures_told" "figures_told" (defArgs s_figures_told) (defBody s_figures_told) (defScope s_figures_told) .none kV12 dc12 pm12 an12 cd12 ct12), sl12⟩) (c12 : PySem.W.codeIn K cd12 "figures_told" = true) (k12 : PySem.W.keepIn K (.ref f12) = true)
    (a13 : PySem.W.nsIn K mainGlobals "divisor" = some (some (.ref f13))) (l13 : K.lookup f13 = some ⟨oc13, od13, .func (PySem.W.fnOf "divisor" "divisor" (defArgs s_divisor) (defBody s_divisor) (defScope s_divisor) .none kV13 dc13 pm13 an13 cd13 ct13), sl13⟩) (c13 : PySem.W.codeIn K cd13 "divisor" = true) (k13 : PySem.W.keepIn K (.ref f13) = true)
    (a14 : PySem.W.nsIn K mainGlobals "fraction" = some (some (.ref f14))) (l14 : K.lookup f14 = some ⟨oc14, od14, .func (PySem.W.fnOf "fraction" "fraction" (defArgs s_fraction) (defBody s_fraction) (defScope s_fraction) .none kV14 dc14 pm14 an14 cd14 ct14), sl14⟩) (c14 : PySem.W.codeIn K cd14 "fraction" = true) (k14 : PySem.W.keepIn K (.ref f14) = true)
    (a15 : PySem.W.nsIn K mainGlobals "read_number" = some (some (.ref f15))) (l15 : K.lookup f15 = some ⟨oc15, od15, .func (PySem.W.fnOf "read_number" "read_number" (defArgs s_read_number) (defBody s_read_number) (defScope s_read_number) .none kV15 dc15 pm15 an15 cd15 ct15), sl15⟩) (c15 : PySem.W.codeIn K cd15 "read_number" = true) (k15 : PySem.W.keepIn K (.ref f15) = true)
    (a16 : PySem.W.nsIn K mainGlobals "row_read" = some (some (.ref f16))) (l16 : K.lookup f16 = some ⟨oc16, od16, .func (PySem.W.fnOf "row_read" "row_read" (defArgs s_row_read) (defBody s_row_read) (defScope s_row_read) .none kV16 dc16 pm16 an16 cd16 ct16), sl16⟩) (c16 : PySem.W.codeIn K cd16 "row_read" = true) (k16 : PySem.W.keepIn K (.ref f16) = true)
    (a17 : PySem.W.nsIn K mainGlobals "read_table" = some (some (.ref f17))) (l17 : K.lookup f17 = some ⟨oc17, od17, .func (PySem.W.fnOf "read_table" "read_table" (defArgs s_read_table) (defBody s_read_table) (defScope s_read_table) .none kV17 dc17 pm17 an17 cd17 ct17), sl17⟩) (c17 : PySem.W.codeIn K cd17 "read_table" = true) (k17 : PySem.W.keepIn K (.ref f17) = true)
    (a18 : PySem.W.nsIn K mainGlobals "_law_like" = some (some (.ref f18))) (l18 : K.lookup f18 = some ⟨oc18, od18, .func (PySem.W.fnOf "_law_like" "_law_like" (defArgs s_law_like) (defBody s_law_like) (defScope s_law_like) .none kV18 dc18 pm18 an18 cd18 ct18), sl18⟩) (c18 : PySem.W.codeIn K cd18 "_law_like" = true) (k18 : PySem.W.keepIn K (.ref f18) = true)
    (a19 : PySem.W.nsIn K mainGlobals "_law_like" = some (some (.ref f19))) (l19 : K.lookup f19 = some ⟨oc19, od19, .func (PySem.W.fnOf "_law_like" "_law_like" (defArgs s_law_like) (defBody s_law_like) (defScope s_law_like) .none kV19 dc19 pm19 an19 cd19 ct19), sl19⟩) (c19 : PySem.W.codeIn K cd19 "_law_like" = true) (k19 : PySem.W.keepIn K (.ref f19) = true)
    (a20 : PySem.W.nsIn K mainGlobals "_law_like" = some (some (.ref f20))) (l20 : K.lookup f20 = some ⟨oc20, od20, .func (PySem.W.fnOf "_law_like" "_law_like" (defArgs s_law_like) (defBody s_law_like) (defScope s_law_like) .none kV20 dc20 pm20 an20 cd20 ct20), sl20⟩) (c20 : PySem.W.codeIn K cd20 "_law_like" = true) (k20 : PySem.W.keepIn K (.ref f20) = true)
    (a21 : PySem.W.nsIn K mainGlobals "_law_like" = some (some (.ref f21))) (l21 : K.lookup f21 = some ⟨oc21, od21, .func (PySem.W.fnOf "_law_like" "_law_like" (defArgs s_law_like) (defBody s_law_like) (defScope s_law_like) .none kV21 dc21 pm21 an21 cd21 ct21), sl21⟩) (c21 : PySem.W.codeIn K cd21 "_law_like" = true) (k21 : PySem.W.keepIn K (.ref f21) = true)
    (a22 : PySem.W.nsIn K mainGlobals "_law_like" = some (some (.ref f22))) (l22 : K.lookup f22 = some ⟨oc22, od22, .func (PySem.W.fnOf "_law_like" "_law_like" (defArgs s_law_like) (defBody s_law_like) (defScope s_law_like) .none kV22 dc22 pm22 an22 cd22 ct22), sl22⟩) (c22 : PySem.W.codeIn K cd22 "_law_like" = true) (k22 : PySem.W.keepIn K (.ref f22) = true)
    (a23 : PySem.W.nsIn K mainGlobals "_law_like" = some (some (.ref f23))) (l23 : K.lookup f23 = some ⟨oc23, od23, .func (PySem.W.fnOf "_law_like" "_law_like" (defArgs s_law_like) (defBody s_law_like) (defScope s_law_like) .none kV23 dc23 pm23 an23 cd23 ct23), sl23⟩) (c23 : PySem.W.codeIn K cd23 "_law_like" = true) (k23 : PySem.W.keepIn K (.ref f23) = true)
    (a24 : PySem.W.nsIn K mainGlobals "number_shown" = some (some (.ref f24))) (l24 : K.lookup f24 = some ⟨oc24, od24, .func (PySem.W.fnOf "number_shown" "number_shown" (defArgs s_number_shown) (defBody s_number_shown) (defScope s_number_shown) .none kV24 dc24 pm24 an24 cd24 ct24), sl24⟩) (c24 : PySem.W.codeIn K cd24 "number_shown" = true) (k24 : PySem.W.keepIn K (.ref f24) = true)
    (a25 : PySem.W.nsIn K mainGlobals "table_shown" = some (some (.ref f25))) (l25 : K.lookup f25 = some ⟨oc25, od25, .func (PySem.W.fnOf "table_shown" "table_shown" (defArgs s_table_shown) (defBody s_table_shown) (defScope s_table_shown) .none kV25 dc25 pm25 an25 cd25 ct25), sl25⟩) (c25 : PySem.W.codeIn K cd25 "table_shown" = true) (k25 : PySem.W.keepIn K (.ref f25) = true)
    (a26 : PySem.W.nsIn K mainGlobals "law" = some (some (.ref f26))) (l26 : K.lookup f26 = some ⟨oc26, od26, .func (PySem.W.fnOf "law" "law" (defArgs s_law) (defBody s_law) (defScope s_law) .none kV26 dc26 pm26 an26 cd26 ct26), sl26⟩) (c26 : PySem.W.codeIn K cd26 "law" = true) (k26 : PySem.W.keepIn K (.ref f26) = true)
    (ga0_ : PySem.W.nsIn K mainGlobals "FIGURES" = some (some (.str "0123456789" gt0)))
    (ga1_ : PySem.W.nsIn K mainGlobals "LETTERS" = some (some (.str "abcdefghijklmnopqrstuvwxyz" gt1)))
    (ga2_ : PySem.W.nsIn K mainGlobals "LONGEST" = some (some (.int 8 gt2))) (z_sum_ : PySem.W.nsIn K mainGlobals "sum" = some none) (z_len_ : PySem.W.nsIn K mainGlobals "len" = some none) (z_range_ : PySem.W.nsIn K mainGlobals "range" = some none) (z_tuple_ : PySem.W.nsIn K mainGlobals "tuple" = some none) (z_abs_ : PySem.W.nsIn K mainGlobals "abs" = some none) (z_max_ : PySem.W.nsIn K mainGlobals "max" = some none) (z_str_ : PySem.W.nsIn K mainGlobals "str" = some none) (z_list_ : PySem.W.nsIn K mainGlobals "list" = some none) (z_zip_ : PySem.W.nsIn K mainGlobals "zip" = some none) (z_all_ : PySem.W.nsIn K mainGlobals "all" = some none) (z_enumerate_ : PySem.W.nsIn K mainGlobals "enumerate" = some none) (z_int_ : PySem.W.nsIn K mainGlobals "int" = some none) (z_isinstance_ : PySem.W.nsIn K mainGlobals "isinstance" = some none) (z_bool_ : PySem.W.nsIn K mainGlobals "bool" = some none) :
    ∃ fd : FuncData, (∀ (s : Shared) (v : Value), BindsTo s fd ⟨[v], []⟩ [("script", v)]) ∧ ∀ base : Heap, K.In base → base.Ns mainGlobals mg → base.NoSeer → FnOk l.prog w K mg base CX0 38 fa fd ["script"] (spD K m_law) := by
  have e := hfa.symm.trans (PySem.W.mg_of X G a26)
  cases e
  refine ⟨PySem.W.fnOf "law" "law" (defArgs s_law) (defBody s_law) (defScope s_law) .none kV26 dc26 pm26 an26 cd26 ct26, fun s v => .of_eq rfl, fun base _ _ hN => ?_⟩
  have z_sum := PySem.W.mg_none_of X G z_sum_
  have z_len := PySem.W.mg_none_of X G z_len_
  have z_range := PySem.W.mg_none_of X G z_range_
  have z_tuple := PySem.W.mg_none_of X G z_tuple_
  have z_abs := PySem.W.mg_none_of X G z_abs_
  have z_max := PySem.W.mg_none_of X G z_max_
  have z_str := PySem.W.mg_none_of X G z_str_
  have z_list := PySem.W.mg_none_of X G z_list_
  have z_zip := PySem.W.mg_none_of X G z_zip_
  have z_all := PySem.W.mg_none_of X G z_all_
  have z_enumerate := PySem.W.mg_none_of X G z_enumerate_
  have z_int := PySem.W.mg_none_of X G z_int_
  have z_isinstance := PySem.W.mg_none_of X G z_isinstance_
  have z_bool := PySem.W.mg_none_of X G z_bool_
  have g_FIGURES : GlobD K mg "FIGURES" c_FIGURES := glob_str (PySem.W.mg_of X G ga0_)
  have g_LETTERS : GlobD K mg "LETTERS" c_LETTERS := glob_str (PySem.W.mg_of X G ga1_)
  have g_LONGEST : GlobD K mg "LONGEST" c_LONGEST := glob_int (PySem.W.mg_of X G ga2_)
  have F0 := fun_mk (st := s_law_deck) l0 c0 k0
  have b0 := F0.binds (ps := ["script"]) fun _ _ _ _ _ _ us hl => match us, hl with | [_], _ => rfl
  have k_law_deck : CalD l.prog w K mg base 1 "_law_deck" m_law_deck := calD F0 (PySem.W.mg_of X G a0) b0 (ok_law_deck F0 z_sum)
  have F1 := fun_mk (st := s_law_mix) l1 c1 k1
  have b1 := F1.binds (ps := ["cell", "k"]) fun _ _ _ _ _ _ us hl => match us, hl with | [_, _], _ => rfl
  have k_law_mix : CalD l.prog w K mg base 33 "_law_mix" m_law_mix := calD F1 (PySem.W.mg_of X G a1) b1 (ok_law_mix F1 hN hT)
  have F2 := fun_mk (st := s_law_next) l2 c2 k2
  have b2 := F2.binds (ps := ["deck", "many"]) fun _ _ _ _ _ _ us hl => match us, hl with | [_, _], _ => rfl
  have k_law_next : CalD l.prog w K mg base 34 "_law_next" m_law_next := calD F2 (PySem.W.mg_of X G a2) b2 (ok_law_next F2 k_law_mix z_len hN hT)
  have F3 := fun_mk (st := s_law_names) l3 c3 k3
  have b3 := F3.binds (ps := ["deck", "many"]) fun _ _ _ _ _ _ us hl => match us, hl with | [_, _], _ => rfl
  have k_law_names : CalD l.prog w K mg base 35 "_law_names" m_law_names := calD F3 (PySem.W.mg_of X G a3) b3 (ok_law_names F3 k_law_next z_range z_tuple)
  have F4 := fun_mk (st := s_law_f) l4 c4 k4
  have b4 := F4.binds (ps := ["top", "under"]) fun _ _ _ _ _ _ us hl => match us, hl with | [_, _], _ => rfl
  have k_law_f : CalD l.prog w K mg base 33 "_law_f" m_law_f := calD F4 (PySem.W.mg_of X G a4) b4 (ok_law_f F4 z_abs hN hT)
  have F5 := fun_mk (st := s_law_great) l5 c5 k5
  have b5 := F5.binds (ps := ["deck"]) fun _ _ _ _ _ _ us hl => match us, hl with | [_], _ => rfl
  have k_law_great : CalD l.prog w K mg base 35 "_law_great" m_law_great := calD F5 (PySem.W.mg_of X G a5) b5 (ok_law_great F5 k_law_next hN hT)
  have F6 := fun_mk (st := s_law_fraction) l6 c6 k6
  have b6 := F6.binds (ps := ["deck", "most"]) fun _ _ _ _ _ _ us hl => match us, hl with | [_, _], _ => rfl
  have k_law_fraction : CalD l.prog w K mg base 36 "_law_fraction" m_law_fraction := calD F6 (PySem.W.mg_of X G a6) b6 (ok_law_fraction F6 k_law_next k_law_f k_law_great z_max)
  have F7 := fun_mk (st := s_law_table) l7 c7 k7
  have b7 := F7.binds (ps := ["deck"]) fun _ _ _ _ _ _ us hl => match us, hl with | [_], _ => rfl
  have k_law_table : CalD l.prog w K mg base 37 "_law_table" m_law_table := calD F7 (PySem.W.mg_of X G a7) b7 (ok_law_table F7 k_law_next k_law_names k_law_fraction z_range z_tuple)
  have F8 := fun_mk (st := s_law_word) l8 c8 k8
  have b8 := F8.binds (ps := ["deck", "number", "plain"]) fun _ _ _ _ _ _ us hl => match us, hl with | [_, _, _], _ => rfl
  have k_law_word : CalD l.prog w K mg base 35 "_law_word" m_word08 := calD F8 (PySem.W.mg_of X G a8) b8 (ok_law_word F8 k_law_next z_max z_abs z_str)
  have F9 := fun_mk (st := s_law_text) l9 c9 k9
  have b9 := F9.binds (ps := ["deck", "table", "plain"]) fun _ _ _ _ _ _ us hl => match us, hl with | [_, _, _], _ => rfl
  have k_law_text : CalD l.prog w K mg base 36 "_law_text" m_text08 := calD F9 (PySem.W.mg_of X G a9) b9 (ok_law_text F9 k_law_word z_list z_zip)
  have F10 := fun_mk (st := s_is_name) l10 c10 k10
  have b10 := F10.binds (ps := ["word"]) fun _ _ _ _ _ _ us hl => match us, hl with | [_], _ => rfl
  have k_is_name : CalD l.prog w K mg base 1 "is_name" m_is_name := calD F10 (PySem.W.mg_of X G a10) b10 (ok_is_name F10 g_LONGEST g_LETTERS z_len z_all)
  have F11 := fun_mk (st := s_head_read) l11 c11 k11
  have b11 := F11.binds (ps := ["line"]) fun _ _ _ _ _ _ us hl => match us, hl with | [_], _ => rfl
  have k_head_read : CalD l.prog w K mg base 2 "head_read" m_head_read := calD F11 (PySem.W.mg_of X G a11) b11 (ok_head_read F11 k_is_name z_enumerate z_tuple)
  have F12 := fun_mk (st := s_figures_told) l12 c12 k12
  have b12 := F12.binds (ps := ["text"]) fun _ _ _ _ _ _ us hl => match us, hl with | [_], _ => rfl
  have k_figures_told : CalD l.prog w K mg base 1 "figures_told" m_figures_told := calD F12 (PySem.W.mg_of X G a12) b12 (ok_figures_told F12 g_FIGURES z_int)
  have F13 := fun_mk (st := s_divisor) l13 c13 k13
  have b13 := F13.binds (ps := ["one", "other"]) fun _ _ _ _ _ _ us hl => match us, hl with | [_, _], _ => rfl
  have k_divisor : CalD l.prog w K mg base 1 "divisor" m_divisor := calD F13 (PySem.W.mg_of X G a13) b13 (ok_divisor F13)
  have F14 := fun_mk (st := s_fraction) l14 c14 k14
  have b14 := F14.binds (ps := ["top", "below"]) fun _ _ _ _ _ _ us hl => match us, hl with | [_, _], _ => rfl
  have k_fraction : CalD l.prog w K mg base 33 "fraction" m_fraction := calD F14 (PySem.W.mg_of X G a14) b14 (ok_fraction F14 k_divisor z_abs hN hT)
  have F15 := fun_mk (st := s_read_number) l15 c15 k15
  have b15 := F15.binds (ps := ["text"]) fun _ _ _ _ _ _ us hl => match us, hl with | [_], _ => rfl
  have k_read_number : CalD l.prog w K mg base 34 "read_number" m_read_number := calD F15 (PySem.W.mg_of X G a15) b15 (ok_read_number F15 k_figures_told k_fraction z_int z_len)
  have F16 := fun_mk (st := s_row_read) l16 c16 k16
  have b16 := F16.binds (ps := ["line", "many", "place"]) fun _ _ _ _ _ _ us hl => match us, hl with | [_, _, _], _ => rfl
  have k_row_read : CalD l.prog w K mg base 35 "row_read" m_row_read := calD F16 (PySem.W.mg_of X G a16) b16 (ok_row_read F16 k_read_number z_len z_tuple)
  have F17 := fun_mk (st := s_read_table) l17 c17 k17
  have b17 := F17.binds (ps := ["text"]) fun _ _ _ _ _ _ us hl => match us, hl with | [_], _ => rfl
  have k_read_table : CalD l.prog w K mg base 36 "read_table" m_read_table := calD F17 (PySem.W.mg_of X G a17) b17 (ok_read_table F17 k_head_read k_row_read z_range z_len z_tuple)
  have F18 := fun_mk (st := s_law_like) l18 c18 k18
  have b18 := F18.binds (ps := ["found", "due"]) fun _ _ _ _ _ _ us hl => match us, hl with | [_, _], _ => rfl
  have k_law_like_0 : CalD l.prog w K mg base 1 "_law_like" (m_like 0) := calD F18 (PySem.W.mg_of X G a18) b18 (okVoid void_like)
  have F19 := fun_mk (st := s_law_like) l19 c19 k19
  have b19 := F19.binds (ps := ["found", "due"]) fun _ _ _ _ _ _ us hl => match us, hl with | [_, _], _ => rfl
  have k_law_like_1 : CalD l.prog w K mg base 2 "_law_like" (m_like 1) := calD F19 (PySem.W.mg_of X G a19) b19 (ok_law_like_1 F19 k_law_like_0 z_isinstance z_tuple z_len z_all z_range z_str z_int z_bool)
  have F20 := fun_mk (st := s_law_like) l20 c20 k20
  have b20 := F20.binds (ps := ["found", "due"]) fun _ _ _ _ _ _ us hl => match us, hl with | [_, _], _ => rfl
  have k_law_like_2 : CalD l.prog w K mg base 3 "_law_like" (m_like 2) := calD F20 (PySem.W.mg_of X G a20) b20 (ok_law_like_2 F20 k_law_like_1 z_isinstance z_tuple z_len z_all z_range z_str z_int z_bool)
  have F21 := fun_mk (st := s_law_like) l21 c21 k21
  have b21 := F21.binds (ps := ["found", "due"]) fun _ _ _ _ _ _ us hl => match us, hl with | [_, _], _ => rfl
  have k_law_like_3 : CalD l.prog w K mg base 4 "_law_like" (m_like 3) := calD F21 (PySem.W.mg_of X G a21) b21 (ok_law_like_3 F21 k_law_like_2 z_isinstance z_tuple z_len z_all z_range z_str z_int z_bool)
  have F22 := fun_mk (st := s_law_like) l22 c22 k22
  have b22 := F22.binds (ps := ["found", "due"]) fun _ _ _ _ _ _ us hl => match us, hl with | [_, _], _ => rfl
  have k_law_like_4 : CalD l.prog w K mg base 5 "_law_like" (m_like 4) := calD F22 (PySem.W.mg_of X G a22) b22 (ok_law_like_4 F22 k_law_like_3 z_isinstance z_tuple z_len z_all z_range z_str z_int z_bool)
  have F23 := fun_mk (st := s_law_like) l23 c23 k23
  have b23 := F23.binds (ps := ["found", "due"]) fun _ _ _ _ _ _ us hl => match us, hl with | [_, _], _ => rfl
  have k_law_like_5 : CalD l.prog w K mg base 6 "_law_like" (m_like 5) := calD F23 (PySem.W.mg_of X G a23) b23 (ok_law_like_5 F23 k_law_like_4 z_isinstance z_tuple z_len z_all z_range z_str z_int z_bool)
  have F24 := fun_mk (st := s_number_shown) l24 c24 k24
  have b24 := F24.binds (ps := ["one"]) fun _ _ _ _ _ _ us hl => match us, hl with | [_], _ => rfl
  have k_number_shown : CalD l.prog w K mg base 1 "number_shown" m_number_shown := calD F24 (PySem.W.mg_of X G a24) b24 (ok_number_shown F24 z_str)
  have F25 := fun_mk (st := s_table_shown) l25 c25 k25
  have b25 := F25.binds (ps := ["table"]) fun _ _ _ _ _ _ us hl => match us, hl with | [_], _ => rfl
  have k_table_shown : CalD l.prog w K mg base 2 "table_shown" m_table_shown := calD F25 (PySem.W.mg_of X G a25) b25 (ok_table_shown F25 k_number_shown z_list z_zip)
  have F26 := fun_mk (st := s_law) l26 c26 k26
  exact ok_law F26 k_law_deck k_law_table k_law_text k_read_table k_law_like_5 k_table_shown z_range z_len z_isinstance z_str
end
end ND
set_option Elab.async false
set_option maxRecDepth 100000
open PySem PySem.W PyProof.Rows
set_option maxHeartbeats 0 in
theorem PySem.Challenge.cw_nearlaid_k08_read_table_holds : PySem.Challenge.rw_nearlaid_k08_read_table.Holds := by
  w_on; o_law; k_head; (case hw => w_witness2)
  k_fill
  refine ND.walkP (l := PySem.Challenge.rw_nearlaid_k08_read_table) (n := 63) (k := 38) (x := "script") (sp := fun w => ND.spD _ (ND.mLaw 63)) rfl (by decide) rfl ⟨rfl, by decide, by decide⟩ (by decide +kernel) (fun w h Y => PySem.W.kIn_of Y) ?F (fun _ _ a ns hl hS => ND.law_sp hl hS)
  case F =>
    intro w mg fa h KX G hmg
    refine' ND.all_mk KX G rfl hmg ?a0 ?l0 ?c0 ?k0 ?a1 ?l1 ?c1 ?k1 ?a2 ?l2 ?c2 ?k2 ?a3 ?l3 ?c3 ?k3 ?a4 ?l4 ?c4 ?k4 ?a5 ?l5 ?c5 ?k5 ?a6 ?l6 ?c6 ?k6 ?a7 ?l7 ?c7 ?k7 ?a8 ?l8 ?c8 ?k8 ?a9 ?l9 ?c9 ?k9 ?a10 ?l10 ?c10 ?k10 ?a11 ?l11 ?c11 ?k11 ?a12 ?l12 ?c12 ?k12 ?a13 ?l13 ?c13 ?k13 ?a14 ?l14 ?c14 ?k14 ?a15 ?l15 ?c15 ?k15 ?a16 ?l16 ?c16 ?k16 ?a17 ?l17 ?c17 ?k17 ?a18 ?l18 ?c18 ?k18 ?a19 ?l19 ?c19 ?k19 ?a20 ?l20 ?c20 ?k20 ?a21 ?l21 ?c21 ?k21 ?a22 ?l22 ?c22 ?k22 ?a23 ?l23 ?c23 ?k23 ?a24 ?l24 ?c24 ?k24 ?a25 ?l25 ?c25 ?k25 ?a26 ?l26 ?c26 ?k26 ?ga0_ ?ga1_ ?ga2_ ?z_sum_ ?z_len_ ?z_range_ ?z_tuple_ ?z_abs_ ?z_max_ ?z_str_ ?z_list_ ?z_zip_ ?z_all_ ?z_enumerate_ ?z_int_ ?z_isinstance_ ?z_bool_
    (case a0 => k_is); (case l0 => k_is); (case c0 => k_is); (case k0 => k_is); (case a1 => k_is); (case l1 => k_is); (case c1 => k_is); (case k1 => k_is); (case a2 => k_is); (case l2 => k_is); (case c2 => k_is); (case k2 => k_is); (case a3 => k_is); (case l3 => k_is); (case c3 => k_is); (case k3 => k_is); (case a4 => k_is); (case l4 => k_is); (case c4 => k_is); (case k4 => k_is); (case a5 => k_is); (case l5 => k_is); (case c5 => k_is); (case k5 => k_is); (case a6 => k_is); (case l6 => k_is); (case c6 => k_is); (case k6 => k_is); (case a7 => k_is); (case l7 => k_is); (case c7 => k_is); (case k7 => k_is); (case a8 => k_is); (case l8 => k_is); (case c8 => k_is); (case k8 => k_is); (case a9 => k_is); (case l9 => k_is); (case c9 => k_is); (case k9 => k_is); (case a10 => k_is); (case l10 => k_is); (case c10 => k_is); (case k10 => k_is); (case a11 => k_is); (case l11 => k_is); (case c11 => k_is); (case k11 => k_is); (case a12 => k_is); (case l12 => k_is); (case c12 => k_is); (case k12 => k_is); (case a13 => k_is); (case l13 => k_is); (case c13 => k_is); (case k13 => k_is); (case a14 => k_is); (case l14 => k_is); (case c14 => k_is); (case k14 => k_is); (case a15 => k_is); (case l15 => k_is); (case c15 => k_is); (case k15 => k_is); (case a16 => k_is); (case l16 => k_is); (case c16 => k_is); (case k16 => k_is); (case a17 => k_is); (case l17 => k_is); (case c17 => k_is); (case k17 => k_is); (case a18 => k_is); (case l18 => k_is); (case c18 => k_is); (case k18 => k_is); (case a19 => k_is); (case l19 => k_is); (case c19 => k_is); (case k19 => k_is); (case a20 => k_is); (case l20 => k_is); (case c20 => k_is); (case k20 => k_is); (case a21 => k_is); (case l21 => k_is); (case c21 => k_is); (case k21 => k_is); (case a22 => k_is); (case l22 => k_is); (case c22 => k_is); (case k22 => k_is); (case a23 => k_is); (case l23 => k_is); (case c23 => k_is); (case k23 => k_is); (case a24 => k_is); (case l24 => k_is); (case c24 => k_is); (case k24 => k_is); (case a25 => k_is); (case l25 => k_is); (case c25 => k_is); (case k25 => k_is); (case a26 => k_is); (case l26 => k_is); (case c26 => k_is); (case k26 => k_is); (case ga0_ => k_is); (case ga1_ => k_is); (case ga2_ => k_is); (case z_sum_ => k_is); (case z_len_ => k_is); (case z_range_ => k_is); (case z_tuple_ => k_is); (case z_abs_ => k_is); (case z_max_ => k_is); (case z_str_ => k_is); (case z_list_ => k_is); (case z_zip_ => k_is); (case z_all_ => k_is); (case z_enumerate_ => k_is); (case z_int_ => k_is); (case z_isinstance_ => k_is); (case z_bool_ => k_is)
